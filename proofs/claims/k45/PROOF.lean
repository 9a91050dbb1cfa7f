import PyProof.Rows.All
import Wide.All
import OpenK.AllK
import Wide.FinOn
import HandS.SortKw
import KE.KSortKeyAny
import PyProof.TupleOfSeq
import HandS.HeadNt
import HandS.ClsMeth
import HandS.DictEq
import HandS.Base
import HandS.Call
import HandS.List
import HandS.Comp
import HandS.Ends
import HandS.Dict
import HandS.More
import HandS.Conv
import HandS.Small
import HandS.Deep
import HandS.TupAny
import HandS.IsInst
import HandS.Iter
import HandS.WordsDict
import KE.KStateDown
import HandS.Exc
import HandS.ExcOwn
import HandS.Property
import HandS.Nested
import HandS.Words
import HandS.Defaults
import HandS.Head0
import HandS.Head1
import HandS.Head2
import HandS.HeadEnd
import HandS.Style
import HandS.HeadHook1
import HandS.HeadHook2
import HandS.HeadHook3
import PyProof.DictUpdate
import KE.KDictCopyH
import HandS.TupMul
import KE.KSuper
import KE.KSuperObj
import KE.KOpsOwn
import HandS.MakeKw
import HandS.MakeKwOnly
import KE.KMinBuiltin
import PyProof.WalkInts
import PyProof.WalksMore
import KE.KExcIs
import HandS.ExcIs
import HandS.ExcInit
import HandS.ExcField
import HandS.TryMany
import KE.KExcSuper
import HandS.GenList
import HandS.Star
import HandS.MethStar
import KE.KCallOwn
import HandS.TryOnly
import HandS.RaiseMore
import HandS.OwnEq
import PyProof.EqKinds
import PyProof.ReprRoads
import KE.GoesMore
import PySem.Challenge.RW_epochrooms_k45_verdicts_refused
section
open PySem PySem.W PySem.Calls PyProof.Rows
set_option maxHeartbeats 0
theorem Lw.pre_row (x : (OpenLaw.row PySem.Challenge.rw_epochrooms_k45_verdicts_refused).wellSaid = true → (OpenLaw.row PySem.Challenge.rw_epochrooms_k45_verdicts_refused).Holds) : PySem.Challenge.rw_epochrooms_k45_verdicts_refused.Holds := by
  w_on; o_law
  exact x (by assumption)
end
set_option Elab.async false
set_option linter.all false
set_option maxRecDepth 100000
set_option maxHeartbeats 4000000
section
namespace MB
open PySem
section
variable {prog : Program} {w : World} {K : Type} [DecidableEq K] {kk : KeyKind prog w K} {A : Around} {E : Value → Shared → Prop} {s : Shared}
theorem put_one {d : Addr} {old : List (K × Value)} {k : K} {key v : Value} {Q : Unit → Shared → Prop} (ik : kk.is k key = true) (D : s.heap.DictOf kk d old) (few : old.length ≤ sizeLine)
    (q : ∀ h', h'.DictOf kk d (stored old k v) → Heap.SameBut d s.heap h' → Q () { s with heap := h' }) : wpAny (model prog w) A (dictPut d (kk.hash k) key v) Q E s := by
  obtain ⟨ob, ents, ep, e1, e2, e3, e4, e5, e6⟩ := D
  have len : ents.size ≤ sizeLine := by
    have a1 := e5.length
    have a2 : ents.toList.length = ents.size := by simp
    omega
  unfold dictPut
  refine wpAny_bind (wpAny_dictFind_of ik e1 e3 e4 ?_)
  have same : (ents.findIdx? fun x => kk.is k x.key) = old.findIdx? fun y => decide (y.1 = k) := by
    have := e5.findIdx k
    obtain ⟨l⟩ := ents
    simpa using this
  cases z : ents.findIdx? fun x => kk.is k x.key with
  | none =>
    have out : k ∉ old.map (·.1) := not_mem_of_findIdx_none (same ▸ z)
    have no : ¬ (old.any fun y => decide (y.1 = k)) = true := fun t => by
      obtain ⟨y, hy, hk⟩ := List.any_eq_true.mp t
      exact out (List.mem_map.mpr ⟨y, hy, of_decide_eq_true hk⟩)
    refine wpAny_updateDictKeys (hz := len) e1 e3 (q _ ⟨_, _, ep + 1, Heap.get?_update_self _ e1 (Obj.isFreed_of_dict (Obj.data_mapDictKeys e3 _)), e2.mapDictKeys _, Obj.data_mapDictKeys e3 _, e4.push ik _, ?_, ?_⟩ (Heap.SameBut.update ..))
    · have t := e5.append ik (kk.hash k) v
      rw [stored, if_neg no]
      obtain ⟨l⟩ := ents
      simpa using t
    · rw [stored, if_neg no, List.map_append, List.nodup_append]
      refine ⟨e6, by simp, fun x hx y hy => ?_⟩
      have ey : y = k := by simpa using hy
      subst ey
      exact fun e => out (e ▸ hx)
  | some i =>
    have yes := any_of_findIdx_some (same ▸ z)
    refine wpAny_updateDict e1 e3 (q _ ⟨_, _, ep, Heap.get?_update_self _ e1 (Obj.isFreed_of_dict (Obj.data_mapDict e3 _)), e2.mapDict _, Obj.data_mapDict e3 _, e4.modify _ _, ?_, ?_⟩ (Heap.SameBut.update ..))
    · have l1 : (ents.toList.findIdx? fun x => kk.is k x.key) = some i := by
        rw [← z]
        obtain ⟨l⟩ := ents
        simp
      have t := e5.modify e6 l1 v
      rw [stored, if_pos yes]
      obtain ⟨l⟩ := ents
      simpa using t
    · rw [stored, if_pos yes, keys_map_store]
      exact e6
theorem find_no {d : Addr} {old : List (K × Value)} {k : K} {key : Value} {Q : Option Nat → Shared → Prop} (ik : kk.is k key = true) (D : s.heap.DictOf kk d old) (out : k ∉ old.map (·.1)) (q : Q none s) : wpAny (model prog w) A (dictFind d key (kk.hash k)) Q E s := by
  obtain ⟨ob, ents, ep, e1, e2, e3, e4, e5, e6⟩ := D
  refine wpAny_dictFind_of ik e1 e3 e4 ?_
  have same : (ents.findIdx? fun x => kk.is k x.key) = old.findIdx? fun y => decide (y.1 = k) := by
    have := e5.findIdx k
    obtain ⟨l⟩ := ents
    simpa using this
  rw [same]
  have : (old.findIdx? fun y => decide (y.1 = k)) = none := by
    rw [List.findIdx?_eq_none_iff]
    intro y hy
    exact decide_eq_false fun t => out (List.mem_map.mpr ⟨y, hy, t⟩)
  rw [this]
  exact q
theorem merge_two {d o : Addr} {old new : List (K × Value)} {unique : Bool} {Q : Unit → Shared → Prop} (ne : d ≠ o) (low : (o == sysModules) = false) (nr : ∀ k key, kk.is k key = true → ∀ a, key ≠ .ref a)
    (D : s.heap.DictOf kk d old) (O : s.heap.DictOf kk o new) (few : old.length + new.length ≤ sizeLine) (un : unique = true → ((old ++ new).map (·.1)).Nodup)
    (q : ∀ h', h'.DictOf kk d (merged old new) → Heap.SameBut d s.heap h' → Q () { s with heap := h' }) : wpAny (model prog w) A (mergeMapping d (.ref o) unique) Q E s := by
  obtain ⟨od, esd, epd, d1, d2, d3, d4, d5, d6⟩ := id D
  obtain ⟨oo, eso, epo, o1, o2, o3, o4, o5, o6⟩ := id O
  have ty : s.TypeIs (.ref o) "dict" := ⟨oo, o1, o2.1⟩
  have sz : new.length = eso.size := by rw [← o5.length]; simp
  unfold mergeMapping
  have sub : isSubtype (.type "dict") (.type "dict") = pure true := by rw [isSubtype_type]; kernel_rfl
  refine wpAny_bind (wpAny_isInstance ty sub ?_)
  rw [if_pos rfl]
  refine wpAny_bind (wpAny_specialOf ty F.slot_dict_iter.lookup (wpAny_bind (wpAny_pure ?_)))
  show wpAny _ _ (if (o == sysModules) = true then _ else _) _ _ _
  rw [if_neg (by rw [low]; exact Bool.false_ne_true)]
  refine wpAny_bind (wpAny_dictEntries d1 d3 ?_)
  -- the walk over the new pairs
  have walk : wpAny (model prog w) A (do
      let l0 ← dictEntries o
      let ep0 ← dictEpoch o
      forIn (List.range l0.size) PUnit.unit fun i (_ : PUnit) => (do
        let l1 ← dictEntries o
        match l1[i]? with
        | some x => do
          holding [x.key, x.val] (if unique = true then (do
              let r ← dictFind d x.key x.hash
              if r.isSome = true then (do
                rule "dict.merge.duplicate-key"
                let y ← newExc (.type "KeyError") [x.key]
                let _ ← (raiseNew y : Sem PUnit)
                dictPut d x.hash x.key x.val)
              else dictPut d x.hash x.key x.val)
            else dictPut d x.hash x.key x.val)
          let ep1 ← dictEpoch o
          if (ep1 != ep0) = true then (do
            (unsupported "dict.changed-during-merge" : Sem PUnit)
            pure (ForInStep.yield PUnit.unit))
          else pure (ForInStep.yield PUnit.unit)
        | _ => do
          (unsupported "dict.changed-during-merge" : Sem PUnit)
          pure (ForInStep.yield PUnit.unit) : Sem (ForInStep PUnit))
      pure ()) Q E s := by
    refine wpAny_bind (wpAny_dictEntries o1 o3 (wpAny_bind (wpAny_dictEpoch o1 o3 (wpAny_bind ?_))))
    rw [List.range_eq_range']
    refine wpAny_forIn_list _ (fun rest _ s' => ∃ h' i, s' = { s with heap := h' } ∧ rest = List.range' i (eso.size - i) ∧ i ≤ eso.size ∧ h'.DictOf kk d (merged old (new.take i)) ∧ h'.get? o = some oo ∧ Heap.SameBut d s.heap h') _ ?_ ?_ _ _
      ⟨s.heap, 0, rfl, by simp, Nat.zero_le _, by simpa [merged] using D, o1, Heap.SameBut.refl _ _⟩
    · rintro i0 rest _ _ ⟨h', i, rfl, er, le, D', o1', sb⟩
      have lt : i < eso.size := Nat.lt_of_not_le fun z => by
        rw [Nat.sub_eq_zero_of_le z] at er
        cases er
      have e0 : eso.size - i = (eso.size - (i + 1)) + 1 := by omega
      rw [e0, List.range'_succ] at er
      injection er with t1 t2
      subst t1
      refine wpAny_bind (wpAny_dictEntries o1' o3 ?_)
      rw [Array.getElem?_eq_getElem lt]
      have lt2 : i0 < new.length := by rw [sz]; exact lt
      obtain ⟨⟨k, v⟩, kv⟩ : ∃ y, new[i0]? = some y := ⟨_, List.getElem?_eq_getElem lt2⟩
      obtain ⟨ik, iv⟩ := o5.get? (e := eso[i0]) (by simp [lt]) kv
      obtain ⟨k', ik', ih⟩ := o4 eso[i0] (Array.getElem_mem lt)
      have ek : k' = k := kk.inj _ _ _ ik' ik
      subst ek
      have m1 : (merged old (new.take i0)).length ≤ sizeLine := by
        have a1 := merged_length_le old (new.take i0)
        have a2 : (new.take i0).length ≤ new.length := by rw [List.length_take]; omega
        omega
      dsimp only
      rw [ih, iv]
      have put : wpAny (model prog w) A (dictPut d (kk.hash k') eso[i0].key v) (fun _ s' => wpAny (model prog w) A (do
          let ep1 ← dictEpoch o
          if (ep1 != epo) = true then (do
            (unsupported "dict.changed-during-merge" : Sem PUnit)
            pure (ForInStep.yield PUnit.unit))
          else pure (ForInStep.yield PUnit.unit) : Sem (ForInStep PUnit)) (fun r s' => match r with
            | .yield _ => ∃ h' i, s' = { s with heap := h' } ∧ rest = List.range' i (eso.size - i) ∧ i ≤ eso.size ∧ h'.DictOf kk d (merged old (new.take i)) ∧ h'.get? o = some oo ∧ Heap.SameBut d s.heap h'
            | .done _ => False) E s') E { s with heap := h' } :=
        put_one ik' D' m1 fun h2 D2 sb2 => by
          have o2' : h2.get? o = some oo := (sb2.2 o ne.symm).trans o1'
          refine wpAny_bind (wpAny_dictEpoch o2' o3 ?_)
          rw [if_neg (by simp)]
          exact wpAny_pure ⟨h2, i0 + 1, rfl, t2, lt, by rw [merged_take_succ old new i0 (k', v) kv]; exact D2, o2', sb.trans sb2⟩
      cases unique with
      | false =>
        rw [if_neg Bool.false_ne_true]
        refine wpAny_bind (wpAny_holding (wpAny_mono put (fun _ _ z => wpAny_mono z (fun r s2 y => ?_) fun _ _ z => z) fun _ _ z => z))
        cases r with
        | yield _ => exact y
        | done _ => exact y.elim
      | true =>
        rw [if_pos rfl]
        refine wpAny_bind (wpAny_holding (wpAny_bind (find_no ik' D' ?_ ?_)))
        · have nd := un rfl
          rw [merged_append_of_fresh old (new.take i0) ?_]
          · have hsub : ((old ++ new.take i0).map (·.1)) ++ [k'] = (old ++ new.take (i0 + 1)).map (·.1) := by
              rw [List.take_add_one, kv]
              simp
            have nd2 : ((old ++ new.take (i0 + 1)).map (·.1)).Nodup := by
              refine List.Nodup.sublist ?_ nd
              exact ((List.Sublist.refl old).append (List.take_sublist ..)).map _
            rw [← hsub, List.nodup_append] at nd2
            exact fun z => nd2.2.2 _ z k' (by simp) rfl
          · refine List.Nodup.sublist ?_ nd
            exact ((List.Sublist.refl old).append (List.take_sublist ..)).map _
        · rw [if_neg (by simp)]
          refine wpAny_mono put (fun _ _ z => wpAny_mono z (fun r s2 y => ?_) fun _ _ z => z) fun _ _ z => z
          cases r with
          | yield _ => exact y
          | done _ => exact y.elim
    · rintro _ _ ⟨h', i, rfl, er, le, D', o1', sb⟩
      have e : i = eso.size := by
        rcases Nat.lt_or_ge i eso.size with z | z
        · have e0 : eso.size - i = (eso.size - (i + 1)) + 1 := by omega
          rw [e0, List.range'_succ] at er
          cases er
        · exact Nat.le_antisymm le z
      rw [e, ← sz, List.take_length] at D'
      exact wpAny_pure (q h' D' sb)
  have walk2 := walk
  cases hz : esd.isEmpty with
  | false =>
    rw [if_neg Bool.false_ne_true]
    exact walk2
  | true =>
    rw [if_pos rfl]
    refine wpAny_bind (wpAny_dictEntries o1 o3 (wpAny_bind ?_))
    obtain ⟨l⟩ := eso
    rw [List.forIn_toArray]
    refine wpAny_forIn_list _ (fun rest _ s' => s' = s ∧ ∀ x ∈ rest, x ∈ l) _ ?_ ?_ _ _ ⟨rfl, fun _ h => h⟩
    · rintro x rest b s' ⟨rfl, sub⟩
      have hx : x ∈ l := sub x (by simp)
      obtain ⟨k, ik, _⟩ := o4 x (by simpa using hx)
      have := nr k x.key ik
      cases hk : x.key with
      | ref a => exact absurd hk (this a)
      | _ => exact wpAny_pure ⟨rfl, fun y hy => sub y (List.mem_cons_of_mem _ hy)⟩
    · rintro b s' ⟨rfl, _⟩
      exact walk2
end
end MB
end
section
namespace ML
open PySem L2
abbrev S := List Nat
def toStr (s : S) : Str := ⟨s.toArray⟩
theorem toStr_inj {a b : S} (h : toStr a = toStr b) : a = b := by
  unfold toStr at h
  injection h with h
  have := congrArg Array.toList h
  simpa using this
inductive VI where
  | non | bl (b : Bool) | int (i : Int) | str (s : S) | glo (g : S) | ref (n : Nat) | tup (xs : List VI)
inductive OI where
  | lst (xs : List VI) | dic (kvs : List (VI × VI)) | ins (c : Nat) (fs : List (S × VI)) | xd (fs : List (S × VI)) | scr (xs : List VI)
abbrev Hi := List OI
inductive Res (α : Type) where
  | ok (a : α) (h : Hi) | ex (c n : Nat) (h : Hi) | err
structure Gx where
  K : PySem.W.Frag
  mg : Str → Option Value
  ct : Nat → Option Addr
mutual
inductive RV (G : Gx) (ρ : List Addr) (H : Hp) : VI → V → Prop
  | non : RV G ρ H .non .non
  | bl (b : Bool) : RV G ρ H (.bl b) (.bl b)
  | int (i : Int) : RV G ρ H (.int i) (.int i)
  | str {s : S} {x : Str} (e : x = toStr s) : RV G ρ H (.str s) (.str x)
  | glo {g : S} {a : Addr} (e : G.mg (toStr g) = some (.ref a)) : RV G ρ H (.glo g) (.ref a)
  | ref {n : Nat} {a : Addr} (e : ρ[n]? = some a) : RV G ρ H (.ref n) (.ref a)
  | tup {xs : List VI} {ys : List V} {a : Addr} (t : SqT G.K H a ys) (r : RVs G ρ H xs ys) : RV G ρ H (.tup xs) (.ref a)
inductive RVs (G : Gx) (ρ : List Addr) (H : Hp) : List VI → List V → Prop
  | nil : RVs G ρ H [] []
  | cons {v : VI} {x : V} {vs : List VI} {xs : List V} (h : RV G ρ H v x) (t : RVs G ρ H vs xs) : RVs G ρ H (v :: vs) (x :: xs)
end
structure Stp (G : Gx) (ρ : List Addr) (H : Hp) (ρ' : List Addr) (H' : Hp) : Prop where
  pre : ∀ (n : Nat) (a : Addr), ρ[n]? = some a → ρ'[n]? = some a
  tup : ∀ a xs, SqT G.K H a xs → SqT G.K H' a xs
theorem Stp.refl {G : Gx} {ρ : List Addr} {H : Hp} : Stp G ρ H ρ H := ⟨fun _ _ h => h, fun _ _ h => h⟩
theorem Stp.trans {G : Gx} {ρ ρ1 ρ2 : List Addr} {H H1 H2 : Hp} (a : Stp G ρ H ρ1 H1) (b : Stp G ρ1 H1 ρ2 H2) : Stp G ρ H ρ2 H2 :=
  ⟨fun n x h => b.pre n x (a.pre n x h), fun x xs h => b.tup x xs (a.tup x xs h)⟩
section
variable {G : Gx} {ρ ρ' : List Addr} {H H' : Hp}
mutual
theorem RV.mono (st : Stp G ρ H ρ' H') : ∀ {v : VI} {x : V}, RV G ρ H v x → RV G ρ' H' v x
  | _, _, .non => .non
  | _, _, .bl b => .bl b
  | _, _, .int i => .int i
  | _, _, .str e => .str e
  | _, _, .glo e => .glo e
  | _, _, .ref e => .ref (st.pre _ _ e)
  | _, _, .tup t r => .tup (st.tup _ _ t) (RVs.mono st r)
theorem RVs.mono (st : Stp G ρ H ρ' H') : ∀ {v : List VI} {x : List V}, RVs G ρ H v x → RVs G ρ' H' v x
  | _, _, .nil => .nil
  | _, _, .cons h t => .cons (RV.mono st h) (RVs.mono st t)
end
theorem RVs.length : ∀ {v : List VI} {x : List V}, RVs G ρ H v x → v.length = x.length
  | _, _, .nil => rfl
  | _, _, .cons _ t => by rw [List.length_cons, List.length_cons, t.length]
theorem RVs.get : ∀ {v : List VI} {x : List V} {i : Nat} {a : VI}, RVs G ρ H v x → v[i]? = some a → ∃ b, x[i]? = some b ∧ RV G ρ H a b
  | _, _, _, _, .nil, e => by simp at e
  | _, _, 0, _, .cons h _, e => by simp at e; subst e; exact ⟨_, rfl, h⟩
  | _, _, i + 1, _, .cons _ t, e => by
    obtain ⟨b, h1, h2⟩ := RVs.get (i := i) t (by simpa using e)
    exact ⟨b, by simpa using h1, h2⟩
theorem RVs.append : ∀ {v w : List VI} {x y : List V}, RVs G ρ H v x → RVs G ρ H w y → RVs G ρ H (v ++ w) (x ++ y)
  | _, _, _, _, .nil, h => h
  | _, _, _, _, .cons h t, k => .cons h (RVs.append t k)
theorem RVs.set : ∀ {v : List VI} {x : List V} {a : VI} {b : V} (i : Nat), RVs G ρ H v x → RV G ρ H a b → RVs G ρ H (v.set i a) (x.set i b)
  | _, _, _, _, _, .nil, _ => .nil
  | _, _, _, _, 0, .cons _ t, r => .cons r t
  | _, _, _, _, i + 1, .cons h t, r => .cons h (RVs.set i t r)
theorem RVs.take : ∀ {v : List VI} {x : List V} (n : Nat), RVs G ρ H v x → RVs G ρ H (v.take n) (x.take n)
  | _, _, 0, _ => .nil
  | _, _, _ + 1, .nil => .nil
  | _, _, n + 1, .cons h t => .cons h (RVs.take n t)
theorem RVs.drop : ∀ {v : List VI} {x : List V} (n : Nat), RVs G ρ H v x → RVs G ρ H (v.drop n) (x.drop n)
  | _, _, 0, r => r
  | _, _, _ + 1, .nil => .nil
  | _, _, n + 1, .cons _ t => RVs.drop n t
end
inductive RFs (G : Gx) (ρ : List Addr) (H : Hp) : List (S × VI) → List (Str × V) → Prop
  | nil : RFs G ρ H [] []
  | cons {f : S} {g : Str} {v : VI} {x : V} {fs : List (S × VI)} {gs : List (Str × V)} (e : g = toStr f) (h : RV G ρ H v x) (t : RFs G ρ H fs gs) : RFs G ρ H ((f, v) :: fs) ((g, x) :: gs)
def RK : VI → Key → Prop
  | .int i, k => k = .inl i
  | .str s, k => k = .inr (toStr s)
  | _, _ => False
inductive RKs (G : Gx) (ρ : List Addr) (H : Hp) : List (VI × VI) → List (Key × V) → Prop
  | nil : RKs G ρ H [] []
  | cons {a : VI} {k : Key} {v : VI} {x : V} {as : List (VI × VI)} {ks : List (Key × V)} (e : RK a k) (h : RV G ρ H v x) (t : RKs G ρ H as ks) : RKs G ρ H ((a, v) :: as) ((k, x) :: ks)
section
variable {G : Gx} {ρ ρ' : List Addr} {H H' : Hp}
theorem RFs.mono (st : Stp G ρ H ρ' H') : ∀ {v : List (S × VI)} {x : List (Str × V)}, RFs G ρ H v x → RFs G ρ' H' v x
  | _, _, .nil => .nil
  | _, _, .cons e h t => .cons e (h.mono st) (RFs.mono st t)
theorem RKs.mono (st : Stp G ρ H ρ' H') : ∀ {v : List (VI × VI)} {x : List (Key × V)}, RKs G ρ H v x → RKs G ρ' H' v x
  | _, _, .nil => .nil
  | _, _, .cons e h t => .cons e (h.mono st) (RKs.mono st t)
theorem RFs.length : ∀ {v : List (S × VI)} {x : List (Str × V)}, RFs G ρ H v x → v.length = x.length
  | _, _, .nil => rfl
  | _, _, .cons _ _ t => by rw [List.length_cons, List.length_cons, t.length]
theorem RKs.length : ∀ {v : List (VI × VI)} {x : List (Key × V)}, RKs G ρ H v x → v.length = x.length
  | _, _, .nil => rfl
  | _, _, .cons _ _ t => by rw [List.length_cons, List.length_cons, t.length]
end
def OR (G : Gx) (ρ : List Addr) (H : Hp) (a : Addr) : OI → Prop
  | .lst xs => ∃ ys, H a = some (.lst ys) ∧ RVs G ρ H xs ys
  | .dic kvs => ∃ ks, H a = some (.dK ks) ∧ RKs G ρ H kvs ks
  | .ins c fs => ∃ C dx gs, G.ct c = some C ∧ H a = some (.ins C dx gs) ∧ RFs G ρ H fs gs
  | .xd fs => ∃ gs, H a = some (.xd gs) ∧ RFs G ρ H fs gs
  | .scr xs => ∃ o ys, H a = some (.frz o (.lst ys)) ∧ RVs G ρ H xs ys
theorem OR.mono {G : Gx} {ρ ρ' : List Addr} {H H' : Hp} {a : Addr} (st : Stp G ρ H ρ' H') (e : H' a = H a) : ∀ {o : OI}, OR G ρ H a o → OR G ρ' H' a o
  | .lst _, ⟨ys, h, r⟩ => ⟨ys, e.trans h, r.mono st⟩
  | .dic _, ⟨ks, h, r⟩ => ⟨ks, e.trans h, r.mono st⟩
  | .ins _ _, ⟨C, dx, gs, c, h, r⟩ => ⟨C, dx, gs, c, e.trans h, r.mono st⟩
  | .xd _, ⟨gs, h, r⟩ => ⟨gs, e.trans h, r.mono st⟩
  | .scr _, ⟨o, ys, h, r⟩ => ⟨o, ys, e.trans h, r.mono st⟩
theorem OR.some {G : Gx} {ρ : List Addr} {H : Hp} {a : Addr} : ∀ {o : OI}, OR G ρ H a o → ∃ u, H a = some u ∧ (∀ xs, u ≠ .tup xs) ∧ ∀ ob xs, u ≠ .frz ob (.tup xs)
  | .lst _, ⟨ys, h, _⟩ => ⟨_, h, (fun _ z => by cases z), (fun _ _ z => by cases z)⟩
  | .dic _, ⟨ks, h, _⟩ => ⟨_, h, (fun _ z => by cases z), (fun _ _ z => by cases z)⟩
  | .ins _ _, ⟨C, dx, gs, _, h, _⟩ => ⟨_, h, (fun _ z => by cases z), (fun _ _ z => by cases z)⟩
  | .xd _, ⟨gs, h, _⟩ => ⟨_, h, (fun _ z => by cases z), (fun _ _ z => by cases z)⟩
  | .scr _, ⟨o, ys, h, _⟩ => ⟨_, h, (fun _ z => by cases z), (fun _ _ z => by cases z)⟩
structure Ag (G : Gx) (ρ : List Addr) (h : Hi) (H : Hp) : Prop where
  nd : ρ.Nodup
  len : ρ.length = h.length
  ob : ∀ (n : Nat) (o : OI), h[n]? = some o → ∃ a, ρ[n]? = some a ∧ OR G ρ H a o
structure AgS (G : Gx) (ρ : List Addr) (H : Hp) (σi : List (Option VI)) (σ : St) : Prop where
  len : σi.length = σ.length
  at_ : ∀ (i : Nat) (v : VI), σi[i]? = some (some v) → ∃ x, σ[i]? = some (some x) ∧ RV G ρ H v x
section
variable {G : Gx} {ρ ρ' : List Addr} {H H' : Hp} {h : Hi} {σi : List (Option VI)} {σ : St}
theorem AgS.mono (st : Stp G ρ H ρ' H') (a : AgS G ρ H σi σ) : AgS G ρ' H' σi σ := ⟨a.len, fun i v e => let ⟨x, h1, h2⟩ := a.at_ i v e; ⟨x, h1, h2.mono st⟩⟩
theorem AgS.set (a : AgS G ρ H σi σ) {v : VI} {x : V} (r : RV G ρ H v x) (i : Nat) : AgS G ρ H (σi.set i (some v)) (σ.set i (some x)) := by
  refine ⟨by simp [a.len], fun j w e => ?_⟩
  rw [List.getElem?_set] at e ⊢
  by_cases hj : i = j
  · subst hj
    rw [if_pos rfl] at e ⊢
    by_cases hl : i < σi.length
    · rw [if_pos hl] at e
      rw [if_pos (by rw [← a.len]; exact hl)]
      cases e
      exact ⟨x, rfl, r⟩
    · rw [if_neg hl] at e
      cases e
  · rw [if_neg hj] at e ⊢
    exact a.at_ j w e
theorem AgS.lose (a : AgS G ρ H σi σ) (i : Nat) (y : Option V) : AgS G ρ H (σi.set i none) (σ.set i y) := by
  refine ⟨by simp [a.len], fun j w e => ?_⟩
  rw [List.getElem?_set] at e ⊢
  by_cases hj : i = j
  · subst hj
    rw [if_pos rfl] at e
    by_cases hl : i < σi.length
    · rw [if_pos hl] at e; cases e
    · rw [if_neg hl] at e; cases e
  · rw [if_neg hj] at e ⊢
    exact a.at_ j w e
theorem sqt_ne {K : PySem.W.Frag} {H : Hp} {p : Addr} {o : HO} (hp : H p = none ∨ ∃ u, H p = some u ∧ (∀ xs, u ≠ .tup xs) ∧ ∀ ob xs, u ≠ .frz ob (.tup xs)) : ∀ a xs, SqT K H a xs → SqT K (upd H p o) a xs := by
  intro a xs q
  have hne : ∀ u, H a = some u → ((∃ xs, u = .tup xs) ∨ ∃ ob xs, u = .frz ob (.tup xs)) → a ≠ p := by
    intro u hu k z
    subst z
    rcases hp with hp | ⟨u', hp, n1, n2⟩
    · rw [hu] at hp; cases hp
    · rw [hu] at hp; cases hp
      rcases k with ⟨xs, rfl⟩ | ⟨ob, xs, rfl⟩
      · exact n1 _ rfl
      · exact n2 _ _ rfl
  rcases q with (q | ⟨ob, q⟩) | q
  · exact .inl (.inl (by rw [upd_ne (hne _ q (.inl ⟨_, rfl⟩))]; exact q))
  · exact .inl (.inr ⟨ob, by rw [upd_ne (hne _ q (.inr ⟨_, _, rfl⟩))]; exact q⟩)
  · exact .inr q
theorem Ag.at_ (ag : Ag G ρ h H) {n : Nat} {a : Addr} {o : OI} (e : h[n]? = some o) (p : ρ[n]? = some a) : OR G ρ H a o := by
  obtain ⟨b, hb, r⟩ := ag.ob n o e
  rw [p] at hb
  cases hb
  exact r
theorem Ag.fresh (a : Ag G ρ h H) {p : Addr} (hp : H p = none) : p ∉ ρ := by
  intro hm
  obtain ⟨n, hn, e⟩ := List.mem_iff_getElem.mp hm
  have hl : n < h.length := by rw [← a.len]; exact hn
  obtain ⟨b, hb, r⟩ := a.ob n h[n] (by simp [hl])
  obtain ⟨u, hu, _⟩ := r.some
  have : b = p := by
    have : ρ[n]? = some ρ[n] := by simp [hn]
    rw [this] at hb
    cases hb
    exact e
  subst this
  rw [hp] at hu
  cases hu
theorem Stp.new {p : Addr} {o : HO} (hp : H p = none) : Stp G ρ H (ρ ++ [p]) (upd H p o) :=
  ⟨fun n a e => by rw [List.getElem?_append_left (List.getElem?_eq_some_iff.mp e).1]; exact e, sqt_ne (.inl hp)⟩
theorem Stp.more {p : Addr} {o : HO} (hp : H p = none) : Stp G ρ H ρ (upd H p o) := ⟨fun _ _ e => e, sqt_ne (.inl hp)⟩
theorem Ag.more (a : Ag G ρ h H) {p : Addr} {o : HO} (hp : H p = none) : Ag G ρ h (upd H p o) :=
  ⟨a.nd, a.len, fun n u e => by
    obtain ⟨b, hb, r⟩ := a.ob n u e
    obtain ⟨_, hu, _⟩ := r.some
    exact ⟨b, hb, r.mono (Stp.more hp) (upd_ne (ne_of_none hu hp))⟩⟩
theorem Ag.new (a : Ag G ρ h H) {p : Addr} {o : HO} {u : OI} (hp : H p = none) (r : OR G (ρ ++ [p]) (upd H p o) p u) : Ag G (ρ ++ [p]) (h ++ [u]) (upd H p o) := by
  refine ⟨?_, by simp [a.len], fun n v e => ?_⟩
  · rw [List.nodup_append]
    refine ⟨a.nd, by simp, fun x hx y hy => ?_⟩
    rw [List.mem_singleton] at hy
    subst hy
    intro z
    subst z
    exact a.fresh hp hx
  · by_cases hn : n < h.length
    · rw [List.getElem?_append_left hn] at e
      obtain ⟨b, hb, q⟩ := a.ob n v e
      obtain ⟨_, hu, _⟩ := q.some
      exact ⟨b, (Stp.new (G := G) (o := o) hp).pre n b hb, q.mono (Stp.new hp) (upd_ne (ne_of_none hu hp))⟩
    · have hle : h.length ≤ n := Nat.le_of_not_lt hn
      rw [List.getElem?_append_right hle] at e
      have hz : n - h.length = 0 := by
        have := (List.getElem?_eq_some_iff.mp e).1
        simp at this
        omega
      rw [hz] at e
      simp at e
      subst e
      have : n = ρ.length := by rw [a.len]; omega
      exact ⟨p, by rw [this]; simp, r⟩
theorem Stp.wr {p : Addr} {o : HO} {n : Nat} {u : OI} (a : Ag G ρ h H) (hn : h[n]? = some u) (hp : ρ[n]? = some p) : Stp G ρ H ρ (upd H p o) :=
  ⟨fun _ _ e => e, by
    obtain ⟨b, hb, r⟩ := a.ob n u hn
    rw [hp] at hb
    cases hb
    exact sqt_ne (.inr r.some)⟩
theorem Ag.wr (a : Ag G ρ h H) {p : Addr} {o : HO} {n : Nat} {u u' : OI} (hn : h[n]? = some u) (hp : ρ[n]? = some p) (r : OR G ρ (upd H p o) p u') : Ag G ρ (h.set n u') (upd H p o) := by
  refine ⟨a.nd, by simp [a.len], fun m v e => ?_⟩
  rw [List.getElem?_set] at e
  by_cases hm : n = m
  · subst hm
    rw [if_pos rfl, if_pos (List.getElem?_eq_some_iff.mp hn).1] at e
    cases e
    exact ⟨p, hp, r⟩
  · rw [if_neg hm] at e
    obtain ⟨b, hb, q⟩ := a.ob m v e
    have hne : b ≠ p := by
      intro z
      subst z
      obtain ⟨h1, e1⟩ := List.getElem?_eq_some_iff.mp hp
      obtain ⟨h2, e2⟩ := List.getElem?_eq_some_iff.mp hb
      have pw := List.pairwise_iff_getElem.mp a.nd
      rcases Nat.lt_trichotomy n m with l | l | l
      · exact pw n m h1 h2 l (e1.trans e2.symm)
      · exact hm l
      · exact pw m n h2 h1 l (e2.trans e1.symm)
    exact ⟨b, hb, q.mono (Stp.wr a hn hp) (upd_ne hne)⟩
end
end ML
end
section
namespace ML
open PySem L2
abbrev Sg := List (Option VI)
abbrev ME := Sg → Hi → Res VI
abbrev MT := Sg → Hi → Res Bool
abbrev MA := Sg → Hi → Res (List VI)
def Res.bind {α β : Type} (r : Res α) (f : α → Hi → Res β) : Res β := match r with
  | .ok a h => f a h
  | .ex c n h => .ex c n h
  | .err => .err
def FinG {α β : Type} (G : Gx) (ρ : List Addr) (H : Hp) (R : List Addr → Hp → α → β → Prop) (Q : β → Hp → Prop) (W : Value → Option Addr → Hp → Prop) : Res α → Prop
  | .ok v h' => ∀ ρ' H' x, Stp G ρ H ρ' H' → Ag G ρ' h' H' → R ρ' H' v x → Q x H'
  | .ex c n h' => ∀ ρ' H' d C, Stp G ρ H ρ' H' → Ag G ρ' h' H' → ρ'[n]? = some d → G.ct c = some C → W (.ref C) (some d) H'
  | .err => False
def rdG {α β : Type} (G : Gx) (R : List Addr → Hp → α → β → Prop) (W : WX) (m : Sg → Hi → Res α) : St → Hp → (β → Hp → Prop) → Prop := fun σ H Q =>
  ∃ ρ σi h, AgS G ρ H σi σ ∧ Ag G ρ h H ∧ FinG G ρ H R Q (fun c d H' => W c d σ H') (m σi h)
abbrev rdE (G : Gx) (W : WX) (m : ME) : TE := rdG G (RV G) W m
abbrev rdT (G : Gx) (W : WX) (m : MT) : TT := rdG G (fun _ _ (b c : Bool) => b = c) W m
abbrev rdA (G : Gx) (W : WX) (m : MA) : TA := rdG G (RVs G) W m
section
variable {G : Gx} {ρ ρ1 : List Addr} {H H1 : Hp} {α β γ δ : Type} {W : WX} {σ : St}
theorem FinG.later {R : List Addr → Hp → α → β → Prop} {Q : β → Hp → Prop} {W : Value → Option Addr → Hp → Prop} (st : Stp G ρ H ρ1 H1) : ∀ {r : Res α}, FinG G ρ H R Q W r → FinG G ρ1 H1 R Q W r
  | .ok _ _, f => fun ρ' H' x s a r => f ρ' H' x (st.trans s) a r
  | .ex _ _ _, f => fun ρ' H' d C s a e c => f ρ' H' d C (st.trans s) a e c
  | .err, f => f
theorem rdG_go {R : List Addr → Hp → α → β → Prop} {R' : List Addr → Hp → γ → δ → Prop} {m : Sg → Hi → Res α} {k : α → Hi → Res γ} {Q : δ → Hp → Prop} {N : β → Hp → Prop} {σi : Sg} {h : Hi}
    (as : AgS G ρ H σi σ) (a : Ag G ρ h H) (f : FinG G ρ H R' Q (fun c d H' => W c d σ H') ((m σi h).bind k))
    (nx : ∀ ρ1 H1 h1 x y, Stp G ρ H ρ1 H1 → AgS G ρ1 H1 σi σ → Ag G ρ1 h1 H1 → R ρ1 H1 x y → FinG G ρ1 H1 R' Q (fun c d H' => W c d σ H') (k x h1) → N y H1) : rdG G R W m σ H N := by
  refine ⟨ρ, σi, h, as, a, ?_⟩
  cases e : m σi h with
  | err => rw [e] at f; exact f
  | ex c n h' => rw [e] at f; exact f
  | ok v h' =>
    rw [e] at f
    exact fun ρ' H' x st a' r => nx ρ' H' h' v x st (as.mono st) a' r (FinG.later st f)
theorem FinG.ok {R : List Addr → Hp → α → β → Prop} {Q : β → Hp → Prop} {W : Value → Option Addr → Hp → Prop} {v : α} {h : Hi} {x : β} (f : FinG G ρ H R Q W (.ok v h)) (a : Ag G ρ h H) (r : R ρ H v x) : Q x H := f ρ H x .refl a r
end
section
variable {X : Cx} {e a b : Expr} {pos : Pos}
theorem PE.imp' {t t' : TE} (h : PE X e t) (i : ∀ σ H Q, t' σ H Q → t σ H Q) : PE X e t' := ⟨fun pins s σ H Q I q => h.run pins s σ H Q I (i σ H Q q)⟩
theorem PT.imp' {t t' : TT} (h : PT X e t) (i : ∀ σ H Q, t' σ H Q → t σ H Q) : PT X e t' := ⟨fun pins s σ H Q I q => h.run pins s σ H Q I (i σ H Q q)⟩
theorem PW.imp' {t t' : TT} (h : PW X e t) (i : ∀ σ H Q, t' σ H Q → t σ H Q) : PW X e t' := ⟨fun wh pins s σ H Q I q => h.run wh pins s σ H Q I (i σ H Q q)⟩
theorem PA.imp' {es : List Expr} {t t' : TA} (h : PA X es t) (i : ∀ σ H Q, t' σ H Q → t σ H Q) : PA X es t' := ⟨fun p pins s σ H Q I q => h.run p pins s σ H Q I (i σ H Q q)⟩
theorem PS.imp' {st : Stmt} {t t' : TS} (h : PS X st t) (i : ∀ D σ H, t' D σ H → t D σ H) : PS X st t' := ⟨fun pins s σ H D I q => h.run pins s σ H D I (i D σ H q)⟩
theorem PSs.imp' {st : List Stmt} {t t' : TS} (h : PSs X st t) (i : ∀ D σ H, t' D σ H → t D σ H) : PSs X st t' := ⟨fun pins s σ H D I q => h.run pins s σ H D I (i D σ H q)⟩
end
def eV (i : Nat) : ME := fun σ h => match σ[i]? with
  | some (some v) => .ok v h
  | _ => .err
def eC (v : VI) : ME := fun _ h => .ok v h
def aNil : MA := fun _ h => .ok [] h
def aCons (a : ME) (r : MA) : MA := fun σ h => (a σ h).bind fun x h1 => (r σ h1).bind fun xs h2 => .ok (x :: xs) h2
def small (n : Nat) : Bool := Nat.ble n 100000
theorem small_ok {n : Nat} (h : small n = true) : n ≤ sizeLine := Nat.le_trans (Nat.le_of_ble_eq_true h) (by decide)
def eTup (a : MA) : ME := fun σ h => (a σ h).bind fun xs h1 => match small xs.length with
  | true => .ok (.tup xs) h1
  | false => .err
def eLst (a : MA) : ME := fun σ h => (a σ h).bind fun xs h1 => match small xs.length with
  | true => .ok (.ref h1.length) (h1 ++ [.lst xs])
  | false => .err
section
variable {G : Gx} {W : WX} {X : Cx} {e a b : Expr} {es : List Expr} {pos : Pos} {me ma mb : ME} {mr : MA}
theorem me_var {i : Nat} {x : Str} (hN : X.N[i]? = some x) (hv : Vis X.env.scope x) (hd : (x == ("__debug__" : Str)) = false := by decide) (hcd : (x == ("__classdict__" : Str)) = false := by decide) : PE X (.Name x pos) (rdE G W (eV i)) :=
  PE.imp' (pe_var hN hv hd hcd) fun σ H Q ⟨ρ, σi, h, as, ag, f⟩ => by
    unfold eV at f
    cases e : σi[i]? with
    | none => rw [e] at f; exact f.elim
    | some o =>
      rw [e] at f
      cases o with
      | none => exact f.elim
      | some v =>
        obtain ⟨x, h1, r⟩ := as.at_ i v e
        exact ⟨x, h1, f.ok ag r⟩
theorem me_c {v : VI} {x : V} (he : PE X e (tC x)) (r : ∀ ρ H, RV G ρ H v x) : PE X e (rdE G W (eC v)) :=
  PE.imp' he fun σ H Q ⟨ρ, σi, h, as, ag, f⟩ => f.ok ag (r ρ H)
theorem me_int {i : Int} {j} : PE X (.Constant (.int i) j pos) (rdE G W (eC (.int i))) := me_c pe_int fun _ _ => .int i
theorem me_bl {i : Bool} {j} : PE X (.Constant (.bool i) j pos) (rdE G W (eC (.bl i))) := me_c pe_bl fun _ _ => .bl i
theorem me_non {j} : PE X (.Constant .none j pos) (rdE G W (eC .non)) := me_c pe_non fun _ _ => .non
theorem me_str {s : S} {x : Str} {j} (h : x = toStr s) : PE X (.Constant (.str x) j pos) (rdE G W (eC (.str s))) := me_c pe_str fun _ _ => .str h
theorem ma_nil : PA X [] (rdA G W aNil) := PA.imp' pa_nil fun σ H Q ⟨ρ, σi, h, as, ag, f⟩ => f.ok ag .nil
theorem ma_cons (ha : PE X e (rdE G W me)) (hr : PA X es (rdA G W mr)) (hs : starEach (e :: es) X.env = (false, eval e X.env) :: starEach es X.env := by rfl) : PA X (e :: es) (rdA G W (aCons me mr)) :=
  PA.imp' (pa_cons ha hr hs) fun σ H Q ⟨ρ, σi, h, as, ag, f⟩ => rdG_go as ag f fun ρ1 H1 h1 x y st as ag r f => rdG_go as ag f fun ρ2 H2 h2 xs ys st2 as ag rs f => f.ok ag (.cons (r.mono st2) rs)
theorem me_tup {x1} (h : PA X es (rdA G W mr)) : PE X (.Tuple es x1 pos) (rdE G W (eTup mr)) :=
  PE.imp' (pe_tup h) fun σ H Q ⟨ρ, σi, h, as, ag, f⟩ => rdG_go as ag f fun ρ1 H1 h1 xs ys st as ag rs f => by
    cases e : small xs.length with
    | false => rw [e] at f; exact f.elim
    | true =>
      rw [e] at f
      refine ⟨by rw [← rs.length]; exact small_ok e, fun p hp => ?_⟩
      exact f ρ1 _ _ (Stp.more hp) (ag.more hp) (.tup (.inl (.inl upd_same)) (rs.mono (Stp.more hp)))
theorem me_lst (h : PA X es (rdA G W mr)) : PE X (.List es pos) (rdE G W (eLst mr)) :=
  PE.imp' (pe_lst h) fun σ H Q ⟨ρ, σi, h, as, ag, f⟩ => rdG_go as ag f fun ρ1 H1 h1 xs ys st as ag rs f => by
    cases e : small xs.length with
    | false => rw [e] at f; exact f.elim
    | true =>
      rw [e] at f
      refine ⟨by rw [← rs.length]; exact small_ok e, fun p hp => ?_⟩
      exact f (ρ1 ++ [p]) _ _ (Stp.new hp) (ag.new hp ⟨ys, upd_same, rs.mono (Stp.new hp)⟩) (.ref (by rw [← ag.len]; simp))
end
end ML
end
section
namespace ML
open PySem L2
def datL (f : VI → Option PyData) : List VI → Option (List PyData)
  | [] => some []
  | x :: xs => match f x with
    | some d => match datL f xs with
      | some ds => some (d :: ds)
      | none => none
    | none => none
def dat : Nat → Hi → VI → Option PyData
  | 0, _, _ => none
  | n + 1, h, v => match v with
    | .non => some .none
    | .bl b => some (.bool b)
    | .int i => some (.int i)
    | .str s => some (.str (toStr s))
    | .glo _ => none
    | .tup xs => (datL (dat n h) xs).map .tuple
    | .ref a => match h[a]? with
      | some (.lst xs) => (datL (dat n h) xs).map .list
      | some (.scr xs) => (datL (dat n h) xs).map .list
      | _ => none
section
variable {G : Gx} {ρ : List Addr} {h : Hi} {H : Hp}
theorem datL_ok {f : VI → Option PyData} (ih : ∀ v x d, RV G ρ H v x → f v = some d → Dp G.K H x d) : ∀ {vs xs ds}, RVs G ρ H vs xs → datL f vs = some ds → DpAll G.K H xs ds
  | _, _, _, .nil, e => by cases e; exact .nil
  | _, _, _, .cons (v := v) (vs := vs) r t, e => by
    unfold datL at e
    cases e1 : f v with
    | none => rw [e1] at e; cases e
    | some d =>
      rw [e1] at e
      cases e2 : datL f vs with
      | none => rw [e2] at e; cases e
      | some ds =>
        rw [e2] at e
        cases e
        exact .cons (ih _ _ _ r e1) (datL_ok ih t e2)
theorem dat_ok (ag : Ag G ρ h H) : ∀ (n : Nat) (v : VI) (x : V) (d : PyData), RV G ρ H v x → dat n h v = some d → Dp G.K H x d
  | 0, _, _, _, _, e => by cases e
  | n + 1, v, x, d, r, e => by
    cases r with
    | non => cases e; exact .non
    | bl b => cases e; exact .bl b
    | int i => cases e; exact .int i
    | str q => cases e; subst q; exact .str _
    | glo q => cases e
    | @tup xs ys a t rs =>
      have e' : (datL (dat n h) xs).map PyData.tuple = some d := e
      cases e1 : datL (dat n h) xs with
      | none => rw [e1] at e'; cases e'
      | some ds =>
        rw [e1] at e'
        cases e'
        exact .tup t (datL_ok (fun v x d => dat_ok ag n v x d) rs e1)
    | @ref k a q =>
      cases e0 : h[k]? with
      | none => unfold dat at e; dsimp only at e; rw [e0] at e; cases e
      | some o =>
        obtain ⟨b, hb, ob⟩ := ag.ob k o e0
        rw [q] at hb
        cases hb
        unfold dat at e
        dsimp only at e
        rw [e0] at e
        cases o with
        | lst xs =>
          obtain ⟨ys, hy, rs⟩ := ob
          have e' : (datL (dat n h) xs).map PyData.list = some d := e
          cases e1 : datL (dat n h) xs with
          | none => rw [e1] at e'; cases e'
          | some ds =>
            rw [e1] at e'
            cases e'
            exact .lst (.inl (.inl hy)) (datL_ok (fun v x d => dat_ok ag n v x d) rs e1)
        | scr xs =>
          obtain ⟨ob, ys, hy, rs⟩ := ob
          have e' : (datL (dat n h) xs).map PyData.list = some d := e
          cases e1 : datL (dat n h) xs with
          | none => rw [e1] at e'; cases e'
          | some ds =>
            rw [e1] at e'
            cases e'
            exact .lst (.inl (.inr ⟨_, hy⟩)) (datL_ok (fun v x d => dat_ok ag n v x d) rs e1)
        | dic kvs => cases e
        | ins c fs => cases e
        | xd fs => cases e
end
abbrev Op2 := VI → VI → Hi → Option (VI × Hi)
def ofO {α : Type} : Option (α × Hi) → Res α
  | some (a, h) => .ok a h
  | none => .err
def eBin (f : Op2) (a b : ME) : ME := fun σ h => (a σ h).bind fun x h1 => (b σ h1).bind fun y h2 => ofO (f x y h2)
def FinO {α β : Type} (G : Gx) (ρ : List Addr) (H : Hp) (R : List Addr → Hp → α → β → Prop) (Q : β → Hp → Prop) : Option (α × Hi) → Prop
  | some (v, h') => ∀ ρ' H' x, Stp G ρ H ρ' H' → Ag G ρ' h' H' → R ρ' H' v x → Q x H'
  | none => False
def rd2 (G : Gx) (f : Op2) : R2 := fun x y H Q => ∃ ρ h xi yi, Ag G ρ h H ∧ RV G ρ H xi x ∧ RV G ρ H yi y ∧ FinO G ρ H (RV G) Q (f xi yi h)
section
variable {G : Gx} {ρ : List Addr} {h : Hi} {H : Hp} {W : WX} {X : Cx} {e a b c : Expr} {pos : Pos} {ma mb mc : ME} {f : Op2}
theorem FinO.of {α β : Type} {R : List Addr → Hp → α → β → Prop} {Q : β → Hp → Prop} {W : Value → Option Addr → Hp → Prop} {r : Option (α × Hi)} (f : FinG G ρ H R Q W (ofO r)) : FinO G ρ H R Q r := by
  cases r with
  | none => exact f
  | some p => exact f
theorem FinO.ok {α β : Type} {R : List Addr → Hp → α → β → Prop} {Q : β → Hp → Prop} {v : α} {x : β} (f : FinO G ρ H R Q (some (v, h))) (a : Ag G ρ h H) (r : R ρ H v x) : Q x H := f ρ H x .refl a r
theorem me_bin {op : Operator} (ho : OpR X (binaryOp op) (rd2 G f)) (ha : PE X a (rdE G W ma)) (hb : PE X b (rdE G W mb)) : PE X (.BinOp a op b pos) (rdE G W (eBin f ma mb)) :=
  PE.imp' (pe_op ho ha hb) fun σ H Q ⟨ρ, σi, h, as, ag, f⟩ => rdG_go as ag f fun ρ1 H1 h1 x x' st as ag r f => rdG_go as ag f fun ρ2 H2 h2 y y' st2 as ag rs f => ⟨ρ2, h2, x, y, ag, r.mono st2, rs, FinO.of f⟩
theorem me_cmp {op : CmpOp} (ho : OpR X (compareOp op) (rd2 G f)) (ha : PE X a (rdE G W ma)) (hb : PE X b (rdE G W mb)) (hm : behindInMarks op b = false) : PE X (.Compare a [op] [b] pos) (rdE G W (eBin f ma mb)) :=
  PE.imp' (pe_cmpR ho ha hb hm) fun σ H Q ⟨ρ, σi, h, as, ag, f⟩ => rdG_go as ag f fun ρ1 H1 h1 x x' st as ag r f => rdG_go as ag f fun ρ2 H2 h2 y y' st2 as ag rs f => ⟨ρ2, h2, x, y, ag, r.mono st2, rs, FinO.of f⟩
theorem OpR.imp' {g : Value → Value → Sem Value} {r r' : R2} (h : OpR X g r) (i : ∀ x y H Q, r' x y H Q → r x y H Q) : OpR X g r' := fun pins s σ H x y v u Q I r1 r2 q => h pins s σ H x y v u Q I r1 r2 (i x y H Q q)
theorem opR_at {g : Value → Value → Sem Value} (h : ∀ ρ h H xi yi x y Q, Ag G ρ h H → RV G ρ H xi x → RV G ρ H yi y → FinO G ρ H (RV G) Q (f xi yi h) → ∃ r : R2, OpR X g r ∧ r x y H Q) : OpR X g (rd2 G f) :=
  fun pins s σ H x y v u Q I r1 r2 ⟨ρ, hi, xi, yi, ag, a1, a2, q⟩ => by
    obtain ⟨r, ho, hr⟩ := h ρ hi H xi yi x y Q ag a1 a2 q
    exact ho pins s σ H x y v u Q I r1 r2 hr
end
def fAdd : Op2 := fun x y h => match x, y with
  | .int i, .int j => some (.int (i + j), h)
  | .str s, .str t => match small (s.length + t.length) with
    | true => some (.str (s ++ t), h)
    | false => none
  | .tup xs, .tup ys => match small (xs.length + ys.length) with
    | true => some (.tup (xs ++ ys), h)
    | false => none
  | .ref a, .ref b => match h[a]?, h[b]? with
    | some (.lst xs), some (.lst ys) => match small (xs.length + ys.length) with
      | true => some (.ref h.length, h ++ [.lst (xs ++ ys)])
      | false => none
    | _, _ => none
  | _, _ => none
def fSub : Op2 := fun x y h => match x, y with
  | .int i, .int j => some (.int (i - j), h)
  | _, _ => none
def bnd (i : Int) : Bool := decide (-(2 ^ 64) < i) && decide (i < 2 ^ 64)
def repL (xs : List VI) : Nat → List VI
  | 0 => []
  | n + 1 => xs ++ repL xs n
def fMul : Op2 := fun x y h => match x, y with
  | .int i, .int j => match bnd i || bnd j with
    | true => some (.int (i * j), h)
    | false => none
  | .ref a, .int k => match h[a]? with
    | some (.lst xs) => match (decide (0 ≤ k) && decide (k ≤ 1000)) && small (xs.length * k.toNat) with
      | true => some (.ref h.length, h ++ [.lst (repL xs k.toNat)])
      | false => none
    | _ => none
  | .tup xs, .int k => match (decide (2 ≤ k) && decide (k ≤ 1000)) && (Nat.ble xs.length 1000 && !xs.isEmpty) with
    | true => some (.tup (repL xs k.toNat), h)
    | false => none
  | _, _ => none
def fMod : Op2 := fun x y h => match x, y with
  | .int i, .int j => match decide (0 < j) with
    | true => some (.int (i % j), h)
    | false => none
  | _, _ => none
def fFdiv : Op2 := fun x y h => match x, y with
  | .int i, .int j => match decide (0 < j) && decide (j < 1073741824) with
    | true => some (.int (i / j), h)
    | false => none
  | _, _ => none
def fPow : Op2 := fun x y h => match x, y with
  | .int i, .int j => match decide (0 ≤ j) && (decide (j ≤ 1000) && decide (i.natAbs < 2 ^ 64)) with
    | true => some (.int (i ^ j.toNat), h)
    | false => none
  | _, _ => none
theorem toStr_append (s t : S) : toStr s ++ toStr t = toStr (s ++ t) := by
  show PySem.Str.append (toStr s) (toStr t) = _
  unfold PySem.Str.append toStr
  simp
theorem toStr_length (s : S) : (toStr s).length = s.length := by
  show (toStr s).cps.size = _
  unfold toStr
  simp
section
variable {G : Gx} {ρ : List Addr} {H : Hp}
variable {X : Cx}
theorem RVs.nil_iff {xs : List VI} {ys : List V} (r : RVs G ρ H xs ys) : xs = [] ↔ ys = [] := by
  cases r with
  | nil => exact ⟨fun _ => rfl, fun _ => rfl⟩
  | cons _ _ => exact ⟨fun z => (by cases z), fun z => (by cases z)⟩
theorem FinO.new {h : Hi} {Q : VK} {p : Addr} {o : HO} {u : OI} (f : FinO G ρ H (RV G) Q (some (.ref h.length, h ++ [u]))) (ag : Ag G ρ h H) (hp : H p = none) (r : OR G (ρ ++ [p]) (upd H p o) p u) : Q (.ref p) (upd H p o) :=
  f (ρ ++ [p]) _ _ (Stp.new hp) (ag.new hp r) (.ref (by rw [← ag.len]; simp))
theorem mo_add (hG : G.K = X.K) : OpR X (binaryOp .Add) (rd2 G fAdd) := opR_at fun ρ h H xi yi x y Q ag r1 r2 f => by
  unfold fAdd at f
  cases r1 with
  | int i =>
    cases r2 with
    | int j => exact ⟨_, op_add, i, j, rfl, rfl, f.ok ag (.int _)⟩
    | _ => exact f.elim
  | @str s _ e =>
    cases r2 with
    | @str t _ e' =>
      subst e e'
      dsimp only at f
      cases q : small (s.length + t.length) with
      | false => rw [q] at f; exact f.elim
      | true =>
        rw [q] at f
        exact ⟨_, op_add_str, _, _, rfl, rfl, by rw [toStr_length, toStr_length]; exact small_ok q, f.ok ag (.str (toStr_append s t))⟩
    | _ => exact f.elim
  | @tup xs ys a t1 s1 =>
    cases r2 with
    | @tup xs2 ys2 b t2 s2 =>
      dsimp only at f
      cases q : small (xs.length + xs2.length) with
      | false => rw [q] at f; exact f.elim
      | true =>
        rw [q] at f
        refine ⟨_, op_catA, a, b, ys, ys2, rfl, rfl, hG ▸ t1, hG ▸ t2, by rw [← s1.length, ← s2.length]; exact small_ok q, fun z => ?_, fun z1 z2 => ?_, fun z1 z2 p hp => ?_⟩
        · have e := s1.nil_iff.mpr z
          subst e
          exact f.ok ag (.tup t2 s2)
        · have e := s2.nil_iff.mpr z2
          subst e
          rw [List.append_nil] at f
          exact f.ok ag (.tup t1 s1)
        · exact f ρ _ _ (Stp.more hp) (ag.more hp) (.tup (.inl (.inl upd_same)) ((s1.append s2).mono (Stp.more hp)))
    | _ => exact f.elim
  | @ref n a e =>
    cases r2 with
    | @ref m b e' =>
      dsimp only at f
      cases q : h[n]? with
      | none => rw [q] at f; exact f.elim
      | some o =>
        rw [q] at f
        cases o with
        | lst xs =>
          cases q2 : h[m]? with
          | none => rw [q2] at f; exact f.elim
          | some o2 =>
            rw [q2] at f
            cases o2 with
            | lst ys =>
              dsimp only at f
              obtain ⟨xv, hx, rx⟩ := ag.at_ q e
              obtain ⟨yv, hy, ry⟩ := ag.at_ q2 e'
              cases z : small (xs.length + ys.length) with
              | false => rw [z] at f; exact f.elim
              | true =>
                rw [z] at f
                exact ⟨_, op_cat, a, b, xv, yv, rfl, rfl, hx, hy, by rw [← rx.length, ← ry.length]; exact small_ok z, fun p hp => FinO.new f ag hp ⟨_, upd_same, (rx.append ry).mono (Stp.new hp)⟩⟩
            | _ => exact f.elim
        | _ => exact f.elim
    | _ => exact f.elim
  | _ => exact f.elim
theorem mo_mod : OpR X (binaryOp .Mod) (rd2 G fMod) := opR_at fun ρ h H xi yi x y Q ag r1 r2 f => by
  unfold fMod at f
  cases r1 with
  | int i =>
    cases r2 with
    | int j =>
      dsimp only at f
      cases q : decide (0 < j) with
      | false => rw [q] at f; exact f.elim
      | true => rw [q] at f; exact ⟨_, op_mod, i, j, rfl, rfl, of_decide_eq_true q, f.ok ag (.int _)⟩
    | _ => exact f.elim
  | _ => exact f.elim
def eqD (h : Hi) (x y : VI) : Option Bool := match dat 66 h x, dat 66 h y with
  | some d, some e => match SeqAt.shaped d && SeqAt.shaped e with
    | true => some (PyData.eqv d e)
    | false => none
  | _, _ => none
def fEq : Op2 := fun x y h => match eqD h x y with
  | some b => some (.bl b, h)
  | none => none
def fNe : Op2 := fun x y h => match eqD h x y with
  | some b => some (.bl (!b), h)
  | none => none
def fInt (p : Int → Int → Bool) : Op2 := fun x y h => match x, y with
  | .int i, .int j => some (.bl (p i j), h)
  | _, _ => none
def fLt : Op2 := fInt fun i j => decide (i < j)
def fLe : Op2 := fInt fun i j => decide (i ≤ j)
def fGt : Op2 := fInt fun i j => decide (j < i)
def fGe : Op2 := fInt fun i j => decide (j ≤ i)
def fIsN : Op2 := fun x y h => match y with
  | .non => some (.bl (match x with | .non => true | _ => false), h)
  | _ => none
def fNotN : Op2 := fun x y h => match y with
  | .non => some (.bl (match x with | .non => false | _ => true), h)
  | _ => none
theorem eqD_ok {h : Hi} {xi yi : VI} {x y : V} {b : Bool} (ag : Ag G ρ h H) (r1 : RV G ρ H xi x) (r2 : RV G ρ H yi y) (e : eqD h xi yi = some b) : ∃ d d', Dp G.K H x d ∧ Dp G.K H y d' ∧ SeqAt.shaped d = true ∧ SeqAt.shaped d' = true ∧ b = PyData.eqv d d' := by
  unfold eqD at e
  cases e1 : dat 66 h xi with
  | none => rw [e1] at e; cases e
  | some d =>
    cases e2 : dat 66 h yi with
    | none => rw [e1, e2] at e; cases e
    | some d' =>
      rw [e1, e2] at e
      dsimp only at e
      cases q : SeqAt.shaped d && SeqAt.shaped d' with
      | false => rw [q] at e; cases e
      | true =>
        rw [q] at e
        cases e
        obtain ⟨q1, q2⟩ := Bool.and_eq_true_iff.mp q
        exact ⟨d, d', dat_ok ag _ _ _ _ r1 e1, dat_ok ag _ _ _ _ r2 e2, q1, q2, rfl⟩
theorem mo_eq (hG : G.K = X.K) (hu : X.A.units + 64 < cLine) : OpR X (compareOp .Eq) (rd2 G fEq) := opR_at fun ρ h H xi yi x y Q ag r1 r2 f => by
  unfold fEq at f
  cases e : eqD h xi yi with
  | none => rw [e] at f; exact f.elim
  | some b =>
    rw [e] at f
    obtain ⟨d, d', p1, p2, s1, s2, rfl⟩ := eqD_ok ag r1 r2 e
    exact ⟨_, op_eqD hu, d, d', hG ▸ p1, hG ▸ p2, s1, s2, f.ok ag (.bl _)⟩
theorem mo_ne (hG : G.K = X.K) (hu : X.A.units + 64 < cLine) : OpR X (compareOp .NotEq) (rd2 G fNe) := opR_at fun ρ h H xi yi x y Q ag r1 r2 f => by
  unfold fNe at f
  cases e : eqD h xi yi with
  | none => rw [e] at f; exact f.elim
  | some b =>
    rw [e] at f
    obtain ⟨d, d', p1, p2, s1, s2, rfl⟩ := eqD_ok ag r1 r2 e
    exact ⟨_, op_neD hu, d, d', hG ▸ p1, hG ▸ p2, s1, s2, f.ok ag (.bl _)⟩
theorem mo_int {g : Value → Value → Sem Value} {p : Int → Int → Bool} (ho : OpR X g (rI0 fun i j => .bl (p i j))) : OpR X g (rd2 G (fInt p)) := opR_at fun ρ h H xi yi x y Q ag r1 r2 f => by
  unfold fInt at f
  cases r1 with
  | int i =>
    cases r2 with
    | int j => exact ⟨_, ho, i, j, rfl, rfl, f.ok ag (.bl _)⟩
    | _ => exact f.elim
  | _ => exact f.elim
theorem mo_le : OpR X (compareOp .LtE) (rd2 G fLe) := mo_int op_le
theorem mo_gt : OpR X (compareOp .Gt) (rd2 G fGt) := mo_int op_gt
theorem mo_ge : OpR X (compareOp .GtE) (rd2 G fGe) := mo_int op_ge
theorem mo_notN : OpR X (compareOp .IsNot) (rd2 G fNotN) := opR_at fun ρ h H xi yi x y Q ag r1 r2 f => by
  unfold fNotN at f
  cases r2 with
  | non => cases r1 <;> exact ⟨_, op_notN, rfl, f.ok ag (.bl _)⟩
  | _ => exact f.elim
end
end ML
end
section
namespace ML
open PySem L2
def tOf (e : ME) : MT := fun σ h => (e σ h).bind fun v h1 => match v with
  | .bl b => .ok b h1
  | _ => .err
def tAndM (a b : MT) : MT := fun σ h => (a σ h).bind fun c h1 => match c with
  | true => b σ h1
  | false => .ok false h1
def tOrM (a b : MT) : MT := fun σ h => (a σ h).bind fun c h1 => match c with
  | true => .ok true h1
  | false => b σ h1
def tNotM (a : MT) : MT := fun σ h => (a σ h).bind fun c h1 => .ok (!c) h1
def eAnd (a b : ME) : ME := fun σ h => (a σ h).bind fun v h1 => match v with
  | .bl true => b σ h1
  | .bl false => .ok (.bl false) h1
  | _ => .err
def eOr (a b : ME) : ME := fun σ h => (a σ h).bind fun v h1 => match v with
  | .bl true => .ok (.bl true) h1
  | .bl false => b σ h1
  | _ => .err
def eNot (a : ME) : ME := fun σ h => (a σ h).bind fun v h1 => match v with
  | .bl b => .ok (.bl (!b)) h1
  | _ => .err
def eIf (t : MT) (a b : ME) : ME := fun σ h => (t σ h).bind fun c h1 => match c with
  | true => a σ h1
  | false => b σ h1
section
variable {G : Gx} {W : WX} {X : Cx} {e a b c : Expr} {rest : List Expr} {pos : Pos} {me ma mb : ME} {ta tb : MT}
theorem rdG_at {α β : Type} {R : List Addr → Hp → α → β → Prop} {m : Sg → Hi → Res α} {Q : β → Hp → Prop} {ρ : List Addr} {σi : Sg} {h : Hi} {H : Hp} {σ : St} (as : AgS G ρ H σi σ) (a : Ag G ρ h H) (f : FinG G ρ H R Q (fun c d H' => W c d σ H') (m σi h)) : rdG G R W m σ H Q := ⟨ρ, σi, h, as, a, f⟩
theorem mt_val (h : PE X e (rdE G W me)) (he : ∀ whole, isTrue e X.env whole = (do let v ← whole; standAt e.pos; holding [v] (truthy v)) := by intro _; rfl) : PT X e (rdT G W (tOf me)) :=
  PT.imp' (pt_val h he) fun σ H Q ⟨ρ, σi, h, as, ag, f⟩ => rdG_go as ag f fun ρ1 H1 h1 x x' st as ag r f => by
    cases r with
    | bl b => exact ⟨b, rfl, f.ok ag rfl⟩
    | _ => exact f.elim
theorem mw_and1 (ha : PT X a (rdT G W ta)) : PW X (.BoolOp .And [a] pos) (rdT G W ta) := pw_and1 ha
theorem mw_or1 (ha : PT X a (rdT G W ta)) : PW X (.BoolOp .Or [a] pos) (rdT G W ta) := pw_or1 ha
theorem mw_and (ha : PT X a (rdT G W ta)) (hb : PW X (.BoolOp .And (b :: rest) pos) (rdT G W tb)) : PW X (.BoolOp .And (a :: b :: rest) pos) (rdT G W (tAndM ta tb)) :=
  PW.imp' (pw_and ha hb) fun σ H Q ⟨ρ, σi, h, as, ag, f⟩ => rdG_go as ag f fun ρ1 H1 h1 x x' st as ag r f => by
    subst r
    cases x with
    | true => rw [if_pos rfl]; exact rdG_at as ag f
    | false => rw [if_neg Bool.false_ne_true]; exact f.ok ag rfl
theorem mw_or (ha : PT X a (rdT G W ta)) (hb : PW X (.BoolOp .Or (b :: rest) pos) (rdT G W tb)) : PW X (.BoolOp .Or (a :: b :: rest) pos) (rdT G W (tOrM ta tb)) :=
  PW.imp' (pw_or ha hb) fun σ H Q ⟨ρ, σi, h, as, ag, f⟩ => rdG_go as ag f fun ρ1 H1 h1 x x' st as ag r f => by
    subst r
    cases x with
    | true => rw [if_pos rfl]; exact f.ok ag rfl
    | false => rw [if_neg Bool.false_ne_true]; exact rdG_at as ag f
theorem mt_not (ha : PT X a (rdT G W ta)) : PT X (.UnaryOp .Not a pos) (rdT G W (tNotM ta)) :=
  PT.imp' (pt_not ha) fun σ H Q ⟨ρ, σi, h, as, ag, f⟩ => rdG_go as ag f fun ρ1 H1 h1 x x' st as ag r f => by
    subst r
    exact f.ok ag rfl
theorem me_one {op} (h : PE X a (rdE G W me)) : PE X (.BoolOp op [a] pos) (rdE G W me) := pe_one h
theorem me_and (ha : PE X a (rdE G W ma)) (hb : PE X (.BoolOp .And (b :: rest) pos) (rdE G W mb)) : PE X (.BoolOp .And (a :: b :: rest) pos) (rdE G W (eAnd ma mb)) :=
  PE.imp' (pe_and ha hb) fun σ H Q ⟨ρ, σi, h, as, ag, f⟩ => rdG_go as ag f fun ρ1 H1 h1 x x' st as ag r f => by
    cases r with
    | bl b =>
      refine ⟨b, rfl, ?_⟩
      cases b with
      | true => rw [if_pos rfl]; exact rdG_at as ag f
      | false => rw [if_neg Bool.false_ne_true]; exact f.ok ag (.bl _)
    | _ => exact f.elim
theorem me_or (ha : PE X a (rdE G W ma)) (hb : PE X (.BoolOp .Or (b :: rest) pos) (rdE G W mb)) : PE X (.BoolOp .Or (a :: b :: rest) pos) (rdE G W (eOr ma mb)) :=
  PE.imp' (pe_or ha hb) fun σ H Q ⟨ρ, σi, h, as, ag, f⟩ => rdG_go as ag f fun ρ1 H1 h1 x x' st as ag r f => by
    cases r with
    | bl b =>
      refine ⟨b, rfl, ?_⟩
      cases b with
      | true => rw [if_pos rfl]; exact f.ok ag (.bl _)
      | false => rw [if_neg Bool.false_ne_true]; exact rdG_at as ag f
    | _ => exact f.elim
theorem me_not (ha : PE X a (rdE G W ma)) : PE X (.UnaryOp .Not a pos) (rdE G W (eNot ma)) :=
  PE.imp' (pe_not ha) fun σ H Q ⟨ρ, σi, h, as, ag, f⟩ => rdG_go as ag f fun ρ1 H1 h1 x x' st as ag r f => by
    cases r with
    | bl b => exact ⟨b, rfl, f.ok ag (.bl _)⟩
    | _ => exact f.elim
theorem me_if (hc : PT X c (rdT G W ta)) (ha : PE X a (rdE G W ma)) (hb : PE X b (rdE G W mb)) : PE X (.IfExp c a b pos) (rdE G W (eIf ta ma mb)) :=
  PE.imp' (pe_ifExp hc ha hb) fun σ H Q ⟨ρ, σi, h, as, ag, f⟩ => rdG_go as ag f fun ρ1 H1 h1 x x' st as ag r f => by
    subst r
    cases x with
    | true => rw [if_pos rfl]; exact rdG_at as ag f
    | false => rw [if_neg Bool.false_ne_true]; exact rdG_at as ag f
end
inductive RS where
  | nx (σ : Sg) (h : Hi) | rt (v : VI) (h : Hi) | bk (σ : Sg) (h : Hi) | ct (σ : Sg) (h : Hi) | ex (c n : Nat) (σ : Sg) (h : Hi) | err
abbrev MS := Sg → Hi → RS
def Res.bindS {α : Type} (r : Res α) (σ : Sg) (f : α → Hi → RS) : RS := match r with
  | .ok a h => f a h
  | .ex c n h => .ex c n σ h
  | .err => .err
def RS.andThen (r : RS) (f : MS) : RS := match r with
  | .nx σ h => f σ h
  | o => o
def FinS (G : Gx) (ρ : List Addr) (H : Hp) (D : Ends) (W : WX) : RS → Prop
  | .nx σ' h' => ∀ ρ' H' σ, Stp G ρ H ρ' H' → Ag G ρ' h' H' → AgS G ρ' H' σ' σ → D.nx σ H'
  | .bk σ' h' => ∀ ρ' H' σ, Stp G ρ H ρ' H' → Ag G ρ' h' H' → AgS G ρ' H' σ' σ → D.bk σ H'
  | .ct σ' h' => ∀ ρ' H' σ, Stp G ρ H ρ' H' → Ag G ρ' h' H' → AgS G ρ' H' σ' σ → D.ct σ H'
  | .rt v h' => ∀ ρ' H' x, Stp G ρ H ρ' H' → Ag G ρ' h' H' → RV G ρ' H' v x → D.rt x H'
  | .ex c n σ' h' => ∀ ρ' H' d C σ, Stp G ρ H ρ' H' → Ag G ρ' h' H' → AgS G ρ' H' σ' σ → ρ'[n]? = some d → G.ct c = some C → W (.ref C) (some d) σ H'
  | .err => False
def rdS (G : Gx) (W : WX) (m : MS) : TS := fun D σ H => ∃ ρ σi h, AgS G ρ H σi σ ∧ Ag G ρ h H ∧ FinS G ρ H D W (m σi h)
def sNx : MS := fun σ h => .nx σ h
def sSeq (a b : MS) : MS := fun σ h => (a σ h).andThen b
def sBk : MS := fun σ h => .bk σ h
def sCt : MS := fun σ h => .ct σ h
def sRet (e : ME) : MS := fun σ h => (e σ h).bindS σ fun v h1 => .rt v h1
def sRetN : MS := fun σ h => .rt .non h
def sDrop (e : ME) : MS := fun σ h => (e σ h).bindS σ fun _ h1 => .nx σ h1
def sIf (t : MT) (a b : MS) : MS := fun σ h => (t σ h).bindS σ fun c h1 => match c with
  | true => a σ h1
  | false => b σ h1
abbrev MG := VI → Sg → Hi → RS
def gNm (i : Nat) : MG := fun v σ h => .nx (σ.set i (some v)) h
def sAsg (e : ME) (g : MG) : MS := fun σ h => (e σ h).bindS σ fun v h1 => g v σ h1
section
variable {G : Gx} {W : WX} {X : Cx} {ρ ρ1 : List Addr} {H H1 : Hp} {σ : St} {σi : Sg} {h : Hi} {D : Ends} {e : Expr} {st : Stmt} {pos : Pos} {me : ME} {ms mr : MS} {mt : MT} {rest : List Stmt}
theorem FinS.later (st : Stp G ρ H ρ1 H1) : ∀ {r : RS}, FinS G ρ H D W r → FinS G ρ1 H1 D W r
  | .nx _ _, f => fun ρ' H' x s => f ρ' H' x (st.trans s)
  | .bk _ _, f => fun ρ' H' x s => f ρ' H' x (st.trans s)
  | .ct _ _, f => fun ρ' H' x s => f ρ' H' x (st.trans s)
  | .rt _ _, f => fun ρ' H' x s => f ρ' H' x (st.trans s)
  | .ex _ _ _ _, f => fun ρ' H' d C x s => f ρ' H' d C x (st.trans s)
  | .err, f => f
theorem rdS_go {α β : Type} {R : List Addr → Hp → α → β → Prop} {m : Sg → Hi → Res α} {k : α → Hi → RS} {N : β → Hp → Prop}
    (as : AgS G ρ H σi σ) (a : Ag G ρ h H) (f : FinS G ρ H D W ((m σi h).bindS σi k))
    (nx : ∀ ρ1 H1 h1 x y, Stp G ρ H ρ1 H1 → AgS G ρ1 H1 σi σ → Ag G ρ1 h1 H1 → R ρ1 H1 x y → FinS G ρ1 H1 D W (k x h1) → N y H1) : rdG G R W m σ H N := by
  refine ⟨ρ, σi, h, as, a, ?_⟩
  cases e : m σi h with
  | err => rw [e] at f; exact f
  | ex c n h' =>
    rw [e] at f
    exact fun ρ' H' d C st a' hn hc => f ρ' H' d C σ st a' (as.mono st) hn hc
  | ok v h' =>
    rw [e] at f
    exact fun ρ' H' x st a' r => nx ρ' H' h' v x st (as.mono st) a' r (FinS.later st f)
theorem FinS.nx (f : FinS G ρ H D W (.nx σi h)) (a : Ag G ρ h H) (as : AgS G ρ H σi σ) : D.nx σ H := f ρ H σ .refl a as
theorem ms_nil : PSs X [] (rdS G W sNx) := PSs.imp' pss_nil fun D σ H ⟨ρ, σi, h, as, ag, f⟩ => f.nx ag as
theorem ms_cons (h1 : PS X st (rdS G W ms)) (h2 : PSs X rest (rdS G W mr)) : PSs X (st :: rest) (rdS G W (sSeq ms mr)) :=
  PSs.imp' (pss_cons h1 h2) fun D σ H ⟨ρ, σi, h, as, ag, f⟩ => by
    refine ⟨ρ, σi, h, as, ag, ?_⟩
    have f' : FinS G ρ H D W ((ms σi h).andThen mr) := f
    cases e : ms σi h with
    | nx σ' h' =>
      rw [e] at f'
      exact fun ρ' H' σ2 st ag2 as2 => ⟨ρ', σ', h', as2, ag2, FinS.later st f'⟩
    | bk σ' h' => rw [e] at f'; exact f'
    | ct σ' h' => rw [e] at f'; exact f'
    | rt v h' => rw [e] at f'; exact f'
    | ex c n σ' h' => rw [e] at f'; exact f'
    | err => rw [e] at f'; exact f'
theorem ms_one (h1 : PS X st (rdS G W ms)) : PSs X [st] (rdS G W ms) := pss_one h1
theorem ms_expr (he : PE X e (rdE G W me)) (hs : swapsWith e none pos.line X.env = pure false := by rfl) : PS X (.Expr e pos) (rdS G W (sDrop me)) :=
  PS.imp' (ps_expr he hs) fun D σ H ⟨ρ, σi, h, as, ag, f⟩ => rdS_go as ag f fun ρ1 H1 h1 x x' st as ag r f => f.nx ag as
theorem ms_ret (he : PE X e (rdE G W me)) : PS X (.Return (some e) pos) (rdS G W (sRet me)) :=
  PS.imp' (ps_ret he) fun D σ H ⟨ρ, σi, h, as, ag, f⟩ => rdS_go as ag f fun ρ1 H1 h1 x x' st as ag r f => f ρ1 H1 x' .refl ag r
theorem ms_if {c : Expr} {a b : List Stmt} {ma mb : MS} (hc : PT X c (rdT G W mt)) (ha : PSs X a (rdS G W ma)) (hb : PSs X b (rdS G W mb)) : PS X (.If c a b pos) (rdS G W (sIf mt ma mb)) :=
  PS.imp' (ps_if hc ha hb) fun D σ H ⟨ρ, σi, h, as, ag, f⟩ => rdS_go as ag f fun ρ1 H1 h1 x x' st as ag r f => by
    subst r
    cases x with
    | true => rw [if_pos rfl]; exact ⟨ρ1, _, h1, as, ag, f⟩
    | false => rw [if_neg Bool.false_ne_true]; exact ⟨ρ1, _, h1, as, ag, f⟩
def rdGt (G : Gx) (W : WX) (g : MG) : TG := fun v σ H Q => ∃ ρ σi h vi, AgS G ρ H σi σ ∧ Ag G ρ h H ∧ RV G ρ H vi v ∧ FinS G ρ H { nx := Q, rt := fun _ _ => False } W (g vi σi h)
theorem mg_name {i : Nat} {x : Str} (hN : X.N.Nodup) (hi : X.N[i]? = some x) (hx : Loc X.env.scope x) (hf : X.fn x = true ∨ X.env.scope.names.lookup x = some .local := by first | exact .inl rfl | exact .inr rfl | assumption) : PG X (.Name x pos) (rdGt G W (gNm i)) :=
  ⟨fun pins s σ H v u Q I r ⟨ρ, σi, h, vi, as, ag, rv, f⟩ => (pg_name hN hi hx hf).run pins s σ H v u Q I r (f.nx ag (as.set rv i))⟩
def OnlyNx (g : MG) : Prop := ∀ v σ h, (∃ σ' h', g v σ h = .nx σ' h') ∨ (∃ c n σ' h', g v σ h = .ex c n σ' h') ∨ g v σ h = .err
theorem FinS.ends {D' : Ends} {r : RS} (hn : (∃ σ' h', r = .nx σ' h') ∨ (∃ c n σ' h', r = .ex c n σ' h') ∨ r = .err) (f : FinS G ρ H D W r) (e : D'.nx = D.nx) : FinS G ρ H D' W r := by
  rcases hn with ⟨σ', h', q⟩ | ⟨c, n, σ', h', q⟩ | q
  · rw [q] at f ⊢; exact fun ρ' H' σ s a as => by rw [e]; exact f ρ' H' σ s a as
  · rw [q] at f ⊢; exact f
  · rw [q] at f ⊢; exact f
theorem onlyNx_name (i : Nat) : OnlyNx (gNm i) := fun _ _ _ => .inl ⟨_, _, rfl⟩
theorem ms_set {i : Nat} {x : Str} {pos' : Pos} (hN : X.N.Nodup) (hi : X.N[i]? = some x) (hx : Loc X.env.scope x) (he : PE X e (rdE G W me)) (hs : swapsWith e (some (.Name x pos')) pos.line X.env = pure false := by rfl) (hf : X.fn x = true ∨ X.env.scope.names.lookup x = some .local := by first | exact .inl rfl | exact .inr rfl | assumption) :
    PS X (.Assign [.Name x pos'] e pos) (rdS G W (sAsg me (gNm i))) :=
  PS.imp' (ps_set hN hi hx he hs hf) fun D σ H ⟨ρ, σi, h, as, ag, f⟩ => rdS_go as ag f fun ρ1 H1 h1 x x' st as ag r f => f.nx ag (as.set r i)
end
end ML
end
section
namespace ML
open PySem L2 PyProof.Rows
abbrev MF := List VI → Hi → Res VI
def endB : RS → Res VI
  | .nx _ h' => .ok .non h'
  | .rt v h' => .ok v h'
  | .ex c k _ h' => .ex c k h'
  | _ => .err
def runB (np n : Nat) (body : MS) : MF := fun vs h => match Nat.beq vs.length np with
  | true => endB (body (vs.map some ++ List.replicate n none) h)
  | false => .err
def spM (G : Gx) (np : Nat) (f : MF) : Sp := fun vs H Q E => ∃ ρ h args, args.length = np ∧ Ag G ρ h H ∧ RVs G ρ H args vs ∧ FinG G ρ H (RV G) Q (fun c d H' => E c d H') (f args h)
def CallM (X : Cx) (G : Gx) (W : WX) (fv : Value) (f : MF) : Prop :=
  ∀ (pins : List (Addr × Obj)) (s : Shared) (σ : L2.St) (H : Hp) (us : List Value) (vs : List V) (args : List VI) (ρ : List Addr) (h : Hi) (Q : VK), Inv X pins σ H s → Vals vs us → RVs G ρ H args vs → Ag G ρ h H →
    FinG G ρ H (RV G) Q (fun c d H' => W c d σ H') (f args h) → wpAny (model X.prog X.w) X.A (call fv us) (EP X pins σ Q) X.xe s
section
variable {G : Gx} {W : WX} {X : Cx} {ρ : List Addr} {h : Hi} {H : Hp} {σ : L2.St} {k np : Nat} {f C : Addr} {fd : FuncData} {ps : List Str} {g : MF}
theorem spM_len {vs : List V} {Q : VK} {E : XK} (h : spM G np g vs H Q E) : vs.length = np := by
  obtain ⟨_, _, args, l, _, r, _⟩ := h
  rw [← r.length, l]
theorem RVs.some_all : ∀ {vs : List VI} {xs : List V}, RVs G ρ H vs xs → ∀ (i : Nat) (v : VI), (vs.map some)[i]? = some (some v) → ∃ x, (xs.map some)[i]? = some (some x) ∧ RV G ρ H v x := fun {vs xs} r i v e => by
  rw [List.getElem?_map] at e
  cases q : vs[i]? with
  | none => rw [q] at e; cases e
  | some w =>
    rw [q] at e
    cases e
    obtain ⟨b, hb, rb⟩ := r.get q
    exact ⟨b, by rw [List.getElem?_map, hb] <;> rfl, rb⟩
theorem ags_start {N : List Str} {n : Nat} {args : List VI} {vs : List V} (r : RVs G ρ H args vs) (hn : N.length = vs.length + n) : AgS G ρ H (args.map some ++ List.replicate n none) (L2.start N vs) := by
  have hz : N.length - vs.length = n := by omega
  have hl : (args.map (some : VI → Option VI)).length = (vs.map (some : V → Option V)).length := by simp [r.length]
  unfold L2.start
  rw [hz]
  refine ⟨by simp [r.length], fun i v e => ?_⟩
  by_cases q : i < (args.map (some : VI → Option VI)).length
  · rw [List.getElem?_append_left q] at e
    rw [List.getElem?_append_left (by rw [← hl]; exact q)]
    exact r.some_all i v e
  · rw [List.getElem?_append_right (Nat.le_of_not_lt q)] at e
    have := List.mem_of_getElem? e
    rw [List.mem_replicate] at this
    cases this.2
theorem fn_M {P : Program} {w : World} {K : PySem.W.Frag} {mg : Str → Option Value} {base : Heap} {x qual : Str} {params : Arguments} {body : List Stmt} {scope : Scope} {dvs : List V} {kws : List (Str × V)} {N : List Str} {n : Nat} {mb : MS}
    (F : FunD K x qual params body scope dvs kws f fd) (S : FnScope N ps scope) (hn : N.length = ps.length + n)
    (hb : ∀ (cdv : Value) (A : Around) (outer : List Env) (s : Shared) (H : Hp) (E : XK), Room k (cxOf (L2.CX P w) P w K mg base N qual scope f cdv A outer s H E).A →
      Takes (cxOf (L2.CX P w) P w K mg base N qual scope f cdv A outer s H E) (fun c d _ H => E c d H) →
      PassesOwn (model P w) (cxOf (L2.CX P w) P w K mg base N qual scope f cdv A outer s H E).A (cxOf (L2.CX P w) P w K mg base N qual scope f cdv A outer s H E).env (cxOf (L2.CX P w) P w K mg base N qual scope f cdv A outer s H E).xe →
      PSs (cxOf (L2.CX P w) P w K mg base N qual scope f cdv A outer s H E) body (rdS G (fun c d _ H => E c d H) mb)) : FnOk P w K mg base (L2.CX P w) (k + 1) f fd ps (spM G ps.length (runB ps.length n mb)) := by
  refine F.ok S (fun vs H Q E h => spM_len h) (fun cdv A outer s H vs Q E hr hsp => ?_)
  obtain ⟨ρ, h, args, l, ag, r, fin⟩ := hsp
  refine ⟨_, hb cdv A outer s H E hr (takes_of rfl rfl rfl rfl) (passes_of rfl), ?_⟩
  refine ⟨ρ, _, h, ags_start r (by rw [← r.length, l]; exact hn), ag, ?_⟩
  unfold runB at fin
  rw [show Nat.beq args.length ps.length = true from by rw [l]; exact Nat.beq_refl _] at fin
  dsimp only at fin
  cases e : mb (args.map some ++ List.replicate n none) h with
  | nx σ' h' => rw [e] at fin; exact fun ρ' H' σ2 st a' as' => fin ρ' H' .non st a' .non
  | rt v h' => rw [e] at fin; exact fin
  | bk σ' h' => rw [e] at fin; exact fin.elim
  | ct σ' h' => rw [e] at fin; exact fin.elim
  | ex c n σ' h' => rw [e] at fin; exact fun ρ' H' d C σ2 st a' as' hn hc => fin ρ' H' d C st a' hn hc
  | err => rw [e] at fin; exact fin
def Arity (np : Nat) (g : MF) : Prop := ∀ vs h, vs.length ≠ np → g vs h = .err
theorem arity_runB {n : Nat} {mb : MS} : Arity np (runB np n mb) := fun vs h hl => by
  unfold runB
  rw [show Nat.beq vs.length np = false from Bool.eq_false_iff.mpr fun z => hl (Nat.eq_of_beq_eq_true z)]
theorem callM_fn (F : FnOk X.prog X.w X.K X.mg X.base (L2.CX X.prog X.w) k f fd ps (spM G ps.length g)) (ar : Arity ps.length g) (hr : Room k X.A) (hb : Binds X.K fd ps []) (tk : Takes X W) : CallM X G W (.ref f) g := by
  intro pins s σ H us vs args ρ h Q I r ra ag fin
  by_cases hl : args.length = ps.length
  · have hsp : spM G ps.length g vs H Q (WE W σ) := ⟨ρ, h, args, hl, ag, ra, fin⟩
    have lu : us.length = ps.length := by rw [← r.length, ← ra.length]; exact hl
    have b := hb s us I.kIn (by rw [List.append_nil]; exact lu)
    rw [List.append_nil] at b
    refine wpAny_call (codeAny_mono (F.run _ _ s H ⟨us, []⟩ us vs Q (WE W σ) hr I.env0 b r hsp) fun res s' hq => ?_)
    match res, hq with
    | .error e, hq => exact passAt tk σ pins H s e s' I hq
    | .ok (.ret u), hq => exact I.after hq
  · rw [ar args h hl] at fin
    exact fin.elim
end
end ML
end
section
namespace ML
open PySem L2 PyProof.Rows
def eCall (g : MF) (ma : MA) : ME := fun σ h => (ma σ h).bind fun vs h1 => g vs h1
def getF (f : S) : List (S × VI) → Option VI
  | [] => none
  | (g, v) :: r => match decide (g = f) with
    | true => some v
    | false => getF f r
def setF (f : S) (v : VI) : List (S × VI) → List (S × VI)
  | [] => [(f, v)]
  | (g, x) :: r => match decide (g = f) with
    | true => (g, v) :: r
    | false => (g, x) :: setF f v r
section
variable {G : Gx} {ρ : List Addr} {H : Hp}
theorem RFs.getF : ∀ {fs : List (S × VI)} {gs : List (Str × V)} (f : S), RFs G ρ H fs gs → match ML.getF f fs with
    | some v => ∃ x, gs.lookup (toStr f) = some x ∧ RV G ρ H v x
    | none => gs.lookup (toStr f) = none
  | _, _, f, .nil => rfl
  | _, _, f, .cons (f := k) (g := g) (fs := fs) (gs := gs) e h t => by
    subst e
    unfold ML.getF
    by_cases q : k = f
    · subst q
      rw [decide_eq_true rfl]
      exact ⟨_, by simp [List.lookup], h⟩
    · rw [decide_eq_false q]
      have hb : (toStr f == toStr k) = false := beq_eq_false_iff_ne.mpr fun z => q (toStr_inj z).symm
      dsimp only
      have ih := RFs.getF f t
      simp only [List.lookup, hb]
      exact ih
theorem RFs.setF : ∀ {fs : List (S × VI)} {gs : List (Str × V)} {v : VI} {x : V} (f : S), RFs G ρ H fs gs → RV G ρ H v x → RFs G ρ H (ML.setF f v fs) (putF (toStr f) x gs)
  | _, _, _, _, f, .nil, r => .cons rfl r .nil
  | _, _, v, x, f, .cons (f := k) (g := g) (fs := fs) (gs := gs) e h t, r => by
    subst e
    unfold ML.setF
    by_cases q : k = f
    · subst q
      rw [decide_eq_true rfl]
      show RFs G ρ H _ (if toStr k = toStr k then _ else _)
      rw [if_pos rfl]
      exact .cons rfl r t
    · rw [decide_eq_false q]
      show RFs G ρ H _ (if toStr k = toStr f then _ else _)
      rw [if_neg fun z => q (toStr_inj z)]
      exact .cons rfl h (RFs.setF f t r)
end
def eFld (cs : List Nat) (f : S) (e : ME) : ME := fun σ h => (e σ h).bind fun x h1 => match x with
  | .ref n => match h1[n]? with
    | some (.ins c fs) => match cs.contains c, getF f fs with
      | true, some v => .ok v h1
      | _, _ => .err
    | _ => .err
  | _ => .err
def FldOk (K : PySem.W.Frag) (G : Gx) (cs : List Nat) (f : S) : Prop := ∀ c C, cs.contains c = true → G.ct c = some C → Cls K C ∧ NoAttr K C (toStr f)
def eCon (tbl : Nat → Option VI) (f : S) (e : ME) : ME := fun σ h => (e σ h).bind fun x h1 => match x with
  | .ref n => match h1[n]? with
    | some (.ins c fs) => match tbl c, getF f fs with
      | some v, none => .ok v h1
      | _, _ => .err
    | _ => .err
  | _ => .err
def ConOk (K : PySem.W.Frag) (G : Gx) (tbl : Nat → Option VI) (f : S) : Prop := ∀ c C v, tbl c = some v → G.ct c = some C → Cls K C ∧ ∃ x u, Con K C (toStr f) x u ∧ ∀ ρ H, RV G ρ H v x
def sFldM (cs : List Nat) (f : S) (o v : ME) : MS := fun σ h => (v σ h).bindS σ fun y h1 => (o σ h1).bindS σ fun x h2 => match x with
  | .ref n => match h2[n]? with
    | some (.ins c fs) => match cs.contains c && Nat.blt fs.length 1000 with
      | true => .nx σ (h2.set n (.ins c (setF f y fs)))
      | false => .err
    | _ => .err
  | _ => .err
def eMeth (tbl : Nat → Option MF) (m : S) (o : ME) (ma : MA) : ME := fun σ h => (o σ h).bind fun x h1 => match x with
  | .ref n => match h1[n]? with
    | some (.ins c fs) => match tbl c, getF m fs with
      | some g, none => (ma σ h1).bind fun vs h2 => g (.ref n :: vs) h2
      | _, _ => .err
    | _ => .err
  | _ => .err
def MethOk (X : Cx) (G : Gx) (W : WX) (tbl : Nat → Option MF) (m : S) : Prop := ∀ c C g, tbl c = some g → G.ct c = some C → Cls X.K C ∧ ∃ f, Meth X.K C (toStr m) f ∧ CallM X G W (.ref f) g
section
variable {G : Gx} {W : WX} {X : Cx} {ρ : List Addr} {h : Hi} {H : Hp} {σ : L2.St} {k : Nat} {f C : Addr} {fd : FuncData} {ps : List Str} {g : MF} {x : Str} {p pos apos pos' : Pos} {e o v : Expr} {es : List Expr} {ma : MA} {me mo mv : ME}
theorem me_call (c : CallM X G W (.ref f) g) (hg : Gl X x) (hm : X.mg x = some (.ref f)) (hk : PySem.W.keepIn X.K (.ref f) = true) (ha : PA X (e :: es) (rdA G W ma)) (hdb : (x == ("__debug__" : Str)) = false := by decide)
    (he : starEach (e :: es) X.env = (false, eval e X.env) :: starEach es X.env := by rfl) (hpl : (backTo pos (starEach es X.env)).any (·.1) = false := by rfl) : PE X (.Call (.Name x p) (e :: es) [] pos) (rdE G W (eCall g ma)) := by
  refine ⟨fun pins s σ H Q I ⟨ρ, σi, h, as, ag, fin⟩ => ?_⟩
  refine wpAny_Call_Name_kw (ld_glob I hg hm ?_ hdb)
  have A : rdA G W ma σ H fun vs H1 => ∃ ρ1 h1 args, RVs G ρ1 H1 args vs ∧ Ag G ρ1 h1 H1 ∧ FinG G ρ1 H1 (RV G) Q (fun c d H' => W c d σ H') (g args h1) :=
    rdG_go as ag fin fun ρ1 H1 h1 xs ys st as ag r f => ⟨ρ1, h1, xs, r, ag, f⟩
  refine PySem.W.callWith_K (h₀ := X.base) I.ok.mod.kin hk (thn (ha.run pos pins s σ H _ I A) fun us s1 ⟨vs, H1, I1, r, q⟩ => ⟨I1.kIn, ?_⟩) he hpl
  obtain ⟨ρ1, h1, args, ra, ag1, f1⟩ := q
  exact c pins s1 σ H1 us vs args ρ1 h1 Q I1 r ra ag1 f1
theorem insAt (ag : Ag G ρ h H) {n : Nat} {a : Addr} {c : Nat} {fl : List (S × VI)} (q : h[n]? = some (.ins c fl)) (e : ρ[n]? = some a) : ∃ C dx gs, G.ct c = some C ∧ H a = some (.ins C dx gs) ∧ RFs G ρ H fl gs := ag.at_ q e
theorem me_fld {cs : List Nat} {fn : S} {fs : Str} (ef : fs = toStr fn) (hF : FldOk X.K G cs fn) (he : PE X e (rdE G W me)) (hb : attributeBase e fs X.env (eval e X.env) = eval e X.env) : PE X (.Attribute e fs pos) (rdE G W (eFld cs fn me)) := by
  subst ef
  refine PE.imp' (pe_fld he hb) fun σ H Q ⟨ρ, σi, h, as, ag, fin⟩ => rdG_go as ag fin fun ρ1 H1 h1 x y st as ag r fi => ?_
  cases r with
  | @ref n a e =>
    dsimp only at fi
    cases q : h1[n]? with
    | none => rw [q] at fi; exact fi.elim
    | some ob =>
      rw [q] at fi
      cases ob with
      | ins c fl =>
        dsimp only at fi
        obtain ⟨C, dx, gs, hc, hH, rf⟩ := insAt ag q e
        have gf := RFs.getF fn rf
        cases q1 : cs.contains c with
        | false => rw [q1] at fi; exact fi.elim
        | true =>
          cases q2 : getF fn fl with
          | none => rw [q1, q2] at fi; exact fi.elim
          | some w =>
            rw [q2] at gf
            obtain ⟨z, hz, rz⟩ := gf
            rw [q1, q2] at fi
            obtain ⟨k1, k2⟩ := hF c C q1 hc
            exact ⟨a, C, dx, gs, z, rfl, hH, k1, k2, hz, fi.ok ag rz⟩
      | _ => exact fi.elim
  | _ => exact fi.elim
theorem me_con {tbl : Nat → Option VI} {fn : S} {fs : Str} (ef : fs = toStr fn) (hF : ConOk X.K G tbl fn) (he : PE X e (rdE G W me)) (hb : attributeBase e fs X.env (eval e X.env) = eval e X.env) : PE X (.Attribute e fs pos) (rdE G W (eCon tbl fn me)) := by
  subst ef
  refine PE.imp' (pe_con he hb) fun σ H Q ⟨ρ, σi, h, as, ag, fin⟩ => rdG_go as ag fin fun ρ1 H1 h1 x y st as ag r fi => ?_
  cases r with
  | @ref n a e =>
    dsimp only at fi
    cases q : h1[n]? with
    | none => rw [q] at fi; exact fi.elim
    | some ob =>
      rw [q] at fi
      cases ob with
      | ins c fl =>
        dsimp only at fi
        obtain ⟨C, dx, gs, hc, hH, rf⟩ := insAt ag q e
        have gf := RFs.getF fn rf
        cases q1 : tbl c with
        | none => rw [q1] at fi; exact fi.elim
        | some v =>
          cases q2 : getF fn fl with
          | some w => rw [q1, q2] at fi; exact fi.elim
          | none =>
            rw [q2] at gf
            rw [q1, q2] at fi
            obtain ⟨k1, z, u, k2, k3⟩ := hF c C v q1 hc
            exact ⟨a, C, dx, gs, z, u, rfl, hH, k1, k2, gf, fi.ok ag (k3 _ _)⟩
      | _ => exact fi.elim
  | _ => exact fi.elim
theorem ms_fld {cs : List Nat} {fn : S} {fs : Str} (ef : fs = toStr fn) (hF : FldOk X.K G cs fn) (ho : PE X o (rdE G W mo)) (hv : PE X v (rdE G W mv)) (hs : swapsWith v (some (.Attribute o fs pos')) pos.line X.env = pure false) : PS X (.Assign [.Attribute o fs pos'] v pos) (rdS G W (sFldM cs fn mo mv)) := by
  subst ef
  refine PS.imp' (ps_fld ho hv hs) fun D σ H ⟨ρ, σi, h, as, ag, fin⟩ => rdS_go as ag fin fun ρ1 H1 h1 y y' st as ag ry fin => rdS_go as ag fin fun ρ2 H2 h2 x x' st2 as ag r fi => ?_
  cases r with
  | @ref n a e =>
    dsimp only at fi
    cases q : h2[n]? with
    | none => rw [q] at fi; exact fi.elim
    | some ob =>
      rw [q] at fi
      cases ob with
      | ins c fl =>
        dsimp only at fi
        obtain ⟨C, dx, gs, hc, hH, rf⟩ := insAt ag q e
        cases q1 : cs.contains c && Nat.blt fl.length 1000 with
        | false => rw [q1] at fi; exact fi.elim
        | true =>
          rw [q1] at fi
          obtain ⟨q2, q3⟩ := Bool.and_eq_true_iff.mp q1
          obtain ⟨k1, k2⟩ := hF c C q2 hc
          have st3 : Stp G ρ2 H2 ρ2 (upd H2 a (.ins C dx (putF (toStr fn) y' gs))) := Stp.wr ag q e
          exact ⟨a, C, dx, gs, rfl, hH, k1, k2, by rw [← rf.length]; exact Nat.le_of_ble_eq_true q3,
            fi ρ2 _ σ st3 (ag.wr q e ⟨C, dx, _, hc, upd_same, RFs.setF fn (rf.mono st3) (ry.mono (st2.trans st3))⟩) (as.mono st3)⟩
      | _ => exact fi.elim
  | _ => exact fi.elim
theorem me_meth {tbl : Nat → Option MF} {m : S} {mm : Str} (em : mm = toStr m) (hM : MethOk X G W tbl m) (ho : PE X o (rdE G W mo)) (ha : PA X (e :: es) (rdA G W ma)) {pl : Sem Bool}
    (hst : starEach (e :: es) X.env = (false, eval e X.env) :: starEach es X.env := by rfl) (hpl : (backTo pos (starEach es X.env)).any (·.1) = false := by rfl)
    (ht : eval (.Call (.Attribute o mm apos) (e :: es) [] pos) X.env = (do
      let ov ← eval o X.env
      standAt apos.atName
      let (f, first) ← holding [ov] (getMethod ov mm pl)
      callWith pos f first (backTo pos (starEach (e :: es) X.env)) (backToKw pos (keywordEach [] X.env))) := by rfl) :
    PE X (.Call (.Attribute o mm apos) (e :: es) [] pos) (rdE G W (eMeth tbl m mo ma)) := by
  subst em
  refine ⟨fun pins s σ H Q I ⟨ρ, σi, h, as, ag, fin⟩ => ?_⟩
  have A : rdE G W mo σ H fun x H1 => ∃ ρ1 h1 n a c fl g, x = .ref a ∧ AgS G ρ1 H1 σi σ ∧ Ag G ρ1 h1 H1 ∧ ρ1[n]? = some a ∧ h1[n]? = some (.ins c fl) ∧ tbl c = some g ∧ getF m fl = none ∧
      FinG G ρ1 H1 (RV G) Q (fun c d H' => W c d σ H') ((ma σi h1).bind fun vs h2 => g (.ref n :: vs) h2) :=
    rdG_go as ag fin fun ρ1 H1 h1 x y st as ag r fi => by
      cases r with
      | @ref n a e =>
        dsimp only at fi
        cases q : h1[n]? with
        | none => rw [q] at fi; exact fi.elim
        | some ob =>
          rw [q] at fi
          cases ob with
          | ins c fl =>
            dsimp only at fi
            cases q1 : tbl c with
            | none => rw [q1] at fi; exact fi.elim
            | some g =>
              cases q2 : getF m fl with
              | some w => rw [q1, q2] at fi; exact fi.elim
              | none =>
                rw [q1, q2] at fi
                exact ⟨ρ1, h1, n, a, c, fl, g, rfl, as, ag, e, q, q1, q2, fi⟩
          | _ => exact fi.elim
      | _ => exact fi.elim
  refine PySem.W.methodCall_KW (pl := pl) (thn (ho.run pins s σ H _ I A) fun u s1 ⟨x, H1, I1, rx, ρ1, h1, n, a, c, fl, g, ex, as1, ag1, hn, hh, ht, hl, f1⟩ => ?_) ht
  subst ex
  obtain rfl : u = Value.ref a := rx
  obtain ⟨C, dx, gs, hc, hH, rf⟩ := insAt ag1 hh hn
  have gf := RFs.getF m rf
  rw [hl] at gf
  obtain ⟨k1, fa, k2, k3⟩ := hM c C g ht hc
  refine getmeth_ok I1 hH k1 k2 gf ?_
  have B : rdA G W ma σ H1 fun vs H2 => ∃ ρ2 h2 args, RVs G ρ2 H2 (.ref n :: args) (.ref a :: vs) ∧ Ag G ρ2 h2 H2 ∧ FinG G ρ2 H2 (RV G) Q (fun c d H' => W c d σ H') (g (.ref n :: args) h2) :=
    rdG_go as1 ag1 f1 fun ρ2 H2 h2 xs ys st as ag r f => ⟨ρ2, h2, xs, .cons (.ref (st.pre _ _ hn)) r, ag, f⟩
  refine PySem.W.callWith_K (first := [.ref a]) (h₀ := X.base) I.ok.mod.kin k2.kp (thn (ha.run pos pins s1 σ H1 _ I1 B) fun us s2 ⟨vs, H2, I2, r, q⟩ => ⟨I2.kIn, ?_⟩) hst hpl
  obtain ⟨ρ2, h2, args, ra, ag2, f2⟩ := q
  exact k3 pins s2 σ H2 (.ref a :: us) (.ref a :: vs) _ ρ2 h2 Q I2 (.cons rfl r) ra ag2 f2
theorem me_meth0 {tbl : Nat → Option MF} {m : S} {mm : Str} (em : mm = toStr m) (hM : MethOk X G W tbl m) (ho : PE X o (rdE G W mo)) {pl : Sem Bool}
    (ht : eval (.Call (.Attribute o mm apos) [] [] pos) X.env = (do
      let ov ← eval o X.env
      standAt apos.atName
      let (f, first) ← holding [ov] (getMethod ov mm pl)
      callWith pos f first (backTo pos (starEach [] X.env)) (backToKw pos (keywordEach [] X.env))) := by rfl) :
    PE X (.Call (.Attribute o mm apos) [] [] pos) (rdE G W (eMeth tbl m mo aNil)) := by
  subst em
  refine ⟨fun pins s σ H Q I ⟨ρ, σi, h, as, ag, fin⟩ => ?_⟩
  have A : rdE G W mo σ H fun x H1 => ∃ ρ1 h1 n a c fl g, x = .ref a ∧ Ag G ρ1 h1 H1 ∧ ρ1[n]? = some a ∧ h1[n]? = some (.ins c fl) ∧ tbl c = some g ∧ getF m fl = none ∧
      FinG G ρ1 H1 (RV G) Q (fun c d H' => W c d σ H') (g [.ref n] h1) :=
    rdG_go as ag fin fun ρ1 H1 h1 x y st as ag r fi => by
      cases r with
      | @ref n a e =>
        dsimp only at fi
        cases q : h1[n]? with
        | none => rw [q] at fi; exact fi.elim
        | some ob =>
          rw [q] at fi
          cases ob with
          | ins c fl =>
            dsimp only at fi
            cases q1 : tbl c with
            | none => rw [q1] at fi; exact fi.elim
            | some g =>
              cases q2 : getF m fl with
              | some w => rw [q1, q2] at fi; exact fi.elim
              | none =>
                rw [q1, q2] at fi
                exact ⟨ρ1, h1, n, a, c, fl, g, rfl, ag, e, q, q1, q2, fi⟩
          | _ => exact fi.elim
      | _ => exact fi.elim
  refine PySem.W.methodCall_KW (pl := pl) (thn (ho.run pins s σ H _ I A) fun u s1 ⟨x, H1, I1, rx, ρ1, h1, n, a, c, fl, g, ex, ag1, hn, hh, ht, hl, f1⟩ => ?_) ht
  subst ex
  obtain rfl : u = Value.ref a := rx
  obtain ⟨C, dx, gs, hc, hH, rf⟩ := insAt ag1 hh hn
  have gf := RFs.getF m rf
  rw [hl] at gf
  obtain ⟨k1, fa, k2, k3⟩ := hM c C g ht hc
  refine getmeth_ok I1 hH k1 k2 gf ?_
  exact PySem.W.callWith_K0 (first := [.ref a]) I1.kIn k2.kp (k3 pins s1 σ H1 [.ref a] [.ref a] [.ref n] ρ1 h1 Q I1 (.cons rfl .nil) (.cons (.ref hn) .nil) ag1 f1)
end
end ML
end
section
namespace ML
open PySem L2 PyProof.Rows
section
variable {G : Gx} {W : WX} {X : Cx} {ρ : List Addr} {h : Hi} {H : Hp} {σ : L2.St} {k : Nat} {f C : Addr} {fd : FuncData} {ps : List Str} {g : MF} {x : Str} {p pos apos pos' : Pos} {e o v : Expr} {es : List Expr} {ma : MA} {me mo mv : ME}
def mkM (c : Nat) (g : MF) : MF := fun vs h => match g (.ref h.length :: vs) (h ++ [.ins c []]) with
  | .ok .non h2 => .ok (.ref h.length) h2
  | .ex c n h2 => .ex c n h2
  | _ => .err
def okM : Res VI → Res VI
  | .ok v h => .ok v h
  | _ => .err
def eProp (tbl : Nat → Option MF) (e : ME) : ME := fun σ h => (e σ h).bind fun x h1 => match x with
  | .ref n => match h1[n]? with
    | some (.ins c fs) => match tbl c with
      | some g => okM (g [.ref n] h1)
      | none => .err
    | _ => .err
  | _ => .err
def PropOk (X : Cx) (G : Gx) (tbl : Nat → Option MF) (f : S) : Prop := ∀ c C g, tbl c = some g → G.ct c = some C → Cls X.K C ∧ ∃ (p ga : Addr) (fd : FuncData) (ps : List Str) (k : Nat), PropOf X.K C (toStr f) p ga ∧ Arity ps.length g ∧
  FnOk X.prog X.w X.K X.mg X.base (L2.CX X.prog X.w) k ga fd ps (spM G ps.length g) ∧ Room (k + 1) X.A ∧ Binds X.K fd ps []
theorem me_prop {tbl : Nat → Option MF} {fn : S} {fs : Str} (ef : fs = toStr fn) (hP : PropOk X G tbl fn) (he : PE X e (rdE G W me)) (hb : attributeBase e fs X.env (eval e X.env) = eval e X.env) : PE X (.Attribute e fs pos) (rdE G W (eProp tbl me)) := by
  subst ef
  refine ⟨fun pins s σ H Q I ⟨ρ, σi, h, as, ag, fin⟩ => ?_⟩
  have A : rdE G W me σ H fun x H1 => ∃ ρ1 h1 n a c fl g, x = .ref a ∧ Ag G ρ1 h1 H1 ∧ ρ1[n]? = some a ∧ h1[n]? = some (.ins c fl) ∧ tbl c = some g ∧
      FinG G ρ1 H1 (RV G) Q (fun c d H' => W c d σ H') (okM (g [.ref n] h1)) :=
    rdG_go as ag fin fun ρ1 H1 h1 x y st as ag r fi => by
      cases r with
      | @ref n a e =>
        dsimp only at fi
        cases q : h1[n]? with
        | none => rw [q] at fi; exact fi.elim
        | some ob =>
          rw [q] at fi
          cases ob with
          | ins c fl =>
            dsimp only at fi
            cases q1 : tbl c with
            | none => rw [q1] at fi; exact fi.elim
            | some g =>
              rw [q1] at fi
              exact ⟨ρ1, h1, n, a, c, fl, g, rfl, ag, e, q, q1, fi⟩
          | _ => exact fi.elim
      | _ => exact fi.elim
  refine attr_of hb (thn (he.run pins s σ H _ I A) fun u s1 ⟨x, H1, I1, rx, ρ1, h1, n, a, c, fl, g, ex, ag1, hn, hh, ht, f1⟩ => ?_)
  subst ex
  obtain rfl : u = Value.ref a := rx
  obtain ⟨C, dx, gs, hc, hH, rf⟩ := insAt ag1 hh hn
  obtain ⟨k1, p, ga, fd, ps, k, k2, k3, k4, k5, k6⟩ := hP c C g ht hc
  have one : ([VI.ref n] : List VI).length = ps.length := by
    by_cases z : ([VI.ref n] : List VI).length = ps.length
    · exact z
    · rw [k3 _ _ z] at f1
      exact f1.elim
  refine getprop_ok I1 hH k1 k2 k4 k5 k6 (dvs := []) .nil (E := fun _ _ _ => False) (fun _ _ _ _ _ _ _ hx => ?_) ?_
  · obtain ⟨_, _, _, _, _, _, _, _, _, _, _, _, z⟩ := hx
    exact z.elim
  · refine ⟨ρ1, h1, [.ref n], one, ag1, .cons (.ref hn) .nil, ?_⟩
    cases q : g [.ref n] h1 with
    | err => rw [q] at f1; exact f1.elim
    | ex c n h2 => rw [q] at f1; exact f1.elim
    | ok v h2 => rw [q] at f1; exact f1
end
end ML
end
section
namespace ML
open PySem L2
theorem PE.dispatch {X : Cx} {e : Expr} {t : TE} (h : ∀ σ H Q, t σ H Q → ∃ t', PE X e t' ∧ t' σ H Q) : PE X e t := ⟨fun pins s σ H Q I q => let ⟨_, p, q'⟩ := h σ H Q q; p.run pins s σ H Q I q'⟩
theorem PS.dispatch {X : Cx} {e : Stmt} {t : TS} (h : ∀ D σ H, t D σ H → ∃ t', PS X e t' ∧ t' D σ H) : PS X e t := ⟨fun pins s σ H D I q => let ⟨_, p, q'⟩ := h D σ H q; p.run pins s σ H D I q'⟩
abbrev OpC := List VI → Hi → Option (VI × Hi)
def rdC (G : Gx) (f : OpC) : List V → Hp → VK → Prop := fun xs H Q => ∃ ρ h args, Ag G ρ h H ∧ RVs G ρ H args xs ∧ FinO G ρ H (RV G) Q (f args h)
def eCB (f : OpC) (ma : MA) : ME := fun σ h => (ma σ h).bind fun vs h1 => ofO (f vs h1)
section
variable {G : Gx} {ρ : List Addr} {h : Hi} {H : Hp} {W : WX} {X : Cx} {e a b c o i : Expr} {es : List Expr} {pos p pos' apos : Pos} {me mi mo ma mb mv : ME} {mr : MA} {f : OpC} {x : Str} {id T : String}
theorem callR_at {fv : Value} (h : ∀ ρ h H args xs Q, Ag G ρ h H → RVs G ρ H args xs → FinO G ρ H (RV G) Q (f args h) → ∃ r, CallR X fv r ∧ r xs H Q) : CallR X fv (rdC G f) :=
  fun pins s σ H xs us Q I r ⟨ρ, hi, args, ag, ra, q⟩ => by
    obtain ⟨r', ho, hr⟩ := h ρ hi H args xs Q ag ra q
    exact ho pins s σ H xs us Q I r hr
theorem me_cty (hc : CallR X (.type T) (rdC G f)) (hg : Gl X x) (hm : X.mg x = none) (hv : bootBuiltins x = some (.type T)) (ha : PA X (e :: es) (rdA G W mr)) (hn : x ≠ "__name__" := by decide) (hdb : (x == ("__debug__" : Str)) = false := by decide)
    (he : starEach (e :: es) X.env = (false, eval e X.env) :: starEach es X.env := by rfl) (hpl : (backTo pos (starEach es X.env)).any (·.1) = false := by rfl) : PE X (.Call (.Name x p) (e :: es) [] pos) (rdE G W (eCB f mr)) :=
  PE.imp' (pe_callTy hc hg hm hv ha hn hdb he hpl) fun σ H Q ⟨ρ, σi, h, as, ag, fin⟩ => rdG_go as ag fin fun ρ1 H1 h1 vs ys st as ag r fi => ⟨ρ1, h1, vs, ag, r, FinO.of fi⟩
def cLen : OpC := fun vs h => match vs with
  | [.tup xs] => some (.int xs.length, h)
  | [.str s] => match small s.length with
    | true => some (.int s.length, h)
    | false => none
  | [.ref n] => match h[n]? with
    | some (.lst xs) => some (.int xs.length, h)
    | some (.scr xs) => some (.int xs.length, h)
    | some (.dic kvs) => some (.int kvs.length, h)
    | _ => none
  | _ => none
def cInt : OpC := fun vs h => match vs with
  | [.int i] => some (.int i, h)
  | [.bl b] => some (.int (if b then 1 else 0), h)
  | _ => none
theorem mc_int : CallR X (.type "int") (rdC G cInt) := callR_at fun ρ h H args xs Q ag ra fi => by
  unfold cInt at fi
  cases ra with
  | nil => exact fi.elim
  | cons r t =>
    cases t with
    | cons _ _ => cases r <;> exact fi.elim
    | nil =>
      cases r with
      | int i => exact ⟨_, call_int1, .inl ⟨i, rfl, fi.ok ag (.int _)⟩⟩
      | bl k => exact ⟨_, call_int1, .inr ⟨k, rfl, fi.ok ag (.int _)⟩⟩
      | _ => exact fi.elim
def cMax : OpC := fun vs h => match vs with
  | [.int i, .int j] => some (.int (if j > i then j else i), h)
  | _ => none
def cMin : OpC := fun vs h => match vs with
  | [.int i, .int j] => some (.int (if j < i then j else i), h)
  | _ => none
def cList : OpC := fun vs h => match vs with
  | [.tup xs] => some (.ref h.length, h ++ [.lst xs])
  | [.ref n] => match h[n]? with
    | some (.lst xs) => some (.ref h.length, h ++ [.lst xs])
    | some (.scr xs) => some (.ref h.length, h ++ [.lst xs])
    | some (.dic kvs) => some (.ref h.length, h ++ [.lst (kvs.map (·.1))])
    | _ => none
  | _ => none
theorem RK.rv {a : VI} {k : Key} (r : RK a k) {H : Hp} {ρ : List Addr} : RV G ρ H a (kV k) := by
  cases a with
  | int i => cases r; exact .int i
  | str s => cases r; exact .str rfl
  | _ => exact r.elim
theorem RKs.keys {ρ : List Addr} {H : Hp} : ∀ {kvs : List (VI × VI)} {ks : List (Key × V)}, RKs G ρ H kvs ks → RVs G ρ H (kvs.map (·.1)) (ks.map fun kv => kV kv.1)
  | _, _, .nil => .nil
  | _, _, .cons e _ t => .cons (RK.rv e) (RKs.keys t)
theorem mc_list (hG : G.K = X.K) (hc : X.calm = true) : CallR X (.type "list") (rdC G cList) := callR_at fun ρ h H args xs Q ag ra fi => by
  unfold cList at fi
  cases ra with
  | nil => exact fi.elim
  | cons r t =>
    cases t with
    | cons _ _ => cases r <;> exact fi.elim
    | nil =>
      cases r with
      | @tup xs ys a t1 s1 => exact ⟨_, call_list_of, a, ys, rfl, .inr (hG ▸ t1), fun l hl => FinO.new fi ag hl ⟨_, upd_same, s1.mono (Stp.new hl)⟩⟩
      | @ref n a q =>
        dsimp only at fi
        cases q1 : h[n]? with
        | none => rw [q1] at fi; exact fi.elim
        | some ob =>
          rw [q1] at fi
          cases ob with
          | lst xs =>
            obtain ⟨ys, hy, rs⟩ := ag.at_ q1 q
            exact ⟨_, call_list_of, a, ys, rfl, .inl (.inl (.inl hy)), fun l hl => FinO.new fi ag hl ⟨_, upd_same, rs.mono (Stp.new hl)⟩⟩
          | scr xs =>
            obtain ⟨ob, ys, hy, rs⟩ := ag.at_ q1 q
            exact ⟨_, call_list_of, a, ys, rfl, .inl (.inl (.inr ⟨_, hy⟩)), fun l hl => FinO.new fi ag hl ⟨_, upd_same, rs.mono (Stp.new hl)⟩⟩
          | dic kvs =>
            obtain ⟨ks, hy, rs⟩ := ag.at_ q1 q
            exact ⟨_, call_list_dK hc, a, ks, rfl, hy, fun l hl => FinO.new fi ag hl ⟨_, upd_same, rs.keys.mono (Stp.new hl)⟩⟩
          | _ => exact fi.elim
      | _ => exact fi.elim
def cTuple : OpC := fun vs h => match vs with
  | [.tup xs] => some (.tup xs, h)
  | [.ref n] => match h[n]? with
    | some (.lst xs) => some (.tup xs, h)
    | some (.scr xs) => some (.tup xs, h)
    | _ => none
  | _ => none
def cDict : OpC := fun vs h => match vs with
  | [.ref n] => match h[n]? with
    | some (.dic kvs) => some (.ref h.length, h ++ [.dic kvs])
    | _ => none
  | _ => none
theorem mc_dict : CallR X (.type "dict") (rdC G cDict) := callR_at fun ρ h H args xs Q ag ra fi => by
  unfold cDict at fi
  cases ra with
  | nil => exact fi.elim
  | cons r t =>
    cases t with
    | cons _ _ => cases r <;> exact fi.elim
    | nil =>
      cases r with
      | @ref n a q =>
        dsimp only at fi
        cases q1 : h[n]? with
        | none => rw [q1] at fi; exact fi.elim
        | some ob =>
          rw [q1] at fi
          cases ob with
          | dic kvs =>
            obtain ⟨ks, hy, rs⟩ := ag.at_ q1 q
            exact ⟨_, call_dictD, a, ks, rfl, .inl hy, fun l hl => FinO.new fi ag hl ⟨_, upd_same, rs.mono (Stp.new hl)⟩⟩
          | _ => exact fi.elim
      | _ => exact fi.elim
end
end ML
end
section
namespace ML
open PySem L2
def keyEq : VI → VI → Bool
  | .int i, .int j => decide (i = j)
  | .str s, .str t => decide (s = t)
  | _, _ => false
def isKey : VI → Bool
  | .int _ => true
  | .str _ => true
  | _ => false
def getD (k : VI) : List (VI × VI) → Option VI
  | [] => none
  | (a, v) :: r => match keyEq a k with
    | true => some v
    | false => getD k r
def hasD (k : VI) : List (VI × VI) → Bool
  | [] => false
  | (a, _) :: r => match keyEq a k with
    | true => true
    | false => hasD k r
def repD (k v : VI) : List (VI × VI) → List (VI × VI)
  | [] => []
  | (a, x) :: r => match keyEq a k with
    | true => (a, v) :: repD k v r
    | false => (a, x) :: repD k v r
def putD (k v : VI) (d : List (VI × VI)) : List (VI × VI) := match hasD k d with
  | true => repD k v d
  | false => d ++ [(k, v)]
theorem keyEq_ok {a b : VI} {k l : Key} (ra : RK a k) (rb : RK b l) : keyEq a b = decide (k = l) := by
  cases a with
  | int i =>
    cases ra
    cases b with
    | int j => cases rb; simp [keyEq]
    | str t => cases rb; simp [keyEq]
    | _ => exact rb.elim
  | str s =>
    cases ra
    cases b with
    | int j => cases rb; simp [keyEq]
    | str t =>
      cases rb
      unfold keyEq
      by_cases e : s = t
      · subst e; simp
      · have : ¬ toStr s = toStr t := fun z => e (toStr_inj z)
        simp [e, this]
    | _ => exact rb.elim
  | _ => exact ra.elim
section
variable {G : Gx} {ρ : List Addr} {H : Hp}
theorem RKs.getD {b : VI} {l : Key} (rb : RK b l) : ∀ {kvs : List (VI × VI)} {ks : List (Key × V)}, RKs G ρ H kvs ks → match ML.getD b kvs with
    | some v => ∃ x, valV ks l = some x ∧ RV G ρ H v x
    | none => valV ks l = none
  | _, _, .nil => rfl
  | _, _, .cons (a := a) (k := k) (as := as) (ks := ks) e h t => by
    unfold ML.getD
    rw [keyEq_ok e rb]
    by_cases q : k = l
    · rw [decide_eq_true q]
      exact ⟨_, valV_pos q, h⟩
    · rw [decide_eq_false q]
      have ih := RKs.getD rb t
      rw [valV_neg q]
      exact ih
theorem RKs.hasD {b : VI} {l : Key} (rb : RK b l) : ∀ {kvs : List (VI × VI)} {ks : List (Key × V)}, RKs G ρ H kvs ks → ML.hasD b kvs = ks.any fun kv => decide (kv.1 = l)
  | _, _, .nil => rfl
  | _, _, .cons (a := a) (k := k) (as := as) (ks := ks) e h t => by
    unfold ML.hasD
    rw [keyEq_ok e rb, List.any_cons]
    by_cases q : k = l
    · rw [decide_eq_true q]
      rfl
    · rw [decide_eq_false q, Bool.false_or]
      exact RKs.hasD rb t
theorem RKs.repD {b v : VI} {x : V} {l : Key} (rb : RK b l) (rv : RV G ρ H v x) : ∀ {kvs : List (VI × VI)} {ks : List (Key × V)}, RKs G ρ H kvs ks → RKs G ρ H (ML.repD b v kvs) (ks.map fun kv => if kv.1 = l then (kv.1, x) else kv)
  | _, _, .nil => .nil
  | _, _, .cons (a := a) (k := k) (as := as) (ks := ks) e h t => by
    unfold ML.repD
    rw [keyEq_ok e rb, List.map_cons]
    by_cases q : k = l
    · rw [decide_eq_true q, if_pos q]
      exact .cons e rv (RKs.repD rb rv t)
    · rw [decide_eq_false q, if_neg q]
      exact .cons e h (RKs.repD rb rv t)
theorem RKs.snoc {b v : VI} {x : V} {l : Key} (rb : RK b l) (rv : RV G ρ H v x) : ∀ {kvs : List (VI × VI)} {ks : List (Key × V)}, RKs G ρ H kvs ks → RKs G ρ H (kvs ++ [(b, v)]) (ks ++ [(l, x)])
  | _, _, .nil => .cons rb rv .nil
  | _, _, .cons e h t => .cons e h (RKs.snoc rb rv t)
theorem RKs.putD {b v : VI} {x : V} {l : Key} (rb : RK b l) (rv : RV G ρ H v x) {kvs : List (VI × VI)} {ks : List (Key × V)} (r : RKs G ρ H kvs ks) : RKs G ρ H (ML.putD b v kvs) (putK ks l x) := by
  unfold ML.putD putK
  rw [r.hasD rb]
  cases ks.any fun kv => decide (kv.1 = l) with
  | true => rw [if_pos rfl]; exact r.repD rb rv
  | false => rw [if_neg Bool.false_ne_true]; exact r.snoc rb rv
theorem RV.key {b : VI} {y : V} (r : RV G ρ H b y) (hk : isKey b = true) : ∃ k, RK b k ∧ y = kV k := by
  cases r with
  | int i => exact ⟨.inl i, rfl, rfl⟩
  | str e => exact ⟨.inr _, rfl, by rw [e]; rfl⟩
  | _ => cases hk
end
def ixI (n : Nat) (i : Int) : Option Nat := if 0 ≤ i then (if i < n then some i.toNat else none) else if -(n : Int) ≤ i then some (i + n).toNat else none
def ixL (xs : List VI) (i : Int) : Option VI := match ixI xs.length i with
  | some j => xs[j]?
  | none => none
def fIx : Op2 := fun x y h => match x with
  | .tup xs => match y with
    | .int i => match ixL xs i with
      | some v => some (v, h)
      | none => none
    | _ => none
  | .ref n => match h[n]? with
    | some (.lst xs) => match y with
      | .int i => match ixL xs i with
        | some v => some (v, h)
        | none => none
      | _ => none
    | some (.scr xs) => match y with
      | .int i => match ixL xs i with
        | some v => some (v, h)
        | none => none
      | _ => none
    | some (.dic kvs) => match isKey y, getD y kvs with
      | true, some v => some (v, h)
      | _, _ => none
    | _ => none
  | _ => none
section
variable {G : Gx} {ρ : List Addr} {h : Hi} {H : Hp} {W : WX} {X : Cx} {e a b c o i v : Expr} {es : List Expr} {pos p pos' apos : Pos} {me mi mo ma mb mv : ME} {mr : MA}
theorem ixI_eq (n : Nat) (i : Int) : ixI n i = ixN n i := rfl
theorem RVs.ixL {xs : List VI} {ys : List V} {i : Int} {v : VI} (r : RVs G ρ H xs ys) (e : ML.ixL xs i = some v) : ∃ y, atI ys i = some y ∧ RV G ρ H v y := by
  unfold ML.ixL at e
  rw [ixI_eq, r.length] at e
  cases q : ixN ys.length i with
  | none => rw [q] at e; cases e
  | some j =>
    rw [q] at e
    obtain ⟨y, hy, ry⟩ := r.get e
    exact ⟨y, by unfold atI; rw [q]; exact hy, ry⟩
inductive IxK (X : Cx) (H : Hp) (x y : V) (Q : VK) : Prop
  | ix (r : R2) (h : IxR X r) (q : r x y H Q)
  | dict (a : Addr) (v : V) (e : x = .ref a) (g : DGet H a y (some v)) (q : Q v H)
theorem ix_kind (hG : G.K = X.K) {xi yi : VI} {x y : V} {Q : VK} (ag : Ag G ρ h H) (r1 : RV G ρ H xi x) (r2 : RV G ρ H yi y) (fi : FinO G ρ H (RV G) Q (fIx xi yi h)) : IxK X H x y Q := by
  unfold fIx at fi
  cases r1 with
  | @tup xs ys a t1 s1 =>
    cases r2 with
    | int j =>
      dsimp only at fi
      cases q : ixL xs j with
      | none => rw [q] at fi; exact fi.elim
      | some v =>
        rw [q] at fi
        obtain ⟨z, hz, rz⟩ := s1.ixL q
        exact .ix _ ix_tup ⟨a, ys, j, z, rfl, rfl, hG ▸ t1, hz, fi.ok ag rz⟩
    | _ => exact fi.elim
  | @ref n a e =>
    dsimp only at fi
    cases q1 : h[n]? with
    | none => rw [q1] at fi; exact fi.elim
    | some ob =>
      rw [q1] at fi
      cases ob with
      | lst xs =>
        obtain ⟨ys, hy, rs⟩ := ag.at_ q1 e
        cases r2 with
        | int j =>
          dsimp only at fi
          cases q : ixL xs j with
          | none => rw [q] at fi; exact fi.elim
          | some v =>
            rw [q] at fi
            obtain ⟨z, hz, rz⟩ := rs.ixL q
            exact .ix _ ix_list ⟨a, ys, j, z, rfl, rfl, .inl (.inl hy), hz, fi.ok ag rz⟩
        | _ => exact fi.elim
      | scr xs =>
        obtain ⟨ob, ys, hy, rs⟩ := ag.at_ q1 e
        cases r2 with
        | int j =>
          dsimp only at fi
          cases q : ixL xs j with
          | none => rw [q] at fi; exact fi.elim
          | some v =>
            rw [q] at fi
            obtain ⟨z, hz, rz⟩ := rs.ixL q
            exact .ix _ ix_list ⟨a, ys, j, z, rfl, rfl, .inl (.inr ⟨_, hy⟩), hz, fi.ok ag rz⟩
        | _ => exact fi.elim
      | dic kvs =>
        obtain ⟨ks, hy, rs⟩ := ag.at_ q1 e
        dsimp only at fi
        cases q2 : isKey yi with
        | false => rw [q2] at fi; exact fi.elim
        | true =>
          obtain ⟨k, rk, ey⟩ := r2.key q2
          have gd := rs.getD rk
          cases q3 : getD yi kvs with
          | none => rw [q2, q3] at fi; exact fi.elim
          | some v =>
            rw [q3] at gd
            rw [q2, q3] at fi
            obtain ⟨z, hz, rz⟩ := gd
            subst ey
            exact .dict a z rfl (by rw [← hz]; exact DGet.k hy) (fi.ok ag rz)
      | _ => exact fi.elim
  | _ => exact fi.elim
theorem me_ix (hG : G.K = X.K) (hu : X.A.units + 1 < cLine) (ha : PE X a (rdE G W ma)) (hb : PE X b (rdE G W mb)) (hs : PlainIx b) : PE X (.Subscript a b pos) (rdE G W (eBin fIx ma mb)) := by
  refine ⟨fun pins s σ H Q I ⟨ρ, σi, h, as, ag, fin⟩ => ?_⟩
  refine PyProof.Rows.Subscript_ (binT ha hb I (R := fun x y H2 => IxK X H2 x y Q) ?_ fun v u s2 x y H2 I2 rx ry q => ?_)
  · exact rdG_go as ag fin fun ρ1 H1 h1 x x' st as ag r f => rdG_go as ag f fun ρ2 H2 h2 y y' st2 as ag rs f => ix_kind hG ag (r.mono st2) rs (FinO.of f)
  · cases q with
    | ix r hr q => exact hr a b pins s2 σ H2 x y v u Q I2 rx ry q (hs _ _)
    | dict d w e g q =>
      subst e
      obtain rfl : v = Value.ref d := rx
      exact PyProof.Rows.tail_any (dict_typeIs I2 g) PySem.F.slot_dict_getitem.lookup (d_getItem hu I2 g ry fun w' s3 I3 rw' => ⟨w, H2, I3, rw', q⟩) (hs _ _)
end
end ML
end
section
namespace ML
open PySem L2
def putIx (o i v : VI) (h : Hi) : Option Hi := match o with
  | .ref n => match h[n]? with
    | some (.lst xs) => match i with
      | .int k => match ixI xs.length k with
        | some j => some (h.set n (.lst (xs.set j v)))
        | none => none
      | _ => none
    | some (.dic kvs) => match isKey i && small (kvs.length + 1) with
      | true => some (h.set n (.dic (putD i v kvs)))
      | false => none
    | _ => none
  | _ => none
def nxO (σ : Sg) : Option Hi → RS
  | some h => .nx σ h
  | none => .err
def gIx (o i : ME) : MG := fun v σ h => (o σ h).bindS σ fun x h1 => (i σ h1).bindS σ fun y h2 => nxO σ (putIx x y v h2)
section
variable {G : Gx} {ρ : List Addr} {h : Hi} {H : Hp} {W : WX} {X : Cx} {e a b c o i v : Expr} {es : List Expr} {pos p pos' apos cpos : Pos} {me mi mo ma mb mv : ME} {mr : MA}
theorem small_lt {n : Nat} (h : small (n + 1) = true) : n < sizeLine := small_ok h
def gFld (cs : List Nat) (f : S) (o : ME) : MG := fun y σ h => (o σ h).bindS σ fun x h2 => match x with
  | .ref n => match h2[n]? with
    | some (.ins c fs) => match cs.contains c && Nat.blt fs.length 1000 with
      | true => .nx σ (h2.set n (.ins c (setF f y fs)))
      | false => .err
    | _ => .err
  | _ => .err
def sPut (o i v : ME) : MS := fun σ h => (v σ h).bindS σ fun z h1 => (o σ h1).bindS σ fun x h2 => (i σ h2).bindS σ fun y h3 => nxO σ (putIx x y z h3)
def eGet2 (d k x : ME) : ME := fun σ h => (d σ h).bind fun a h1 => match a with
  | .ref n => match h1[n]? with
    | some (.dic _) => (k σ h1).bind fun y h2 => (x σ h2).bind fun z h3 => match h3[n]?, isKey y with
      | some (.dic kvs), true => .ok (match getD y kvs with | some v => v | none => z) h3
      | _, _ => .err
    | _ => .err
  | _ => .err
def aPairs : List (ME × ME) → Sg → Hi → Res (List (VI × VI))
  | [], _, h => .ok [] h
  | (k, v) :: r, σ, h => (k σ h).bind fun x h1 => (v σ h1).bind fun y h2 => (aPairs r σ h2).bind fun ps h3 => .ok ((x, y) :: ps) h3
def putAll (ps : List (VI × VI)) (d : List (VI × VI)) : List (VI × VI) := match ps with
  | [] => d
  | (k, v) :: r => putAll r (putD k v d)
def keysOk : List (VI × VI) → Bool
  | [] => true
  | (k, _) :: r => isKey k && keysOk r
def eDisp (ps : List (ME × ME)) : ME := fun σ h => (aPairs ps σ (h ++ [.dic []])).bind fun kvs h1 => match h1[h.length]? with
  | some (.dic []) => match keysOk kvs && Nat.ble kvs.length 15 with
    | true => .ok (.ref h.length) (h1.set h.length (.dic (putAll kvs [])))
    | false => .err
  | _ => .err
inductive RPs (G : Gx) (ρ : List Addr) (H : Hp) : List (VI × VI) → List (V × V) → Prop
  | nil : RPs G ρ H [] []
  | cons {a b : VI} {x y : V} {as : List (VI × VI)} {xs : List (V × V)} (h1 : RV G ρ H a x) (h2 : RV G ρ H b y) (t : RPs G ρ H as xs) : RPs G ρ H ((a, b) :: as) ((x, y) :: xs)
theorem RPs.mono {ρ' : List Addr} {H' : Hp} (st : Stp G ρ H ρ' H') : ∀ {as : List (VI × VI)} {xs : List (V × V)}, RPs G ρ H as xs → RPs G ρ' H' as xs
  | _, _, .nil => .nil
  | _, _, .cons h1 h2 t => .cons (h1.mono st) (h2.mono st) (RPs.mono st t)
theorem RPs.keys : ∀ {as : List (VI × VI)} {xs : List (V × V)}, RPs G ρ H as xs → keysOk as = true → ∃ kvs : List (Key × V), xs = kvs.map (fun kv => (kV kv.1, kv.2)) ∧ RKs G ρ H as kvs
  | _, _, .nil, _ => ⟨[], rfl, .nil⟩
  | _, _, .cons h1 h2 t, k => by
    obtain ⟨k1, k2⟩ := Bool.and_eq_true_iff.mp k
    obtain ⟨l, rk, e⟩ := h1.key k1
    obtain ⟨kvs, e2, r⟩ := RPs.keys t k2
    subst e e2
    exact ⟨(l, _) :: kvs, rfl, .cons rk h2 r⟩
theorem RKs.putAll : ∀ {as : List (VI × VI)} {kvs : List (Key × V)} {d : List (VI × VI)} {ks : List (Key × V)}, RKs G ρ H as kvs → RKs G ρ H d ks → RKs G ρ H (ML.putAll as d) (mergeK ks kvs)
  | _, _, _, _, .nil, r => r
  | _, _, _, _, .cons (k := k) (x := x) e h t, r => by
    unfold ML.putAll
    have q := RKs.putAll t (RKs.putD e h r)
    exact q
theorem pairs_go {σ : L2.St} {σi : Sg} : ∀ {ps : List (ME × ME)} {trs : List (TE × TE)} (_ : trs = ps.map fun p => (rdE G W p.1, rdE G W p.2)) {γ δ : Type} {R' : List Addr → Hp → γ → δ → Prop} {Q : δ → Hp → Prop} {k : List (VI × VI) → Hi → Res γ} {N : List (V × V) → Hp → Prop} {ρ : List Addr} {h : Hi} {H : Hp},
    AgS G ρ H σi σ → Ag G ρ h H → FinG G ρ H R' Q (fun c d H' => W c d σ H') ((aPairs ps σi h).bind k) →
    (∀ ρ1 H1 h1 xs ys, Stp G ρ H ρ1 H1 → AgS G ρ1 H1 σi σ → Ag G ρ1 h1 H1 → RPs G ρ1 H1 xs ys → FinG G ρ1 H1 R' Q (fun c d H' => W c d σ H') (k xs h1) → N ys H1) → tPairs trs σ H N
  | [], _, rfl, _, _, _, _, _, _, ρ, h, H, as, ag, f, nx => nx ρ H h [] [] .refl as ag .nil f
  | (mk, mv) :: r, _, rfl, _, _, _, Q, k, N, ρ, h, H, as, ag, f, nx => by
    have e : (aPairs ((mk, mv) :: r) σi h).bind k = (mk σi h).bind fun x h1 => (mv σi h1).bind fun y h2 => (aPairs r σi h2).bind fun ps h3 => k ((x, y) :: ps) h3 := by
      show ((mk σi h).bind fun x h1 => (mv σi h1).bind fun y h2 => (aPairs r σi h2).bind fun ps h3 => .ok ((x, y) :: ps) h3).bind k = _
      cases mk σi h with
      | err => rfl
      | ex c n h1 => rfl
      | ok x h1 =>
        show ((mv σi h1).bind fun y h2 => (aPairs r σi h2).bind fun ps h3 => .ok ((x, y) :: ps) h3).bind k = _
        show _ = (mv σi h1).bind fun y h2 => (aPairs r σi h2).bind fun ps h3 => k ((x, y) :: ps) h3
        cases mv σi h1 with
        | err => rfl
        | ex c n h2 => rfl
        | ok y h2 =>
          show ((aPairs r σi h2).bind fun ps h3 => .ok ((x, y) :: ps) h3).bind k = (aPairs r σi h2).bind fun ps h3 => k ((x, y) :: ps) h3
          cases aPairs r σi h2 <;> rfl
    rw [e] at f
    exact rdG_go as ag f fun ρ1 H1 h1 x x' st as ag r1 f => rdG_go as ag f fun ρ2 H2 h2 y y' st2 as ag r2 f =>
      pairs_go rfl as ag f fun ρ3 H3 h3 xs ys st3 as ag rs f => nx ρ3 H3 h3 _ _ ((st.trans st2).trans st3) as ag (.cons (r1.mono (st2.trans st3)) (r2.mono st3) rs) f
theorem me_disp {keys : List (Option Expr)} {values : List Expr} {ps : List (ME × ME)} (h : PPs X pos keys values (ps.map fun p => (rdE G W p.1, rdE G W p.2))) (hall : keys.all (·.isSome) = true) (hl : keys.length = values.length) (h0 : keys ≠ []) (h15 : keys.length ≤ 15) :
    PE X (.Dict keys values pos) (rdE G W (eDisp ps)) :=
  PE.imp' (pe_disp h hall hl h0 h15) fun σ H Q ⟨ρ, σi, h, as, ag, fin⟩ p hp => by
    have st0 : Stp G ρ H (ρ ++ [p]) (upd H p (.dK [])) := Stp.new hp
    have ag0 : Ag G (ρ ++ [p]) (h ++ [.dic []]) (upd H p (.dK [])) := ag.new hp ⟨[], upd_same, .nil⟩
    have hx : (ρ ++ [p])[h.length]? = some p := by rw [← ag.len]; simp
    refine pairs_go rfl (as.mono st0) ag0 (FinG.later st0 fin) fun ρ1 H1 h1 xs ys st as ag rs fi => ?_
    cases q : h1[h.length]? with
    | none => rw [q] at fi; exact fi.elim
    | some ob =>
      rw [q] at fi
      cases ob with
      | dic kvs =>
        cases kvs with
        | cons _ _ => exact fi.elim
        | nil =>
          dsimp only at fi
          have hp1 := st.pre _ _ hx
          obtain ⟨ks, hy, rk⟩ := ag.at_ q hp1
          cases rk
          cases q2 : keysOk xs && Nat.ble xs.length 15 with
          | false => rw [q2] at fi; exact fi.elim
          | true =>
            rw [q2] at fi
            obtain ⟨q3, q4⟩ := Bool.and_eq_true_iff.mp q2
            obtain ⟨kvs, e, rk⟩ := rs.keys q3
            have st2 : Stp G ρ1 H1 ρ1 (upd H1 p (.dK (mergeK [] kvs))) := Stp.wr ag q hp1
            refine ⟨hy, kvs, e, by rw [← rk.length]; exact Nat.le_of_ble_eq_true q4, ?_⟩
            exact fi ρ1 _ _ st2 (ag.wr q hp1 ⟨_, upd_same, RKs.putAll (rk.mono st2) .nil⟩) (.ref hp1)
      | _ => exact fi.elim
theorem mp_nil : PPs X pos [] [] (([] : List (ME × ME)).map fun p => (rdE G W p.1, rdE G W p.2)) := pps_nil
theorem mp_cons {k v : Expr} {ks : List (Option Expr)} {vs : List Expr} {mk mv : ME} {ps : List (ME × ME)} (hk : PE X k (rdE G W mk)) (hv : PE X v (rdE G W mv)) (hr : PPs X pos ks vs (ps.map fun p => (rdE G W p.1, rdE G W p.2))) :
    PPs X pos (some k :: ks) (v :: vs) (((mk, mv) :: ps).map fun p => (rdE G W p.1, rdE G W p.2)) := pps_cons hk hv hr
def eDisp0 : ME := fun _ h => .ok (.ref h.length) (h ++ [.dic []])
end
end ML
end
section
namespace ML
open PySem L2
inductive Itm where
  | tup (xs : List VI) | lst (n : Nat) | rng (lo : Int) (k : Nat) | enl (n : Nat) | zip (a b : Nat) | zlt (a : Nat) (ys : List VI)
def listAt (n : Nat) (h : Hi) : Option (List VI) := match h[n]? with
  | some (.lst xs) => some xs
  | some (.scr xs) => some xs
  | _ => none
def Itm.nxt (it : Itm) (i : Nat) (h : Hi) : Option (Option VI) := match it with
  | .tup xs => some xs[i]?
  | .lst n => match listAt n h with
    | some xs => some xs[i]?
    | none => none
  | .rng lo k => some (match Nat.blt i k with
    | true => some (.int (lo + i))
    | false => none)
  | .enl n => match listAt n h with
    | some xs => some (match xs[i]? with
      | some x => some (.tup [.int i, x])
      | none => none)
    | none => none
  | .zip a b => match listAt a h, listAt b h with
    | some xs, some ys => some (match xs[i]?, ys[i]? with
      | some x, some y => some (.tup [x, y])
      | _, _ => none)
    | _, _ => none
  | .zlt a ys => match listAt a h with
    | some xs => match Nat.ble i xs.length && Nat.ble i ys.length with
      | true => some (match xs[i]?, ys[i]? with
        | some x, some y => some (.tup [x, y])
        | _, _ => none)
      | false => none
    | none => none
def Itm.fuel (it : Itm) (h : Hi) : Nat := match it with
  | .tup xs => xs.length
  | .lst n => match listAt n h with
    | some xs => xs.length
    | none => 0
  | .rng _ k => k
  | .enl n => match listAt n h with
    | some xs => xs.length
    | none => 0
  | .zip a _ => match listAt a h with
    | some xs => xs.length
    | none => 0
  | .zlt a _ => match listAt a h with
    | some xs => xs.length
    | none => 0
abbrev MI := Sg → Hi → Res Itm
def turns (it : Itm) (g : MG) (body : MS) : Nat → Nat → MS
  | 0, i, σ, h => match it.nxt i h with
    | some none => .nx σ h
    | _ => .err
  | k + 1, i, σ, h => match it.nxt i h with
    | some none => .nx σ h
    | some (some x) => (g x σ h).andThen fun σ1 h1 => match body σ1 h1 with
      | .nx σ2 h2 => turns it g body k (i + 1) σ2 h2
      | .ct σ2 h2 => turns it g body k (i + 1) σ2 h2
      | .bk σ2 h2 => .nx σ2 h2
      | r => r
    | none => .err
def sFor (mi : MI) (g : MG) (body : MS) : MS := fun σ h => (mi σ h).bindS σ fun it h1 => turns it g body (it.fuel h1) 0 σ h1
def ItOk (G : Gx) (ρ : List Addr) (H : Hp) (J : It) (it : Itm) : Prop := ∀ (i : Nat) (ρ1 : List Addr) (h1 : Hi) (H1 : Hp), Stp G ρ H ρ1 H1 → Ag G ρ1 h1 H1 → match it.nxt i h1 with
  | none => True
  | some none => J.stop i H1
  | some (some v) => J.go i H1 ∧ ∀ x H2, J.yld i H1 x H2 → Stp G ρ1 H1 ρ1 H2 ∧ Ag G ρ1 h1 H2 ∧ RV G ρ1 H2 v x
def rdI (G : Gx) (W : WX) (mi : MI) : TI := fun σ H R => ∃ ρ σi h, AgS G ρ H σi σ ∧ Ag G ρ h H ∧ match mi σi h with
  | .ok it h1 => ∀ ρ1 H1 J, Stp G ρ H ρ1 H1 → Ag G ρ1 h1 H1 → ItOk G ρ1 H1 J it → R J H1
  | .ex c n h1 => ∀ ρ' H' d C, Stp G ρ H ρ' H' → Ag G ρ' h1 H' → ρ'[n]? = some d → G.ct c = some C → W (.ref C) (some d) σ H'
  | .err => False
section
variable {G : Gx} {W : WX} {X : Cx} {ρ ρ1 : List Addr} {H H1 : Hp} {σ : L2.St} {σi : Sg} {h : Hi} {D : Ends} {tg iter e : Expr} {body : List Stmt} {pos p : Pos} {me : ME} {mi : MI} {mg : MG} {mb : MS} {ma : MA}
theorem rdI_go {k : Itm → Hi → RS} {N : It → Hp → Prop} (as : AgS G ρ H σi σ) (a : Ag G ρ h H) (f : FinS G ρ H D W ((mi σi h).bindS σi k))
    (nx : ∀ ρ1 H1 h1 it J, Stp G ρ H ρ1 H1 → AgS G ρ1 H1 σi σ → Ag G ρ1 h1 H1 → ItOk G ρ1 H1 J it → FinS G ρ1 H1 D W (k it h1) → N J H1) : rdI G W mi σ H N := by
  refine ⟨ρ, σi, h, as, a, ?_⟩
  cases e : mi σi h with
  | err => rw [e] at f; exact f
  | ex c n h' =>
    rw [e] at f
    exact fun ρ' H' d C st a' hn hc => f ρ' H' d C σ st a' (as.mono st) hn hc
  | ok it h' =>
    rw [e] at f
    exact fun ρ' H' J st a' io => nx ρ' H' h' it J st (as.mono st) a' io (FinS.later st f)
theorem ItOk.later {J : It} {it : Itm} (st : Stp G ρ H ρ1 H1) (o : ItOk G ρ H J it) : ItOk G ρ1 H1 J it := fun i ρ2 h2 H2 s a => o i ρ2 h2 H2 (st.trans s) a
theorem ms_for (hp : PassesOwn (model X.prog X.w) X.A X.env X.xe) (hc : X.calm = true) (hi : PI X tg iter (rdI G W mi)) (hg : PG X tg (rdGt G W mg)) (on : OnlyNx mg) (hb : PSs X body (rdS G W mb))
    (hs : ∀ x, foldedSetIterable iter X.env x = pure x := by intro _; rfl) : PS X (.For tg iter body [] pos) (rdS G W (sFor mi mg mb)) :=
  PS.imp' (ps_for hp hc hi hg hb hs) fun D σ H ⟨ρ, σi, h, as, ag, fin⟩ => rdI_go as ag fin fun ρ1 H1 h1 it J st as1 ag1 io fi => by
    refine ⟨fun i m σ2 H2 => ∃ ρ2 σi2 h2, Stp G ρ1 H1 ρ2 H2 ∧ AgS G ρ2 H2 σi2 σ2 ∧ Ag G ρ2 h2 H2 ∧ FinS G ρ2 H2 D W (turns it mg mb m i σi2 h2), ⟨_, ρ1, σi, h1, .refl, as1, ag1, fi⟩, ?_⟩
    rintro i m σ2 H2 ⟨ρ2, σi2, h2, st2, as2, ag2, f2⟩
    have ok := io i ρ2 h2 H2 st2 ag2
    cases q : it.nxt i h2 with
    | none =>
      cases m with
      | zero => unfold turns at f2; rw [q] at f2; exact f2.elim
      | succ k => unfold turns at f2; rw [q] at f2; exact f2.elim
    | some o =>
      rw [q] at ok
      cases o with
      | none =>
        refine .inl ⟨ok, ?_⟩
        cases m with
        | zero => unfold turns at f2; rw [q] at f2; exact f2.nx ag2 as2
        | succ k => unfold turns at f2; rw [q] at f2; exact f2.nx ag2 as2
      | some v =>
        cases m with
        | zero => unfold turns at f2; rw [q] at f2; exact f2.elim
        | succ k =>
          unfold turns at f2
          rw [q] at f2
          dsimp only at f2
          obtain ⟨go, yl⟩ := ok
          refine .inr ⟨go, fun σ' H' => ∃ ρ2 σi2 h2, Stp G ρ1 H1 ρ2 H' ∧ AgS G ρ2 H' σi2 σ' ∧ Ag G ρ2 h2 H' ∧ FinS G ρ2 H' D W (turns it mg mb k (i + 1) σi2 h2), fun σ' H' w => ⟨k, Nat.lt_succ_self k, w⟩, fun x H3 y => ?_⟩
          obtain ⟨st3, ag3, rv⟩ := yl x H3 y
          refine ⟨ρ2, σi2, h2, v, as2.mono st3, ag3, rv, ?_⟩
          have f3 := FinS.later st3 f2
          have st13 := st2.trans st3
          rcases on v σi2 h2 with ⟨σ4, h4, e⟩ | ⟨c, n, σ4, h4, e⟩ | e
          · rw [e] at f3 ⊢
            refine fun ρ4 H4 σ5 s4 a4 as4 => ⟨ρ4, σ4, h4, as4, a4, ?_⟩
            have f4 := FinS.later s4 f3
            have st14 := st13.trans s4
            dsimp only [RS.andThen] at f4
            cases e5 : mb σ4 h4 with
            | nx σ6 h6 => rw [e5] at f4; exact fun ρ' H' σ' s a as => ⟨ρ', σ6, h6, st14.trans s, as, a, FinS.later s f4⟩
            | ct σ6 h6 => rw [e5] at f4; exact fun ρ' H' σ' s a as => ⟨ρ', σ6, h6, st14.trans s, as, a, FinS.later s f4⟩
            | bk σ6 h6 => rw [e5] at f4; exact f4
            | rt v6 h6 => rw [e5] at f4; exact f4
            | ex c6 n6 σ6 h6 => rw [e5] at f4; exact f4
            | err => rw [e5] at f4; exact f4
          · rw [e] at f3 ⊢; exact f3
          · rw [e] at f3 ⊢; exact f3
theorem PI.dispatch {t : TI} (h : ∀ σ H Q, t σ H Q → ∃ t', PI X tg iter t' ∧ t' σ H Q) : PI X tg iter t := ⟨fun pins s σ H Q I q => let ⟨_, p, q'⟩ := h σ H Q q; p.run pins s σ H Q I q'⟩
theorem PI.imp' {t t' : TI} (h : PI X tg iter t) (i : ∀ σ H Q, t' σ H Q → t σ H Q) : PI X tg iter t' := ⟨fun pins s σ H Q I q => h.run pins s σ H Q I (i σ H Q q)⟩
def seqOf : VI → Hi → Option Itm := fun v h => match v with
  | .tup xs => some (.tup xs)
  | .ref n => match listAt n h with
    | some _ => some (.lst n)
    | none => none
  | _ => none
def ofI : Option Itm → Hi → Res Itm
  | some it, h => .ok it h
  | none, _ => .err
def iSeq (e : ME) : MI := fun σ h => (e σ h).bind fun v h1 => ofI (seqOf v h1) h1
theorem listAt_ok (K : PySem.W.Frag) (ag : Ag G ρ h H) {n : Nat} {a : Addr} {xs : List VI} (e : listAt n h = some xs) (p : ρ[n]? = some a) : ∃ ys, SqL K H a ys ∧ RVs G ρ H xs ys := by
  unfold listAt at e
  cases q : h[n]? with
  | none => rw [q] at e; cases e
  | some ob =>
    rw [q] at e
    cases ob with
    | lst zs => cases e; obtain ⟨ys, hy, rs⟩ := ag.at_ q p; exact ⟨ys, .inl (.inl hy), rs⟩
    | scr zs => cases e; obtain ⟨ob, ys, hy, rs⟩ := ag.at_ q p; exact ⟨ys, .inl (.inr ⟨_, hy⟩), rs⟩
    | _ => cases e
theorem itOk_lst (hG : G.K = X.K) {n : Nat} {a : Addr} (p : ρ[n]? = some a) : ItOk G ρ H (Itl X.K a) (.lst n) := fun i ρ1 h1 H1 st ag => by
  unfold Itm.nxt
  dsimp only
  cases q : listAt n h1 with
  | none => trivial
  | some xs =>
    obtain ⟨ys, hy, rs⟩ := listAt_ok X.K ag q (st.pre _ _ p)
    dsimp only
    cases q2 : xs[i]? with
    | none =>
      have : xs.length ≤ i := List.getElem?_eq_none_iff.mp q2
      exact ⟨ys, hy, by rw [← rs.length]; exact this⟩
    | some v =>
      obtain ⟨y, hy2, ry⟩ := rs.get q2
      refine ⟨⟨ys, y, hy, hy2⟩, fun x H2 ⟨e, k⟩ => ?_⟩
      subst e
      have := k ys hy
      rw [hy2] at this
      cases this
      exact ⟨.refl, ag, ry⟩
theorem itOk_tup (hG : G.K = X.K) {a : Addr} {xs : List VI} {ys : List V} (t : SqT G.K H a ys) (rs : RVs G ρ H xs ys) : ItOk G ρ H (Itt X.K a) (.tup xs) := fun i ρ1 h1 H1 st ag => by
  unfold Itm.nxt
  have t1 := st.tup _ _ t
  rw [hG] at t1
  have rs1 := rs.mono st
  dsimp only
  cases q2 : xs[i]? with
  | none =>
    have : xs.length ≤ i := List.getElem?_eq_none_iff.mp q2
    exact ⟨ys, t1, by rw [← rs.length]; exact this⟩
  | some v =>
    obtain ⟨y, hy2, ry⟩ := rs1.get q2
    refine ⟨⟨ys, y, t1, hy2⟩, fun x H2 ⟨e, k⟩ => ?_⟩
    subst e
    have := k ys t1
    rw [hy2] at this
    cases this
    exact ⟨.refl, ag, ry⟩
theorem itOk_rng {lo : Int} {k : Nat} : ItOk G ρ H (Itr lo k) (.rng lo k) := fun i ρ1 h1 H1 st ag => by
  unfold Itm.nxt
  dsimp only
  cases q : Nat.blt i k with
  | true => exact ⟨Nat.le_of_ble_eq_true q, fun x H2 ⟨e, z⟩ => by subst e z; exact ⟨.refl, ag, .int _⟩⟩
  | false =>
    refine Nat.le_of_not_lt fun z => ?_
    have : Nat.blt i k = true := Nat.ble_eq_true_of_le z
    rw [q] at this
    cases this
theorem mi_seq (hG : G.K = X.K) (he : PE X e (rdE G W me)) : PI X tg e (rdI G W (iSeq me)) := PI.dispatch fun σ H R ⟨ρ, σi, h, as, ag, fin⟩ => by
  unfold iSeq at fin
  cases q : me σi h with
  | err => rw [q] at fin; exact fin.elim
  | ex c n h1 =>
    rw [q] at fin
    exact ⟨_, pi_list he, ρ, σi, h, as, ag, by rw [q]; exact fin⟩
  | ok v h1 =>
    rw [q] at fin
    dsimp only [Res.bind] at fin
    cases v with
    | tup xs =>
      refine ⟨_, pi_tup he, ρ, σi, h, as, ag, ?_⟩
      rw [q]
      intro ρ1 H1 x st a1 r
      cases r with
      | @tup _ ys a t rs => exact ⟨a, rfl, ⟨ys, hG ▸ t⟩, fin ρ1 H1 _ st a1 (itOk_tup hG t rs)⟩
    | ref n =>
      unfold seqOf at fin
      dsimp only at fin
      cases q2 : listAt n h1 with
      | none => rw [q2] at fin; exact fin.elim
      | some xs =>
        rw [q2] at fin
        refine ⟨_, pi_list he, ρ, σi, h, as, ag, ?_⟩
        rw [q]
        intro ρ1 H1 x st a1 r
        cases r with
        | @ref _ a p =>
          obtain ⟨ys, hy, rs⟩ := listAt_ok X.K a1 q2 p
          exact ⟨a, rfl, ⟨ys, hy⟩, fin ρ1 H1 _ st a1 (itOk_lst hG p)⟩
    | _ => exact fin.elim
def rngOf : List VI → Option Itm
  | [.int j] => match decide (-(2 ^ 62) ≤ j) && decide (j < 2 ^ 62) with
    | true => some (.rng 0 j.toNat)
    | false => none
  | [.int i, .int j] => match (decide (-(2 ^ 62) ≤ i) && decide (i < 2 ^ 62)) && (decide (-(2 ^ 62) ≤ j) && decide (j < 2 ^ 62)) with
    | true => some (.rng i (j - i).toNat)
    | false => none
  | _ => none
def iRng (a : MA) : MI := fun σ h => (a σ h).bind fun vs h1 => ofI (rngOf vs) h1
theorem mi_rng1 {a : Expr} {mr : MA} (hg : Gl X "range") (hm : X.mg "range" = none) (ha : PA X [a] (rdA G W mr)) (hs : starEach [a] X.env = [(false, eval a X.env)] := by rfl) (one : ∀ σ h vs h1, mr σ h = .ok vs h1 → vs.length = 1) : PI X tg (.Call (.Name "range" p) [a] [] pos) (rdI G W (iRng mr)) :=
  PI.imp' (pi_range1 hg hm ha hs) fun σ H R ⟨ρ, σi, h, as, ag, fin⟩ => by
    refine ⟨ρ, σi, h, as, ag, ?_⟩
    unfold iRng at fin
    cases q : mr σi h with
    | err => rw [q] at fin; exact fin.elim
    | ex c n h1 => rw [q] at fin; exact fin
    | ok vs h1 =>
      rw [q] at fin
      have l := one _ _ _ _ q
      intro ρ1 H1 xs st a1 r
      match vs, l, r, fin with
      | [v], _, .cons r .nil, fin =>
        cases r with
        | int j =>
          dsimp only [Res.bind, rngOf] at fin
          cases z : decide (-(2 ^ 62) ≤ j) && decide (j < 2 ^ 62) with
          | false => rw [z] at fin; exact fin.elim
          | true =>
            rw [z] at fin
            obtain ⟨z1, z2⟩ := Bool.and_eq_true_iff.mp z
            exact ⟨j, rfl, of_decide_eq_true z1, of_decide_eq_true z2, fin ρ1 H1 _ st a1 itOk_rng⟩
        | _ => exact fin.elim
theorem mi_rng2 {a b : Expr} {mr : MA} (hg : Gl X "range") (hm : X.mg "range" = none) (ha : PA X [a, b] (rdA G W mr)) (hs : starEach [a, b] X.env = [(false, eval a X.env), (false, eval b X.env)] := by rfl) (hs2 : starEach [b] X.env = [(false, eval b X.env)] := by rfl) (two : ∀ σ h vs h1, mr σ h = .ok vs h1 → vs.length = 2) :
    PI X tg (.Call (.Name "range" p) [a, b] [] pos) (rdI G W (iRng mr)) :=
  PI.imp' (pi_range2 hg hm ha hs hs2) fun σ H R ⟨ρ, σi, h, as, ag, fin⟩ => by
    refine ⟨ρ, σi, h, as, ag, ?_⟩
    unfold iRng at fin
    cases q : mr σi h with
    | err => rw [q] at fin; exact fin.elim
    | ex c n h1 => rw [q] at fin; exact fin
    | ok vs h1 =>
      rw [q] at fin
      have l := two _ _ _ _ q
      intro ρ1 H1 xs st a1 r
      match vs, l, r, fin with
      | [v, w], _, .cons r (.cons r2 .nil), fin =>
        cases r with
        | int i =>
          cases r2 with
          | int j =>
            dsimp only [Res.bind, rngOf] at fin
            cases z : (decide (-(2 ^ 62) ≤ i) && decide (i < 2 ^ 62)) && (decide (-(2 ^ 62) ≤ j) && decide (j < 2 ^ 62)) with
            | false => rw [z] at fin; exact fin.elim
            | true =>
              rw [z] at fin
              obtain ⟨y1, y2⟩ := Bool.and_eq_true_iff.mp z
              obtain ⟨z1, z2⟩ := Bool.and_eq_true_iff.mp y1
              obtain ⟨z3, z4⟩ := Bool.and_eq_true_iff.mp y2
              exact ⟨i, j, rfl, ⟨of_decide_eq_true z1, of_decide_eq_true z2, of_decide_eq_true z3, of_decide_eq_true z4⟩, fin ρ1 H1 _ st a1 itOk_rng⟩
          | _ => exact fin.elim
        | _ => exact fin.elim
end
end ML
end
section
namespace ML
open PySem L2
inductive Tgt where
  | one (i : Nat) | many (is : List Nat)
def putMany : List Nat → List VI → Sg → Option Sg
  | [], [], σ => some σ
  | i :: is, x :: xs, σ => putMany is xs (σ.set i (some x))
  | _, _, _ => none
def Tgt.put (t : Tgt) (v : VI) (σ : Sg) : Option Sg := match t with
  | .one i => some (σ.set i (some v))
  | .many is => match v with
    | .tup xs => putMany is xs σ
    | _ => none
def Tgt.slots : Tgt → List Nat
  | .one i => [i]
  | .many is => is
def gTgt (t : Tgt) : MG := fun v σ h => match t.put v σ with
  | some σ' => .nx σ' h
  | none => .err
def gNames : List Nat → TGs
  | [] => gNil
  | i :: is => gCons (gName i) (gNames is)
def Tgt.tg (K : PySem.W.Frag) : Tgt → TG
  | .one i => gName i
  | .many is => gTup K is.length (gNames is)
def wipeM (σ : Sg) : List Nat → Sg
  | [] => σ
  | i :: r => (wipeM σ r).set i none
section
variable {G : Gx} {ρ : List Addr} {H : Hp} {h : Hi} {X : Cx} {W : WX} {σ : L2.St} {σi : Sg}
theorem names_put : ∀ {is : List Nat} {xs : List VI} {ys : List V} {σi σ2 : Sg} {σ : L2.St} {N : L2.St → Hp → Prop}, AgS G ρ H σi σ → RVs G ρ H xs ys → putMany is xs σi = some σ2 →
    (∀ σ', AgS G ρ H σ2 σ' → (∀ j, j ∉ is → σ'[j]? = σ[j]?) → σ'.length = σ.length → N σ' H) → gNames is ys σ H N
  | [], [], _, σi, σ2, σ, N, as, .nil, e, k => by
    cases e
    exact ⟨rfl, k σ as (fun _ _ => rfl) rfl⟩
  | i :: is, x :: xs, _, σi, σ2, σ, N, as, .cons r rs, e, k => by
    refine ⟨_, _, rfl, ?_⟩
    show gNames is _ _ H N
    refine names_put (as.set r i) rs e fun σ' as' hj hl => k σ' as' (fun j hj' => ?_) (by rw [hl, List.length_set])
    rw [hj j (fun z => hj' (List.mem_cons_of_mem _ z))]
    rw [List.getElem?_set_ne (fun z => hj' (by rw [← z]; exact List.mem_cons_self))]
  | [], _ :: _, _, _, _, _, _, _, _, e, _ => by cases e
  | _ :: _, [], _, _, _, _, _, _, _, e, _ => by cases e
theorem tgt_put (hG : G.K = X.K) {t : Tgt} {v : VI} {x : V} {σ2 : Sg} {N : L2.St → Hp → Prop} (as : AgS G ρ H σi σ) (r : RV G ρ H v x) (e : t.put v σi = some σ2)
    (k : ∀ σ', AgS G ρ H σ2 σ' → (∀ j, j ∉ t.slots → σ'[j]? = σ[j]?) → σ'.length = σ.length → N σ' H) : t.tg X.K x σ H N := by
  cases t with
  | one i =>
    cases e
    exact k _ (as.set r i) (fun j hj => List.getElem?_set_ne (fun z => hj (by rw [← z]; exact List.mem_cons_self))) (List.length_set ..)
  | many is =>
    cases r with
    | @tup xs ys a t rs =>
      have e' : putMany is xs σi = some σ2 := e
      refine ⟨a, ys, rfl, hG ▸ t, ?_, names_put as rs e' k⟩
      have : ∀ {is : List Nat} {xs : List VI} {σi σ2 : Sg}, putMany is xs σi = some σ2 → xs.length = is.length := fun {is} => by
        induction is with
        | nil => intro xs σi σ2 q; cases xs with | nil => rfl | cons _ _ => cases q
        | cons i r ih => intro xs σi σ2 q; cases xs with | nil => cases q | cons y ys => rw [List.length_cons, List.length_cons, ih q]
      rw [← rs.length]
      exact this e'
    | _ => cases e
theorem mg_tgt {tg : Expr} {t : Tgt} (hG : G.K = X.K) (hg : PG X tg (t.tg X.K)) : PG X tg (rdGt G W (gTgt t)) :=
  ⟨fun pins s σ H v u Q I r ⟨ρ, σi, h, vi, as, ag, rv, f⟩ => hg.run pins s σ H v u Q I r (by
    unfold gTgt at f
    cases q : t.put vi σi with
    | none => rw [q] at f; exact f.elim
    | some σ2 =>
      rw [q] at f
      exact tgt_put hG as rv q fun σ' as' _ _ => f.nx ag as')⟩
theorem onlyNx_tgt (t : Tgt) : OnlyNx (gTgt t) := fun v σ h => by
  unfold gTgt
  cases t.put v σ with
  | none => exact .inr (.inr rfl)
  | some σ' => exact .inl ⟨σ', h, rfl⟩
theorem AgS.wipe : ∀ (vs : List Nat) {σi : Sg} {σ : L2.St}, AgS G ρ H σi σ → AgS G ρ H (wipeM σi vs) (L2.wipe σ vs)
  | [], _, _, a => a
  | i :: r, _, _, a => (AgS.wipe r a).lose i none
theorem wipe_in : ∀ (vs : List Nat) (σ : L2.St) (j : Nat), j ∈ vs → (L2.wipe σ vs)[j]? = if j < σ.length then some none else none
  | i :: r, σ, j, hj => by
    show ((L2.wipe σ r).set i none)[j]? = _
    rw [List.getElem?_set, L2.wipe_length]
    by_cases z : i = j
    · subst z
      rw [if_pos rfl]
    · rw [if_neg z]
      exact wipe_in r σ j ((List.mem_cons.mp hj).resolve_left fun w => z w.symm)
theorem wipe_eq (vs : List Nat) {σ τ : L2.St} (hl : τ.length = σ.length) (k : ∀ j, j ∉ vs → τ[j]? = σ[j]?) : L2.wipe τ vs = L2.wipe σ vs := by
  refine List.ext_getElem? fun j => ?_
  by_cases z : j ∈ vs
  · rw [wipe_in vs τ j z, wipe_in vs σ j z, hl]
  · rw [L2.wipe_out z, L2.wipe_out z]
    exact k j z
end
def turnsC (it : Itm) (t : Tgt) (vs : List Nat) (tt : MT) (el : ME) (D : Nat) (σ : Sg) : Nat → Nat → Hi → Option Hi
  | 0, i, h => match it.nxt i h with
    | some none => some h
    | _ => none
  | k + 1, i, h => match it.nxt i h with
    | some none => some h
    | some (some x) => match t.put x (wipeM σ vs) with
      | some σ2 => match tt σ2 h with
        | .ok true h2 => match el σ2 h2 with
          | .ok y h3 => match h3[D]? with
            | some (.lst acc) => match small (acc.length + 1) with
              | true => turnsC it t vs tt el D σ k (i + 1) (h3.set D (.lst (acc ++ [y])))
              | false => none
            | _ => none
          | _ => none
        | .ok false h2 => turnsC it t vs tt el D σ k (i + 1) h2
        | _ => none
      | none => none
    | none => none
def tYesM : MT := fun _ h => .ok true h
def eLc (mi : MI) (t : Tgt) (vs : List Nat) (tt : MT) (el : ME) : ME := fun σ h => (mi σ h).bind fun it h1 => match turnsC it t vs tt el h1.length σ (it.fuel h1) 0 (h1 ++ [.lst []]) with
  | some h2 => .ok (.ref h1.length) h2
  | none => .err
abbrev W0 : WX := fun _ _ _ _ => False
section
variable {G : Gx} {W : WX} {X : Cx} {ρ ρ1 : List Addr} {H H1 : Hp} {h : Hi} {tg iter elt : Expr} {ifs : List Expr} {scope : Scope} {own : List (Str × Nat)} {pos : Pos} {mi : MI} {mt : MT} {ml : ME} {t : Tgt}
theorem rdI_goE {α β : Type} {R' : List Addr → Hp → α → β → Prop} {Q : β → Hp → Prop} {k : Itm → Hi → Res α} {N : It → Hp → Prop} {σ : L2.St} {σi : Sg} (as : AgS G ρ H σi σ) (a : Ag G ρ h H) (f : FinG G ρ H R' Q (fun c d H' => W c d σ H') ((mi σi h).bind k))
    (nx : ∀ ρ1 H1 h1 it J, Stp G ρ H ρ1 H1 → AgS G ρ1 H1 σi σ → Ag G ρ1 h1 H1 → ItOk G ρ1 H1 J it → FinG G ρ1 H1 R' Q (fun c d H' => W c d σ H') (k it h1) → N J H1) : rdI G W mi σ H N := by
  refine ⟨ρ, σi, h, as, a, ?_⟩
  cases e : mi σi h with
  | err => rw [e] at f; exact f
  | ex c n h' =>
    rw [e] at f
    exact fun ρ' H' d C st a' hn hc => f ρ' H' d C st a' hn hc
  | ok it h' =>
    rw [e] at f
    exact fun ρ' H' J st a' io => nx ρ' H' h' it J st (as.mono st) a' io (FinG.later st f)
theorem lc_rd (hG : G.K = X.K) (vs : List Nat) (hsl : ∀ j ∈ t.slots, j ∈ vs) {tt : TT} (htt : ∀ σ H Q, rdT G W0 mt σ H Q → tt σ H Q) : ∀ σ H Q, rdE G W (eLc mi t vs mt ml) σ H Q → tLc (rdI G W mi) (t.tg X.K) tt (rdE G W0 ml) vs σ H Q := fun σ H Q ⟨ρ, σi, h, as, ag, fin⟩ =>
  rdI_goE as ag fin fun ρ1 H1 h1 it J st as1 ag1 io fi D hD => by
    have st0 : Stp G ρ1 H1 (ρ1 ++ [D]) (upd H1 D (.lst [])) := Stp.new hD
    have ag0 : Ag G (ρ1 ++ [D]) (h1 ++ [.lst []]) (upd H1 D (.lst [])) := ag1.new hD ⟨[], upd_same, .nil⟩
    have hx : (ρ1 ++ [D])[h1.length]? = some D := by rw [← ag1.len]; simp
    cases e0 : turnsC it t vs mt ml h1.length σi (it.fuel h1) 0 (h1 ++ [.lst []]) with
    | none => rw [e0] at fi; exact fi.elim
    | some hf =>
      rw [e0] at fi
      refine ⟨fun i m H2 => ∃ ρ2 h2, Stp G (ρ1 ++ [D]) (upd H1 D (.lst [])) ρ2 H2 ∧ Ag G ρ2 h2 H2 ∧ turnsC it t vs mt ml h1.length σi m i h2 = some hf, ⟨_, ρ1 ++ [D], _, .refl, ag0, e0⟩, ?_⟩
      rintro i m H2 ⟨ρ2, h2, st2, ag2, f2⟩
      have ok := io i ρ2 h2 H2 (st0.trans st2) ag2
      have as2 : AgS G ρ2 H2 σi σ := as1.mono (st0.trans st2)
      have fin' : ∀ {h}, hf = h → Ag G ρ2 h H2 → Q (.ref D) H2 := fun {h} e a => by
        subst e
        exact fi ρ2 H2 _ (st0.trans st2) a (.ref (st2.pre _ _ hx))
      cases q : it.nxt i h2 with
      | none =>
        cases m with
        | zero => unfold turnsC at f2; rw [q] at f2; cases f2
        | succ k => unfold turnsC at f2; rw [q] at f2; cases f2
      | some o =>
        rw [q] at ok
        cases o with
        | none =>
          refine .inl ⟨ok, ?_⟩
          cases m with
          | zero => unfold turnsC at f2; rw [q] at f2; exact fin' (Option.some.inj f2).symm ag2
          | succ k => unfold turnsC at f2; rw [q] at f2; exact fin' (Option.some.inj f2).symm ag2
        | some v =>
          cases m with
          | zero => unfold turnsC at f2; rw [q] at f2; cases f2
          | succ k =>
            unfold turnsC at f2
            rw [q] at f2
            dsimp only at f2
            obtain ⟨go, yl⟩ := ok
            refine .inr ⟨go, fun H' => ∃ ρ2 h2, Stp G (ρ1 ++ [D]) (upd H1 D (.lst [])) ρ2 H' ∧ Ag G ρ2 h2 H' ∧ turnsC it t vs mt ml h1.length σi k (i + 1) h2 = some hf, fun H' w => ⟨k, Nat.lt_succ_self k, w⟩, fun x H3 y => ?_⟩
            obtain ⟨st3, ag3, rv⟩ := yl x H3 y
            cases e1 : t.put v (wipeM σi vs) with
            | none => rw [e1] at f2; cases f2
            | some σ4 =>
              rw [e1] at f2
              dsimp only at f2
              refine tgt_put hG ((as2.mono st3).wipe vs) rv e1 fun σ5 as5 hj hl => ?_
              refine ⟨wipe_eq vs hl (fun j hn => hj j fun z => hn (hsl j z)) |>.trans ?_, ?_⟩
              · exact wipe_eq vs (L2.wipe_length σ vs) fun j hn => L2.wipe_out hn
              · refine htt _ _ _ ⟨ρ2, σ4, h2, as5, ag3, ?_⟩
                cases e2 : mt σ4 h2 with
                | err => rw [e2] at f2; cases f2
                | ex c n h' => rw [e2] at f2; cases f2
                | ok b h4 =>
                  rw [e2] at f2
                  intro ρ6 H6 b' st6 ag6 eb
                  subst eb
                  cases b with
                  | false =>
                    rw [if_neg Bool.false_ne_true]
                    exact ⟨ρ6, h4, (st2.trans st3).trans st6, ag6, f2⟩
                  | true =>
                    rw [if_pos rfl]
                    dsimp only at f2
                    refine ⟨ρ6, σ4, h4, as5.mono st6, ag6, ?_⟩
                    cases e3 : ml σ4 h4 with
                    | err => rw [e3] at f2; cases f2
                    | ex c n h' => rw [e3] at f2; cases f2
                    | ok z h5 =>
                      rw [e3] at f2
                      dsimp only at f2
                      intro ρ7 H7 z' st7 ag7 rz
                      cases e4 : h5[h1.length]? with
                      | none => rw [e4] at f2; cases f2
                      | some ob =>
                        rw [e4] at f2
                        cases ob with
                        | lst acc =>
                          dsimp only at f2
                          cases e5 : small (acc.length + 1) with
                          | false => rw [e5] at f2; cases f2
                          | true =>
                            rw [e5] at f2
                            have stA := ((st2.trans st3).trans st6).trans st7
                            have hD7 := stA.pre _ _ hx
                            obtain ⟨ys, hy, rs⟩ := ag7.at_ e4 hD7
                            have stW : Stp G ρ7 H7 ρ7 (upd H7 D (.lst (ys ++ [z']))) := Stp.wr ag7 e4 hD7
                            refine ⟨ys, hy, by rw [← rs.length]; exact small_lt e5, ρ7, _, stA.trans stW, ag7.wr (u' := .lst (acc ++ [z])) e4 hD7 ⟨_, upd_same, (rs.append (.cons rz .nil)).mono stW⟩, f2⟩
                        | _ => cases f2
end
end ML
end
section
namespace ML
open PySem L2
section
variable {G : Gx} {W : WX} {X : Cx} {tg iter elt c : Expr} {ifs : List Expr} {scope : Scope} {own : List (Str × Nat)} {pos spos py : Pos} {mi : MI} {mt : MT} {ml : ME} {t : Tgt} {i : Nat} {y : Str}
theorem me_lc1 (hG : G.K = X.K) (hc : X.calm = true) (hN : X.N.Nodup) (hi : PI X tg iter (rdI G W mi)) (ok : BlkOk X.N X.env.scope scope own) (hsl : ∀ j ∈ t.slots, j ∈ own.map (·.2))
    (hg : ∀ (s : Shared) (H : Hp) (C : Addr) (cl : List (Str × Addr)) (fp : List Addr), PG (X.blk s H scope (compEnvC scope cl C X.env) fp) tg (t.tg X.K))
    (ht : ∀ (s : Shared) (H : Hp) (C : Addr) (cl : List (Str × Addr)) (fp : List Addr), PT (X.blk s H scope (compEnvC scope cl C X.env) fp) c (rdT G W0 mt))
    (he : ∀ (s : Shared) (H : Hp) (C : Addr) (cl : List (Str × Addr)) (fp : List Addr), PE (X.blk s H scope (compEnvC scope cl C X.env) fp) elt (rdE G W0 ml)) (hs : ∀ x, foldedSetIterable iter X.env x = pure x := by intro _; rfl) :
    PE X (.ListComp elt [⟨tg, iter, [c], 0⟩] scope pos) (rdE G W (eLc mi t (own.map (·.2)) mt ml)) :=
  PE.imp' (pe_lc hc hN hi ok hg (fun s H C cl fp => pts_one (ht s H C cl fp)) he hs) (lc_rd hG _ hsl fun _ _ _ z => z)
def eErr : ME := fun _ _ => .err
def sErr : MS := fun _ _ => .err
def tErr : MT := fun _ _ => .err
theorem mss_err {e : List Stmt} : PSs X e (rdS G W sErr) := ⟨fun _ _ _ _ _ _ ⟨_, _, _, _, _, f⟩ => f.elim⟩
end
end ML
end
section
namespace ML
open PySem L2
def eNeg (a : ME) : ME := fun σ h => (a σ h).bind fun v h1 => match v with
  | .int i => .ok (.int (-i)) h1
  | _ => .err
abbrev MO := Sg → Hi → Res (Option Int)
def oNo : MO := fun _ h => .ok none h
def oSome (e : ME) : MO := fun σ h => (e σ h).bind fun v h1 => match v with
  | .int i => .ok (some i) h1
  | _ => .err
def sIxI (n d : Nat) : Option Int → Nat
  | none => d
  | some v => if v < 0 then (v + (n : Int)).toNat else Nat.min v.toNat n
def cutI (xs : List VI) (lo hi : Option Int) : List VI := (xs.drop (sIxI xs.length 0 lo)).take (sIxI xs.length xs.length hi - sIxI xs.length 0 lo)
def sliceM (x : VI) (lo hi : Option Int) (h : Hi) : Option (VI × Hi) := match x with
  | .tup xs => some (.tup (cutI xs lo hi), h)
  | .ref n => match h[n]? with
    | some (.lst xs) => some (.ref h.length, h ++ [.lst (cutI xs lo hi)])
    | some (.scr xs) => some (.ref h.length, h ++ [.lst (cutI xs lo hi)])
    | _ => none
  | _ => none
def eSl (e : ME) (lo hi : MO) : ME := fun σ h => (e σ h).bind fun x h1 => (lo σ h1).bind fun l h2 => (hi σ h2).bind fun u h3 => ofO (sliceM x l u h3)
abbrev rdO (G : Gx) (W : WX) (m : MO) : TO := rdG G (fun _ _ (a b : Option Int) => a = b) W m
section
variable {G : Gx} {ρ : List Addr} {h : Hi} {H : Hp} {W : WX} {X : Cx} {e a b c o i v : Expr} {lo hi : Option Expr} {es : List Expr} {pos p p2 pos' apos cpos : Pos} {me mi mo ma mb mv : ME} {ml mh : MO} {mr : MA}
theorem PO.imp' {e : Option Expr} {t t' : TO} (h : PO X e t) (i : ∀ σ H Q, t' σ H Q → t σ H Q) : PO X e t' := ⟨fun pins s σ H Q I q => h.run pins s σ H Q I (i σ H Q q)⟩
theorem mo_none : PO X none (rdO G W oNo) := PO.imp' po_none fun σ H Q ⟨ρ, σi, h, as, ag, f⟩ => f.ok ag rfl
theorem mo_some (h : PE X e (rdE G W me)) : PO X (some e) (rdO G W (oSome me)) := PO.imp' (po_some h) fun σ H Q ⟨ρ, σi, h, as, ag, f⟩ => rdG_go as ag f fun ρ1 H1 h1 x x' st as ag r f => by
  cases r with
  | int i => exact ⟨i, rfl, f.ok ag rfl⟩
  | _ => exact f.elim
theorem sIxI_eq (n d : Nat) (o : Option Int) : sIxI n d o = HT.sIx n d o := by cases o <;> rfl
theorem RVs.cut {xs : List VI} {ys : List V} (r : RVs G ρ H xs ys) (lo hi : Option Int) : RVs G ρ H (cutI xs lo hi) (cutV ys lo hi) := by
  unfold cutI cutV
  rw [sIxI_eq, sIxI_eq, r.length]
  exact (r.drop _).take _
theorem cutV_all {ys : List V} {lo hi : Option Int} (h : HT.sIx ys.length 0 lo = 0 ∧ HT.sIx ys.length ys.length hi = ys.length) : cutV ys lo hi = ys := by
  unfold cutV
  rw [h.1, h.2]
  simp
def rSlM (G : Gx) : V → Option Int → Option Int → Hp → VK → Prop := fun x lo hi H Q => ∃ ρ h xi, Ag G ρ h H ∧ RV G ρ H xi x ∧ FinO G ρ H (RV G) Q (sliceM xi lo hi h)
theorem sl_M (hG : G.K = X.K) : SlR X (rSlM G) := by
  intro pins s σ H x v vl vu lo hi sl Q I rx hs hl hu ⟨ρ, h, xi, ag, r, fi⟩
  unfold sliceM at fi
  cases r with
  | @tup xs ys a t1 s1 =>
    refine sl_tupA pins s σ H _ v vl vu lo hi sl Q I rx hs hl hu ⟨a, ys, rfl, hG ▸ t1, fun z => ?_, fun z p hp => ?_⟩
    · refine fi.ok ag ?_
      have := s1.cut lo hi
      rw [cutV_all z] at this
      exact .tup t1 this
    · exact fi ρ _ _ (Stp.more hp) (ag.more hp) (.tup (.inl (.inl upd_same)) ((s1.cut lo hi).mono (Stp.more hp)))
  | @ref n a e =>
    dsimp only at fi
    cases q1 : h[n]? with
    | none => rw [q1] at fi; exact fi.elim
    | some ob =>
      rw [q1] at fi
      cases ob with
      | lst xs =>
        obtain ⟨ys, hy, rs⟩ := ag.at_ q1 e
        exact sl_list pins s σ H _ v vl vu lo hi sl Q I rx hs hl hu ⟨a, ys, rfl, .inl (.inl hy), fun p hp => FinO.new fi ag hp ⟨_, upd_same, (rs.cut lo hi).mono (Stp.new hp)⟩⟩
      | scr xs =>
        obtain ⟨ob, ys, hy, rs⟩ := ag.at_ q1 e
        exact sl_list pins s σ H _ v vl vu lo hi sl Q I rx hs hl hu ⟨a, ys, rfl, .inl (.inr ⟨_, hy⟩), fun p hp => FinO.new fi ag hp ⟨_, upd_same, (rs.cut lo hi).mono (Stp.new hp)⟩⟩
      | _ => exact fi.elim
  | _ => exact fi.elim
theorem me_slice (hG : G.K = X.K) (he : PE X e (rdE G W me)) (hl : PO X lo (rdO G W ml)) (hh : PO X hi (rdO G W mh)) : PE X (.Subscript e (.Slice lo hi none p2) pos) (rdE G W (eSl me ml mh)) :=
  PE.imp' (pe_slice (sl_M hG) he hl hh) fun σ H Q ⟨ρ, σi, h, as, ag, f⟩ => rdG_go as ag f fun ρ1 H1 h1 x x' st as ag r f => rdG_go as ag f fun ρ2 H2 h2 l l' st2 as ag rl f => by
    subst rl
    exact rdG_go as ag f fun ρ3 H3 h3 u u' st3 as ag ru f => by
      subst ru
      exact ⟨ρ3, h3, x, ag, r.mono (st2.trans st3), FinO.of f⟩
end
inductive Knd where
  | lst | dic | str
def Knd.ty : Knd → String
  | .lst => "list"
  | .dic => "dict"
  | .str => "str"
def kOk (k : Knd) (v : VI) (h : Hi) : Bool := match v with
  | .str _ => match k with | .str => true | _ => false
  | .ref n => match h[n]? with
    | some (.lst _) => match k with | .lst => true | _ => false
    | some (.scr _) => match k with | .lst => true | _ => false
    | some (.dic _) => match k with | .dic => true | _ => false
    | _ => false
  | _ => false
abbrev OpM := VI → List VI → Hi → Option (VI × Hi)
def eBM (k : Knd) (f : OpM) (o : ME) (ma : MA) : ME := fun σ h => (o σ h).bind fun x h1 => match kOk k x h1 with
  | true => (ma σ h1).bind fun vs h2 => ofO (f x vs h2)
  | false => .err
def rdM (G : Gx) (f : OpM) : V → List V → Hp → VK → Prop := fun x xs H Q => ∃ ρ h xi args, Ag G ρ h H ∧ RV G ρ H xi x ∧ RVs G ρ H args xs ∧ FinO G ρ H (RV G) Q (f xi args h)
def mAppend : OpM := fun x vs h => match x with
  | .ref n => match h[n]? with
    | some (.lst xs) => match vs with
      | [y] => match small (xs.length + 1) with
        | true => some (.non, h.set n (.lst (xs ++ [y])))
        | false => none
      | _ => none
    | _ => none
  | _ => none
def mExtend : OpM := fun x vs h => match x with
  | .ref n => match h[n]? with
    | some (.lst xs) => match vs with
      | [.ref m] => match h[m]? with
        | some (.lst ys) => match small (xs.length + ys.length) with
          | true => some (.non, h.set n (.lst (xs ++ ys)))
          | false => none
        | _ => none
      | _ => none
    | _ => none
  | _ => none
def mPop : OpM := fun x vs h => match x with
  | .ref n => match h[n]? with
    | some (.lst xs) => match vs with
      | [] => match xs[xs.length - 1]? with
        | some y => some (y, h.set n (.lst xs.dropLast))
        | none => none
      | _ => none
    | _ => none
  | _ => none
section
variable {G : Gx} {ρ : List Addr} {h : Hi} {H : Hp} {W : WX} {X : Cx} {e a b c o i v : Expr} {es : List Expr} {pos p pos' apos cpos : Pos} {me mi mo ma mb mv : ME} {mr : MA} {k : Knd} {f : OpM} {name : Str} {id T : String}
theorem kOk_ty {xi : VI} {x : V} {K : PySem.W.Frag} (ag : Ag G ρ h H) (r : RV G ρ H xi x) (e : kOk k xi h = true) : tyV K k.ty x H := by
  unfold kOk at e
  cases r with
  | str q => cases k <;> first | rfl | cases e
  | @ref n a q =>
    dsimp only at e
    cases q1 : h[n]? with
    | none => rw [q1] at e; cases e
    | some ob =>
      rw [q1] at e
      cases ob with
      | lst xs =>
        obtain ⟨ys, hy, _⟩ := ag.at_ q1 q
        cases k <;> first | exact .inl ⟨rfl, ys, .inl (.inl hy)⟩ | cases e
      | scr xs =>
        obtain ⟨ob, ys, hy, _⟩ := ag.at_ q1 q
        cases k <;> first | exact .inl ⟨rfl, ys, .inl (.inr ⟨_, hy⟩)⟩ | cases e
      | dic xs =>
        obtain ⟨ys, hy, _⟩ := ag.at_ q1 q
        cases k <;> first | exact .inr (.inr (.inl ⟨rfl, .inl ⟨_, hy⟩⟩)) | cases e
      | _ => cases e
  | _ => cases e
theorem me_bm (hk : k.ty = T) (pa : PlainAttrs T) (slot : Slot T name id) (hty : typeOf (.builtin id) = pure (.type "method_descriptor")) (hm : MtR X id (rdM G f)) (ho : PE X o (rdE G W mo)) (ha : PA X (e :: es) (rdA G W mr))
    (hbase : attributeBase o name X.env (eval o X.env) = eval o X.env := by rfl)
    (hfew : ((backTo cpos (starEach (e :: es) X.env)).all (fun x => !x.1) && (backToKw cpos (keywordEach [] X.env)).all (fun x => x.1.isSome)
      && decide ((e :: es).length + ([] : List Keyword).length + (if ([] : List Keyword).isEmpty then 0 else 1) < 30)) = true := by rfl)
    (hline : (apos.endLine == cpos.line) = true := by rfl) (hs : starEach (e :: es) X.env = (false, eval e X.env) :: starEach es X.env := by rfl) (hplain : (backTo cpos (starEach es X.env)).any (·.1) = false := by rfl) :
    PE X (.Call (.Attribute o name apos) (e :: es) [] cpos) (rdE G W (eBM k f mo mr)) := by
  subst hk
  refine PE.imp' (pe_bm pa slot hty hm ho ha hbase hfew hline hs hplain) fun σ H Q ⟨ρ, σi, h, as, ag, fin⟩ => rdG_go as ag fin fun ρ1 H1 h1 x x' st as ag r fi => ?_
  cases q : kOk k x h1 with
  | false => rw [q] at fi; exact fi.elim
  | true =>
    rw [q] at fi
    exact ⟨kOk_ty ag r q, rdG_go as ag fi fun ρ2 H2 h2 vs ys st2 as ag rs f => ⟨ρ2, h2, x, vs, ag, r.mono st2, rs, FinO.of f⟩⟩
theorem mm_append : MtR X "list.append" (rdM G mAppend) := by
  intro pins s σ H x xs v us Q I rx rxs ⟨ρ, h, xi, args, ag, r, ra, fi⟩
  unfold mAppend at fi
  cases r with
  | @ref n a e =>
    dsimp only at fi
    cases q1 : h[n]? with
    | none => rw [q1] at fi; exact fi.elim
    | some ob =>
      rw [q1] at fi
      cases ob with
      | lst zs =>
        obtain ⟨ys, hy, rs⟩ := ag.at_ q1 e
        cases ra with
        | nil => exact fi.elim
        | cons ry t =>
          cases t with
          | cons _ _ => exact fi.elim
          | nil =>
            dsimp only at fi
            cases q2 : small (zs.length + 1) with
            | false => rw [q2] at fi; exact fi.elim
            | true =>
              rw [q2] at fi
              have st : ∀ o, Stp G ρ H ρ (upd H a o) := fun o => Stp.wr ag q1 e
              exact mt_append pins s σ H _ _ v us Q I rx rxs ⟨a, ys, _, rfl, rfl, hy, by rw [← rs.length]; exact small_lt q2, fi ρ _ _ (st _) (ag.wr q1 e ⟨_, upd_same, (rs.append (.cons ry .nil)).mono (st _)⟩) .non⟩
      | _ => exact fi.elim
  | _ => exact fi.elim
theorem RVs.dropLast {xs : List VI} {ys : List V} (r : RVs G ρ H xs ys) : RVs G ρ H xs.dropLast ys.dropLast := by
  rw [List.dropLast_eq_take, List.dropLast_eq_take, r.length]
  exact r.take _
end
def flI : VI → Bool
  | .non => true
  | .bl _ => true
  | .int _ => true
  | .str _ => true
  | _ => false
def b2i (b : Bool) : Int := match b with
  | true => 1
  | false => 0
def eqI : VI → VI → Bool
  | .non, .non => true
  | .bl a, .bl b => a == b
  | .bl a, .int b => decide (b2i a = b)
  | .int a, .bl b => decide (a = b2i b)
  | .int a, .int b => decide (a = b)
  | .str a, .str b => decide (a = b)
  | _, _ => false
def inI (x : VI) : List VI → Bool
  | [] => false
  | y :: r => match eqI y x with
    | true => true
    | false => inI x r
def alF : List VI → Bool
  | [] => true
  | y :: r => match flI y with
    | true => alF r
    | false => false
def inDl (h : Hi) (x : VI) (ys : List VI) : Option Bool := match dat 66 h x, datL (dat 65 h) ys with
  | some d, some ds => match SeqAt.shaped d && SeqAt.shaped (.list ds) with
    | true => some (ds.any fun z => PyData.eqv z d)
    | false => none
  | _, _ => none
def inM (x y : VI) (h : Hi) : Option Bool := match y with
  | .tup ys => match flI x && alF ys with
    | true => some (inI x ys)
    | false => none
  | .ref n => match h[n]? with
    | some (.lst ys) => match flI x && alF ys with
      | true => some (inI x ys)
      | false => inDl h x ys
    | some (.scr ys) => match flI x && alF ys with
      | true => some (inI x ys)
      | false => inDl h x ys
    | some (.dic kvs) => match isKey x with
      | true => some (match getD x kvs with | some _ => true | none => false)
      | false => none
    | _ => none
  | _ => none
def fIn : Op2 := fun x y h => match inM x y h with
  | some b => some (.bl b, h)
  | none => none
def fNotIn : Op2 := fun x y h => match inM x y h with
  | some b => some (.bl (!b), h)
  | none => none
section
variable {G : Gx} {ρ : List Addr} {h : Hi} {H : Hp} {X : Cx}
theorem RV.flat {v : VI} {x : V} (r : RV G ρ H v x) (e : flI v = true) : flatV x = true := by cases r <;> first | rfl | cases e
theorem RV.eqI {v w : VI} {x y : V} (r : RV G ρ H v x) (r2 : RV G ρ H w y) (e : flI v = true) (e2 : flI w = true) : ML.eqI v w = eqV x y := by
  cases r with
  | non => cases r2 <;> first | rfl | cases e2
  | bl b => cases r2 <;> first | rfl | (cases b <;> rfl) | cases e2
  | int i =>
    cases r2 with
    | bl b => cases b <;> rfl
    | _ => first | rfl | cases e2
  | @str s1 _ q =>
    cases r2 with
    | @str s2 _ q2 =>
      subst q q2
      show decide (s1 = s2) = (toStr s1 == toStr s2)
      by_cases z : s1 = s2
      · subst z; simp
      · rw [decide_eq_false z, beq_eq_false_iff_ne.mpr fun w => z (toStr_inj w)]
    | _ => first | rfl | cases e2
  | _ => cases e
theorem RVs.flats : ∀ {vs : List VI} {xs : List V}, RVs G ρ H vs xs → alF vs = true → xs.all flatV = true
  | _, _, .nil, _ => rfl
  | _, _, .cons (v := v) r t, e => by
    unfold alF at e
    cases q : flI v with
    | false => rw [q] at e; cases e
    | true =>
      rw [q] at e
      rw [List.all_cons, r.flat q, t.flats e]
      rfl
theorem RVs.inI {w : VI} {y : V} (r2 : RV G ρ H w y) (e2 : flI w = true) : ∀ {vs : List VI} {xs : List V}, RVs G ρ H vs xs → alF vs = true → ML.inI w vs = inV y xs
  | _, _, .nil, _ => rfl
  | _, _, .cons (v := v) (x := x) (xs := xs) r t, e => by
    unfold alF at e
    cases q : flI v with
    | false => rw [q] at e; cases e
    | true =>
      rw [q] at e
      unfold ML.inI
      rw [r.eqI r2 q e2]
      show _ = (List.any (x :: xs) fun z => eqV z y)
      rw [List.any_cons]
      cases eqV x y with
      | true => rfl
      | false => rw [Bool.false_or]; exact RVs.inI r2 e2 t e
theorem in_kind (hG : G.K = X.K) (hu : X.A.units + 65 < cLine) {neg : Bool} {op : CmpOp} {xi yi : VI} {x y : V} {Q : VK} (ag : Ag G ρ h H) (r1 : RV G ρ H xi x) (r2 : RV G ρ H yi y)
    (h1 : OpR X (compareOp op) (rIn X.K neg)) (h2 : OpR X (compareOp op) (fun x y H Q => ∃ d ds, Dp X.K H x d ∧ Dp X.K H y (.list ds) ∧ SeqAt.shaped d = true ∧ SeqAt.shaped (.list ds) = true ∧ Q (.bl (if neg then !(ds.any fun z => PyData.eqv z d) else ds.any fun z => PyData.eqv z d)) H))
    (h3 : OpR X (compareOp op) (fun y x H Q => ∃ a o, x = .ref a ∧ DGet H a y o ∧ Q (.bl (if neg then !o.isSome else o.isSome)) H))
    (fi : FinO G ρ H (RV G) Q (match inM xi yi h with | some b => some (VI.bl (if neg then !b else b), h) | none => none)) : ∃ r : R2, OpR X (compareOp op) r ∧ r x y H Q := by
  unfold inM at fi
  have lst : ∀ {ys : List VI} {zs : List V} {a : Addr}, RVs G ρ H ys zs → SqL G.K H a zs → FinO G ρ H (RV G) Q (match (match flI xi && alF ys with | true => some (inI xi ys) | false => inDl h xi ys) with | some b => some (VI.bl (if neg then !b else b), h) | none => none) → ∃ r : R2, OpR X (compareOp op) r ∧ r x (.ref a) H Q := by
    intro ys zs a rs sq fi
    cases q : flI xi && alF ys with
    | true =>
      rw [q] at fi
      obtain ⟨q1, q2⟩ := Bool.and_eq_true_iff.mp q
      exact ⟨_, h1, a, zs, rfl, .inl (hG ▸ sq), r1.flat q1, rs.flats q2, by rw [← rs.inI r1 q1 q2]; exact fi.ok ag (.bl _)⟩
    | false =>
      rw [q] at fi
      dsimp only at fi
      unfold inDl at fi
      cases e1 : dat 66 h xi with
      | none => rw [e1] at fi; exact fi.elim
      | some d =>
        cases e2 : datL (dat 65 h) ys with
        | none => rw [e1, e2] at fi; exact fi.elim
        | some ds =>
          rw [e1, e2] at fi
          dsimp only at fi
          cases z : SeqAt.shaped d && SeqAt.shaped (.list ds) with
          | false => rw [z] at fi; exact fi.elim
          | true =>
            rw [z] at fi
            obtain ⟨z1, z2⟩ := Bool.and_eq_true_iff.mp z
            exact ⟨_, h2, d, ds, hG ▸ dat_ok ag _ _ _ _ r1 e1, hG ▸ .lst sq (datL_ok (fun v x d => dat_ok ag 65 v x d) rs e2), z1, z2, fi.ok ag (.bl _)⟩
  cases r2 with
  | @tup xs ys a t1 s1 =>
    dsimp only at fi
    cases q : flI xi && alF xs with
    | false => rw [q] at fi; exact fi.elim
    | true =>
      rw [q] at fi
      obtain ⟨q1, q2⟩ := Bool.and_eq_true_iff.mp q
      exact ⟨_, h1, a, ys, rfl, .inr (hG ▸ t1), r1.flat q1, s1.flats q2, by rw [← s1.inI r1 q1 q2]; exact fi.ok ag (.bl _)⟩
  | @ref n a e =>
    dsimp only at fi
    cases q1 : h[n]? with
    | none => rw [q1] at fi; exact fi.elim
    | some ob =>
      rw [q1] at fi
      cases ob with
      | lst xs =>
        obtain ⟨ys, hy, rs⟩ := ag.at_ q1 e
        exact lst rs (.inl (.inl hy)) fi
      | scr xs =>
        obtain ⟨ob, ys, hy, rs⟩ := ag.at_ q1 e
        exact lst rs (.inl (.inr ⟨_, hy⟩)) fi
      | dic kvs =>
        obtain ⟨ks, hy, rs⟩ := ag.at_ q1 e
        dsimp only at fi
        cases q2 : isKey xi with
        | false => rw [q2] at fi; exact fi.elim
        | true =>
          rw [q2] at fi
          obtain ⟨k, rk, ey⟩ := r1.key q2
          subst ey
          have gd := rs.getD rk
          refine ⟨_, h3, a, _, rfl, DGet.k hy, ?_⟩
          cases q3 : getD xi kvs with
          | none => rw [q3] at gd fi; rw [gd]; exact fi.ok ag (.bl _)
          | some w =>
            rw [q3] at gd fi
            obtain ⟨z, hz, _⟩ := gd
            rw [hz]
            exact fi.ok ag (.bl _)
      | _ => exact fi.elim
  | _ => exact fi.elim
theorem op_dIn (hu : X.A.units + 1 < cLine) : OpR X (compareOp .In) (fun y x H Q => ∃ a o, x = .ref a ∧ DGet H a y o ∧ Q (.bl o.isSome) H) := by
  intro pins s σ H y x v u Q I ry rx ⟨a, ov, ex, g, q⟩
  subst ex
  obtain rfl : u = Value.ref a := rx
  exact d_in hu I g ry fun s3 I3 => ⟨.bl ov.isSome, H, I3, rfl, q⟩
theorem op_dNotIn (hu : X.A.units + 1 < cLine) : OpR X (compareOp .NotIn) (fun y x H Q => ∃ a o, x = .ref a ∧ DGet H a y o ∧ Q (.bl (!o.isSome)) H) := by
  intro pins s σ H y x v u Q I ry rx ⟨a, ov, ex, g, q⟩
  subst ex
  obtain rfl : u = Value.ref a := rx
  exact d_notIn hu I g ry fun s3 I3 => ⟨.bl (!ov.isSome), H, I3, rfl, q⟩
theorem mo_in (hG : G.K = X.K) (hu : X.A.units + 65 < cLine) : OpR X (compareOp .In) (rd2 G fIn) := opR_at fun ρ h H xi yi x y Q ag r1 r2 f =>
  in_kind (neg := false) hG hu ag r1 r2 op_in_seq (op_inD hu) (op_dIn (by omega)) (by unfold fIn at f; cases q : inM xi yi h <;> rw [q] at f <;> exact f)
theorem mo_notIn (hG : G.K = X.K) (hu : X.A.units + 65 < cLine) : OpR X (compareOp .NotIn) (rd2 G fNotIn) := opR_at fun ρ h H xi yi x y Q ag r1 r2 f =>
  in_kind (neg := true) hG hu ag r1 r2 op_notIn_seq (op_notInD hu) (op_dNotIn (by omega)) (by unfold fNotIn at f; cases q : inM xi yi h <;> rw [q] at f <;> exact f)
end
end ML
end
section
namespace ML
open PySem L2
structure IsT where
  non : Option Bool
  bl : Option Bool
  int : Option Bool
  str : Option Bool
  lst : Option Bool
  tup : Option Bool
  dic : Option Bool
  ins : Nat → Option Bool
def isT (T : IsT) (v : VI) (h : Hi) : Option Bool := match v with
  | .non => T.non
  | .bl _ => T.bl
  | .int _ => T.int
  | .str _ => T.str
  | .tup _ => T.tup
  | .ref n => match h[n]? with
    | some (.lst _) => T.lst
    | some (.scr _) => T.lst
    | some (.dic _) => T.dic
    | some (.ins c _) => T.ins c
    | _ => none
  | _ => none
def eIsi (T : IsT) (e : ME) : ME := fun σ h => (e σ h).bind fun v h1 => match isT T v h1 with
  | some b => .ok (.bl b) h1
  | none => .err
structure IsOk (K : PySem.W.Frag) (G : Gx) (us : List Value) (T : IsT) : Prop where
  non : ∀ b, T.non = some b → PySem.W.kitAny K (.type "NoneType") us = some b
  bl : ∀ b, T.bl = some b → PySem.W.kitAny K (.type "bool") us = some b
  int : ∀ b, T.int = some b → PySem.W.kitAny K (.type "int") us = some b
  str : ∀ b, T.str = some b → PySem.W.kitAny K (.type "str") us = some b
  lst : ∀ b, T.lst = some b → PySem.W.kitAny K (.type "list") us = some b
  tup : ∀ b, T.tup = some b → PySem.W.kitAny K (.type "tuple") us = some b
  dic : ∀ b, T.dic = some b → PySem.W.kitAny K (.type "dict") us = some b
  ins : ∀ c C b, T.ins c = some b → G.ct c = some C → Cls K C ∧ PySem.W.findIn K (.ref C) "__class__" = some (some (.builtin "object.__class__")) ∧ PySem.W.mroIn K C (.type "object") = some true ∧ PySem.W.kitAny K (.ref C) us = some b
  gs : PySem.W.specialIn K (.builtin "object.__class__") "__get__" = some (some (.builtin "getset_descriptor.__get__"))
  tk : PySem.W.takesIn K (.builtin "object.__class__") = some true
section
variable {G : Gx} {ρ : List Addr} {h : Hi} {H : Hp} {W : WX} {X : Cx} {e a b c o i v : Expr} {es : List Expr} {pos p p2 pos' apos cpos tpos : Pos} {me mi mo ma mb mv : ME} {mr : MA} {T : IsT} {us : List Value} {k : Nat}
theorem kit_one {K : PySem.W.Frag} {t u : Value} {b : Bool} (h : PySem.W.kitAny K t [u] = some b) : PySem.W.kitOne K t u = some b := by
  unfold PySem.W.kitAny at h
  cases q : PySem.W.kitOne K t u with
  | none => rw [q] at h; cases h
  | some z =>
    rw [q] at h
    cases z with
    | true => exact h
    | false => exact h
theorem isT_ok (hG : G.K = X.K) (ok : IsOk X.K G us T) {vi : VI} {x : V} {bb : Bool} (ag : Ag G ρ h H) (r : RV G ρ H vi x) (e : isT T vi h = some bb) : ∃ t, TyX X.K H x t ∧ PySem.W.kitAny X.K t us = some bb := by
  unfold isT at e
  cases r with
  | non => exact ⟨_, .base .non, ok.non _ e⟩
  | bl b => exact ⟨_, .base (.bl b), ok.bl _ e⟩
  | int b => exact ⟨_, .base (.int b), ok.int _ e⟩
  | str b => exact ⟨_, .base (.str _), ok.str _ e⟩
  | glo q => cases e
  | @tup xs ys a t rs =>
    refine ⟨_, ?_, ok.tup _ e⟩
    rw [hG] at t
    rcases t with (t | ⟨ob, t⟩) | ⟨o, its, n, k1, k2, _⟩
    · exact .base (.tup t)
    · exact .fTuple t
    · exact .kTuple k1 k2
  | @ref n a q =>
    dsimp only at e
    cases q1 : h[n]? with
    | none => rw [q1] at e; cases e
    | some ob =>
      rw [q1] at e
      cases ob with
      | lst xs => obtain ⟨ys, hy, rs⟩ := ag.at_ q1 q; exact ⟨_, .base (.lst hy), ok.lst _ e⟩
      | scr xs => obtain ⟨ob, ys, hy, rs⟩ := ag.at_ q1 q; exact ⟨_, .base (.frz hy), ok.lst _ e⟩
      | dic kvs => obtain ⟨ks, hy, rs⟩ := ag.at_ q1 q; exact ⟨_, .base (.dK hy), ok.dic _ e⟩
      | ins c fs =>
        obtain ⟨C, dx, gs, hc, hH, rf⟩ := insAt ag q1 q
        obtain ⟨k1, k2, k3, k4⟩ := ok.ins c C bb e hc
        exact ⟨_, .base (.ins hH k1 k2 ok.gs ok.tk k3), k4⟩
      | xd fs => cases e
theorem me_isi (hG : G.K = X.K) {cv : V} {u : Value} (ok : IsOk X.K G [u] T) (hg : Gl X "isinstance") (hm : X.mg "isinstance" = none) (he : PE X e (rdE G W me)) (hc : PE X c (tC cv)) (cl : ClsV cv u)
    (hs1 : starEach [e, c] X.env = (false, eval e X.env) :: starEach [c] X.env := by rfl) (hs2 : starEach [c] X.env = (false, eval c X.env) :: starEach [] X.env := by rfl) (hpl : (backTo pos (starEach [c] X.env)).any (·.1) = false := by rfl) :
    PE X (.Call (.Name "isinstance" p) [e, c] [] pos) (rdE G W (eIsi T me)) :=
  PE.imp' (pe_callB (r := rIsi X.K) call_isi hg hm PyProof.Rows.boot_isinstance (pa_cons he (pa_cons hc pa_nil hs2) hs1) (by decide) (by decide) hs1 hpl) fun σ H Q ⟨ρ, σi, h, as, ag, fin⟩ => rdG_go as ag fin fun ρ1 H1 h1 x x' st as ag r f => by
    cases q : isT T x h1 with
    | none => rw [q] at f; exact f.elim
    | some bb =>
      rw [q] at f
      obtain ⟨t, ty, kt⟩ := isT_ok hG ok ag r q
      exact ⟨x', cv, t, u, bb, rfl, cl, ty, kit_one kt, f.ok ag (.bl _)⟩
def tCs (cvs : List V) : TA := fun _ H Q => Q cvs H
theorem pa_c0 : PA X [] (tCs []) := pa_nil
theorem pa_c1 {cv : V} {cvs : List V} (h : PE X c (tC cv)) (t : PA X es (tCs cvs)) (hs : starEach (c :: es) X.env = (false, eval c X.env) :: starEach es X.env := by rfl) : PA X (c :: es) (tCs (cv :: cvs)) := pa_cons h t hs
theorem me_isiT (hG : G.K = X.K) {cvs : List V} (ok : IsOk X.K G us T) (hg : Gl X "isinstance") (hm : X.mg "isinstance" = none) (he : PE X e (rdE G W me)) (hc : PA X es (tCs cvs)) (cl : Paired ClsV cvs us) (hl : small cvs.length = true)
    (hs1 : starEach [e, .Tuple es k tpos] X.env = (false, eval e X.env) :: starEach [.Tuple es k tpos] X.env := by rfl) (hs2 : starEach [.Tuple es k tpos] X.env = (false, eval (.Tuple es k tpos) X.env) :: starEach [] X.env := by rfl) (hpl : (backTo pos (starEach [.Tuple es k tpos] X.env)).any (·.1) = false := by rfl) :
    PE X (.Call (.Name "isinstance" p) [e, .Tuple es k tpos] [] pos) (rdE G W (eIsi T me)) :=
  PE.imp' (pe_callB (r := rIsiT X.K) call_isiT hg hm PyProof.Rows.boot_isinstance (pa_cons he (pa_cons (pe_tup hc) pa_nil hs2) hs1) (by decide) (by decide) hs1 hpl) fun σ H Q ⟨ρ, σi, h, as, ag, fin⟩ => rdG_go as ag fin fun ρ1 H1 h1 x x' st as ag r f => by
    refine ⟨small_ok hl, fun p hp => ?_⟩
    cases q : isT T x h1 with
    | none => rw [q] at f; exact f.elim
    | some bb =>
      rw [q] at f
      have ag2 : Ag G ρ1 h1 (upd H1 p (.tup cvs)) := ag.more hp
      obtain ⟨t, ty, kt⟩ := isT_ok hG ok ag2 (r.mono (Stp.more hp)) q
      exact ⟨x', p, cvs, t, us, bb, rfl, upd_same, cl, ty, kt, f ρ1 _ _ (Stp.more hp) ag2 (.bl _)⟩
theorem pe_ty {x : Str} {n : String} (hg : Gl X x) (hm : X.mg x = none) (hv : bootBuiltins x = some (.type n)) (hn : x ≠ "__name__" := by decide) (hd : (x == ("__debug__" : Str)) = false := by decide) : PE X (.Name x pos) (tC (.ty n)) := pe_bltn hg hm hv rfl hn hd
theorem pe_cl {x : Str} {C : Addr} (hg : Gl X x) (hm : X.mg x = some (.ref C)) (hd : (x == ("__debug__" : Str)) = false := by decide) : PE X (.Name x pos) (tC (.ref C)) := pe_glob hg hm rfl hd
theorem me_glob {x : Str} {v : VI} {y : V} {u : Value} (hg : Gl X x) (hm : X.mg x = some u) (r : RelV y u) (rv : ∀ ρ H, RV G ρ H v y) (hd : (x == ("__debug__" : Str)) = false := by decide) : PE X (.Name x pos) (rdE G W (eC v)) := me_c (pe_glob hg hm r hd) rv
def eKd (tbl : S → Option VI) (b : ME) : ME := fun σ h => (b σ h).bind fun v h1 => match v with
  | .str s => match tbl s with
    | some w => .ok w h1
    | none => .err
  | _ => .err
def KdOk (X : Cx) (G : Gx) (d : Addr) (tbl : S → Option VI) : Prop := ∀ s w, tbl s = some w → ∃ x, KDct X.K X.w d (toStr s) x ∧ ∀ ρ H, RV G ρ H w x
theorem me_kd {x : Str} {d : Addr} {tbl : S → Option VI} (ok : KdOk X G d tbl) (hg : Gl X x) (hm : X.mg x = some (.ref d)) (hb : PE X b (rdE G W mb)) (hs : PlainIx b) (hd : (x == ("__debug__" : Str)) = false := by decide) : PE X (.Subscript (.Name x p) b pos) (rdE G W (eKd tbl mb)) :=
  ⟨fun pins s σ H Q I ⟨ρ, σi, h, as, ag, fin⟩ => by
    have ha : PE X (.Name x p) (tC (.ref d)) := pe_glob hg hm rfl hd
    refine PyProof.Rows.Subscript_ (binT ha hb I (R := fun x y H2 => ∃ s' w z, x = .ref d ∧ y = .str (toStr s') ∧ KDct X.K X.w d (toStr s') w ∧ w = z ∧ Q z H2) ?_ fun v u s2 x y H2 I2 rx ry q => ?_)
    · exact rdG_go as ag fin fun ρ1 H1 h1 y y' st as ag r f => by
        cases r with
        | @str s1 z e =>
          dsimp only at f
          cases q : tbl s1 with
          | none => rw [q] at f; exact f.elim
          | some w =>
            rw [q] at f
            obtain ⟨wv, k1, k2⟩ := ok s1 w q
            exact ⟨s1, wv, wv, rfl, by rw [e], k1, rfl, f.ok ag (k2 _ _)⟩
        | _ => exact f.elim
    · obtain ⟨s', w, z, e1, e2, k, rfl, q⟩ := q
      subst e1
      subst e2
      exact ix_kdict (.Name x p) b pins s2 σ H2 _ _ v u Q I2 rx ry ⟨d, toStr s', w, rfl, rfl, k, q⟩ (hs _ _)⟩
def rgI (a b : Int) : List VI := (List.range (b - a).toNat).map fun i => VI.int (a + (i : Nat))
def rgOk (a b : Int) : Bool := (decide (-(2 ^ 62) ≤ a) && decide (a < 2 ^ 62)) && ((decide (-(2 ^ 62) ≤ b) && decide (b < 2 ^ 62)) && decide ((b - a).toNat ≤ 2 ^ 24))
theorem rgOk_ok {a b : Int} (h : rgOk a b = true) : RgOk a b := by
  unfold rgOk at h
  obtain ⟨h1, h2⟩ := Bool.and_eq_true_iff.mp h
  obtain ⟨h3, h4⟩ := Bool.and_eq_true_iff.mp h1
  obtain ⟨h5, h6⟩ := Bool.and_eq_true_iff.mp h2
  obtain ⟨h7, h8⟩ := Bool.and_eq_true_iff.mp h5
  exact ⟨of_decide_eq_true h3, of_decide_eq_true h4, of_decide_eq_true h7, of_decide_eq_true h8, of_decide_eq_true h6⟩
theorem rvs_map {ρ : List Addr} {H : Hp} (f : Nat → VI) (g : Nat → V) (hfg : ∀ i, RV G ρ H (f i) (g i)) : ∀ l : List Nat, RVs G ρ H (l.map f) (l.map g)
  | [] => .nil
  | i :: r => .cons (hfg i) (rvs_map f g hfg r)
theorem rgI_ok {ρ : List Addr} {H : Hp} (a b : Int) : RVs G ρ H (rgI a b) (rgV a b) := rvs_map _ _ (fun i => .int _) _
def eTupRg (a b : ME) : ME := fun σ h => (a σ h).bind fun x h1 => (b σ h1).bind fun y h2 => match x, y with
  | .int i, .int j => match rgOk i j with
    | true => .ok (.tup (rgI i j)) h2
    | false => .err
  | _, _ => .err
def eLstRg (a b : ME) : ME := fun σ h => (a σ h).bind fun x h1 => (b σ h1).bind fun y h2 => match x, y with
  | .int i, .int j => match rgOk i j with
    | true => .ok (.ref h2.length) (h2 ++ [.lst (rgI i j)])
    | false => .err
  | _, _ => .err
def eTupRg1 (b : ME) : ME := fun σ h => (b σ h).bind fun y h2 => match y with
  | .int j => match rgOk 0 j with
    | true => .ok (.tup (rgI 0 j)) h2
    | false => .err
  | _ => .err
def eLstRg1 (b : ME) : ME := fun σ h => (b σ h).bind fun y h2 => match y with
  | .int j => match rgOk 0 j with
    | true => .ok (.ref h2.length) (h2 ++ [.lst (rgI 0 j)])
    | false => .err
  | _ => .err
theorem me_tupRg2 {rp : Pos} (hc : X.calm = true) (hg : Gl X "tuple") (hm : X.mg "tuple" = none) (hg2 : Gl X "range") (hm2 : X.mg "range" = none) (ha : PE X a (rdE G W ma)) (hb : PE X b (rdE G W mb))
    (na : starEach [a, b] X.env = (false, eval a X.env) :: starEach [b] X.env := by rfl) (nb : starEach [b] X.env = (false, eval b X.env) :: starEach [] X.env := by rfl) (hp : (backTo pos' (starEach [b] X.env)).any (·.1) = false := by rfl)
    (nr : starEach [.Call (.Name "range" rp) [a, b] [] pos'] X.env = (false, eval (.Call (.Name "range" rp) [a, b] [] pos') X.env) :: starEach [] X.env := by rfl) :
    PE X (.Call (.Name "tuple" p) [.Call (.Name "range" rp) [a, b] [] pos'] [] pos) (rdE G W (eTupRg ma mb)) :=
  PE.imp' (pe_tupRg hc hg hm (prg_2 hg2 hm2 ha hb na nb hp) nr) fun σ H Q ⟨ρ, σi, h, as, ag, fin⟩ => rdG_go as ag fin fun ρ1 H1 h1 x x' st as ag r f => rdG_go as ag f fun ρ2 H2 h2 y y' st2 as ag r2 f => by
    cases r with
    | int i =>
      cases r2 with
      | int j =>
        dsimp only at f
        cases q : rgOk i j with
        | false => rw [q] at f; exact f.elim
        | true =>
          rw [q] at f
          exact ⟨i, j, rfl, rfl, rgOk_ok q, fun p hp => f ρ2 _ _ (Stp.more hp) (ag.more hp) (.tup (.inl (.inl upd_same)) (rgI_ok i j))⟩
      | _ => exact f.elim
    | _ => exact f.elim
def eChain (f g : Op2) (a b c : ME) : ME := fun σ h => (a σ h).bind fun x h1 => (b σ h1).bind fun y h2 => (ofO (f x y h2)).bind fun z h3 => match z with
  | .bl true => (c σ h3).bind fun w h4 => ofO (g y w h4)
  | .bl false => .ok (.bl false) h3
  | _ => .err
theorem me_chain {f g : Op2} {op op' : CmpOp} {mc : ME} (ho : OpR X (compareOp op) (rd2 G f)) (ho' : OpR X (compareOp op') (rd2 G g)) (ha : PE X a (rdE G W ma)) (hb : PE X b (rdE G W mb)) (hc : PE X c (rdE G W mc))
    (hm : lastMarks [op, op'] [b, c] = false := by with_unfolding_all rfl) : PE X (.Compare a [op, op'] [b, c] pos) (rdE G W (eChain f g ma mb mc)) :=
  PE.imp' (pe_chain ho ho' ha hb hc hm) fun σ H Q ⟨ρ, σi, h, as, ag, fin⟩ => rdG_go as ag fin fun ρ1 H1 h1 x x' st as ag r f1 => rdG_go as ag f1 fun ρ2 H2 h2 y y' st2 as ag r2 f2 => by
    refine ⟨ρ2, h2, x, y, ag, r.mono st2, r2, ?_⟩
    cases q : f x y h2 with
    | none => rw [q] at f2; exact f2.elim
    | some zh =>
      obtain ⟨z, h3⟩ := zh
      rw [q] at f2
      intro ρ3 H3 z' st3 ag3 rz
      have f3 := FinG.later st3 f2
      dsimp only [ofO, Res.bind] at f3
      cases rz with
      | bl k =>
        refine ⟨k, rfl, ?_⟩
        cases k with
        | true =>
          rw [if_pos rfl]
          exact rdG_go (as.mono st3) ag3 f3 fun ρ4 H4 h4 w w' st4 as ag r4 f4 => ⟨ρ4, h4, y, w, ag, r2.mono (st3.trans st4), r4, FinO.of f4⟩
        | false =>
          rw [if_neg Bool.false_ne_true]
          exact f3.ok ag3 (.bl _)
      | _ => exact f3.elim
end
section
variable {G : Gx} {W : WX} {X : Cx} {c : Expr} {body : List Stmt} {pos : Pos} {mt : MT} {mb : MS}
end
def iAdd : Op2 := fun x y h => match x, y with
  | .int i, .int j => some (.int (i + j), h)
  | _, _ => none
def iSub : Op2 := fun x y h => match x, y with
  | .int i, .int j => some (.int (i - j), h)
  | _, _ => none
def sAug (i : Nat) (f : Op2) (e : ME) : MS := fun σ h => match σ[i]? with
  | some (some x) => (e σ h).bindS σ fun y h1 => match f x y h1 with
    | some (z, h2) => .nx (σ.set i (some z)) h2
    | none => .err
  | _ => .err
section
variable {G : Gx} {ρ : List Addr} {h : Hi} {H : Hp} {W : WX} {X : Cx} {e a b o : Expr} {pos pos' : Pos} {me ma mb : ME} {i : Nat} {x : Str} {f : Op2}
end
end ML
end
section
namespace ML
open PySem L2 PyProof.Rows
theorem key_nr {P : Program} {w : World} : ∀ k key, (mixKind P w).is k key = true → ∀ a, key ≠ .ref a := fun k key h a e => by
  rcases keyIs_shape h with ⟨i, t, _, e2⟩ | ⟨x, t, _, e2⟩
  · rw [e2] at e; cases e
  · rw [e2] at e; cases e
section
variable {X : Cx} {e k v : Expr} {pos : Pos} {td tk tv : TE}
end
def mrgTail (n c : Nat) (k v : ME) : ME := fun σ h2 => (k σ h2).bind fun y h3 => (v σ h3).bind fun z h4 => match isKey y, h4[n]?, h4[c]? with
  | true, some (.dic kvs2), some (.dic []) => match small (kvs2.length + 1) with
    | true => .ok (.ref n) ((h4.set c (.dic [(y, z)])).set n (.dic (putD y z kvs2)))
    | false => .err
  | _, _, _ => .err
def eMrg (e k v : ME) : ME := fun σ h => (e σ (h ++ [.dic []])).bind fun x h1 => match x with
  | .ref m => match Nat.beq m h.length, h1[h.length]?, h1[m]? with
    | false, some (.dic []), some (.dic kvs) => match small (kvs.length + 1) with
      | true => mrgTail h.length h1.length k v σ (h1.set h.length (.dic (putAll kvs [])) ++ [.dic []])
      | false => .err
    | _, _, _ => .err
  | _ => .err
section
variable {G : Gx} {ρ : List Addr} {h : Hi} {H : Hp} {W : WX} {X : Cx} {e k v : Expr} {pos : Pos} {me mk mv : ME}
theorem Ag.ne (ag : Ag G ρ h H) {m n : Nat} {a b : Addr} (hm : ρ[m]? = some a) (hn : ρ[n]? = some b) (q : m ≠ n) : a ≠ b := fun z => by
  subst z
  obtain ⟨h1, e1⟩ := List.getElem?_eq_some_iff.mp hm
  obtain ⟨h2, e2⟩ := List.getElem?_eq_some_iff.mp hn
  have pw := List.pairwise_iff_getElem.mp ag.nd
  rcases Nat.lt_trichotomy m n with l | l | l
  · exact pw m n h1 h2 l (e1.trans e2.symm)
  · exact q l
  · exact pw n m h2 h1 l (e2.trans e1.symm)
end
end ML
end
section
namespace ML
open PySem L2 PyProof.Rows
structure FnP (X : Cx) (G : Gx) (k : Nat) (f : Addr) (fd : FuncData) (ps : List Str) (g : MF) : Prop where
  ok : FnOk X.prog X.w X.K X.mg X.base (L2.CX X.prog X.w) k f fd ps (spM G ps.length g)
  ar : Arity ps.length g
  room : Room (k + 2) X.A
def CallAt (X : Cx) (A : Around) (G : Gx) (W : WX) (fv : Value) (g : MF) : Prop :=
  ∀ (pins : List (Addr × Obj)) (s : Shared) (σ : L2.St) (H : Hp) (us : List Value) (vs : List V) (args : List VI) (ρ : List Addr) (h : Hi) (Q : VK), Inv X pins σ H s → Vals vs us → RVs G ρ H args vs → Ag G ρ h H →
    FinG G ρ H (RV G) Q (fun c d H' => W c d σ H') (g args h) → wpAny (model X.prog X.w) A (call fv us) (EP X pins σ Q) X.xe s
section
variable {G : Gx} {W : WX} {X : Cx} {A : Around} {ρ : List Addr} {h : Hi} {H : Hp} {σ : L2.St} {k np : Nat} {f C : Addr} {fd : FuncData} {ps : List Str} {g : MF}
theorem env0_at (e : Env0 X.prog X.w X.K X.mg X.base X.A X.stack s H) (fr : A.frames = X.A.frames) : Env0 X.prog X.w X.K X.mg X.base A X.stack s H := ⟨by rw [fr]; exact e.frames, e.mod, e.bs, e.bsz, e.funs, e.frf, e.hok, e.bare⟩
theorem callAt_of (F : FnOk X.prog X.w X.K X.mg X.base (L2.CX X.prog X.w) k f fd ps (spM G ps.length g)) (ar : Arity ps.length g) (hr : Room k A) (fr : A.frames = X.A.frames) (hb : Binds X.K fd ps []) (tk : Takes X W) : CallAt X A G W (.ref f) g := by
  intro pins s σ H us vs args ρ h Q I r ra ag fin
  by_cases hl : args.length = ps.length
  · have hsp : spM G ps.length g vs H Q (WE W σ) := ⟨ρ, h, args, hl, ag, ra, fin⟩
    have lu : us.length = ps.length := by rw [← r.length, ← ra.length]; exact hl
    have b := hb s us I.kIn (by rw [List.append_nil]; exact lu)
    rw [List.append_nil] at b
    refine wpAny_call (codeAny_mono (F.run _ _ s H ⟨us, []⟩ us vs Q (WE W σ) hr (env0_at I.env0 fr) b r hsp) fun res s' hq => ?_)
    match res, hq with
    | .error e, hq => exact passAt tk σ pins H s e s' I hq
    | .ok (.ret u), hq => exact I.after hq
  · rw [ar args h hl] at fin
    exact fin.elim
theorem FnP.call (F : FnP X G k f fd ps g) (hb : Binds X.K fd ps []) (tk : Takes X W) : CallM X G W (.ref f) g := callM_fn F.ok F.ar (F.room.mono (by omega)) hb tk
theorem FnP.at0 (F : FnP X G k f fd ps g) (hb : Binds X.K fd ps []) (tk : Takes X W) : CallAt X X.A G W (.ref f) g := callAt_of F.ok F.ar (F.room.mono (by omega)) rfl hb tk
theorem FnP.at1 (F : FnP X G k f fd ps g) (hb : Binds X.K fd ps []) (tk : Takes X W) : CallAt X X.A.in1 G W (.ref f) g := callAt_of F.ok F.ar ((F.room.mono (show k + 1 ≤ k + 2 by omega)).in1) rfl hb tk
end
structure Bnd (G : Gx) (K : PySem.W.Frag) (fd : FuncData) (ps : List Str) (n : Nat) (ks : List Str) (arr : List VI → List VI → List VI) : Prop where
  ex : ∃ (gu : List Value → List Value → List Value) (gV : List V → List V → List V), KBn K fd ps n ks gu gV ∧
    ∀ (ρ : List Addr) (H : Hp) (args zargs : List VI) (vs zs : List V), RVs G ρ H args vs → RVs G ρ H zargs zs → args.length = n → zargs.length = ks.length → RVs G ρ H (arr args zargs) (gV vs zs)
abbrev MK := List VI → List VI → Hi → Res VI
def CallK (X : Cx) (G : Gx) (W : WX) (fv : Value) (n : Nat) (ks : List Str) (g : MK) : Prop :=
  ∀ (pins : List (Addr × Obj)) (s : Shared) (σ : L2.St) (H : Hp) (us ws : List Value) (vs zs : List V) (args zargs : List VI) (ρ : List Addr) (h : Hi) (Q : VK), Inv X pins σ H s → Vals vs us → Vals zs ws → RVs G ρ H args vs → RVs G ρ H zargs zs → Ag G ρ h H →
    args.length = n → zargs.length = ks.length → FinG G ρ H (RV G) Q (fun c d H' => W c d σ H') (g args zargs h) → wpAny (model X.prog X.w) X.A (call fv us (ks.zip ws)) (EP X pins σ Q) X.xe s
def fnK (g : MF) (arr : List VI → List VI → List VI) : MK := fun vs zs h => g (arr vs zs) h
def mkK (c : Nat) (g : MF) (arr : List VI → List VI → List VI) : MK := fun vs zs h => match g (arr (.ref h.length :: vs) zs) (h ++ [.ins c []]) with
  | .ok .non h2 => .ok (.ref h.length) h2
  | .ex c n h2 => .ex c n h2
  | _ => .err
def eCallK (n m : Nat) (g : MK) (ma mk : MA) : ME := fun σ h => (ma σ h).bind fun vs h1 => (mk σ h1).bind fun zs h2 => match Nat.beq vs.length n && Nat.beq zs.length m with
  | true => g vs zs h2
  | false => .err
section
variable {G : Gx} {W : WX} {X : Cx} {A : Around} {ρ : List Addr} {h : Hi} {H : Hp} {σ : L2.St} {k n : Nat} {f C : Addr} {fd : FuncData} {ps ks : List Str} {g : MF} {gk : MK} {arr : List VI → List VI → List VI} {x : Str} {p pos kpos : Pos} {e : Expr} {es : List Expr} {kws : List Keyword} {ma mk : MA} {me : ME} {nm : Option Str} {fv : Value}
theorem mk_nil : PK X [] (rdA G W aNil) := ⟨fun pos pins s σ H Q I ⟨ρ, σi, h, as, ag, f⟩ => pk_nil.run pos pins s σ H Q I (f.ok ag .nil)⟩
theorem mk_cons (ha : PE X e (rdE G W me)) (hr : PK X kws (rdA G W mk)) : PK X (⟨nm, e, kpos⟩ :: kws) (rdA G W (aCons me mk)) :=
  ⟨fun pos pins s σ H Q I ⟨ρ, σi, h, as, ag, f⟩ => (pk_cons ha hr).run pos pins s σ H Q I (rdG_go as ag f fun ρ1 H1 h1 x y st as ag r f => rdG_go as ag f fun ρ2 H2 h2 xs ys st2 as ag rs f => f.ok ag (.cons (r.mono st2) rs))⟩
theorem callK_make {c : Nat} (M : Mk X.K C f) (hc : G.ct c = some C) (F : FnP X G k f fd ps g) (hb : Bnd G X.K fd ps (n + 1) ks arr) (tk : Takes X W) : CallK X G W (.ref C) n ks (mkK c g arr) := by
  intro pins s σ H us ws vs zs args zargs ρ h Q I r rz ra rza ag l1 l2 fin
  obtain ⟨gu, gV, kb, hrel⟩ := hb.ex
  have n0 : H (s.heap.objs.size + 1) = none := I.hok.fresh (Nat.le_succ _)
  have n1 : H s.heap.objs.size = none := I.hok.fresh (Nat.le_refl _)
  have ne : s.heap.objs.size ≠ s.heap.objs.size + 1 := Nat.ne_of_lt (Nat.lt_succ_self _)
  have I2 := L2.Inv.made (C := C) I
  have st1 : Stp G ρ H ρ (upd H s.heap.objs.size (.own (s.heap.objs.size + 1))) := Stp.more n1
  have a1 : Ag G ρ h (upd H s.heap.objs.size (.own (s.heap.objs.size + 1))) := ag.more n1
  have n2 : upd H s.heap.objs.size (.own (s.heap.objs.size + 1)) (s.heap.objs.size + 1) = none := by rw [upd_ne ne.symm]; exact n0
  have st2 := Stp.new (G := G) (ρ := ρ) (o := .ins C s.heap.objs.size []) n2
  have a2 := a1.new (o := .ins C s.heap.objs.size []) (u := .ins c []) n2 ⟨C, s.heap.objs.size, [], hc, upd_same, .nil⟩
  have st := st1.trans st2
  have hx : (ρ ++ [s.heap.objs.size + 1])[h.length]? = some (s.heap.objs.size + 1) := by rw [← ag.len]; simp
  have rA := hrel _ _ (VI.ref h.length :: args) zargs (V.ref (s.heap.objs.size + 1) :: vs) zs (.cons (.ref hx) (ra.mono st)) (rza.mono st) (by rw [List.length_cons, l1]) l2
  unfold mkK at fin
  by_cases hl : (arr (VI.ref h.length :: args) zargs).length = ps.length
  · have hsp : spM G ps.length g (gV (.ref (s.heap.objs.size + 1) :: vs) zs) (upd (upd H s.heap.objs.size (.own (s.heap.objs.size + 1))) (s.heap.objs.size + 1) (.ins C s.heap.objs.size [])) (fun v H2 => v = .non ∧ Q (.ref (s.heap.objs.size + 1)) H2) (WE W σ) := by
      refine ⟨_, _, _, hl, a2, rA, ?_⟩
      cases q : g (arr (.ref h.length :: args) zargs) (h ++ [.ins c []]) with
      | err => rw [q] at fin; exact fin.elim
      | ex c' n h2 => rw [q] at fin; exact fun ρ' H' d C' s a hn hc => fin ρ' H' d C' (st.trans s) a hn hc
      | ok v h2 =>
        rw [q] at fin
        cases v with
        | non =>
          exact fun ρ' H' x s a rx => by
            cases rx
            exact ⟨rfl, fin ρ' H' _ (st.trans s) a (.ref (s.pre _ _ hx))⟩
        | _ => exact fin.elim
    have r1 : Vals (V.ref (s.heap.objs.size + 1) :: vs) (Value.ref (s.heap.objs.size + 1) :: us) := .cons rfl r
    have lu : (Value.ref (s.heap.objs.size + 1) :: us).length = n + 1 := by rw [List.length_cons, ← r.length, ← ra.length, l1]
    have lw : ws.length = ks.length := by rw [← rz.length, ← rza.length]; exact l2
    have hr : Room (k + 1) X.A := F.room.mono (by omega)
    refine wpAny_call (make_map (f := f) I.kIn M.makes M.init (beq_iff_eq.mp M.fn) (codeAny_mono (F.ok.run _ _ _ _ ⟨Value.ref (s.heap.objs.size + 1) :: us, ks.zip ws⟩ _ _ _ (WE W σ) (hr.make C us (ks.zip ws)) (I2.env0.make C us (ks.zip ws)) (kb.to _ _ ws I2.kIn lu lw) (kb.rel r1 rz) hsp) fun res s' hq => ?_))
    match res, hq with
    | .error e, hq => exact passAt tk σ pins _ _ e s' I2 hq
    | .ok (.ret u), hq =>
      obtain ⟨v, H', I3, rv, ev, q3⟩ := I2.after hq
      subst ev
      exact ⟨rv, ⟨V.ref (s.heap.objs.size + 1), H', I3, rfl, q3⟩⟩
  · rw [F.ar _ _ hl] at fin
    exact fin.elim
theorem me_callK (c : CallK X G W fv n ks gk) (hg : Gl X x) (hm : X.mg x = some fv) (hkp : PySem.W.keepIn X.K fv = true) (ha : PA X (e :: es) (rdA G W ma)) (hkw : PK X kws (rdA G W mk))
    (hall : (backToKw pos (keywordEach kws X.env)).all (·.1.isSome) = true := by rfl) (hks : (backToKw pos (keywordEach kws X.env)).filterMap (·.1) = ks := by rfl) (hdb : (x == ("__debug__" : Str)) = false := by decide)
    (he : starEach (e :: es) X.env = (false, eval e X.env) :: starEach es X.env := by rfl) (hpl : ((backTo pos (starEach (e :: es) X.env)).any (·.1) || (backToKw pos (keywordEach kws X.env)).any (·.1.isNone)) = false := by rfl) :
    PE X (.Call (.Name x p) (e :: es) kws pos) (rdE G W (eCallK n ks.length gk ma mk)) := by
  refine ⟨fun pins s σ H Q I ⟨ρ, σi, h, as, ag, fin⟩ => ?_⟩
  refine wpAny_Call_Name_kw (ld_glob I hg hm ?_ hdb)
  have B : rdA G W ma σ H fun vs H1 => rdA G W mk σ H1 fun zs H2 => ∃ ρ2 h2 args zargs, RVs G ρ2 H2 args vs ∧ RVs G ρ2 H2 zargs zs ∧ Ag G ρ2 h2 H2 ∧ args.length = n ∧ zargs.length = ks.length ∧ FinG G ρ2 H2 (RV G) Q (fun c d H' => W c d σ H') (gk args zargs h2) :=
    rdG_go as ag fin fun ρ1 H1 h1 xs ys st as ag r f => rdG_go as ag f fun ρ2 H2 h2 zs ws st2 as ag rz f => by
      cases q : Nat.beq xs.length n && Nat.beq zs.length ks.length with
      | false => rw [q] at f; exact f.elim
      | true =>
        rw [q] at f
        obtain ⟨q1, q2⟩ := Bool.and_eq_true_iff.mp q
        exact ⟨ρ2, h2, xs, zs, r.mono st2, rz, ag, Nat.eq_of_beq_eq_true q1, Nat.eq_of_beq_eq_true q2, f⟩
  refine PySem.W.callWith_KW (h₀ := X.base) I.ok.mod.kin hkp hall (thn (ha.run pos pins s σ H _ I B) fun us s1 ⟨vs, H1, I1, r, q⟩ => ?_) hpl he
  refine thn (hkw.run pos pins s1 σ H1 _ I1 q) fun ws s2 ⟨zs, H2, I2, rz, ρ2, h2, args, zargs, ra, rza, ag2, l1, l2, f2⟩ => ⟨I2.kIn, ?_⟩
  rw [hks]
  exact c pins s2 σ H2 us ws vs zs args zargs ρ2 h2 Q I2 r rz ra rza ag2 l1 l2 f2
theorem me_callK0 (c : CallK X G W fv 0 ks gk) (hg : Gl X x) (hm : X.mg x = some fv) (hkp : PySem.W.keepIn X.K fv = true) (hkw : PK X kws (rdA G W mk))
    (hall : (backToKw pos (keywordEach kws X.env)).all (·.1.isSome) = true := by rfl) (hks : (backToKw pos (keywordEach kws X.env)).filterMap (·.1) = ks := by rfl) (hdb : (x == ("__debug__" : Str)) = false := by decide)
    (hpl : ((backTo pos (starEach [] X.env)).any (·.1) || (backToKw pos (keywordEach kws X.env)).any (·.1.isNone)) = false := by rfl) :
    PE X (.Call (.Name x p) [] kws pos) (rdE G W (eCallK 0 ks.length gk aNil mk)) := by
  refine ⟨fun pins s σ H Q I ⟨ρ, σi, h, as, ag, fin⟩ => ?_⟩
  refine wpAny_Call_Name_kw (ld_glob I hg hm ?_ hdb)
  have B : rdA G W mk σ H fun zs H2 => ∃ ρ2 h2 zargs, RVs G ρ2 H2 zargs zs ∧ Ag G ρ2 h2 H2 ∧ zargs.length = ks.length ∧ FinG G ρ2 H2 (RV G) Q (fun c d H' => W c d σ H') (gk [] zargs h2) :=
    rdG_go as ag (show FinG G ρ H (RV G) Q (fun c d H' => W c d σ H') ((mk _ h).bind _) from fin) fun ρ2 H2 h2 zs ws st2 as ag rz f => by
      cases q : Nat.beq ([] : List VI).length 0 && Nat.beq zs.length ks.length with
      | false => rw [q] at f; exact f.elim
      | true =>
        rw [q] at f
        obtain ⟨q1, q2⟩ := Bool.and_eq_true_iff.mp q
        exact ⟨ρ2, h2, zs, rz, ag, Nat.eq_of_beq_eq_true q2, f⟩
  refine PySem.W.callWith_KW0 (h₀ := X.base) I.ok.mod.kin hkp hall ?_ hpl
  refine thn (hkw.run pos pins s σ H _ I B) fun ws s2 ⟨zs, H2, I2, rz, ρ2, h2, zargs, rza, ag2, l2, f2⟩ => ⟨I2.kIn, ?_⟩
  rw [hks]
  exact c pins s2 σ H2 [] ws [] zs [] zargs ρ2 h2 Q I2 .nil rz .nil rza ag2 rfl l2 f2
end
end ML
end
section
namespace ML
open PySem L2 PyProof.Rows
structure SpOk (X : Cx) (A : Around) (G : Gx) (W : WX) (tbl : Nat → Option MF) (nm : Str) : Prop where
  at_ : ∀ c C g, tbl c = some g → G.ct c = some C → ∃ f, PySem.W.noSeq X.K C = true ∧ PySem.W.findIn X.K (.ref C) nm = some (some (.ref f)) ∧ PySem.W.fnIn X.K f = true ∧ PySem.W.isFn X.K (.ref f) = true ∧ CallAt X A G W (.ref f) g
def insC (x : VI) (h : Hi) : Option Nat := match x with
  | .ref n => match h[n]? with
    | some (.ins c _) => some c
    | _ => none
  | _ => none
def eIxU (tbl : Nat → Option MF) (a b : ME) : ME := fun σ h => (a σ h).bind fun x h1 => (b σ h1).bind fun y h2 => match insC x h2 with
  | some c => match tbl c with
    | some g => g [x, y] h2
    | none => .err
  | none => ofO (fIx x y h2)
section
variable {G : Gx} {ρ : List Addr} {h : Hi} {H : Hp} {W : WX} {X : Cx} {A : Around} {e a b c o i v : Expr} {es : List Expr} {pos p pos' apos : Pos} {me mi mo ma mb mv : ME} {mr : MA} {tbl : Nat → Option MF} {σ : L2.St}
theorem insC_ok {x : VI} {y : V} {cn : Nat} (ag : Ag G ρ h H) (r : RV G ρ H x y) (q : insC x h = some cn) : ∃ a C dx gs, y = .ref a ∧ G.ct cn = some C ∧ H a = some (.ins C dx gs) := by
  unfold insC at q
  cases r with
  | @ref n a e =>
    dsimp only at q
    cases q1 : h[n]? with
    | none => rw [q1] at q; cases q
    | some ob =>
      rw [q1] at q
      cases ob with
      | ins c fs =>
        cases q
        obtain ⟨C, dx, gs, hc, hH, _⟩ := insAt ag q1 e
        exact ⟨a, C, dx, gs, rfl, hc, hH⟩
      | _ => cases q
  | _ => cases q
theorem insC_look {pins : List (Addr × Obj)} {s : Shared} {a C dx : Addr} {gs : List (Str × V)} (I : Inv X pins σ H s) (hH : H a = some (.ins C dx gs)) : ∃ m, Fr X.base X.env.locals s.heap m ∧ ∃ ox od, PySem.W.InstAt s.heap a ox C od := by
  obtain ⟨mA, O, _, _, _, _⟩ := ins_get I.hok hH
  obtain ⟨od, J, _⟩ := O.look
  obtain ⟨m, hF⟩ := I.fr
  exact ⟨m, hF, _, _, J⟩
theorem me_ixU (hG : G.K = X.K) (hu : X.A.units + 1 < cLine) (sp : SpOk X X.A.in1 G W tbl "__getitem__") (ha : PE X a (rdE G W ma)) (hb : PE X b (rdE G W mb)) (hs : PlainIx b)
    (hsl : ∀ x i, subscripted b true (.ref x) i = runValue (.builtin "lifetime.subscript" ⟨[.ref x, i], []⟩) := by intros; with_unfolding_all rfl) : PE X (.Subscript a b pos) (rdE G W (eIxU tbl ma mb)) := by
  refine ⟨fun pins s σ H Q I ⟨ρ, σi, h, as, ag, fin⟩ => ?_⟩
  refine PyProof.Rows.Subscript_ (binT ha hb I (R := fun x y H2 => IxK X H2 x y Q ∨ ∃ ρ2 h2 xi yi cn g, Ag G ρ2 h2 H2 ∧ RV G ρ2 H2 xi x ∧ RV G ρ2 H2 yi y ∧ insC xi h2 = some cn ∧ tbl cn = some g ∧ FinG G ρ2 H2 (RV G) Q (fun c d H' => W c d σ H') (g [xi, yi] h2)) ?_ fun v u s2 x y H2 I2 rx ry q => ?_)
  · exact rdG_go as ag fin fun ρ1 H1 h1 x x' st as ag r f => rdG_go as ag f fun ρ2 H2 h2 y y' st2 as ag rs f => by
      cases q1 : insC x h2 with
      | none => rw [q1] at f; exact .inl (ix_kind hG ag (r.mono st2) rs (FinO.of f))
      | some cn =>
        rw [q1] at f
        dsimp only at f
        cases q2 : tbl cn with
        | none => rw [q2] at f; exact f.elim
        | some g => rw [q2] at f; exact .inr ⟨ρ2, h2, x, y, cn, g, ag, r.mono st2, rs, q1, q2, f⟩
  · rcases q with q | ⟨ρ2, h2, xi, yi, cn, g, ag2, r1, r2, q1, q2, f⟩
    · cases q with
      | ix r hr q => exact hr a b pins s2 σ H2 x y v u Q I2 rx ry q (hs _ _)
      | dict d w e g q =>
        subst e
        obtain rfl : v = Value.ref d := rx
        exact PyProof.Rows.tail_any (dict_typeIs I2 g) PySem.F.slot_dict_getitem.lookup (d_getItem hu I2 g ry fun w' s3 I3 rw' => ⟨w, H2, I3, rw', q⟩) (hs _ _)
    · obtain ⟨ad, C, dx, gs, ex, hc, hH⟩ := insC_ok ag2 r1 q1
      subst ex
      obtain rfl : v = Value.ref ad := rx
      obtain ⟨f', k1, k2, k3, k4, k5⟩ := sp.at_ cn C g q2 hc
      obtain ⟨m, hF, ox, od, J⟩ := insC_look I2 hH
      exact PySem.W.sub_K hF I2.ok.mod.kin J k2 k3 k4 (k5 pins s2 σ H2 [.ref ad, u] [.ref ad, y] [xi, yi] ρ2 h2 Q I2 (.cons rfl (.cons ry .nil)) (.cons r1 (.cons r2 .nil)) ag2 f) (hsl _ _)
end
def dropV (σ : Sg) : Res VI → RS
  | .ok _ h => .nx σ h
  | .ex c n h => .ex c n σ h
  | .err => .err
def gIxU (tbl : Nat → Option MF) (o i : ME) : MG := fun v σ h => (o σ h).bindS σ fun x h1 => (i σ h1).bindS σ fun y h2 => match insC x h2 with
  | some c => match tbl c with
    | some g => dropV σ (g [x, y, v] h2)
    | none => .err
  | none => nxO σ (putIx x y v h2)
section
variable {G : Gx} {ρ : List Addr} {h : Hi} {H : Hp} {W : WX} {X : Cx} {A : Around} {e a b c o i v : Expr} {es : List Expr} {pos p pos' apos : Pos} {me mi mo ma mb mv : ME} {mr : MA} {tbl : Nat → Option MF}
end
end ML
end
section
namespace ML
open PySem L2 NdefX
open PyProof.Rows hiding wpAt
structure PSsT (X : Cx) (body st : List Stmt) (t : TS) : Prop where
  run : ∀ (pins : List (Addr × Obj)) (s : Shared) (σ : L2.St) (H : Hp) (D : Ends), Inv X pins σ H s → t D σ H → wpAt (model X.prog X.w) X.A (.func body X.env) (execs st X.env) (SP X pins D) X.xe s
structure PST (X : Cx) (body : List Stmt) (st : Stmt) (t : TS) : Prop where
  run : ∀ (pins : List (Addr × Obj)) (s : Shared) (σ : L2.St) (H : Hp) (D : Ends), Inv X pins σ H s → t D σ H → wpAt (model X.prog X.w) X.A (.func body X.env) (exec st X.env) (SP X pins D) X.xe s
theorem PSsT.of {X : Cx} {body st : List Stmt} {t : TS} (h : PSs X st t) : PSsT X body st t := ⟨fun pins s σ H D I q => wpAt_of_wpAny (h.run pins s σ H D I q)⟩
theorem PST.of {X : Cx} {body : List Stmt} {st : Stmt} {t : TS} (h : PS X st t) : PST X body st t := ⟨fun pins s σ H D I q => wpAt_of_wpAny (h.run pins s σ H D I q)⟩
theorem PSsT.imp' {X : Cx} {body st : List Stmt} {t t' : TS} (h : PSsT X body st t) (i : ∀ D σ H, t' D σ H → t D σ H) : PSsT X body st t' := ⟨fun pins s σ H D I q => h.run pins s σ H D I (i D σ H q)⟩
theorem PST.imp' {X : Cx} {body : List Stmt} {st : Stmt} {t t' : TS} (h : PST X body st t) (i : ∀ D σ H, t' D σ H → t D σ H) : PST X body st t' := ⟨fun pins s σ H D I q => h.run pins s σ H D I (i D σ H q)⟩
structure FunS (K : PySem.W.Frag) (x qual : Str) (params : Arguments) (body : List Stmt) (scope : Scope) (dvs : List V) (kws : List (Str × V)) (f : Addr) (fd : FuncData) (cc D c : Addr) (file : Str) : Prop where
  ex : ∃ (oc : Value) (od : Option Addr) (dV kV doc pm : Value) (an : Option Addr) (ct : Value) (osl : Array (Option Value)),
    fd = PySem.W.fnX x qual params body scope [("__class__", cc)] dV kV doc pm an (.ref c) ct ∧ K.lookup f = some ⟨oc, od, .func fd, osl⟩ ∧ DflV K dV dvs ∧ KwdV K kV kws
  code : PySem.W.codeIn K (.ref c) qual = true
  file : ∃ (o : Obj) (vs : Array Value) (tf : Tok), K.lookup c = some o ∧ o.data = .fields vs ∧ vs[2]? = some (.str file tf)
  cell : ∃ o : Obj, K.lookup cc = some o ∧ o.data = .cell (some (.ref D))
  kp : PySem.W.keepIn K (.ref f) = true
abbrev nfS (x qual : Str) (params : Arguments) (body : List Stmt) (scope : Scope) (cc c : Addr) : NF := ⟨x, qual, params, body, scope, [("__class__", cc)], c⟩
section
variable {P : Program} {w : World} {K : PySem.W.Frag} {mg : Str → Option Value} {base : Heap} {x qual : Str} {params : Arguments} {body : List Stmt} {scope : Scope} {dvs : List V} {kws : List (Str × V)} {f cc D c : Addr} {fd : FuncData} {file : Str} {N ps : List Str} {k : Nat} {sp : Sp} {CX : CXT}
theorem FunS.cells {A : Around} {outer : List Env} {s : Shared} {H : Hp} (F : FunS K x qual params body scope dvs kws f fd cc D c file) (e0 : Env0 P w K mg base A outer s H) : CellsAt [("__class__", cc)] ["__class__"] [some (.ref D)] s.heap H := by
  obtain ⟨o, lo, od⟩ := F.cell
  have hb := e0.mod.kin cc o lo
  obtain ⟨hs, hn⟩ := e0.bs cc o hb
  have cellAt : s.heap.IsCell cc (some (.ref D)) := ⟨o, hs, od⟩
  refine ⟨rfl, fun y c' e => ?_, fun x y c' e1 e2 => ?_, fun i y e => ?_⟩
  · simp only [List.lookup] at e
    split at e
    · cases e; exact ⟨hn, _, cellAt⟩
    · cases e
  · simp only [List.lookup] at e1 e2
    split at e1
    · rename_i h1
      split at e2
      · rename_i h2
        rw [beq_iff_eq.mp h1, beq_iff_eq.mp h2]
      · cases e2
    · cases e1
  · cases i with
    | zero =>
      simp at e
      subst e
      refine ⟨cc, by simp [List.lookup], fun v hv => ?_⟩
      simp at hv
      subst hv
      exact ⟨_, rfl, cellAt⟩
    | succ i => simp at e
theorem FunS.ok (F : FunS K x qual params body scope dvs kws f fd cc D c file) (S : NScope N ps ["__class__"] scope) (len : ∀ vs H Q E, sp vs H Q E → vs.length = ps.length)
    (hbody : ∀ (A : Around) (outer : List Env) (s : Shared) (H : Hp) (vs : List V) (Q : VK) (E : XK), Room k (A.deeper (envF (nfS x qual params body scope cc c) f s.heap.objs.size)) → sp vs H Q E →
      ∃ t, PSsT (ncx CX P w K mg base N (nfS x qual params body scope cc c) f A outer s H E) body body t ∧ t { nx := fun _ H' => Q .non H', rt := Q } (startF N vs [some (.ref D)]) H) : FnOk P w K mg base CX (k + 1) f fd ps sp := by
  obtain ⟨oc, od, dV, kV, doc, pm, an, ct, osl, rfl, lk, _, _⟩ := F.ex
  refine ⟨len, fun A outer s H args us vs Q E hr e0 hb r hsp => ?_⟩
  have hl := len _ _ _ _ hsp
  have KX : K.In s.heap := e0.mod.kin.keeps fun b o e => (e0.bs b o e).1
  have lim : s.heap.NoLimit := e0.mod.nolimit.keeps fun b o e => (e0.bs b o e).1
  refine ks_codeAny_call_defAt (body := body) (binds := ps.zip us) hr.depth (KX _ _ lk) rfl lim (PySem.W.codeRec_of KX F.code) rfl hb S.nocell (fun ⟨n, _⟩ hy => S.par n (List.of_mem_zip hy).1) (fun h₁ hns kp => ?_) S.co S.gen S.kind
  obtain ⟨t, ht, hq⟩ := hbody A outer s H vs Q E (hr.deeper _) hsp
  have I : Inv (ncx CX P w K mg base N (nfS x qual params body scope cc c) f A outer s H E) [] (startF N vs [some (.ref D)]) H { s with heap := h₁, toks := s.toks + (ps.zip us).length } := inv_startN S hr.hd e0 hl r (F.cells e0) hns kp
  refine ks_wpAt_mono (ht.run [] _ (startF N vs [some (.ref D)]) H _ I hq) (fun fl s' hs => ?_) fun e s' hs => hs
  have fin : ∀ {σ' : L2.St} {H' : Hp} {v : V} {u : Value}, Inv (ncx CX P w K mg base N (nfS x qual params body scope cc c) f A outer s H E) [] σ' H' s' → L2.RelV v u → Q v H' → CE outer P w H s Q u s' :=
    fun {σ' H' v u} J rv q => ⟨v, H', J.os, J.bare, J.base, J.hok, rv, q⟩
  cases fl with
  | ret u =>
    obtain ⟨v, σ', H', J, rv, q⟩ := hs
    exact fin J rv q
  | next =>
    obtain ⟨σ', H', J, q⟩ := hs
    exact fin (v := V.non) (u := Value.none) J rfl q
  | brk =>
    obtain ⟨_, _, _, q⟩ := hs
    exact False.elim q
  | cont =>
    obtain ⟨_, _, _, q⟩ := hs
    exact False.elim q
end
end ML
end
section
namespace ML
open PySem L2 NdefX
open PyProof.Rows hiding wpAt
abbrev rdSP (G : Gx) (W : WX) (P : L2.St → Prop) (m : MS) : TS := fun D σ H => P σ ∧ rdS G W m D σ H
theorem mst_cons {G : Gx} {W : WX} {X : Cx} {P : L2.St → Prop} {body : List Stmt} {st : Stmt} {rest : List Stmt} {ms mr : MS} (h : PST X body st (rdSP G W P ms)) (h2 : PSs X rest (rdS G W mr)) : PSsT X body (st :: rest) (rdSP G W P (sSeq ms mr)) := ⟨fun pins s σ H D I ⟨hp, ρ, σi, hh, as, ag, f⟩ => by
  refine ks_wpAt_execs_cons (ks_wpAt_mono (h.run pins s σ H { D with nx := fun σ' H' => rdS G W mr D σ' H' } I ⟨hp, ?_⟩) (fun fl s' q => ?_) fun _ _ z => z)
  · refine ⟨ρ, σi, hh, as, ag, ?_⟩
    have f' : FinS G ρ H D W ((ms σi hh).andThen mr) := f
    cases e : ms σi hh with
    | nx σ' h' => rw [e] at f'; exact fun ρ' H' σ2 st ag2 as2 => ⟨ρ', σ', h', as2, ag2, FinS.later st f'⟩
    | bk σ' h' => rw [e] at f'; exact f'
    | ct σ' h' => rw [e] at f'; exact f'
    | rt v h' => rw [e] at f'; exact f'
    | ex c n σ' h' => rw [e] at f'; exact f'
    | err => rw [e] at f'; exact f'
  · cases fl with
    | next => obtain ⟨σ', H', J, q⟩ := q; exact wpAt_of_wpAny (h2.run pins s' σ' H' D J q)
    | ret u => exact q
    | brk => exact q
    | cont => exact q⟩
theorem boot_super : bootBuiltins "super" = some (.type "super") := by decide +kernel
theorem load_slot {X : Cx} {pins : List (Addr × Obj)} {σ : L2.St} {H : Hp} {s : Shared} {i : Nat} {x : Str} {v : V} {E : Value → Shared → Prop} {Q : Value → Shared → Prop} (I : Inv X pins σ H s) (hN : X.N[i]? = some x) (e : σ[i]? = some (some v)) (hv : Vis X.env.scope x) (hcd : (x == ("__classdict__" : Str)) = false)
    (h : ∀ u, RelV v u → Q u s) : wpAny (model X.prog X.w) X.A (loadName X.env x) Q E s := by
  obtain ⟨m, hn, hl⟩ := I.loc
  obtain ⟨u, r, l⟩ := hl i x v hN e hv
  rcases l with ⟨hk, hm⟩ | ⟨hk, c, hc, hcell⟩
  · exact wpAny_loadName_local I.ok.kind hk hn hm (h u r)
  · rcases hk with hk | hk
    · exact wpAny_loadName_cell I.ok.kind hk hc hcell (h u r)
    · exact wpAny_loadName_free I.ok.kind hk hc hcell (h u r) hcd
theorem load_blt {X : Cx} {pins : List (Addr × Obj)} {s : Shared} {σ : L2.St} {H : Hp} {x : Str} {u : Value} {E : Value → Shared → Prop} {Q : Value → Shared → Prop} (I : Inv X pins σ H s) (hg : Gl X x) (hm : X.mg x = none) (hv : bootBuiltins x = some u) (hn : x ≠ "__name__") (h : Q u s) : wpAny (model X.prog X.w) X.A (loadName X.env x) Q E s := by
  obtain ⟨mb, h1, h2⟩ := I.mod.blt
  exact PySem.W.ks_loadName_global I.ok.kind hg (Calls.loadGlobal_builtin (by rw [I.ok.glob]; exact I.mod.glob.keeps I.bk) hm (by rw [I.ok.blt]; exact h1.keeps I.bk) ((h2 x hn).trans hv) h)
def CodeM (X : Cx) (G : Gx) (W : WX) (fv : Value) (g : MF) : Prop :=
  ∀ (pins : List (Addr × Obj)) (s : Shared) (σ : L2.St) (H : Hp) (us : List Value) (vs : List V) (args : List VI) (ρ : List Addr) (h : Hi) (Q : VK), Inv X pins σ H s → Vals vs us → RVs G ρ H args vs → Ag G ρ h H →
    FinG G ρ H (RV G) Q (fun c d H' => W c d σ H') (g args h) → codeAny (model X.prog X.w) X.A (.call fv ⟨us, []⟩) (fun r s' => match r with | .ok (.ret v) => EP X pins σ Q v s' | .ok _ => False | .error e => X.xe e s') s
theorem FnP.code {X : Cx} {G : Gx} {W : WX} {k : Nat} {f : Addr} {fd : FuncData} {ps : List Str} {g : MF} (F : FnP X G k f fd ps g) (hb : Binds X.K fd ps []) (tk : Takes X W) : CodeM X G W (.ref f) g := by
  intro pins s σ H us vs args ρ h Q I r ra ag fin
  by_cases hl : args.length = ps.length
  · have hsp : spM G ps.length g vs H Q (WE W σ) := ⟨ρ, h, args, hl, ag, ra, fin⟩
    have lu : us.length = ps.length := by rw [← r.length, ← ra.length]; exact hl
    have b := hb s us I.kIn (by rw [List.append_nil]; exact lu)
    rw [List.append_nil] at b
    refine codeAny_mono (F.ok.run _ _ s H ⟨us, []⟩ us vs Q (WE W σ) (F.room.mono (by omega)) I.env0 b r hsp) fun res s' hq => ?_
    match res, hq with
    | .error e, hq => exact passAt tk σ pins H s e s' I hq
    | .ok (.ret u), hq => exact I.after hq
  · rw [F.ar args h hl] at fin
    exact fin.elim
structure SupOk (X : Cx) (G : Gx) (W : WX) (known : Nat → Bool) (f D : Addr) (slf : Str) (g : MF) : Prop where
  fn : X.env.func = some f
  at_ : ∃ (o : Obj) (fd : FuncData) (ar : Arg), X.K.lookup f = some o ∧ o.data = .func fd ∧ (fd.params.posonlyargs ++ fd.params.args).head? = some ar ∧ ar.arg = slf
  code : ∃ (c : Addr) (o : Obj) (vs : Array Value) (file : Str) (tf : Tok), X.env.code = .ref c ∧ X.K.lookup c = some o ∧ o.data = .fields vs ∧ vs[2]? = some (.str file tf) ∧ ((X.prog.main.file : Str) == file) = true
  top : (X.prog.main.scope.names.lookup ("super" : Str)).isSome = false
  cls : ∃ cd, PySem.W.clsIn X.K D = some cd
  any : PySem.W.nsIn X.K cStatics "thirdparty.any" = some none
  sub : ∀ c C, known c = true → G.ct c = some C → (∃ cd, PySem.W.clsIn X.K C = some cd) ∧ PySem.W.mroIn X.K C (.ref D) = some true ∧ ∃ f2, PySem.W.ks_superIn X.K C D "__init__" = some (some (.ref f2)) ∧ PySem.W.typeIn X.K (.ref f2) = some (.type "function") ∧ PySem.W.fnIn X.K f2 = true ∧ CodeM X G W (.ref f2) g
def sSuper (known : Nat → Bool) (i : Nat) (g : MF) (ma : MA) : MS := fun σ h => match σ[i]? with
  | some (some (.ref n)) => match h[n]? with
    | some (.ins c _) => match known c with
      | true => (ma σ h).bindS σ fun vs h1 => dropV σ (g (.ref n :: vs) h1)
      | false => .err
    | _ => .err
  | _ => .err
section
variable {G : Gx} {W : WX} {X : Cx} {body : List Stmt} {known : Nat → Bool} {f D : Addr} {slf : Str} {g : MF} {i j : Nat} {e : Expr} {es : List Expr} {ma : MA} {p0 p1 apos cpos spos : Pos}
theorem mst_super (S : SupOk X G W known f D slf g) (hks : Gl X "super") (hm : X.mg "super" = none) (hkc : X.env.kindOf "__class__" = some .free) (hNc : X.N[j]? = some "__class__") (hvc : Vis X.env.scope "__class__")
    (hNs : X.N[i]? = some slf) (hvs : Vis X.env.scope slf) (hcs : (slf == ("__classdict__" : Str)) = false) (ha : PA X (e :: es) (rdA G W ma)) (hi : interactive X.env = false)
    (hst : starEach (e :: es) X.env = (false, eval e X.env) :: starEach es X.env := by rfl) (hpl : (backTo cpos (starEach es X.env)).any (·.1) = false := by rfl)
    (hsw : swapsWith (.Call (.Attribute (.Call (.Name "super" p0) [] [] p1) "__init__" apos) (e :: es) [] cpos) none spos.line X.env = pure false := by rfl)
    (ht : eval (.Call (.Attribute (.Call (.Name "super" p0) [] [] p1) "__init__" apos) (e :: es) [] cpos) X.env = (do
      let ov ← attributeBase (.Call (.Name "super" p0) [] [] p1) "__init__" X.env (eval (.Call (.Name "super" p0) [] [] p1) X.env)
      standAt apos.atName
      let (f, first) ← holding [ov] (getMethod ov "__init__" (pure false))
      callWith cpos f first (backTo cpos (starEach (e :: es) X.env)) []) := by rfl) :
    PST X body (.Expr (.Call (.Attribute (.Call (.Name "super" p0) [] [] p1) "__init__" apos) (e :: es) [] cpos) spos)
      (rdSP G W (fun σ => σ[j]? = some (some (.ref D))) (sSuper known i g ma)) := by
  refine ⟨fun pins s σ H Dn I ⟨hD, ρ, σi, h, as, ag, fin⟩ => ?_⟩
  unfold sSuper at fin
  cases q1 : σi[i]? with
  | none => rw [q1] at fin; exact fin.elim
  | some ov =>
    rw [q1] at fin
    cases ov with
    | none => exact fin.elim
    | some v =>
      cases v with
      | ref n =>
        dsimp only at fin
        cases q2 : h[n]? with
        | none => rw [q2] at fin; exact fin.elim
        | some ob =>
          rw [q2] at fin
          cases ob with
          | ins c fs =>
            dsimp only at fin
            cases q3 : known c with
            | false => rw [q3] at fin; exact fin.elim
            | true =>
              rw [q3] at fin
              dsimp only at fin
              obtain ⟨xv, hxs, rx⟩ := as.at_ i _ q1
              cases rx with
              | @ref _ a hn =>
                obtain ⟨C, dx, gs, hc, hH, rf⟩ := insAt ag q2 hn
                obtain ⟨⟨cdC, hcC⟩, hmro, f2, hsup, hty, hfn, hcall⟩ := S.sub c C q3 hc
                obtain ⟨m, hF, ox, od, J⟩ := insC_look I hH
                obtain ⟨of, fd, ar, hf1, hf2, hf3, hf4⟩ := S.at_
                obtain ⟨cc, oc, vs, file, tf, hc1, hc2, hc3, hc4, hc5⟩ := S.code
                obtain ⟨cdD, hcD⟩ := S.cls
                have KX := I.kIn
                refine ks_wpAt_Expr_any (ks_wpAt_MethodCall (args := e :: es) (pl := pure false) ?_ ht) hi hsw
                refine ks_wpAt_super_base hks hkc rfl S.fn (KX _ _ hf1) hf2 hf3 hc1 (KX _ _ hc2) hc3 hc4 hc5 S.top ?_
                refine load_blt I hks hm boot_super (by decide +kernel) ⟨rfl, ?_⟩
                refine load_slot I hNc hD hvc (by decide) fun u ru => ?_
                obtain rfl : u = Value.ref D := ru
                rw [hf4]
                refine load_slot I hNs hxs hvs hcs fun u2 ru2 => ?_
                obtain rfl : u2 = Value.ref a := ru2
                obtain ⟨hD1o, hD1, hD2⟩ : ∃ oD, s.heap.get? D = some oD ∧ oD.data = .cls cdD := by
                  unfold PySem.W.clsIn at hcD
                  split at hcD
                  · rename_i c' d' cd' sl' ho
                    cases hcD
                    exact ⟨_, KX _ _ ho, rfl⟩
                  · cases hcD
                obtain ⟨of2, hof2, hof2c⟩ : ∃ o, X.K.lookup f2 = some o ∧ o.cls = .type "function" := by
                  have t : (X.K.lookup f2).map (·.cls) = some (.type "function") := hty
                  cases z : X.K.lookup f2 with
                  | none => rw [z] at t; cases t
                  | some o => rw [z] at t; exact ⟨o, rfl, Option.some.inj t⟩
                have hxC : a ≠ C := PySem.W.ks_ne KX J hcC
                obtain ⟨hh, gg, dd, tt, os⟩ := s
                refine PySem.ks_wpAny_isType_cls hD1 hD2 ⟨rfl, ?_⟩
                refine PySem.ks_wpAny_call_super hD1 hD2 J.at_ J.cls (fun c' e' => ?_) (PySem.W.looks_mroIn KX hmro) (fun h' eq kp => ?_)
                · have := J.no
                  unfold PySem.W.notCls at this
                  rw [e'] at this
                  exact Bool.noConfusion this
                have I2 : Inv X pins σ H ⟨h', gg, dd, tt, os⟩ := Inv.kept (s := ⟨hh, gg, dd, tt, os⟩) (t' := tt) I kp
                have KX2 := I2.kIn
                unfold PySem.W.ks_superIn at hsup
                rw [hcC] at hsup
                have hmr : PySem.W.Looks (model X.prog X.w) h' (mroOf (.ref C)) cdC.mro := fun A Q E s k q => wpAny_bind ((PySem.W.looks_clsIn KX2 hcC) A _ E s k (wpAny_pure q))
                refine PySem.ks_wpAny_getMethod_super eq (PySem.W.looks_opaque KX2 S.any) hmr rfl KX2 hsup (KX2 _ _ hof2) hof2c hxC rfl ?_
                -- the bound method is pinned
                have I3 : Inv X ((h'.objs.size, PySem.W.methodObj (.ref f2) (.ref a)) :: pins) σ H ⟨h'.push (PySem.W.methodObj (.ref f2) (.ref a)), gg, dd, tt + 1, os⟩ :=
                  ClX.pin_new I2 (fun _ _ z => Heap.get?_push_of_some _ z) (Nat.le_refl _) (Heap.get?_push_size h' rfl) (fun v z => nomatch z)
                generalize h'.objs.size = b at I3 ⊢
                have A : rdA G W ma σ H fun vs H1 => ∃ ρ1 h1 args, RVs G ρ1 H1 (.ref n :: args) (.ref a :: vs) ∧ Ag G ρ1 h1 H1 ∧ AgS G ρ1 H1 σi σ ∧ FinS G ρ1 H1 Dn W (dropV σi (g (.ref n :: args) h1)) :=
                  rdS_go as ag fin fun ρ1 H1 h1 xs ys st as ag r f => ⟨ρ1, h1, xs, .cons (.ref (st.pre _ _ hn)) r, ag, as, f⟩
                refine thn (Q := EP X pins σ fun _ H' => Dn.nx σ H') ?_ fun v s' ⟨z, H', I', _, q⟩ => ⟨σ, H', I', q⟩
                show wpAny _ _ (callWith cpos (.ref b) [] (backTo cpos (starEach (e :: es) X.env)) []) _ _ _
                have run := ha.run cpos _ _ σ H _ I3 A
                rw [hst] at run ⊢
                refine PySem.W.callWith_of (P := PySem.W.MethP X.K b f2 (.ref a)) (by show ((false || (backTo cpos (starEach es X.env)).any (·.1)) || false) = false; rw [hpl]; rfl) (PySem.W.keeps_M hfn)
                  (Calls.evalArgs_plain (thn run fun us s4 ⟨vs, H4, I4, r4, ρ4, h4, args, ra, ag4, as4, f4⟩ => ?_))
                have hb4 : s4.heap.get? b = some (PySem.W.methodObj (.ref f2) (.ref a)) := ClX.pin_at I4
                refine ⟨⟨hb4, I4.kIn⟩, ?_⟩
                have I5 : Inv X pins σ H4 s4 := ClX.unpin I4
                cases ra with
                | cons r0 rr =>
                  have cm := hcall pins s4 σ H4 (.ref a :: us) (.ref a :: vs) (.ref n :: args) ρ4 h4 (fun _ H' => Dn.nx σ H') I5 (.cons rfl r4) (.cons r0 rr) ag4 (by
                    cases q5 : g (.ref n :: args) h4 with
                    | err => rw [q5] at f4; exact f4
                    | ex c5 n5 h5 => rw [q5] at f4; exact fun ρ' H' d C s a hn hc => f4 ρ' H' d C σ s a (as4.mono s) hn hc
                    | ok w5 h5 => rw [q5] at f4; exact fun ρ' H' z s a _ => f4 ρ' H' σ s a (as4.mono s))
                  exact wpAny_call (PySem.W.method_call hb4 cm)
              | _ => exact fin.elim
          | _ => exact fin.elim
      | _ => exact fin.elim
end
section
variable {P : Program} {w : World} {K : PySem.W.Frag} {mg : Str → Option Value} {base : Heap} {x qual : Str} {params : Arguments} {body : List Stmt} {scope : Scope} {dvs : List V} {kws : List (Str × V)} {f cc D c : Addr} {fd : FuncData} {file : Str} {N ps : List Str} {k n : Nat} {G : Gx} {mb : MS}
theorem agsF {ρ : List Addr} {H : Hp} {args : List VI} {vs : List V} {ws : List (Option V)} (r : RVs G ρ H args vs) (hn : N.length = vs.length + n) (hw : ws.length ≤ n) : AgS G ρ H (args.map some ++ List.replicate n none) (startF N vs ws) := by
  unfold startF
  refine ⟨by simp [r.length]; omega, fun i v e => ?_⟩
  have hl : (args.map (some : VI → Option VI)).length = (vs.map (some : V → Option V)).length := by simp [r.length]
  by_cases q : i < (args.map (some : VI → Option VI)).length
  · rw [List.getElem?_append_left q] at e
    rw [List.getElem?_append_left (by rw [← hl]; exact q)]
    exact r.some_all i v e
  · rw [List.getElem?_append_right (Nat.le_of_not_lt q)] at e
    have := List.mem_of_getElem? e
    rw [List.mem_replicate] at this
    cases this.2
theorem fnS_M (F : FunS K x qual params body scope dvs kws f fd cc D c file) (S : NScope N ps ["__class__"] scope) (hn : N.length = ps.length + n) (h1 : 1 ≤ n)
    (hb : ∀ (A : Around) (outer : List Env) (s : Shared) (H : Hp) (E : XK), Room k (ncx (L2.CX P w) P w K mg base N (nfS x qual params body scope cc c) f A outer s H E).A →
      Takes (ncx (L2.CX P w) P w K mg base N (nfS x qual params body scope cc c) f A outer s H E) (fun c d _ H => E c d H) →
      PassesOwn (model P w) (ncx (L2.CX P w) P w K mg base N (nfS x qual params body scope cc c) f A outer s H E).A (ncx (L2.CX P w) P w K mg base N (nfS x qual params body scope cc c) f A outer s H E).env (ncx (L2.CX P w) P w K mg base N (nfS x qual params body scope cc c) f A outer s H E).xe →
      PSsT (ncx (L2.CX P w) P w K mg base N (nfS x qual params body scope cc c) f A outer s H E) body body (rdSP G (fun c d _ H => E c d H) (fun σ => σ[ps.length]? = some (some (.ref D))) mb)) : FnOk P w K mg base (L2.CX P w) (k + 1) f fd ps (spM G ps.length (runB ps.length n mb)) := by
  refine F.ok S (fun vs H Q E h => spM_len h) (fun A outer s H vs Q E hr hsp => ?_)
  have hlv := spM_len hsp
  obtain ⟨ρ, h, args, l, ag, r, fin⟩ := hsp
  refine ⟨_, hb A outer s H E hr (takes_of rfl rfl rfl rfl) (passes_of rfl), ?_, ?_⟩
  · show (startF N vs [some (.ref D)])[ps.length]? = _
    unfold startF
    rw [List.getElem?_append_right (by simp [hlv])]
    simp [hlv]
  refine ⟨ρ, _, h, agsF r (by rw [hlv]; exact hn) (by simpa using h1), ag, ?_⟩
  unfold runB at fin
  rw [show Nat.beq args.length ps.length = true from by rw [l]; exact Nat.beq_refl _] at fin
  dsimp only at fin
  cases e : mb (args.map some ++ List.replicate n none) h with
  | nx σ' h' => rw [e] at fin; exact fun ρ' H' σ2 st a' as' => fin ρ' H' .non st a' .non
  | rt v h' => rw [e] at fin; exact fin
  | bk σ' h' => rw [e] at fin; exact fin.elim
  | ct σ' h' => rw [e] at fin; exact fin.elim
  | ex c n σ' h' => rw [e] at fin; exact fun ρ' H' d C σ2 st a' as' hn hc => fin ρ' H' d C st a' hn hc
  | err => rw [e] at fin; exact fin
end
end ML
end
section
namespace MB
open PySem L2
theorem kw_loop {P : Program} {w : World} {A : Around} {E : Value → Shared → Prop} {s : Shared} (f : DictEntry → List (Str × Value) → Sem (ForInStep (List (Str × Value)))) (hf : ∀ e x t acc, e.key = .str x t → f e acc = pure (.yield (acc ++ [(x, e.val)]))) :
    ∀ (l : List DictEntry) (names : List (Str × Value)) (acc : List (Str × Value)) (Q : List (Str × Value) → Shared → Prop), Pairs (mixKind P w) l (names.map fun p => (Sum.inr p.1, p.2)) → Q (acc ++ names) s → wpAny (model P w) A (forIn l acc f) Q E s
  | [], [], acc, Q, _, q => by rw [List.forIn_nil]; exact wpAny_pure (by simpa using q)
  | [], _ :: _, _, _, h, _ => nomatch h
  | _ :: _, [], _, _, h, _ => nomatch h
  | e :: l, (x, v) :: names, acc, Q, h, q => by
    cases h with
    | cons h1 h2 h3 =>
      rcases keyIs_shape (show keyIs (Sum.inr x) e.key = true from h1) with ⟨i, t, z, _⟩ | ⟨y, t, z, ek⟩
      · cases z
      · cases z
        rw [List.forIn_cons, hf e _ t acc ek]
        refine wpAny_bind (wpAny_pure ?_)
        refine kw_loop f hf l names _ Q h3 ?_
        rw [show e.val = v from h2]
        simpa using q
theorem kw_in {P : Program} {w : World} {A : Around} {E : Value → Shared → Prop} {s : Shared} {f : Value} {d : Addr} {names : List (Str × Value)} {Q : List (Str × Value) → Shared → Prop} (D : s.heap.DictOf (mixKind P w) d (names.map fun p => (Sum.inr p.1, p.2))) (q : Q names s) : wpAny (model P w) A (keywordsIn f d) Q E s := by
  obtain ⟨o, es, ep, e1, e2, e3, e4, e5, e6⟩ := D
  unfold keywordsIn
  refine wpAny_bind (wpAny_dictEntries e1 e3 (wpAny_bind ?_))
  obtain ⟨l⟩ := es
  rw [List.forIn_toArray]
  refine kw_loop _ (fun e x t acc h => ?_) l names [] _ e5 (wpAny_pure ?_)
  · simp only [h]
  · simpa using q
end MB
namespace ML
open PySem L2 PyProof.Rows
def tKwD (td : TE) : L2.St → Hp → (List (Str × V) → Hp → Prop) → Prop := fun σ H Q => ∀ d, H d = none → td σ (upd H d (.dK [])) fun x H1 => ∃ a names, x = .ref a ∧ a ≠ d ∧ H1 d = some (.dK []) ∧ Rd H1 a (.dK (names.map fun p => (Sum.inr p.1, p.2))) ∧ Q names (upd H1 d (.dK (mergeK [] (names.map fun p => (Sum.inr p.1, p.2)))))
theorem kv_names : ∀ {names : List (Str × V)} {vs : List (Key × Value)}, KV (names.map fun p => (Sum.inr p.1, p.2)) vs → ∃ ns : List (Str × Value), vs = ns.map (fun p => (Sum.inr p.1, p.2)) ∧ ns.map (·.1) = names.map (·.1) ∧ Vals (names.map (·.2)) (ns.map (·.2))
  | [], _, r => by cases r; exact ⟨[], rfl, rfl, .nil⟩
  | (x, v) :: names, _, r => by
    cases r with
    | @cons _ b _ bs h t =>
      obtain ⟨b1, b2⟩ := b
      obtain ⟨ns, e1, e2, e3⟩ := kv_names t
      obtain ⟨h1, h2⟩ := h
      subst e1
      have h1' : Sum.inr x = b1 := h1
      subst h1'
      exact ⟨(x, b2) :: ns, rfl, by simp [e2], .cons h2 e3⟩
section
variable {X : Cx} {e : Expr} {x : Str} {p pos kp : Pos} {fv : Value} {td : TE}
theorem pe_kwd {R : L2.St → List (Str × V) → Hp → VK → Prop} (hg : Gl X x) (hm : X.mg x = some fv) (hkp : PySem.W.keepIn X.K fv = true) (he : PE X e td)
    (run : ∀ (pins : List (Addr × Obj)) (s : Shared) (σ : L2.St) (H : Hp) (names : List (Str × V)) (ns : List (Str × Value)) (Q : VK), Inv X pins σ H s → ns.map (·.1) = names.map (·.1) → Vals (names.map (·.2)) (ns.map (·.2)) → R σ names H Q → wpAny (model X.prog X.w) X.A (call fv [] ns) (EP X pins σ Q) X.xe s)
    (hks : backToKw pos (keywordEach [⟨none, e, kp⟩] X.env) = [(none, do let v ← eval e X.env; standAt pos; pure v)] := by rfl) (hdb : (x == ("__debug__" : Str)) = false := by decide) :
    PE X (.Call (.Name x p) [] [⟨none, e, kp⟩] pos) (fun σ H Q => tKwD td σ H fun names H' => R σ names H' Q) := by
  refine ⟨fun pins s σ H Q I h => ?_⟩
  refine wpAny_Call_Name_kw (ld_glob I hg hm ?_ hdb)
  rw [hks]
  unfold callWith
  refine wpAny_bind (wpAny_holding ?_)
  unfold evalArgs
  dsimp only
  refine wpAny_bind ?_
  rw [show backTo pos (starEach [] X.env) = [] from rfl]
  refine Calls.spliced_nil (wpAny_bind (wpAny_pure (wpAny_holding ?_)))
  rw [if_neg (by simp)]
  refine wpAny_bind ?_
  unfold mergedKeywords
  have hn := I.hok.fresh (Nat.le_refl s.heap.objs.size)
  have I1 := I.laid (a := s.heap.objs.size) (o := .dK []) (h' := s.heap.push { cls := .type "dict", data := .dict #[] }) (t' := s.toks) (fun _ _ q => Heap.get?_push_of_some _ q) (Nat.le_refl _) (dk_empty s.heap I.big)
  refine wpAny_bind (wpAny_alloc (wpAny_bind (wpAny_holding ?_)))
  generalize s.heap.objs.size = d at hn I1 ⊢
  refine wpAny_bind ?_
  rw [List.forIn_cons]
  refine wpAny_bind (wpAny_bind ?_)
  show wpAny _ _ (if ([] : List (Str × Sem Value)).isEmpty = true then pure () else _) _ _ _
  rw [if_pos (show ([] : List (Str × Sem Value)).isEmpty = true from rfl)]
  refine wpAny_pure (wpAny_bind (wpAny_bind (thn (he.run pins _ σ _ _ I1 (h d hn)) fun m s1 ⟨y, H1, I2, ry, a, names, ey, ne, e1, e2, q1⟩ => ?_)))
  subst ey
  obtain rfl : m = Value.ref a := ry
  refine wpAny_bind (wpAny_standAt (wpAny_pure ?_))
  obtain ⟨z1, low1, vs1, r1, dd1⟩ := dk_of I2.hok e1
  cases r1
  obtain ⟨z2, low2, vs2, r2, dd2⟩ := dk_rd I2.hok e2
  have len2 : vs2.length ≤ sizeLine := by rw [← Paired.length r2]; exact z2
  obtain ⟨ns, en, en1, en2⟩ := kv_names r2
  have nd2 : (vs2.map (·.1)).Nodup := let ⟨_, _, _, _, _, _, _, _, q⟩ := dd2; q
  refine wpAny_bind (wpAny_onRaise (wpAny_holding (wpAny_tryCatch (wpAny_onRaise (MB.merge_two (Ne.symm ne) low2 key_nr dd1 dd2 (by rw [List.length_nil]; omega) (fun _ => by simpa using nd2) fun h' D' sb => ?_)))))
  have he' : ∃ q, h'.get? d = some q := let ⟨q, _, _, hq, _⟩ := D'; ⟨q, hq⟩
  have hz : (mergeK [] (names.map fun p => (Sum.inr p.1, p.2))).length ≤ sizeLine := by
    have := length_mergeK (names.map fun p => ((Sum.inr p.1 : Key), p.2)) []
    rw [List.length_nil] at this
    omega
  have I3 : Inv X pins σ (upd H1 d (.dK (mergeK [] (names.map fun p => (Sum.inr p.1, p.2))))) { s1 with heap := h' } := d_write I2 (by rw [e1]; exact True.intro) sb he' (dk_new hz low1 (r2.merge .nil) D')
  refine wpAny_pure ?_
  dsimp only
  rw [List.forIn_nil]
  refine wpAny_pure ?_
  show wpAny _ _ (if ([] : List (Str × Sem Value)).isEmpty = true then pure () else _) _ _ _
  rw [if_pos (show ([] : List (Str × Sem Value)).isEmpty = true from rfl)]
  refine wpAny_pure (wpAny_pure (wpAny_bind (wpAny_pure (wpAny_bind (wpAny_holding (MB.kw_in (names := ns) ?_ (wpAny_pure ?_)))))))
  · rw [merged_nil_of_nodup vs2 nd2] at D'
    rw [← en]
    exact D'
  refine wpAny_bind (wpAny_standAt ?_)
  have call := run pins _ σ _ names ns Q I3 en1 en2 q1
  obtain ⟨k, hk, L⟩ := PySem.W.looks_keep (M := model X.prog X.w) hkp I3.kIn
  refine wpAny_bind (L.here ?_)
  rcases hk with rfl | rfl
  · refine wpAny_bind ?_
    unfold callMarked
    exact Calls.wpAny_keep (thn call fun v s2 hv => wpAny_bind (wpAny_holding (wpAny_point (wpAny_pure hv))))
  · exact wpAny_bind (wpAny_operateT (thn call fun v s2 hv => wpAny_bind (wpAny_holding (wpAny_point (wpAny_pure hv)))))
end
def keysAre : List S → List (VI × VI) → Bool
  | [], [] => true
  | s :: ss, (.str t, _) :: r => decide (s = t) && keysAre ss r
  | _, _ => false
def eKwD (ks : List S) (gk : MK) (e : ME) : ME := fun σ h => (e σ (h ++ [.dic []])).bind fun x h1 => match x with
  | .ref m => match Nat.beq m h.length, h1[h.length]?, h1[m]? with
    | false, some (.dic []), some (.dic kvs) => match keysAre ks kvs with
      | true => gk [] (kvs.map (·.2)) (h1.set h.length (.dic (putAll kvs [])))
      | false => .err
    | _, _, _ => .err
  | _ => .err
section
variable {G : Gx} {ρ : List Addr} {h : Hi} {H : Hp} {W : WX} {X : Cx} {e : Expr} {x : Str} {p pos kp : Pos} {fv : Value} {ks : List S} {gk : MK} {me : ME}
theorem keysAre_ok : ∀ {ks : List S} {kvs : List (VI × VI)} {l : List (Key × V)}, RKs G ρ H kvs l → keysAre ks kvs = true → ∃ names : List (Str × V), l = names.map (fun p => (Sum.inr p.1, p.2)) ∧ names.map (·.1) = ks.map toStr ∧ RVs G ρ H (kvs.map (·.2)) (names.map (·.2))
  | [], _, _, .nil, _ => ⟨[], rfl, rfl, .nil⟩
  | [], _, _, .cons _ _ _, e => by cases e
  | _ :: _, _, _, .nil, e => by cases e
  | s :: ss, _, _, .cons (a := a) (k := k) (x := x) hk hv t, e => by
    cases a with
    | str z =>
      obtain ⟨e1, e2⟩ := Bool.and_eq_true_iff.mp (show (decide (s = z) && keysAre ss _) = true from e)
      obtain ⟨names, n1, n2, n3⟩ := keysAre_ok t e2
      have hk' : k = Sum.inr (toStr z) := hk
      subst n1 hk'
      refine ⟨(toStr z, x) :: names, rfl, ?_, .cons hv n3⟩
      rw [List.map_cons, List.map_cons, n2, of_decide_eq_true e1]
    | _ => cases e
theorem zip_split : ∀ ns : List (Str × Value), ns = (ns.map (·.1)).zip (ns.map (·.2))
  | [] => rfl
  | (a, b) :: r => by rw [List.map_cons, List.map_cons, List.zip_cons_cons, ← zip_split r]
theorem me_kwd (c : CallK X G W fv 0 (ks.map toStr) gk) (hg : Gl X x) (hm : X.mg x = some fv) (hkp : PySem.W.keepIn X.K fv = true) (he : PE X e (rdE G W me))
    (hks : backToKw pos (keywordEach [⟨none, e, kp⟩] X.env) = [(none, do let v ← eval e X.env; standAt pos; pure v)] := by rfl) (hdb : (x == ("__debug__" : Str)) = false := by decide) :
    PE X (.Call (.Name x p) [] [⟨none, e, kp⟩] pos) (rdE G W (eKwD ks gk me)) := by
  refine PE.imp' (pe_kwd (R := fun σ names H1 Q => ∃ ρ1 h1 zargs, Ag G ρ1 h1 H1 ∧ names.map (·.1) = ks.map toStr ∧ RVs G ρ1 H1 zargs (names.map (·.2)) ∧ FinG G ρ1 H1 (RV G) Q (fun c d H' => W c d σ H') (gk [] zargs h1)) hg hm hkp he (fun pins s σ H names ns Q I en rv q => ?_) hks hdb) ?_
  · obtain ⟨ρ1, h1, zargs, ag, nk, rz, f⟩ := q
    have l : zargs.length = (ks.map toStr).length := by rw [rz.length, ← nk, List.length_map, List.length_map]
    rw [zip_split ns, en, nk]
    exact c pins s σ H [] (ns.map (·.2)) [] (names.map (·.2)) [] zargs ρ1 h1 Q I .nil rv .nil rz ag rfl l f
  · intro σ H Q ⟨ρ, σi, h, as, ag, fin⟩ d hd
    have st0 : Stp G ρ H (ρ ++ [d]) (upd H d (.dK [])) := Stp.new hd
    have ag0 : Ag G (ρ ++ [d]) (h ++ [.dic []]) (upd H d (.dK [])) := ag.new hd ⟨[], upd_same, .nil⟩
    have hx : (ρ ++ [d])[h.length]? = some d := by rw [← ag.len]; simp
    refine rdG_go (as.mono st0) ag0 (FinG.later st0 fin) fun ρ1 H1 h1 x x' st1 as1 ag1 r f1 => ?_
    cases r with
    | @ref m a q =>
      dsimp only at f1
      cases q1 : Nat.beq m h.length with
      | true => rw [q1] at f1; exact f1.elim
      | false =>
        cases q2 : h1[h.length]? with
        | none => rw [q1, q2] at f1; exact f1.elim
        | some ob =>
          cases q3 : h1[m]? with
          | none => rw [q1, q2, q3] at f1; cases ob with
            | dic l => cases l <;> exact f1.elim
            | _ => exact f1.elim
          | some ob3 =>
            rw [q1, q2, q3] at f1
            cases ob with
            | dic l =>
              cases l with
              | cons _ _ => exact f1.elim
              | nil =>
                cases ob3 with
                | dic kvs =>
                  dsimp only at f1
                  cases q4 : keysAre ks kvs with
                  | false => rw [q4] at f1; exact f1.elim
                  | true =>
                    rw [q4] at f1
                    have hd1 := st1.pre _ _ hx
                    obtain ⟨ks0, e0, r0⟩ := ag1.at_ q2 hd1
                    cases r0
                    obtain ⟨kl, e1, r1⟩ := ag1.at_ q3 q
                    have hne : m ≠ h.length := fun z => by rw [z, Nat.beq_refl] at q1; cases q1
                    obtain ⟨names, n1, n2, n3⟩ := keysAre_ok r1 q4
                    subst n1
                    refine ⟨a, names, rfl, ag1.ne q hd1 hne, e0, .inl e1, ?_⟩
                    have stA : Stp G ρ1 H1 ρ1 (upd H1 d (.dK (mergeK [] (names.map fun p => (Sum.inr p.1, p.2))))) := Stp.wr ag1 q2 hd1
                    exact ⟨ρ1, _, _, ag1.wr (u' := .dic (putAll kvs [])) q2 hd1 ⟨_, upd_same, RKs.putAll (r1.mono stA) .nil⟩, n2, n3.mono stA, FinG.later stA f1⟩
                | _ => exact f1.elim
            | _ => exact f1.elim
    | _ => exact f1.elim
end
def gSeq : List MG → List VI → Sg → Hi → RS
  | [], [], σ, h => .nx σ h
  | g :: gs, v :: vs, σ, h => (g v σ h).andThen fun σ1 h1 => gSeq gs vs σ1 h1
  | _, _, _, _ => .err
def gTupM (gs : List MG) : MG := fun v σ h => match v with
  | .tup xs => match Nat.beq xs.length gs.length with
    | true => gSeq gs xs σ h
    | false => .err
  | _ => .err
section
variable {G : Gx} {ρ : List Addr} {h : Hi} {H : Hp} {W : WX} {X : Cx} {e : Expr} {es : List Expr} {pos : Pos} {g : MG} {gs : List MG} {k n : Nat}
theorem PGs.imp' {t t' : TGs} (h : PGs X es t) (i : ∀ vs σ H Q, t' vs σ H Q → t vs σ H Q) : PGs X es t' := ⟨fun pins s σ H vs us Q I r q => h.run pins s σ H vs us Q I r (i vs σ H Q q)⟩
end
end ML
end
section
namespace ML
open PySem PySem.Spec PyProof.Rows L2 He
def lkT {α : Type} : List (Nat × α) → Nat → Option α
  | [], _ => none
  | (d, x) :: r, c => match Nat.beq d c with
    | true => some x
    | false => lkT r c
theorem lkT_cons {α : Type} {d c : Nat} {x g : α} {r : List (Nat × α)} (h : lkT ((d, x) :: r) c = some g) : (c = d ∧ g = x) ∨ lkT r c = some g := by
  unfold lkT at h
  cases q : Nat.beq d c with
  | true => rw [q] at h; exact .inl ⟨(Nat.eq_of_beq_eq_true q).symm, (Option.some.inj h).symm⟩
  | false => rw [q] at h; exact .inr h
abbrev GxOf (K : PySem.W.Frag) (mg : Str → Option Value) (nm : Nat → Option Str) : Gx := ⟨K, mg, fun c => (nm c).map (ga K)⟩
theorem gx_ct {K : PySem.W.Frag} {mg : Str → Option Value} {nm : Nat → Option Str} {c : Nat} {C : Addr} {x : Str} (h : (GxOf K mg nm).ct c = some C) (e : nm c = some x) : C = ga K x := by
  have h' : (nm c).map (ga K) = some C := h
  rw [e] at h'
  exact (Option.some.inj h').symm
def viAll (f : VI → Value → Bool) : List VI → List Value → Bool
  | [], [] => true
  | v :: vs, u :: us => f v u && viAll f vs us
  | _, _ => false
def viB : Nat → PySem.W.Frag → VI → Value → Bool
  | 0, _, _, _ => false
  | n + 1, K, v, u => match v, u with
    | .non, .none => true
    | .bl a, .bool b => a == b
    | .int i, .int j _ => decide (i = j)
    | .str s, .str x _ => decide (x = toStr s)
    | .glo g, .ref a => eqO (PySem.W.nsIn K mainGlobals (toStr g)) (some (some (.ref a)))
    | .tup xs, .ref a => (match K.lookup a with
      | some ⟨.type c, _, .seq its _, _⟩ => decide (c = "tuple") && (decide (its.size ≤ sizeLine) && viAll (viB n K) xs its.toList)
      | _ => false)
    | _, _ => false
section
variable {K : PySem.W.Frag} {h : Heap} {mg : Str → Option Value} {nm : Nat → Option Str}
theorem viAll_ok {f : VI → Value → Bool} (ih : ∀ v u, f v u = true → ∃ x, RelV x u ∧ ∀ ρ H, RV (GxOf K mg nm) ρ H v x) : ∀ {vs : List VI} {us : List Value}, viAll f vs us = true → ∃ xs, Vals xs us ∧ ∀ ρ H, RVs (GxOf K mg nm) ρ H vs xs
  | [], [], _ => ⟨[], .nil, fun _ _ => .nil⟩
  | v :: vs, u :: us, e => by
    obtain ⟨e1, e2⟩ := ba (show (f v u && viAll f vs us) = true from e)
    obtain ⟨x, r, rv⟩ := ih v u e1
    obtain ⟨xs, rs, rvs⟩ := viAll_ok ih e2
    exact ⟨x :: xs, .cons r rs, fun ρ H => .cons (rv ρ H) (rvs ρ H)⟩
  | [], _ :: _, e => nomatch e
  | _ :: _, [], e => nomatch e
theorem viB_ok (X : K.In h) (Gn : h.Ns mainGlobals mg) : ∀ (n : Nat) (v : VI) (u : Value), viB n K v u = true → ∃ x, RelV x u ∧ ∀ ρ H, RV (GxOf K mg nm) ρ H v x
  | 0, _, _, e => nomatch e
  | n + 1, v, u, e => by
    unfold viB at e
    split at e
    · exact ⟨.non, rfl, fun _ _ => .non⟩
    · rename_i a b
      rw [eq_of_beq e]
      exact ⟨.bl b, rfl, fun _ _ => .bl b⟩
    · rename_i i j t
      rw [of_decide_eq_true e]
      exact ⟨.int j, ⟨t, rfl⟩, fun _ _ => .int j⟩
    · rename_i s x t
      have := of_decide_eq_true e
      subst this
      exact ⟨.str (toStr s), ⟨t, rfl⟩, fun _ _ => .str rfl⟩
    · rename_i g a
      exact ⟨.ref a, rfl, fun _ _ => .glo (PySem.W.mg_of X Gn (eqO_ok e))⟩
    · rename_i xs a
      split at e
      · rename_i c dd its m sl q
        obtain ⟨h1, h2⟩ := ba e
        obtain ⟨h3, h4⟩ := ba h2
        obtain ⟨ys, rs, rvs⟩ := viAll_ok (fun v u => viB_ok X Gn n v u) h4
        refine ⟨.ref a, rfl, fun ρ H => .tup (ys := ys) (.inr ⟨_, its, m, q, congrArg Value.type (of_decide_eq_true h1), rfl, of_decide_eq_true h3, rs⟩) (rvs ρ H)⟩
      · cases e
    · cases e
def fldB (K : PySem.W.Frag) (x f : Str) : Bool := (Fa.cls x).ok K && (Fa.noat x f).ok K
theorem fldOk_nil {f : S} : FldOk K (GxOf K mg nm) [] f := fun c C h _ => nomatch h
theorem fldOk_cons {f : S} {c : Nat} {x : Str} {r : List Nat} (hn : nm c = some x) (hB : fldB K x (toStr f) = true) (t : FldOk K (GxOf K mg nm) r f) : FldOk K (GxOf K mg nm) (c :: r) f := fun d C h e => by
  rw [List.contains_cons] at h
  rcases Bool.or_eq_true_iff.mp h with q | q
  · have hd : d = c := by simpa using q
    subst hd
    rw [gx_ct e hn]
    obtain ⟨b1, b2⟩ := ba hB
    exact ⟨cls_ok b1, noat_ok b2⟩
  · exact t d C q e
def conVB (K : PySem.W.Frag) (x f : Str) (v : VI) : Bool := (Fa.cls x).ok K && (match PySem.W.findIn K (.ref (ga K x)) f with
  | some (some u) => viB 8 K v u && (eqO (PySem.W.specialIn K u "__get__") (some none) && !PySem.W.copiedNames.contains f)
  | _ => false)
theorem conOk_nil {f : S} : ConOk K (GxOf K mg nm) (lkT []) f := fun c C v h _ => nomatch h
theorem conOk_cons (X : K.In h) (Gn : h.Ns mainGlobals mg) {f : S} {c : Nat} {v : VI} {x : Str} {r : List (Nat × VI)} (hn : nm c = some x) (hB : conVB K x (toStr f) v = true) (t : ConOk K (GxOf K mg nm) (lkT r) f) : ConOk K (GxOf K mg nm) (lkT ((c, v) :: r)) f := fun d C w h e => by
  rcases lkT_cons h with ⟨q1, q2⟩ | q
  · subst q1 q2
    rw [gx_ct e hn]
    obtain ⟨b1, b2⟩ := ba hB
    refine ⟨cls_ok b1, ?_⟩
    split at b2
    · rename_i u q
      obtain ⟨b3, b4⟩ := ba b2
      obtain ⟨b5, b6⟩ := ba b4
      obtain ⟨y, ry, rv⟩ := viB_ok X Gn 8 w u b3
      exact ⟨y, u, ⟨q, ry, eqO_ok b5, by simpa using b6⟩, rv⟩
    · cases b2
  · exact t d C w q e
def methB (K : PySem.W.Frag) (x m : Str) (d : PySem.W.Frag → Addr) : Bool := (Fa.cls x).ok K && (eqO (PySem.W.findIn K (.ref (ga K x)) m) (some (some (.ref (d K)))) && (PySem.W.isFn K (.ref (d K)) && PySem.W.keepIn K (.ref (d K))))
theorem methOk_nil {Y : Cx} {W : WX} {m : S} : MethOk Y (GxOf Y.K mg nm) W (lkT []) m := fun c C v h _ => nomatch h
theorem methOk_cons {Y : Cx} {W : WX} {m : S} {c : Nat} {g : MF} {x : Str} {d : PySem.W.Frag → Addr} {r : List (Nat × MF)} (hn : nm c = some x) (hB : methB Y.K x (toStr m) d = true) (cm : CallM Y (GxOf Y.K mg nm) W (.ref (d Y.K)) g)
    (t : MethOk Y (GxOf Y.K mg nm) W (lkT r) m) : MethOk Y (GxOf Y.K mg nm) W (lkT ((c, g) :: r)) m := fun c' C w h e => by
  rcases lkT_cons h with ⟨q1, q2⟩ | q
  · subst q1 q2
    rw [gx_ct e hn]
    obtain ⟨b1, b2⟩ := ba hB
    obtain ⟨b3, b4⟩ := ba b2
    obtain ⟨b5, b6⟩ := ba b4
    exact ⟨cls_ok b1, _, ⟨eqO_ok b3, b5, b6⟩, cm⟩
  · exact t c' C w q e
def propAd (K : PySem.W.Frag) (x f : Str) : Addr := match PySem.W.findIn K (.ref (ga K x)) f with
  | some (some (.ref p)) => p
  | _ => 0
def propB (K : PySem.W.Frag) (x f : Str) (d : PySem.W.Frag → Addr) : Bool := (Fa.cls x).ok K && (eqO (PySem.W.findIn K (.ref (ga K x)) f) (some (some (.ref (propAd K x f)))) && (eqO (PySem.W.specialIn K (.ref (propAd K x f)) "__get__") (some (some (.builtin "property.__get__"))) &&
  (decide (PySem.W.takesIn K (.ref (propAd K x f)) = some true) && (match PySem.W.recIn K (propAd K x f) "property" with
    | some (.ref g :: _) => decide (g = d K)
    | _ => false))))
def getAd (x f : Str) (K : PySem.W.Frag) : Addr := match PySem.W.recIn K (propAd K x f) "property" with
  | some (.ref g :: _) => g
  | _ => 0
theorem propB_ok {x f : Str} {d : PySem.W.Frag → Addr} (hB : propB K x f d = true) : Cls K (ga K x) ∧ PropOf K (ga K x) f (propAd K x f) (d K) := by
  obtain ⟨b1, b2⟩ := ba hB
  obtain ⟨b3, b4⟩ := ba b2
  obtain ⟨b5, b6⟩ := ba b4
  obtain ⟨b7, b8⟩ := ba b6
  refine ⟨cls_ok b1, ⟨eqO_ok b3, eqO_ok b5, of_decide_eq_true b7, ?_⟩⟩
  split at b8
  · rename_i g rest q
    rw [← of_decide_eq_true b8]
    exact ⟨rest, q⟩
  · cases b8
theorem propOk_nil {Y : Cx} {f : S} : PropOk Y (GxOf Y.K mg nm) (lkT []) f := fun c C v h _ => nomatch h
theorem propOk_cons {Y : Cx} {f : S} {c : Nat} {g : MF} {x : Str} {d : PySem.W.Frag → Addr} {r : List (Nat × MF)} {k : Nat} {fd : FuncData} {ps : List Str} (hn : nm c = some x) (hB : propB Y.K x (toStr f) d = true) (F : FnP Y (GxOf Y.K mg nm) k (d Y.K) fd ps g) (hb : Binds Y.K fd ps [])
    (t : PropOk Y (GxOf Y.K mg nm) (lkT r) f) : PropOk Y (GxOf Y.K mg nm) (lkT ((c, g) :: r)) f := fun c' C w h e => by
  rcases lkT_cons h with ⟨q1, q2⟩ | q
  · subst q1 q2
    rw [gx_ct e hn]
    obtain ⟨b1, b2⟩ := propB_ok hB
    exact ⟨b1, _, _, _, _, _, b2, F.ar, F.ok, F.room.mono (by omega), hb⟩
  · exact t c' C w q e
def spB (K : PySem.W.Frag) (x m : Str) (d : PySem.W.Frag → Addr) : Bool := PySem.W.noSeq K (ga K x) && (eqO (PySem.W.findIn K (.ref (ga K x)) m) (some (some (.ref (d K)))) && (PySem.W.fnIn K (d K) && PySem.W.isFn K (.ref (d K))))
theorem spOk_nil {Y : Cx} {A : Around} {W : WX} {m : Str} : SpOk Y A (GxOf Y.K mg nm) W (lkT []) m := ⟨fun c C v h _ => nomatch h⟩
theorem spOk_cons {Y : Cx} {A : Around} {W : WX} {m : Str} {c : Nat} {g : MF} {x : Str} {d : PySem.W.Frag → Addr} {r : List (Nat × MF)} (hn : nm c = some x) (hB : spB Y.K x m d = true) (cm : CallAt Y A (GxOf Y.K mg nm) W (.ref (d Y.K)) g)
    (t : SpOk Y A (GxOf Y.K mg nm) W (lkT r) m) : SpOk Y A (GxOf Y.K mg nm) W (lkT ((c, g) :: r)) m := ⟨fun c' C w h e => by
  rcases lkT_cons h with ⟨q1, q2⟩ | q
  · subst q1 q2
    rw [gx_ct e hn]
    obtain ⟨b1, b2⟩ := ba hB
    obtain ⟨b3, b4⟩ := ba b2
    obtain ⟨b5, b6⟩ := ba b4
    exact ⟨_, b1, eqO_ok b3, b5, b6, cm⟩
  · exact t.at_ c' C w q e⟩
inductive ClsR where
  | ty (n : String) | own (x : Str)
def ClsR.val (K : PySem.W.Frag) : ClsR → Value
  | .ty n => .type n
  | .own x => .ref (ga K x)
def ClsR.v (K : PySem.W.Frag) : ClsR → V
  | .ty n => .ty n
  | .own x => .ref (ga K x)
theorem ClsR.ok (K : PySem.W.Frag) (c : ClsR) : ClsV (c.v K) (c.val K) := by
  cases c with
  | ty n => exact .ty n
  | own x => exact .own _
theorem ClsR.all (K : PySem.W.Frag) : ∀ cs : List ClsR, Paired ClsV (cs.map (ClsR.v K)) (cs.map (ClsR.val K))
  | [] => .nil
  | c :: r => .cons (c.ok K) (ClsR.all K r)
def isT1 (K : PySem.W.Frag) (cs : List ClsR) (T : String) (o : Option Bool) : Bool := match o with
  | some b => decide (PySem.W.kitAny K (.type T) (cs.map (ClsR.val K)) = some b)
  | none => true
def isI (K : PySem.W.Frag) (nm : Nat → Option Str) (cs : List ClsR) : List (Nat × Bool) → Bool
  | [] => true
  | (c, b) :: r => (match nm c with
    | some x => (Fa.cls x).ok K && (eqO (PySem.W.findIn K (.ref (ga K x)) "__class__") (some (some (.builtin "object.__class__"))) && (decide (PySem.W.mroIn K (ga K x) (.type "object") = some true) && decide (PySem.W.kitAny K (.ref (ga K x)) (cs.map (ClsR.val K)) = some b)))
    | none => false) && isI K nm cs r
structure IsS where
  non : Option Bool
  bl : Option Bool
  int : Option Bool
  str : Option Bool
  lst : Option Bool
  tup : Option Bool
  dic : Option Bool
  ins : List (Nat × Bool)
def IsS.t (s : IsS) : IsT := ⟨s.non, s.bl, s.int, s.str, s.lst, s.tup, s.dic, lkT s.ins⟩
def isB (K : PySem.W.Frag) (nm : Nat → Option Str) (cs : List ClsR) (s : IsS) : Bool := (isT1 K cs "NoneType" s.non && (isT1 K cs "bool" s.bl && (isT1 K cs "int" s.int && (isT1 K cs "str" s.str && (isT1 K cs "list" s.lst && (isT1 K cs "tuple" s.tup && (isT1 K cs "dict" s.dic))))))) &&
  (isI K nm cs s.ins && (eqO (PySem.W.specialIn K (.builtin "object.__class__") "__get__") (some (some (.builtin "getset_descriptor.__get__"))) && decide (PySem.W.takesIn K (.builtin "object.__class__") = some true)))
theorem isT1_ok {cs : List ClsR} {T : String} {o : Option Bool} (h : isT1 K cs T o = true) : ∀ b, o = some b → PySem.W.kitAny K (.type T) (cs.map (ClsR.val K)) = some b := fun b e => by
  subst e
  exact of_decide_eq_true h
theorem isI_ok {cs : List ClsR} : ∀ {l : List (Nat × Bool)}, isI K nm cs l = true → ∀ c C b, lkT l c = some b → (GxOf K mg nm).ct c = some C → Cls K C ∧ PySem.W.findIn K (.ref C) "__class__" = some (some (.builtin "object.__class__")) ∧ PySem.W.mroIn K C (.type "object") = some true ∧ PySem.W.kitAny K (.ref C) (cs.map (ClsR.val K)) = some b
  | [], _, c, C, b, h, _ => nomatch h
  | (d, v) :: r, hB, c, C, b, h, e => by
    obtain ⟨b1, b2⟩ := ba hB
    rcases lkT_cons h with ⟨q1, q2⟩ | q
    · subst q1 q2
      cases z : nm c with
      | none => rw [z] at b1; cases b1
      | some x =>
        rw [z] at b1
        obtain ⟨b3, b4⟩ := ba b1
        obtain ⟨b5, b6⟩ := ba b4
        obtain ⟨b7, b8⟩ := ba b6
        rw [gx_ct e z]
        exact ⟨cls_ok b3, eqO_ok b5, of_decide_eq_true b7, of_decide_eq_true b8⟩
    · exact isI_ok b2 c C b q e
theorem isOk_of {cs : List ClsR} {s : IsS} (h : isB K nm cs s = true) : IsOk K (GxOf K mg nm) (cs.map (ClsR.val K)) s.t := by
  obtain ⟨h1, h2⟩ := ba h
  obtain ⟨a1, h1⟩ := ba h1
  obtain ⟨a2, h1⟩ := ba h1
  obtain ⟨a3, h1⟩ := ba h1
  obtain ⟨a4, h1⟩ := ba h1
  obtain ⟨a5, h1⟩ := ba h1
  obtain ⟨a6, a7⟩ := ba h1
  obtain ⟨b1, b2⟩ := ba h2
  obtain ⟨b3, b4⟩ := ba b2
  exact ⟨isT1_ok a1, isT1_ok a2, isT1_ok a3, isT1_ok a4, isT1_ok a5, isT1_ok a6, isT1_ok a7, isI_ok b1, eqO_ok b3, of_decide_eq_true b4⟩
end
end ML
end
section
namespace ML
open PySem PySem.Spec PyProof.Rows L2 He
def lkS {α : Type} : List (S × α) → S → Option α
  | [], _ => none
  | (d, x) :: r, c => match decide (d = c) with
    | true => some x
    | false => lkS r c
def kdB (K : PySem.W.Frag) (d : Addr) : List (S × VI) → Bool
  | [] => true
  | (s, v) :: r => (match PySem.W.nsIn K d (toStr s) with
    | some (some u) => viB 8 K v u
    | _ => false) && kdB K d r
section
variable {K : PySem.W.Frag} {h : Heap} {mg : Str → Option Value} {nm : Nat → Option Str}
theorem kdB_ok (X : K.In h) (Gn : h.Ns mainGlobals mg) {d : Addr} : ∀ {l : List (S × VI)}, kdB K d l = true → ∀ s v, lkS l s = some v → ∃ u x, PySem.W.nsIn K d (toStr s) = some (some u) ∧ RelV x u ∧ ∀ ρ H, RV (GxOf K mg nm) ρ H v x
  | [], _, s, v, e => nomatch e
  | (a, b) :: r, hB, s, v, e => by
    obtain ⟨b1, b2⟩ := ba hB
    unfold lkS at e
    cases q : decide (a = s) with
    | false => rw [q] at e; exact kdB_ok X Gn b2 s v e
    | true =>
      rw [q] at e
      cases e
      have := of_decide_eq_true q
      subst this
      split at b1
      · rename_i u z
        obtain ⟨x, rx, rv⟩ := viB_ok X Gn 8 b u b1
        exact ⟨u, x, z, rx, rv⟩
      · cases b1
theorem kdOk_of {Y : Cx} (X : Y.K.In h) (Gn : h.Ns mainGlobals mg) {d : Addr} {l : List (S × VI)} (D : ∃ es n, KDict Y.K Y.w d es n) (hB : kdB Y.K d l = true) : KdOk Y (GxOf Y.K mg nm) d (lkS l) := fun s w e => by
  obtain ⟨es, n, D⟩ := D
  obtain ⟨u, x, h1, h2, h3⟩ := kdB_ok X Gn hB s w e
  exact ⟨x, ⟨es, n, u, D.at_, D.lit, h1, h2⟩, h3⟩
end
structure GDef where
  at_ : PySem.W.Frag → Addr
  name : Str
  qual : Str
  params : Arguments
  body : List Stmt
  scope : Scope
  dfl : List Dv := []
  kwd : List (Str × Dv) := []
def fnG (K : PySem.W.Frag) (p : PySem.W.Frag → Addr) : FnW := match K.lookup (p K) with
  | some ⟨_, _, .func fd, _⟩ => some (fd.name, fd.qualname, fd.params, fd.body, fd.scope, fd.globals, fd.closure, fd.builtins)
  | _ => none
def GDef.val (d : GDef) : FnW := some (d.name, d.qual, d.params, .stmts d.body, d.scope, mainGlobals, [], builtinsNs)
def GDef.dvs (K : PySem.W.Frag) (d : GDef) : List V := d.dfl.map (Dv.v K)
def GDef.kws (K : PySem.W.Frag) (d : GDef) : List (Str × V) := d.kwd.map fun q => (q.1, q.2.v K)
def GDef.ok (K : PySem.W.Frag) (d : GDef) : Bool := PySem.W.keepIn K (.ref (d.at_ K)) && (match K.lookup (d.at_ K) with
  | some ⟨_, _, .func fd, _⟩ => PySem.W.codeIn K fd.code d.qual && (dflB K fd.defaults (d.dvs K) && kwdB K fd.kwdefaults (d.kws K))
  | _ => false)
theorem GDef.funD {K : PySem.W.Frag} {d : GDef} (e : fnG K d.at_ = d.val) (c : d.ok K = true) : ∃ fd, FunD K d.name d.qual d.params d.body d.scope (d.dvs K) (d.kws K) (d.at_ K) fd := by
  obtain ⟨kp, c2⟩ := ba c
  unfold fnG at e
  cases q : K.lookup (d.at_ K) with
  | none => rw [q] at c2; cases c2
  | some o =>
    obtain ⟨oc, od, dt, osl⟩ := o
    rw [q] at c2 e
    cases dt with
    | func fd =>
      obtain ⟨n1, n2, n3, n4, n5, n6, n7, n8, n9, n10, n11, n12, n13, n14, n15⟩ := fd
      have e2 : (some (n1, n2, n3, n4, n5, n6, n7, n15) : FnW) = some (d.name, d.qual, d.params, .stmts d.body, d.scope, mainGlobals, [], builtinsNs) := e
      simp only [Option.some.injEq, Prod.mk.injEq] at e2
      obtain ⟨h1, h2, h3, h4, h5, h6, h7, h8⟩ := e2
      subst h1 h2 h3 h4 h5 h6 h7 h8
      obtain ⟨k1, k2⟩ := ba (show (PySem.W.codeIn K n13 d.qual && (dflB K n8 (d.dvs K) && kwdB K n9 (d.kws K))) = true from c2)
      obtain ⟨k3, k4⟩ := ba k2
      exact ⟨_, ⟨oc, od, n8, n9, n10, n11, n12, n13, n14, osl, rfl, q, k1, dflB_ok k3, kwdB_ok k4⟩, kp⟩
    | _ => cases c2
structure SDef where
  at_ : PySem.W.Frag → Addr
  name : Str
  qual : Str
  params : Arguments
  body : List Stmt
  scope : Scope
  kwd : List (Str × Dv) := []
  cls : Str
  file : Str
abbrev FnS : Type := Option (Str × Str × Arguments × FuncBody × Scope × Addr × Addr)
def fnS (K : PySem.W.Frag) (p : PySem.W.Frag → Addr) : FnS := match K.lookup (p K) with
  | some ⟨_, _, .func fd, _⟩ => some (fd.name, fd.qualname, fd.params, fd.body, fd.scope, fd.globals, fd.builtins)
  | _ => none
def SDef.val (d : SDef) : FnS := some (d.name, d.qual, d.params, .stmts d.body, d.scope, mainGlobals, builtinsNs)
def SDef.kws (K : PySem.W.Frag) (d : SDef) : List (Str × V) := d.kwd.map fun q => (q.1, q.2.v K)
def fdOf (K : PySem.W.Frag) (p : PySem.W.Frag → Addr) : FuncData := match K.lookup (p K) with
  | some ⟨_, _, .func fd, _⟩ => fd
  | _ => PySem.W.fnX Str.empty Str.empty ⟨[], [], none, [], [], none, []⟩ [] ⟨.function, [], false, false, []⟩ [] .none .none .none .none none .none .none
def cdAd (K : PySem.W.Frag) (p : PySem.W.Frag → Addr) : Addr := match (fdOf K p).code with
  | .ref c => c
  | _ => 0
def clAd (K : PySem.W.Frag) (p : PySem.W.Frag → Addr) : Addr := match (fdOf K p).closure with
  | [(_, c)] => c
  | _ => 0
def SDef.ok (K : PySem.W.Frag) (d : SDef) : Bool := PySem.W.keepIn K (.ref (d.at_ K)) && ((match K.lookup (d.at_ K) with
  | some ⟨_, _, .func fd, _⟩ => decide (fd.closure = [(("__class__" : Str), clAd K d.at_)]) && (decide (fd.code = .ref (cdAd K d.at_)) && (dflB K fd.defaults [] && kwdB K fd.kwdefaults (d.kws K)))
  | _ => false) && (PySem.W.codeIn K (.ref (cdAd K d.at_)) d.qual && ((match K.lookup (cdAd K d.at_) with
    | some ⟨_, _, .fields vs, _⟩ => (match (vs[2]? : Option Value) with
      | some (.str f _) => decide (f = d.file)
      | _ => false)
    | _ => false) && (match K.lookup (clAd K d.at_) with
      | some ⟨_, _, .cell (some (.ref D)), _⟩ => decide (D = ga K d.cls)
      | _ => false))))
theorem SDef.funS {K : PySem.W.Frag} {d : SDef} (e : fnS K d.at_ = d.val) (c : d.ok K = true) : FunS K d.name d.qual d.params d.body d.scope [] (d.kws K) (d.at_ K) (fdOf K d.at_) (clAd K d.at_) (ga K d.cls) (cdAd K d.at_) d.file := by
  obtain ⟨kp, c⟩ := ba c
  obtain ⟨c1, c⟩ := ba c
  obtain ⟨c2, c⟩ := ba c
  obtain ⟨c3, c4⟩ := ba c
  refine ⟨?_, c2, ?_, ?_, kp⟩
  · unfold fnS at e
    unfold fdOf
    cases q : K.lookup (d.at_ K) with
    | none => rw [q] at c1; cases c1
    | some o =>
      obtain ⟨oc, od, dt, osl⟩ := o
      rw [q] at c1 e
      cases dt with
      | func fd =>
        obtain ⟨n1, n2, n3, n4, n5, n6, n7, n8, n9, n10, n11, n12, n13, n14, n15⟩ := fd
        have e2 : (some (n1, n2, n3, n4, n5, n6, n15) : FnS) = some (d.name, d.qual, d.params, .stmts d.body, d.scope, mainGlobals, builtinsNs) := e
        simp only [Option.some.injEq, Prod.mk.injEq] at e2
        obtain ⟨h1, h2, h3, h4, h5, h6, h8⟩ := e2
        subst h1 h2 h3 h4 h5 h6 h8
        obtain ⟨k1, c5⟩ := ba (show (decide (n7 = [(("__class__" : Str), clAd K d.at_)]) && (decide (n13 = .ref (cdAd K d.at_)) && (dflB K n8 [] && kwdB K n9 (d.kws K)))) = true from c1)
        obtain ⟨k2, c6⟩ := ba c5
        obtain ⟨k3, k4⟩ := ba c6
        have k1 := of_decide_eq_true k1
        have k2 := of_decide_eq_true k2
        subst k1 k2
        exact ⟨oc, od, n8, n9, n10, n11, n12, n14, osl, rfl, rfl, dflB_ok k3, kwdB_ok k4⟩
      | _ => cases c1
  · cases q : K.lookup (cdAd K d.at_) with
    | none => rw [q] at c3; cases c3
    | some o =>
      obtain ⟨oc, od, dt, osl⟩ := o
      rw [q] at c3
      cases dt with
      | fields vs =>
        dsimp only at c3
        split at c3
        · rename_i f t z
          rw [← of_decide_eq_true c3]
          exact ⟨_, vs, t, rfl, rfl, z⟩
        · cases c3
      | _ => cases c3
  · split at c4
    · rename_i D sl q
      rw [← of_decide_eq_true c4]
      exact ⟨_, q, rfl⟩
    · cases c4
def supB (K : PySem.W.Frag) (xD : Str) (d2 : PySem.W.Frag → Addr) (l : List Str) : Bool := (PySem.W.clsIn K (ga K xD)).isSome && (eqO (PySem.W.nsIn K cStatics "thirdparty.any") (some none) && (decide (PySem.W.typeIn K (.ref (d2 K)) = some (.type "function")) && (PySem.W.fnIn K (d2 K) &&
  l.all fun x => (PySem.W.clsIn K (ga K x)).isSome && (decide (PySem.W.mroIn K (ga K x) (.ref (ga K xD)) = some true) && eqO (PySem.W.ks_superIn K (ga K x) (ga K xD) "__init__") (some (some (.ref (d2 K))))))))
def noLstB (K : PySem.W.Frag) : Bool := K.all fun p => match p.2.cls with
  | .type t => !decide (t = "list")
  | _ => true
theorem mem_lk {a : Addr} {o : Obj} : ∀ {K : List (Addr × Obj)}, K.lookup a = some o → (a, o) ∈ K
  | [], h => by cases h
  | (b, u) :: r, h => by
    rw [List.lookup_cons] at h
    cases q : a == b with
    | true =>
      rw [q] at h
      cases h
      rw [beq_iff_eq.mp q]
      exact List.mem_cons_self
    | false =>
      rw [q] at h
      exact List.mem_cons_of_mem _ (mem_lk h)
theorem noLst_ok {K : PySem.W.Frag} (h : noLstB K = true) {a : Addr} {o : Obj} (e : K.lookup a = some o) : o.cls ≠ .type "list" := fun z => by
  have m : (a, o) ∈ K := mem_lk e
  have := List.all_eq_true.mp h _ m
  dsimp only at this
  rw [z] at this
  cases this
structure MSpec where
  fn : List GDef
  sf : List SDef
  ts : List Tab
  ex : List (PySem.W.Frag → Bool)
abbrev AlM : Type := Bool × List FnW × List FnS × List (Option (List (Option (Str × Int))))
def obsM (m : MSpec) (K : PySem.W.Frag) : AlM := ((m.ex.all fun f => f K) && ((m.fn.all fun d => d.ok K) && (m.sf.all fun d => d.ok K)), m.fn.map fun d => fnG K d.at_, m.sf.map fun d => fnS K d.at_, m.ts.map fun t => dicW K (t.1 K))
def valM (m : MSpec) (w : World) : AlM := (true, m.fn.map GDef.val, m.sf.map SDef.val, m.ts.map fun t => some (keysIn w.params t.2))
def SaysM (m : MSpec) (w : World) (K : PySem.W.Frag) : Prop := obsM m K = valM m w
section
variable {m : MSpec} {w : World} {K : PySem.W.Frag}
theorem SaysM.b (c : SaysM m w K) : (m.ex.all fun f => f K) = true ∧ (m.fn.all fun d => d.ok K) = true ∧ (m.sf.all fun d => d.ok K) = true := by
  have e : ((m.ex.all fun f => f K) && ((m.fn.all fun d => d.ok K) && (m.sf.all fun d => d.ok K))) = true := congrArg (fun z : AlM => z.1) c
  obtain ⟨e1, e2⟩ := ba e
  obtain ⟨e3, e4⟩ := ba e2
  exact ⟨e1, e3, e4⟩
theorem SaysM.ex (c : SaysM m w K) (i : Nat) {f : PySem.W.Frag → Bool} (h : m.ex[i]? = some f := by rfl) : f K = true := List.all_eq_true.mp c.b.1 f (List.mem_of_getElem? h)
theorem SaysM.def_ (c : SaysM m w K) (i : Nat) {d : GDef} (h : m.fn[i]? = some d := by rfl) : FunD K d.name d.qual d.params d.body d.scope (d.dvs K) (d.kws K) (d.at_ K) (fdOf K d.at_) := by
  have e : m.fn.map (fun d => fnG K d.at_) = m.fn.map GDef.val := congrArg (fun z : AlM => z.2.1) c
  have e2 : (m.fn.map fun d => fnG K d.at_)[i]? = (m.fn.map GDef.val)[i]? := by rw [e]
  rw [List.getElem?_map, List.getElem?_map, h] at e2
  obtain ⟨fd, F⟩ := GDef.funD (Option.some.inj e2) (List.all_eq_true.mp c.b.2.1 d (List.mem_of_getElem? h))
  have : fdOf K d.at_ = fd := by
    obtain ⟨oc, od, dV, kV, doc, pm, an, cdv, ct, osl, _, lk, _⟩ := F.ex
    unfold fdOf
    rw [lk]
  rw [this]
  exact F
theorem SaysM.sup (c : SaysM m w K) (i : Nat) {d : SDef} (h : m.sf[i]? = some d := by rfl) : FunS K d.name d.qual d.params d.body d.scope [] (d.kws K) (d.at_ K) (fdOf K d.at_) (clAd K d.at_) (ga K d.cls) (cdAd K d.at_) d.file := by
  have e : m.sf.map (fun d => fnS K d.at_) = m.sf.map SDef.val := congrArg (fun z : AlM => z.2.2.1) c
  have e2 : (m.sf.map fun d => fnS K d.at_)[i]? = (m.sf.map SDef.val)[i]? := by rw [e]
  rw [List.getElem?_map, List.getElem?_map, h] at e2
  exact SDef.funS (Option.some.inj e2) (List.all_eq_true.mp c.b.2.2 d (List.mem_of_getElem? h))
theorem SaysM.tab (c : SaysM m w K) (i : Nat) {t : Tab} (h : m.ts[i]? = some t := by rfl) : ∃ es n, KDict K w (t.1 K) es n := by
  have e : m.ts.map (fun t => dicW K (t.1 K)) = m.ts.map fun t => some (keysIn w.params t.2) := congrArg (fun z : AlM => z.2.2.2) c
  have e2 : (m.ts.map fun t => dicW K (t.1 K))[i]? = (m.ts.map fun t => some (keysIn w.params t.2))[i]? := by rw [e]
  rw [List.getElem?_map, List.getElem?_map, h] at e2
  exact dicW_ok (Option.some.inj e2)
end
end ML
end
section
namespace ML
open PySem PySem.Spec PyProof.Rows L2 He
abbrev Defn := PySem.W.Frag → Addr
abbrev gA (x : Str) : Defn := fun K => ga K x
abbrev mA (x m : Str) : Defn := fun K => He.ma K (ga K x) m
structure Ev (m : MSpec) (w : World) (K : PySem.W.Frag) (mg : Str → Option Value) : Prop where
  says : SaysM m w K
  hh : ∃ h : Heap, K.In h ∧ h.Ns mainGlobals mg
section
variable {m : MSpec} {w : World} {K : PySem.W.Frag} {mg : Str → Option Value}
theorem Ev.glo (e : Ev m w K mg) (i : Nat) {x : Str} (h : m.ex[i]? = some (fun K => (Fa.glo x).ok K) := by rfl) : mg x = some (.ref (ga K x)) := let ⟨_, X, G⟩ := e.hh; glo_ok X G (e.says.ex i h)
theorem Ev.free (e : Ev m w K mg) (i : Nat) {x : Str} (h : m.ex[i]? = some (fun K => (Fa.free x).ok K) := by rfl) : mg x = none := let ⟨_, X, G⟩ := e.hh; free_ok X G (e.says.ex i h)
def mkB (K : PySem.W.Frag) (x : Str) (q : PySem.W.Frag → Addr) : Bool := (Fa.mkr x).ok K && decide (He.ma K (ga K x) "__init__" = q K)
def gvB (K : PySem.W.Frag) (x : Str) (v : VI) : Bool := match PySem.W.nsIn K mainGlobals x with
  | some (some u) => viB 8 K v u
  | _ => false
end
section
variable {G : Gx} {W : WX} {X : Cx} {e a b : Expr} {es : List Expr} {pos p : Pos} {ma : MA} {x : Str} {m : MSpec} {nm : Nat → Option Str}
theorem takes0 : Takes X W0 := fun _ _ h => let ⟨_, _, _, _, _, _, _, _, _, _, _, _, _, _, _, _, w⟩ := h; w.elim
theorem xv (i : Nat) (hN : X.N[i]? = some x := by rfl) (hv : Vis X.env.scope x := by first | exact .inl rfl | exact .inr (.inl rfl) | exact .inr (.inr rfl)) (hd : (x == ("__debug__" : Str)) = false := by decide) (hcd : (x == ("__classdict__" : Str)) = false := by decide) :
    PE X (.Name x pos) (rdE G W (eV i)) := me_var hN hv hd hcd
theorem xval {v : VI} (E : Ev m X.w X.K X.mg) (i : Nat) (hg : Gl X x) (h : m.ex[i]? = some (fun K => gvB K x v) := by rfl) (hd : (x == ("__debug__" : Str)) = false := by decide) : PE X (.Name x pos) (rdE (GxOf X.K X.mg nm) W (eC v)) := by
  have q := E.says.ex i h
  obtain ⟨hp, XI, Gn⟩ := E.hh
  unfold gvB at q
  split at q
  · rename_i u z
    obtain ⟨y, ry, rv⟩ := viB_ok XI Gn 8 v u q
    exact me_glob hg (PySem.W.mg_of XI Gn z) ry rv hd
  · cases q
structure DOk (P : Program) (w : World) (K : PySem.W.Frag) (mg : Str → Option Value) (base : Heap) (nm : Nat → Option Str) (k : Nat) (p : Defn) (ps : List Str) (g : MF) : Prop where
  ok : FnOk P w K mg base (L2.CX P w) k (p K) (fdOf K p) ps (spM (GxOf K mg nm) ps.length g)
  ar : Arity ps.length g
  kp : PySem.W.keepIn K (.ref (p K)) = true
abbrev XOk (X : Cx) (nm : Nat → Option Str) (k : Nat) (p : Defn) (ps : List Str) (g : MF) : Prop := DOk X.prog X.w X.K X.mg X.base nm k p ps g
abbrev BOk (K : PySem.W.Frag) (p : Defn) (ps : List Str) : Prop := Binds K (fdOf K p) ps []
theorem DOk.fp {k k' : Nat} {q : Defn} {ps : List Str} {g : MF} (d : XOk X nm k q ps g) (hr : Room k' X.A) (h : k + 2 ≤ k' := by decide) : FnP X (GxOf X.K X.mg nm) k (q X.K) (fdOf X.K q) ps g := ⟨d.ok, d.ar, hr.mono h⟩
theorem xcm {k k' : Nat} {q : Defn} {ps : List Str} {g : MF} (d : XOk X nm k q ps g) (bn : BOk X.K q ps) (hr : Room k' X.A) (tk : Takes X W) (h : k + 2 ≤ k' := by decide) : CallM X (GxOf X.K X.mg nm) W (.ref (q X.K)) g := (d.fp hr h).call bn tk
theorem xca1 {k k' : Nat} {q : Defn} {ps : List Str} {g : MF} (d : XOk X nm k q ps g) (bn : BOk X.K q ps) (hr : Room k' X.A) (tk : Takes X W) (h : k + 2 ≤ k' := by decide) : CallAt X X.A.in1 (GxOf X.K X.mg nm) W (.ref (q X.K)) g := (d.fp hr h).at1 bn tk
theorem xca0 {k k' : Nat} {q : Defn} {ps : List Str} {g : MF} (d : XOk X nm k q ps g) (bn : BOk X.K q ps) (hr : Room k' X.A) (tk : Takes X W) (h : k + 2 ≤ k' := by decide) : CallAt X X.A (GxOf X.K X.mg nm) W (.ref (q X.K)) g := (d.fp hr h).at0 bn tk
theorem xcall {k k' : Nat} {x : Str} {ps : List Str} {g : MF} (d : XOk X nm k (gA x) ps g) (bn : BOk X.K (gA x) ps) (hr : Room k' X.A) (tk : Takes X W) (hm : X.mg x = some (.ref (ga X.K x))) (ha : PA X (e :: es) (rdA (GxOf X.K X.mg nm) W ma)) (h : k + 2 ≤ k' := by decide)
    (hg : Gl X x := by rfl) (hdb : (x == ("__debug__" : Str)) = false := by decide) (he : starEach (e :: es) X.env = (false, eval e X.env) :: starEach es X.env := by rfl) (hpl : (backTo pos (starEach es X.env)).any (·.1) = false := by rfl) :
    PE X (.Call (.Name x p) (e :: es) [] pos) (rdE (GxOf X.K X.mg nm) W (eCall g ma)) := me_call (xcm d bn hr tk h) hg hm d.kp ha hdb he hpl
theorem xmkK {k k' c n : Nat} {x : Str} {q : Defn} {ps ks : List Str} {g : MF} {arr : List VI → List VI → List VI} (E : Ev m X.w X.K X.mg) (d : XOk X nm k q ps g) (bn : Bnd (GxOf X.K X.mg nm) X.K (fdOf X.K q) ps (n + 1) ks arr) (hr : Room k' X.A) (tk : Takes X W) (j : Nat) (hc : nm c = some x)
    (hj : m.ex[j]? = some (fun K => mkB K x q) := by rfl) (h : k + 2 ≤ k' := by decide) : CallK X (GxOf X.K X.mg nm) W (.ref (ga X.K x)) n ks (mkK c g arr) ∧ PySem.W.keepIn X.K (.ref (ga X.K x)) = true := by
  obtain ⟨h1, h2⟩ := ba (E.says.ex j hj)
  have M := mkr_ok h1
  rw [of_decide_eq_true h2] at M
  exact ⟨callK_make M (by show (nm c).map _ = _; rw [hc]; rfl) (d.fp hr h) bn tk, M.kp⟩
end
end ML
end
section
namespace ML
open PySem PySem.Spec PyProof.Rows L2 He
def knw (cs : List Nat) (c : Nat) : Bool := cs.any (Nat.beq c)
def knB (nm : Nat → Option Str) (l : List Str) (cs : List Nat) : Bool := cs.all fun c => match nm c with
  | some x => l.contains x
  | none => false
theorem knw_ok {nm : Nat → Option Str} {l : List Str} {cs : List Nat} (h : knB nm l cs = true) (c : Nat) (q : knw cs c = true) : ∃ x, nm c = some x ∧ x ∈ l := by
  obtain ⟨d, hd, e⟩ := List.any_eq_true.mp q
  have := Nat.eq_of_beq_eq_true e
  subst this
  have z := List.all_eq_true.mp h c hd
  cases y : nm c with
  | none => rw [y] at z; cases z
  | some x => rw [y] at z; exact ⟨x, rfl, by simpa using z⟩
theorem supOk_of {X : Cx} {W : WX} {nm : Nat → Option Str} {x qual : Str} {params : Arguments} {body : List Stmt} {scope : Scope} {dvs : List V} {kws : List (Str × V)} {f cc c : Addr} {fd : FuncData} {file xD sf : Str} {cs : List Nat} {l : List Str} {d2 : Defn} {g : MF} {ar : Arg} {m : MSpec}
    (E : Ev m X.w X.K X.mg) (F : FunS X.K x qual params body scope dvs kws f fd cc (ga X.K xD) c file) (i : Nat) (cm : CodeM X (GxOf X.K X.mg nm) W (.ref (d2 X.K)) g) (hk : knB nm l cs = true) (hfn : X.env.func = some f) (hcode : X.env.code = .ref c)
    (har : (params.posonlyargs ++ params.args).head? = some ar) (hs : ar.arg = sf) (hfile : ((X.prog.main.file : Str) == file) = true) (htop : (X.prog.main.scope.names.lookup ("super" : Str)).isSome = false) (hB : m.ex[i]? = some (fun K => supB K xD d2 l) := by rfl) : SupOk X (GxOf X.K X.mg nm) W (knw cs) f (ga X.K xD) sf g := by
  obtain ⟨b1, b2⟩ := ba (E.says.ex i hB)
  obtain ⟨b3, b4⟩ := ba b2
  obtain ⟨b5, b6⟩ := ba b4
  obtain ⟨b7, b8⟩ := ba b6
  obtain ⟨oc, od, dV, kV, doc, pm, an, ct, osl, e1, e2, _, _⟩ := F.ex
  obtain ⟨o, vs, tf, e3, e4, e5⟩ := F.file
  refine ⟨hfn, ⟨_, fd, ar, e2, rfl, by rw [e1]; exact har, hs⟩, ⟨c, o, vs, file, tf, hcode, e3, e4, e5, hfile⟩, htop, Option.isSome_iff_exists.mp b1, eqO_ok b3, fun c' C q e => ?_⟩
  obtain ⟨y, hy, hm⟩ := knw_ok hk c' q
  rw [gx_ct e hy]
  obtain ⟨a1, a2⟩ := ba (List.all_eq_true.mp b8 y hm)
  obtain ⟨a3, a4⟩ := ba a2
  exact ⟨Option.isSome_iff_exists.mp a1, of_decide_eq_true a3, _, eqO_ok a4, of_decide_eq_true b5, b7, cm⟩
theorem aCons1 {a : ME} : ∀ σ h vs h1, aCons a aNil σ h = .ok vs h1 → vs.length = 1 := fun σ h vs h1 e => by
  unfold aCons at e
  cases q : a σ h with
  | ok x h2 => rw [q] at e; cases e; rfl
  | ex c n h2 => rw [q] at e; cases e
  | err => rw [q] at e; cases e
theorem aCons2 {a b : ME} : ∀ σ h vs h1, aCons a (aCons b aNil) σ h = .ok vs h1 → vs.length = 2 := fun σ h vs h1 e => by
  unfold aCons at e
  cases q : a σ h with
  | ok x h2 =>
    rw [q] at e
    dsimp only [Res.bind] at e
    cases q2 : b σ h2 with
    | ok y h3 => rw [q2] at e; cases e; rfl
    | ex c n h3 => rw [q2] at e; cases e
    | err => rw [q2] at e; cases e
  | ex c n h2 => rw [q] at e; cases e
  | err => rw [q] at e; cases e
def enlOf : VI → Hi → Option Itm := fun v h => match v with
  | .ref n => match listAt n h with
    | some _ => some (.enl n)
    | none => none
  | _ => none
def iEnumM (e : ME) : MI := fun σ h => (e σ h).bind fun v h1 => ofI (enlOf v h1) h1
section
variable {G : Gx} {W : WX} {X : Cx} {e : Expr} {me : ME} {ρ : List Addr} {H : Hp} {p pos tpos : Pos} {elts : List Expr} {kk : Nat}
end
theorem hu1 {k : Nat} {A : Around} (r : Room k A) : A.units + 1 < cLine := by have := r.un; omega
theorem hu64 {k : Nat} {A : Around} (r : Room k A) : A.units + 64 < cLine := by have := r.un; omega
theorem hu65 {k : Nat} {A : Around} (r : Room k A) : A.units + 65 < cLine := by have := r.un; omega
theorem kwc {X : Cx} {G : Gx} {W : WX} {fv : Value} {n : Nat} {ks : List Str} {g : MK} {B : Prop} {ss : List S} (c : CallK X G W fv n ks g ∧ B) (h : ss.map toStr = ks) : CallK X G W fv n (ss.map toStr) g := by rw [h]; exact c.1
section
variable {K : PySem.W.Frag} {x qual : Str} {params : Arguments} {body : List Stmt} {scope : Scope} {dvs : List V} {kws : List (Str × V)} {f cc D c : Addr} {fd : FuncData} {file : Str} {ps : List Str}
theorem FunS.bindsN (F : FunS K x qual params body scope [] kws f fd cc D c file)
    (h : ∀ (kV doc pm : Value) (an : Option Addr) (cdv ct : Value) (us : List Value), us.length = ps.length → bindArgs (PySem.W.fnX x qual params body scope [("__class__", cc)] .none kV doc pm an cdv ct) ⟨us, []⟩ = pure (ps.zip us)) : Binds K fd ps [] := by
  obtain ⟨oc, od, dV, kV, doc, pm, an, ct, osl, rfl, lk, hD, hK⟩ := F.ex
  rcases hD with ⟨_, rfl⟩ | ⟨e, _⟩
  · exact .all (h kV doc pm an _ ct)
  · exact absurd rfl e
theorem FunS.kbinds0 (F : FunS K x qual params body scope [] kws f fd cc D c file) (n : Nat) (ks : List Str) (ms : List (Str × V)) (g : {α : Type} → List α → List α → List α → List α) (hk : kws ≠ []) (hms : ∀ q ∈ ms, q ∈ kws)
    (hrel : ∀ {vs mz zs : List V} {us mv ws : List Value}, Vals vs us → Vals mz mv → Vals zs ws → Vals (g vs mz zs) (g us mv ws))
    (h : ∀ (D : Addr) (doc pm : Value) (an : Option Addr) (cdv ct : Value) (us mv ws : List Value), us.length = n → mv.length = ms.length → ws.length = ks.length →
      KwChain D ((ms.map (·.1)).zip mv) (bindArgs (PySem.W.fnX x qual params body scope [("__class__", cc)] .none (.ref D) doc pm an cdv ct) ⟨us, ks.zip ws⟩) (ps.zip (g us mv ws))) :
    ∃ mv : List Value, KBn K fd ps n ks (fun us ws => g us mv ws) (fun vs zs => g vs (ms.map (·.2)) zs) := by
  obtain ⟨oc, od, dV, kV, doc, pm, an, ct, osl, rfl, lk, hD, hK⟩ := F.ex
  rcases hD with ⟨_, rfl⟩ | ⟨e, _⟩
  · rcases hK with e | ⟨D, rfl, hq⟩
    · exact absurd e hk
    · obtain ⟨mv, hl, rk, hks⟩ := kwd_vals (ms := ms) fun q hm => hq q (hms q hm)
      exact ⟨mv, ⟨fun s us ws X l1 l2 => BindsTo.of_looks fun M => KwChain.looks X hks (h D doc pm an _ ct us mv ws l1 hl l2), fun r1 r2 => hrel r1 rk r2⟩⟩
  · exact absurd rfl e
end
section
variable {G : Gx} {W : WX} {X : Cx} {a b c : Expr} {pos : Pos} {ma mb mc : ME} {f g : Op2}
theorem tOf_rd {me : ME} {σ : L2.St} {H : Hp} {Q : Bool → Hp → Prop} (r : rdT G W (tOf me) σ H Q) : rdE G W me σ H fun x H' => ∃ k, x = .bl k ∧ Q k H' :=
  let ⟨_, _, _, as, ag, f⟩ := r
  rdG_go as ag f fun ρ1 H1 h1 x x' st as ag r f => by
    cases r with
    | bl b => exact ⟨b, rfl, f.ok ag rfl⟩
    | _ => exact f.elim
theorem mt_cmpR {op : CmpOp} (ho : OpR X (compareOp op) (rd2 G f)) (ha : PE X a (rdE G W ma)) (hb : PE X b (rdE G W mb)) (hm : behindInMarks op b = false) : PT X (.Compare a [op] [b] pos) (rdT G W (tOf (eBin f ma mb))) :=
  PT.imp' (pt_cmpR ho ha hb hm) fun σ H Q r => by
    obtain ⟨ρ, σi, h, as, ag, f⟩ := tOf_rd r
    exact rdG_go as ag f fun ρ1 H1 h1 x x' st as ag r f => rdG_go as ag f fun ρ2 H2 h2 y y' st2 as ag rs f => ⟨ρ2, h2, x, y, ag, r.mono st2, rs, FinO.of f⟩
end
def sPar (i j : Nat) (ma : MA) : MS := fun σ h => (ma σ h).bindS σ fun vs h1 => match vs with
  | [v, w] => .nx ((σ.set i (some v)).set j (some w)) h1
  | _ => .err
def sPar3 (i j l : Nat) (ma : MA) : MS := fun σ h => (ma σ h).bindS σ fun vs h1 => match vs with
  | [u, v, w] => .nx (((σ.set i (some u)).set j (some v)).set l (some w)) h1
  | _ => .err
section
variable {G : Gx} {W : WX} {X : Cx} {a b c : Expr} {pos : Pos} {ma : MA} {i j l : Nat} {x y z : Str} {px py pz pt : Pos} {kt : Nat} {k2 : Nat} {pt2 : Pos}
end
def pk3 {α : Type} (us ms ws : List α) (q : Nat × Nat) : Option α := match q.1 with
  | 0 => us[q.2]?
  | 1 => ms[q.2]?
  | _ => ws[q.2]?
def arr3 {α : Type} : List (Nat × Nat) → List α → List α → List α → List α
  | [], _, _, _ => []
  | q :: r, us, ms, ws => match pk3 us ms ws q with
    | some x => x :: arr3 r us ms ws
    | none => arr3 r us ms ws
theorem vals_at {xs : List V} {us : List Value} (r : Vals xs us) (i : Nat) : (∃ x u, xs[i]? = some x ∧ us[i]? = some u ∧ RelV x u) ∨ (xs[i]? = none ∧ us[i]? = none) := by
  cases e : xs[i]? with
  | none => exact .inr ⟨rfl, by rw [List.getElem?_eq_none_iff] at e ⊢; rw [← r.length]; exact e⟩
  | some x =>
    obtain ⟨u, h1, h2⟩ := r.get e
    exact .inl ⟨x, u, rfl, h1, h2⟩
theorem arr3_vals {vs mz zs : List V} {us mv ws : List Value} (r1 : Vals vs us) (r2 : Vals mz mv) (r3 : Vals zs ws) : ∀ sel : List (Nat × Nat), Vals (arr3 sel vs mz zs) (arr3 sel us mv ws)
  | [] => .nil
  | (k, i) :: r => by
    have t := arr3_vals r1 r2 r3 r
    have key : (∃ x u, pk3 vs mz zs (k, i) = some x ∧ pk3 us mv ws (k, i) = some u ∧ RelV x u) ∨ (pk3 vs mz zs (k, i) = none ∧ pk3 us mv ws (k, i) = none) := by
      unfold pk3
      match k with
      | 0 => exact vals_at r1 i
      | 1 => exact vals_at r2 i
      | k + 2 => exact vals_at r3 i
    unfold arr3
    rcases key with ⟨x, u, h1, h2, h3⟩ | ⟨h1, h2⟩
    · rw [h1, h2]; exact .cons h3 t
    · rw [h1, h2]; exact t
theorem rvs_at {G : Gx} {ρ : List Addr} {H : Hp} {xs : List VI} {us : List V} (r : RVs G ρ H xs us) (i : Nat) : (∃ x u, xs[i]? = some x ∧ us[i]? = some u ∧ RV G ρ H x u) ∨ (xs[i]? = none ∧ us[i]? = none) := by
  cases e : xs[i]? with
  | none => exact .inr ⟨rfl, by rw [List.getElem?_eq_none_iff] at e ⊢; rw [← r.length]; exact e⟩
  | some x =>
    obtain ⟨u, h1, h2⟩ := r.get e
    exact .inl ⟨x, u, rfl, h1, h2⟩
theorem arr3_rvs {G : Gx} {ρ : List Addr} {H : Hp} {vs mz zs : List VI} {us mv ws : List V} (r1 : RVs G ρ H vs us) (r2 : RVs G ρ H mz mv) (r3 : RVs G ρ H zs ws) : ∀ sel : List (Nat × Nat), RVs G ρ H (arr3 sel vs mz zs) (arr3 sel us mv ws)
  | [] => .nil
  | (k, i) :: r => by
    have t := arr3_rvs r1 r2 r3 r
    have key : (∃ x u, pk3 vs mz zs (k, i) = some x ∧ pk3 us mv ws (k, i) = some u ∧ RV G ρ H x u) ∨ (pk3 vs mz zs (k, i) = none ∧ pk3 us mv ws (k, i) = none) := by
      unfold pk3
      match k with
      | 0 => exact rvs_at r1 i
      | 1 => exact rvs_at r2 i
      | k + 2 => exact rvs_at r3 i
    unfold arr3
    rcases key with ⟨x, u, h1, h2, h3⟩ | ⟨h1, h2⟩
    · rw [h1, h2]; exact .cons h3 t
    · rw [h1, h2]; exact t
end ML
end
section
namespace ML
open PySem PySem.Spec PyProof.Rows L2 He
inductive TyI where
  | bt (T : String) | own (c : Nat)
def tyI (y : VI) (h : Hi) : Option TyI := match y with
  | .non => some (.bt "NoneType")
  | .bl _ => some (.bt "bool")
  | .int _ => some (.bt "int")
  | .str _ => some (.bt "str")
  | .tup _ => some (.bt "tuple")
  | .ref n => match h[n]? with
    | some (.lst _) => some (.bt "list")
    | some (.scr _) => some (.bt "list")
    | some (.dic _) => some (.bt "dict")
    | some (.ins c _) => some (.own c)
    | _ => none
  | .glo _ => none
def boolR : Res VI → Res VI
  | .ok (.bl b) h => .ok (.bl b) h
  | .ex c n h => .ex c n h
  | _ => .err
def nfI (cs : List Nat) : Option TyI → Bool
  | some (.bt _) => true
  | some (.own c) => cs.contains c
  | none => false
def eCmpU (cs : List Nat) (tbl : Nat → Option MF) (f : Op2) (a b : ME) : ME := fun σ h => (a σ h).bind fun x h1 => (b σ h1).bind fun y h2 => match insC x h2 with
  | some c => match tbl c, nfI cs (tyI y h2) with
    | some g, true => boolR (g [x, y] h2)
    | _, _ => .err
  | none => ofO (f x y h2)
structure NfOk (K : PySem.W.Frag) (G : Gx) (cs : List Nat) (tbl : Nat → Option MF) : Prop where
  bt : ∀ c C g T, tbl c = some g → G.ct c = some C → T ∈ ["NoneType", "bool", "int", "str", "tuple", "list", "dict"] → PySem.W.notFirst K C (.type T) = true
  own : ∀ c C g c' C', tbl c = some g → G.ct c = some C → cs.contains c' = true → G.ct c' = some C' → PySem.W.notFirst K C (.ref C') = true
section
variable {G : Gx} {ρ : List Addr} {h : Hi} {H : Hp} {W : WX} {X : Cx} {A : Around} {e a b c o i v : Expr} {es : List Expr} {pos p pos' apos : Pos} {me mi mo ma mb mv : ME} {mr : MA} {tbl : Nat → Option MF} {σ : L2.St} {cs : List Nat} {f : Op2}
theorem looks_at {M : Model} {hp : Heap} {a : Addr} {ob : Obj} {t : Value} (e : hp.get? a = some ob) (ec : ob.cls = t) : PySem.W.Looks M hp (typeOf (.ref a)) t := fun A Q E s k q => wpAny_typeOf_ref (k _ _ e) (by rw [ec]; exact q)
theorem tyI_ok (hG : G.K = X.K) {pins : List (Addr × Obj)} {s : Shared} (I : Inv X pins σ H s) {y : VI} {x : V} {u : Value} (ag : Ag G ρ h H) (r : RV G ρ H y x) (ru : RelV x u) {T : TyI} (e : tyI y h = some T) :
    (∃ t, T = .bt t ∧ t ∈ ["NoneType", "bool", "int", "str", "tuple", "list", "dict"] ∧ PySem.W.Looks (model X.prog X.w) s.heap (typeOf u) (.type t)) ∨ (∃ c C, T = .own c ∧ G.ct c = some C ∧ PySem.W.Looks (model X.prog X.w) s.heap (typeOf u) (.ref C)) := by
  unfold tyI at e
  cases r with
  | non => cases e; cases (show u = Value.none from ru); exact .inl ⟨_, rfl, by simp, .now⟩
  | bl q => cases e; cases (show u = Value.bool q from ru); exact .inl ⟨_, rfl, by simp, .now⟩
  | int q => cases e; obtain ⟨t, z⟩ := (show ∃ t, u = Value.int q t from ru); subst z; exact .inl ⟨_, rfl, by simp, .now⟩
  | str q => cases e; obtain ⟨t, z⟩ := (show ∃ t, u = Value.str _ t from ru); subst z; exact .inl ⟨_, rfl, by simp, .now⟩
  | glo q => cases e
  | @tup xs ys ad t rs =>
    cases e
    cases (show u = Value.ref ad from ru)
    rw [hG] at t
    obtain ⟨its, _, ⟨ob, h1, h2, _⟩, _⟩ := I.tuple t
    exact .inl ⟨_, rfl, by simp, looks_at h1 h2⟩
  | @ref n ad q =>
    cases (show u = Value.ref ad from ru)
    dsimp only at e
    cases q1 : h[n]? with
    | none => rw [q1] at e; cases e
    | some ob =>
      rw [q1] at e
      cases ob with
      | lst xs =>
        cases e
        obtain ⟨ys, hy, _⟩ := ag.at_ q1 q
        obtain ⟨⟨ob, h1, h2⟩, _⟩ := tyV_is (T := "list") I (x := .ref ad) (v := .ref ad) rfl (.inl ⟨rfl, ys, .inl (.inl hy)⟩)
        exact .inl ⟨_, rfl, by simp, looks_at h1 h2⟩
      | scr xs =>
        cases e
        obtain ⟨ob, ys, hy, _⟩ := ag.at_ q1 q
        obtain ⟨⟨ob, h1, h2⟩, _⟩ := tyV_is (T := "list") I (x := .ref ad) (v := .ref ad) rfl (.inl ⟨rfl, ys, .inl (.inr ⟨_, hy⟩)⟩)
        exact .inl ⟨_, rfl, by simp, looks_at h1 h2⟩
      | dic xs =>
        cases e
        obtain ⟨ys, hy, _⟩ := ag.at_ q1 q
        obtain ⟨⟨ob, h1, h2⟩, _⟩ := tyV_is (T := "dict") I (x := .ref ad) (v := .ref ad) rfl (.inr (.inr (.inl ⟨rfl, .inl ⟨_, hy⟩⟩)))
        exact .inl ⟨_, rfl, by simp, looks_at h1 h2⟩
      | ins c fs =>
        cases e
        obtain ⟨C, dx, gs, hc, hH, rf⟩ := insAt ag q1 q
        obtain ⟨m, hF, ox, od, J⟩ := insC_look I hH
        exact .inr ⟨c, C, rfl, hc, J.type⟩
      | xd fs => cases e
theorem boolR_fin {Q : VK} {W : Value → Option Addr → Hp → Prop} (r : Res VI) (fr : FinG G ρ H (RV G) Q W (boolR r)) : FinG G ρ H (RV G) (fun x H' => ∃ b, x = V.bl b ∧ Q x H') W r := by
  cases r with
  | ok v h' =>
    cases v with
    | bl b =>
      intro ρ' H' x st ag' rx
      cases rx
      exact ⟨b, rfl, fr ρ' H' _ st ag' (.bl b)⟩
    | _ => exact fr.elim
  | ex c n h' => exact fr
  | err => exact fr.elim
def RdU (G : Gx) (W : WX) (σ : L2.St) (cs : List Nat) (tbl : Nat → Option MF) (f : Op2) (Q : VK) (x y : V) (H2 : Hp) : Prop :=
  rd2 G f x y H2 Q ∨ ∃ ρ2 h2 xi yi cn g, Ag G ρ2 h2 H2 ∧ RV G ρ2 H2 xi x ∧ RV G ρ2 H2 yi y ∧ insC xi h2 = some cn ∧ tbl cn = some g ∧ nfI cs (tyI yi h2) = true ∧ FinG G ρ2 H2 (RV G) Q (fun c d H' => W c d σ H') (boolR (g [xi, yi] h2))
theorem cmpU_rd {Q : VK} (q : rdE G W (eCmpU cs tbl f ma mb) σ H Q) : rdE G W ma σ H fun x H1 => rdE G W mb σ H1 fun y H2 => RdU G W σ cs tbl f Q x y H2 := by
  obtain ⟨ρ, σi, h, as, ag, fin⟩ := q
  exact rdG_go as ag fin fun ρ1 H1 h1 x x' st as ag r f => rdG_go as ag f fun ρ2 H2 h2 y y' st2 as ag rs f => by
      cases q1 : insC x h2 with
      | none => rw [q1] at f; exact .inl ⟨ρ2, h2, x, y, ag, r.mono st2, rs, FinO.of f⟩
      | some cn =>
        rw [q1] at f
        dsimp only at f
        cases q2 : tbl cn with
        | none => rw [q2] at f; exact f.elim
        | some g =>
          rw [q2] at f
          cases q3 : nfI cs (tyI y h2) with
          | false => rw [q3] at f; exact f.elim
          | true => rw [q3] at f; exact .inr ⟨ρ2, h2, x, y, cn, g, ag, r.mono st2, rs, q1, q2, q3, f⟩
theorem cmpU_run {op : CmpOp} {nm : Str} (hop : ∀ a b, compareOp op a b = richCompare op a b) (hnm : (cmpInfo op).2.1 = nm) (hG : G.K = X.K) (hu : X.A.units < cLine) (sp : SpOk X X.A G W tbl nm) (nf : NfOk X.K G cs tbl) (ho : OpR X (compareOp op) (rd2 G f))
    {pins : List (Addr × Obj)} {s2 : Shared} {H2 : Hp} {x y : V} {v u : Value} {Q : VK} (I2 : Inv X pins σ H2 s2) (rx : RelV x v) (ry : RelV y u) (q : RdU G W σ cs tbl f Q x y H2) : wpAny (model X.prog X.w) X.A (compareOp op v u) (EP X pins σ Q) X.xe s2 := by
  rcases q with q | ⟨ρ2, h2, xi, yi, cn, g, ag2, r1, r2, q1, q2, q3, fi⟩
  · exact ho pins s2 σ H2 x y v u Q I2 rx ry q
  · obtain ⟨ad, C, dx, gs, ex, hc, hH⟩ := insC_ok ag2 r1 q1
    subst ex
    obtain rfl : v = Value.ref ad := rx
    obtain ⟨f', k1, k2, k3, k4, k5⟩ := sp.at_ cn C g q2 hc
    obtain ⟨m, hF, ox, od, J⟩ := insC_look I2 hH
    have ty : ∃ t, PySem.W.Looks (model X.prog X.w) s2.heap (typeOf u) t ∧ PySem.W.notFirst X.K C t = true := by
      cases q4 : tyI yi h2 with
      | none => rw [q4] at q3; cases q3
      | some T =>
        rcases tyI_ok hG I2 ag2 r2 ry q4 with ⟨t, rfl, mt, lt⟩ | ⟨c', C', rfl, hc', lt⟩
        · exact ⟨_, lt, nf.bt cn C g t q2 hc mt⟩
        · rw [q4] at q3
          exact ⟨_, lt, nf.own cn C g c' C' q2 hc q3 hc'⟩
    obtain ⟨t, lt, nt⟩ := ty
    rw [hop]
    refine PySem.W.cmp_K (op := op) (tb := t) hu hF I2.ok.mod.kin J lt nt (by rw [hnm]; exact k2) k4 ?_
    have key := boolR_fin (G := G) (ρ := ρ2) (H := H2) (Q := Q) (W := fun c d H' => W c d σ H') (g [xi, yi] h2) fi
    refine wpAny_mono (k5 pins s2 σ H2 [.ref ad, u] [.ref ad, y] [xi, yi] ρ2 h2 _ I2 (.cons rfl (.cons ry .nil)) (.cons r1 (.cons r2 .nil)) ag2 key) (fun z s3 hz => ?_) fun _ _ z => z
    obtain ⟨x', H', I', rx', b, eb, q'⟩ := hz
    subst eb
    cases (show z = Value.bool b from rx')
    exact ⟨.bl b, H', I', rfl, q'⟩
theorem me_cmpU {op : CmpOp} {nm : Str} (hop : ∀ a b, compareOp op a b = richCompare op a b) (hnm : (cmpInfo op).2.1 = nm) (hG : G.K = X.K) (hu : X.A.units < cLine) (sp : SpOk X X.A G W tbl nm) (nf : NfOk X.K G cs tbl) (ho : OpR X (compareOp op) (rd2 G f)) (ha : PE X a (rdE G W ma)) (hb : PE X b (rdE G W mb))
    (hm : behindInMarks op b = false) : PE X (.Compare a [op] [b] pos) (rdE G W (eCmpU cs tbl f ma mb)) := ⟨fun pins s σ H Q I h =>
  wpAny_Compare1 (binT ha hb I (cmpU_rd h) fun v u s2 x y H2 I2 rx ry q => cmpU_run hop hnm hG hu sp nf ho I2 rx ry q) hm⟩
end
def nfB1 (K : PySem.W.Frag) (nm : Nat → Option Str) (x : Str) (cs : List Nat) : Bool := (["NoneType", "bool", "int", "str", "tuple", "list", "dict"].all fun T => PySem.W.notFirst K (ga K x) (.type T)) && cs.all fun c => match nm c with
  | some y => PySem.W.notFirst K (ga K x) (.ref (ga K y))
  | none => false
section
variable {K : PySem.W.Frag} {mg : Str → Option Value} {nm : Nat → Option Str} {cs : List Nat}
theorem nfOk_nil : NfOk K (GxOf K mg nm) cs (lkT ([] : List (Nat × MF))) := ⟨(fun _ _ _ _ h => nomatch h), (fun _ _ _ _ _ h => nomatch h)⟩
theorem nfOk_cons {c : Nat} {g : MF} {x : Str} {r : List (Nat × MF)} (hn : nm c = some x) (hB : nfB1 K nm x cs = true) (t : NfOk K (GxOf K mg nm) cs (lkT r)) : NfOk K (GxOf K mg nm) cs (lkT ((c, g) :: r)) := by
  obtain ⟨b1, b2⟩ := ba hB
  refine ⟨fun c' C w T h e m => ?_, fun c' C w d D h e k e2 => ?_⟩
  · rcases lkT_cons h with ⟨q1, q2⟩ | q
    · subst q1 q2
      rw [gx_ct e hn]
      exact List.all_eq_true.mp b1 T m
    · exact t.bt c' C w T q e m
  · rcases lkT_cons h with ⟨q1, q2⟩ | q
    · subst q1 q2
      rw [gx_ct e hn]
      have z := List.all_eq_true.mp b2 d (by simpa using k)
      cases q3 : nm d with
      | none => rw [q3] at z; cases z
      | some y =>
        rw [q3] at z
        rw [gx_ct e2 q3]
        exact z
    · exact t.own c' C w d D q e k e2
end
end ML
end
section
namespace ML
open PySem PySem.Spec PyProof.Rows L2 He
def flK : List (VI × VI) → Bool
  | [] => true
  | (_, v) :: r => flI v && flK r
def allK (kb : List (VI × VI)) : List (VI × VI) → Bool
  | [] => true
  | (k, v) :: r => match getD k kb with
    | some w => eqI v w && allK kb r
    | none => false
def fEqX : Op2 := fun x y h => match x, y with
  | .ref a, .ref b => match h[a]?, h[b]? with
    | some (.dic ka), some (.dic kb) => match flK ka && flK kb with
      | true => some (.bl (Nat.beq ka.length kb.length && allK kb ka), h)
      | false => none
    | _, _ => fEq x y h
  | _, _ => fEq x y h
section
variable {G : Gx} {ρ : List Addr} {h : Hi} {H : Hp} {X : Cx} {Q : VK}
theorem flK_get {b : VI} : ∀ {kvs : List (VI × VI)} {v : VI}, flK kvs = true → getD b kvs = some v → flI v = true
  | [], _, _, e => by cases e
  | (k, u) :: r, v, f, e => by
    unfold flK at f
    obtain ⟨f1, f2⟩ := Bool.and_eq_true_iff.mp f
    unfold getD at e
    split at e
    · cases e; exact f1
    · exact flK_get f2 e
theorem hits_ok {P : Program} {w : World} {A : Around} {s : Shared} {kb : List (VI × VI)} {lb : List (Key × V)} {vb : List (Key × Value)} (rb : RKs G ρ H kb lb) (vbr : KV lb vb) (fb : flK kb = true) :
    ∀ {ka : List (VI × VI)} {la : List (Key × V)} {va : List (Key × Value)}, RKs G ρ H ka la → KV la va → flK ka = true → PySem.W.KeqHitsP P w A s vb va (allK kb ka)
  | _, _, _, .nil, k, _ => by
    cases k
    exact .nil
  | _, _, _, .cons (a := a) (k := k) (v := v) (x := x) (as := as) (ks := ks) e r t, kv, f => by
    unfold flK at f
    obtain ⟨f1, f2⟩ := Bool.and_eq_true_iff.mp f
    unfold KV at kv
    cases kv with
    | @cons p q ps qs h1 tl =>
      obtain ⟨key, val⟩ := q
      obtain ⟨h2, h3⟩ := h1
      have h2' : k = key := h2
      subst h2'
      have g := RKs.getD (b := a) (l := k) e rb
      have rv := vbr.val k
      unfold allK
      cases z : getD a kb with
      | none =>
        rw [z] at g
        have g' : valV lb k = none := g
        rw [g'] at rv
        exact .miss rv.none_of
      | some u =>
        rw [z] at g
        obtain ⟨y, g1, g2⟩ := g
        have g1' : valV lb k = some y := g1
        rw [g1'] at rv
        obtain ⟨yv, hy, ry⟩ := rv.some_of
        have fu := flK_get fb z
        dsimp only
        rw [r.eqI g2 f1 fu]
        exact .hit hy (eqAt_V h3 ry (r.flat f1) (g2.flat fu)).eqP (hits_ok rb vbr fb t tl f2)
theorem beqN (n m : Nat) : (n == m) = Nat.beq n m := by
  cases q : Nat.beq n m with
  | true => simp [Nat.eq_of_beq_eq_true q]
  | false => simp [Nat.ne_of_beq_eq_false q]
theorem mo_eqX (hG : G.K = X.K) (hu : X.A.units + 64 < cLine) : OpR X (compareOp .Eq) (rd2 G fEqX) := fun pins s σ H x y v u Q I rx ry q => by
  obtain ⟨ρ, h, xi, yi, ag, r1, r2, f⟩ := q
  have old : FinO G ρ H (RV G) Q (fEq xi yi h) → wpAny (model X.prog X.w) X.A (compareOp .Eq v u) (EP X pins σ Q) X.xe s := fun f => mo_eq hG hu pins s σ H x y v u Q I rx ry ⟨ρ, h, xi, yi, ag, r1, r2, f⟩
  unfold fEqX at f
  cases r1 with
  | @ref n a q1 =>
    cases r2 with
    | @ref m b q2 =>
      dsimp only at f
      split at f
      · rename_i ka kb z1 z2
        cases fl : flK ka && flK kb with
        | false => rw [fl] at f; exact f.elim
        | true =>
          rw [fl] at f
          obtain ⟨fa, fb⟩ := Bool.and_eq_true_iff.mp fl
          obtain ⟨la, ha, ra⟩ := ag.at_ z1 q1
          obtain ⟨lb, hb, rb⟩ := ag.at_ z2 q2
          cases (show v = Value.ref a from rx)
          cases (show u = Value.ref b from ry)
          obtain ⟨_, ya, va, kva, da⟩ := (show ObjOk X.prog X.w H s.heap a (.dK la) from I.hok a _ ha)
          obtain ⟨_, yb, vb, kvb, db⟩ := (show ObjOk X.prog X.w H s.heap b (.dK lb) from I.hok b _ hb)
          refine PySem.W.rcP_dicts (knd := mixKind X.prog X.w) (r := allK kb ka) ya yb da db (by omega) (fun _ => hits_ok rb kvb fb ra kva fa) _ _ ?_
          have e : (va.length == vb.length) = Nat.beq ka.length kb.length := by
            rw [ra.length, rb.length, kva.length, kvb.length]
            exact beqN _ _
          rw [e]
          exact ⟨.bl _, H, I, rfl, f.ok ag (.bl _)⟩
      · exact old f
    | _ => exact old (by simpa [fEqX] using f)
  | _ => exact old (by simpa [fEqX] using f)
end
end ML
end
section
namespace ML
open PySem L2
mutual
inductive RV2 (r : List Nat) : VI → VI → Prop
  | non : RV2 r .non .non
  | bl (b : Bool) : RV2 r (.bl b) (.bl b)
  | int (i : Int) : RV2 r (.int i) (.int i)
  | str (s : S) : RV2 r (.str s) (.str s)
  | glo (g : S) : RV2 r (.glo g) (.glo g)
  | ref {n m : Nat} (e : r[n]? = some m) : RV2 r (.ref n) (.ref m)
  | tup {xs ys : List VI} (t : RVs2 r xs ys) : RV2 r (.tup xs) (.tup ys)
inductive RVs2 (r : List Nat) : List VI → List VI → Prop
  | nil : RVs2 r [] []
  | cons {v x : VI} {vs xs : List VI} (h : RV2 r v x) (t : RVs2 r vs xs) : RVs2 r (v :: vs) (x :: xs)
end
structure Ex2 (r : List Nat) (h : Hi) (r' : List Nat) (h' : Hi) : Prop where
  more : ∃ q, r' = r ++ q ∧ ∀ m ∈ q, h.length ≤ m
  len : h.length ≤ h'.length
  rest : ∀ m, m ∉ r → m < h.length → h'[m]? = h[m]?
theorem Ex2.refl {r : List Nat} {h : Hi} : Ex2 r h r h := ⟨⟨[], by simp, fun _ z => by cases z⟩, Nat.le_refl _, fun _ _ _ => rfl⟩
theorem Ex2.pre {r r' : List Nat} {h h' : Hi} (e : Ex2 r h r' h') {n m : Nat} (q : r[n]? = some m) : r'[n]? = some m := by
  obtain ⟨l, rfl, _⟩ := e.more
  rw [List.getElem?_append_left (List.getElem?_eq_some_iff.mp q).1]
  exact q
theorem Ex2.trans {r r1 r2 : List Nat} {h h1 h2 : Hi} (a : Ex2 r h r1 h1) (b : Ex2 r1 h1 r2 h2) : Ex2 r h r2 h2 := by
  obtain ⟨l, rfl, hl⟩ := a.more
  obtain ⟨l2, rfl, hl2⟩ := b.more
  refine ⟨⟨l ++ l2, by simp, fun m hm => ?_⟩, Nat.le_trans a.len b.len, fun m hm hlt => ?_⟩
  · rcases List.mem_append.mp hm with z | z
    · exact hl m z
    · exact Nat.le_trans a.len (hl2 m z)
  · rw [b.rest m (fun z => ?_) (Nat.lt_of_lt_of_le hlt a.len)]
    · exact a.rest m hm hlt
    · rcases List.mem_append.mp z with z | z
      · exact hm z
      · exact absurd (hl m z) (Nat.not_le.mpr hlt)
section
variable {r r' : List Nat} {h h' : Hi}
mutual
theorem RV2.mono (e : Ex2 r h r' h') : ∀ {v x : VI}, RV2 r v x → RV2 r' v x
  | _, _, .non => .non
  | _, _, .bl b => .bl b
  | _, _, .int i => .int i
  | _, _, .str s => .str s
  | _, _, .glo g => .glo g
  | _, _, .ref q => .ref (e.pre q)
  | _, _, .tup t => .tup (RVs2.mono e t)
theorem RVs2.mono (e : Ex2 r h r' h') : ∀ {v x : List VI}, RVs2 r v x → RVs2 r' v x
  | _, _, .nil => .nil
  | _, _, .cons a t => .cons (RV2.mono e a) (RVs2.mono e t)
end
theorem RVs2.length : ∀ {v x : List VI}, RVs2 r v x → v.length = x.length
  | _, _, .nil => rfl
  | _, _, .cons _ t => by rw [List.length_cons, List.length_cons, t.length]
theorem RVs2.get : ∀ {v x : List VI} {i : Nat} {a : VI}, RVs2 r v x → v[i]? = some a → ∃ b, x[i]? = some b ∧ RV2 r a b
  | _, _, _, _, .nil, e => by simp at e
  | _, _, 0, _, .cons h _, e => by simp at e; subst e; exact ⟨_, rfl, h⟩
  | _, _, i + 1, _, .cons _ t, e => by
    obtain ⟨b, h1, h2⟩ := RVs2.get (i := i) t (by simpa using e)
    exact ⟨b, by simpa using h1, h2⟩
theorem RVs2.none {v x : List VI} {i : Nat} (t : RVs2 r v x) (e : v[i]? = none) : x[i]? = none := by
  rw [List.getElem?_eq_none_iff] at e ⊢
  rw [← t.length]
  exact e
theorem RVs2.append : ∀ {v w x y : List VI}, RVs2 r v x → RVs2 r w y → RVs2 r (v ++ w) (x ++ y)
  | _, _, _, _, .nil, k => k
  | _, _, _, _, .cons a t, k => .cons a (RVs2.append t k)
theorem RVs2.set : ∀ {v x : List VI} {a b : VI} (i : Nat), RVs2 r v x → RV2 r a b → RVs2 r (v.set i a) (x.set i b)
  | _, _, _, _, _, .nil, _ => .nil
  | _, _, _, _, 0, .cons _ t, k => .cons k t
  | _, _, _, _, i + 1, .cons a t, k => .cons a (RVs2.set i t k)
theorem RVs2.take : ∀ {v x : List VI} (n : Nat), RVs2 r v x → RVs2 r (v.take n) (x.take n)
  | _, _, 0, _ => .nil
  | _, _, _ + 1, .nil => .nil
  | _, _, n + 1, .cons a t => .cons a (RVs2.take n t)
theorem RVs2.drop : ∀ {v x : List VI} (n : Nat), RVs2 r v x → RVs2 r (v.drop n) (x.drop n)
  | _, _, 0, k => k
  | _, _, _ + 1, .nil => .nil
  | _, _, n + 1, .cons _ t => RVs2.drop n t
end
inductive RFs2 (r : List Nat) : List (S × VI) → List (S × VI) → Prop
  | nil : RFs2 r [] []
  | cons {f : S} {v x : VI} {fs gs : List (S × VI)} (h : RV2 r v x) (t : RFs2 r fs gs) : RFs2 r ((f, v) :: fs) ((f, x) :: gs)
inductive RKs2 (r : List Nat) : List (VI × VI) → List (VI × VI) → Prop
  | nil : RKs2 r [] []
  | cons {a b v x : VI} {fs gs : List (VI × VI)} (k : RV2 r a b) (h : RV2 r v x) (t : RKs2 r fs gs) : RKs2 r ((a, v) :: fs) ((b, x) :: gs)
inductive RO2 (r : List Nat) : OI → OI → Prop
  | lst {xs ys : List VI} (h : RVs2 r xs ys) : RO2 r (.lst xs) (.lst ys)
  | scr {xs ys : List VI} (h : RVs2 r xs ys) : RO2 r (.scr xs) (.scr ys)
  | dic {xs ys : List (VI × VI)} (h : RKs2 r xs ys) : RO2 r (.dic xs) (.dic ys)
  | ins {c : Nat} {xs ys : List (S × VI)} (h : RFs2 r xs ys) : RO2 r (.ins c xs) (.ins c ys)
  | xd {xs ys : List (S × VI)} (h : RFs2 r xs ys) : RO2 r (.xd xs) (.xd ys)
section
variable {r r' : List Nat} {h h' s : Hi}
theorem RFs2.mono (e : Ex2 r h r' h') : ∀ {v x : List (S × VI)}, RFs2 r v x → RFs2 r' v x
  | _, _, .nil => .nil
  | _, _, .cons a t => .cons (a.mono e) (RFs2.mono e t)
theorem RKs2.mono (e : Ex2 r h r' h') : ∀ {v x : List (VI × VI)}, RKs2 r v x → RKs2 r' v x
  | _, _, .nil => .nil
  | _, _, .cons k a t => .cons (k.mono e) (a.mono e) (RKs2.mono e t)
theorem RO2.mono (e : Ex2 r h r' h') : ∀ {v x : OI}, RO2 r v x → RO2 r' v x
  | _, _, .lst t => .lst (t.mono e)
  | _, _, .scr t => .scr (t.mono e)
  | _, _, .dic t => .dic (t.mono e)
  | _, _, .ins t => .ins (t.mono e)
  | _, _, .xd t => .xd (t.mono e)
theorem RFs2.length : ∀ {v x : List (S × VI)}, RFs2 r v x → v.length = x.length
  | _, _, .nil => rfl
  | _, _, .cons _ t => by rw [List.length_cons, List.length_cons, t.length]
theorem RKs2.length : ∀ {v x : List (VI × VI)}, RKs2 r v x → v.length = x.length
  | _, _, .nil => rfl
  | _, _, .cons _ _ t => by rw [List.length_cons, List.length_cons, t.length]
structure Ag2 (r : List Nat) (s h : Hi) : Prop where
  nd : r.Nodup
  len : r.length = s.length
  ob : ∀ (n : Nat) (o : OI), s[n]? = some o → ∃ (m : Nat) (o' : OI), r[n]? = some m ∧ h[m]? = some o' ∧ RO2 r o o'
theorem Ag2.at_ (a : Ag2 r s h) {n m : Nat} {o : OI} (e : s[n]? = some o) (p : r[n]? = some m) : ∃ o', h[m]? = some o' ∧ RO2 r o o' := by
  obtain ⟨m', o', h1, h2, h3⟩ := a.ob n o e
  rw [p] at h1
  cases h1
  exact ⟨o', h2, h3⟩
theorem Ag2.lt (a : Ag2 r s h) {m : Nat} (hm : m ∈ r) : m < h.length := by
  obtain ⟨n, hn, e⟩ := List.mem_iff_getElem.mp hm
  have hl : n < s.length := by rw [← a.len]; exact hn
  obtain ⟨m', o', h1, h2, _⟩ := a.ob n s[n] (by simp [hl])
  have : r[n]? = some r[n] := by simp [hn]
  rw [this] at h1
  cases h1
  rw [e] at h2
  exact (List.getElem?_eq_some_iff.mp h2).1
theorem Ag2.new (a : Ag2 r s h) {o o' : OI} (k : RO2 (r ++ [h.length]) o o') : Ag2 (r ++ [h.length]) (s ++ [o]) (h ++ [o']) ∧ Ex2 r h (r ++ [h.length]) (h ++ [o']) := by
  have ext : Ex2 r h (r ++ [h.length]) (h ++ [o']) := ⟨⟨[h.length], rfl, fun m hm => by rw [List.mem_singleton] at hm; omega⟩, by simp, fun m _ hlt => List.getElem?_append_left hlt⟩
  refine ⟨⟨?_, by simp [a.len], fun n u e => ?_⟩, ext⟩
  · rw [List.nodup_append]
    refine ⟨a.nd, by simp, fun x hx y hy => ?_⟩
    rw [List.mem_singleton] at hy
    have := a.lt hx
    omega
  · by_cases hn : n < s.length
    · rw [List.getElem?_append_left hn] at e
      obtain ⟨m, u', h1, h2, h3⟩ := a.ob n u e
      refine ⟨m, u', ext.pre h1, ?_, h3.mono ext⟩
      rw [List.getElem?_append_left (List.getElem?_eq_some_iff.mp h2).1]
      exact h2
    · have hle := Nat.le_of_not_lt hn
      rw [List.getElem?_append_right hle] at e
      have hz : n - s.length = 0 := by
        have := (List.getElem?_eq_some_iff.mp e).1
        simp at this
        omega
      rw [hz] at e
      simp at e
      subst e
      have : n = r.length := by rw [a.len]; omega
      exact ⟨h.length, o', by rw [this]; simp, by simp, k⟩
theorem Ag2.idx (a : Ag2 r s h) : (r ++ [h.length])[s.length]? = some h.length := by rw [← a.len]; simp
theorem Ag2.wr (a : Ag2 r s h) {n m : Nat} {u o o' : OI} (hn : s[n]? = some u) (p : r[n]? = some m) (k : RO2 r o o') : Ag2 r (s.set n o) (h.set m o') ∧ Ex2 r h r (h.set m o') := by
  have hm : m ∈ r := List.mem_of_getElem? p
  refine ⟨⟨a.nd, by simp [a.len], fun j v e => ?_⟩, ⟨⟨[], by simp, fun _ z => by cases z⟩, by simp, fun j hj hlt => List.getElem?_set_ne (by intro z; subst z; exact hj hm)⟩⟩
  rw [List.getElem?_set] at e
  by_cases hj : n = j
  · subst hj
    rw [if_pos rfl, if_pos (List.getElem?_eq_some_iff.mp hn).1] at e
    cases e
    exact ⟨m, o', p, List.getElem?_set_self (a.lt hm), k⟩
  · rw [if_neg hj] at e
    obtain ⟨m', v', h1, h2, h3⟩ := a.ob j v e
    refine ⟨m', v', h1, ?_, h3⟩
    rw [List.getElem?_set_ne]
    · exact h2
    · intro z
      subst z
      obtain ⟨l1, e1⟩ := List.getElem?_eq_some_iff.mp p
      obtain ⟨l2, e2⟩ := List.getElem?_eq_some_iff.mp h1
      have pw := List.pairwise_iff_getElem.mp a.nd
      rcases Nat.lt_trichotomy n j with l | l | l
      · exact pw n j l1 l2 l (e1.trans e2.symm)
      · exact hj l
      · exact pw j n l2 l1 l (e2.trans e1.symm)
structure AS2 (r : List Nat) (σ σ' : Sg) : Prop where
  len : σ.length = σ'.length
  at_ : ∀ (i : Nat) (v : VI), σ[i]? = some (some v) → ∃ x : VI, σ'[i]? = some (some x) ∧ RV2 r v x
theorem AS2.mono {σ σ' : Sg} (a : AS2 r σ σ') (e : Ex2 r h r' h') : AS2 r' σ σ' := ⟨a.len, fun i v q => let ⟨x, h1, h2⟩ := a.at_ i v q; ⟨x, h1, h2.mono e⟩⟩
theorem AS2.set {σ σ' : Sg} (a : AS2 r σ σ') {v x : VI} (k : RV2 r v x) (i : Nat) : AS2 r (σ.set i (some v)) (σ'.set i (some x)) := by
  refine ⟨by simp [a.len], fun j w e => ?_⟩
  rw [List.getElem?_set] at e ⊢
  by_cases hj : i = j
  · subst hj
    rw [if_pos rfl] at e ⊢
    by_cases hl : i < σ.length
    · rw [if_pos hl] at e
      rw [if_pos (by rw [← a.len]; exact hl)]
      cases e
      exact ⟨x, rfl, k⟩
    · rw [if_neg hl] at e; cases e
  · rw [if_neg hj] at e ⊢
    exact a.at_ j w e
theorem AS2.lose {σ σ' : Sg} (a : AS2 r σ σ') (i : Nat) : AS2 r (σ.set i none) (σ'.set i none) := by
  refine ⟨by simp [a.len], fun j w e => ?_⟩
  rw [List.getElem?_set] at e ⊢
  by_cases hj : i = j
  · subst hj
    rw [if_pos rfl] at e
    by_cases hl : i < σ.length
    · rw [if_pos hl] at e; cases e
    · rw [if_neg hl] at e; cases e
  · rw [if_neg hj] at e ⊢
    exact a.at_ j w e
def L2R {α : Type} (R : List Nat → α → α → Prop) (r : List Nat) (h : Hi) (a a' : Res α) : Prop := match a with
  | .ok v s' => ∃ r' h' v', a' = .ok v' h' ∧ Ex2 r h r' h' ∧ Ag2 r' s' h' ∧ R r' v v'
  | .ex c n s' => ∃ r' h' m, a' = .ex c m h' ∧ Ex2 r h r' h' ∧ Ag2 r' s' h' ∧ r'[n]? = some m
  | .err => True
def L2O {α : Type} (R : List Nat → α → α → Prop) (r : List Nat) (h : Hi) (a a' : Option (α × Hi)) : Prop := match a with
  | some (v, s') => ∃ r' h' v', a' = some (v', h') ∧ Ex2 r h r' h' ∧ Ag2 r' s' h' ∧ R r' v v'
  | none => True
theorem L2R.bind {α β : Type} {R : List Nat → α → α → Prop} {R' : List Nat → β → β → Prop} {a a' : Res α} {k k' : α → Hi → Res β} (h1 : L2R R r h a a')
    (h2 : ∀ r1 s1 h1 x x', Ex2 r h r1 h1 → Ag2 r1 s1 h1 → R r1 x x' → L2R R' r1 h1 (k x s1) (k' x' h1)) : L2R R' r h (a.bind k) (a'.bind k') := by
  cases a with
  | err => trivial
  | ex c n s' =>
    obtain ⟨r', h', m, rfl, e, g, q⟩ := h1
    exact ⟨r', h', m, rfl, e, g, q⟩
  | ok v s' =>
    obtain ⟨r', h', v', rfl, e, g, q⟩ := h1
    have t := h2 r' s' h' v v' e g q
    show L2R R' r h (k v s') (k' v' h')
    cases z : k v s' with
    | err => trivial
    | ex c n s2 => rw [z] at t; obtain ⟨r2, h2, m, e1, e2, g2, q2⟩ := t; exact ⟨r2, h2, m, e1, e.trans e2, g2, q2⟩
    | ok w s2 => rw [z] at t; obtain ⟨r2, h2, w', e1, e2, g2, q2⟩ := t; exact ⟨r2, h2, w', e1, e.trans e2, g2, q2⟩
theorem L2R.ok {α : Type} {R : List Nat → α → α → Prop} {v v' : α} (g : Ag2 r s h) (k : R r v v') : L2R R r h (.ok v s) (.ok v' h) := ⟨r, h, v', rfl, .refl, g, k⟩
theorem L2R.ofO {α : Type} {R : List Nat → α → α → Prop} {a a' : Option (α × Hi)} (h1 : L2O R r h a a') : L2R R r h (ofO a) (ofO a') := by
  cases a with
  | none => trivial
  | some p =>
    obtain ⟨v, s'⟩ := p
    obtain ⟨r', h', v', rfl, e, g, q⟩ := h1
    exact ⟨r', h', v', rfl, e, g, q⟩
theorem L2O.ok {α : Type} {R : List Nat → α → α → Prop} {v v' : α} (g : Ag2 r s h) (k : R r v v') : L2O R r h (some (v, s)) (some (v', h)) := ⟨r, h, v', rfl, .refl, g, k⟩
theorem L2O.new {o o' : OI} (g : Ag2 r s h) (k : ∀ r', Ex2 r h r' (h ++ [o']) → RO2 r' o o') : L2O RV2 r h (some (.ref s.length, s ++ [o])) (some (.ref h.length, h ++ [o'])) := by
  have e0 : Ex2 r h (r ++ [h.length]) (h ++ [o']) := ⟨⟨[h.length], rfl, fun m hm => by rw [List.mem_singleton] at hm; omega⟩, by simp, fun m _ hlt => List.getElem?_append_left hlt⟩
  obtain ⟨g', e⟩ := g.new (k _ e0)
  exact ⟨_, _, _, rfl, e, g', .ref g.idx⟩
theorem L2R.new {o o' : OI} (g : Ag2 r s h) (k : ∀ r', Ex2 r h r' (h ++ [o']) → RO2 r' o o') : L2R RV2 r h (.ok (.ref s.length) (s ++ [o])) (.ok (.ref h.length) (h ++ [o'])) := L2R.ofO (L2O.new g k)
end
class LF (f : MF) : Prop where
  run : ∀ r s h vs vs', Ag2 r s h → RVs2 r vs vs' → L2R RV2 r h (f vs s) (f vs' h)
class LE (m : ME) : Prop where
  run : ∀ r s h σ σ', Ag2 r s h → AS2 r σ σ' → L2R RV2 r h (m σ s) (m σ' h)
class LT (m : MT) : Prop where
  run : ∀ r s h σ σ', Ag2 r s h → AS2 r σ σ' → L2R (fun _ (a b : Bool) => a = b) r h (m σ s) (m σ' h)
class LA (m : MA) : Prop where
  run : ∀ r s h σ σ', Ag2 r s h → AS2 r σ σ' → L2R RVs2 r h (m σ s) (m σ' h)
class LO (m : MO) : Prop where
  run : ∀ r s h σ σ', Ag2 r s h → AS2 r σ σ' → L2R (fun _ (a b : Option Int) => a = b) r h (m σ s) (m σ' h)
class LOp (f : Op2) : Prop where
  run : ∀ r s h x y x' y', Ag2 r s h → RV2 r x x' → RV2 r y y' → L2O RV2 r h (f x y s) (f x' y' h)
class LOc (f : OpC) : Prop where
  run : ∀ r s h vs vs', Ag2 r s h → RVs2 r vs vs' → L2O RV2 r h (f vs s) (f vs' h)
class LOm (f : OpM) : Prop where
  run : ∀ r s h x x' vs vs', Ag2 r s h → RV2 r x x' → RVs2 r vs vs' → L2O RV2 r h (f x vs s) (f x' vs' h)
class CV (v : VI) : Prop where
  self : ∀ r, RV2 r v v
class CVs (v : List VI) : Prop where
  self : ∀ r, RVs2 r v v
instance : CV .non := ⟨fun _ => .non⟩
instance {b : Bool} : CV (.bl b) := ⟨fun _ => .bl b⟩
instance {b : Int} : CV (.int b) := ⟨fun _ => .int b⟩
instance {b : S} : CV (.str b) := ⟨fun _ => .str b⟩
instance {b : S} : CV (.glo b) := ⟨fun _ => .glo b⟩
instance : CVs [] := ⟨fun _ => .nil⟩
instance {v : VI} {vs : List VI} [a : CV v] [b : CVs vs] : CVs (v :: vs) := ⟨fun r => .cons (a.self r) (b.self r)⟩
instance {vs : List VI} [b : CVs vs] : CV (.tup vs) := ⟨fun r => .tup (b.self r)⟩
section
variable {ma mb mc : ME} {ta tb : MT} {aa : MA} {f g : Op2}
instance {i : Nat} : LE (eV i) := ⟨fun r s h σ σ' g a => by
  unfold eV
  cases e : σ[i]? with
  | none => trivial
  | some o =>
    cases o with
    | none => trivial
    | some v =>
      obtain ⟨x, h1, h2⟩ := a.at_ i v e
      rw [h1]
      exact .ok g h2⟩
instance {v : VI} [c : CV v] : LE (eC v) := ⟨fun r s h σ σ' g a => .ok g (c.self r)⟩
instance : LA aNil := ⟨fun r s h σ σ' g a => .ok g .nil⟩
instance [x : LE ma] [y : LA aa] : LA (aCons ma aa) := ⟨fun r s h σ σ' g a => (x.run r s h σ σ' g a).bind fun r1 s1 h1 v v' e1 g1 q1 => (y.run _ _ _ _ _ g1 (a.mono e1)).bind fun r2 s2 h2 vs vs' e2 g2 q2 => .ok g2 (.cons (q1.mono e2) q2)⟩
instance [y : LA aa] : LE (eTup aa) := ⟨fun r s h σ σ' g a => (y.run r s h σ σ' g a).bind fun r1 s1 h1 v v' e1 g1 q1 => by
  rw [q1.length]
  cases small v'.length with
  | true => exact .ok g1 (.tup q1)
  | false => trivial⟩
instance [y : LA aa] : LE (eLst aa) := ⟨fun r s h σ σ' g a => (y.run r s h σ σ' g a).bind fun r1 s1 h1 v v' e1 g1 q1 => by
  rw [q1.length]
  cases small v'.length with
  | true => exact .new g1 fun r' e => .lst (q1.mono e)
  | false => trivial⟩
instance [x : LE ma] [y : LE mb] [o : LOp f] : LE (eBin f ma mb) := ⟨fun r s h σ σ' g a => (x.run r s h σ σ' g a).bind fun r1 s1 h1 v v' e1 g1 q1 => (y.run _ _ _ _ _ g1 (a.mono e1)).bind fun r2 s2 h2 w w' e2 g2 q2 => .ofO (o.run _ _ _ _ _ _ _ g2 (q1.mono e2) q2)⟩
instance [x : LE ma] : LT (tOf ma) := ⟨fun r s h σ σ' g a => (x.run r s h σ σ' g a).bind fun r1 s1 h1 v v' e1 g1 q1 => by
  cases q1 with
  | bl b => exact .ok g1 rfl
  | _ => trivial⟩
instance [x : LT ta] [y : LT tb] : LT (tAndM ta tb) := ⟨fun r s h σ σ' g a => (x.run r s h σ σ' g a).bind fun r1 s1 h1 v v' e1 g1 q1 => by
  subst q1
  cases v with
  | true => exact y.run _ _ _ _ _ g1 (a.mono e1)
  | false => exact .ok g1 rfl⟩
instance [x : LT ta] [y : LT tb] : LT (tOrM ta tb) := ⟨fun r s h σ σ' g a => (x.run r s h σ σ' g a).bind fun r1 s1 h1 v v' e1 g1 q1 => by
  subst q1
  cases v with
  | false => exact y.run _ _ _ _ _ g1 (a.mono e1)
  | true => exact .ok g1 rfl⟩
instance [x : LT ta] : LT (tNotM ta) := ⟨fun r s h σ σ' g a => (x.run r s h σ σ' g a).bind fun r1 s1 h1 v v' e1 g1 q1 => by
  subst q1
  exact .ok g1 rfl⟩
instance : LT tYesM := ⟨fun r s h σ σ' g a => .ok g rfl⟩
instance [x : LE ma] [y : LE mb] : LE (eAnd ma mb) := ⟨fun r s h σ σ' g a => (x.run r s h σ σ' g a).bind fun r1 s1 h1 v v' e1 g1 q1 => by
  cases q1 with
  | bl b =>
    cases b with
    | true => exact y.run _ _ _ _ _ g1 (a.mono e1)
    | false => exact .ok g1 (.bl _)
  | _ => trivial⟩
instance [x : LE ma] [y : LE mb] : LE (eOr ma mb) := ⟨fun r s h σ σ' g a => (x.run r s h σ σ' g a).bind fun r1 s1 h1 v v' e1 g1 q1 => by
  cases q1 with
  | bl b =>
    cases b with
    | false => exact y.run _ _ _ _ _ g1 (a.mono e1)
    | true => exact .ok g1 (.bl _)
  | _ => trivial⟩
instance [x : LE ma] : LE (eNot ma) := ⟨fun r s h σ σ' g a => (x.run r s h σ σ' g a).bind fun r1 s1 h1 v v' e1 g1 q1 => by
  cases q1 with
  | bl b => exact .ok g1 (.bl _)
  | _ => trivial⟩
instance [x : LT ta] [y : LE ma] [z : LE mb] : LE (eIf ta ma mb) := ⟨fun r s h σ σ' g a => (x.run r s h σ σ' g a).bind fun r1 s1 h1 v v' e1 g1 q1 => by
  subst q1
  cases v with
  | true => exact y.run _ _ _ _ _ g1 (a.mono e1)
  | false => exact z.run _ _ _ _ _ g1 (a.mono e1)⟩
instance [x : LE ma] : LE (eNeg ma) := ⟨fun r s h σ σ' g a => (x.run r s h σ σ' g a).bind fun r1 s1 h1 v v' e1 g1 q1 => by
  cases q1 with
  | int b => exact .ok g1 (.int _)
  | _ => trivial⟩
instance [x : LE ma] [y : LE mb] [z : LE mc] [o : LOp f] [p : LOp g] : LE (eChain f g ma mb mc) := ⟨fun r s h σ σ' gg a => (x.run r s h σ σ' gg a).bind fun r1 s1 h1 v v' e1 g1 q1 => (y.run _ _ _ _ _ g1 (a.mono e1)).bind fun r2 s2 h2 w w' e2 g2 q2 =>
  (L2R.ofO (o.run _ _ _ _ _ _ _ g2 (q1.mono e2) q2)).bind fun r3 s3 h3 u u' e3 g3 q3 => by
    cases q3 with
    | bl b =>
      cases b with
      | true => exact (z.run _ _ _ _ _ g3 (((a.mono e1).mono e2).mono e3)).bind fun r4 s4 h4 t t' e4 g4 q4 => .ofO (p.run _ _ _ _ _ _ _ g4 ((q2.mono e3).mono e4) q4)
      | false => exact .ok g3 (.bl _)
    | _ => trivial⟩
instance {k : MF} [x : LF k] [y : LA aa] : LE (eCall k aa) := ⟨fun r s h σ σ' g a => (y.run r s h σ σ' g a).bind fun r1 s1 h1 v v' e1 g1 q1 => x.run _ _ _ _ _ g1 q1⟩
instance {k : OpC} [x : LOc k] [y : LA aa] : LE (eCB k aa) := ⟨fun r s h σ σ' g a => (y.run r s h σ σ' g a).bind fun r1 s1 h1 v v' e1 g1 q1 => .ofO (x.run _ _ _ _ _ g1 q1)⟩
instance {k : OpM} {d : Knd} [z : LE ma] [x : LOm k] [y : LA aa] : LE (eBM d k ma aa) := ⟨fun r s h σ σ' g a => (z.run r s h σ σ' g a).bind fun r1 s1 h1 v v' e1 g1 q1 => by
  have same : kOk d v s1 = true → kOk d v' h1 = true := fun q => by
    unfold kOk at q ⊢
    cases q1 with
    | str _ => exact q
    | @ref n m p =>
      dsimp only at q ⊢
      cases z : s1[n]? with
      | none => rw [z] at q; cases q
      | some o =>
        obtain ⟨o', k1, k2⟩ := g1.at_ z p
        rw [z] at q
        rw [k1]
        cases k2 <;> exact q
    | _ => exact q
  cases q : kOk d v s1 with
  | false => trivial
  | true =>
    rw [same q]
    exact (y.run _ _ _ _ _ g1 (a.mono e1)).bind fun r2 s2 h2 w w' e2 g2 q2 => .ofO (x.run _ _ _ _ _ _ _ g2 (q1.mono e2) q2)⟩
instance : LE eErr := ⟨fun r s h σ σ' g a => trivial⟩
instance : LO oNo := ⟨fun r s h σ σ' g a => .ok g rfl⟩
instance [x : LE ma] : LO (oSome ma) := ⟨fun r s h σ σ' g a => (x.run r s h σ σ' g a).bind fun r1 s1 h1 v v' e1 g1 q1 => by
  cases q1 with
  | int b => exact .ok g1 rfl
  | _ => trivial⟩
end
end ML
end
section
namespace ML
open PySem L2
section
variable {r r' : List Nat} {h h' s : Hi}
theorem keyEq2 {a b k l : VI} (p : RV2 r a b) (q : RV2 r k l) : keyEq b l = keyEq a k := by
  cases p <;> cases q <;> rfl
theorem isKey2 {a b : VI} (p : RV2 r a b) : isKey b = isKey a := by cases p <;> rfl
theorem flI2 {a b : VI} (p : RV2 r a b) : flI b = flI a := by cases p <;> rfl
theorem eqI2 {a b k l : VI} (p : RV2 r a b) (q : RV2 r k l) : eqI b l = eqI a k := by
  cases p <;> cases q <;> rfl
def ROp2 (r : List Nat) : Option VI → Option VI → Prop
  | some a, some b => RV2 r a b
  | none, none => True
  | _, _ => False
theorem getD2 {k l : VI} (q : RV2 r k l) : ∀ {xs ys : List (VI × VI)}, RKs2 r xs ys → ROp2 r (getD k xs) (getD l ys)
  | _, _, .nil => trivial
  | _, _, .cons p v t => by
    unfold getD
    rw [keyEq2 p q]
    split
    · exact v
    · exact getD2 q t
theorem hasD2 {k l : VI} (q : RV2 r k l) : ∀ {xs ys : List (VI × VI)}, RKs2 r xs ys → hasD l ys = hasD k xs
  | _, _, .nil => rfl
  | _, _, .cons p v t => by
    unfold hasD
    rw [keyEq2 p q, hasD2 q t]
theorem repD2 {k l v w : VI} (q : RV2 r k l) (u : RV2 r v w) : ∀ {xs ys : List (VI × VI)}, RKs2 r xs ys → RKs2 r (repD k v xs) (repD l w ys)
  | _, _, .nil => .nil
  | _, _, .cons p x t => by
    unfold repD
    rw [keyEq2 p q]
    split
    · exact .cons p u (repD2 q u t)
    · exact .cons p x (repD2 q u t)
theorem RKs2.append : ∀ {v w x y : List (VI × VI)}, RKs2 r v x → RKs2 r w y → RKs2 r (v ++ w) (x ++ y)
  | _, _, _, _, .nil, k => k
  | _, _, _, _, .cons a b t, k => .cons a b (RKs2.append t k)
theorem putD2 {k l v w : VI} (q : RV2 r k l) (u : RV2 r v w) {xs ys : List (VI × VI)} (t : RKs2 r xs ys) : RKs2 r (putD k v xs) (putD l w ys) := by
  unfold putD
  rw [hasD2 q t]
  split
  · exact repD2 q u t
  · exact t.append (.cons q u .nil)
theorem putAll2 : ∀ {ps qs xs ys : List (VI × VI)}, RKs2 r ps qs → RKs2 r xs ys → RKs2 r (putAll ps xs) (putAll qs ys)
  | _, _, _, _, .nil, t => t
  | _, _, _, _, .cons k v p, t => by
    unfold putAll
    exact putAll2 p (putD2 k v t)
theorem keysOk2 : ∀ {xs ys : List (VI × VI)}, RKs2 r xs ys → keysOk ys = keysOk xs
  | _, _, .nil => rfl
  | _, _, .cons p _ t => by unfold keysOk; rw [isKey2 p, keysOk2 t]
theorem inI2 {a b : VI} (p : RV2 r a b) : ∀ {xs ys : List VI}, RVs2 r xs ys → inI b ys = inI a xs
  | _, _, .nil => rfl
  | _, _, .cons q t => by unfold inI; rw [eqI2 q p, inI2 p t]
theorem alF2 : ∀ {xs ys : List VI}, RVs2 r xs ys → alF ys = alF xs
  | _, _, .nil => rfl
  | _, _, .cons q t => by unfold alF; rw [flI2 q, alF2 t]
theorem getF2 {f : S} : ∀ {xs ys : List (S × VI)}, RFs2 r xs ys → ROp2 r (getF f xs) (getF f ys)
  | _, _, .nil => trivial
  | _, _, .cons v t => by
    unfold getF
    split
    · exact v
    · exact getF2 t
theorem setF2 {f : S} {v w : VI} (u : RV2 r v w) : ∀ {xs ys : List (S × VI)}, RFs2 r xs ys → RFs2 r (setF f v xs) (setF f w ys)
  | _, _, .nil => .cons u .nil
  | _, _, .cons x t => by
    unfold setF
    split
    · exact .cons u t
    · exact .cons x (setF2 u t)
theorem datL2 {f g : VI → Option PyData} (e : ∀ v w d, RV2 r v w → f v = some d → g w = some d) : ∀ {xs ys : List VI} {ds : List PyData}, RVs2 r xs ys → datL f xs = some ds → datL g ys = some ds
  | _, _, _, .nil, q => q
  | _, _, _, .cons (v := v) (x := x) p t, q => by
    unfold datL at q ⊢
    cases z : f v with
    | none => rw [z] at q; cases q
    | some d =>
      rw [z] at q
      rw [e _ _ _ p z]
      dsimp only at q ⊢
      cases z2 : datL f _ with
      | none => rw [z2] at q; cases q
      | some ds =>
        rw [z2] at q
        rw [datL2 e t z2]
        exact q
theorem dat2 (a : Ag2 r s h) : ∀ (n : Nat) (v w : VI) (d : PyData), RV2 r v w → dat n s v = some d → dat n h w = some d
  | 0, _, _, _, _, q => by cases q
  | n + 1, v, w, d, p, q => by
    have ih := dat2 a n
    have lft : ∀ {xs ys : List VI} {F : List PyData → PyData}, RVs2 r xs ys → (datL (dat n s) xs).map F = some d → (datL (dat n h) ys).map F = some d := by
      intro xs ys F t k
      cases z : datL (dat n s) xs with
      | none => rw [z] at k; cases k
      | some ds => rw [z] at k; rw [datL2 ih t z]; exact k
    unfold dat at q ⊢
    cases p with
    | non => exact q
    | bl b => exact q
    | int i => exact q
    | str s => exact q
    | glo g => exact q
    | tup t => exact lft t q
    | @ref i m e =>
      dsimp only at q ⊢
      cases z : s[i]? with
      | none => rw [z] at q; cases q
      | some o =>
        obtain ⟨o', k1, k2⟩ := a.at_ z e
        rw [z] at q
        rw [k1]
        cases k2 with
        | lst t => exact lft t q
        | scr t => exact lft t q
        | dic _ => cases q
        | ins _ => cases q
        | xd _ => cases q
theorem eqD2 (a : Ag2 r s h) {x y x' y' : VI} {b : Bool} (p : RV2 r x x') (q : RV2 r y y') (e : eqD s x y = some b) : eqD h x' y' = some b := by
  unfold eqD at e ⊢
  cases z : dat 66 s x with
  | none => rw [z] at e; cases e
  | some d =>
    cases z2 : dat 66 s y with
    | none => rw [z, z2] at e; cases e
    | some d2 =>
      rw [z, z2] at e
      rw [dat2 a _ _ _ _ p z, dat2 a _ _ _ _ q z2]
      exact e
theorem inDl2 (a : Ag2 r s h) {x x' : VI} {ys ys' : List VI} {b : Bool} (p : RV2 r x x') (q : RVs2 r ys ys') (e : inDl s x ys = some b) : inDl h x' ys' = some b := by
  unfold inDl at e ⊢
  cases z : dat 66 s x with
  | none => rw [z] at e; cases e
  | some d =>
    cases z2 : datL (dat 65 s) ys with
    | none => rw [z, z2] at e; cases e
    | some d2 =>
      rw [z, z2] at e
      rw [dat2 a _ _ _ _ p z, datL2 (dat2 a 65) q z2]
      exact e
theorem inM2 (a : Ag2 r s h) {x y x' y' : VI} {b : Bool} (p : RV2 r x x') (q : RV2 r y y') (e : inM x y s = some b) : inM x' y' h = some b := by
  unfold inM at e ⊢
  cases q with
  | tup t =>
    dsimp only at e ⊢
    rw [flI2 p, alF2 t, inI2 p t]
    exact e
  | @ref i m pp =>
    dsimp only at e ⊢
    cases z : s[i]? with
    | none => rw [z] at e; cases e
    | some o =>
      obtain ⟨o', k1, k2⟩ := a.at_ z pp
      rw [z] at e
      rw [k1]
      cases k2 with
      | lst t =>
        dsimp only at e ⊢
        rw [flI2 p, alF2 t, inI2 p t]
        split at e
        · exact e
        · exact inDl2 a p t e
      | scr t =>
        dsimp only at e ⊢
        rw [flI2 p, alF2 t, inI2 p t]
        split at e
        · exact e
        · exact inDl2 a p t e
      | dic t =>
        dsimp only at e ⊢
        rw [isKey2 p]
        have k := getD2 p t
        split at e
        · rw [← e]
          cases z1 : getD x _ with
          | none => rw [z1] at k; cases z2 : getD x' _ with
            | none => rfl
            | some _ => rw [z2] at k; exact k.elim
          | some _ => rw [z1] at k; cases z2 : getD x' _ with
            | none => rw [z2] at k; exact k.elim
            | some _ => rfl
        · cases e
      | ins _ => cases e
      | xd _ => cases e
  | non => cases e
  | bl _ => cases e
  | int _ => cases e
  | str _ => cases e
  | glo _ => cases e
theorem ixL2 {xs ys : List VI} (t : RVs2 r xs ys) (i : Int) : ROp2 r (ixL xs i) (ixL ys i) := by
  unfold ixL
  rw [t.length]
  cases ixI ys.length i with
  | none => trivial
  | some j =>
    dsimp only
    cases z : xs[j]? with
    | none => rw [t.none z]; trivial
    | some v => obtain ⟨b, h1, h2⟩ := t.get z; rw [h1]; exact h2
theorem dropLast2 : ∀ {xs ys : List VI}, RVs2 r xs ys → RVs2 r xs.dropLast ys.dropLast
  | _, _, .nil => .nil
  | _, _, .cons _ .nil => .nil
  | _, _, .cons a (.cons b t) => .cons a (dropLast2 (.cons b t))
theorem isEmp2 {xs ys : List VI} (t : RVs2 r xs ys) : xs.isEmpty = ys.isEmpty := by cases t <;> rfl
theorem repL2 {xs ys : List VI} (t : RVs2 r xs ys) : ∀ n, RVs2 r (repL xs n) (repL ys n)
  | 0 => .nil
  | n + 1 => t.append (repL2 t n)
theorem cutI2 {xs ys : List VI} (t : RVs2 r xs ys) (lo hi : Option Int) : RVs2 r (cutI xs lo hi) (cutI ys lo hi) := by
  unfold cutI
  rw [t.length]
  exact (t.drop _).take _
theorem keys2 : ∀ {xs ys : List (VI × VI)}, RKs2 r xs ys → RVs2 r (xs.map (·.1)) (ys.map (·.1))
  | _, _, .nil => .nil
  | _, _, .cons a _ t => .cons a (keys2 t)
theorem vals2 : ∀ {xs ys : List (VI × VI)}, RKs2 r xs ys → RVs2 r (xs.map (·.2)) (ys.map (·.2))
  | _, _, .nil => .nil
  | _, _, .cons _ a t => .cons a (vals2 t)
theorem ints2 {α : Type} (f : α → Int) : ∀ l : List α, RVs2 r (l.map fun i => VI.int (f i)) (l.map fun i => VI.int (f i))
  | [] => .nil
  | _ :: l => .cons (.int _) (ints2 f l)
theorem rgI2 (a b : Int) : RVs2 r (rgI a b) (rgI a b) := ints2 (fun i : Nat => a + (i : Int)) _
theorem Ag2.no (a : Ag2 r s h) {n m : Nat} (p : r[n]? = some m) : ∃ o o', s[n]? = some o ∧ h[m]? = some o' ∧ RO2 r o o' := by
  have hn : n < s.length := by rw [← a.len]; exact (List.getElem?_eq_some_iff.mp p).1
  have e : s[n]? = some s[n] := by simp [hn]
  obtain ⟨o', h1, h2⟩ := a.at_ e p
  exact ⟨_, o', e, h1, h2⟩
theorem L2O.wr {n m : Nat} {u o o' : OI} {v w : VI} (g : Ag2 r s h) (hn : s[n]? = some u) (p : r[n]? = some m) (k : RO2 r o o') (q : RV2 r v w) : L2O RV2 r h (some (v, s.set n o)) (some (w, h.set m o')) := by
  obtain ⟨g', e⟩ := g.wr hn p k
  exact ⟨_, _, _, rfl, e, g', q⟩
instance : LOp fEq := ⟨fun r s h x y x' y' g p q => by
  unfold fEq
  cases z : eqD s x y with
  | none => trivial
  | some b => rw [eqD2 g p q z]; exact .ok g (.bl b)⟩
instance : LOp fNe := ⟨fun r s h x y x' y' g p q => by
  unfold fNe
  cases z : eqD s x y with
  | none => trivial
  | some b => rw [eqD2 g p q z]; exact .ok g (.bl _)⟩
instance : LOp fIn := ⟨fun r s h x y x' y' g p q => by
  unfold fIn
  cases z : inM x y s with
  | none => trivial
  | some b => rw [inM2 g p q z]; exact .ok g (.bl b)⟩
instance : LOp fNotIn := ⟨fun r s h x y x' y' g p q => by
  unfold fNotIn
  cases z : inM x y s with
  | none => trivial
  | some b => rw [inM2 g p q z]; exact .ok g (.bl _)⟩
instance : LOp fAdd := ⟨fun r s h x y x' y' g p q => by
  unfold fAdd
  cases p with
  | int i =>
    cases q with
    | int j => exact .ok g (.int _)
    | _ => trivial
  | str i =>
    cases q with
    | str j =>
      dsimp only
      split
      · exact .ok g (.str _)
      · trivial
    | _ => trivial
  | tup i =>
    cases q with
    | tup j =>
      dsimp only
      rw [i.length, j.length]
      split
      · exact .ok g (.tup (i.append j))
      · trivial
    | _ => trivial
  | ref i =>
    cases q with
    | ref j =>
      obtain ⟨o, o', e1, e2, e3⟩ := g.no i
      obtain ⟨u, u', f1, f2, f3⟩ := g.no j
      dsimp only
      rw [e1, e2, f1, f2]
      cases e3 with
      | lst t =>
        cases f3 with
        | lst t2 =>
          dsimp only
          rw [t.length, t2.length]
          split
          · exact .new g fun r' e => .lst ((t.mono e).append (t2.mono e))
          · trivial
        | _ => trivial
      | _ => trivial
    | _ => trivial
  | _ => trivial⟩
instance : LOp fSub := ⟨fun r s h x y x' y' g p q => by
  unfold fSub
  cases p <;> cases q <;> first | trivial | exact .ok g (.int _)⟩
instance : LOp fMul := ⟨fun r s h x y x' y' g p q => by
  unfold fMul
  cases p with
  | int i =>
    cases q with
    | int j =>
      dsimp only
      split
      · exact .ok g (.int _)
      · trivial
    | _ => trivial
  | tup i =>
    cases q with
    | int j =>
      dsimp only
      rw [isEmp2 i, i.length]
      split
      · exact .ok g (.tup (repL2 i _))
      · trivial
    | _ => trivial
  | ref i =>
    cases q with
    | int j =>
      obtain ⟨o, o', e1, e2, e3⟩ := g.no i
      dsimp only
      rw [e1, e2]
      cases e3 with
      | lst t =>
        dsimp only
        rw [t.length]
        split
        · exact .new g fun r' e => .lst (repL2 (t.mono e) _)
        · trivial
      | _ => trivial
    | _ => trivial
  | _ => trivial⟩
instance : LOp fMod := ⟨fun r s h x y x' y' g p q => by
  unfold fMod
  cases p with
  | int i =>
    cases q with
    | int j =>
      dsimp only
      split
      · exact .ok g (.int _)
      · trivial
    | _ => trivial
  | _ => trivial⟩
instance : LOp fFdiv := ⟨fun r s h x y x' y' g p q => by
  unfold fFdiv
  cases p with
  | int i =>
    cases q with
    | int j =>
      dsimp only
      split
      · exact .ok g (.int _)
      · trivial
    | _ => trivial
  | _ => trivial⟩
instance : LOp fPow := ⟨fun r s h x y x' y' g p q => by
  unfold fPow
  cases p with
  | int i =>
    cases q with
    | int j =>
      dsimp only
      split
      · exact .ok g (.int _)
      · trivial
    | _ => trivial
  | _ => trivial⟩
instance {f : Int → Int → Bool} : LOp (fInt f) := ⟨fun r s h x y x' y' g p q => by
  unfold fInt
  cases p <;> cases q <;> first | trivial | exact .ok g (.bl _)⟩
instance : LOp fLt := inferInstanceAs (LOp (fInt _))
instance : LOp fLe := inferInstanceAs (LOp (fInt _))
instance : LOp fGt := inferInstanceAs (LOp (fInt _))
instance : LOp fGe := inferInstanceAs (LOp (fInt _))
instance : LOp fIsN := ⟨fun r s h x y x' y' g p q => by
  unfold fIsN
  cases q <;> first | trivial | (cases p <;> exact .ok g (.bl _))⟩
instance : LOp fNotN := ⟨fun r s h x y x' y' g p q => by
  unfold fNotN
  cases q <;> first | trivial | (cases p <;> exact .ok g (.bl _))⟩
theorem L2O.op {a b : Option VI} (g : Ag2 r s h) (k : ROp2 r a b) : L2O RV2 r h (match (generalizing := false) a with | some v => some (v, s) | none => none) (match (generalizing := false) b with | some v => some (v, h) | none => none) := by
  cases a with
  | none => trivial
  | some v => cases b with
    | none => exact k.elim
    | some w => exact .ok g k
instance : LOp fIx := ⟨fun r s h x y x' y' g p q => by
  unfold fIx
  cases p with
  | tup t =>
    cases q with
    | int i => exact .op g (ixL2 t i)
    | _ => trivial
  | ref i =>
    obtain ⟨o, o', e1, e2, e3⟩ := g.no i
    dsimp only
    rw [e1, e2]
    cases e3 with
    | lst t =>
      cases q with
      | int i => exact .op g (ixL2 t i)
      | _ => trivial
    | scr t =>
      cases q with
      | int i => exact .op g (ixL2 t i)
      | _ => trivial
    | dic t =>
      dsimp only
      rw [isKey2 q]
      have k := getD2 q t
      cases isKey y with
      | false => trivial
      | true =>
        cases z1 : getD y _ with
        | none => trivial
        | some v => rw [z1] at k; cases z2 : getD y' _ with
          | none => rw [z2] at k; exact k.elim
          | some w => rw [z2] at k; exact .ok g k
    | _ => trivial
  | _ => trivial⟩
instance : LOc cLen := ⟨fun r s h vs vs' g t => by
  unfold cLen
  cases t with
  | nil => trivial
  | cons p t =>
    cases t with
    | cons _ _ => cases p <;> trivial
    | nil =>
      cases p with
      | tup t => dsimp only; rw [t.length]; exact .ok g (.int _)
      | str x =>
        dsimp only
        split
        · exact .ok g (.int _)
        · trivial
      | ref i =>
        obtain ⟨o, o', e1, e2, e3⟩ := g.no i
        dsimp only
        rw [e1, e2]
        cases e3 with
        | lst t => dsimp only; rw [t.length]; exact .ok g (.int _)
        | scr t => dsimp only; rw [t.length]; exact .ok g (.int _)
        | dic t => dsimp only; rw [t.length]; exact .ok g (.int _)
        | _ => trivial
      | _ => trivial⟩
instance : LOc cInt := ⟨fun r s h vs vs' g t => by
  unfold cInt
  cases t with
  | nil => trivial
  | cons p t =>
    cases t with
    | cons _ _ => cases p <;> trivial
    | nil =>
      cases p with
      | int i => exact .ok g (.int _)
      | bl b => exact .ok g (.int _)
      | _ => trivial⟩
instance : LOc cMax := ⟨fun r s h vs vs' g t => by
  unfold cMax
  cases t with
  | nil => trivial
  | cons p t =>
    cases t with
    | nil => cases p <;> trivial
    | cons q t =>
      cases t with
      | cons _ _ => cases p <;> cases q <;> trivial
      | nil => cases p <;> cases q <;> first | trivial | exact .ok g (.int _)⟩
instance : LOc cMin := ⟨fun r s h vs vs' g t => by
  unfold cMin
  cases t with
  | nil => trivial
  | cons p t =>
    cases t with
    | nil => cases p <;> trivial
    | cons q t =>
      cases t with
      | cons _ _ => cases p <;> cases q <;> trivial
      | nil => cases p <;> cases q <;> first | trivial | exact .ok g (.int _)⟩
instance : LOc cList := ⟨fun r s h vs vs' g t => by
  unfold cList
  cases t with
  | nil => trivial
  | cons p t =>
    cases t with
    | cons _ _ => cases p <;> trivial
    | nil =>
      cases p with
      | tup t => exact .new g fun r' e => .lst (t.mono e)
      | ref i =>
        obtain ⟨o, o', e1, e2, e3⟩ := g.no i
        dsimp only
        rw [e1, e2]
        cases e3 with
        | lst t => exact .new g fun r' e => .lst (t.mono e)
        | scr t => exact .new g fun r' e => .lst (t.mono e)
        | dic t => exact .new g fun r' e => .lst ((keys2 t).mono e)
        | _ => trivial
      | _ => trivial⟩
instance : LOc cTuple := ⟨fun r s h vs vs' g t => by
  unfold cTuple
  cases t with
  | nil => trivial
  | cons p t =>
    cases t with
    | cons _ _ => cases p <;> trivial
    | nil =>
      cases p with
      | tup t => exact .ok g (.tup t)
      | ref i =>
        obtain ⟨o, o', e1, e2, e3⟩ := g.no i
        dsimp only
        rw [e1, e2]
        cases e3 with
        | lst t => exact .ok g (.tup t)
        | scr t => exact .ok g (.tup t)
        | _ => trivial
      | _ => trivial⟩
instance : LOc cDict := ⟨fun r s h vs vs' g t => by
  unfold cDict
  cases t with
  | nil => trivial
  | cons p t =>
    cases t with
    | cons _ _ => cases p <;> trivial
    | nil =>
      cases p with
      | ref i =>
        obtain ⟨o, o', e1, e2, e3⟩ := g.no i
        dsimp only
        rw [e1, e2]
        cases e3 with
        | dic t => exact .new g fun r' e => .dic (t.mono e)
        | _ => trivial
      | _ => trivial⟩
instance : LOm mAppend := ⟨fun r s h x x' vs vs' g p t => by
  unfold mAppend
  cases p with
  | ref i =>
    obtain ⟨o, o', e1, e2, e3⟩ := g.no i
    dsimp only
    rw [e1, e2]
    cases e3 with
    | lst l =>
      cases t with
      | nil => trivial
      | cons q t =>
        cases t with
        | cons _ _ => trivial
        | nil =>
          dsimp only
          rw [l.length]
          split
          · exact .wr g e1 i (.lst (l.append (.cons q .nil))) .non
          · trivial
    | _ => trivial
  | _ => trivial⟩
instance : LOm mExtend := ⟨fun r s h x x' vs vs' g p t => by
  unfold mExtend
  cases p with
  | ref i =>
    obtain ⟨o, o', e1, e2, e3⟩ := g.no i
    dsimp only
    rw [e1, e2]
    cases e3 with
    | lst l =>
      cases t with
      | nil => trivial
      | cons q t =>
        cases t with
        | cons _ _ => cases q <;> trivial
        | nil =>
          cases q with
          | ref j =>
            obtain ⟨u, u', f1, f2, f3⟩ := g.no j
            dsimp only
            rw [f1, f2]
            cases f3 with
            | lst l2 =>
              dsimp only
              rw [l.length, l2.length]
              split
              · exact .wr g e1 i (.lst (l.append l2)) .non
              · trivial
            | _ => trivial
          | _ => trivial
    | _ => trivial
  | _ => trivial⟩
instance : LOm mPop := ⟨fun r s h x x' vs vs' g p t => by
  unfold mPop
  cases p with
  | ref i =>
    obtain ⟨o, o', e1, e2, e3⟩ := g.no i
    dsimp only
    rw [e1, e2]
    cases e3 with
    | @lst xs ys l =>
      cases t with
      | cons _ _ => trivial
      | nil =>
        dsimp only
        cases z : xs[xs.length - 1]? with
        | none => trivial
        | some y =>
          obtain ⟨b, k1, k2⟩ := l.get z
          rw [← l.length, k1]
          exact .wr g e1 i (.lst (dropLast2 l)) k2
    | _ => trivial
  | _ => trivial⟩
end
end ML
end
section
namespace ML
open PySem L2
section
variable {r r' : List Nat} {h h' s : Hi}
def L2S (r : List Nat) (h : Hi) (a a' : RS) : Prop := match a with
  | .nx σ s' => ∃ r' h' σ', a' = .nx σ' h' ∧ Ex2 r h r' h' ∧ Ag2 r' s' h' ∧ AS2 r' σ σ'
  | .bk σ s' => ∃ r' h' σ', a' = .bk σ' h' ∧ Ex2 r h r' h' ∧ Ag2 r' s' h' ∧ AS2 r' σ σ'
  | .ct σ s' => ∃ r' h' σ', a' = .ct σ' h' ∧ Ex2 r h r' h' ∧ Ag2 r' s' h' ∧ AS2 r' σ σ'
  | .rt v s' => ∃ r' h' v', a' = .rt v' h' ∧ Ex2 r h r' h' ∧ Ag2 r' s' h' ∧ RV2 r' v v'
  | .ex c n σ s' => ∃ r' h' σ' m, a' = .ex c m σ' h' ∧ Ex2 r h r' h' ∧ Ag2 r' s' h' ∧ AS2 r' σ σ' ∧ r'[n]? = some m
  | .err => True
theorem L2S.ext {a a' : RS} (x : Ex2 r h r' h') (k : L2S r' h' a a') : L2S r h a a' := by
  cases a with
  | err => trivial
  | nx σ s' => obtain ⟨r2, h2, m, e1, e2, e3⟩ := k; exact ⟨r2, h2, m, e1, x.trans e2, e3⟩
  | bk σ s' => obtain ⟨r2, h2, m, e1, e2, e3⟩ := k; exact ⟨r2, h2, m, e1, x.trans e2, e3⟩
  | ct σ s' => obtain ⟨r2, h2, m, e1, e2, e3⟩ := k; exact ⟨r2, h2, m, e1, x.trans e2, e3⟩
  | rt σ s' => obtain ⟨r2, h2, m, e1, e2, e3⟩ := k; exact ⟨r2, h2, m, e1, x.trans e2, e3⟩
  | ex c n σ s' => obtain ⟨r2, h2, m, m2, e1, e2, e3⟩ := k; exact ⟨r2, h2, m, m2, e1, x.trans e2, e3⟩
theorem L2R.ext {α : Type} {R : List Nat → α → α → Prop} {a a' : Res α} (x : Ex2 r h r' h') (k : L2R R r' h' a a') : L2R R r h a a' := by
  cases a with
  | err => trivial
  | ok σ s' => obtain ⟨r2, h2, m, e1, e2, e3⟩ := k; exact ⟨r2, h2, m, e1, x.trans e2, e3⟩
  | ex c n s' => obtain ⟨r2, h2, m, e1, e2, e3⟩ := k; exact ⟨r2, h2, m, e1, x.trans e2, e3⟩
theorem L2S.nx {σ σ' : Sg} (g : Ag2 r s h) (a : AS2 r σ σ') : L2S r h (.nx σ s) (.nx σ' h) := ⟨_, _, _, rfl, .refl, g, a⟩
theorem L2R.bindS {α : Type} {R : List Nat → α → α → Prop} {a a' : Res α} {σ σ' : Sg} {k k' : α → Hi → RS} (h1 : L2R R r h a a') (as : AS2 r σ σ')
    (h2 : ∀ r1 s1 h1 x x', Ex2 r h r1 h1 → Ag2 r1 s1 h1 → R r1 x x' → L2S r1 h1 (k x s1) (k' x' h1)) : L2S r h (a.bindS σ k) (a'.bindS σ' k') := by
  cases a with
  | err => trivial
  | ex c n s' =>
    obtain ⟨r', h', m, rfl, e, g, q⟩ := h1
    exact ⟨r', h', σ', m, rfl, e, g, as.mono e, q⟩
  | ok v s' =>
    obtain ⟨r', h', v', rfl, e, g, q⟩ := h1
    exact (h2 r' s' h' v v' e g q).ext e
theorem L2S.andThen {a a' : RS} {f f' : MS} (k : L2S r h a a') (t : ∀ r1 s1 h1 σ σ', Ex2 r h r1 h1 → Ag2 r1 s1 h1 → AS2 r1 σ σ' → L2S r1 h1 (f σ s1) (f' σ' h1)) : L2S r h (a.andThen f) (a'.andThen f') := by
  cases a with
  | err => trivial
  | nx σ s' => obtain ⟨r2, h2, m, rfl, e2, e3, e4⟩ := k; exact (t _ _ _ _ _ e2 e3 e4).ext e2
  | bk σ s' => obtain ⟨r2, h2, m, rfl, e2, e3⟩ := k; exact ⟨r2, h2, m, rfl, e2, e3⟩
  | ct σ s' => obtain ⟨r2, h2, m, rfl, e2, e3⟩ := k; exact ⟨r2, h2, m, rfl, e2, e3⟩
  | rt σ s' => obtain ⟨r2, h2, m, rfl, e2, e3⟩ := k; exact ⟨r2, h2, m, rfl, e2, e3⟩
  | ex c n σ s' => obtain ⟨r2, h2, m, m2, rfl, e2, e3⟩ := k; exact ⟨r2, h2, m, m2, rfl, e2, e3⟩
theorem L2R.dropV {a a' : Res VI} {σ σ' : Sg} (k : L2R RV2 r h a a') (as : AS2 r σ σ') : L2S r h (dropV σ a) (dropV σ' a') := by
  cases a with
  | err => trivial
  | ok v s' => obtain ⟨r2, h2, m, rfl, e, g, _⟩ := k; exact ⟨r2, h2, σ', rfl, e, g, as.mono e⟩
  | ex c n s' => obtain ⟨r2, h2, m, rfl, e, g, q⟩ := k; exact ⟨r2, h2, σ', m, rfl, e, g, as.mono e, q⟩
end
class LS (m : MS) : Prop where
  run : ∀ r s h σ σ', Ag2 r s h → AS2 r σ σ' → L2S r h (m σ s) (m σ' h)
class LG (g : MG) : Prop where
  run : ∀ r s h σ σ' v v', Ag2 r s h → AS2 r σ σ' → RV2 r v v' → L2S r h (g v σ s) (g v' σ' h)
class LTb (tbl : Nat → Option MF) : Prop where
  run : ∀ c g, tbl c = some g → LF g
class CTb (tbl : Nat → Option VI) : Prop where
  run : ∀ c v, tbl c = some v → ∀ r, RV2 r v v
instance : LTb (lkT []) := ⟨fun c g e => by cases e⟩
instance {d : Nat} {x : MF} {l : List (Nat × MF)} [a : LF x] [b : LTb (lkT l)] : LTb (lkT ((d, x) :: l)) := ⟨fun c g e => by
  rcases lkT_cons e with ⟨_, rfl⟩ | q
  · exact a
  · exact b.run c g q⟩
instance : CTb (lkT []) := ⟨fun c g e => by cases e⟩
instance {d : Nat} {x : VI} {l : List (Nat × VI)} [a : CV x] [b : CTb (lkT l)] : CTb (lkT ((d, x) :: l)) := ⟨fun c g e => by
  rcases lkT_cons e with ⟨_, rfl⟩ | q
  · exact a.self
  · exact b.run c g q⟩
class CTs (tbl : S → Option VI) : Prop where
  run : ∀ c v, tbl c = some v → ∀ r, RV2 r v v
instance : CTs (lkS []) := ⟨fun c g e => by cases e⟩
instance {d : S} {x : VI} {l : List (S × VI)} [a : CV x] [b : CTs (lkS l)] : CTs (lkS ((d, x) :: l)) := ⟨fun c v e => by
  unfold lkS at e
  split at e
  · cases e; exact a.self
  · exact b.run c v e⟩
section
variable {ma mb mc : ME} {ta tb : MT} {aa ab : MA} {sa sb : MS} {ga : MG}
instance {cs : List Nat} {f : S} [x : LE ma] : LE (eFld cs f ma) := ⟨fun r s h σ σ' g a => (x.run r s h σ σ' g a).bind fun r1 s1 h1 v v' e1 g1 q1 => by
  cases q1 with
  | ref p =>
    obtain ⟨o, o', z1, z2, z3⟩ := g1.no p
    dsimp only
    rw [z1, z2]
    cases z3 with
    | @ins c xs ys t =>
      dsimp only
      have k := getF2 (f := f) t
      cases cs.contains c with
      | false => trivial
      | true =>
        cases w1 : getF f xs with
        | none => trivial
        | some v => cases w2 : getF f ys with
          | none => rw [w1, w2] at k; exact k.elim
          | some w => rw [w1, w2] at k; exact .ok g1 k
    | _ => trivial
  | _ => trivial⟩
instance {tbl : Nat → Option VI} {f : S} [c : CTb tbl] [x : LE ma] : LE (eCon tbl f ma) := ⟨fun r s h σ σ' g a => (x.run r s h σ σ' g a).bind fun r1 s1 h1 v v' e1 g1 q1 => by
  cases q1 with
  | ref p =>
    obtain ⟨o, o', z1, z2, z3⟩ := g1.no p
    dsimp only
    rw [z1, z2]
    cases z3 with
    | @ins d xs ys t =>
      dsimp only
      have k := getF2 (f := f) t
      cases w0 : tbl d with
      | none => trivial
      | some u =>
        cases w1 : getF f xs with
        | some v => trivial
        | none => cases w2 : getF f ys with
          | some _ => rw [w1, w2] at k; exact k.elim
          | none => exact .ok g1 (c.run _ _ w0 _)
    | _ => trivial
  | _ => trivial⟩
instance {tbl : Nat → Option MF} {f : S} [c : LTb tbl] [x : LE ma] [y : LA aa] : LE (eMeth tbl f ma aa) := ⟨fun r s h σ σ' g a => (x.run r s h σ σ' g a).bind fun r1 s1 h1 v v' e1 g1 q1 => by
  cases q1 with
  | ref p =>
    obtain ⟨o, o', z1, z2, z3⟩ := g1.no p
    dsimp only
    rw [z1, z2]
    cases z3 with
    | @ins d xs ys t =>
      dsimp only
      have k := getF2 (f := f) t
      cases w0 : tbl d with
      | none => trivial
      | some u =>
        cases w1 : getF f xs with
        | some v => trivial
        | none => cases w2 : getF f ys with
          | some _ => rw [w1, w2] at k; exact k.elim
          | none => exact (y.run _ _ _ _ _ g1 (a.mono e1)).bind fun r2 s2 h2 w w' e2 g2 q2 => (c.run _ _ w0).run _ _ _ _ _ g2 (.cons (.ref (e2.pre p)) q2)
    | _ => trivial
  | _ => trivial⟩
theorem L2R.okM {r : List Nat} {h : Hi} {a a' : Res VI} (k : L2R RV2 r h a a') : L2R RV2 r h (okM a) (okM a') := by
  cases a with
  | err => trivial
  | ok v s' => obtain ⟨r2, h2, m, rfl, e⟩ := k; exact ⟨r2, h2, m, rfl, e⟩
  | ex c n s' => trivial
instance {tbl : Nat → Option MF} [c : LTb tbl] [x : LE ma] : LE (eProp tbl ma) := ⟨fun r s h σ σ' g a => (x.run r s h σ σ' g a).bind fun r1 s1 h1 v v' e1 g1 q1 => by
  cases q1 with
  | ref p =>
    obtain ⟨o, o', z1, z2, z3⟩ := g1.no p
    dsimp only
    rw [z1, z2]
    cases z3 with
    | @ins d xs ys t =>
      dsimp only
      cases w0 : tbl d with
      | none => trivial
      | some u => exact ((c.run _ _ w0).run _ _ _ _ _ g1 (.cons (.ref p) .nil)).okM
    | _ => trivial
  | _ => trivial⟩
theorem mk2 {f : MF} [x : LF f] {c : Nat} {r : List Nat} {s h : Hi} {vs vs' : List VI} (g : Ag2 r s h) (q : Ex2 r h (r ++ [h.length]) (h ++ [.ins c []]) → RVs2 (r ++ [h.length]) vs vs') :
    L2R RV2 r h (match f vs (s ++ [.ins c []]) with | .ok .non h2 => .ok (.ref s.length) h2 | .ex c n h2 => .ex c n h2 | _ => .err) (match f vs' (h ++ [.ins c []]) with | .ok .non h2 => .ok (.ref h.length) h2 | .ex c n h2 => .ex c n h2 | _ => .err) := by
  obtain ⟨g', e⟩ := g.new (o := .ins c []) (o' := .ins c []) (.ins .nil)
  have k := x.run _ _ _ _ _ g' (q e)
  cases z : f vs (s ++ [.ins c []]) with
  | err => trivial
  | ex d n s2 => rw [z] at k; obtain ⟨r2, h2, m, k1, k2, k3, k4⟩ := k; rw [k1]; exact ⟨r2, h2, m, rfl, e.trans k2, k3, k4⟩
  | ok v s2 =>
    rw [z] at k
    obtain ⟨r2, h2, m, k1, k2, k3, k4⟩ := k
    rw [k1]
    cases k4 with
    | non => exact ⟨r2, h2, _, rfl, e.trans k2, k3, .ref (k2.pre g.idx)⟩
    | _ => trivial
instance {c : Nat} {f : MF} [x : LF f] : LF (mkM c f) := ⟨fun r s h vs vs' g q => mk2 g fun e => .cons (.ref g.idx) (q.mono e)⟩
class LK (k : MK) : Prop where
  run : ∀ r s h vs vs' zs zs', Ag2 r s h → RVs2 r vs vs' → RVs2 r zs zs' → L2R RV2 r h (k vs zs s) (k vs' zs' h)
class LAr (f : List VI → List VI → List VI) : Prop where
  run : ∀ r vs vs' zs zs', RVs2 r vs vs' → RVs2 r zs zs' → RVs2 r (f vs zs) (f vs' zs')
theorem pk32 {r : List Nat} {us us' ms ms' ws ws' : List VI} (a : RVs2 r us us') (b : RVs2 r ms ms') (c : RVs2 r ws ws') (q : Nat × Nat) : ROp2 r (pk3 us ms ws q) (pk3 us' ms' ws' q) := by
  have gt : ∀ {xs ys : List VI} (i : Nat), RVs2 r xs ys → ROp2 r xs[i]? ys[i]? := by
    intro xs ys i t
    cases z : xs[i]? with
    | none => rw [t.none z]; trivial
    | some v => obtain ⟨w, h1, h2⟩ := t.get z; rw [h1]; exact h2
  unfold pk3
  split
  · exact gt _ a
  · exact gt _ b
  · exact gt _ c
theorem arr32 {r : List Nat} {us us' ms ms' ws ws' : List VI} (a : RVs2 r us us') (b : RVs2 r ms ms') (c : RVs2 r ws ws') : ∀ se, RVs2 r (arr3 se us ms ws) (arr3 se us' ms' ws')
  | [] => .nil
  | q :: l => by
    have k := pk32 a b c q
    unfold arr3
    cases z : pk3 us ms ws q with
    | none => rw [z] at k; cases z2 : pk3 us' ms' ws' q with
      | none => exact arr32 a b c l
      | some _ => rw [z2] at k; exact k.elim
    | some v => rw [z] at k; cases z2 : pk3 us' ms' ws' q with
      | none => rw [z2] at k; exact k.elim
      | some w => rw [z2] at k; exact .cons k (arr32 a b c l)
instance {f : MF} {arr : List VI → List VI → List VI} [x : LF f] [y : LAr arr] : LK (fnK f arr) := ⟨fun r s h vs vs' zs zs' g p q => x.run _ _ _ _ _ g (y.run _ _ _ _ _ p q)⟩
instance {c : Nat} {f : MF} {arr : List VI → List VI → List VI} [x : LF f] [y : LAr arr] : LK (mkK c f arr) := ⟨fun r s h vs vs' zs zs' g p q => mk2 g fun e => y.run _ _ _ _ _ (.cons (.ref g.idx) (p.mono e)) (q.mono e)⟩
instance {n m : Nat} {k : MK} [x : LK k] [y : LA aa] [z : LA ab] : LE (eCallK n m k aa ab) := ⟨fun r s h σ σ' g a => (y.run r s h σ σ' g a).bind fun r1 s1 h1 v v' e1 g1 q1 => (z.run _ _ _ _ _ g1 (a.mono e1)).bind fun r2 s2 h2 w w' e2 g2 q2 => by
  rw [q1.length, q2.length]
  split
  · exact x.run _ _ _ _ _ _ _ g2 (q1.mono e2) q2
  · trivial⟩
theorem ins2 {r : List Nat} {s h : Hi} (g : Ag2 r s h) {x y : VI} (p : RV2 r x y) : insC y h = insC x s := by
  cases p with
  | ref i =>
    obtain ⟨o, o', z1, z2, z3⟩ := g.no i
    unfold insC
    dsimp only
    rw [z1, z2]
    cases z3 <;> rfl
  | _ => rfl
instance {tbl : Nat → Option MF} [c : LTb tbl] [x : LE ma] [y : LE mb] : LE (eIxU tbl ma mb) := ⟨fun r s h σ σ' g a => (x.run r s h σ σ' g a).bind fun r1 s1 h1 v v' e1 g1 q1 => (y.run _ _ _ _ _ g1 (a.mono e1)).bind fun r2 s2 h2 w w' e2 g2 q2 => by
  rw [ins2 g2 (q1.mono e2)]
  cases z : insC v s2 with
  | none => exact .ofO (LOp.run (f := fIx) _ _ _ _ _ _ _ g2 (q1.mono e2) q2)
  | some d =>
    dsimp only
    cases w0 : tbl d with
    | none => trivial
    | some u => exact (c.run _ _ w0).run _ _ _ _ _ g2 (.cons (q1.mono e2) (.cons q2 .nil))⟩
theorem putIx2 {r : List Nat} {s h s' : Hi} (g : Ag2 r s h) {x x' y y' z z' : VI} (p : RV2 r x x') (q : RV2 r y y') (k : RV2 r z z') (e : putIx x y z s = some s') : ∃ h', putIx x' y' z' h = some h' ∧ Ex2 r h r h' ∧ Ag2 r s' h' := by
  unfold putIx at e ⊢
  cases p with
  | ref i =>
    obtain ⟨o, o', z1, z2, z3⟩ := g.no i
    dsimp only at e ⊢
    rw [z1] at e
    rw [z2]
    cases z3 with
    | lst t =>
      cases q with
      | int j =>
        dsimp only at e ⊢
        rw [← t.length]
        split at e
        · cases e
          obtain ⟨a, b⟩ := g.wr z1 i (.lst (t.set _ k))
          exact ⟨_, rfl, b, a⟩
        · cases e
      | _ => cases e
    | dic t =>
      dsimp only at e ⊢
      rw [isKey2 q, ← t.length]
      split at e
      · cases e
        obtain ⟨a, b⟩ := g.wr z1 i (.dic (putD2 q k t))
        exact ⟨_, rfl, b, a⟩
      · cases e
    | _ => cases e
  | _ => cases e
theorem nxO2 {r : List Nat} {s h : Hi} {σ σ' : Sg} (g : Ag2 r s h) (as : AS2 r σ σ') {x x' y y' z z' : VI} (p : RV2 r x x') (q : RV2 r y y') (k : RV2 r z z') : L2S r h (nxO σ (putIx x y z s)) (nxO σ' (putIx x' y' z' h)) := by
  cases e : putIx x y z s with
  | none => trivial
  | some s' => obtain ⟨h', e1, e2, e3⟩ := putIx2 g p q k e; rw [e1]; exact ⟨_, _, _, rfl, e2, e3, as.mono e2⟩
instance {tbl : Nat → Option MF} [c : LTb tbl] [x : LE ma] [y : LE mb] : LG (gIxU tbl ma mb) := ⟨fun r s h σ σ' u u' g a q => (x.run r s h σ σ' g a).bindS a fun r1 s1 h1 v v' e1 g1 q1 => (y.run _ _ _ _ _ g1 (a.mono e1)).bindS (a.mono e1) fun r2 s2 h2 w w' e2 g2 q2 => by
  rw [ins2 g2 (q1.mono e2)]
  have a2 := (a.mono e1).mono e2
  cases z : insC v s2 with
  | none => exact nxO2 g2 a2 (q1.mono e2) q2 ((q.mono e1).mono e2)
  | some d =>
    dsimp only
    cases w0 : tbl d with
    | none => trivial
    | some f => exact ((c.run _ _ w0).run _ _ _ _ _ g2 (.cons (q1.mono e2) (.cons q2 (.cons ((q.mono e1).mono e2) .nil)))).dropV a2⟩
instance [x : LE ma] [y : LE mb] : LG (gIx ma mb) := ⟨fun r s h σ σ' u u' g a q => (x.run r s h σ σ' g a).bindS a fun r1 s1 h1 v v' e1 g1 q1 => (y.run _ _ _ _ _ g1 (a.mono e1)).bindS (a.mono e1) fun r2 s2 h2 w w' e2 g2 q2 => nxO2 g2 ((a.mono e1).mono e2) (q1.mono e2) q2 ((q.mono e1).mono e2)⟩
instance {i : Nat} : LG (gNm i) := ⟨fun r s h σ σ' u u' g a q => .nx g (a.set q i)⟩
theorem fld2 {r : List Nat} {s h : Hi} {σ σ' : Sg} {cs : List Nat} {f : S} {x x' y y' : VI} (g2 : Ag2 r s h) (as : AS2 r σ σ') (p : RV2 r x x') (q : RV2 r y y') : L2S r h
    (match (generalizing := false) x with | .ref n => (match (generalizing := false) s[n]? with | some (.ins c fs) => (match (generalizing := false) cs.contains c && Nat.blt fs.length 1000 with | true => .nx σ (s.set n (.ins c (setF f y fs))) | false => .err) | _ => .err) | _ => .err)
    (match (generalizing := false) x' with | .ref n => (match (generalizing := false) h[n]? with | some (.ins c fs) => (match (generalizing := false) cs.contains c && Nat.blt fs.length 1000 with | true => .nx σ' (h.set n (.ins c (setF f y' fs))) | false => .err) | _ => .err) | _ => .err) := by
  cases p with
  | ref i =>
    obtain ⟨o, o', z1, z2, z3⟩ := g2.no i
    dsimp only
    rw [z1, z2]
    cases z3 with
    | ins t =>
      dsimp only
      rw [t.length]
      split
      · obtain ⟨a, b⟩ := g2.wr z1 i (.ins (setF2 q t))
        exact ⟨_, _, _, rfl, b, a, as.mono b⟩
      · trivial
    | _ => trivial
  | _ => trivial
instance {cs : List Nat} {f : S} [x : LE ma] [y : LE mb] : LS (sFldM cs f ma mb) := ⟨fun r s h σ σ' g a => (y.run r s h σ σ' g a).bindS a fun r1 s1 h1 v v' e1 g1 q1 => (x.run _ _ _ _ _ g1 (a.mono e1)).bindS (a.mono e1) fun r2 s2 h2 w w' e2 g2 q2 => fld2 g2 ((a.mono e1).mono e2) q2 (q1.mono e2)⟩
instance {cs : List Nat} {f : S} [x : LE ma] : LG (gFld cs f ma) := ⟨fun r s h σ σ' u u' g a q => (x.run r s h σ σ' g a).bindS a fun r2 s2 h2 w w' e2 g2 q2 => fld2 g2 (a.mono e2) q2 (q.mono e2)⟩
instance [z : LE mc] [x : LE ma] [y : LE mb] : LS (sPut ma mb mc) := ⟨fun r s h σ σ' g a => (z.run r s h σ σ' g a).bindS a fun r0 s0 h0 u u' e0 g0 q0 => (x.run _ _ _ _ _ g0 (a.mono e0)).bindS (a.mono e0) fun r1 s1 h1 v v' e1 g1 q1 => (y.run _ _ _ _ _ g1 ((a.mono e0).mono e1)).bindS ((a.mono e0).mono e1) fun r2 s2 h2 w w' e2 g2 q2 => nxO2 g2 (((a.mono e0).mono e1).mono e2) (q1.mono e2) q2 ((q0.mono e1).mono e2)⟩
instance : LS sNx := ⟨fun r s h σ σ' g a => .nx g a⟩
instance : LS sErr := ⟨fun r s h σ σ' g a => trivial⟩
instance : LT tErr := ⟨fun r s h σ σ' g a => trivial⟩
instance : LS sBk := ⟨fun r s h σ σ' g a => ⟨_, _, _, rfl, .refl, g, a⟩⟩
instance : LS sCt := ⟨fun r s h σ σ' g a => ⟨_, _, _, rfl, .refl, g, a⟩⟩
instance : LS sRetN := ⟨fun r s h σ σ' g a => ⟨_, _, _, rfl, .refl, g, .non⟩⟩
instance [x : LS sa] [y : LS sb] : LS (sSeq sa sb) := ⟨fun r s h σ σ' g a => (x.run r s h σ σ' g a).andThen fun r1 s1 h1 t t' e1 g1 q1 => y.run _ _ _ _ _ g1 q1⟩
instance [x : LE ma] : LS (sRet ma) := ⟨fun r s h σ σ' g a => (x.run r s h σ σ' g a).bindS a fun r1 s1 h1 v v' e1 g1 q1 => ⟨_, _, _, rfl, .refl, g1, q1⟩⟩
instance [x : LE ma] : LS (sDrop ma) := ⟨fun r s h σ σ' g a => (x.run r s h σ σ' g a).bindS a fun r1 s1 h1 v v' e1 g1 q1 => .nx g1 (a.mono e1)⟩
instance [x : LT ta] [y : LS sa] [z : LS sb] : LS (sIf ta sa sb) := ⟨fun r s h σ σ' g a => (x.run r s h σ σ' g a).bindS a fun r1 s1 h1 v v' e1 g1 q1 => by
  subst q1
  cases v with
  | true => exact y.run _ _ _ _ _ g1 (a.mono e1)
  | false => exact z.run _ _ _ _ _ g1 (a.mono e1)⟩
instance [x : LE ma] [y : LG ga] : LS (sAsg ma ga) := ⟨fun r s h σ σ' g a => (x.run r s h σ σ' g a).bindS a fun r1 s1 h1 v v' e1 g1 q1 => y.run _ _ _ _ _ _ _ g1 (a.mono e1) q1⟩
instance {known : Nat → Bool} {i : Nat} {f : MF} [x : LF f] [y : LA aa] : LS (sSuper known i f aa) := ⟨fun r s h σ σ' g a => by
  unfold sSuper
  cases z : σ[i]? with
  | none => trivial
  | some o =>
    cases o with
    | none => trivial
    | some v =>
      obtain ⟨w, k1, k2⟩ := a.at_ i v z
      rw [k1]
      cases k2 with
      | ref p =>
        obtain ⟨o, o', z1, z2, z3⟩ := g.no p
        dsimp only
        rw [z1, z2]
        cases z3 with
        | ins t =>
          dsimp only
          split
          · exact (y.run _ _ _ _ _ g a).bindS a fun r1 s1 h1 v v' e1 g1 q1 => (x.run _ _ _ _ _ g1 (.cons (.ref (e1.pre p)) q1)).dropV (a.mono e1)
          · trivial
        | _ => trivial
      | _ => trivial⟩
instance {i j : Nat} [y : LA aa] : LS (sPar i j aa) := ⟨fun r s h σ σ' g a => (y.run r s h σ σ' g a).bindS a fun r1 s1 h1 v v' e1 g1 q1 => by
  cases q1 with
  | nil => trivial
  | cons p t => cases t with
    | nil => trivial
    | cons q t => cases t with
      | cons _ _ => trivial
      | nil => exact .nx g1 (((a.mono e1).set p i).set q j)⟩
instance {i j l : Nat} [y : LA aa] : LS (sPar3 i j l aa) := ⟨fun r s h σ σ' g a => (y.run r s h σ σ' g a).bindS a fun r1 s1 h1 v v' e1 g1 q1 => by
  cases q1 with
  | nil => trivial
  | cons p t => cases t with
    | nil => trivial
    | cons q t => cases t with
      | nil => trivial
      | cons u t => cases t with
        | cons _ _ => trivial
        | nil => exact .nx g1 ((((a.mono e1).set p i).set q j).set u l)⟩
end
end ML
end
section
set_option maxHeartbeats 400000
namespace ML
open PySem L2
section
variable {ma mb mc : ME} {ta tb : MT} {aa ab : MA} {sa sb : MS} {ga : MG}
instance {T : IsT} [x : LE ma] : LE (eIsi T ma) := ⟨fun r s h σ σ' g a => (x.run r s h σ σ' g a).bind fun r1 s1 h1 v v' e1 g1 q1 => by
  have same : isT T v' h1 = isT T v s1 := by
    unfold isT
    cases q1 with
    | ref i =>
      obtain ⟨o, o', z1, z2, z3⟩ := g1.no i
      dsimp only
      rw [z1, z2]
      cases z3 <;> rfl
    | _ => rfl
  rw [same]
  cases isT T v s1 with
  | none => trivial
  | some b => exact .ok g1 (.bl b)⟩
instance {tbl : S → Option VI} [c : CTs tbl] [x : LE ma] : LE (eKd tbl ma) := ⟨fun r s h σ σ' g a => (x.run r s h σ σ' g a).bind fun r1 s1 h1 v v' e1 g1 q1 => by
  cases q1 with
  | str y =>
    dsimp only
    cases z : tbl y with
    | none => trivial
    | some w => exact .ok g1 (c.run _ _ z _)
  | _ => trivial⟩
instance [x : LE ma] [y : LE mb] : LE (eTupRg ma mb) := ⟨fun r s h σ σ' g a => (x.run r s h σ σ' g a).bind fun r1 s1 h1 v v' e1 g1 q1 => (y.run _ _ _ _ _ g1 (a.mono e1)).bind fun r2 s2 h2 w w' e2 g2 q2 => by
  cases q1 with
  | int i => cases q2 with
    | int j =>
      dsimp only
      split
      · exact .ok g2 (.tup (rgI2 _ _))
      · trivial
    | _ => trivial
  | _ => trivial⟩
instance [x : LE ma] [y : LE mb] : LE (eLstRg ma mb) := ⟨fun r s h σ σ' g a => (x.run r s h σ σ' g a).bind fun r1 s1 h1 v v' e1 g1 q1 => (y.run _ _ _ _ _ g1 (a.mono e1)).bind fun r2 s2 h2 w w' e2 g2 q2 => by
  cases q1 with
  | int i => cases q2 with
    | int j =>
      dsimp only
      split
      · exact .new g2 fun r' e => .lst (rgI2 _ _)
      · trivial
    | _ => trivial
  | _ => trivial⟩
instance [y : LE mb] : LE (eTupRg1 mb) := ⟨fun r s h σ σ' g a => (y.run r s h σ σ' g a).bind fun r2 s2 h2 w w' e2 g2 q2 => by
  cases q2 with
  | int j =>
    dsimp only
    split
    · exact .ok g2 (.tup (rgI2 _ _))
    · trivial
  | _ => trivial⟩
instance [y : LE mb] : LE (eLstRg1 mb) := ⟨fun r s h σ σ' g a => (y.run r s h σ σ' g a).bind fun r2 s2 h2 w w' e2 g2 q2 => by
  cases q2 with
  | int j =>
    dsimp only
    split
    · exact .new g2 fun r' e => .lst (rgI2 _ _)
    · trivial
  | _ => trivial⟩
instance {lo hi : MO} [x : LE ma] [y : LO lo] [z : LO hi] : LE (eSl ma lo hi) := ⟨fun r s h σ σ' g a => (x.run r s h σ σ' g a).bind fun r1 s1 h1 v v' e1 g1 q1 => (y.run _ _ _ _ _ g1 (a.mono e1)).bind fun r2 s2 h2 w w' e2 g2 q2 => (z.run _ _ _ _ _ g2 ((a.mono e1).mono e2)).bind fun r3 s3 h3 u u' e3 g3 q3 => by
  subst q2 q3
  have p := (q1.mono e2).mono e3
  refine .ofO ?_
  unfold sliceM
  cases p with
  | tup t => exact .ok g3 (.tup (cutI2 t _ _))
  | ref i =>
    obtain ⟨o, o', z1, z2, z3⟩ := g3.no i
    dsimp only
    rw [z1, z2]
    cases z3 with
    | lst t => exact .new g3 fun r' e => .lst ((cutI2 t _ _).mono e)
    | scr t => exact .new g3 fun r' e => .lst ((cutI2 t _ _).mono e)
    | _ => trivial
  | _ => trivial⟩
instance [x : LE ma] [y : LE mb] [z : LE mc] : LE (eGet2 ma mb mc) := ⟨fun r s h σ σ' g a => (x.run r s h σ σ' g a).bind fun r1 s1 h1 v v' e1 g1 q1 => by
  cases q1 with
  | ref p =>
    obtain ⟨o, o', z1, z2, z3⟩ := g1.no p
    dsimp only
    rw [z1, z2]
    cases z3 with
    | dic t =>
      dsimp only
      exact (y.run _ _ _ _ _ g1 (a.mono e1)).bind fun r2 s2 h2 w w' e2 g2 q2 => (z.run _ _ _ _ _ g2 ((a.mono e1).mono e2)).bind fun r3 s3 h3 u u' e3 g3 q3 => by
        obtain ⟨o, o', k1, k2, k3⟩ := g3.no (e3.pre (e2.pre p))
        rw [k1, k2, isKey2 q2]
        cases k3 with
        | @dic xs ys t =>
          cases isKey w with
          | false => trivial
          | true =>
            dsimp only
            have k := getD2 (q2.mono e3) t
            cases w1 : getD w xs with
            | none => cases w2 : getD w' ys with
              | none => exact .ok g3 q3
              | some _ => rw [w1, w2] at k; exact k.elim
            | some _ => cases w2 : getD w' ys with
              | none => rw [w1, w2] at k; exact k.elim
              | some _ => rw [w1, w2] at k; exact .ok g3 k
        | _ => cases isKey w <;> trivial
    | _ => trivial
  | _ => trivial⟩
instance : LE eDisp0 := ⟨fun r s h σ σ' g a => .new g fun r' e => .dic .nil⟩
end
end ML
end
section
set_option maxHeartbeats 400000
namespace ML
open PySem L2
inductive RI2 (r : List Nat) : Itm → Itm → Prop
  | tup {xs ys : List VI} (t : RVs2 r xs ys) : RI2 r (.tup xs) (.tup ys)
  | lst {n m : Nat} (p : r[n]? = some m) : RI2 r (.lst n) (.lst m)
  | rng (lo : Int) (k : Nat) : RI2 r (.rng lo k) (.rng lo k)
  | enl {n m : Nat} (p : r[n]? = some m) : RI2 r (.enl n) (.enl m)
  | zip {n m n' m' : Nat} (p : r[n]? = some m) (q : r[n']? = some m') : RI2 r (.zip n n') (.zip m m')
  | zlt {n m : Nat} {xs ys : List VI} (p : r[n]? = some m) (t : RVs2 r xs ys) : RI2 r (.zlt n xs) (.zlt m ys)
class LI (m : MI) : Prop where
  run : ∀ r s h σ σ', Ag2 r s h → AS2 r σ σ' → L2R RI2 r h (m σ s) (m σ' h)
section
variable {r r' : List Nat} {h h' s : Hi}
theorem RI2.mono (e : Ex2 r h r' h') {a b : Itm} (k : RI2 r a b) : RI2 r' a b := by
  cases k with
  | tup t => exact .tup (t.mono e)
  | lst p => exact .lst (e.pre p)
  | rng a b => exact .rng a b
  | enl p => exact .enl (e.pre p)
  | zip p q => exact .zip (e.pre p) (e.pre q)
  | zlt p t => exact .zlt (e.pre p) (t.mono e)
def ROs2 (r : List Nat) : Option (List VI) → Option (List VI) → Prop
  | some a, some b => RVs2 r a b
  | none, none => True
  | _, _ => False
theorem listAt2 (g : Ag2 r s h) {n m : Nat} (p : r[n]? = some m) : ROs2 r (listAt n s) (listAt m h) := by
  obtain ⟨o, o', z1, z2, z3⟩ := g.no p
  unfold listAt
  rw [z1, z2]
  cases z3 with
  | lst t => exact t
  | scr t => exact t
  | _ => trivial
theorem gt2 {xs ys : List VI} (i : Nat) (t : RVs2 r xs ys) : ROp2 r xs[i]? ys[i]? := by
  cases z : xs[i]? with
  | none => rw [t.none z]; trivial
  | some v => obtain ⟨w, h1, h2⟩ := t.get z; rw [h1]; exact h2
def ROO2 (r : List Nat) : Option (Option VI) → Option (Option VI) → Prop
  | some a, some b => ROp2 r a b
  | none, none => True
  | _, _ => False
theorem nxt2 (g : Ag2 r s h) {a b : Itm} (k : RI2 r a b) (i : Nat) : ROO2 r (a.nxt i s) (b.nxt i h) := by
  cases k with
  | tup t => exact gt2 i t
  | @lst n m p =>
    have k := listAt2 g p
    show ROO2 r (match (generalizing := false) listAt n s with | some xs => some xs[i]? | none => none) (match (generalizing := false) listAt m h with | some xs => some xs[i]? | none => none)
    cases z1 : listAt n s with
    | none => cases z2 : listAt m h with
      | none => trivial
      | some _ => rw [z1, z2] at k; exact k.elim
    | some xs => cases z2 : listAt m h with
      | none => rw [z1, z2] at k; exact k.elim
      | some ys => rw [z1, z2] at k; exact gt2 i k
  | rng lo k =>
    unfold Itm.nxt
    dsimp only
    cases Nat.blt i k with
    | true => exact RV2.int (r := r) (lo + (i : Nat))
    | false => trivial
  | @enl n m p =>
    have k := listAt2 g p
    unfold Itm.nxt
    dsimp only
    cases z1 : listAt n s with
    | none => cases z2 : listAt m h with
      | none => trivial
      | some _ => rw [z1, z2] at k; exact k.elim
    | some xs => cases z2 : listAt m h with
      | none => rw [z1, z2] at k; exact k.elim
      | some ys =>
        rw [z1, z2] at k
        have j := gt2 i k
        dsimp only
        cases y1 : xs[i]? with
        | none => cases y2 : ys[i]? with
          | none => trivial
          | some _ => rw [y1, y2] at j; exact j.elim
        | some v => cases y2 : ys[i]? with
          | none => rw [y1, y2] at j; exact j.elim
          | some w => rw [y1, y2] at j; exact RV2.tup (r := r) (.cons (.int _) (.cons j .nil))
  | @zip n m n' m' p q =>
    have k := listAt2 g p
    have k' := listAt2 g q
    unfold Itm.nxt
    dsimp only
    cases z1 : listAt n s with
    | none => cases z2 : listAt m h with
      | none => trivial
      | some _ => rw [z1, z2] at k; exact k.elim
    | some xs => cases z2 : listAt m h with
      | none => rw [z1, z2] at k; exact k.elim
      | some ys =>
        rw [z1, z2] at k
        cases u1 : listAt n' s with
        | none => cases u2 : listAt m' h with
          | none => trivial
          | some _ => rw [u1, u2] at k'; exact k'.elim
        | some xs' => cases u2 : listAt m' h with
          | none => rw [u1, u2] at k'; exact k'.elim
          | some ys' =>
            rw [u1, u2] at k'
            have j := gt2 i k
            have j' := gt2 i k'
            dsimp only
            cases y1 : xs[i]? with
            | none => cases y2 : ys[i]? with
              | none => trivial
              | some _ => rw [y1, y2] at j; exact j.elim
            | some v => cases y2 : ys[i]? with
              | none => rw [y1, y2] at j; exact j.elim
              | some w =>
                rw [y1, y2] at j
                cases x1 : xs'[i]? with
                | none => cases x2 : ys'[i]? with
                  | none => trivial
                  | some _ => rw [x1, x2] at j'; exact j'.elim
                | some v => cases x2 : ys'[i]? with
                  | none => rw [x1, x2] at j'; exact j'.elim
                  | some w =>
                    rw [x1, x2] at j'
                    exact RV2.tup (r := r) (.cons j (.cons j' .nil))
  | @zlt n m xs' ys' p t =>
    have k := listAt2 g p
    unfold Itm.nxt
    dsimp only
    cases z1 : listAt n s with
    | none => cases z2 : listAt m h with
      | none => trivial
      | some _ => rw [z1, z2] at k; exact k.elim
    | some xs => cases z2 : listAt m h with
      | none => rw [z1, z2] at k; exact k.elim
      | some ys =>
        rw [z1, z2] at k
        have k : RVs2 r xs ys := k
        have j := gt2 i k
        have j' := gt2 i t
        dsimp only
        rw [k.length, t.length]
        cases (Nat.ble i ys.length && Nat.ble i ys'.length) with
        | false => trivial
        | true =>
          dsimp only
          cases y1 : xs[i]? with
          | none => cases y2 : ys[i]? with
            | none => trivial
            | some _ => rw [y1, y2] at j; exact j.elim
          | some v => cases y2 : ys[i]? with
            | none => rw [y1, y2] at j; exact j.elim
            | some w =>
              rw [y1, y2] at j
              cases x1 : xs'[i]? with
              | none => cases x2 : ys'[i]? with
                | none => trivial
                | some _ => rw [x1, x2] at j'; exact j'.elim
              | some v => cases x2 : ys'[i]? with
                | none => rw [x1, x2] at j'; exact j'.elim
                | some w =>
                  rw [x1, x2] at j'
                  exact RV2.tup (r := r) (.cons j (.cons j' .nil))
theorem fuel2 (g : Ag2 r s h) {a b : Itm} (k : RI2 r a b) : b.fuel h = a.fuel s := by
  have one : ∀ {n m : Nat}, r[n]? = some m → (match (generalizing := false) listAt m h with | some xs => xs.length | none => 0) = (match (generalizing := false) listAt n s with | some xs => xs.length | none => 0) := by
    intro n m p
    have k := listAt2 g p
    cases z1 : listAt n s with
    | none => cases z2 : listAt m h with
      | none => rfl
      | some _ => rw [z1, z2] at k; exact k.elim
    | some xs => cases z2 : listAt m h with
      | none => rw [z1, z2] at k; exact k.elim
      | some ys => rw [z1, z2] at k; exact k.length.symm
  cases k with
  | tup t => exact t.length.symm
  | lst p => exact one p
  | rng a b => rfl
  | enl p => exact one p
  | zip p q => exact one p
  | zlt p t => exact one p
theorem turns2 {ga : MG} {body : MS} [x : LG ga] [y : LS body] : ∀ (k i : Nat) (r : List Nat) (s h : Hi) (σ σ' : Sg) (a b : Itm), Ag2 r s h → AS2 r σ σ' → RI2 r a b → L2S r h (turns a ga body k i σ s) (turns b ga body k i σ' h)
  | 0, i, r, s, h, σ, σ', a, b, g, as, q => by
    have n := nxt2 g q i
    unfold turns
    cases z1 : a.nxt i s with
    | none => trivial
    | some o => cases z2 : b.nxt i h with
      | none => rw [z1, z2] at n; exact n.elim
      | some o' =>
        rw [z1, z2] at n
        cases o with
        | some _ => trivial
        | none => cases o' with
          | some _ => exact n.elim
          | none => exact .nx g as
  | k + 1, i, r, s, h, σ, σ', a, b, g, as, q => by
    have n := nxt2 g q i
    unfold turns
    cases z1 : a.nxt i s with
    | none => trivial
    | some o => cases z2 : b.nxt i h with
      | none => rw [z1, z2] at n; exact n.elim
      | some o' =>
        rw [z1, z2] at n
        cases o with
        | none => cases o' with
          | some _ => exact n.elim
          | none => exact .nx g as
        | some v => cases o' with
          | none => exact n.elim
          | some v' =>
            refine (x.run _ _ _ _ _ _ _ g as n).andThen fun r1 s1 h1 τ τ' e1 g1 a1 => ?_
            have t := y.run _ _ _ _ _ g1 a1
            cases w : body τ s1 with
            | err => trivial
            | nx σ2 s2 =>
              rw [w] at t
              obtain ⟨r2, h2, σ2', k1, k2, k3, k4⟩ := t
              rw [k1]
              exact (turns2 k (i + 1) _ _ _ _ _ _ _ k3 k4 ((q.mono e1).mono k2)).ext k2
            | ct σ2 s2 =>
              rw [w] at t
              obtain ⟨r2, h2, σ2', k1, k2, k3, k4⟩ := t
              rw [k1]
              exact (turns2 k (i + 1) _ _ _ _ _ _ _ k3 k4 ((q.mono e1).mono k2)).ext k2
            | bk σ2 s2 => rw [w] at t; obtain ⟨r2, h2, σ2', k1, k2⟩ := t; rw [k1]; exact ⟨r2, h2, σ2', rfl, k2⟩
            | rt σ2 s2 => rw [w] at t; obtain ⟨r2, h2, σ2', k1, k2⟩ := t; rw [k1]; exact ⟨r2, h2, σ2', rfl, k2⟩
            | ex c n σ2 s2 => rw [w] at t; obtain ⟨r2, h2, σ2', m, k1, k2⟩ := t; rw [k1]; exact ⟨r2, h2, σ2', m, rfl, k2⟩
instance {mi : MI} {ga : MG} {body : MS} [z : LI mi] [x : LG ga] [y : LS body] : LS (sFor mi ga body) := ⟨fun r s h σ σ' g a => (z.run r s h σ σ' g a).bindS a fun r1 s1 h1 v v' e1 g1 q1 => by
  rw [fuel2 g1 q1]
  exact turns2 _ _ _ _ _ _ _ _ _ g1 (a.mono e1) q1⟩
instance {ma : ME} [x : LE ma] : LI (iSeq ma) := ⟨fun r s h σ σ' g a => (x.run r s h σ σ' g a).bind fun r1 s1 h1 v v' e1 g1 q1 => by
  unfold seqOf
  cases q1 with
  | tup t => exact .ok g1 (.tup t)
  | @ref n m p =>
    have k := listAt2 g1 p
    dsimp only
    cases z1 : listAt n s1 with
    | none => trivial
    | some xs => cases z2 : listAt m h1 with
      | none => rw [z1, z2] at k; exact k.elim
      | some ys => exact .ok g1 (.lst p)
  | _ => trivial⟩
instance {ma : ME} [x : LE ma] : LI (iEnumM ma) := ⟨fun r s h σ σ' g a => (x.run r s h σ σ' g a).bind fun r1 s1 h1 v v' e1 g1 q1 => by
  unfold enlOf
  cases q1 with
  | @ref n m p =>
    have k := listAt2 g1 p
    dsimp only
    cases z1 : listAt n s1 with
    | none => trivial
    | some xs => cases z2 : listAt m h1 with
      | none => rw [z1, z2] at k; exact k.elim
      | some ys => exact .ok g1 (.enl p)
  | _ => trivial⟩
instance {ma : MA} [x : LA ma] : LI (iRng ma) := ⟨fun r s h σ σ' g a => (x.run r s h σ σ' g a).bind fun r1 s1 h1 v v' e1 g1 q1 => by
  cases q1 with
  | nil => trivial
  | cons p t => cases t with
    | nil => cases p with
      | int i =>
        unfold rngOf
        dsimp only
        split
        · exact .ok g1 (.rng _ _)
        · trivial
      | _ => trivial
    | cons q t => cases t with
      | cons _ _ => cases p <;> cases q <;> trivial
      | nil => cases p with
        | int i => cases q with
          | int j =>
            unfold rngOf
            dsimp only
            split
            · exact .ok g1 (.rng _ _)
            · trivial
          | _ => trivial
        | _ => cases q <;> trivial⟩
theorem putMany2 : ∀ (is : List Nat) {xs ys : List VI} {σ σ' τ : Sg}, RVs2 r xs ys → AS2 r σ σ' → putMany is xs σ = some τ → ∃ τ', putMany is ys σ' = some τ' ∧ AS2 r τ τ'
  | [], _, _, _, _, _, .nil, a, e => by cases e; exact ⟨_, rfl, a⟩
  | _ :: is, _, _, _, _, _, .cons p t, a, e => putMany2 is t (a.set p _) e
  | [], _, _, _, _, _, .cons _ _, _, e => by cases e
  | _ :: _, _, _, _, _, _, .nil, _, e => by cases e
theorem put2 (t : Tgt) {v v' : VI} {σ σ' τ : Sg} (p : RV2 r v v') (a : AS2 r σ σ') (e : t.put v σ = some τ) : ∃ τ', t.put v' σ' = some τ' ∧ AS2 r τ τ' := by
  cases t with
  | one i => cases e; exact ⟨_, rfl, a.set p i⟩
  | many is =>
    cases p with
    | tup t => exact putMany2 is t a e
    | _ => cases e
theorem wipe2 {σ σ' : Sg} (a : AS2 r σ σ') : ∀ l : List Nat, AS2 r (wipeM σ l) (wipeM σ' l)
  | [] => a
  | i :: l => (wipe2 a l).lose i
instance {t : Tgt} : LG (gTgt t) := ⟨fun r s h σ σ' v v' g a p => by
  unfold gTgt
  cases z : t.put v σ with
  | none => trivial
  | some τ => obtain ⟨τ', e1, e2⟩ := put2 t p a z; rw [e1]; exact .nx g e2⟩
theorem turnsC2 {t : Tgt} {vs : List Nat} {tt : MT} {el : ME} [x : LT tt] [y : LE el] : ∀ (k i : Nat) (r : List Nat) (s h s' : Hi) (σ σ' : Sg) (a b : Itm) (D D' : Nat), Ag2 r s h → AS2 r σ σ' → RI2 r a b → r[D]? = some D' →
    turnsC a t vs tt el D σ k i s = some s' → ∃ r' h', turnsC b t vs tt el D' σ' k i h = some h' ∧ Ex2 r h r' h' ∧ Ag2 r' s' h'
  | 0, i, r, s, h, s', σ, σ', a, b, D, D', g, as, q, d, e => by
    have n := nxt2 g q i
    unfold turnsC at e ⊢
    cases z1 : a.nxt i s with
    | none => rw [z1] at e; cases e
    | some o =>
      rw [z1] at e n
      cases o with
      | some _ => cases e
      | none => cases z2 : b.nxt i h with
        | none => rw [z2] at n; exact n.elim
        | some o' => cases o' with
          | some _ => rw [z2] at n; exact n.elim
          | none => cases e; exact ⟨r, h, rfl, .refl, g⟩
  | k + 1, i, r, s, h, s', σ, σ', a, b, D, D', g, as, q, d, e => by
    have n := nxt2 g q i
    unfold turnsC at e ⊢
    cases z1 : a.nxt i s with
    | none => rw [z1] at e; cases e
    | some o =>
      rw [z1] at e n
      cases z2 : b.nxt i h with
      | none => rw [z2] at n; exact n.elim
      | some o' =>
        rw [z2] at n
        cases o with
        | none => cases o' with
          | some _ => exact n.elim
          | none => cases e; exact ⟨r, h, rfl, .refl, g⟩
        | some v => cases o' with
          | none => exact n.elim
          | some v' =>
            dsimp only at e ⊢
            cases z3 : t.put v (wipeM σ vs) with
            | none => rw [z3] at e; cases e
            | some τ =>
              obtain ⟨τ', w1, w2⟩ := put2 t n (wipe2 as vs) z3
              rw [z3] at e
              rw [w1]
              dsimp only at e ⊢
              have tk := x.run _ _ _ _ _ g w2
              cases z4 : tt τ s with
              | err => rw [z4] at e; cases e
              | ex _ _ _ => rw [z4] at e; cases e
              | ok c s2 =>
                rw [z4] at tk e
                obtain ⟨r2, h2, c', k1, k2, k3, k4⟩ := tk
                subst k4
                rw [k1]
                cases c with
                | false =>
                  dsimp only at e ⊢
                  obtain ⟨r3, h3, j1, j2, j3⟩ := turnsC2 k (i + 1) _ _ _ _ _ _ _ _ _ _ k3 (as.mono k2) (q.mono k2) (k2.pre d) e
                  exact ⟨r3, h3, j1, k2.trans j2, j3⟩
                | true =>
                  dsimp only at e ⊢
                  have ek := y.run _ _ _ _ _ k3 (w2.mono k2)
                  cases z5 : el τ s2 with
                  | err => rw [z5] at e; cases e
                  | ex _ _ _ => rw [z5] at e; cases e
                  | ok u s3 =>
                    rw [z5] at ek e
                    obtain ⟨r3, h3, u', m1, m2, m3, m4⟩ := ek
                    rw [m1]
                    dsimp only at e ⊢
                    obtain ⟨o, o', v1, v2, v3⟩ := m3.no (m2.pre (k2.pre d))
                    rw [v1] at e
                    rw [v2]
                    cases v3 with
                    | lst l =>
                      dsimp only at e ⊢
                      rw [l.length] at e
                      cases z6 : small _ with
                      | false => rw [z6] at e; cases e
                      | true =>
                        rw [z6] at e
                        dsimp only at e ⊢
                        obtain ⟨g4, e4⟩ := m3.wr v1 (m2.pre (k2.pre d)) (.lst (l.append (.cons m4 .nil)))
                        obtain ⟨r5, h5, j1, j2, j3⟩ := turnsC2 k (i + 1) _ _ _ _ _ _ _ _ _ _ g4 (((as.mono k2).mono m2).mono e4) (((q.mono k2).mono m2).mono e4) (e4.pre (m2.pre (k2.pre d))) e
                        exact ⟨r5, h5, j1, ((k2.trans m2).trans e4).trans j2, j3⟩
                    | _ => cases e
instance {mi : MI} {t : Tgt} {vs : List Nat} {tt : MT} {el : ME} [z : LI mi] [x : LT tt] [y : LE el] : LE (eLc mi t vs tt el) := ⟨fun r s h σ σ' g a => (z.run r s h σ σ' g a).bind fun r1 s1 h1 v v' e1 g1 q1 => by
  obtain ⟨g2, e2⟩ := g1.new (o := .lst []) (o' := .lst []) (.lst .nil)
  rw [fuel2 g1 q1]
  cases w : turnsC v t vs tt el s1.length σ (v.fuel s1) 0 (s1 ++ [.lst []]) with
  | none => trivial
  | some s2 =>
    obtain ⟨r3, h3, j1, j2, j3⟩ := turnsC2 _ _ _ _ _ _ _ _ _ _ _ _ g2 ((a.mono e1).mono e2) (q1.mono e2) g1.idx w
    rw [j1]
    exact ⟨r3, h3, _, rfl, e2.trans j2, j3, .ref (j2.pre g1.idx)⟩⟩
class LPs (ps : List (ME × ME)) : Prop where
  run : ∀ r s h σ σ', Ag2 r s h → AS2 r σ σ' → L2R RKs2 r h (aPairs ps σ s) (aPairs ps σ' h)
instance : LPs [] := ⟨fun r s h σ σ' g a => .ok g .nil⟩
instance {k v : ME} {ps : List (ME × ME)} [x : LE k] [y : LE v] [z : LPs ps] : LPs ((k, v) :: ps) := ⟨fun r s h σ σ' g a => (x.run r s h σ σ' g a).bind fun r1 s1 h1 u u' e1 g1 q1 => (y.run _ _ _ _ _ g1 (a.mono e1)).bind fun r2 s2 h2 w w' e2 g2 q2 => (z.run _ _ _ _ _ g2 ((a.mono e1).mono e2)).bind fun r3 s3 h3 l l' e3 g3 q3 => .ok g3 (.cons ((q1.mono e2).mono e3) (q2.mono e3) q3)⟩
instance {ps : List (ME × ME)} [z : LPs ps] : LE (eDisp ps) := ⟨fun r s h σ σ' g a => by
  obtain ⟨g2, e2⟩ := g.new (o := .dic []) (o' := .dic []) (.dic .nil)
  refine L2R.ext e2 ((z.run _ _ _ _ _ g2 (a.mono e2)).bind fun r1 s1 h1 u u' e1 g1 q1 => ?_)
  have d := e1.pre g.idx
  obtain ⟨o, o', v1, v2, v3⟩ := g1.no d
  rw [v1, v2]
  cases v3 with
  | dic t =>
    cases t with
    | cons _ _ _ => trivial
    | nil =>
      dsimp only
      rw [keysOk2 q1, q1.length]
      split
      · obtain ⟨g4, e4⟩ := g1.wr v1 d (.dic (putAll2 q1 .nil))
        exact ⟨_, _, _, rfl, e4, g4, .ref d⟩
      · trivial
  | _ => trivial⟩
theorem nodup_inj {r : List Nat} (nd : r.Nodup) {i j m : Nat} (p : r[i]? = some m) (q : r[j]? = some m) : i = j := by
  obtain ⟨l1, e1⟩ := List.getElem?_eq_some_iff.mp p
  obtain ⟨l2, e2⟩ := List.getElem?_eq_some_iff.mp q
  have pw := List.pairwise_iff_getElem.mp nd
  rcases Nat.lt_trichotomy i j with l | l | l
  · exact absurd (e1.trans e2.symm) (pw i j l1 l2 l)
  · exact l
  · exact absurd (e2.trans e1.symm) (pw j i l2 l1 l)
theorem beq2 (g : Ag2 r s h) {i j m n : Nat} (p : r[i]? = some m) (q : r[j]? = some n) : Nat.beq m n = Nat.beq i j := by
  by_cases e : i = j
  · subst e
    rw [p] at q
    cases q
    rw [Nat.beq_refl, Nat.beq_refl]
  · have e' : m ≠ n := fun z => e (nodup_inj g.nd p (z ▸ q))
    have f1 : Nat.beq i j = false := by
      cases z : Nat.beq i j with
      | false => rfl
      | true => exact absurd (Nat.eq_of_beq_eq_true z) e
    have f2 : Nat.beq m n = false := by
      cases z : Nat.beq m n with
      | false => rfl
      | true => exact absurd (Nat.eq_of_beq_eq_true z) e'
    rw [f1, f2]
instance {e k v : ME} [x : LE e] [y : LE k] [z : LE v] : LE (eMrg e k v) := ⟨fun r s h σ σ' g a => by
  obtain ⟨g2, e2⟩ := g.new (o := .dic []) (o' := .dic []) (.dic .nil)
  refine L2R.ext e2 ((x.run _ _ _ _ _ g2 (a.mono e2)).bind fun r1 s1 h1 u u' e1 g1 q1 => ?_)
  have d := e1.pre g.idx
  obtain ⟨o, o', v1, v2, v3⟩ := g1.no d
  cases q1 with
  | @ref i j p =>
    dsimp only
    rw [beq2 g1 p d]
    obtain ⟨w, w', u1, u2, u3⟩ := g1.no p
    rw [v1, v2, u1, u2]
    cases Nat.beq i s.length with
    | true => trivial
    | false =>
      cases v3 with
      | dic t =>
        cases t with
        | cons _ _ _ => trivial
        | nil =>
          cases u3 with
          | dic t2 =>
            dsimp only
            rw [t2.length]
            cases small _ with
            | false => trivial
            | true =>
              dsimp only
              obtain ⟨g4, e4⟩ := g1.wr v1 d (.dic (putAll2 t2 .nil))
              obtain ⟨g5, e5⟩ := g4.new (o := .dic []) (o' := .dic []) (.dic .nil)
              have e45 := e4.trans e5
              refine L2R.ext e45 ?_
              have idx := g4.idx
              have D5 := e45.pre d
              unfold mrgTail
              have l1 : ∀ o : OI, (List.set s1 s.length o).length = s1.length := fun o => List.length_set
              have l2 : ∀ o : OI, (List.set h1 h.length o).length = h1.length := fun o => List.length_set
              refine (y.run _ _ _ _ _ g5 (((a.mono e2).mono e1).mono e45)).bind fun r6 s6 h6 ky ky' e6 g6 q6 => (z.run _ _ _ _ _ g6 ((((a.mono e2).mono e1).mono e45).mono e6)).bind fun r7 s7 h7 vz vz' e7 g7 q7 => ?_
              have D7 := e7.pre (e6.pre D5)
              have C7 := e7.pre (e6.pre idx)
              obtain ⟨o1, o1', a1, a2, a3⟩ := g7.no D7
              rw [l1, l2] at C7
              obtain ⟨o2, o2', b1, b2, b3⟩ := g7.no C7
              rw [isKey2 q6, a1, a2, b1, b2]
              cases isKey ky with
              | false => trivial
              | true =>
                cases a3 with
                | dic ta =>
                  cases b3 with
                  | dic tb =>
                    cases tb with
                    | cons _ _ _ => trivial
                    | nil =>
                      dsimp only
                      rw [ta.length]
                      cases small _ with
                      | false => trivial
                      | true =>
                        obtain ⟨g8, e8⟩ := g7.wr b1 C7 (.dic (.cons (q6.mono e7) q7 .nil))
                        have nb : ∃ o, (s7.set s1.length (OI.dic [(ky, vz)]))[s.length]? = some o := by
                          have : s.length < s7.length := (List.getElem?_eq_some_iff.mp a1).1
                          exact ⟨_, List.getElem?_eq_getElem (by simpa using this)⟩
                        obtain ⟨o9, n9⟩ := nb
                        obtain ⟨g9, e9⟩ := g8.wr n9 (e8.pre D7) (.dic (((putD2 (q6.mono e7) q7 ta))))
                        exact ⟨_, _, _, rfl, e8.trans e9, g9, .ref D7⟩
                  | _ => trivial
                | _ => trivial
          | _ => trivial
      | _ => trivial
  | _ => trivial⟩
theorem keysAre2 : ∀ (ks : List S) {xs ys : List (VI × VI)}, RKs2 r xs ys → keysAre ks ys = keysAre ks xs
  | [], _, _, .nil => rfl
  | [], _, _, .cons p _ t => by cases p <;> rfl
  | _ :: _, _, _, .nil => rfl
  | k :: ks, _, _, .cons p _ t => by
    cases p with
    | str s => unfold keysAre; rw [keysAre2 ks t]
    | _ => rfl
instance {ks : List S} {gk : MK} {e : ME} [x : LE e] [y : LK gk] : LE (eKwD ks gk e) := ⟨fun r s h σ σ' g a => by
  obtain ⟨g2, e2⟩ := g.new (o := .dic []) (o' := .dic []) (.dic .nil)
  refine L2R.ext e2 ((x.run _ _ _ _ _ g2 (a.mono e2)).bind fun r1 s1 h1 u u' e1 g1 q1 => ?_)
  have d := e1.pre g.idx
  obtain ⟨o, o', v1, v2, v3⟩ := g1.no d
  cases q1 with
  | @ref i j p =>
    dsimp only
    rw [beq2 g1 p d]
    obtain ⟨w, w', u1, u2, u3⟩ := g1.no p
    rw [v1, v2, u1, u2]
    cases Nat.beq i s.length with
    | true => trivial
    | false =>
      cases v3 with
      | dic t =>
        cases t with
        | cons _ _ _ => trivial
        | nil =>
          cases u3 with
          | dic t2 =>
            dsimp only
            rw [keysAre2 ks t2]
            split
            · obtain ⟨g4, e4⟩ := g1.wr v1 d (.dic (putAll2 t2 .nil))
              exact L2R.ext e4 (y.run _ _ _ _ _ _ _ g4 .nil ((vals2 t2).mono e4))
            · trivial
          | _ => trivial
      | _ => trivial
  | _ => trivial⟩
class LGs (gs : List MG) : Prop where
  run : ∀ r s h σ σ' vs vs', Ag2 r s h → AS2 r σ σ' → RVs2 r vs vs' → L2S r h (gSeq gs vs σ s) (gSeq gs vs' σ' h)
instance : LGs [] := ⟨fun r s h σ σ' vs vs' g a t => by
  cases t with
  | nil => exact .nx g a
  | cons _ _ => trivial⟩
instance {x : MG} {gs : List MG} [p : LG x] [q : LGs gs] : LGs (x :: gs) := ⟨fun r s h σ σ' vs vs' g a t => by
  cases t with
  | nil => trivial
  | cons u t => exact (p.run _ _ _ _ _ _ _ g a u).andThen fun r1 s1 h1 τ τ' e1 g1 a1 => q.run _ _ _ _ _ _ _ g1 a1 (t.mono e1)⟩
instance {gs : List MG} [q : LGs gs] : LG (gTupM gs) := ⟨fun r s h σ σ' v v' g a p => by
  unfold gTupM
  cases p with
  | tup t =>
    dsimp only
    rw [t.length]
    split
    · exact q.run _ _ _ _ _ _ _ g a t
    · trivial
  | _ => trivial⟩
instance {i : Nat} {f : Op2} {e : ME} [x : LOp f] [y : LE e] : LS (sAug i f e) := ⟨fun r s h σ σ' g a => by
  unfold sAug
  cases z : σ[i]? with
  | none => trivial
  | some o =>
    cases o with
    | none => trivial
    | some v =>
      obtain ⟨w, k1, k2⟩ := a.at_ i v z
      rw [k1]
      refine (y.run _ _ _ _ _ g a).bindS a fun r1 s1 h1 u u' e1 g1 q1 => ?_
      have t := x.run _ _ _ _ _ _ _ g1 (k2.mono e1) q1
      cases z2 : f v u s1 with
      | none => trivial
      | some p =>
        rw [z2] at t
        obtain ⟨r2, h2, v', m1, m2, m3, m4⟩ := t
        rw [m1]
        exact ⟨r2, h2, _, rfl, m2, m3, ((a.mono e1).mono m2).set m4 i⟩⟩
theorem endB2 {a a' : RS} (k : L2S r h a a') : L2R RV2 r h (endB a) (endB a') := by
  cases a with
  | err => trivial
  | bk _ _ => trivial
  | ct _ _ => trivial
  | nx σ s => obtain ⟨r2, h2, m, rfl, e, g, _⟩ := k; exact ⟨r2, h2, _, rfl, e, g, .non⟩
  | rt v s => obtain ⟨r2, h2, m, rfl, e, g, q⟩ := k; exact ⟨r2, h2, _, rfl, e, g, q⟩
  | ex c n σ s => obtain ⟨r2, h2, m, m2, rfl, e, g, _, q⟩ := k; exact ⟨r2, h2, _, rfl, e, g, q⟩
theorem slots2 (n : Nat) : ∀ {vs vs' : List VI}, RVs2 r vs vs' → AS2 r (vs.map some ++ List.replicate n none) (vs'.map some ++ List.replicate n none) := by
  intro vs vs' t
  refine ⟨by simp [t.length], fun i v e => ?_⟩
  by_cases hi : i < vs.length
  · rw [List.getElem?_append_left (by simpa using hi), List.getElem?_map] at e
    rw [List.getElem?_append_left (by simpa [← t.length] using hi), List.getElem?_map]
    cases z : vs[i]? with
    | none => rw [z] at e; cases e
    | some u =>
      rw [z] at e
      cases e
      obtain ⟨b, h1, h2⟩ := t.get z
      rw [h1]
      exact ⟨b, rfl, h2⟩
  · rw [List.getElem?_append_right (by simpa using Nat.le_of_not_lt hi), List.getElem?_replicate] at e
    split at e <;> cases e
end
theorem lf_runB {np n : Nat} {b : MS} (x : LS b) : LF (runB np n b) := ⟨fun r s h vs vs' g t => by
  unfold runB
  rw [t.length]
  split
  · exact endB2 (x.run _ _ _ _ _ g (slots2 n t))
  · trivial⟩
end ML
end
section
namespace ML
open PySem L2
theorem ty2 {r : List Nat} {s h : Hi} (g : Ag2 r s h) {x y : VI} (p : RV2 r x y) : tyI y h = tyI x s := by
  cases p with
  | ref i =>
    obtain ⟨o, o', z1, z2, z3⟩ := g.no i
    unfold tyI
    dsimp only
    rw [z1, z2]
    cases z3 <;> rfl
  | _ => rfl
theorem L2R.boolR {r : List Nat} {h : Hi} {a b : Res VI} (k : L2R RV2 r h a b) : L2R RV2 r h (boolR a) (boolR b) := by
  cases a with
  | err => trivial
  | ex c n s' =>
    obtain ⟨r', h', m, rfl, e, g, q⟩ := k
    exact ⟨r', h', m, rfl, e, g, q⟩
  | ok v s' =>
    obtain ⟨r', h', v', rfl, e, g, q⟩ := k
    cases q with
    | bl b => exact ⟨r', h', _, rfl, e, g, .bl b⟩
    | _ => trivial
section
variable {ma mb : ME} {f : Op2}
instance {cs : List Nat} {tbl : Nat → Option MF} [c : LTb tbl] [x : LE ma] [y : LE mb] [o : LOp f] : LE (eCmpU cs tbl f ma mb) := ⟨fun r s h σ σ' g a => (x.run r s h σ σ' g a).bind fun r1 s1 h1 v v' e1 g1 q1 => (y.run _ _ _ _ _ g1 (a.mono e1)).bind fun r2 s2 h2 w w' e2 g2 q2 => by
  rw [ins2 g2 (q1.mono e2), ty2 g2 q2]
  cases z : insC v s2 with
  | none => exact .ofO (o.run _ _ _ _ _ _ _ g2 (q1.mono e2) q2)
  | some d =>
    dsimp only
    cases w0 : tbl d with
    | none => trivial
    | some u =>
      cases w1 : nfI cs (tyI w s2) with
      | false => trivial
      | true => exact ((c.run _ _ w0).run _ _ _ _ _ g2 (.cons (q1.mono e2) (.cons q2 .nil))).boolR⟩
end
end ML
end
section
namespace ML
open PySem L2
section
variable {r : List Nat} {s h : Hi}
theorem flK2 : ∀ {ka kb : List (VI × VI)}, RKs2 r ka kb → flK kb = flK ka
  | _, _, .nil => rfl
  | _, _, .cons _ a t => by simp only [flK, flI2 a, flK2 t]
theorem allK2 {la lb : List (VI × VI)} (q : RKs2 r la lb) (fl : flK la = true) : ∀ {ka kb : List (VI × VI)}, RKs2 r ka kb → flK ka = true → allK lb kb = allK la ka
  | _, _, .nil, _ => rfl
  | _, _, .cons (a := a) (b := b) k p t, f => by
    unfold flK at f
    obtain ⟨f1, f2⟩ := Bool.and_eq_true_iff.mp f
    have g := getD2 k q
    simp only [allK]
    cases z : getD a la with
    | none =>
      rw [z] at g
      cases z2 : getD b lb with
      | none => rfl
      | some w => rw [z2] at g; exact g.elim
    | some u =>
      rw [z] at g
      cases z2 : getD b lb with
      | none => rw [z2] at g; exact g.elim
      | some w =>
        rw [z2] at g
        dsimp only
        rw [eqI2 p g, allK2 q fl t f2]
instance : LOp fEqX := ⟨fun r s h x y x' y' g p q => by
  have old := LOp.run (f := fEq) r s h x y x' y' g p q
  unfold fEqX
  cases p with
  | ref i =>
    cases q with
    | ref j =>
      obtain ⟨o, o', z1, z2, z3⟩ := g.no i
      obtain ⟨u, u', y1, y2, y3⟩ := g.no j
      dsimp only
      rw [z1, z2, y1, y2]
      cases z3 with
      | dic t =>
        cases y3 with
        | dic t' =>
          dsimp only
          rw [flK2 t, flK2 t']
          rename_i ka kb la lb
          cases f : flK ka && flK la with
          | false => trivial
          | true =>
            obtain ⟨f1, f2⟩ := Bool.and_eq_true_iff.mp f
            dsimp only
            rw [← t.length, ← t'.length, allK2 t' f2 t f1]
            exact .ok g (.bl _)
        | _ => exact old
      | _ => exact old
    | _ => exact old
  | _ => exact old⟩
end
end ML
end
section
namespace ML
open PySem PySem.Spec PyProof.Rows L2 He
def okI : VI → Bool
  | .non => true
  | .bl _ => true
  | .int _ => true
  | .str s => PyData.strOk (toStr s)
  | _ => false
def alO : List VI → Bool
  | [] => true
  | y :: r => match okI y with
    | true => alO r
    | false => false
def ixF (y : VI) : List VI → Nat → Option Nat
  | [], _ => none
  | x :: r, j => match eqI x y with
    | true => some j
    | false => ixF y r (j + 1)
def mIndex : OpM := fun x vs h => match x with
  | .ref n => match h[n]? with
    | some (.lst xs) => match vs with
      | [y] => match okI y && alO xs with
        | true => match ixF y xs 0 with
          | some j => some (.int (j : Nat), h)
          | none => none
        | false => none
      | _ => none
    | _ => none
  | _ => none
section
variable {G : Gx} {ρ : List Addr} {h : Hi} {H : Hp} {X : Cx}
end
section
variable {r : List Nat}
theorem okI2 {a b : VI} (p : RV2 r a b) : okI b = okI a := by cases p <;> rfl
theorem alO2 : ∀ {xs ys : List VI}, RVs2 r xs ys → alO ys = alO xs
  | _, _, .nil => rfl
  | _, _, .cons q t => by unfold alO; rw [okI2 q, alO2 t]
theorem ixF2 {a b : VI} (p : RV2 r a b) : ∀ {xs ys : List VI} (k : Nat), RVs2 r xs ys → ixF b ys k = ixF a xs k
  | _, _, _, .nil => rfl
  | _, _, _, .cons q t => by unfold ixF; rw [eqI2 q p, ixF2 p _ t]
end
instance : LOm mIndex := ⟨fun r s h x x' vs vs' g p t => by
  unfold mIndex
  cases p with
  | ref i =>
    obtain ⟨o, o', e1, e2, e3⟩ := g.no i
    dsimp only
    rw [e1, e2]
    cases e3 with
    | lst l =>
      cases t with
      | nil => trivial
      | cons q t =>
        cases t with
        | cons _ _ => trivial
        | nil =>
          dsimp only
          rw [okI2 q, alO2 l, ixF2 q 0 l]
          split
          · split
            · exact .ok g (.int _)
            · trivial
          · trivial
    | _ => trivial
  | _ => trivial⟩
end ML
end
section
namespace PySem.W
open PySem PyProof.Rows
section
variable {prog : Program} {w : World} {A A₀ : Around} {E : Value → Shared → Prop} {s : Shared} {K : Frag} {x C L f : Addr} {h₀ : Heap} {m : Str → Option Value} {ox : Obj} {od : Option Obj} {name : Str} {b tb : Value}
end
end PySem.W
namespace ML
open PySem PySem.Spec PyProof.Rows L2 He
def negR : Res VI → Res VI
  | .ok (.bl b) h => .ok (.bl (!b)) h
  | .ex c n h => .ex c n h
  | _ => .err
def eNeU (cs : List Nat) (tbl : Nat → Option MF) (f : Op2) (a b : ME) : ME := fun σ h => (a σ h).bind fun x h1 => (b σ h1).bind fun y h2 => match insC x h2 with
  | some c => match tbl c, nfI cs (tyI y h2) with
    | some g, true => negR (g [x, y] h2)
    | _, _ => .err
  | none => ofO (f x y h2)
section
variable {G : Gx} {ρ : List Addr} {h : Hi} {H : Hp} {W : WX} {X : Cx} {A : Around} {e a b c o i v : Expr} {es : List Expr} {pos p pos' apos : Pos} {me mi mo ma mb mv : ME} {mr : MA} {tbl : Nat → Option MF} {σ : L2.St} {cs : List Nat} {f : Op2}
end
section
variable {K : PySem.W.Frag} {mg : Str → Option Value} {nm : Nat → Option Str}
end
end ML
end
section
namespace ML
open PySem PySem.Spec PyProof.Rows L2 He
structure StatOk (K : PySem.W.Frag) (C : Addr) (m : Str) (p f : Addr) : Prop where
  rd : PySem.W.readsIn K C (.type "type") = true
  ga : PySem.W.specialIn K (.ref C) "__getattribute__" = some (some (.builtin "type.__getattribute__"))
  at_ : PySem.W.findCls K (.ref C) (.type "type") m = some (.get (.builtin "staticmethod.__get__") (.ref p) .none (.ref C))
  rc : ∃ rest, PySem.W.recIn K p "staticmethod" = some (.ref f :: rest)
section
variable {G : Gx} {W : WX} {X : Cx} {e : Expr} {es : List Expr} {ma : MA} {x m : Str} {C p f : Addr} {g : MF} {p0 apos pos : Pos} {pl : Sem Bool}
end
end ML
end
section
namespace PySem.W
open PySem PyProof.Rows
section
variable {prog : Program} {w : World} {A : Around} {E : Value → Shared → Prop} {s : Shared} {K : Frag} {x C f : Addr} {ox : Obj} {od : Option Obj} {name : Str}
end
end PySem.W
namespace ML
open PySem PySem.Spec PyProof.Rows L2 He
def lenR : Res VI → Res VI
  | .ok (.int n) h => match decide (0 ≤ n) && decide (n < 2 ^ 62) with
    | true => .ok (.int n) h
    | false => .err
  | .ex c n h => .ex c n h
  | _ => .err
def eLenU (tbl : Nat → Option MF) (a : ME) : ME := fun σ h => (a σ h).bind fun x h1 => match insC x h1 with
  | some c => match tbl c with
    | some g => lenR (g [x] h1)
    | none => .err
  | none => ofO (cLen [x] h1)
section
variable {G : Gx} {ρ : List Addr} {h : Hi} {H : Hp} {W : WX} {X : Cx} {a : Expr} {pos p : Pos} {ma : ME} {tbl : Nat → Option MF} {σ : L2.St}
end
end ML
end
section
namespace ML
open PySem PyProof.Rows
section
variable {prog : Program} {w : World} {A : Around} {E : Value → Shared → Prop} {s : Shared}
end
end ML
namespace ML
open PySem PyProof.Rows
section
variable {prog : Program} {w : World} {A : Around} {E : Value → Shared → Prop} {s : Shared}
end
end ML
namespace ML
open PySem PySem.Spec PyProof.Rows L2 He
def insI (x : Int) : List Int → List Int
  | [] => [x]
  | y :: r => match decide (x ≤ y) with
    | true => x :: y :: r
    | false => y :: insI x r
def srtI : List Int → List Int
  | [] => []
  | x :: r => insI x (srtI r)
def intsI : List VI → Option (List Int)
  | [] => some []
  | .int i :: r => match intsI r with
    | some l => some (i :: l)
    | none => none
  | _ :: _ => none
def cSortK : OpC := fun vs h => match vs with
  | [.tup xs] => match intsI xs with
    | some l => some (.ref h.length, h ++ [.lst ((srtI l).map .int)])
    | none => none
  | [.ref n] => match h[n]? with
    | some (.lst xs) => match intsI xs with
      | some l => some (.ref h.length, h ++ [.lst ((srtI l).map .int)])
      | none => none
    | some (.scr xs) => match intsI xs with
      | some l => some (.ref h.length, h ++ [.lst ((srtI l).map .int)])
      | none => none
    | _ => none
  | _ => none
section
variable {G : Gx} {ρ : List Addr} {h : Hi} {H : Hp}
end
section
variable {G : Gx} {W : WX} {X : Cx} {e : Expr} {es : List Expr} {mr : MA} {p p2 kp pos : Pos}
end
end ML
end
section
namespace ML
open PySem PyProof.Rows
section
variable {prog : Program} {w : World} {A : Around} {E : Value → Shared → Prop} {s : Shared}
end
section
open PySem.Spec L2 He
variable {G : Gx} {W : WX} {X : Cx} {e : Expr} {es : List Expr} {mr : MA} {p p2 kp pos : Pos}
end
end ML
end
section
namespace ML
open PySem L2 NdefX
open PyProof.Rows hiding wpAt
structure SupX (X : Cx) (C : Addr) : Prop where
  cd : ∃ cd, PySem.W.clsIn X.K C = some cd
  mro : PySem.W.mroIn X.K C (.ref C) = some true
  sup : PySem.W.ks_superIn X.K C C "__init__" = some (some (.builtin "ValueError.__init__"))
  sub : PySem.W.subIn X.K (.ref C) (.type "ValueError") = some true
structure SupD (X : Cx) (f D : Addr) (slf : Str) : Prop where
  fn : X.env.func = some f
  at_ : ∃ (o : Obj) (fd : FuncData) (ar : Arg), X.K.lookup f = some o ∧ o.data = .func fd ∧ (fd.params.posonlyargs ++ fd.params.args).head? = some ar ∧ ar.arg = slf
  code : ∃ (c : Addr) (o : Obj) (vs : Array Value) (file : Str) (tf : Tok), X.env.code = .ref c ∧ X.K.lookup c = some o ∧ o.data = .fields vs ∧ vs[2]? = some (.str file tf) ∧ ((X.prog.main.file : Str) == file) = true
  top : (X.prog.main.scope.names.lookup ("super" : Str)).isSome = false
  any : PySem.W.nsIn X.K cStatics "thirdparty.any" = some none
def tSupX (X : Cx) (j i : Nat) (D : Addr) (ta : TA) : TS := fun Dn σ H => σ[j]? = some (some (.ref D)) ∧ ∃ a, σ[i]? = some (some (.ref a)) ∧ H a = some (exo a D none) ∧ OexC X.K D ∧ SupX X D ∧
  ta σ H fun vs H1 => vs.length ≤ 1000 ∧ H1 a = some (exo a D none) ∧ Dn.nx σ H1
theorem init_bw {X : Cx} {pins : List (Addr × Obj)} {σ : L2.St} {H : Hp} {s : Shared} {A : Around} {E : Value → Shared → Prop} {b a C : Addr} {us : List Value} {Q : Value → Shared → Prop} (T : OexC X.K C) (I : Inv X pins σ H s) (e : H a = some (exo a C none)) (hb : s.heap.get? b = some (PySem.W.kxs_mw "ValueError.__init__" a)) (hl : us.length ≤ sizeLine)
    (h : ∀ s', Inv X pins σ H s' → Q .none s') : wpAny (model X.prog X.w) A (call (.ref b) us) Q E s := by
  obtain ⟨nm, q, N, bs, bm, sn, sub, ab, col, dd, k0, k1, k2, k3, k5, hC, hbm⟩ := T.cls
  obtain ⟨t1, ho⟩ := exo_at I.hok e
  have hC' := I.kIn _ _ hC
  obtain ⟨hh, g, d, tk, os⟩ := s
  have fin : ∀ h', (∀ b o, b ≠ a → hh.get? b = some o → h'.get? b = some o) → h'.get? a = some ({ cls := .ref C, dict := none, data := .fields #[.ref hh.objs.size, .none, .none, .none, .bool false, .none] } : Obj) → Q .none ⟨h', g, d, tk, os⟩ := fun h' k hx => by
    have J := I.write (t' := tk) (x := a) (e := a) (o := exo a C none) (by rw [e]; exact True.intro) (.inl rfl) k ⟨_, hx⟩ (exo_ok hx)
    have eu : upd H a (exo a C none) = H := by
      funext b
      by_cases hb : b = a
      · rw [hb, upd_same, e]
      · rw [upd_ne hb]
    rw [eu] at J
    exact h _ J
  refine wpAny_call (codeAny_of_tree ?_)
  show wpAny _ A.in1 (callAny (.ref b) ⟨us, []⟩) _ _ _
  simp only [callAny]
  refine wpAny_bind (wpAny_load hb ?_)
  simp only [PySem.W.kxs_mw, show (Value.type "method-wrapper" == Value.type "method" || Value.type "method-wrapper" == Value.type "builtin_function_or_method" || Value.type "method-wrapper" == Value.type "method-wrapper") = true by decide, if_true]
  refine PySem.W.KFB.if_so (by decide) ?_
  refine wpAny_bind (PySem.W.check_bound_init F.excBase_ValueError.toExcCallFacts hC' ho rfl ?_)
  refine wpAny_bind (wpAny_pure (wpAny_pure ?_))
  refine ⟨plainId_quiet F.excBase_ValueError.init.plain _, codeAny_builtin F.excBase_ValueError.initEntry ?_⟩
  exact PySem.W.exc_init_tree (cls := .ref C) (t0 := t1) (dv := none) (c2 := .none) (c3 := .none) (b4 := .bool false) ho hl fun h' k hx _ => fin h' k hx
section
variable {X : Cx} {body : List Stmt} {f D : Addr} {slf : Str} {i j : Nat} {e : Expr} {es : List Expr} {ta : TA} {p0 p1 apos cpos spos : Pos}
theorem pst_superX (S : SupD X f D slf) (hks : Gl X "super") (hm : X.mg "super" = none) (hkc : X.env.kindOf "__class__" = some .free) (hNc : X.N[j]? = some "__class__") (hvc : Vis X.env.scope "__class__")
    (hNs : X.N[i]? = some slf) (hvs : Vis X.env.scope slf) (hcs : (slf == ("__classdict__" : Str)) = false) (ha : PA X (e :: es) ta) (hi : interactive X.env = false)
    (hst : starEach (e :: es) X.env = (false, eval e X.env) :: starEach es X.env := by rfl) (hpl : (backTo cpos (starEach es X.env)).any (·.1) = false := by rfl)
    (hsw : swapsWith (.Call (.Attribute (.Call (.Name "super" p0) [] [] p1) "__init__" apos) (e :: es) [] cpos) none spos.line X.env = pure false := by rfl)
    (ht : eval (.Call (.Attribute (.Call (.Name "super" p0) [] [] p1) "__init__" apos) (e :: es) [] cpos) X.env = (do
      let ov ← attributeBase (.Call (.Name "super" p0) [] [] p1) "__init__" X.env (eval (.Call (.Name "super" p0) [] [] p1) X.env)
      standAt apos.atName
      let (f, first) ← holding [ov] (getMethod ov "__init__" (pure false))
      callWith cpos f first (backTo cpos (starEach (e :: es) X.env)) []) := by rfl) :
    PST X body (.Expr (.Call (.Attribute (.Call (.Name "super" p0) [] [] p1) "__init__" apos) (e :: es) [] cpos) spos) (tSupX X j i D ta) := by
  refine ⟨fun pins s σ H Dn I ⟨hD, a, hxs, hH, T, SX, hta⟩ => ?_⟩
  obtain ⟨t1, hoa⟩ := exo_at I.hok hH
  have J : PySem.W.InstAt s.heap a { cls := .ref D, dict := none, data := .fields #[.ref t1, .none, .none, .none, .bool false, .none] } D none := ⟨hoa, rfl, rfl, trivial⟩
  obtain ⟨of, fd, ar, hf1, hf2, hf3, hf4⟩ := S.at_
  obtain ⟨cc, oc, vs, file, tf, hc1, hc2, hc3, hc4, hc5⟩ := S.code
  obtain ⟨cdD, hcD⟩ := SX.cd
  have KX := I.kIn
  refine ks_wpAt_Expr_any (ks_wpAt_MethodCall (args := e :: es) (pl := pure false) ?_ ht) hi hsw
  refine ks_wpAt_super_base hks hkc rfl S.fn (KX _ _ hf1) hf2 hf3 hc1 (KX _ _ hc2) hc3 hc4 hc5 S.top ?_
  refine load_blt I hks hm boot_super (by decide +kernel) ⟨rfl, ?_⟩
  refine load_slot I hNc hD hvc (by decide) fun u ru => ?_
  obtain rfl : u = Value.ref D := ru
  rw [hf4]
  refine load_slot I hNs hxs hvs hcs fun u2 ru2 => ?_
  obtain rfl : u2 = Value.ref a := ru2
  obtain ⟨hD1o, hD1, hD2⟩ : ∃ oD, s.heap.get? D = some oD ∧ oD.data = .cls cdD := by
    unfold PySem.W.clsIn at hcD
    split at hcD
    · rename_i c' d' cd' sl' ho
      cases hcD
      exact ⟨_, KX _ _ ho, rfl⟩
    · cases hcD
  have hxC : a ≠ D := PySem.W.ks_ne KX J hcD
  obtain ⟨hh, gg, dd, tt, os⟩ := s
  refine PySem.ks_wpAny_isType_cls hD1 hD2 ⟨rfl, ?_⟩
  refine PySem.ks_wpAny_call_super hD1 hD2 J.at_ J.cls (fun c' e' => ?_) (PySem.W.looks_mroIn KX SX.mro) (fun h' eq kp => ?_)
  · cases e'
  have I2 : Inv X pins σ H ⟨h', gg, dd, tt, os⟩ := Inv.kept (s := ⟨hh, gg, dd, tt, os⟩) (t' := tt) I kp
  have KX2 := I2.kIn
  have hsup := SX.sup
  unfold PySem.W.ks_superIn at hsup
  rw [hcD] at hsup
  have hmr : PySem.W.Looks (model X.prog X.w) h' (mroOf (.ref D)) cdD.mro := fun A Q E s k q => wpAny_bind ((PySem.W.looks_clsIn KX2 hcD) A _ E s k (wpAny_pure q))
  have J2 : PySem.W.InstAt h' a { cls := .ref D, dict := none, data := .fields #[.ref t1, .none, .none, .none, .bool false, .none] } D none := ⟨kp _ _ hoa, rfl, rfl, trivial⟩
  have hI : PySem.W.Looks (model X.prog X.w) h' (isInstance (.ref a) (.type "ValueError")) true := J2.type.andThen (PySem.W.looks_subIn KX2 SX.sub)
  refine PySem.W.kxs_getMethod PySem.W.kxs_ValueError eq (PySem.W.looks_opaque KX2 S.any) hmr rfl KX2 hsup hI hxC rfl ?_
  have I3 : Inv X ((h'.objs.size, PySem.W.kxs_mw "ValueError.__init__" a) :: pins) σ H ⟨h'.push (PySem.W.kxs_mw "ValueError.__init__" a), gg, dd, tt + 1, os⟩ :=
    ClX.pin_new I2 (fun _ _ z => Heap.get?_push_of_some _ z) (Nat.le_refl _) (Heap.get?_push_size h' rfl) (fun v z => nomatch z)
  generalize h'.objs.size = b at I3 ⊢
  refine thn (Q := EP X pins σ fun _ H' => Dn.nx σ H') ?_ fun v s' ⟨z, H', I', _, q⟩ => ⟨σ, H', I', q⟩
  show wpAny _ _ (callWith cpos (.ref b) [] (backTo cpos (starEach (e :: es) X.env)) []) _ _ _
  have run := ha.run cpos _ _ σ H _ I3 hta
  rw [hst] at run ⊢
  refine PySem.W.kxs_callWith (i := "ValueError.__init__") (x := a) (by show (false || (backTo cpos (starEach es X.env)).any (·.1)) = false; rw [hpl]; rfl)
    (Calls.evalArgs_plain (thn run fun us s4 ⟨vs, H4, I4, r4, hl4, ea4, q4⟩ => ?_))
  have hb4 : s4.heap.get? b = some (PySem.W.kxs_mw "ValueError.__init__" a) := ClX.pin_at I4
  refine ⟨hb4, ?_⟩
  have I5 : Inv X pins σ H4 s4 := ClX.unpin I4
  refine init_bw T I5 ea4 hb4 (by show us.length ≤ sizeLine; rw [← r4.length, sizeLine_eq]; omega) fun s5 I6 => ⟨.non, H4, I6, rfl, q4⟩
end
theorem psst_cons {X : Cx} {body : List Stmt} {st : Stmt} {rest : List Stmt} {t1 t2 : TS} (h : PST X body st t1) (h2 : PSs X rest t2) : PSsT X body (st :: rest) (fun D σ H => t1 { D with nx := fun σ' H' => t2 D σ' H' } σ H) := ⟨fun pins s σ H D I q => by
  refine ks_wpAt_execs_cons (ks_wpAt_mono (h.run pins s σ H _ I q) (fun fl s' q => ?_) fun _ _ z => z)
  cases fl with
  | next => obtain ⟨σ', H', J, q⟩ := q; exact wpAt_of_wpAny (h2.run pins s' σ' H' D J q)
  | ret u => exact q
  | brk => exact q
  | cont => exact q⟩
def spI (D : Addr) (fld : Str) : Sp := fun vs H Q _ => ∃ a y, vs = [.ref a, y] ∧ H a = some (exo a D none) ∧ ∀ dx, H dx = none → dx ≠ a → Q .non (upd (upd H dx (exd dx [(fld, y)])) a (exo a D (some dx)))
def tIni (X : Cx) (D : Addr) (m fld : Str) : TS := fun Dn σ H => tSupX X 2 0 D (tCons (tC (.str m)) tNil) { Dn with nx := fun σ' H' => tOst X.K fld (tVar 0) (tVar 1) Dn σ' H' } σ H
section
variable {P : Program} {w : World} {K : PySem.W.Frag} {mg : Str → Option Value} {base : Heap} {x qual m fld par : Str} {params : Arguments} {body : List Stmt} {scope : Scope} {dvs : List V} {kws : List (Str × V)} {f cc D c : Addr} {fd : FuncData} {file : Str} {N : List Str} {k : Nat}
theorem exFn (F : FunS K x qual params body scope dvs kws f fd cc D c file) (S : NScope ["self", par, "__class__"] ["self", par] ["__class__"] scope) (T : OexC K D) (hno : PySem.W.findIn K (.ref D) fld = some none)
    (SX : ∀ (A : Around) (outer : List Env) (s : Shared) (H : Hp) (E : XK), SupX (ncx (L2.CX P w) P w K mg base ["self", par, "__class__"] (nfS x qual params body scope cc c) f A outer s H E) D)
    (hb : ∀ (A : Around) (outer : List Env) (s : Shared) (H : Hp) (E : XK), PSsT (ncx (L2.CX P w) P w K mg base ["self", par, "__class__"] (nfS x qual params body scope cc c) f A outer s H E) body body
      (tIni (ncx (L2.CX P w) P w K mg base ["self", par, "__class__"] (nfS x qual params body scope cc c) f A outer s H E) D m fld)) : FnOk P w K mg base (L2.CX P w) (k + 1) f fd ["self", par] (spI D fld) :=
  F.ok S (fun vs H Q E ⟨a, y, e, _⟩ => by rw [e] <;> rfl) fun A outer s H vs Q E hr ⟨a, y, e, h1, h2⟩ => by
    subst e
    refine ⟨_, hb A outer s H E, rfl, a, rfl, h1, T, SX A outer s H E, ?_⟩
    refine ⟨by simp, h1, ?_⟩
    exact ⟨y, rfl, .ref a, rfl, a, D, rfl, T, hno, .inl ⟨h1, fun dx n ne => h2 dx n ne⟩⟩
end
end ML
end
section
namespace ML
open PySem PySem.Spec PyProof.Rows L2 He
abbrev goneE (D : Ends) (i : Nat) : Ends := { nx := fun σ' H' => D.nx (σ'.set i none) H', rt := D.rt, bk := fun σ' H' => D.bk (σ'.set i none) H', ct := fun σ' H' => D.ct (σ'.set i none) H' }
def wManyA (K : PySem.W.Frag) (Wout : WX) (D : Ends) : List (Value × Nat × (Addr → Value → Option Addr → TS)) → WX
  | [] => Wout
  | (c, i, ts) :: r => fun cls d σ H => ∃ b, PySem.W.exmOne K cls c = some b ∧ (b = true → ∀ a, H a = none → ts a cls d (goneE D i) (σ.set i (some (.ref a))) H) ∧ (b = false → wManyA K Wout D r cls d σ H)
inductive HdsA (X : Cx) : List ExceptHandler → List (Value × Nat × (Addr → Value → Option Addr → TS)) → Prop
  | nil : HdsA X [] []
  | cons {x n : Str} {i : Nat} {c : Value} {ts : Addr → Value → Option Addr → TS} {b₀ : Stmt} {suite : List Stmt} {np pos' : Pos} {hds : List ExceptHandler} {l : List (Value × Nat × (Addr → Value → Option Addr → TS))} (hc : Names X x c)
      (hi : X.N[i]? = some n) (hln : X.env.kindOf n = some .local)
      (hsu : ∀ (a : Addr) (oe : Obj) (cls : Value) (d : Option Addr) (pn : List (Addr × Obj)), Zc cls d oe → (∃ vs, oe.data = .fields vs) → PSs (X.suite a ((a, oe) :: pn)) (b₀ :: suite) (ts a cls d)) (r : HdsA X hds l) :
      HdsA X (.ExceptHandler (some (.Name x np)) (some n) (b₀ :: suite) pos' :: hds) ((c, i, ts) :: l)
section
variable {X : Cx} {body : List Stmt} {h₀ : ExceptHandler} {hds : List ExceptHandler} {l : List (Value × Nat × (Addr → Value → Option Addr → TS))} {pos : Pos} {tb : WX → TS} {Wout : WX}
theorem ps_try_asMany (hs : X.stack = X.env :: X.outer) (hf : X.env.frame = some X.env.locals) (hN : X.N.Nodup) (tk : Takes X Wout)
    (hb : ∀ (W : WX) (pn : List (Addr × Obj)) (xe : Value → Shared → Prop), Takes (X.tr pn xe) W → PassesOwn (model X.prog X.w) X.A X.env xe → PSs (X.tr pn xe) body (tb W))
    (hh : HdsA X (h₀ :: hds) l) : PS X (.Try body (h₀ :: hds) [] [] pos) (fun D σ H => tb (wManyA X.K Wout D l) D σ H) := by
  refine ⟨fun pins s σ H D I h => ?_⟩
  have ok := I.ok
  have hfr : X.A.frames = some (X.env :: X.outer) := by rw [ok.frames, hs]
  refine wpAny_Try_except ?_
  refine wpAny_mono ((hb (wManyA X.K Wout D l) (X.pn ++ pins) (fun e s₁ => wpAny (model X.prog X.w) X.A (noteFrame e X.env) (fun _ s₂ => wpAny (model X.prog X.w) X.A (setFlight e none) (fun _ s₃ =>
    wpAny (model X.prog X.w) X.A (handleBy e X.env (h₀ :: hds)) (SP X pins D) X.xe s₃) X.xe s₂) X.xe s₁) (fun u s' xx => ?_) PassesOwn.looking).run [] s σ H D (I.toTry _) h) (fun f s1 hsp => ?_) (fun e s1 he => he)
  · -- the catch
    obtain ⟨a, B, sI, pins', σ', H', cls, d, rfl, J', nb, up, sky, na, os, ag, w⟩ := xx
    have J : Inv X pins σ' H' sI := J'.ofTry ok
    have sky' : Sky B (X.env :: X.outer) a (Zc cls d) X.env.locals s'.heap := by rw [← hs]; exact sky
    show wpAny (model X.prog X.w) X.A (noteFrame (.ref a) X.env) _ _ _
    refine Sky.land Zc.steady hfr hf sky' fun h3 fl3 up3 => ?_
    have J3 : Inv X pins σ' H' { s' with heap := h3 } := J.landed nb fl3.1 (up.trans up3) os ag
    obtain ⟨oe3, vs3, he3, hz3, hd3⟩ := fl3.there
    have notFr : ∀ {h : Heap} {o : Obj} {vs : Array Value}, h.FunFrames B (X.env :: X.outer) → h.get? a = some o → o.data = .fields vs → a ∉ frs (X.env :: X.outer) := fun {h o vs} ff e dd hm => by
      obtain ⟨_, o', e', hnf⟩ := ff.mem hm
      rw [e] at e'; cases e'
      exact hnf _ dd
    have nfr := notFr fl3.2.2.1 he3 hd3
    have nL : a ≠ X.env.locals := fun z => nfr (List.mem_filterMap.mpr ⟨X.env, List.mem_cons_self, by rw [hf, z]⟩)
    have nF : a ∉ X.fs := fun hm => by
      obtain ⟨e, he, q⟩ := List.mem_filterMap.mp hm
      exact nfr (List.mem_filterMap.mpr ⟨e, List.mem_cons_of_mem _ he, q⟩)
    have S3 := J3.suite he3 hd3 na nL nF
    have go : ∀ {hds' : List ExceptHandler} {l' : List (Value × Nat × (Addr → Value → Option Addr → TS))}, HdsA X hds' l' → wManyA X.K Wout D l' cls d σ' H' →
        wpAny (model X.prog X.w) X.A (handleBy (.ref a) X.env hds') (SP X pins D) X.xe { s' with heap := h3 } := by
      intro hds' l' hk
      induction hk with
      | nil =>
        intro w
        refine wpAny_handleBy_nil ?_
        obtain ⟨k1, k2, k3, oe, vs, T, oT, ts', he, hz, hd, h1, hr⟩ := id fl3
        unfold PySem.passOn
        refine wpAny_bind (wpAny_field he hd h1 ?_)
        rw [if_neg (show ¬ ((Value.ref T == Value.none) = true) from by simp)]
        have fin : wpAny (model X.prog X.w) X.A (setFlight (.ref a) X.env.frame) (fun _ s4 => wpAny (model X.prog X.w) X.A (throw (.ref a) : Sem Flow) (SP X pins D) X.xe s4) X.xe { s' with heap := h3 } := by
          rw [hf]
          refine HandSPX.setFlight_upZ fl3 fun h4 hh4 up4 => wpAny_throw (tk _ _ ?_)
          exact ⟨a, B, sI, pins, σ', H', cls, d, rfl, J, nb, (up.trans up3).trans up4, .inr (.inr (by rw [hs]; exact hh4)), na, os, ag, w⟩
        first
          | exact wpAny_bind (wpAny_pure (wpAny_bind fin))
          | exact wpAny_bind fin
      | @cons x n i c ts b₀ suite np pos' hds2 l2 hc hi hln hsu r ih =>
        intro w
        obtain ⟨b, hb1, hyes, hno⟩ := w
        have hloc : Loc X.env.scope n := .inl hln
        refine wpAny_handleBy_cons (codeAny_handlers_test ?_) (by intro q; cases q)
        have LT : PySem.W.Looks (model X.prog X.w) h3 (typeOf (.ref a)) cls := fun A Q E s k q => wpAny_typeOf_ref (k _ _ he3) (by rw [hz3.1]; exact q)
        have LM := PySem.W.exm_one (M := model X.prog X.w) (J3.kIn) LT hb1
        have test : ∀ {Q : Value → Shared → Prop} {E : Value → Shared → Prop}, Q c { s' with heap := h3 } → wpAny (model X.prog X.w) (X.A.mark (some (.ref a))) (eval (.Name x np) X.env) Q E { s' with heap := h3 } := fun {Q E} q => by
          obtain ⟨hg, hdbg, hm | ⟨hm, hv, hnn⟩⟩ := hc
          · exact ld_glob (X := X.suite a ((a, oe3) :: (X.pn ++ pins))) S3 hg hm q hdbg
          · exact ld_blt (X := X.suite a ((a, oe3) :: (X.pn ++ pins))) S3 hg hm hv q hnn hdbg
        refine test (LM.here ?_)
        cases b with
        | true =>
          refine codeAny_handlers_suite_as ?_
          refine HandSPX.lands_againZ fl3 fun h4 fl4 up4 => ?_
          have J4 : Inv X pins σ' H' { s' with heap := h4 } := J.landed nb fl4.1 ((up.trans up3).trans up4) os ag
          obtain ⟨oe4, vs4, he4, hz4, hd4⟩ := fl4.there
          have S4 := J4.suite he4 hd4 na nL nF
          refine store_ok (X := X.suite a ((a, oe4) :: (X.pn ++ pins))) (v := .ref a) S4 hN hi hloc rfl (fun s5 S5 => ?_) (.inr hln)
          refine wpAny_mono ((hsu a oe4 cls d (X.pn ++ pins) hz4 ⟨_, hd4⟩).run [] s5 _ H' _ S5 (hyes rfl a na)) (fun f s6 hsp => ?_) (fun _ _ z => False.elim z)
          have end_ : ∀ {σ6 : L2.St} {H6 : Hp} {Q : Shared → Prop}, Inv (X.suite a ((a, oe4) :: (X.pn ++ pins))) [] σ6 H6 s6 → (∀ s7, Inv X pins (σ6.set i none) H6 s7 → Q s7) →
              wpAny (model X.prog X.w) X.A (do bindName X.env n .none; unbindBehindTheSuite X.env n pos') (fun _ s7 => Q s7) X.xe s6 := fun {σ6 H6 Q} S6 hq => gone_ok (S6.unsuite ok) hN hi hln hq
          cases f with
          | next =>
            obtain ⟨σ6, H6, S6, q6⟩ := hsp
            exact end_ S6 fun s7 J7 => ⟨_, _, J7, q6⟩
          | brk =>
            obtain ⟨σ6, H6, S6, q6⟩ := hsp
            exact end_ S6 fun s7 J7 => ⟨_, _, J7, q6⟩
          | cont =>
            obtain ⟨σ6, H6, S6, q6⟩ := hsp
            exact end_ S6 fun s7 J7 => ⟨_, _, J7, q6⟩
          | ret u =>
            obtain ⟨v6, σ6, H6, S6, r6, q6⟩ := hsp
            exact end_ S6 fun s7 J7 => ⟨_, _, _, J7, r6, q6⟩
        | false =>
          show wpAny _ X.A (handleBy (.ref a) X.env hds2) _ _ _
          exact ih (hno rfl)
    exact go hh w
  · cases f with
    | next =>
      obtain ⟨σ', H', J', q⟩ := hsp
      exact wpAny_execs_nil ⟨σ', H', J'.ofTry ok, q⟩
    | brk =>
      obtain ⟨σ', H', J', q⟩ := hsp
      exact ⟨σ', H', J'.ofTry ok, q⟩
    | cont =>
      obtain ⟨σ', H', J', q⟩ := hsp
      exact ⟨σ', H', J'.ofTry ok, q⟩
    | ret u =>
      obtain ⟨v, σ', H', J', r, q⟩ := hsp
      exact ⟨v, σ', H', J'.ofTry ok, r, q⟩
end
def sRaise (c : Nat) (fld : S) (e : ME) : MS := fun σ h => (e σ h).bindS σ fun v h1 => .ex c h1.length σ (h1 ++ [.xd [(fld, v)]])
section
variable {G : Gx} {W : WX} {X : Cx} {e : Expr} {me : ME} {c k : Nat} {C fI : Addr} {fd : FuncData} {ps : List Str} {fld : S} {x : Str} {p pos pos' : Pos}
theorem ms_raise (hc : X.calm = true) (tk : Takes X W) (hct : G.ct c = some C) (T : OexC X.K C) (iC : PySem.W.findIn X.K (.ref C) "__init__" = some (some (.ref fI))) (tI : PySem.W.typeIn X.K (.ref fI) = some (.type "function"))
    (F1 : FnOk X.prog X.w X.K X.mg X.base (L2.CX X.prog X.w) k fI fd ps (spI C (toStr fld))) (hr : Room (k + 1) X.A) (hb : Binds X.K fd ps []) (hg : Gl X x) (hm : X.mg x = some (.ref C)) (he : PE X e (rdE G W me))
    (hdb : (x == ("__debug__" : Str)) = false := by decide) (hst : starEach [e] X.env = (false, eval e X.env) :: starEach [] X.env := by rfl) (hpl : (backTo pos (starEach [] X.env)).any (·.1) = false := by rfl) :
    PS X (.Raise (some (.Call (.Name x p) [e] [] pos)) none pos') (rdS G W (sRaise c fld me)) := by
  have hx : Passes (L2.CX X.prog X.w) X (fun _ _ _ => False) := fun pins σ H s e s' I ⟨_, _, _, _, _, _, _, _, _, _, _, _, z⟩ => z.elim
  have pa : PA X [e] (tCons (rdE G W me) tNil) := pa_cons he pa_nil hst
  refine PS.imp' (ps_raise hc tk (pmk_oex (sp := spI C (toStr fld)) T iC tI F1 hr hb .nil hx hg hm pa hdb hst hpl)) fun D σ H ⟨ρ, σi, h, as, ag, f⟩ => ?_
  refine rdS_go as ag f fun ρ1 H1 h1 v y st as1 ag1 rv f1 => ?_
  show ([y].length ≤ 1000) ∧ _
  refine ⟨by simp, fun a na => ⟨a, y, rfl, upd_same, fun dx ndx ne => ?_⟩⟩
  have n1 : H1 dx = none := by rw [upd_ne ne] at ndx; exact ndx
  refine ⟨rfl, dx, [(toStr fld, y)], upd_same, by rw [upd_ne ne, upd_same], n1, ?_⟩
  have eh : upd (del (upd (upd (upd H1 a (exo a C none)) dx (exd dx [(toStr fld, y)])) a (exo a C (some dx))) a) dx (.xd [(toStr fld, y)]) = upd H1 dx (.xd [(toStr fld, y)]) := by
    funext b
    by_cases h1 : b = dx
    · rw [h1, upd_same, upd_same]
    · rw [upd_ne h1, upd_ne h1]
      by_cases h2 : b = a
      · rw [h2, del_same, na]
      · rw [del_ne h2, upd_ne h2, upd_ne h1, upd_ne h2]
  rw [eh]
  exact f1 (ρ1 ++ [dx]) _ dx C σ (Stp.new n1) (ag1.new n1 ⟨_, upd_same, .cons rfl (rv.mono (Stp.new n1)) .nil⟩) (as1.mono (Stp.new n1)) (by rw [← ag1.len]; simp) hct
end
end ML
end
section
namespace ML
open PySem PySem.Spec PyProof.Rows L2 He
def goneS (i : Nat) : RS → RS
  | .nx σ h => .nx (σ.set i none) h
  | .bk σ h => .bk (σ.set i none) h
  | .ct σ h => .ct (σ.set i none) h
  | .rt v h => .rt v h
  | _ => .err
abbrev Hd := (Nat → Option Bool) × Nat × (Nat → Nat → MS)
def runH : List Hd → Nat → Nat → MS
  | [], c, n => fun σ h => .ex c n σ h
  | (mt, i, su) :: r, c, n => fun σ h => match mt c with
    | some true => match Nat.blt i σ.length with
      | true => goneS i (su c n (σ.set i none) h)
      | false => .err
    | some false => runH r c n σ h
    | none => .err
def sTry (body : MS) (hs : List Hd) : MS := fun σ h => match body σ h with
  | .ex c n σ' h' => runH hs c n σ' h'
  | r => r
def rdGX {α β : Type} (G : Gx) (n : Nat) (dd : Addr) (i : Nat) (a : Addr) (R : List Addr → Hp → α → β → Prop) (W : WX) (m : Sg → Hi → Res α) : L2.St → Hp → (β → Hp → Prop) → Prop := fun σ H Q =>
  ∃ ρ σi h, ρ[n]? = some dd ∧ σ[i]? = some (some (V.ref a)) ∧ AgS G ρ H σi σ ∧ Ag G ρ h H ∧ FinG G ρ H R Q (fun c d H' => W c d σ H') (m σi h)
abbrev rdEX (G : Gx) (n : Nat) (dd : Addr) (i : Nat) (a : Addr) (W : WX) (m : ME) : TE := rdGX G n dd i a (RV G) W m
abbrev rdAX (G : Gx) (n : Nat) (dd : Addr) (i : Nat) (a : Addr) (W : WX) (m : MA) : TA := rdGX G n dd i a (RVs G) W m
def rdSX (G : Gx) (n : Nat) (dd : Addr) (i : Nat) (a : Addr) (W : WX) (m : MS) : TS := fun D σ H =>
  ∃ ρ σi h, ρ[n]? = some dd ∧ σ[i]? = some (some (V.ref a)) ∧ AgS G ρ H σi σ ∧ Ag G ρ h H ∧ FinS G ρ H D W (m σi h)
section
variable {G : Gx} {ρ : List Addr} {H : Hp} {W : WX} {X : Cx} {σ : L2.St} {σi : Sg} {h : Hi} {n i : Nat} {dd a : Addr} {e : Expr} {es : List Expr} {me : ME} {ma mr : MA} {pos : Pos}
theorem rdGX_go {α β γ δ : Type} {R : List Addr → Hp → α → β → Prop} {R' : List Addr → Hp → γ → δ → Prop} {m : Sg → Hi → Res α} {k : α → Hi → Res γ} {Q : δ → Hp → Prop} {N : β → Hp → Prop}
    (hn : ρ[n]? = some dd) (hs : σ[i]? = some (some (V.ref a))) (as : AgS G ρ H σi σ) (ag : Ag G ρ h H) (f : FinG G ρ H R' Q (fun c d H' => W c d σ H') ((m σi h).bind k))
    (nx : ∀ ρ1 H1 h1 x y, Stp G ρ H ρ1 H1 → ρ1[n]? = some dd → AgS G ρ1 H1 σi σ → Ag G ρ1 h1 H1 → R ρ1 H1 x y → FinG G ρ1 H1 R' Q (fun c d H' => W c d σ H') (k x h1) → N y H1) : rdGX G n dd i a R W m σ H N := by
  refine ⟨ρ, σi, h, hn, hs, as, ag, ?_⟩
  cases e : m σi h with
  | err => rw [e] at f; exact f
  | ex c n' h' => rw [e] at f; exact f
  | ok v h' =>
    rw [e] at f
    exact fun ρ' H' x st a' r => nx ρ' H' h' v x st (st.pre _ _ hn) (as.mono st) a' r (FinG.later st f)
theorem mex_of {m : ME} (hp : PE X e (rdE G W m)) : PE X e (rdEX G n dd i a W m) := PE.imp' hp fun σ H Q ⟨ρ, σi, h, _, _, as, ag, f⟩ => ⟨ρ, σi, h, as, ag, f⟩
theorem mex_nil : PA X [] (rdAX G n dd i a W aNil) := PA.imp' pa_nil fun σ H Q ⟨ρ, σi, h, _, _, as, ag, f⟩ => f.ok ag .nil
theorem mex_cons (ha : PE X e (rdEX G n dd i a W me)) (hr : PA X es (rdAX G n dd i a W mr)) (hs : starEach (e :: es) X.env = (false, eval e X.env) :: starEach es X.env := by rfl) : PA X (e :: es) (rdAX G n dd i a W (aCons me mr)) :=
  PA.imp' (pa_cons ha hr hs) fun σ H Q ⟨ρ, σi, h, h1, h2, as, ag, f⟩ => rdGX_go h1 h2 as ag f fun ρ1 H1 h1' x y st k1 as ag r f => rdGX_go k1 h2 as ag f fun ρ2 H2 h2' xs ys st2 k2 as ag rs f => f.ok ag (.cons (r.mono st2) rs)
theorem mex_lst (hp : PA X es (rdAX G n dd i a W mr)) : PE X (.List es pos) (rdEX G n dd i a W (eLst mr)) :=
  PE.imp' (pe_lst hp) fun σ H Q ⟨ρ, σi, h, h1, h2, as, ag, f⟩ => rdGX_go h1 h2 as ag f fun ρ1 H1 h1' xs ys st k1 as ag rs f => by
    cases e : small xs.length with
    | false => rw [e] at f; exact f.elim
    | true =>
      rw [e] at f
      refine ⟨by rw [← rs.length]; exact small_ok e, fun p hp => ?_⟩
      exact f (ρ1 ++ [p]) _ _ (Stp.new hp) (ag.new hp ⟨ys, upd_same, rs.mono (Stp.new hp)⟩) (.ref (by rw [← ag.len]; simp))
theorem mex_and {b : Expr} {rest : List Expr} {ma mb : ME} (ha : PE X e (rdEX G n dd i a W ma)) (hb : PE X (.BoolOp .And (b :: rest) pos) (rdEX G n dd i a W mb)) : PE X (.BoolOp .And (e :: b :: rest) pos) (rdEX G n dd i a W (eAnd ma mb)) :=
  PE.imp' (pe_and ha hb) fun σ H Q ⟨ρ, σi, h, h1, h2, as, ag, f⟩ => rdGX_go h1 h2 as ag f fun ρ1 H1 h1' v x st k1 as ag r f => by
    cases r with
    | bl b =>
      refine ⟨b, rfl, ?_⟩
      cases b with
      | true => rw [if_pos rfl]; exact ⟨ρ1, σi, h1', k1, h2, as, ag, f⟩
      | false => rw [if_neg Bool.false_ne_true]; exact f.ok ag (.bl _)
    | _ => exact f.elim
theorem mex_not (ha : PE X e (rdEX G n dd i a W me)) : PE X (.UnaryOp .Not e pos) (rdEX G n dd i a W (eNot me)) :=
  PE.imp' (pe_not ha) fun σ H Q ⟨ρ, σi, h, h1, h2, as, ag, f⟩ => rdGX_go h1 h2 as ag f fun ρ1 H1 h1' v x st k1 as ag r f => by
    cases r with
    | bl b => exact ⟨b, rfl, f.ok ag (.bl _)⟩
    | _ => exact f.elim
theorem mex_one {op} (h : PE X e (rdEX G n dd i a W me)) : PE X (.BoolOp op [e] pos) (rdEX G n dd i a W me) := pe_one h
def eXf (cs : List Nat) (c n : Nat) (f : S) : ME := fun _ h => match cs.contains c, h[n]? with
  | true, some (.xd fs) => match getF f fs with
    | some v => .ok v h
    | none => .err
  | _, _ => .err
def XcOk (K : PySem.W.Frag) (G : Gx) (cs : List Nat) (f : S) : Prop := ∀ c C, cs.contains c = true → G.ct c = some C → XfC K C ∧ PySem.W.findIn K (.ref C) (toStr f) = some none
theorem mex_fld {cs : List Nat} {c : Nat} {C : Addr} {fn : S} {fs en : Str} {oe : Obj} {pn : List (Addr × Obj)} {np : Pos} (ef : fs = toStr fn) (hX : XcOk X.K G cs fn) (hct : G.ct c = some C) (hz : Zc (.ref C) (some dd) oe) (hf : ∃ vs, oe.data = .fields vs)
    (hN : X.N[i]? = some en) (hv : Vis X.env.scope en) (hb : attributeBase (.Name en np) fs X.env (eval (.Name en np) X.env) = eval (.Name en np) X.env) (hd : (en == ("__debug__" : Str)) = false := by decide) (hcd : (en == ("__classdict__" : Str)) = false := by decide) :
    PE (X.suite a ((a, oe) :: pn)) (.Attribute (.Name en np) fs pos) (rdEX G n dd i a W (eXf cs c n fn)) := by
  subst ef
  refine PE.dispatch fun σ H Q ⟨ρ, σi, h, h1, h2, as, ag, f⟩ => ?_
  unfold eXf at f
  cases q1 : cs.contains c with
  | false => rw [q1] at f; exact f.elim
  | true =>
    rw [q1] at f
    cases q2 : h[n]? with
    | none => rw [q2] at f; exact f.elim
    | some ob =>
      rw [q2] at f
      cases ob with
      | xd gs =>
        dsimp only at f
        obtain ⟨T, hno⟩ := hX c C q1 hct
        obtain ⟨ls, hH, rf⟩ := ag.at_ q2 h1
        have g := RFs.getF fn rf
        cases q3 : getF fn gs with
        | none => rw [q3] at f; exact f.elim
        | some v =>
          rw [q3] at f g
          obtain ⟨x, gx, rx⟩ := g
          exact ⟨_, pe_xf T hno hz hf (pe_var (X := X.suite a ((a, oe) :: pn)) hN hv hd hcd) hb, _, h2, rfl, rfl, dd, ls, x, rfl, hH, gx, f.ok ag rx⟩
      | _ => exact f.elim
end
end ML
end
section
namespace ML
open PySem PySem.Spec PyProof.Rows L2 He
theorem kitx_excD {K : PySem.W.Frag} {x D : Addr} {ox : Obj} {od : Option Obj} (T : ExcC K D) : PySem.W.KitX K (.ref x) (.ref D) (fun h => PySem.W.InstAt h x ox D od) where
  ty := fun _ _ _ I => I.type
  it := fun _ _ X _ => by
    obtain ⟨cdD, hcD, _⟩ := PySem.W.any_some T.hd
    unfold PySem.W.clsIn at hcD
    split at hcD
    · rename_i c' d' cd' sl' ho
      intro A' Q' E' s' k q
      unfold isType loadHead
      exact wpAny_bind (wpAny_loadPart (k _ _ (X _ _ ho)) (wpAny_pure q))
    · cases hcD
  ne := fun h tp dd its n sl X htp => by
    obtain ⟨cdD, hcD, _⟩ := PySem.W.any_some T.hd
    refine Bool.eq_false_iff.mpr fun q => ?_
    have e : D = tp := Value.ref.inj (beq_iff_eq.mp q)
    subst e
    unfold PySem.W.clsIn at hcD
    split at hcD
    · rename_i c' d' cd' sl' ho
      have z := (X _ _ ho).symm.trans htp
      cases z
    · cases hcD
  ca := fun X I k => PySem.W.kx_classE X I T.hg T.hk T.hs (PySem.W.findObj_dataE (by obtain ⟨cd, hc, _⟩ := PySem.W.any_some T.hd; rw [hc]; rfl) T.ha T.hn T.ht) T.hm k
def rIsED (K : PySem.W.Frag) (D a dd : Addr) : List V → Hp → VK → Prop := fun xs H Q => ∃ (c : V) (cv : Value) (b : Bool) (fs : List (Str × V)), xs = [.ref a, c] ∧ H dd = some (.xd fs) ∧ (∀ u, RelV c u → u = cv) ∧ PySem.W.kitOne K (.ref D) cv = some b ∧ Q (.bl b) H
theorem call_isED {X : Cx} {a D dd : Addr} {oe : Obj} {pn : List (Addr × Obj)} (C : ExcC X.K D) (hz : Zc (.ref D) (some dd) oe) (hf : ∃ vs, oe.data = .fields vs) : CallR (X.suite a ((a, oe) :: pn)) (.builtin "isinstance") (rIsED X.K D a dd) := by
  intro pins s σ H xs us Q I r h
  obtain ⟨c, cv, b, fs, rfl, hx, hcv, e, q⟩ := h
  cases r with
  | cons rx rr =>
    cases rr with
    | cons rt rr =>
      cases rr
      cases rx
      have ec := hcv _ rt
      subst ec
      obtain ⟨hget, _⟩ := I.pin (a, oe) (List.mem_append.mpr (.inl List.mem_cons_self))
      obtain ⟨vs, hv⟩ := hf
      have ho : ObjOk X.prog X.w H s.heap dd (.xd fs) := I.hok dd _ hx
      obtain ⟨mA, hns, hr⟩ := ho
      obtain ⟨od, ho, hl⟩ := lookIn_ns hns
      have J : PySem.W.InstAt s.heap a oe D (some od) := ⟨hget, hz.1, by unfold PySem.W.notCls; rw [hv] <;> rfl, by rw [hz.2]; exact ho⟩
      exact PySem.W.kia_one (kitx_excD C) I.kIn J e (fun z => nomatch z) fun tk => ⟨.bl b, H, I.kept (t' := tk) fun _ _ z => z, rfl, q⟩
def eXi (tbl : Nat → Option Bool) (c n : Nat) : ME := fun _ h => match tbl c, h[n]? with
  | some b, some (.xd _) => .ok (.bl b) h
  | _, _ => .err
def XiOk (K : PySem.W.Frag) (G : Gx) (tbl : Nat → Option Bool) (cv : Value) : Prop := ∀ c C b, tbl c = some b → G.ct c = some C → ExcC K C ∧ PySem.W.kitOne K (.ref C) cv = some b
section
variable {G : Gx} {ρ : List Addr} {H : Hp} {W : WX} {X : Cx} {σ : L2.St} {σi : Sg} {h : Hi} {n i : Nat} {dd a : Addr} {e : Expr} {es : List Expr} {me : ME} {ma mr : MA} {pos : Pos}
theorem mex_isi {tbl : Nat → Option Bool} {c : Nat} {C : Addr} {cv : V} {u : Value} {en : Str} {oe : Obj} {pn : List (Addr × Obj)} {np p : Pos} {ce : Expr} (hX : XiOk X.K G tbl u) (hct : G.ct c = some C) (hz : Zc (.ref C) (some dd) oe) (hf : ∃ vs, oe.data = .fields vs)
    (hN : X.N[i]? = some en) (hv : Vis X.env.scope en) (hg : Gl X "isinstance") (hm : X.mg "isinstance" = none) (hc : PE (X.suite a ((a, oe) :: pn)) ce (tC cv)) (cl : ClsV cv u)
    (hs1 : starEach [.Name en np, ce] X.env = (false, eval (.Name en np) X.env) :: starEach [ce] X.env := by rfl) (hs2 : starEach [ce] X.env = (false, eval ce X.env) :: starEach [] X.env := by rfl) (hpl : (backTo pos (starEach [ce] X.env)).any (·.1) = false := by rfl)
    (hd : (en == ("__debug__" : Str)) = false := by decide) (hcd : (en == ("__classdict__" : Str)) = false := by decide) :
    PE (X.suite a ((a, oe) :: pn)) (.Call (.Name "isinstance" p) [.Name en np, ce] [] pos) (rdEX G n dd i a W (eXi tbl c n)) := by
  refine PE.dispatch fun σ H Q ⟨ρ, σi, h, h1, h2, as, ag, f⟩ => ?_
  unfold eXi at f
  cases q1 : tbl c with
  | none => rw [q1] at f; exact f.elim
  | some b =>
    rw [q1] at f
    cases q2 : h[n]? with
    | none => rw [q2] at f; exact f.elim
    | some ob =>
      rw [q2] at f
      cases ob with
      | xd gs =>
        dsimp only at f
        obtain ⟨T, hk⟩ := hX c C b q1 hct
        obtain ⟨ls, hH, rf⟩ := ag.at_ q2 h1
        exact ⟨_, pe_callB (call_isED T hz hf) hg hm boot_isinstance (pa_cons (pe_var (X := X.suite a ((a, oe) :: pn)) hN hv hd hcd) (pa_cons hc pa_nil hs2) hs1) (by decide) (by decide) hs1 hpl, _, h2, _, u, b, ls, rfl, hH, (fun u2 r2 => cl.eq r2), hk, f.ok ag (.bl b)⟩
      | _ => exact f.elim
theorem rdSX_go {α β : Type} {R : List Addr → Hp → α → β → Prop} {m : Sg → Hi → Res α} {k : α → Hi → RS} {D : Ends} {N : β → Hp → Prop}
    (hn : ρ[n]? = some dd) (hs : σ[i]? = some (some (V.ref a))) (as : AgS G ρ H σi σ) (ag : Ag G ρ h H) (f : FinS G ρ H D W ((m σi h).bindS σi k))
    (nx : ∀ ρ1 H1 h1 x y, Stp G ρ H ρ1 H1 → ρ1[n]? = some dd → AgS G ρ1 H1 σi σ → Ag G ρ1 h1 H1 → R ρ1 H1 x y → FinS G ρ1 H1 D W (k x h1) → N y H1) : rdGX G n dd i a R W m σ H N := by
  have z : rdG G R W m σ H fun y H1 => N y H1 ∨ True := rdS_go as ag f fun ρ1 H1 h1 x y st as1 ag1 r f1 => .inr trivial
  refine ⟨ρ, σi, h, hn, hs, as, ag, ?_⟩
  cases e : m σi h with
  | err => rw [e] at f; exact f
  | ex c n' h' => rw [e] at f; exact fun ρ' H' d C st a' q1 q2 => f ρ' H' d C σ st a' (as.mono st) q1 q2
  | ok v h' =>
    rw [e] at f
    exact fun ρ' H' x st a' r => nx ρ' H' h' v x st (st.pre _ _ hn) (as.mono st) a' r (FinS.later st f)
theorem msx_of {st : List Stmt} {m : MS} (h : PSs X st (rdS G W m)) : PSs X st (rdSX G n dd i a W m) := PSs.imp' h fun D σ H ⟨ρ, σi, h, _, _, as, ag, f⟩ => ⟨ρ, σi, h, as, ag, f⟩
theorem msx_set {j : Nat} {x : Str} {pos' : Pos} {rest : List Stmt} {mr : MS} (hN : X.N.Nodup) (hi : X.N[j]? = some x) (hx : Loc X.env.scope x) (hji : j ≠ i) (he : PE X e (rdEX G n dd i a W me)) (hr : PSs X rest (rdSX G n dd i a W mr)) (hs : swapsWith e (some (.Name x pos')) pos.line X.env = pure false := by rfl)
    (hf : X.fn x = true ∨ X.env.scope.names.lookup x = some .local := by first | exact .inl rfl | exact .inr rfl | assumption) : PSs X (.Assign [.Name x pos'] e pos :: rest) (rdSX G n dd i a W (sSeq (sAsg me (gNm j)) mr)) :=
  PSs.imp' (pss_cons (ps_set (i := j) hN hi hx he hs hf) hr) fun D σ H ⟨ρ, σi, h, h1, h2, as, ag, f⟩ => by
    have f' : FinS G ρ H D W ((me σi h).bindS σi fun v h1 => (RS.nx (σi.set j (some v)) h1).andThen mr) := by
      have f0 : FinS G ρ H D W ((sAsg me (gNm j) σi h).andThen mr) := f
      unfold sAsg gNm at f0
      cases q : me σi h with
      | ok v h' => rw [q] at f0; exact f0
      | ex c n' h' => rw [q] at f0; exact f0
      | err => rw [q] at f0; exact f0
    refine rdSX_go h1 h2 as ag f' fun ρ1 H1 h1' v y st k1 as1 ag1 r f1 => ?_
    exact ⟨ρ1, _, h1', k1, by rw [List.getElem?_set_ne hji]; exact h2, as1.set r j, ag1, f1⟩
end
def tSu (G : Gx) (mt : Nat → Option Bool) (su : Nat → Nat → MS) (i : Nat) : Addr → Value → Option Addr → TS := fun a cls d D σ H => ∃ c n C dd, cls = .ref C ∧ d = some dd ∧ G.ct c = some C ∧ mt c = some true ∧ rdSX G n dd i a W0 (su c n) D σ H
inductive HdM (X : Cx) (G : Gx) : List ExceptHandler → List Hd → List (Value × Nat × (Addr → Value → Option Addr → TS)) → Prop
  | nil : HdM X G [] [] []
  | cons {x n : Str} {i : Nat} {cv : Value} {mt : Nat → Option Bool} {su : Nat → Nat → MS} {b₀ : Stmt} {suite : List Stmt} {np pos' : Pos} {hds : List ExceptHandler} {hs : List Hd} {l : List (Value × Nat × (Addr → Value → Option Addr → TS))} (hc : Names X x cv)
      (hi : X.N[i]? = some n) (hln : X.env.kindOf n = some .local) (hmt : ∀ c C b, mt c = some b → G.ct c = some C → PySem.W.exmOne X.K (.ref C) cv = some b)
      (hsu : ∀ (a : Addr) (oe : Obj) (C dd : Addr) (pn : List (Addr × Obj)) (c n : Nat), G.ct c = some C → mt c = some true → Zc (.ref C) (some dd) oe → (∃ vs, oe.data = .fields vs) → PSs (X.suite a ((a, oe) :: pn)) (b₀ :: suite) (rdSX G n dd i a W0 (su c n)))
      (r : HdM X G hds hs l) : HdM X G (.ExceptHandler (some (.Name x np)) (some n) (b₀ :: suite) pos' :: hds) ((mt, i, su) :: hs) ((cv, i, tSu G mt su i) :: l)
theorem PSs.dispatch {X : Cx} {st : List Stmt} {t : TS} (h : ∀ D σ H, t D σ H → ∃ t', PSs X st t' ∧ t' D σ H) : PSs X st t := ⟨fun pins s σ H D I q => let ⟨_, p, q'⟩ := h D σ H q; p.run pins s σ H D I q'⟩
theorem HdM.hds {X : Cx} {G : Gx} {hds : List ExceptHandler} {hs : List Hd} {l : List (Value × Nat × (Addr → Value → Option Addr → TS))} (m : HdM X G hds hs l) : HdsA X hds l := by
  induction m with
  | nil => exact .nil
  | cons hc hi hln hmt hsu r ih =>
    refine .cons hc hi hln (fun a oe cls d pn hz hf => PSs.dispatch fun D σ H ⟨c, n, C, dd, e1, e2, hct, hm, q⟩ => ?_) ih
    subst e1 e2
    exact ⟨_, hsu a oe C dd pn c n hct hm hz hf, q⟩
theorem runH_ok {X : Cx} {G : Gx} {W : WX} {D : Ends} {hds : List ExceptHandler} {hs : List Hd} {l : List (Value × Nat × (Addr → Value → Option Addr → TS))} (m : HdM X G hds hs l) : ∀ {ρ : List Addr} {H : Hp} {σi : Sg} {σ : L2.St} {h : Hi} {c n : Nat} {dd C : Addr},
    ρ[n]? = some dd → G.ct c = some C → AgS G ρ H σi σ → Ag G ρ h H → FinS G ρ H D W (runH hs c n σi h) → wManyA X.K W D l (.ref C) (some dd) σ H := by
  induction m with
  | nil => intro ρ H σi σ h c n dd C hn hct as ag f; exact f ρ H dd C σ .refl ag as hn hct
  | @cons x nm i cv mt su b₀ suite np pos' hds hs l hc hi hln hmt hsu r ih =>
    intro ρ H σi σ h c n dd C hn hct as ag f
    unfold runH at f
    cases q : mt c with
    | none => rw [q] at f; exact f.elim
    | some b =>
      rw [q] at f
      refine ⟨b, hmt c C b q hct, fun hb a na => ?_, fun hb => ?_⟩
      · subst hb
        dsimp only at f
        cases ql : Nat.blt i σi.length with
        | false => rw [ql] at f; exact f.elim
        | true =>
          rw [ql] at f
          dsimp only at f
          have hl : i < σ.length := by rw [Nat.blt_eq] at ql; rw [← as.len]; exact ql
          refine ⟨c, n, C, dd, rfl, rfl, hct, q, ρ, σi.set i none, h, hn, by rw [List.getElem?_set_self hl], as.lose i _, ag, ?_⟩
          cases e : su c n (σi.set i none) h with
          | nx σ' h' => rw [e] at f; exact fun ρ' H' σ3 st a' as' => f ρ' H' _ st a' (as'.lose i none)
          | bk σ' h' => rw [e] at f; exact fun ρ' H' σ3 st a' as' => f ρ' H' _ st a' (as'.lose i none)
          | ct σ' h' => rw [e] at f; exact fun ρ' H' σ3 st a' as' => f ρ' H' _ st a' (as'.lose i none)
          | rt v h' => rw [e] at f; exact f
          | ex c' n' σ' h' => rw [e] at f; exact f.elim
          | err => rw [e] at f; exact f.elim
      · subst hb
        exact ih hn hct as ag f
end ML
end
section
namespace ML
open PySem PySem.Spec PyProof.Rows L2 He
section
variable {G : Gx} {W : WX} {X : Cx} {body : List Stmt} {h₀ : ExceptHandler} {hds : List ExceptHandler} {hs : List Hd} {l : List (Value × Nat × (Addr → Value → Option Addr → TS))} {pos : Pos} {mb : MS}
theorem ms_try (tk : Takes X W) (hN : X.N.Nodup) (hb : ∀ (W' : WX) (pn : List (Addr × Obj)) (xe : Value → Shared → Prop), Takes (X.tr pn xe) W' → PassesOwn (model X.prog X.w) X.A X.env xe → PSs (X.tr pn xe) body (rdS G W' mb))
    (hh : HdM X G (h₀ :: hds) hs l) (hst : X.stack = X.env :: X.outer := by rfl) (hf : X.env.frame = some X.env.locals := by rfl) : PS X (.Try body (h₀ :: hds) [] [] pos) (rdS G W (sTry mb hs)) :=
  PS.imp' (ps_try_asMany (tb := fun W' => rdS G W' mb) (Wout := W) hst hf hN tk hb hh.hds) fun D σ H ⟨ρ, σi, h, as, ag, f⟩ => by
    refine ⟨ρ, σi, h, as, ag, ?_⟩
    unfold sTry at f
    cases e : mb σi h with
    | ex c n σ' h' =>
      rw [e] at f
      exact fun ρ' H' d C σ3 st ag' as' hn hct => runH_ok hh hn hct as' ag' (FinS.later st f)
    | nx σ' h' => rw [e] at f; exact f
    | bk σ' h' => rw [e] at f; exact f
    | ct σ' h' => rw [e] at f; exact f
    | rt v h' => rw [e] at f; exact f
    | err => rw [e] at f; exact f.elim
end
end ML
namespace ML
open PySem PySem.Spec PyProof.Rows L2 He
theorem msx_nil {G : Gx} {W : WX} {X : Cx} {n i : Nat} {dd a : Addr} : PSs X [] (rdSX G n dd i a W sNx) := msx_of ms_nil
end ML
end
section
namespace ML
open PySem PySem.Spec PyProof.Rows L2 He
def oexB (K : PySem.W.Frag) (C : Addr) : Bool := match K.lookup C with
  | some ⟨.type "type", _, .cls cd, sl⟩ => (match cd.mro, sl.toList with
    | .ref C' :: bm, [_, _, _, _, some (.builtin n), _] => (C' == C && n == "ValueError.__new__" && !cd.hasDel) && (cd.hasDict && PySem.HandSPX.refsVE bm)
    | _, _ => false)
  | _ => false
theorem oexB_ok {K : PySem.W.Frag} {C : Addr} (q : oexB K C = true) : ∃ nm qn N bs bm sn sub ab col dd k0 k1 k2 k3 k5, K.lookup C = some (excClassObj nm qn C N bs bm true sn sub ab col dd k0 k1 k2 k3 k5 "ValueError.__new__") ∧ PySem.HandSPX.refsVE bm = true := by
  unfold oexB at q
  split at q
  · rename_i dd cd sl ho
    split at q
    · rename_i C' bm k0 k1 k2 k3 n k5 hm hs
      simp only [Bool.and_eq_true, beq_iff_eq, Bool.not_eq_true'] at q
      obtain ⟨⟨⟨rfl, rfl⟩, hdel⟩, hdi, hr⟩ := q
      obtain ⟨nm, bs, mro, ns, qn, hd, sn, sub, ab, col, del⟩ := cd
      dsimp only at hm hdel hdi
      subst hm hdel hdi
      have hsl : sl = #[k0, k1, k2, k3, some (.builtin "ValueError.__new__"), k5] := by
        obtain ⟨l⟩ := sl
        simp only at hs
        rw [hs]
      subst hsl
      exact ⟨nm, qn, ns, bs, bm, sn, sub, ab, col, dd, k0, k1, k2, k3, k5, ho, hr⟩
    · cases q
  · cases q
def excB (K : PySem.W.Frag) (x : Str) : Bool := oexB K (ga K x) && (eqO (PySem.W.findIn K (.ref (ga K x)) "__setattr__") (some (some (.builtin "object.__setattr__"))) && (decide (PySem.W.subIn K (.ref (ga K x)) (.type "BaseException") = some true) &&
  (decide (PySem.W.typeIn K (.ref (ga K x)) = some (.type "type")) && PySem.W.keepIn K (.ref (ga K x)))))
theorem excB_ok {K : PySem.W.Frag} {x : Str} (h : excB K x = true) : OexC K (ga K x) := by
  obtain ⟨h1, h⟩ := ba h
  obtain ⟨h2, h⟩ := ba h
  obtain ⟨h3, h⟩ := ba h
  obtain ⟨h4, h5⟩ := ba h
  exact ⟨oexB_ok h1, eqO_ok h2, of_decide_eq_true h3, of_decide_eq_true h4, h5⟩
def exiB (K : PySem.W.Frag) (x fld : Str) (d : Defn) : Bool := eqO (PySem.W.findIn K (.ref (ga K x)) "__init__") (some (some (.ref (d K)))) && (decide (PySem.W.typeIn K (.ref (d K)) = some (.type "function")) && (eqO (PySem.W.findIn K (.ref (ga K x)) fld) (some none) &&
  ((PySem.W.clsIn K (ga K x)).isSome && (decide (PySem.W.mroIn K (ga K x) (.ref (ga K x)) = some true) && (eqO (PySem.W.ks_superIn K (ga K x) (ga K x) "__init__") (some (some (.builtin "ValueError.__init__"))) &&
  (decide (PySem.W.subIn K (.ref (ga K x)) (.type "ValueError") = some true) && eqO (PySem.W.nsIn K cStatics "thirdparty.any") (some none)))))))
structure ExiOk (K : PySem.W.Frag) (x fld : Str) (d : Defn) : Prop where
  ini : PySem.W.findIn K (.ref (ga K x)) "__init__" = some (some (.ref (d K)))
  ty : PySem.W.typeIn K (.ref (d K)) = some (.type "function")
  no : PySem.W.findIn K (.ref (ga K x)) fld = some none
  cd : ∃ cd, PySem.W.clsIn K (ga K x) = some cd
  mro : PySem.W.mroIn K (ga K x) (.ref (ga K x)) = some true
  sup : PySem.W.ks_superIn K (ga K x) (ga K x) "__init__" = some (some (.builtin "ValueError.__init__"))
  sub : PySem.W.subIn K (.ref (ga K x)) (.type "ValueError") = some true
  any : PySem.W.nsIn K cStatics "thirdparty.any" = some none
theorem exiB_ok {K : PySem.W.Frag} {x fld : Str} {d : Defn} (h : exiB K x fld d = true) : ExiOk K x fld d := by
  obtain ⟨h1, h⟩ := ba h
  obtain ⟨h2, h⟩ := ba h
  obtain ⟨h3, h⟩ := ba h
  obtain ⟨h4, h⟩ := ba h
  obtain ⟨h5, h⟩ := ba h
  obtain ⟨h6, h⟩ := ba h
  obtain ⟨h7, h8⟩ := ba h
  exact ⟨eqO_ok h1, of_decide_eq_true h2, eqO_ok h3, Option.isSome_iff_exists.mp h4, of_decide_eq_true h5, eqO_ok h6, of_decide_eq_true h7, eqO_ok h8⟩
theorem ExiOk.supX {X : Cx} {x fld : Str} {d : Defn} (e : ExiOk X.K x fld d) : SupX X (ga X.K x) := ⟨e.cd, e.mro, e.sup, e.sub⟩
def exmL (K : PySem.W.Frag) (nm : Nat → Option Str) (y : Str) (l : List (Nat × Bool)) : Bool := l.all fun q => match nm q.1 with
  | some x => decide (PySem.W.exmOne K (.ref (ga K x)) (.ref (ga K y)) = some q.2)
  | none => false
theorem lkT_mem {α : Type} : ∀ {l : List (Nat × α)} {c : Nat} {b : α}, lkT l c = some b → (c, b) ∈ l
  | [], _, _, h => by cases h
  | (d, x) :: r, c, b, h => by
    rcases lkT_cons h with ⟨rfl, rfl⟩ | h
    · exact List.mem_cons_self
    · exact List.mem_cons_of_mem _ (lkT_mem h)
theorem exmL_ok {K : PySem.W.Frag} {mg : Str → Option Value} {nm : Nat → Option Str} {y : Str} {l : List (Nat × Bool)} (h : exmL K nm y l = true) : ∀ c C b, lkT l c = some b → (GxOf K mg nm).ct c = some C → PySem.W.exmOne K (.ref C) (.ref (ga K y)) = some b := fun c C b e hc => by
  have z := List.all_eq_true.mp h _ (lkT_mem e)
  dsimp only at z
  cases q : nm c with
  | none => rw [q] at z; cases z
  | some x =>
    rw [q] at z
    rw [gx_ct hc q]
    exact of_decide_eq_true z
def xcB (K : PySem.W.Frag) (nm : Nat → Option Str) (cs : List Nat) (f : Str) : Bool := cs.all fun c => match nm c with
  | some x => xfB K (ga K x) && eqO (PySem.W.findIn K (.ref (ga K x)) f) (some none)
  | none => false
theorem xcB_ok {K : PySem.W.Frag} {mg : Str → Option Value} {nm : Nat → Option Str} {cs : List Nat} {f : S} (h : xcB K nm cs (toStr f) = true) : XcOk K (GxOf K mg nm) cs f := fun c C e hc => by
  have z := List.all_eq_true.mp h c (List.contains_iff_mem.mp e)
  cases q : nm c with
  | none => rw [q] at z; cases z
  | some x =>
    rw [q] at z
    rw [gx_ct hc q]
    obtain ⟨z1, z2⟩ := ba z
    exact ⟨xfB_ok z1, eqO_ok z2⟩
def eccB (K : PySem.W.Frag) (x : Str) : Bool := xfB K (ga K x) && (eqO (PySem.W.findIn K (.ref (ga K x)) "__class__") (some (some (.builtin "object.__class__"))) && (eqO (PySem.W.specialIn K (.builtin "object.__class__") "__get__") (some (some (.builtin "getset_descriptor.__get__"))) &&
  (decide (PySem.W.takesIn K (.builtin "object.__class__") = some true) && decide (PySem.W.mroIn K (ga K x) (.type "object") = some true))))
theorem eccB_ok {K : PySem.W.Frag} {x : Str} (h : eccB K x = true) : ExcC K (ga K x) := by
  obtain ⟨h1, h⟩ := ba h
  obtain ⟨h2, h⟩ := ba h
  obtain ⟨h3, h⟩ := ba h
  obtain ⟨h4, h5⟩ := ba h
  have z := xfB_ok h1
  exact ⟨z.ga, z.gg, z.exC, z.hdC, eqO_ok h2, eqO_ok h3, of_decide_eq_true h4, of_decide_eq_true h5⟩
def xiB (K : PySem.W.Frag) (nm : Nat → Option Str) (r : ClsR) (l : List (Nat × Bool)) : Bool := l.all fun q => match nm q.1 with
  | some x => eccB K x && decide (PySem.W.kitOne K (.ref (ga K x)) (r.val K) = some q.2)
  | none => false
theorem xiB_ok {K : PySem.W.Frag} {mg : Str → Option Value} {nm : Nat → Option Str} {r : ClsR} {l : List (Nat × Bool)} (h : xiB K nm r l = true) : XiOk K (GxOf K mg nm) (lkT l) (r.val K) := fun c C b e hc => by
  have z := List.all_eq_true.mp h _ (lkT_mem e)
  dsimp only at z
  cases q : nm c with
  | none => rw [q] at z; cases z
  | some x =>
    rw [q] at z
    rw [gx_ct hc q]
    obtain ⟨z1, z2⟩ := ba z
    exact ⟨eccB_ok z1, of_decide_eq_true z2⟩
section
variable {X : Cx} {x qual : Str} {params : Arguments} {body : List Stmt} {scope : Scope} {dvs : List V} {kws : List (Str × V)} {f cc D c : Addr} {fd : FuncData} {file sf : Str} {ar : Arg}
theorem supD_of (F : FunS X.K x qual params body scope dvs kws f fd cc D c file) (hfn : X.env.func = some f) (hcode : X.env.code = .ref c) (har : (params.posonlyargs ++ params.args).head? = some ar) (hs : ar.arg = sf)
    (hfile : ((X.prog.main.file : Str) == file) = true) (htop : (X.prog.main.scope.names.lookup ("super" : Str)).isSome = false) (any : PySem.W.nsIn X.K cStatics "thirdparty.any" = some none) : SupD X f D sf := by
  obtain ⟨oc, od, dV, kV, doc, pm, an, ct, osl, e1, e2, _, _⟩ := F.ex
  obtain ⟨o, vs, tf, e3, e4, e5⟩ := F.file
  exact ⟨hfn, ⟨_, fd, ar, e2, rfl, by rw [e1]; exact har, hs⟩, ⟨c, o, vs, file, tf, hcode, e3, e4, e5, hfile⟩, htop, any⟩
end
theorem ex_body {X : Cx} {body : List Stmt} {f D : Addr} {par fld m : Str} {j1 : Nat} {p0 p1 p2 apos cpos spos q0 q1 q2 q3 : Pos} (S : SupD X f D "self") (hks : Gl X "super") (hm : X.mg "super" = none) (hkc : X.env.kindOf "__class__" = some .free) (hNc : X.N[2]? = some ("__class__" : Str)) (hvc : Vis X.env.scope "__class__")
    (hNs : X.N[0]? = some ("self" : Str)) (hvs : Vis X.env.scope "self") (hNp : X.N[1]? = some par) (hvp : Vis X.env.scope par) (hi : interactive X.env = false)
    (hst : starEach [.Constant (.str m) j1 p2] X.env = (false, eval (.Constant (.str m) j1 p2) X.env) :: starEach [] X.env) (hpl : (backTo cpos (starEach [] X.env)).any (·.1) = false)
    (hsw : swapsWith (.Call (.Attribute (.Call (.Name "super" p0) [] [] p1) "__init__" apos) [.Constant (.str m) j1 p2] [] cpos) none spos.line X.env = pure false)
    (ht : eval (.Call (.Attribute (.Call (.Name "super" p0) [] [] p1) "__init__" apos) [.Constant (.str m) j1 p2] [] cpos) X.env = (do
      let ov ← attributeBase (.Call (.Name "super" p0) [] [] p1) "__init__" X.env (eval (.Call (.Name "super" p0) [] [] p1) X.env)
      standAt apos.atName
      let (f, first) ← holding [ov] (getMethod ov "__init__" (pure false))
      callWith cpos f first (backTo cpos (starEach [.Constant (.str m) j1 p2] X.env)) []))
    (hs2 : swapsWith (.Name par q1) (some (.Attribute (.Name "self" q0) fld q2)) q3.line X.env = pure false) (hd : (par == ("__debug__" : Str)) = false) (hcd : (par == ("__classdict__" : Str)) = false) :
    PSsT X body [.Expr (.Call (.Attribute (.Call (.Name "super" p0) [] [] p1) "__init__" apos) [.Constant (.str m) j1 p2] [] cpos) spos, .Assign [.Attribute (.Name "self" q0) fld q2] (.Name par q1) q3] (tIni X D m fld) :=
  psst_cons (t1 := tSupX X 2 0 D (tCons (tC (.str m)) tNil)) (t2 := tOst X.K fld (tVar 0) (tVar 1)) (pst_superX (j := 2) (i := 0) (slf := "self") S hks hm hkc hNc hvc hNs hvs (by decide) (pa_cons pe_str pa_nil hst) hi hst hpl hsw ht) (pss_one (ps_ost (pe_var (i := 0) hNs hvs) (pe_var (i := 1) hNp hvp hd hcd) hs2))
end ML
end
section
namespace ML
open PySem L2
theorem L2R.negR {r : List Nat} {h : Hi} {a b : Res VI} (k : L2R RV2 r h a b) : L2R RV2 r h (negR a) (negR b) := by
  cases a with
  | err => trivial
  | ex c n s' =>
    obtain ⟨r', h', m, rfl, e, g, q⟩ := k
    exact ⟨r', h', m, rfl, e, g, q⟩
  | ok v s' =>
    obtain ⟨r', h', v', rfl, e, g, q⟩ := k
    cases q with
    | bl b => exact ⟨r', h', _, rfl, e, g, .bl (!b)⟩
    | _ => trivial
instance {ma mb : ME} {f : Op2} {cs : List Nat} {tbl : Nat → Option MF} [c : LTb tbl] [x : LE ma] [y : LE mb] [o : LOp f] : LE (eNeU cs tbl f ma mb) := ⟨fun r s h σ σ' g a => (x.run r s h σ σ' g a).bind fun r1 s1 h1 v v' e1 g1 q1 => (y.run _ _ _ _ _ g1 (a.mono e1)).bind fun r2 s2 h2 w w' e2 g2 q2 => by
  rw [ins2 g2 (q1.mono e2), ty2 g2 q2]
  cases z : insC v s2 with
  | none => exact .ofO (o.run _ _ _ _ _ _ _ g2 (q1.mono e2) q2)
  | some d =>
    dsimp only
    cases w0 : tbl d with
    | none => trivial
    | some u =>
      cases w1 : nfI cs (tyI w s2) with
      | false => trivial
      | true => exact ((c.run _ _ w0).run _ _ _ _ _ g2 (.cons (q1.mono e2) (.cons q2 .nil))).negR⟩
instance {c : Nat} {f : S} {ma : ME} [x : LE ma] : LS (sRaise c f ma) := ⟨fun r s h σ σ' g a => (x.run r s h σ σ' g a).bindS a fun r1 s1 h1 v v' e1 g1 q1 => by
  have e0 : Ex2 r1 h1 (r1 ++ [h1.length]) (h1 ++ [OI.xd [(f, v')]]) := ⟨⟨[h1.length], rfl, fun m hm => by rw [List.mem_singleton] at hm; omega⟩, by simp, fun m _ hlt => List.getElem?_append_left hlt⟩
  obtain ⟨g', e⟩ := g1.new (o := OI.xd [(f, v)]) (o' := OI.xd [(f, v')]) (.xd (.cons (q1.mono e0) .nil))
  exact ⟨_, _, _, _, rfl, e, g', (a.mono e1).mono e, g1.idx⟩⟩
class LE2 (n m : Nat) (e e' : ME) : Prop where
  run : ∀ r s h σ σ', r[n]? = some m → Ag2 r s h → AS2 r σ σ' → L2R RV2 r h (e σ s) (e' σ' h)
class LA2 (n m : Nat) (e e' : MA) : Prop where
  run : ∀ r s h σ σ', r[n]? = some m → Ag2 r s h → AS2 r σ σ' → L2R RVs2 r h (e σ s) (e' σ' h)
class LS2 (n m : Nat) (e e' : MS) : Prop where
  run : ∀ r s h σ σ', r[n]? = some m → Ag2 r s h → AS2 r σ σ' → L2S r h (e σ s) (e' σ' h)
theorem Ex2.at_ {r r' : List Nat} {h h' : Hi} {n m : Nat} (e : Ex2 r h r' h') (q : r[n]? = some m) : r'[n]? = some m := e.pre q
section
variable {n m c : Nat}
instance (priority := low) {e : ME} [x : LE e] : LE2 n m e e := ⟨fun r s h σ σ' _ g a => x.run r s h σ σ' g a⟩
instance {cs : List Nat} {f : S} : LE2 n m (eXf cs c n f) (eXf cs c m f) := ⟨fun r s h σ σ' q g a => by
  unfold eXf
  obtain ⟨o, o', z1, z2, z3⟩ := g.no q
  rw [z1, z2]
  cases z3 with
  | xd t =>
    cases cs.contains c with
    | false => trivial
    | true =>
      have k := getF2 (f := f) t
      dsimp only
      rename_i xs ys
      cases w : getF f xs with
      | none => trivial
      | some v =>
        rw [w] at k
        cases w2 : getF f ys with
        | none => rw [w2] at k; exact k.elim
        | some v' => rw [w2] at k; exact .ok g k
  | _ => cases cs.contains c <;> trivial⟩
instance {t : Nat → Option Bool} : LE2 n m (eXi t c n) (eXi t c m) := ⟨fun r s h σ σ' q g a => by
  unfold eXi
  obtain ⟨o, o', z1, z2, z3⟩ := g.no q
  rw [z1, z2]
  cases t c with
  | none => trivial
  | some b => cases z3 <;> first | exact .ok g (.bl b) | trivial⟩
instance : LA2 n m aNil aNil := ⟨fun r s h σ σ' q g a => .ok g .nil⟩
instance {a a' : ME} {b b' : MA} [x : LE2 n m a a'] [y : LA2 n m b b'] : LA2 n m (aCons a b) (aCons a' b') := ⟨fun r s h σ σ' q g a => (x.run r s h σ σ' q g a).bind fun r1 s1 h1 v v' e1 g1 q1 => (y.run _ _ _ _ _ (e1.at_ q) g1 (a.mono e1)).bind fun r2 s2 h2 w w' e2 g2 q2 => .ok g2 (.cons (q1.mono e2) q2)⟩
instance {b b' : MA} [y : LA2 n m b b'] : LE2 n m (eLst b) (eLst b') := ⟨fun r s h σ σ' q g a => (y.run _ _ _ _ _ q g a).bind fun r2 s2 h2 w w' e2 g2 q2 => by
  rw [← q2.length]
  split
  · exact .new g2 fun r' e => .lst (q2.mono e)
  · trivial⟩
instance {a a' : ME} [x : LE2 n m a a'] : LS2 n m (sRet a) (sRet a') := ⟨fun r s h σ σ' q g a => (x.run r s h σ σ' q g a).bindS a fun r1 s1 h1 v v' e1 g1 q1 => ⟨_, _, _, rfl, .refl, g1, q1⟩⟩
instance : LS2 n m sNx sNx := ⟨fun r s h σ σ' q g a => .nx g a⟩
instance {a a' : ME} {b b' : MS} {j : Nat} [x : LE2 n m a a'] [y : LS2 n m b b'] : LS2 n m (sSeq (sAsg a (gNm j)) b) (sSeq (sAsg a' (gNm j)) b') := ⟨fun r s h σ σ' q g a =>
  L2S.andThen ((x.run r s h σ σ' q g a).bindS a fun r1 s1 h1 v v' e1 g1 q1 => .nx g1 ((a.mono e1).set q1 j)) fun r1 s1 h1 t t' e1 g1 a1 => y.run _ _ _ _ _ (e1.at_ q) g1 a1⟩
end
theorem goneS2 {r : List Nat} {h : Hi} {i : Nat} {a b : RS} (k : L2S r h a b) : L2S r h (goneS i a) (goneS i b) := by
  cases a with
  | err => trivial
  | nx σ s' => obtain ⟨r2, h2, m, rfl, e2, g, a⟩ := k; exact ⟨r2, h2, _, rfl, e2, g, a.lose i⟩
  | bk σ s' => obtain ⟨r2, h2, m, rfl, e2, g, a⟩ := k; exact ⟨r2, h2, _, rfl, e2, g, a.lose i⟩
  | ct σ s' => obtain ⟨r2, h2, m, rfl, e2, g, a⟩ := k; exact ⟨r2, h2, _, rfl, e2, g, a.lose i⟩
  | rt σ s' => obtain ⟨r2, h2, m, rfl, e2, g, a⟩ := k; exact ⟨r2, h2, _, rfl, e2, g, a⟩
  | ex c n σ s' => trivial
class LHs (hs : List Hd) : Prop where
  run : ∀ c n m r s h σ σ', r[n]? = some m → Ag2 r s h → AS2 r σ σ' → L2S r h (runH hs c n σ s) (runH hs c m σ' h)
instance : LHs [] := ⟨fun c n m r s h σ σ' q g a => ⟨_, _, _, _, rfl, .refl, g, a, q⟩⟩
instance {mt : Nat → Option Bool} {i : Nat} {su : Nat → Nat → MS} {hs : List Hd} [x : ∀ c n m, LS2 n m (su c n) (su c m)] [y : LHs hs] : LHs ((mt, i, su) :: hs) := ⟨fun c n m r s h σ σ' q g a => by
  unfold runH
  cases mt c with
  | none => trivial
  | some b =>
    cases b with
    | false => exact y.run _ _ _ _ _ _ _ _ q g a
    | true =>
      dsimp only
      rw [← a.len]
      split
      · exact goneS2 ((x c n m).run _ _ _ _ _ q g (a.lose i))
      · trivial⟩
instance {body : MS} {hs : List Hd} [x : LS body] [y : LHs hs] : LS (sTry body hs) := ⟨fun r s h σ σ' g a => by
  have k := x.run r s h σ σ' g a
  unfold sTry
  cases z : body σ s with
  | err => trivial
  | nx σ1 s' => rw [z] at k; obtain ⟨r2, h2, m, e1, e2, g2, a2⟩ := k; rw [e1]; exact ⟨r2, h2, _, rfl, e2, g2, a2⟩
  | bk σ1 s' => rw [z] at k; obtain ⟨r2, h2, m, e1, e2, g2, a2⟩ := k; rw [e1]; exact ⟨r2, h2, _, rfl, e2, g2, a2⟩
  | ct σ1 s' => rw [z] at k; obtain ⟨r2, h2, m, e1, e2, g2, a2⟩ := k; rw [e1]; exact ⟨r2, h2, _, rfl, e2, g2, a2⟩
  | rt v s' => rw [z] at k; obtain ⟨r2, h2, m, e1, e2, g2, a2⟩ := k; rw [e1]; exact ⟨r2, h2, _, rfl, e2, g2, a2⟩
  | ex c n σ1 s' =>
    rw [z] at k
    obtain ⟨r2, h2, σ2, m, e1, e2, g2, a2, q⟩ := k
    rw [e1]
    exact (y.run c n m r2 s' h2 σ1 σ2 q g2 a2).ext e2⟩
end ML
end
section
namespace ML
open PySem L2
theorem L2R.lenR {r : List Nat} {h : Hi} {a b : Res VI} (k : L2R RV2 r h a b) : L2R RV2 r h (lenR a) (lenR b) := by
  cases a with
  | err => trivial
  | ex c n s' =>
    obtain ⟨r', h', m, rfl, e, g, q⟩ := k
    exact ⟨r', h', m, rfl, e, g, q⟩
  | ok v s' =>
    obtain ⟨r', h', v', rfl, e, g, q⟩ := k
    cases q with
    | int n =>
      have e1 : ∀ hh, ML.lenR (.ok (.int n) hh) = (match decide (0 ≤ n) && decide (n < 2 ^ 62) with | true => Res.ok (.int n) hh | false => Res.err) := fun _ => rfl
      rw [e1, e1]
      cases decide (0 ≤ n) && decide (n < 2 ^ 62) with
      | true => exact ⟨r', h', _, rfl, e, g, .int n⟩
      | false => trivial
    | _ => trivial
instance {ma : ME} {tbl : Nat → Option MF} [c : LTb tbl] [x : LE ma] [o : LOc cLen] : LE (eLenU tbl ma) := ⟨fun r s h σ σ' g a => (x.run r s h σ σ' g a).bind fun r1 s1 h1 v v' e1 g1 q1 => by
  rw [ins2 g1 q1]
  cases z : insC v s1 with
  | none => exact .ofO (o.run _ _ _ _ _ g1 (.cons q1 .nil))
  | some d =>
    dsimp only
    cases w0 : tbl d with
    | none => trivial
    | some u => exact ((c.run _ _ w0).run _ _ _ _ _ g1 (.cons q1 .nil)).lenR⟩
end ML
end
section
namespace ML
open PySem L2 PyProof.Rows
def sFldAug (cs : List Nat) (fn : S) (f : Op2) (o e : ME) : MS := fun σ h => (o σ h).bindS σ fun x h1 => match x with
  | .ref n => match h1[n]? with
    | some (.ins c fs) => match cs.contains c, getF fn fs with
      | true, some v => (e σ h1).bindS σ fun y h2 => match f v y h2 with
        | some (z, h3) => match h3[n]? with
          | some (.ins c' fs') => match cs.contains c' && (Nat.beq c' c && Nat.blt fs'.length 1000) with
            | true => .nx σ (h3.set n (.ins c' (setF fn z fs')))
            | false => .err
          | _ => .err
        | none => .err
      | _, _ => .err
    | _ => .err
  | _ => .err
section
variable {G : Gx} {W : WX} {X : Cx} {o e : Expr} {pos pos' : Pos} {mo me : ME}
end
section
variable {r : List Nat}
theorem intsI2 : ∀ {xs ys : List VI}, RVs2 r xs ys → intsI ys = intsI xs
  | _, _, .nil => rfl
  | _, _, .cons q t => by cases q <;> unfold intsI <;> first | rw [intsI2 t] | rfl
theorem rvs2_ints (l : List Int) : RVs2 r (l.map VI.int) (l.map VI.int) := by
  induction l with
  | nil => exact .nil
  | cons a b ih => exact .cons (.int a) ih
end
instance : LOc cSortK := ⟨fun r s h vs vs' g t => by
  unfold cSortK
  cases t with
  | nil => trivial
  | cons q t =>
    cases t with
    | cons _ _ => cases q <;> trivial
    | nil =>
      cases q with
      | tup l =>
        dsimp only
        rw [intsI2 l]
        split
        · exact .new g fun r' e => .lst (rvs2_ints _)
        · trivial
      | ref i =>
        obtain ⟨o, o', e1, e2, e3⟩ := g.no i
        dsimp only
        rw [e1, e2]
        cases e3 with
        | lst l =>
          dsimp only
          rw [intsI2 l]
          split
          · exact .new g fun r' e => .lst (rvs2_ints _)
          · trivial
        | scr l =>
          dsimp only
          rw [intsI2 l]
          split
          · exact .new g fun r' e => .lst (rvs2_ints _)
          · trivial
        | _ => trivial
      | _ => trivial⟩
end ML
namespace ML
open PySem L2
instance : LOp iAdd := ⟨fun r s h x y x' y' g a b => by
  unfold iAdd
  cases a <;> cases b <;> first | exact ⟨_, _, _, rfl, .refl, g, .int _⟩ | trivial⟩
instance : LOp iSub := ⟨fun r s h x y x' y' g a b => by
  unfold iSub
  cases a <;> cases b <;> first | exact ⟨_, _, _, rfl, .refl, g, .int _⟩ | trivial⟩
instance {cs : List Nat} {fn : S} {f : Op2} {mo me : ME} [x : LE mo] [o : LOp f] [y : LE me] : LS (sFldAug cs fn f mo me) := ⟨fun r s h σ σ' g a => (x.run r s h σ σ' g a).bindS a fun r1 s1 h1 v v' e1 g1 q1 => by
  cases q1 with
  | @ref n m i =>
    obtain ⟨ob, ob', z1, z2, z3⟩ := g1.no i
    dsimp only
    rw [z1, z2]
    cases z3 with
    | @ins c fs fs' t =>
      dsimp only
      cases cs.contains c with
      | false => trivial
      | true =>
        have k := getF2 (f := fn) t
        cases w : getF fn fs with
        | none => trivial
        | some u =>
          rw [w] at k
          cases w2 : getF fn fs' with
          | none => rw [w2] at k; exact k.elim
          | some u' =>
            rw [w2] at k
            dsimp only
            refine (y.run _ _ _ _ _ g1 (a.mono e1)).bindS (a.mono e1) fun r2 s2 h2 p p' e2 g2 q2 => ?_
            have kk := o.run _ _ _ _ _ _ _ g2 (k.mono e2) q2
            cases z5 : f u p s2 with
            | none => trivial
            | some zh =>
              obtain ⟨z, s3⟩ := zh
              rw [z5] at kk
              obtain ⟨r3, h3, z', e, e3, g3, q3⟩ := kk
              rw [e]
              dsimp only
              have i3 := e3.pre (e2.pre i)
              obtain ⟨o3, o3', y1, y2, y3⟩ := g3.no i3
              rw [y1, y2]
              cases y3 with
              | ins t3 =>
                dsimp only
                rw [t3.length]
                split
                · obtain ⟨aa, b⟩ := g3.wr y1 i3 (.ins (setF2 q3 t3))
                  exact ⟨_, _, _, rfl, e3.trans b, aa, (((a.mono e1).mono e2).mono e3).mono b⟩
                · trivial
              | _ => trivial
    | _ => trivial
  | _ => trivial⟩
end ML
end
section
namespace ML
open PySem L2
def turnsD (it : Itm) (t : Tgt) (vs : List Nat) (tt : MT) (mi1 : MI) (t1 : Tgt) (vs1 : List Nat) (tt1 : MT) (el : ME) (D : Nat) (σ : Sg) : Nat → Nat → Hi → Option Hi
  | 0, i, h => match it.nxt i h with
    | some none => some h
    | _ => none
  | k + 1, i, h => match it.nxt i h with
    | some none => some h
    | some (some x) => match t.put x (wipeM σ vs) with
      | some σ2 => match tt σ2 h with
        | .ok true h2 => match mi1 σ2 h2 with
          | .ok it1 h3 => match turnsC it1 t1 vs1 tt1 el D σ2 (it1.fuel h3) 0 h3 with
            | some h4 => turnsD it t vs tt mi1 t1 vs1 tt1 el D σ k (i + 1) h4
            | none => none
          | _ => none
        | .ok false h2 => turnsD it t vs tt mi1 t1 vs1 tt1 el D σ k (i + 1) h2
        | _ => none
      | none => none
    | none => none
def eLc2 (mi : MI) (t : Tgt) (vs : List Nat) (tt : MT) (mi1 : MI) (t1 : Tgt) (vs1 : List Nat) (tt1 : MT) (el : ME) : ME := fun σ h => (mi σ h).bind fun it h1 => match turnsD it t vs tt mi1 t1 vs1 tt1 el h1.length σ (it.fuel h1) 0 (h1 ++ [.lst []]) with
  | some h2 => .ok (.ref h1.length) h2
  | none => .err
section
variable {G : Gx} {W : WX} {X : Cx} {ρ ρ1 : List Addr} {H H1 : Hp} {h : Hi} {tg iter tg1 iter1 elt c c1 : Expr} {ifs : List Expr} {scope : Scope} {own : List (Str × Nat)} {vs1 : List Nat} {pos spos py : Pos} {mi mi1 : MI} {mt mt1 : MT} {ml : ME} {t t1 : Tgt} {i : Nat} {y : Str}
end
theorem turnsD2 {t t1 : Tgt} {vs vs1 : List Nat} {tt tt1 : MT} {el : ME} {mi1 : MI} [x : LT tt] [x1 : LT tt1] [y : LE el] [z : LI mi1] : ∀ (k i : Nat) (r : List Nat) (s h s' : Hi) (σ σ' : Sg) (a b : Itm) (D D' : Nat), Ag2 r s h → AS2 r σ σ' → RI2 r a b → r[D]? = some D' →
    turnsD a t vs tt mi1 t1 vs1 tt1 el D σ k i s = some s' → ∃ r' h', turnsD b t vs tt mi1 t1 vs1 tt1 el D' σ' k i h = some h' ∧ Ex2 r h r' h' ∧ Ag2 r' s' h'
  | 0, i, r, s, h, s', σ, σ', a, b, D, D', g, as, q, d, e => by
    have n := nxt2 g q i
    unfold turnsD at e ⊢
    cases z1 : a.nxt i s with
    | none => rw [z1] at e; cases e
    | some o =>
      rw [z1] at e n
      cases o with
      | some _ => cases e
      | none => cases z2 : b.nxt i h with
        | none => rw [z2] at n; exact n.elim
        | some o' => cases o' with
          | some _ => rw [z2] at n; exact n.elim
          | none => cases e; exact ⟨r, h, rfl, .refl, g⟩
  | k + 1, i, r, s, h, s', σ, σ', a, b, D, D', g, as, q, d, e => by
    have n := nxt2 g q i
    unfold turnsD at e ⊢
    cases z1 : a.nxt i s with
    | none => rw [z1] at e; cases e
    | some o =>
      rw [z1] at e n
      cases z2 : b.nxt i h with
      | none => rw [z2] at n; exact n.elim
      | some o' =>
        rw [z2] at n
        cases o with
        | none => cases o' with
          | some _ => exact n.elim
          | none => cases e; exact ⟨r, h, rfl, .refl, g⟩
        | some v => cases o' with
          | none => exact n.elim
          | some v' =>
            dsimp only at e ⊢
            cases z3 : t.put v (wipeM σ vs) with
            | none => rw [z3] at e; cases e
            | some τ =>
              obtain ⟨τ', w1, w2⟩ := put2 t n (wipe2 as vs) z3
              rw [z3] at e
              rw [w1]
              dsimp only at e ⊢
              have tk := x.run _ _ _ _ _ g w2
              cases z4 : tt τ s with
              | err => rw [z4] at e; cases e
              | ex _ _ _ => rw [z4] at e; cases e
              | ok c s2 =>
                rw [z4] at tk e
                obtain ⟨r2, h2, c', k1, k2, k3, k4⟩ := tk
                subst k4
                rw [k1]
                cases c with
                | false =>
                  dsimp only at e ⊢
                  obtain ⟨r3, h3, j1, j2, j3⟩ := turnsD2 k (i + 1) _ _ _ _ _ _ _ _ _ _ k3 (as.mono k2) (q.mono k2) (k2.pre d) e
                  exact ⟨r3, h3, j1, k2.trans j2, j3⟩
                | true =>
                  dsimp only at e ⊢
                  have ek := z.run _ _ _ _ _ k3 (w2.mono k2)
                  cases z5 : mi1 τ s2 with
                  | err => rw [z5] at e; cases e
                  | ex _ _ _ => rw [z5] at e; cases e
                  | ok it1 s3 =>
                    rw [z5] at ek e
                    obtain ⟨r3, h3, it1', j1, j2, j3, j4⟩ := ek
                    rw [j1]
                    dsimp only at e ⊢
                    rw [fuel2 j3 j4]
                    cases z6 : turnsC it1 t1 vs1 tt1 el D τ (it1.fuel s3) 0 s3 with
                    | none => rw [z6] at e; cases e
                    | some s4 =>
                      rw [z6] at e
                      obtain ⟨r4, h4, m1, m2, m3⟩ := turnsC2 _ _ _ _ _ _ _ _ _ _ _ _ j3 ((w2.mono k2).mono j2) j4 (j2.pre (k2.pre d)) z6
                      rw [m1]
                      dsimp only at e ⊢
                      have ee := (k2.trans j2).trans m2
                      obtain ⟨r5, h5, n1, n2, n3⟩ := turnsD2 k (i + 1) _ _ _ _ _ _ _ _ _ _ m3 (as.mono ee) (q.mono ee) (ee.pre d) e
                      exact ⟨r5, h5, n1, ee.trans n2, n3⟩
instance {mi mi1 : MI} {t t1 : Tgt} {vs vs1 : List Nat} {tt tt1 : MT} {el : ME} [z : LI mi] [x : LT tt] [z1 : LI mi1] [x1 : LT tt1] [y : LE el] : LE (eLc2 mi t vs tt mi1 t1 vs1 tt1 el) := ⟨fun r s h σ σ' g a => (z.run r s h σ σ' g a).bind fun r1 s1 h1 v v' e1 g1 q1 => by
  obtain ⟨g2, e2⟩ := g1.new (o := .lst []) (o' := .lst []) (.lst .nil)
  rw [fuel2 g1 q1]
  cases w : turnsD v t vs tt mi1 t1 vs1 tt1 el s1.length σ (v.fuel s1) 0 (s1 ++ [.lst []]) with
  | none => trivial
  | some s2 =>
    obtain ⟨r3, h3, j1, j2, j3⟩ := turnsD2 _ _ _ _ _ _ _ _ _ _ _ _ g2 ((a.mono e1).mono e2) (q1.mono e2) g1.idx w
    rw [j1]
    exact ⟨r3, h3, _, rfl, e2.trans j2, j3, .ref (j2.pre g1.idx)⟩⟩
end ML
end
section
namespace ML
open PySem PySem.Spec PyProof.Rows L2 He
def pk4 {α : Type} (us ms ws ds : List α) (q : Nat × Nat) : Option α := match q.1 with
  | 0 => us[q.2]?
  | 1 => ms[q.2]?
  | 2 => ws[q.2]?
  | _ => ds[q.2]?
def arr4 {α : Type} : List (Nat × Nat) → List α → List α → List α → List α → List α
  | [], _, _, _, _ => []
  | q :: r, us, ms, ws, ds => match pk4 us ms ws ds q with
    | some x => x :: arr4 r us ms ws ds
    | none => arr4 r us ms ws ds
theorem arr4_vals {vs mz zs dz : List V} {us mv ws ds : List Value} (r1 : Vals vs us) (r2 : Vals mz mv) (r3 : Vals zs ws) (r4 : Vals dz ds) : ∀ sel : List (Nat × Nat), Vals (arr4 sel vs mz zs dz) (arr4 sel us mv ws ds)
  | [] => .nil
  | (k, i) :: r => by
    have t := arr4_vals r1 r2 r3 r4 r
    have key : (∃ x u, pk4 vs mz zs dz (k, i) = some x ∧ pk4 us mv ws ds (k, i) = some u ∧ RelV x u) ∨ (pk4 vs mz zs dz (k, i) = none ∧ pk4 us mv ws ds (k, i) = none) := by
      unfold pk4
      match k with
      | 0 => exact vals_at r1 i
      | 1 => exact vals_at r2 i
      | 2 => exact vals_at r3 i
      | k + 3 => exact vals_at r4 i
    unfold arr4
    rcases key with ⟨x, u, h1, h2, h3⟩ | ⟨h1, h2⟩
    · rw [h1, h2]; exact .cons h3 t
    · rw [h1, h2]; exact t
theorem arr4_rvs {G : Gx} {ρ : List Addr} {H : Hp} {vs mz zs dz : List VI} {us mv ws ds : List V} (r1 : RVs G ρ H vs us) (r2 : RVs G ρ H mz mv) (r3 : RVs G ρ H zs ws) (r4 : RVs G ρ H dz ds) : ∀ sel : List (Nat × Nat), RVs G ρ H (arr4 sel vs mz zs dz) (arr4 sel us mv ws ds)
  | [] => .nil
  | (k, i) :: r => by
    have t := arr4_rvs r1 r2 r3 r4 r
    have key : (∃ x u, pk4 vs mz zs dz (k, i) = some x ∧ pk4 us mv ws ds (k, i) = some u ∧ RV G ρ H x u) ∨ (pk4 vs mz zs dz (k, i) = none ∧ pk4 us mv ws ds (k, i) = none) := by
      unfold pk4
      match k with
      | 0 => exact rvs_at r1 i
      | 1 => exact rvs_at r2 i
      | 2 => exact rvs_at r3 i
      | k + 3 => exact rvs_at r4 i
    unfold arr4
    rcases key with ⟨x, u, h1, h2, h3⟩ | ⟨h1, h2⟩
    · rw [h1, h2]; exact .cons h3 t
    · rw [h1, h2]; exact t
theorem rvs_at2 {r : List Nat} {xs us : List VI} (q : RVs2 r xs us) (i : Nat) : (∃ x u, xs[i]? = some x ∧ us[i]? = some u ∧ RV2 r x u) ∨ (xs[i]? = none ∧ us[i]? = none) := by
  cases e : xs[i]? with
  | none => exact .inr ⟨rfl, q.none e⟩
  | some x =>
    obtain ⟨u, h1, h2⟩ := q.get e
    exact .inl ⟨x, u, rfl, h1, h2⟩
theorem arr42 {r : List Nat} {us ms ws ds us' ms' ws' ds' : List VI} (r1 : RVs2 r us us') (r2 : RVs2 r ms ms') (r3 : RVs2 r ws ws') (r4 : RVs2 r ds ds') : ∀ sel : List (Nat × Nat), RVs2 r (arr4 sel us ms ws ds) (arr4 sel us' ms' ws' ds')
  | [] => .nil
  | (k, i) :: q => by
    have t := arr42 r1 r2 r3 r4 q
    have key : (∃ x u, pk4 us ms ws ds (k, i) = some x ∧ pk4 us' ms' ws' ds' (k, i) = some u ∧ RV2 r x u) ∨ (pk4 us ms ws ds (k, i) = none ∧ pk4 us' ms' ws' ds' (k, i) = none) := by
      unfold pk4
      match k with
      | 0 => exact rvs_at2 r1 i
      | 1 => exact rvs_at2 r2 i
      | 2 => exact rvs_at2 r3 i
      | k + 3 => exact rvs_at2 r4 i
    unfold arr4
    rcases key with ⟨x, u, h1, h2, h3⟩ | ⟨h1, h2⟩
    · rw [h1, h2]; exact .cons h3 t
    · rw [h1, h2]; exact t
def lkF : List (S × MF) → S → Option MF
  | [], _ => none
  | (k, g) :: r, s => match decide (k = s) with
    | true => some g
    | false => lkF r s
def eCallL (i : Nat) (tbl : S → Option MF) (ma : MA) : ME := fun σ h => match σ[i]? with
  | some (some (.glo x)) => match tbl x with
    | some g => (ma σ h).bind fun vs h1 => g vs h1
    | none => .err
  | _ => .err
def CLOk (X : Cx) (G : Gx) (W : WX) (tbl : S → Option MF) : Prop := ∀ x g, tbl x = some g → ∃ a, G.mg (toStr x) = some (.ref a) ∧ CallM X G W (.ref a) g ∧ PySem.W.keepIn X.K (.ref a) = true
section
variable {G : Gx} {W : WX} {X : Cx} {x : Str} {p pos : Pos} {e : Expr} {es : List Expr} {ma : MA} {i : Nat} {tbl : S → Option MF}
theorem clOk_nil : CLOk X G W (lkF []) := fun _ _ h => nomatch h
theorem clOk_cons {x : S} {f : MF} {a : Addr} {r : List (S × MF)} (h1 : G.mg (toStr x) = some (.ref a)) (h2 : CallM X G W (.ref a) f) (h3 : PySem.W.keepIn X.K (.ref a) = true) (t : CLOk X G W (lkF r)) : CLOk X G W (lkF ((x, f) :: r)) := fun y g h => by
  unfold lkF at h
  cases q : decide (x = y) with
  | true =>
    rw [q] at h
    cases h
    obtain rfl := of_decide_eq_true q
    exact ⟨a, h1, h2, h3⟩
  | false => rw [q] at h; exact t y g h
theorem me_callL (hN : X.N[i]? = some x) (hv : Vis X.env.scope x) (hT : CLOk X G W tbl) (ha : PA X (e :: es) (rdA G W ma)) (hdb : (x == ("__debug__" : Str)) = false := by decide) (hcd : (x == ("__classdict__" : Str)) = false := by decide)
    (he : starEach (e :: es) X.env = (false, eval e X.env) :: starEach es X.env := by rfl) (hpl : (backTo pos (starEach es X.env)).any (·.1) = false := by rfl) : PE X (.Call (.Name x p) (e :: es) [] pos) (rdE G W (eCallL i tbl ma)) := by
  refine ⟨fun pins s σ H Q I ⟨ρ, σi, h, as, ag, fin⟩ => ?_⟩
  unfold eCallL at fin
  cases q : σi[i]? with
  | none => rw [q] at fin; exact fin.elim
  | some o =>
    rw [q] at fin
    cases o with
    | none => exact fin.elim
    | some v =>
      cases v with
      | glo y =>
        dsimp only at fin
        cases q1 : tbl y with
        | none => rw [q1] at fin; exact fin.elim
        | some g =>
          rw [q1] at fin
          obtain ⟨a, k1, k2, k3⟩ := hT y g q1
          obtain ⟨xv, hs, rx⟩ := as.at_ i _ q
          obtain ⟨a', e1, rfl⟩ : ∃ a', G.mg (toStr y) = some (.ref a') ∧ xv = .ref a' := by cases rx with | glo e => exact ⟨_, e, rfl⟩
          rw [k1] at e1
          cases e1
          refine wpAny_Call_Name_kw (thn ((pe_var (pos := p) hN hv hdb hcd).run pins s σ H (fun v H1 => v = .ref a ∧ H1 = H) I ⟨.ref a, hs, rfl, rfl⟩) fun u s1 ⟨v, H1, I1, r1, q1⟩ => ?_)
          obtain ⟨rfl, rfl⟩ := q1
          cases r1
          have A : rdA G W ma σ H1 fun vs H2 => ∃ ρ1 h1 args, RVs G ρ1 H2 args vs ∧ Ag G ρ1 h1 H2 ∧ FinG G ρ1 H2 (RV G) Q (fun c d H' => W c d σ H') (g args h1) :=
            rdG_go as ag fin fun ρ1 H1 h1 xs ys st as ag r f => ⟨ρ1, h1, xs, r, ag, f⟩
          refine PySem.W.callWith_K (h₀ := X.base) I.ok.mod.kin k3 (thn (ha.run pos pins s1 σ _ _ I1 A) fun us s2 ⟨vs, H2, I2, r, q⟩ => ⟨I2.kIn, ?_⟩) he hpl
          obtain ⟨ρ1, h1, args, ra, ag1, f1⟩ := q
          exact k2 pins s2 σ H2 us vs args ρ1 h1 Q I2 r ra ag1 f1
      | _ => exact fin.elim
end
class LTf (tbl : S → Option MF) : Prop where
  run : ∀ x g, tbl x = some g → LF g
instance : LTf (lkF []) := ⟨fun _ _ h => nomatch h⟩
instance {x : S} {f : MF} {r : List (S × MF)} [a : LF f] [b : LTf (lkF r)] : LTf (lkF ((x, f) :: r)) := ⟨fun y g h => by
  unfold lkF at h
  cases q : decide (x = y) with
  | true => rw [q] at h; cases h; exact a
  | false => rw [q] at h; exact b.run y g h⟩
instance {i : Nat} {tbl : S → Option MF} {ma : MA} [c : LTf tbl] [x : LA ma] : LE (eCallL i tbl ma) := ⟨fun r s h σ σ' g a => by
  unfold eCallL
  cases z : σ[i]? with
  | none => trivial
  | some o =>
    cases o with
    | none => trivial
    | some v =>
      obtain ⟨w, k1, k2⟩ := a.at_ i v z
      rw [k1]
      cases k2 with
      | glo y =>
        dsimp only
        cases q : tbl y with
        | none => trivial
        | some f => exact (x.run r s h σ σ' g a).bind fun r1 s1 h1 vs vs' e1 g1 q1 => (c.run y f q).run _ _ _ _ _ g1 q1
      | _ => trivial⟩
end ML
end
section
set_option maxHeartbeats 400000
namespace ML
open PySem L2
section
variable {α β : Type} {σ σ1 : Sg} {h h1 : Hi}
theorem z_bind (a : α) (f : α → Hi → Res β) : Res.bind (.ok a h) f = f a h := rfl
theorem z_bindS (a : α) (f : α → Hi → RS) : Res.bindS (.ok a h) σ f = f a h := rfl
theorem z_eC (v : VI) : eC v σ h = .ok v h := rfl
theorem z_aNil : aNil σ h = .ok [] h := rfl
def consK (x : VI) : List VI → Hi → Res (List VI) := fun xs h2 => .ok (x :: xs) h2
theorem z_aCons (a : ME) (r : MA) : aCons a r σ h = (a σ h).bind fun x h1 => (r σ h1).bind (consK x) := rfl
theorem z_consK (x : VI) (xs : List VI) : consK x xs h = .ok (x :: xs) h := rfl
def binK (f : Op2) (x : VI) : VI → Hi → Res VI := fun y h2 => ofO (f x y h2)
theorem z_eBin (f : Op2) (a b : ME) : eBin f a b σ h = (a σ h).bind fun x h1 => (b σ h1).bind (binK f x) := rfl
theorem z_binK (f : Op2) (x y : VI) : binK f x y h = ofO (f x y h) := rfl
theorem z_ofO (v : α) : ofO (some (v, h)) = .ok v h := rfl
def bolK : VI → Hi → Res Bool := fun v h1 => match v with
  | .bl b => .ok b h1
  | _ => .err
theorem z_tOf (e : ME) : tOf e σ h = (e σ h).bind bolK := rfl
theorem z_bolK (b : Bool) : bolK (.bl b) h = .ok b h := rfl
def sifK (a b : MS) (σ : Sg) : Bool → Hi → RS := fun c h1 => match c with
  | true => a σ h1
  | false => b σ h1
theorem z_sIf (t : MT) (a b : MS) : sIf t a b σ h = (t σ h).bindS σ (sifK a b σ) := rfl
theorem z_sifT (a b : MS) : sifK a b σ true h = a σ h := rfl
theorem z_sAsg (e : ME) (g : MG) : sAsg e g σ h = (e σ h).bindS σ fun v h1 => g v σ h1 := rfl
def cbK (f : OpC) : List VI → Hi → Res VI := fun vs h1 => ofO (f vs h1)
theorem z_eCB (f : OpC) (ma : MA) : eCB f ma σ h = (ma σ h).bind (cbK f) := rfl
theorem z_cbK (f : OpC) (vs : List VI) : cbK f vs h = ofO (f vs h) := rfl
end
end ML
end
section
namespace ML
open PySem PySem.Spec PyProof.Rows L2 He
def spGM (G : Gx) (np : Nat) (cs : List Nat) (g : MF) : SpG := fun vs H Q E => ∃ ρ h args, args.length = np ∧ Ag G ρ h H ∧ RVs G ρ H args vs ∧ match g args h with
  | .ex c n h' => cs.contains c = true ∧ ∀ ρ' H' d C, Stp G ρ H ρ' H' → Ag G ρ' h' H' → ρ'[n]? = some d → G.ct c = some C → E (.ref C) (some d) H'
  | _ => False
section
variable {G : Gx} {W : WX} {X : Cx} {k : Nat} {f : Addr} {fd : FuncData} {ps : List Str} {g : MF} {cs : List Nat}
theorem gfn_M {P : Program} {w : World} {K : PySem.W.Frag} {mg : Str → Option Value} {base : Heap} {x qual : Str} {params : Arguments} {body : List Stmt} {scope : Scope} {dvs : List V} {kws : List (Str × V)} {N : List Str} {n : Nat} {mb : MS}
    (F : FunD K x qual params body scope dvs kws f fd) (S : GScope N ps scope) (hn : N.length = ps.length + n)
    (hb : ∀ (cdv : Value) (A : Around) (outer : List Env) (s : Shared) (H : Hp) (E : XK) (pn : List (Addr × Obj)), Room k (gcxOf P w K mg base N qual scope f cdv A outer s H E pn).A →
      Takes (gcxOf P w K mg base N qual scope f cdv A outer s H E pn) (fun c d _ H => E c d H) →
      PassesOwn (model P w) (gcxOf P w K mg base N qual scope f cdv A outer s H E pn).A (gcxOf P w K mg base N qual scope f cdv A outer s H E pn).env (gcxOf P w K mg base N qual scope f cdv A outer s H E pn).xe →
      PSs (gcxOf P w K mg base N qual scope f cdv A outer s H E pn) body (rdS G (fun c d _ H => E c d H) mb)) : GFn P w K mg base (k + 1) f fd ps (spGM G ps.length cs (runB ps.length n mb)) := by
  obtain ⟨oc, od, dV, kV, doc, pm, an, cdv, ct, osl, rfl, lk, hcd, _, _⟩ := F.ex
  refine gfn_of lk hcd S (fun vs H Q E ⟨_, _, args, l, _, r, _⟩ => by rw [← r.length, l]) fun A outer s H vs Q E pn hr hsp => ?_
  obtain ⟨ρ, h, args, l, ag, r, fin⟩ := hsp
  refine ⟨_, gss_pss (hb cdv A outer s H E pn hr takes_gcx owns_gcx), ?_⟩
  refine ⟨ρ, _, h, ags_start r (by rw [← r.length, l]; exact hn), ag, ?_⟩
  unfold runB at fin
  rw [show Nat.beq args.length ps.length = true from by rw [l]; exact Nat.beq_refl _] at fin
  dsimp only at fin
  cases e : mb (args.map some ++ List.replicate n none) h with
  | nx σ' h' => rw [e] at fin; exact fin.elim
  | rt v h' => rw [e] at fin; exact fin.elim
  | bk σ' h' => rw [e] at fin; exact fin.elim
  | ct σ' h' => rw [e] at fin; exact fin.elim
  | ex c n σ' h' => rw [e] at fin; exact fun ρ' H' d C σ2 st a' as' hn hc => fin.2 ρ' H' d C st a' hn hc
  | err => rw [e] at fin; exact fin.elim
def eListG (cs : List Nat) (g : MF) (ma : MA) : ME := fun σ h => (ma σ h).bind fun vs h1 => match g vs h1 with
  | .ex c n h2 => match cs.contains c with
    | true => .ex c n h2
    | false => .err
  | _ => .err
def NoSt (K : PySem.W.Frag) (G : Gx) (cs : List Nat) : Prop := ∀ c ∈ cs, ∀ C, G.ct c = some C → PySem.W.subIn K (.ref C) (.type "StopIteration") = some false
theorem me_listG {E : XK} {e : Expr} {es : List Expr} {ma : MA} {x nm : Str} {p p2 pos pos' : Pos} (F : GFn X.prog X.w X.K X.mg X.base k f fd ps (spGM G ps.length cs g)) (ar : Arity ps.length g) (ns : NoSt X.K G cs) (hr : Room (k + 3) X.A) (tk : Takes X (fun c d _ H => E c d H))
    (hg : Gl X x) (hm : X.mg x = some (.ref f)) (hk : PySem.W.keepIn X.K (.ref f) = true) (hb : Binds X.K fd ps []) (ha : PA X (e :: es) (rdA G (fun c d _ H => E c d H) ma)) (hgl : Gl X nm) (hml : X.mg nm = none) (hv : bootBuiltins nm = some (.type "list"))
    (hnm : nm ≠ "__name__" := by decide) (hdb : (nm == ("__debug__" : Str)) = false := by decide) (hdb2 : (x == ("__debug__" : Str)) = false := by decide)
    (he : starEach (e :: es) X.env = (false, eval e X.env) :: starEach es X.env := by rfl) (hpl : (backTo pos' (starEach es X.env)).any (·.1) = false := by rfl)
    (he2 : starEach [.Call (.Name x p) (e :: es) [] pos'] X.env = (false, eval (.Call (.Name x p) (e :: es) [] pos') X.env) :: starEach [] X.env := by rfl) :
    PE X (.Call (.Name nm p2) [.Call (.Name x p) (e :: es) [] pos'] [] pos) (rdE G (fun c d _ H => E c d H) (eListG cs g ma)) := by
  let E' : XK := fun cls d H => E cls d H ∧ PySem.W.subIn X.K cls (.type "StopIteration") = some false
  have hx : Passes (L2.CX X.prog X.w) X E' := passes_call tk fun c d σ H z => z.1
  have hns : NoStop X.K E' := fun c d H z => z.2
  refine PE.imp' (pe_listG (pgen_call (E := E') (dvs := []) (ds := []) F (hr.mono (by omega)) hg hm hk hb .nil ha hdb2 he hpl) hx hns hr hgl hml hv hnm hdb he2) fun σ H Q ⟨ρ, σi, h, as, ag, fin⟩ => ?_
  unfold eListG at fin
  refine rdG_go (W := fun c d _ H => E c d H) as ag fin fun ρ1 H1 h1 xs ys st as1 ag1 r fi => ?_
  show spGM G ps.length cs g (ys ++ []) H1 _ E'
  rw [List.append_nil]
  by_cases hl : xs.length = ps.length
  · refine ⟨ρ1, h1, xs, hl, ag1, r, ?_⟩
    cases q : g xs h1 with
    | ok v h2 => rw [q] at fi; exact fi.elim
    | err => rw [q] at fi; exact fi.elim
    | ex c n h2 =>
      rw [q] at fi
      dsimp only at fi
      cases q2 : cs.contains c with
      | false => rw [q2] at fi; exact fi.elim
      | true =>
        rw [q2] at fi
        exact ⟨q2, fun ρ' H' d C st' ag' hn hc => ⟨fi ρ' H' d C st' ag' hn hc, ns c (by simpa using q2) C hc⟩⟩
  · rw [ar xs h1 hl] at fi
    exact fi.elim
end
structure DOkL (P : Program) (w : World) (K : PySem.W.Frag) (mg : Str → Option Value) (base : Heap) (nm : Nat → Option Str) (k : Nat) (p : Defn) (ps : List Str) (cs : List Nat) (g : MF) : Prop where
  ok : GFn P w K mg base k (p K) (fdOf K p) ps (spGM (GxOf K mg nm) ps.length cs g)
  ar : Arity ps.length g
  kp : PySem.W.keepIn K (.ref (p K)) = true
section
variable {X : Cx} {k k' : Nat} {ps : List Str} {g : MF} {cs : List Nat} {nm : Nat → Option Str}
def nsB (K : PySem.W.Frag) (x : Str) : Bool := decide (PySem.W.subIn K (.ref (ga K x)) (.type "StopIteration") = some false)
theorem noSt_nil {K : PySem.W.Frag} {G : Gx} : NoSt K G [] := fun c h => nomatch h
theorem noSt_cons {K : PySem.W.Frag} {mg : Str → Option Value} {c : Nat} {x : Str} {cs : List Nat} (hn : nm c = some x) (hB : nsB K x = true) (t : NoSt K (GxOf K mg nm) cs) : NoSt K (GxOf K mg nm) (c :: cs) := fun c' h C e => by
  rcases List.mem_cons.mp h with z | z
  · subst z
    rw [gx_ct e hn]
    exact of_decide_eq_true hB
  · exact t c' z C e
theorem xlistG {E : XK} {e : Expr} {es : List Expr} {ma : MA} {x nl : Str} {p p2 pos pos' : Pos} (d : DOkL X.prog X.w X.K X.mg X.base nm k (gA x) ps cs g) (bn : BOk X.K (gA x) ps) (ns : NoSt X.K (GxOf X.K X.mg nm) cs) (hr : Room k' X.A) (tk : Takes X (fun c d _ H => E c d H)) (hm : X.mg x = some (.ref (ga X.K x)))
    (ha : PA X (e :: es) (rdA (GxOf X.K X.mg nm) (fun c d _ H => E c d H) ma)) (hgl : Gl X nl) (hml : X.mg nl = none) (hv : bootBuiltins nl = some (.type "list")) (h : k + 3 ≤ k' := by decide) (hg : Gl X x := by rfl)
    (hnm : nl ≠ "__name__" := by decide) (hdb : (nl == ("__debug__" : Str)) = false := by decide) (hdb2 : (x == ("__debug__" : Str)) = false := by decide)
    (he : starEach (e :: es) X.env = (false, eval e X.env) :: starEach es X.env := by rfl) (hpl : (backTo pos' (starEach es X.env)).any (·.1) = false := by rfl)
    (he2 : starEach [.Call (.Name x p) (e :: es) [] pos'] X.env = (false, eval (.Call (.Name x p) (e :: es) [] pos') X.env) :: starEach [] X.env := by rfl) :
    PE X (.Call (.Name nl p2) [.Call (.Name x p) (e :: es) [] pos'] [] pos) (rdE (GxOf X.K X.mg nm) (fun c d _ H => E c d H) (eListG cs g ma)) :=
  me_listG d.ok d.ar ns (hr.mono h) tk hg hm d.kp bn ha hgl hml hv hnm hdb hdb2 he hpl he2
end
end ML
end
section
namespace ML
open PySem PySem.Spec PyProof.Rows L2 He
def fEqZ : Op2 := fun x y h => match x, y with
  | .ref a, .ref b => match h[a]?, h[b]? with
    | some (.lst xa), some (.lst xb) => match Nat.beq xa.length xb.length with
      | true => fEqX x y h
      | false => some (.bl false, h)
    | _, _ => fEqX x y h
  | _, _ => fEqX x y h
section
variable {G : Gx} {ρ : List Addr} {h : Hi} {H : Hp} {X : Cx} {Q : VK}
end
section
variable {r : List Nat} {s h : Hi}
instance : LOp fEqZ := ⟨fun r s h x y x' y' g p q => by
  have old := LOp.run (f := fEqX) r s h x y x' y' g p q
  unfold fEqZ
  cases p with
  | ref i =>
    cases q with
    | ref j =>
      obtain ⟨o, o', z1, z2, z3⟩ := g.no i
      obtain ⟨u, u', y1, y2, y3⟩ := g.no j
      dsimp only
      rw [z1, z2, y1, y2]
      cases z3 with
      | lst t =>
        cases y3 with
        | lst t' =>
          dsimp only
          rw [← t.length, ← t'.length]
          rename_i ka kb la lb
          cases f : Nat.beq ka.length la.length with
          | true => exact old
          | false => exact .ok g (.bl _)
        | _ => exact old
      | _ => exact old
    | _ => exact old
  | _ => exact old⟩
end
end ML
end
section
namespace L2
open PySem PySem.Spec PyProof.Rows
section
variable {X : Cx}
end
end L2
namespace ML
open PySem L2
def fMulX : Op2 := fun x y h => match x, y with
  | .tup xs, .int k => match decide (k = 1) with
    | true => some (.tup xs, h)
    | false => match decide (k = 0) && !xs.isEmpty with
      | true => some (.tup [], h)
      | false => fMul x y h
  | x, y => fMul x y h
variable {X : Cx} {G : Gx}
instance : LOp fMulX := ⟨fun r s h x y x' y' g p q => by
  have fb := LOp.run (f := fMul) r s h _ _ _ _ g p q
  unfold fMulX
  cases p with
  | tup i =>
    cases q with
    | int j =>
      dsimp only
      rw [isEmp2 i]
      split
      · exact .ok g (.tup i)
      · split
        · exact .ok g (.tup .nil)
        · exact fb
    | _ => exact fb
  | _ => exact fb⟩
end ML
end
section
namespace ML
open PySem PySem.Spec PyProof.Rows L2 He
section
variable {G : Gx} {W : WX} {X : Cx} {A : Around} {ρ : List Addr} {h : Hi} {H : Hp} {σ : L2.St} {k np : Nat} {f C : Addr} {fd : FuncData} {ps : List Str} {g : MF} {e : Expr} {es : List Expr} {pos p pos' : Pos} {ma : MA} {me : ME} {i : Nat} {x : Str} {tbl : Nat → Option MF}
def eCallI (i : Nat) (tbl : Nat → Option MF) (ma : MA) : ME := fun σ h => match σ[i]? with
  | some (some x) => match insC x h with
    | some _ => (ma σ h).bind fun vs h1 => match insC x h1 with
      | some c => match tbl c with
        | some g => g (x :: vs) h1
        | none => .err
      | none => .err
    | none => .err
  | _ => .err
def sAugU (i : Nat) (tbl : Nat → Option MF) (e : ME) : MS := fun σ h => match σ[i]? with
  | some (some x) => (e σ h).bindS σ fun y h1 => match insC x h1 with
    | some c => match tbl c with
      | some g => match g [x, y] h1 with
        | .ok z h2 => .nx (σ.set i (some z)) h2
        | _ => .err
      | none => .err
    | none => .err
  | _ => .err
end
section
variable {Y : Cx} {W : WX} {nm : Nat → Option Str} {mg : Str → Option Value}
end
section
variable {X : Cx} {W : WX} {nm : Option Str}
end
section
variable {X : Cx} {W : WX} {nm : Nat → Option Str} {e : Expr} {es : List Expr} {p pos : Pos} {ma : MA}
end
section
variable {ma : MA} {me : ME}
instance {i : Nat} {tbl : Nat → Option MF} [c : LTb tbl] [x : LA ma] : LE (eCallI i tbl ma) := ⟨fun r s h σ σ' g a => by
  unfold eCallI
  cases z : σ[i]? with
  | none => trivial
  | some o =>
    cases o with
    | none => trivial
    | some v =>
      obtain ⟨w, k1, k2⟩ := a.at_ i v z
      rw [k1]
      dsimp only
      rw [ins2 g k2]
      cases z0 : insC v s with
      | none => trivial
      | some d0 =>
        dsimp only
        refine (x.run r s h σ σ' g a).bind fun r1 s1 h1 vs vs' e1 g1 q1 => ?_
        rw [ins2 g1 (k2.mono e1)]
        cases z1 : insC v s1 with
        | none => trivial
        | some d =>
          dsimp only
          cases w0 : tbl d with
          | none => trivial
          | some u => exact (c.run _ _ w0).run _ _ _ _ _ g1 (.cons (k2.mono e1) q1)⟩
instance {i : Nat} {tbl : Nat → Option MF} [c : LTb tbl] [y : LE me] : LS (sAugU i tbl me) := ⟨fun r s h σ σ' g a => by
  unfold sAugU
  cases z : σ[i]? with
  | none => trivial
  | some o =>
    cases o with
    | none => trivial
    | some v =>
      obtain ⟨w, k1, k2⟩ := a.at_ i v z
      rw [k1]
      refine (y.run _ _ _ _ _ g a).bindS a fun r1 s1 h1 u u' e1 g1 q1 => ?_
      rw [ins2 g1 (k2.mono e1)]
      cases z1 : insC v s1 with
      | none => trivial
      | some d =>
        dsimp only
        cases w0 : tbl d with
        | none => trivial
        | some f =>
          have t := (c.run _ _ w0).run _ _ _ _ _ g1 (.cons (k2.mono e1) (.cons q1 .nil))
          cases z2 : f [v, u] s1 with
          | err => simp only [z2]; trivial
          | ex _ _ _ => simp only [z2]; trivial
          | ok z h2 =>
            rw [z2] at t
            obtain ⟨r2, h2, v', m1, m2, m3, m4⟩ := t
            simp only [m1, z2]
            exact ⟨r2, h2, _, rfl, m2, m3, ((a.mono e1).mono m2).set m4 i⟩⟩
end
end ML
end
section
namespace ML
open PySem PySem.Spec PyProof.Rows L2 He
def augEK (i : Nat) (tbl : Nat → Option MF) (σ : Sg) (x y : VI) (h1 : Hi) : RS := match insC x h1 with
  | some c => match tbl c with
    | some g => (g [x, y] h1).bindS σ fun z h2 => .nx (σ.set i (some z)) h2
    | none => .err
  | none => .err
def sAugE (i : Nat) (tbl : Nat → Option MF) (e : ME) : MS := fun σ h => match σ[i]? with
  | some (some x) => (e σ h).bindS σ (augEK i tbl σ x)
  | _ => .err
section
variable {G : Gx} {W : WX} {X : Cx} {op : Operator} {tbl : Nat → Option MF} {e : Expr} {me : ME} {i : Nat} {x : Str} {pos pos' : Pos}
def onlyS (mt : Nat → Option Bool) (su : MS) (c n : Nat) (σ : Sg) (h : Hi) : RS := match mt c with
  | some true => match su σ h with
    | .ex _ _ _ _ => .err
    | r => r
  | some false => .ex c n σ h
  | none => .err
def sTryO (body : MS) (mt : Nat → Option Bool) (su : MS) : MS := fun σ h => match body σ h with
  | .ex c n σ' h' => onlyS mt su c n σ' h'
  | r => r
end
section
variable {Y : Cx} {W : WX} {nm : Nat → Option Str} {mg : Str → Option Value}
end
def gLstM (gs : List MG) : MG := fun v σ h => match v with
  | .ref n => match listAt n h with
    | some xs => match Nat.beq xs.length gs.length with
      | true => gSeq gs xs σ h
      | false => .err
    | none => .err
  | _ => .err
section
variable {G : Gx} {W : WX} {X : Cx} {es : List Expr} {gs : List MG} {k : Nat} {pos : Pos}
end
end ML
end
section
namespace ML
open PySem PySem.Spec PyProof.Rows L2 He
def reprS (i : Int) : S := (Str.ofString (toString i)).cps.toList
def cRepr : OpC := fun vs h => match vs with
  | [.int i] => match decide (i.natAbs.log2 < 1920) with
    | true => some (.str (reprS i), h)
    | false => none
  | _ => none
section
variable {G : Gx} {X : Cx}
end
instance : LOc cRepr := ⟨fun r s h vs vs' g t => by
  unfold cRepr
  cases t with
  | nil => trivial
  | cons p t =>
    cases t with
    | cons _ _ => cases p <;> trivial
    | nil =>
      cases p with
      | int i =>
        dsimp only
        cases decide (i.natAbs.log2 < 1920) with
        | false => trivial
        | true => exact .ok g (.str _)
      | _ => trivial⟩
end ML
end
section
namespace ML
open PySem PySem.Spec PyProof.Rows L2 He
def kM (n : Nat) (gk : MK) : MF := fun vs h => match Nat.beq vs.length n with
  | true => gk vs [] h
  | false => .err
instance {n : Nat} {g : MF} {arr : List VI → List VI → List VI} [x : LF g] [y : LAr arr] : LF (kM n (fnK g arr)) := ⟨fun r s h vs vs' a t => by
  unfold kM
  rw [t.length]
  cases Nat.beq vs'.length n with
  | true => exact x.run _ _ _ _ _ a (y.run _ _ _ _ _ t .nil)
  | false => trivial⟩
instance {n m : Nat} {k : OpC} {b b' : MA} [x : LOc k] [y : LA2 n m b b'] : LE2 n m (eCB k b) (eCB k b') := ⟨fun r s h σ σ' q g a => (y.run r s h σ σ' q g a).bind fun r1 s1 h1 v v' e1 g1 q1 => .ofO (x.run _ _ _ _ _ g1 q1)⟩
end ML
end
section
namespace ML
open PySem PySem.Spec PyProof.Rows L2 He
open AutoSeq1 (wpAny_loadPart')
open MeetsSeq
section
variable {prog : Program} {w : World} {A : Around} {E : Value → Shared → Prop} {s : Shared}
end
section
variable {prog : Program} {w : World} {A : Around} {E : Value → Shared → Prop} {s : Shared} {x : Addr} {o : Obj}
end
end ML
end
section
namespace ML
open PySem PySem.Spec PyProof.Rows L2 He
def pch (c : Nat) : Bool := Nat.ble 32 c && (Nat.ble c 126 && (!Nat.beq c 39 && !Nat.beq c 92))
def digS (n : Nat) : S := (Nat.toDigits 10 n).map Char.toNat
def intS : Int → S
  | .ofNat n => digS n
  | .negSucc n => 45 :: digS (n + 1)
def joinS : List S → S
  | [] => []
  | [x] => x
  | x :: y :: r => x ++ ([44, 32] ++ joinS (y :: r))
mutual
def shD : PyData → Option S
  | .none => some [78, 111, 110, 101]
  | .bool b => some (if b then [84, 114, 117, 101] else [70, 97, 108, 115, 101])
  | .int i => if i.natAbs.log2 < 1920 then some (intS i) else none
  | .str x => if x.cps.toList.all pch then some (39 :: (x.cps.toList ++ [39])) else none
  | .list xs => match shDs xs with
    | some ts => some (91 :: (joinS ts ++ [93]))
    | none => none
  | .tuple xs => match shDs xs with
    | some ts => some (40 :: (joinS ts ++ (if ts.length == 1 then [44, 41] else [41])))
    | none => none
  | .dict _ => none
def shDs : List PyData → Option (List S)
  | [] => some []
  | x :: xs => match shD x with
    | some t => match shDs xs with
      | some ts => some (t :: ts)
      | none => none
    | none => none
end
theorem toStr_app (a b : S) : toStr (a ++ b) = toStr a ++ toStr b := by
  show (⟨(a ++ b).toArray⟩ : Str) = ⟨a.toArray ++ b.toArray⟩
  simp
theorem toStr_str (s : String) : (Str.ofString s) = toStr (s.toList.map Char.toNat) := by rw [Str.ofString_eq_toList]; rfl
theorem pch_print : ∀ c < 127, pch c = true → PySem.Unicode.isPrintable c = true := by decide +kernel
theorem rch {c : Nat} (h : pch c = true) : PySem.Builtin.Str.reprChar 39 c = [c] := by
  have h0 := h
  unfold pch at h
  simp only [Bool.and_eq_true, Bool.not_eq_true'] at h
  obtain ⟨h1, h2, h3, h4⟩ := h
  have a1 := Nat.le_of_ble_eq_true h1
  have a2 := Nat.le_of_ble_eq_true h2
  have a3 : c ≠ 39 := fun z => by rw [z] at h3; cases h3
  have a4 : c ≠ 92 := fun z => by rw [z] at h4; cases h4
  have p := pch_print c (by omega) h0
  unfold PySem.Builtin.Str.reprChar
  have b1 : (c == 39) = false := beq_eq_false_iff_ne.mpr a3
  have b2 : (c == 92) = false := beq_eq_false_iff_ne.mpr a4
  have b3 : (c == 10) = false := beq_eq_false_iff_ne.mpr (by omega)
  have b4 : (c == 13) = false := beq_eq_false_iff_ne.mpr (by omega)
  have b5 : (c == 9) = false := beq_eq_false_iff_ne.mpr (by omega)
  simp only [b1, b2, b3, b4, b5, p, Bool.or_self, Bool.false_eq_true, if_false, if_true]
theorem rtext {x : Str} (h : x.cps.toList.all pch = true) : reprText x = toStr (39 :: (x.cps.toList ++ [39])) := by
  have q : reprQuote x = 39 := by
    unfold reprQuote
    have n : x.cps.contains 39 = false := by
      rw [← Array.contains_toList]
      rw [Bool.eq_false_iff]
      intro z
      have := List.all_eq_true.mp h 39 (by simpa using z)
      cases this
    rw [n]
    rfl
  unfold reprText
  rw [q, ← Array.foldl_toList]
  have go : ∀ (l : List Nat) (acc : Array Nat), l.all pch = true → l.foldl (fun out c => out ++ (PySem.Builtin.Str.reprChar 39 c).toArray) acc = (acc.toList ++ l).toArray := by
    intro l
    induction l with
    | nil => intro acc _; simp
    | cons c l ih =>
      intro acc ha
      rw [List.all_cons, Bool.and_eq_true] at ha
      rw [List.foldl_cons, rch ha.1, ih _ ha.2]
      simp
  rw [go _ _ h]
  unfold toStr
  simp
theorem textFrom_join : ∀ (ts : List S) (k : Nat) (acc : Str), textFrom k acc (ts.map toStr) = acc ++ toStr (if k > 0 then (ts.flatMap fun t => [44, 32] ++ t) else joinS ts)
  | [], k, acc => by
    show acc = _
    have e : toStr ([] : S) = ⟨#[]⟩ := rfl
    split
    · show acc = acc ++ toStr []; rw [e]; show acc = ⟨acc.cps ++ #[]⟩; simp
    · show acc = acc ++ toStr []; rw [e]; show acc = ⟨acc.cps ++ #[]⟩; simp
  | t :: r, k, acc => by
    show textFrom (k + 1) (acc ++ (if k > 0 then ", " else "" : String) ++ toStr t) (r.map toStr) = _
    rw [textFrom_join r (k + 1), if_pos (Nat.succ_pos k)]
    have fl : ∀ (x : S) (r : List S), x ++ (r.flatMap fun t => [44, 32] ++ t) = joinS (x :: r) := by
      intro x r
      induction r generalizing x with
      | nil => simp [joinS]
      | cons y r ih => rw [List.flatMap_cons, joinS, ← ih y]; simp
    by_cases hk : k > 0
    · rw [if_pos hk, if_pos hk]
      have c : (Str.ofString ", ") = toStr [44, 32] := toStr_str _
      show (acc ++ Str.ofString ", " ++ toStr t) ++ _ = _
      rw [c, List.flatMap_cons]
      simp only [toStr_app]
      show (⟨_⟩ : Str) = ⟨_⟩
      congr 1
      show (acc.cps ++ _ ++ _) ++ _ = acc.cps ++ ((_ ++ _) ++ _)
      simp only [Array.append_assoc]
    · rw [if_neg hk, if_neg hk, ← fl]
      have c : (Str.ofString "") = toStr [] := toStr_str _
      show (acc ++ Str.ofString "" ++ toStr t) ++ _ = _
      rw [c]
      simp only [toStr_app]
      show (⟨_⟩ : Str) = ⟨_⟩
      congr 1
      show (acc.cps ++ (#[] : Array Nat) ++ _) ++ _ = acc.cps ++ (_ ++ _)
      simp only [Array.append_assoc, Array.append_empty, Array.empty_append]
theorem join_join : ∀ ts : List S, Str.join ", " (ts.map toStr) = toStr (joinS ts)
  | [] => rfl
  | [x] => rfl
  | x :: y :: r => by
    show toStr x ++ Str.ofString ", " ++ Str.join ", " ((y :: r).map toStr) = _
    rw [join_join (y :: r), toStr_str]
    show _ = toStr (x ++ ([44, 32] ++ joinS (y :: r)))
    simp only [toStr_app]
    show (⟨_⟩ : Str) = ⟨_⟩
    congr 1
    show (_ ++ _) ++ _ = _ ++ (_ ++ _)
    simp only [Array.append_assoc]
    rfl
theorem list_text (ts : List S) : listText (ts.map toStr) = toStr (91 :: (joinS ts ++ [93])) := by
  unfold listText
  rw [textFrom_join]
  show Str.ofString "[" ++ _ ++ Str.ofString "]" = _
  rw [if_neg (by decide), toStr_str, toStr_str, ← toStr_app, ← toStr_app]
  rfl
theorem tuple_text (ts : List S) : tupleText (ts.map toStr) = toStr (40 :: (joinS ts ++ (if ts.length == 1 then [44, 41] else [41]))) := by
  unfold tupleText
  rw [join_join, List.length_map]
  have e : (Str.ofString (if ts.length == 1 then ",)" else ")")) = toStr (if ts.length == 1 then [44, 41] else [41]) := by
    split
    · rw [toStr_str]; rfl
    · rw [toStr_str]; rfl
  show Str.ofString "(" ++ _ ++ Str.ofString _ = _
  rw [e, toStr_str, ← toStr_app, ← toStr_app]
  rfl
theorem int_text (i : Int) : (Str.ofString (toString i)) = toStr (intS i) := by
  rw [toStr_str]
  congr 1
  cases i with
  | ofNat n =>
    show (toString (Int.ofNat n)).toList.map Char.toNat = digS n
    have : toString (Int.ofNat n) = Nat.repr n := rfl
    rw [this, Nat.repr]
    unfold digS
    simp
  | negSucc n =>
    have : toString (Int.negSucc n) = "-" ++ Nat.repr (n + 1) := rfl
    rw [this, Nat.repr]
    show _ = 45 :: digS (n + 1)
    unfold digS
    simp
mutual
theorem shD_ok : ∀ (d : PyData) (s : S), shD d = some s → d.shown = toStr s ∧ d.showable = true
  | .none, s, e => by
    cases e
    refine ⟨?_, rfl⟩
    show Str.ofString "None" = _
    rw [toStr_str]; rfl
  | .bool b, s, e => by
    cases e
    refine ⟨?_, rfl⟩
    simp only [PyData.shown]
    cases b
    · exact toStr_str "False"
    · exact toStr_str "True"
  | .int i, s, e => by
    unfold shD at e
    split at e
    · cases e
      rename_i q
      refine ⟨?_, ?_⟩
      · show Str.ofString (toString i) = _
        exact int_text i
      · simp only [PyData.showable, decide_eq_true_eq]; exact q
    · cases e
  | .str x, s, e => by
    unfold shD at e
    split at e
    · cases e
      rename_i q
      exact ⟨rtext q, rfl⟩
    · cases e
  | .list xs, s, e => by
    unfold shD at e
    cases q : shDs xs with
    | none => rw [q] at e; cases e
    | some ts =>
      rw [q] at e
      cases e
      obtain ⟨h1, h2⟩ := shDs_ok xs ts q
      refine ⟨?_, by simp only [PyData.showable]; exact h2⟩
      simp only [PyData.shown]
      rw [h1]
      exact list_text ts
  | .tuple xs, s, e => by
    unfold shD at e
    cases q : shDs xs with
    | none => rw [q] at e; cases e
    | some ts =>
      rw [q] at e
      cases e
      obtain ⟨h1, h2⟩ := shDs_ok xs ts q
      refine ⟨?_, by simp only [PyData.showable]; exact h2⟩
      simp only [PyData.shown]
      rw [h1]
      exact tuple_text ts
  | .dict _, s, e => by cases e
theorem shDs_ok : ∀ (ds : List PyData) (ts : List S), shDs ds = some ts → PyData.shownAll ds = ts.map toStr ∧ PyData.showableAll ds = true
  | [], ts, e => by cases e; exact ⟨rfl, rfl⟩
  | d :: ds, ts, e => by
    unfold shDs at e
    cases q : shD d with
    | none => rw [q] at e; cases e
    | some t =>
      rw [q] at e
      cases q2 : shDs ds with
      | none => rw [q2] at e; cases e
      | some us =>
        rw [q2] at e
        cases e
        obtain ⟨h1, h2⟩ := shD_ok d t q
        obtain ⟨h3, h4⟩ := shDs_ok ds us q2
        refine ⟨?_, ?_⟩
        · simp only [PyData.shownAll, List.map_cons]
          rw [h1, h3]
        · simp only [PyData.showableAll, h2, h4, Bool.and_self]
end
def cRepD : OpC := fun vs h => match vs with
  | [v] => match dat 12 h v with
    | some d => match shD d with
      | some s => match Nat.ble d.depth 20 && small s.length with
        | true => some (.str s, h)
        | false => none
      | none => none
    | none => none
  | _ => none
section
variable {G : Gx} {X : Cx}
end
end ML
end
section
namespace ML
open PySem PySem.Spec PyProof.Rows L2 He
structure FnOkG (P : Program) (w : World) (K : PySem.W.Frag) (mg : Str → Option Value) (base : Heap) (k : Nat) (f : Addr) (fd : FuncData) (ps : List Str) (sp : Sp) : Prop where
  gl : ∀ vs H Q E, sp vs H Q E → vs.length = ps.length
  go : ∀ (B : Around) (out : List Env) (t : Shared) (H : Hp) (a : Args) (us : List Value) (vs : List V) (Q : VK) (E : XK), B.guards = some [] → Room k B → Env0 P w K mg base B out t H → BindsTo t fd a (ps.zip us) → Vals vs us → sp vs H Q E →
    codeAny (model P w) B (.call (.ref f) a) (CR (L2.CX P w) out P w H t Q E) t
section
variable {G : Gx} {W : WX} {X : Cx} {k np : Nat} {f : Addr} {fd : FuncData} {ps : List Str} {g : MF} {P : Program} {w : World} {K : PySem.W.Frag} {mg : Str → Option Value} {base : Heap}
end
structure DOkG (P : Program) (w : World) (K : PySem.W.Frag) (mg : Str → Option Value) (base : Heap) (nm : Nat → Option Str) (k : Nat) (p : Defn) (ps : List Str) (g : MF) : Prop where
  ok : FnOkG P w K mg base k (p K) (fdOf K p) ps (spM (GxOf K mg nm) ps.length g)
  ar : Arity ps.length g
  kp : PySem.W.keepIn K (.ref (p K)) = true
section
variable {G : Gx} {W : WX} {X : Cx} {e : Expr} {es : List Expr} {pos p : Pos} {ma : MA} {nm : Nat → Option Str}
end
section
variable {P : Program} {w : World} {K : PySem.W.Frag} {mg mb : Str → Option Value} {k : Nat} {fa a : Addr} {fd : FuncData} {x : Str} {sp : Sp} {s1 : Shared} {vs : List Value} {ns : List Int}
end
end ML
end
section
namespace PySem
open Sem (wp)
open AutoSeq1 (wpAny_loadPart')
section
variable {prog : Program} {w : World} {A : Around} {E : Value → Shared → Prop} {s : Shared}
end
end PySem
namespace L2
open PySem PySem.Spec PyProof.Rows
end L2
namespace ML
open PySem PySem.Spec PyProof.Rows L2 He
def enumV (xs : List VI) : List VI := xs.mapIdx fun i x => .tup [.int (i : Nat), x]
def enuOf : VI → Hi → Option Itm := fun v h => match v with
  | .tup xs => some (.tup (enumV xs))
  | v => enlOf v h
def iEnumU (e : ME) : MI := fun σ h => (e σ h).bind fun v h1 => ofI (enuOf v h1) h1
section
variable {G : Gx} {W : WX} {X : Cx} {e : Expr} {me : ME} {ρ : List Addr} {H : Hp} {p pos tpos : Pos} {elts : List Expr} {kk : Nat}
end
end ML
namespace ML
open PySem PySem.Spec PyProof.Rows L2 He
theorem enumV_r2 {r : List Nat} {xs ys : List VI} (t : RVs2 r xs ys) : RVs2 r (enumV xs) (enumV ys) := by
  have go : ∀ (xs ys : List VI) (k : Nat), RVs2 r xs ys → RVs2 r (xs.mapIdx fun i x => .tup [.int ((i + k : Nat)), x]) (ys.mapIdx fun i x => .tup [.int ((i + k : Nat)), x]) := by
    intro xs
    induction xs with
    | nil => intro ys k t; cases t; exact .nil
    | cons x xs ih =>
      intro ys k t
      cases t with
      | @cons _ y _ ys' p q =>
        simp only [List.mapIdx_cons]
        refine .cons (.tup (.cons (.int _) (.cons p .nil))) ?_
        have := ih ys' (k + 1) q
        simpa [Nat.add_assoc, Nat.add_comm 1 k] using this
  have := go xs ys 0 t
  simpa [enumV] using this
instance {ma : ME} [x : LE ma] : LI (iEnumU ma) := ⟨fun r s h σ σ' g a => (x.run r s h σ σ' g a).bind fun r1 s1 h1 v v' e1 g1 q1 => by
  unfold enuOf
  cases q1 with
  | @ref n m p =>
    have k := listAt2 g1 p
    unfold enlOf
    dsimp only
    cases z1 : listAt n s1 with
    | none => trivial
    | some xs => cases z2 : listAt m h1 with
      | none => rw [z1, z2] at k; exact k.elim
      | some ys => exact .ok g1 (.enl p)
  | tup t => exact .ok g1 (.tup (enumV_r2 t))
  | _ => trivial⟩
end ML
end
section
namespace ML
open PySem L2
def kdInK (neg : Bool) (tbl : S → Option VI) : VI → Hi → Res VI := fun v h1 => match v with
  | .str s => match tbl s with
    | some _ => .ok (.bl (!neg)) h1
    | none => .err
  | _ => .err
def eKdIn (neg : Bool) (tbl : S → Option VI) (b : ME) : ME := fun σ h => (b σ h).bind (kdInK neg tbl)
section
variable {G : Gx} {W : WX} {X : Cx} {b : Expr} {pos p : Pos} {mb : ME}
end
end ML
end
section
namespace ML
open PySem L2
instance {neg : Bool} {tbl : S → Option VI} {ma : ME} [x : LE ma] : LE (eKdIn neg tbl ma) := ⟨fun r s h σ σ' g a => (x.run r s h σ σ' g a).bind fun r1 s1 h1 v v' e1 g1 q1 => by
  cases q1 with
  | str y =>
    dsimp only [kdInK]
    cases z : tbl y with
    | none => trivial
    | some w => exact .ok g1 (.bl _)
  | _ => trivial⟩
end ML
end
section
namespace HT
open PySem PySem.Spec PyProof.Rows L2
section
variable {prog : Program} {w : World} {A : Around} {E : Value → Shared → Prop} {s : Shared}
end
end HT
namespace L2
open PySem PySem.Spec PyProof.Rows
section
variable {X : Cx}
end
end L2
namespace ML
open PySem L2
section
variable {G : Gx} {W : WX} {X : Cx} {e : Expr} {me : ME} {ρ : List Addr} {H : Hp}
theorem RVs.reverse : ∀ {xs : List VI} {ys : List V}, RVs G ρ H xs ys → RVs G ρ H xs.reverse ys.reverse
  | _, _, .nil => .nil
  | _, _, .cons h t => by
    rw [List.reverse_cons, List.reverse_cons]
    exact (RVs.reverse t).append (.cons h .nil)
def revM (x : VI) (h : Hi) : Option (VI × Hi) := match x with
  | .tup xs => some (.tup xs.reverse, h)
  | .ref n => match h[n]? with
    | some (.lst xs) => some (.ref h.length, h ++ [.lst xs.reverse])
    | some (.scr xs) => some (.ref h.length, h ++ [.lst xs.reverse])
    | _ => none
  | _ => none
def eRev (e : ME) : ME := fun σ h => (e σ h).bind fun x h1 => ofO (revM x h1)
end
end ML
end
section
namespace ML
open PySem L2
theorem RVs2.reverse {r : List Nat} : ∀ {v x : List VI}, RVs2 r v x → RVs2 r v.reverse x.reverse
  | _, _, .nil => .nil
  | _, _, .cons a t => by
    rw [List.reverse_cons, List.reverse_cons]
    exact (RVs2.reverse t).append (.cons a .nil)
instance {ma : ME} [x : LE ma] : LE (eRev ma) := ⟨fun r s h σ σ' g a => (x.run r s h σ σ' g a).bind fun r1 s1 h1 v v' e1 g1 q1 => by
  refine .ofO ?_
  unfold revM
  cases q1 with
  | tup t => exact .ok g1 (.tup t.reverse)
  | ref i =>
    obtain ⟨o, o', z1, z2, z3⟩ := g1.no i
    dsimp only
    rw [z1, z2]
    cases z3 with
    | lst t => exact .new g1 fun r' e => .lst (t.reverse.mono e)
    | scr t => exact .new g1 fun r' e => .lst (t.reverse.mono e)
    | _ => trivial
  | _ => trivial⟩
end ML
end
section
namespace ML
open PySem L2
instance {i : Nat} {tbl : Nat → Option MF} {me : ME} [c : LTb tbl] [y : LE me] : LS (sAugE i tbl me) := ⟨fun r s h σ σ' g a => by
  unfold sAugE
  cases z : σ[i]? with
  | none => trivial
  | some o =>
    cases o with
    | none => trivial
    | some v =>
      obtain ⟨w, k1, k2⟩ := a.at_ i v z
      rw [k1]
      refine (y.run _ _ _ _ _ g a).bindS a fun r1 s1 h1 u u' e1 g1 q1 => ?_
      unfold augEK
      rw [ins2 g1 (k2.mono e1)]
      cases z1 : insC v s1 with
      | none => trivial
      | some d =>
        dsimp only
        cases w0 : tbl d with
        | none => trivial
        | some f => exact ((c.run _ _ w0).run _ _ _ _ _ g1 (.cons (k2.mono e1) (.cons q1 .nil))).bindS (a.mono e1) fun r2 s2 h2 z z' e2 g2 q2 => ⟨r2, h2, _, rfl, .refl, g2, ((a.mono e1).mono e2).set q2 i⟩⟩
instance {body su : MS} {mt : Nat → Option Bool} [x : LS body] [y : LS su] : LS (sTryO body mt su) := ⟨fun r s h σ σ' g a => by
  have k := x.run r s h σ σ' g a
  unfold sTryO
  cases z : body σ s with
  | err => trivial
  | nx σ1 s' => rw [z] at k; obtain ⟨r2, h2, m, e1, e2, g2, a2⟩ := k; rw [e1]; exact ⟨r2, h2, _, rfl, e2, g2, a2⟩
  | bk σ1 s' => rw [z] at k; obtain ⟨r2, h2, m, e1, e2, g2, a2⟩ := k; rw [e1]; exact ⟨r2, h2, _, rfl, e2, g2, a2⟩
  | ct σ1 s' => rw [z] at k; obtain ⟨r2, h2, m, e1, e2, g2, a2⟩ := k; rw [e1]; exact ⟨r2, h2, _, rfl, e2, g2, a2⟩
  | rt v s' => rw [z] at k; obtain ⟨r2, h2, m, e1, e2, g2, a2⟩ := k; rw [e1]; exact ⟨r2, h2, _, rfl, e2, g2, a2⟩
  | ex c n σ1 s' =>
    rw [z] at k
    obtain ⟨r2, h2, σ2, m, e1, e2, g2, a2, q⟩ := k
    rw [e1]
    refine L2S.ext e2 ?_
    show L2S r2 h2 (onlyS mt su c n σ1 s') (onlyS mt su c m σ2 h2)
    unfold onlyS
    cases w : mt c with
    | none => trivial
    | some b =>
      cases b with
      | false => exact ⟨r2, h2, σ2, m, rfl, .refl, g2, a2, q⟩
      | true =>
        have t := y.run r2 s' h2 σ1 σ2 g2 a2
        dsimp only
        cases z2 : su σ1 s' with
        | err => trivial
        | ex _ _ _ _ => trivial
        | nx σ3 s3 => rw [z2] at t; obtain ⟨r3, h3, m, e1, e2, g2, a2⟩ := t; rw [e1]; exact ⟨r3, h3, _, rfl, e2, g2, a2⟩
        | bk σ3 s3 => rw [z2] at t; obtain ⟨r3, h3, m, e1, e2, g2, a2⟩ := t; rw [e1]; exact ⟨r3, h3, _, rfl, e2, g2, a2⟩
        | ct σ3 s3 => rw [z2] at t; obtain ⟨r3, h3, m, e1, e2, g2, a2⟩ := t; rw [e1]; exact ⟨r3, h3, _, rfl, e2, g2, a2⟩
        | rt v s3 => rw [z2] at t; obtain ⟨r3, h3, m, e1, e2, g2, a2⟩ := t; rw [e1]; exact ⟨r3, h3, _, rfl, e2, g2, a2⟩⟩
instance {gs : List MG} [q : LGs gs] : LG (gLstM gs) := ⟨fun r s h σ σ' v v' g a p => by
  unfold gLstM
  cases p with
  | @ref n m t =>
    dsimp only
    have k := listAt2 g t
    cases z1 : listAt n s with
    | none => trivial
    | some xs =>
      cases z2 : listAt m h with
      | none => rw [z1, z2] at k; cases k
      | some ys =>
        rw [z1, z2] at k
        have k : RVs2 r xs ys := k
        dsimp only
        rw [k.length]
        split
        · exact q.run _ _ _ _ _ _ _ g a k
        · trivial
  | _ => trivial⟩
end ML
end
section
namespace ML
open PySem L2
instance : LOc cRepD := ⟨fun r s h vs vs' g t => by
  unfold cRepD
  cases t with
  | nil => trivial
  | cons p t =>
    cases t with
    | cons _ _ => trivial
    | nil =>
      dsimp only
      rename_i v w
      cases z : dat 12 s v with
      | none => trivial
      | some d =>
        rw [dat2 g _ _ _ _ p z]
        dsimp only
        cases shD d with
        | none => trivial
        | some x =>
          dsimp only
          cases Nat.ble d.depth 20 && small x.length with
          | false => trivial
          | true => exact .ok g (.str _)⟩
end ML
end
section
namespace ML
open PySem PySem.Spec PyProof.Rows L2 He
def sameRef : VI → VI → Bool
  | .ref m, .ref n => Nat.beq m n
  | _, _ => false
def bltI : Option TyI → Option String
  | some (.bt "NoneType") => some "NoneType"
  | some (.bt "int") => some "int"
  | some (.bt "str") => some "str"
  | some (.bt "list") => some "list"
  | some (.bt "tuple") => some "tuple"
  | _ => none
def eqRefU (cs : List Nat) (tbl : Nat → Option MF) (c : Nat) (y x : VI) (h : Hi) : Res VI := match sameRef y x with
  | true => .ok (.bl true) h
  | false => match insC y h with
    | some c' => match tbl c', nfI cs (tyI x h) with
      | some g, true => boolR (g [y, x] h)
      | _, _ => .err
    | none => match bltI (tyI y h), tbl c with
      | some _, some g => boolR (g [x, y] h)
      | _, _ => .err
def inTurnsU (cs : List Nat) (tbl : Nat → Option MF) (n : Nat) (c : Nat) (x : VI) : Nat → Nat → Hi → Res VI
  | 0, i, h => match listAt n h with
    | some ys => match Nat.ble ys.length i with
      | true => .ok (.bl false) h
      | false => .err
    | none => .err
  | k + 1, i, h => match listAt n h with
    | none => .err
    | some ys => match ys[i]? with
      | none => .ok (.bl false) h
      | some y => match insC x h with
        | some d => match Nat.beq d c with
          | true => (eqRefU cs tbl c y x h).bind fun v h' => match v with
            | .bl true => .ok (.bl true) h'
            | .bl false => inTurnsU cs tbl n c x k (i + 1) h'
            | _ => .err
          | false => .err
        | none => .err
def eInU (neg : Bool) (cs : List Nat) (tbl : Nat → Option MF) (f : Op2) (a b : ME) : ME := fun σ h => (a σ h).bind fun x h1 => (b σ h1).bind fun y h2 => match insC x h2 with
  | some c => match y with
    | .ref n => match listAt n h2 with
      | some ys => (inTurnsU cs tbl n c x ys.length 0 h2).bind fun v h3 => match v with
        | .bl b => .ok (.bl (neg != b)) h3
        | _ => .err
      | none => .err
    | _ => .err
  | none => ofO (f x y h2)
section
variable {G : Gx} {ρ : List Addr} {h : Hi} {H : Hp} {W : WX} {X : Cx} {A : Around} {a b : Expr} {pos : Pos} {ma mb : ME} {tbl : Nat → Option MF} {σ : L2.St} {cs : List Nat} {f : Op2} {neg : Bool}
end
section
variable {K : PySem.W.Frag} {mg : Str → Option Value} {nm : Nat → Option Str}
end
theorem same2 {r : List Nat} (nd : r.Nodup) {x y x' y' : VI} (p : RV2 r x x') (q : RV2 r y y') : sameRef x' y' = sameRef x y := by
  cases p with
  | @ref n m e =>
    cases q with
    | @ref n' m' e' =>
      show Nat.beq m m' = Nat.beq n n'
      by_cases z : n = n'
      · subst z
        rw [e] at e'
        cases e'
        rw [Nat.beq_refl, Nat.beq_refl]
      · have z' : m ≠ m' := fun w => z ((List.getElem?_inj (List.getElem?_eq_some_iff.mp e).1 nd).mp (by rw [e, e', w]))
        rw [Bool.eq_false_iff.mpr (fun w => z (Nat.eq_of_beq_eq_true w)), Bool.eq_false_iff.mpr (fun w => z' (Nat.eq_of_beq_eq_true w))]
    | _ => rfl
  | _ => cases q <;> rfl
section
variable {r : List Nat} {s h : Hi} {cs : List Nat} {tbl : Nat → Option MF}
theorem eqRef2 [c : LTb tbl] {d : Nat} (g : Ag2 r s h) {x y x' y' : VI} (p : RV2 r x x') (q : RV2 r y y') : L2R RV2 r h (eqRefU cs tbl d x y s) (eqRefU cs tbl d x' y' h) := by
  unfold eqRefU
  rw [same2 g.nd p q, ins2 g p, ty2 g p, ty2 g q]
  cases sameRef x y with
  | true => exact .ok g (.bl true)
  | false =>
    dsimp only
    cases insC x s with
    | some c' =>
      dsimp only
      cases w0 : tbl c' with
      | none => trivial
      | some u =>
        cases nfI cs (tyI y s) with
        | false => trivial
        | true => exact ((c.run _ _ w0).run _ _ _ _ _ g (.cons p (.cons q .nil))).boolR
    | none =>
      dsimp only
      cases bltI (tyI x s) with
      | none => trivial
      | some T =>
        cases w0 : tbl d with
        | none => trivial
        | some u => exact ((c.run _ _ w0).run _ _ _ _ _ g (.cons q (.cons p .nil))).boolR
theorem inTurns2 [c : LTb tbl] {d n n' : Nat} {x x' : VI} : ∀ (k i : Nat) {r : List Nat} {s h : Hi}, Ag2 r s h → RV2 r x x' → r[n]? = some n' → L2R RV2 r h (inTurnsU cs tbl n d x k i s) (inTurnsU cs tbl n' d x' k i h)
  | 0, i, r, s, h, g, p, e => by
    unfold inTurnsU
    have k := listAt2 g e
    cases z1 : listAt n s with
    | none => trivial
    | some xs =>
      cases z2 : listAt n' h with
      | none => rw [z1, z2] at k; cases k
      | some ys =>
        rw [z1, z2] at k
        have k : RVs2 r xs ys := k
        dsimp only
        rw [k.length]
        cases Nat.ble ys.length i with
        | true => exact .ok g (.bl false)
        | false => trivial
  | j + 1, i, r, s, h, g, p, e => by
    unfold inTurnsU
    have k := listAt2 g e
    cases z1 : listAt n s with
    | none => trivial
    | some xs =>
      cases z2 : listAt n' h with
      | none => rw [z1, z2] at k; cases k
      | some ys =>
        rw [z1, z2] at k
        have k : RVs2 r xs ys := k
        dsimp only
        cases z3 : xs[i]? with
        | none =>
          have : ys[i]? = none := by
            have := k.length
            rw [List.getElem?_eq_none_iff] at z3 ⊢
            omega
          rw [this]
          exact .ok g (.bl false)
        | some y =>
          obtain ⟨y', hy, py⟩ := k.get z3
          rw [hy]
          dsimp only
          rw [ins2 g p]
          cases insC x s with
          | none => trivial
          | some d' =>
            dsimp only
            cases Nat.beq d' d with
            | false => trivial
            | true =>
              refine (eqRef2 g py p).bind fun r1 s1 h1 v v' e1 g1 q1 => ?_
              cases q1 with
              | bl b =>
                cases b with
                | true => exact .ok g1 (.bl true)
                | false => exact inTurns2 j (i + 1) g1 (p.mono e1) (e1.pre e)
              | _ => trivial
end
instance {neg : Bool} {cs : List Nat} {tbl : Nat → Option MF} {f : Op2} {ma mb : ME} [c : LTb tbl] [x : LE ma] [y : LE mb] [o : LOp f] : LE (eInU neg cs tbl f ma mb) := ⟨fun r s h σ σ' g a => (x.run r s h σ σ' g a).bind fun r1 s1 h1 v v' e1 g1 q1 => (y.run _ _ _ _ _ g1 (a.mono e1)).bind fun r2 s2 h2 w w' e2 g2 q2 => by
  rw [ins2 g2 (q1.mono e2)]
  cases z : insC v s2 with
  | none => exact .ofO (o.run _ _ _ _ _ _ _ g2 (q1.mono e2) q2)
  | some d =>
    cases q2 with
    | @ref n n' e =>
      dsimp only
      have k := listAt2 g2 e
      cases z1 : listAt n s2 with
      | none => trivial
      | some xs =>
        cases z2 : listAt n' h2 with
        | none => rw [z1, z2] at k; cases k
        | some ys =>
          rw [z1, z2] at k
          have k : RVs2 r2 xs ys := k
          dsimp only
          rw [← k.length]
          refine (inTurns2 xs.length 0 g2 (q1.mono e2) e).bind fun r3 s3 h3 v3 v3' e3 g3 q3 => ?_
          cases q3 with
          | bl b => exact .ok g3 (.bl _)
          | _ => trivial
    | _ => trivial⟩
end ML
end
section
namespace PySem.W
open PySem PyProof.Rows
section
variable {prog : Program} {w : World} {A : Around} {E : Value → Shared → Prop} {s : Shared} {K : Frag} {x C f : Addr} {ox : Obj} {od : Option Obj} {name : Str}
end
end PySem.W
namespace ML
open PySem PySem.Spec PyProof.Rows L2 He
def ctR (neg : Bool) : Res VI → Res VI
  | .ok (.bl b) h => .ok (.bl (neg != b)) h
  | .ex c n h => .ex c n h
  | _ => .err
def eCtU (neg : Bool) (tbl : Nat → Option MF) (f : Op2) (a b : ME) : ME := fun σ h => (a σ h).bind fun x h1 => (b σ h1).bind fun y h2 => match insC y h2 with
  | some c => match tbl c with
    | some g => ctR neg (g [y, x] h2)
    | none => .err
  | none => ofO (f x y h2)
section
variable {G : Gx} {ρ : List Addr} {h : Hi} {H : Hp} {W : WX} {X : Cx} {A : Around} {a b : Expr} {pos : Pos} {ma mb : ME} {tbl : Nat → Option MF} {σ : L2.St} {f : Op2} {neg : Bool}
end
theorem L2R.ctR {neg : Bool} {r : List Nat} {h : Hi} {a b : Res VI} (k : L2R RV2 r h a b) : L2R RV2 r h (ctR neg a) (ctR neg b) := by
  cases a with
  | err => trivial
  | ex c n s' =>
    obtain ⟨r', h', m, rfl, e, g, q⟩ := k
    exact ⟨r', h', m, rfl, e, g, q⟩
  | ok v s' =>
    obtain ⟨r', h', v', rfl, e, g, q⟩ := k
    cases q with
    | bl b => exact ⟨r', h', _, rfl, e, g, .bl _⟩
    | _ => trivial
instance {ma mb : ME} {f : Op2} {neg : Bool} {tbl : Nat → Option MF} [c : LTb tbl] [x : LE ma] [y : LE mb] [o : LOp f] : LE (eCtU neg tbl f ma mb) := ⟨fun r s h σ σ' g a => (x.run r s h σ σ' g a).bind fun r1 s1 h1 v v' e1 g1 q1 => (y.run _ _ _ _ _ g1 (a.mono e1)).bind fun r2 s2 h2 w w' e2 g2 q2 => by
  rw [ins2 g2 q2]
  cases z : insC w s2 with
  | none => exact .ofO (o.run _ _ _ _ _ _ _ g2 (q1.mono e2) q2)
  | some d =>
    dsimp only
    cases w0 : tbl d with
    | none => trivial
    | some u => exact ((c.run _ _ w0).run _ _ _ _ _ g2 (.cons q2 (.cons (q1.mono e2) .nil))).ctR⟩
end ML
end
section
namespace ML
open PySem L2 He
def kdInK2 (neg : Bool) (tbl : S → Option VI) (ab : List S) : VI → Hi → Res VI := fun v h1 => match v with
  | .str s => match tbl s with
    | some _ => .ok (.bl (!neg)) h1
    | none => match ab.any fun z => decide (z = s) with
      | true => .ok (.bl neg) h1
      | false => .err
  | _ => .err
def eKdIn2 (neg : Bool) (tbl : S → Option VI) (ab : List S) (b : ME) : ME := fun σ h => (b σ h).bind (kdInK2 neg tbl ab)
section
variable {G : Gx} {W : WX} {X : Cx} {b : Expr} {pos p : Pos} {mb : ME}
end
instance {neg : Bool} {tbl : S → Option VI} {ab : List S} {ma : ME} [x : LE ma] : LE (eKdIn2 neg tbl ab ma) := ⟨fun r s h σ σ' g a => (x.run r s h σ σ' g a).bind fun r1 s1 h1 v v' e1 g1 q1 => by
  cases q1 with
  | str y =>
    dsimp only [kdInK2]
    cases z : tbl y with
    | none =>
      dsimp only
      cases z2 : ab.any fun u => decide (u = y) with
      | true => exact .ok g1 (.bl _)
      | false => trivial
    | some w => exact .ok g1 (.bl _)
  | _ => trivial⟩
end ML
end
section
namespace ML
open PySem PySem.Spec PyProof.Rows L2
section
variable {prog : Program} {w : World} {A : Around} {E : Value → Shared → Prop} {s : Shared}
end
def putSl (x v : VI) (h : Hi) : Option Hi := match x with
  | .ref n => match v with
    | .ref m => match h[n]? with
      | some (.lst xs) => match h[m]? with
        | some (.lst ys) => match !Nat.beq n m && small (xs.length + ys.length) with
          | true => some (h.set n (.lst ys))
          | false => none
        | _ => none
      | _ => none
    | _ => none
  | _ => none
def gSlA (o : ME) : MG := fun v σ h => (o σ h).bindS σ fun x h1 => nxO σ (putSl x v h1)
section
variable {G : Gx} {W : WX} {X : Cx} {o : Expr} {pos p2 : Pos} {mo : ME}
end
end ML
end
section
namespace ML
open PySem PySem.Spec PyProof.Rows L2 He
def restO (us : List Value) : Obj := { cls := .type "tuple", data := .seq us.toArray }
def withRest (s : Shared) (us : List Value) : Shared := { s with heap := s.heap.push (restO us) }
def BindsR (fd : FuncData) (ps : List Str) (m : Nat) (s : Shared) (us : List Value) : Prop :=
  ∀ (M : Model) (A : Around) (E : Value → Shared → Prop) (Q : List (Str × Value) → Shared → Prop), Q (ps.zip (us.take m ++ [.ref s.heap.objs.size])) (withRest s (us.drop m)) → wpAny M A (bindArgs fd ⟨us, []⟩) Q E s
section
variable {P : Program} {w : World} {K : PySem.W.Frag} {mg : Str → Option Value} {base : Heap} {B : Around} {out : List Env} {s : Shared} {H H2 : Hp} {us : List Value} {xs : List V} {fs : List Addr} {a : Addr} {o : HO}
structure FnOkR (P : Program) (w : World) (K : PySem.W.Frag) (mg : Str → Option Value) (base : Heap) (k : Nat) (f : Addr) (fd : FuncData) (ps : List Str) (sp : Sp) : Prop where
  go : ∀ (B : Around) (out : List Env) (t : Shared) (H : Hp) (m : Nat) (us : List Value) (vs : List V) (Q : VK) (E : XK), Room k B → Env0 P w K mg base B out t H → BindsR fd ps m t us → Vals vs us → us.length ≤ sizeLine → m ≤ us.length → ps.length = m + 1 →
    sp (vs.take m ++ [.ref t.heap.objs.size]) (upd H t.heap.objs.size (.tup (vs.drop m))) Q E → codeAny (model P w) B (.call (.ref f) ⟨us, []⟩) (CR (L2.CX P w) out P w H t Q E) t
end
section
variable {G : Gx} {W : WX} {X : Cx} {k np : Nat} {f : Addr} {fd : FuncData} {ps : List Str} {g : MF} {P : Program} {w : World} {K : PySem.W.Frag} {mg : Str → Option Value} {base : Heap}
def restM (m : Nat) (g : MF) : MF := fun args h => match Nat.ble m args.length && Nat.ble args.length 100000 with
  | true => g (args.take m ++ [.tup (args.drop m)]) h
  | false => .err
end
section
variable {K : PySem.W.Frag} {x qual : Str} {body : List Stmt} {scope : Scope} {kws : List (Str × V)} {f : Addr} {fd : FuncData}
end
end ML
end
section
namespace ML
open PySem PySem.Spec PyProof.Rows L2 He
def starV (x : VI) (h : Hi) : Option (List VI) := match x with
  | .tup xs => some xs
  | .ref n => listAt n h
  | _ => none
def starK (mr : MA) (σ : Sg) (x : VI) (h : Hi) : Res (List VI) := match starV x h with
  | some xs => (mr σ h).bind fun ys h2 => .ok (xs ++ ys) h2
  | none => .err
def aStar (me : ME) (mr : MA) : MA := fun σ h => (me σ h).bind (starK mr σ)
section
variable {G : Gx} {W : WX} {X : Cx} {e : Expr} {es : List Expr} {p : Pos} {me : ME} {mr : MA}
variable {f : Addr} {g : MF} {x : Str} {pos : Pos} {ma : MA} {sp_ : Pos}
end
end ML
end
section
namespace ML
open PySem PySem.Spec PyProof.Rows L2 He
def RunM (X : Cx) (G : Gx) (W : WX) (fa : Addr) (f : MF) : Prop :=
  ∀ (pins : List (Addr × Obj)) (s : Shared) (σ : L2.St) (H : Hp) (us : List Value) (vs : List V) (args : List VI) (ρ : List Addr) (h : Hi) (Q : VK), Inv X pins σ H s → Vals vs us → RVs G ρ H args vs → Ag G ρ h H →
    FinG G ρ H (RV G) Q (fun c d H' => W c d σ H') (f args h) →
      codeAny (model X.prog X.w) X.A (.call (.ref fa) ⟨us, []⟩) (fun r s' => match r with | .ok (.ret v) => EP X pins σ Q v s' | .ok _ => False | .error e => X.xe e s') s
section
variable {G : Gx} {W : WX} {X : Cx} {k np m : Nat} {f : Addr} {fd : FuncData} {ps : List Str} {g : MF}
theorem RunM.call (r : RunM X G W f g) : CallM X G W (.ref f) g := fun pins s σ H us vs args ρ h Q I rv ra ag fin => wpAny_call (r pins s σ H us vs args ρ h Q I rv ra ag fin)
variable {o e : Expr} {mo : ME} {i : Nat} {y : Str} {p ep apos pos : Pos}
end
end ML
end
section
namespace ML
open PySem PySem.Spec PyProof.Rows L2 He
structure DOkR (P : Program) (w : World) (K : PySem.W.Frag) (mg : Str → Option Value) (base : Heap) (nm : Nat → Option Str) (k : Nat) (p : Defn) (ps : List Str) (m : Nat) (g : MF) : Prop where
  ok : FnOkR P w K mg base k (p K) (fdOf K p) ps (spM (GxOf K mg nm) ps.length g)
  bn : ∀ (s : Shared) (us : List Value), K.In s.heap → m ≤ us.length → us.length ≤ sizeLine → BindsR (fdOf K p) ps m s us
  pl : ps.length = m + 1
  kp : PySem.W.keepIn K (.ref (p K)) = true
section
variable {G : Gx} {W : WX} {X : Cx} {nm : Nat → Option Str} {k k' m : Nat} {q : Defn} {ps : List Str} {g : MF}
end
def pairsV : List VI → Option (List (VI × VI))
  | [] => some []
  | .tup [a, b] :: r => match isKey a with
    | true => match pairsV r with
      | some l => some ((a, b) :: l)
      | none => none
    | false => none
  | _ => none
def cDictP : OpC := fun vs h => match vs with
  | [.ref n] => match h[n]? with
    | some (.lst xs) => match pairsV xs with
      | some kvs => some (.ref h.length, h ++ [.dic (putAll kvs [])])
      | none => none
    | some (.dic kvs) => some (.ref h.length, h ++ [.dic kvs])
    | _ => none
  | _ => none
section
variable {G : Gx} {X : Cx}
end
end ML
end
section
namespace ML
open PySem PySem.Spec PyProof.Rows L2 He
def mClear : OpM := fun x vs h => match x with
  | .ref n => match h[n]? with
    | some (.lst _) => match vs with
      | [] => some (.non, h.set n (.lst []))
      | _ => none
    | _ => none
  | _ => none
section
variable {G : Gx} {ρ : List Addr} {h : Hi} {H : Hp} {W : WX} {X : Cx}
end
end ML
end
section
namespace ML
open PySem L2
theorem putSl2 {r : List Nat} {s h s' : Hi} (g : Ag2 r s h) {x x' z z' : VI} (p : RV2 r x x') (k : RV2 r z z') (e : putSl x z s = some s') : ∃ h', putSl x' z' h = some h' ∧ Ex2 r h r h' ∧ Ag2 r s' h' := by
  unfold putSl at e ⊢
  cases p with
  | @ref n a i =>
    cases k with
    | @ref m b j =>
      obtain ⟨o, o', z1, z2, z3⟩ := g.no i
      obtain ⟨u, u', y1, y2, y3⟩ := g.no j
      dsimp only at e ⊢
      rw [z1] at e
      rw [z2]
      cases z3 with
      | lst t =>
        dsimp only at e ⊢
        rw [y1] at e
        rw [y2]
        cases y3 with
        | lst t2 =>
          dsimp only at e ⊢
          rw [← t.length, ← t2.length]
          cases q : !Nat.beq n m && small (_ + _) with
          | false => rw [q] at e; cases e
          | true =>
            rw [q] at e
            cases e
            obtain ⟨q4, q5⟩ := Bool.and_eq_true_iff.mp q
            have hnm : n ≠ m := fun z => by subst z; simp at q4
            have hab : a ≠ b := fun z => by
              subst z
              obtain ⟨i1, j1⟩ := List.getElem?_eq_some_iff.mp i
              obtain ⟨i2, j2⟩ := List.getElem?_eq_some_iff.mp j
              have pw := List.pairwise_iff_getElem.mp g.nd
              rcases Nat.lt_trichotomy n m with l | l | l
              · exact pw n m i1 i2 l (j1.trans j2.symm)
              · exact hnm l
              · exact pw m n i2 i1 l (j2.trans j1.symm)
            have hb : Nat.beq a b = false := Bool.eq_false_iff.mpr fun z => hab (Nat.eq_of_beq_eq_true z)
            rw [hb, q5]
            obtain ⟨c1, c2⟩ := g.wr z1 i (.lst t2)
            exact ⟨_, rfl, c2, c1⟩
        | _ => cases e
      | _ => cases e
    | _ => cases e
  | _ => cases e
instance {ma : ME} [x : LE ma] : LG (gSlA ma) := ⟨fun r s h σ σ' u u' g a q => (x.run r s h σ σ' g a).bindS a fun r1 s1 h1 v v' e1 g1 q1 => by
  cases e : putSl v u s1 with
  | none => trivial
  | some s' => obtain ⟨h', z1, z2, z3⟩ := putSl2 g1 q1 (q.mono e1) e; rw [z1]; exact ⟨_, _, _, rfl, z2, z3, (a.mono e1).mono z2⟩⟩
end ML
end
section
namespace ML
open PySem L2
theorem rvs2_take {r : List Nat} : ∀ {a b : List VI} (m : Nat), RVs2 r a b → RVs2 r (a.take m) (b.take m)
  | _, _, 0, _ => .nil
  | _, _, _ + 1, .nil => .nil
  | _, _, m + 1, .cons a t => .cons a (rvs2_take m t)
theorem rvs2_drop {r : List Nat} : ∀ {a b : List VI} (m : Nat), RVs2 r a b → RVs2 r (a.drop m) (b.drop m)
  | _, _, 0, t => t
  | _, _, _ + 1, .nil => .nil
  | _, _, m + 1, .cons _ t => rvs2_drop m t
theorem rvs2_app {r : List Nat} : ∀ {a b c d : List VI}, RVs2 r a b → RVs2 r c d → RVs2 r (a ++ c) (b ++ d)
  | _, _, _, _, .nil, k => k
  | _, _, _, _, .cons h t, k => .cons h (rvs2_app t k)
instance {m : Nat} {g : MF} [x : LF g] : LF (restM m g) := ⟨fun r s h vs vs' g2 k => by
  unfold restM
  rw [← k.length]
  cases (Nat.ble m vs.length && Nat.ble vs.length 100000) with
  | false => trivial
  | true => exact x.run r s h _ _ g2 (rvs2_app (rvs2_take m k) (.cons (.tup (rvs2_drop m k)) .nil))⟩
instance {me : ME} {mr : MA} [x : LE me] [y : LA mr] : LA (aStar me mr) := ⟨fun r s h σ σ' g a => (x.run r s h σ σ' g a).bind fun r1 s1 h1 v v' e1 g1 q1 => by
  unfold starK starV
  cases q1 with
  | tup t =>
    dsimp only
    exact (y.run _ _ _ _ _ g1 (a.mono e1)).bind fun r2 s2 h2 ws ws' e2 g2 q2 => .ok g2 (rvs2_app (t.mono e2) q2)
  | @ref n m p =>
    dsimp only
    have k := listAt2 g1 p
    cases z1 : listAt n s1 with
    | none => trivial
    | some xs =>
      rw [z1] at k
      cases z2 : listAt m h1 with
      | none => rw [z2] at k; exact k.elim
      | some ys =>
        rw [z2] at k
        dsimp only
        exact (y.run _ _ _ _ _ g1 (a.mono e1)).bind fun r2 s2 h2 ws ws' e2 g2 q2 => .ok g2 (rvs2_app (RVs2.mono e2 k) q2)
  | _ => trivial⟩
end ML
end
section
namespace ML
open PySem L2
theorem pairsV2 {r : List Nat} : ∀ {xs ys : List VI}, RVs2 r xs ys → match pairsV xs, pairsV ys with
    | some a, some b => RKs2 r a b
    | none, none => True
    | _, _ => False
  | _, _, .nil => .nil
  | x :: xs, y :: ys, .cons p t => by
    have ih := pairsV2 t
    cases p with
    | tup q =>
      cases q with
      | nil => unfold pairsV; trivial
      | cons q1 q =>
        cases q with
        | nil => unfold pairsV; trivial
        | cons q2 q =>
          cases q with
          | cons _ _ => unfold pairsV; trivial
          | nil =>
            unfold pairsV
            rw [← isKey2 q1]
            generalize isKey _ = kk
            cases kk with
            | false => trivial
            | true =>
              dsimp only
              cases z1 : pairsV xs with
              | none =>
                cases z2 : pairsV ys with
                | none => trivial
                | some _ => rw [z1, z2] at ih; exact ih.elim
              | some a =>
                cases z2 : pairsV ys with
                | none => rw [z1, z2] at ih; exact ih.elim
                | some b => rw [z1, z2] at ih; exact .cons q1 q2 ih
    | _ => unfold pairsV; trivial
instance : LOc cDictP := ⟨fun r s h vs vs' g t => by
  unfold cDictP
  cases t with
  | nil => trivial
  | cons p t =>
    cases t with
    | cons _ _ => cases p <;> trivial
    | nil =>
      cases p with
      | ref i =>
        obtain ⟨o, o', e1, e2, e3⟩ := g.no i
        dsimp only
        rw [e1, e2]
        cases e3 with
        | dic t => exact .new g fun r' e => .dic (t.mono e)
        | @lst xs ys t =>
          have q := pairsV2 t
          dsimp only
          cases z1 : pairsV xs with
          | none => trivial
          | some a =>
            cases z2 : pairsV ys with
            | none => rw [z1, z2] at q; exact q.elim
            | some b =>
              rw [z1, z2] at q
              exact .new g fun r' e => .dic (putAll2 (q.mono e) .nil)
        | _ => trivial
      | _ => trivial⟩
end ML
end
section
namespace ML
open PySem L2
instance : LOm mClear := ⟨fun r s h x x' vs vs' g p t => by
  unfold mClear
  cases p with
  | ref i =>
    obtain ⟨o, o', e1, e2, e3⟩ := g.no i
    dsimp only
    rw [e1, e2]
    cases e3 with
    | @lst xs ys l =>
      cases t with
      | cons _ _ => trivial
      | nil => exact .wr g e1 i (.lst .nil) .non
    | _ => trivial
  | _ => trivial⟩
end ML
end
section
namespace ML
open PySem L2
section
variable {n m : Nat} {a a' b b' : ME}
instance [x : LE2 n m a a'] [y : LE2 n m b b'] : LE2 n m (eAnd a b) (eAnd a' b') := ⟨fun r s h σ σ' q g p => (x.run r s h σ σ' q g p).bind fun r1 s1 h1 v v' e1 g1 q1 => by
  cases q1 with
  | bl b =>
    cases b with
    | true => exact y.run _ _ _ _ _ (e1.at_ q) g1 (p.mono e1)
    | false => exact .ok g1 (.bl _)
  | _ => trivial⟩
instance [x : LE2 n m a a'] : LE2 n m (eNot a) (eNot a') := ⟨fun r s h σ σ' q g p => (x.run r s h σ σ' q g p).bind fun r1 s1 h1 v v' e1 g1 q1 => by
  cases q1 with
  | bl b => exact .ok g1 (.bl _)
  | _ => trivial⟩
end
end ML
end
section
namespace ML
open PySem L2
instance {cs : List Nat} {k : MF} {aa : MA} [x : LF k] [y : LA aa] : LE (eListG cs k aa) := ⟨fun r s h σ σ' g a => (y.run r s h σ σ' g a).bind fun r1 s1 h1 v v' e1 g1 q1 => by
  have z := x.run _ _ _ _ _ g1 q1
  cases q : k v s1 with
  | ok w s2 => trivial
  | err => trivial
  | ex c n s2 =>
    rw [q] at z
    obtain ⟨r2, h2, m, e2, e3, g2, q2⟩ := z
    rw [e2]
    dsimp only
    cases cs.contains c with
    | false => trivial
    | true => exact ⟨r2, h2, m, rfl, e3, g2, q2⟩⟩
end ML
end
section
namespace ML
open PySem PySem.Spec PyProof.Rows L2 He
theorem boot_ValueError : bootBuiltins "ValueError" = some (.type "ValueError") := by decide +kernel
end ML
end
section
set_option maxHeartbeats 0
namespace Lw
open PySem PySem.Spec PyProof.Rows L2 He ML
abbrev P : Program := PySem.Challenge.pw_epochrooms_k45_verdicts_refused
def top (i : Nat) : Stmt := PySem.Challenge.pw_epochrooms_k45_verdicts_refused.main.body.getD i (.Pass ⟨0, 0, 0, 0⟩)
def clsBody (s : Stmt) : List Stmt := match s with
  | .ClassDef _ _ _ b _ _ _ _ _ _ _ => b
  | _ => []
def clsAt (i j : Nat) : Stmt := (clsBody (top i)).getD j (.Pass ⟨0, 0, 0, 0⟩)
def nm (c : Nat) : Option Str := match c with
  | 2 => some "Book"
  | 3 => some "EpochBook"
  | 4 => some "LookBook"
  | 5 => some "StillBook"
  | 6 => some "Script"
  | 29 => some "Setting"
  | 13 => some "NoSwitch"
  | 15 => some "NoBook"
  | 16 => some "NoSetting"
  | 14 => some "NoValue"
  | _ => none
def s_counts : S := [99, 111, 117, 110, 116, 115]
theorem t_counts : ("counts" : Str) = toStr s_counts := by decide +kernel
def s_still : S := [115, 116, 105, 108, 108]
theorem t_still : ("still" : Str) = toStr s_still := by decide +kernel
def s_read : S := [114, 101, 97, 100]
theorem t_read : ("read" : Str) = toStr s_read := by decide +kernel
def s_sleep : S := [115, 108, 101, 101, 112]
theorem t_sleep : ("sleep" : Str) = toStr s_sleep := by decide +kernel
def s_WORDS : S := [87, 79, 82, 68, 83]
theorem t_WORDS : ("WORDS" : Str) = toStr s_WORDS := by decide +kernel
def s_check : S := [99, 104, 101, 99, 107]
theorem t_check : ("check" : Str) = toStr s_check := by decide +kernel
def s_look : S := [108, 111, 111, 107]
theorem t_look : ("look" : Str) = toStr s_look := by decide +kernel
def s_chain : S := [99, 104, 97, 105, 110]
theorem t_chain : ("chain" : Str) = toStr s_chain := by decide +kernel
def s_epochs : S := [101, 112, 111, 99, 104, 115]
theorem t_epochs : ("epochs" : Str) = toStr s_epochs := by decide +kernel
def s_behind : S := [98, 101, 104, 105, 110, 100]
theorem t_behind : ("behind" : Str) = toStr s_behind := by decide +kernel
def s_fetch : S := [102, 101, 116, 99, 104]
theorem t_fetch : ("fetch" : Str) = toStr s_fetch := by decide +kernel
def s_mark : S := [109, 97, 114, 107]
theorem t_mark : ("mark" : Str) = toStr s_mark := by decide +kernel
def s_test : S := [116, 101, 115, 116]
theorem t_test : ("test" : Str) = toStr s_test := by decide +kernel
def s_step : S := [115, 116, 101, 112]
theorem t_step : ("step" : Str) = toStr s_step := by decide +kernel
def s_told : S := [116, 111, 108, 100]
theorem t_told : ("told" : Str) = toStr s_told := by decide +kernel
def s_word : S := [119, 111, 114, 100]
theorem t_word : ("word" : Str) = toStr s_word := by decide +kernel
def s_look_at_word : S := [108, 111, 111, 107, 95, 97, 116, 95, 119, 111, 114, 100]
theorem t_look_at_word : ("look_at_word" : Str) = toStr s_look_at_word := by decide +kernel
def s_own : S := [111, 119, 110]
theorem t_own : ("own" : Str) = toStr s_own := by decide +kernel
def s_value : S := [118, 97, 108, 117, 101]
theorem t_value : ("value" : Str) = toStr s_value := by decide +kernel
def s_WAY : S := [87, 65, 89]
theorem t_WAY : ("WAY" : Str) = toStr s_WAY := by decide +kernel
def s_looks : S := [108, 111, 111, 107, 115]
theorem t_looks : ("looks" : Str) = toStr s_looks := by decide +kernel
def s_empty : S := []
def s_way : S := [119, 97, 121]
theorem t_way : ("way" : Str) = toStr s_way := by decide +kernel
def s_things : S := [116, 104, 105, 110, 103, 115]
theorem t_things : ("things" : Str) = toStr s_things := by decide +kernel
def s_steppers : S := [115, 116, 101, 112, 112, 101, 114, 115]
theorem t_steppers : ("steppers" : Str) = toStr s_steppers := by decide +kernel
def s_takers : S := [116, 97, 107, 101, 114, 115]
theorem t_takers : ("takers" : Str) = toStr s_takers := by decide +kernel
def s_readers : S := [114, 101, 97, 100, 101, 114, 115]
theorem t_readers : ("readers" : Str) = toStr s_readers := by decide +kernel
def s_ahead : S := [97, 104, 101, 97, 100]
theorem t_ahead : ("ahead" : Str) = toStr s_ahead := by decide +kernel
def s_fresh : S := [102, 114, 101, 115, 104]
theorem t_fresh : ("fresh" : Str) = toStr s_fresh := by decide +kernel
def s_last : S := [108, 97, 115, 116]
def s_equal : S := [101, 113, 117, 97, 108]
theorem t_equal : ("equal" : Str) = toStr s_equal := by decide +kernel
def s_add : S := [97, 100, 100]
theorem t_add : ("add" : Str) = toStr s_add := by decide +kernel
def s_set : S := [115, 101, 116]
def s_next : S := [110, 101, 120, 116]
theorem t_next : ("next" : Str) = toStr s_next := by decide +kernel
def s_both : S := [98, 111, 116, 104]
def s_none : S := [110, 111, 110, 101]
theorem t_none : ("none" : Str) = toStr s_none := by decide +kernel
def s_anywhere : S := [97, 110, 121, 119, 104, 101, 114, 101]
theorem t_anywhere : ("anywhere" : Str) = toStr s_anywhere := by decide +kernel
def s_outside : S := [111, 117, 116, 115, 105, 100, 101]
theorem t_outside : ("outside" : Str) = toStr s_outside := by decide +kernel
def s_inside : S := [105, 110, 115, 105, 100, 101]
theorem t_inside : ("inside" : Str) = toStr s_inside := by decide +kernel
def s_late : S := [108, 97, 116, 101]
theorem t_late : ("late" : Str) = toStr s_late := by decide +kernel
def s_kept : S := [107, 101, 112, 116]
theorem t_kept : ("kept" : Str) = toStr s_kept := by decide +kernel
def s_hands : S := [104, 97, 110, 100, 115]
theorem t_hands : ("hands" : Str) = toStr s_hands := by decide +kernel
def s_first_wrong : S := [102, 105, 114, 115, 116, 95, 119, 114, 111, 110, 103]
theorem t_first_wrong : ("first_wrong" : Str) = toStr s_first_wrong := by decide +kernel
def s_order : S := [111, 114, 100, 101, 114]
theorem t_order : ("order" : Str) = toStr s_order := by decide +kernel
def s_twin : S := [116, 119, 105, 110]
theorem t_twin : ("twin" : Str) = toStr s_twin := by decide +kernel
def s_epoch_faults : S := [101, 112, 111, 99, 104, 95, 102, 97, 117, 108, 116, 115]
theorem t_epoch_faults : ("epoch_faults" : Str) = toStr s_epoch_faults := by decide +kernel
def s_look_faults : S := [108, 111, 111, 107, 95, 102, 97, 117, 108, 116, 115]
theorem t_look_faults : ("look_faults" : Str) = toStr s_look_faults := by decide +kernel
def s_still_faults : S := [115, 116, 105, 108, 108, 95, 102, 97, 117, 108, 116, 115]
theorem t_still_faults : ("still_faults" : Str) = toStr s_still_faults := by decide +kernel
def se_bd_StillBookD_initD_2_still_read_sleep : List (Nat × Nat) := [(0, 0), (0, 1), (2, 0), (2, 1), (2, 2)]
def ar_bd_StillBookD_initD_2_still_read_sleep (us ws : List VI) : List VI := arr3 se_bd_StillBookD_initD_2_still_read_sleep us [] ws
def se_bd_LookBookD_initD_1_check_look_chain : List (Nat × Nat) := [(0, 0), (2, 0), (2, 1), (2, 2)]
def ar_bd_LookBookD_initD_1_check_look_chain (us ws : List VI) : List VI := arr3 se_bd_LookBookD_initD_1_check_look_chain us [] ws
def se_bd_EpochBookD_initD_1_epochs_behind_check_fetch_mark_test_step_told : List (Nat × Nat) := [(0, 0), (2, 0), (2, 1), (2, 2), (2, 3), (2, 4), (2, 5), (2, 6), (2, 7)]
def ar_bd_EpochBookD_initD_1_epochs_behind_check_fetch_mark_test_step_told (us ws : List VI) : List VI := arr3 se_bd_EpochBookD_initD_1_epochs_behind_check_fetch_mark_test_step_told us [] ws
def se_bd_SettingD_initD_5_things : List (Nat × Nat) := [(0, 0), (0, 1), (0, 2), (0, 3), (0, 4), (2, 0)]
def ar_bd_SettingD_initD_5_things (us ws : List VI) : List VI := arr4 se_bd_SettingD_initD_5_things us [] ws [(.int 1), (.int 1), (.int 0)]
def se_bd_EpochBookD_initD_3_ : List (Nat × Nat) := [(0, 0), (0, 1), (0, 2), (1, 0), (1, 1), (1, 2), (1, 3), (1, 4), (1, 5)]
def ar_bd_EpochBookD_initD_3_ (us ws : List VI) : List VI := arr3 se_bd_EpochBookD_initD_3_ us [(.bl true), (.str s_behind), (.str s_fresh), (.str s_equal), (.str s_still), (.bl true)] ws
def se_bd_StillBookD_initD_2_ : List (Nat × Nat) := [(0, 0), (0, 1), (1, 0), (1, 1), (1, 2)]
def ar_bd_StillBookD_initD_2_ (us ws : List VI) : List VI := arr3 se_bd_StillBookD_initD_2_ us [(.str s_outside), (.str s_behind), (.str s_none)] ws
def se_bd_LookBookD_initD_1_ : List (Nat × Nat) := [(0, 0), (1, 0), (1, 1), (1, 2)]
def ar_bd_LookBookD_initD_1_ (us ws : List VI) : List VI := arr3 se_bd_LookBookD_initD_1_ us [(.bl true), (.str s_behind), (.str s_none)] ws
def tb_ORDERS : List (S × VI) := [(s_check, (.tup [(.bl false), (.bl true)])), (s_fetch, (.tup [(.str s_ahead), (.str s_behind)])), (s_mark, (.tup [(.str s_own), (.str s_fresh)])), (s_test, (.tup [(.str s_last), (.str s_equal)])), (s_step, (.tup [(.str s_add), (.str s_set), (.str s_still)])), (s_told, (.tup [(.bl false), (.bl true)])), (s_look, (.tup [(.str s_ahead), (.str s_behind)])), (s_chain, (.tup [(.str s_next), (.str s_both), (.str s_none)])), (s_still, (.tup [(.str s_anywhere), (.str s_outside)])), (s_read, (.tup [(.str s_ahead), (.str s_behind)])), (s_sleep, (.tup [(.str s_inside), (.str s_late), (.str s_outside), (.str s_none)]))]
def tb_FAULTS : List (S × VI) := [(s_epochs, (.glo s_epoch_faults)), (s_looks, (.glo s_look_faults)), (s_still, (.glo s_still_faults))]
def i_str : IsS := ⟨(some false), (some false), (some false), (some true), (some false), (some false), (some false), [(2, false), (3, false), (4, false), (5, false), (6, false), (29, false)]⟩
def i_EpochBook_LookBook_StillBook : IsS := ⟨(some false), (some false), (some false), (some false), (some false), (some false), (some false), [(2, false), (3, true), (4, true), (5, true), (6, false), (29, false)]⟩
def i_int : IsS := ⟨(some false), (some true), (some true), (some false), (some false), (some false), (some false), [(2, false), (3, false), (4, false), (5, false), (6, false), (29, false)]⟩
def i_bool : IsS := ⟨(some false), (some true), (some false), (some false), (some false), (some false), (some false), [(2, false), (3, false), (4, false), (5, false), (6, false), (29, false)]⟩
def i_Book : IsS := ⟨(some false), (some false), (some false), (some false), (some false), (some false), (some false), [(2, true), (3, true), (4, true), (5, true), (6, false), (29, false)]⟩
def i_Setting : IsS := ⟨(some false), (some false), (some false), (some false), (some false), (some false), (some false), [(2, false), (3, false), (4, false), (5, false), (6, false), (29, true)]⟩
def i_EpochBook : IsS := ⟨(some false), (some false), (some false), (some false), (some false), (some false), (some false), [(2, false), (3, true), (4, false), (5, false), (6, false), (29, false)]⟩
def m_Book_look_at_word : MS := (sIf (tOrM (tNotM (tOf (eIsi i_str.t (eV 1)))) (tOf (eBin fNotIn (eV 1) (eCon (lkT [(2, (.tup [])), (3, (.tup [(.str s_epochs), (.str s_behind), (.str s_check), (.str s_fetch), (.str s_mark), (.str s_test), (.str s_step), (.str s_told)])), (4, (.tup [(.str s_check), (.str s_look), (.str s_chain)])), (5, (.tup [(.str s_counts), (.str s_still), (.str s_read), (.str s_sleep)]))]) s_WORDS (eV 0))))) (sRaise 13 s_word (eV 1)) sNx)
def f_Book_look_at_word : MF := runB 2 0 m_Book_look_at_word
def m_BookD_getitemD : MS := (sSeq (sDrop (eMeth (lkT [(2, f_Book_look_at_word), (3, f_Book_look_at_word), (4, f_Book_look_at_word), (5, f_Book_look_at_word)]) s_look_at_word (eV 0) (aCons (eV 1) aNil))) (sSeq (sRet (eBin fIx (eFld [2, 3, 4, 5, 6] s_own (eV 0)) (eV 1))) sNx))
def f_BookD_getitemD : MF := runB 2 0 m_BookD_getitemD
def m_is_book : MS := (sRet (eIsi i_EpochBook_LookBook_StillBook.t (eV 0)))
def f_is_book : MF := runB 1 0 m_is_book
def m_look_at_book : MS := (sIf (tNotM (tOf (eCall f_is_book (aCons (eV 0) aNil)))) (sRaise 15 s_value (eV 0)) sNx)
def f_look_at_book : MF := runB 1 0 m_look_at_book
def m_Book_way : MS := (sRet (eCon (lkT [(2, (.str s_empty)), (3, (.str s_epochs)), (4, (.str s_looks)), (5, (.str s_still))]) s_WAY (eV 0)))
def f_Book_way : MF := runB 1 0 m_Book_way
def m_is_whole : MS := (sRet (eAnd (eIsi i_int.t (eV 0)) (eNot (eIsi i_bool.t (eV 0)))))
def f_is_whole : MF := runB 1 0 m_is_whole
def m_is_number : MS := (sRet (eAnd (eCall f_is_whole (aCons (eV 0) aNil)) (eChain fLe fLe (eV 1) (eV 0) (eV 2))))
def f_is_number : MF := runB 3 0 m_is_number
def m_values_at : MS := (sSeq (sIf (tOf (eBin fEq (eV 0) (eC (.str s_epochs)))) (sRet (eTupRg (eC (.int 2)) (eBin fAdd (eC (.int 6)) (eC (.int 1))))) sNx) (sSeq (sIf (tOf (eBin fEq (eV 0) (eC (.str s_behind)))) (sRet (eTupRg (eC (.int 1)) (eBin fAdd (eIxU (lkT [(2, f_BookD_getitemD), (3, f_BookD_getitemD), (4, f_BookD_getitemD), (5, f_BookD_getitemD)]) (eV 1) (eC (.str s_epochs))) (eC (.int 1))))) sNx) (sSeq (sRet (eIf (tOf (eBin fEq (eV 0) (eC (.str s_counts)))) (eTupRg (eC (.int 1)) (eBin fAdd (eC (.int 4)) (eC (.int 1)))) (eKd (lkS tb_ORDERS) (eV 0)))) sNx)))
def f_values_at : MF := runB 2 0 m_values_at
def m_BookD_eqD : MS := (sRet (eAnd (eIsi i_Book.t (eV 1)) (eAnd (eBin fEqX (eCon (lkT [(2, (.str s_empty)), (3, (.str s_epochs)), (4, (.str s_looks)), (5, (.str s_still))]) s_WAY (eV 0)) (eCon (lkT [(2, (.str s_empty)), (3, (.str s_epochs)), (4, (.str s_looks)), (5, (.str s_still))]) s_WAY (eV 1))) (eBin fEqX (eFld [2, 3, 4, 5, 6] s_own (eV 0)) (eFld [2, 3, 4, 5, 6] s_own (eV 1))))))
def f_BookD_eqD : MF := runB 2 0 m_BookD_eqD
def m_SettingD_eqD : MS := (sRet (eAnd (eIsi i_Setting.t (eV 1)) (eAnd (eCmpU [3, 4, 5] (lkT [(3, f_BookD_eqD), (4, f_BookD_eqD), (5, f_BookD_eqD)]) fEqX (eFld [29] s_kept (eV 0)) (eFld [29] s_kept (eV 1))) (eBin fEqX (eFld [29] s_hands (eV 0)) (eFld [29] s_hands (eV 1))))))
def f_SettingD_eqD : MF := runB 2 0 m_SettingD_eqD
def m_is_same : MS := (sSeq (sIf (tOf (eIsi i_bool.t (eV 1))) (sRet (eAnd (eIsi i_bool.t (eV 0)) (eCmpU [3, 4, 5, 6, 29] (lkT [(3, f_BookD_eqD), (4, f_BookD_eqD), (5, f_BookD_eqD), (29, f_SettingD_eqD)]) fEqX (eV 0) (eV 1)))) sNx) (sSeq (sIf (tOf (eIsi i_str.t (eV 1))) (sRet (eAnd (eIsi i_str.t (eV 0)) (eCmpU [3, 4, 5, 6, 29] (lkT [(3, f_BookD_eqD), (4, f_BookD_eqD), (5, f_BookD_eqD), (29, f_SettingD_eqD)]) fEqX (eV 0) (eV 1)))) sNx) (sSeq (sRet (eAnd (eCall f_is_whole (aCons (eV 0) aNil)) (eCmpU [3, 4, 5, 6, 29] (lkT [(3, f_BookD_eqD), (4, f_BookD_eqD), (5, f_BookD_eqD), (29, f_SettingD_eqD)]) fEqX (eV 0) (eV 1)))) sNx)))
def f_is_same : MF := runB 2 0 m_is_same
def m_is_value : MS := (sRet (eBin fNe (eLc (iSeq (eCall f_values_at (aCons (eV 0) (aCons (eV 1) aNil)))) (.one 2) [2] (tOf (eCall f_is_same (aCons (eIxU (lkT [(2, f_BookD_getitemD), (3, f_BookD_getitemD), (4, f_BookD_getitemD), (5, f_BookD_getitemD)]) (eV 1) (eV 0)) (aCons (eV 2) aNil)))) (eV 2)) (eLst aNil)))
def f_is_value : MF := runB 2 1 m_is_value
def m_Book_first_wrong : MS := (sSeq (sFor (iSeq (eCon (lkT [(2, (.tup [])), (3, (.tup [(.str s_epochs), (.str s_behind), (.str s_check), (.str s_fetch), (.str s_mark), (.str s_test), (.str s_step), (.str s_told)])), (4, (.tup [(.str s_check), (.str s_look), (.str s_chain)])), (5, (.tup [(.str s_counts), (.str s_still), (.str s_read), (.str s_sleep)]))]) s_WORDS (eV 0))) (gNm 2) (sIf (tNotM (tOf (eCall f_is_value (aCons (eV 2) (aCons (eV 1) aNil))))) (sRet (eV 2)) sNx)) (sSeq (sRet (eC .non)) sNx))
def f_Book_first_wrong : MF := runB 2 1 m_Book_first_wrong
def m_BookD_initD : MS := (sSeq (sAsg (eMeth (lkT [(2, f_Book_first_wrong), (3, f_Book_first_wrong), (4, f_Book_first_wrong), (5, f_Book_first_wrong)]) s_first_wrong (eV 0) (aCons (eV 1) aNil)) (gNm 2)) (sSeq (sIf (tOf (eBin fNotN (eV 2) (eC .non))) (sRaise 14 s_word (eV 2)) sNx) (sSeq (sFldM [2, 3, 4, 5, 6] s_own (eV 0) (eV 1)) (sSeq (sFldM [2, 3, 4, 5] s_order (eV 0) (eCB cList (aCons (eCon (lkT [(2, (.tup [])), (3, (.tup [(.str s_epochs), (.str s_behind), (.str s_check), (.str s_fetch), (.str s_mark), (.str s_test), (.str s_step), (.str s_told)])), (4, (.tup [(.str s_check), (.str s_look), (.str s_chain)])), (5, (.tup [(.str s_counts), (.str s_still), (.str s_read), (.str s_sleep)]))]) s_WORDS (eV 0)) aNil))) sNx))))
def f_BookD_initD : MF := runB 2 1 m_BookD_initD
def m_StillBookD_initD : MS := (sSeq (sSuper (knw [5]) 0 f_BookD_initD (aCons (eDisp [((eC (.str s_counts)), (eV 1)), ((eC (.str s_still)), (eV 2)), ((eC (.str s_read)), (eV 3)), ((eC (.str s_sleep)), (eV 4))]) aNil)) sNx)
def f_StillBookD_initD : MF := runB 5 1 m_StillBookD_initD
def m_StillBook_twin : MS := (sRet (eCallK 1 3 (mkK 5 f_StillBookD_initD ar_bd_StillBookD_initD_2_still_read_sleep) (aCons (eIxU (lkT [(2, f_BookD_getitemD), (3, f_BookD_getitemD), (4, f_BookD_getitemD), (5, f_BookD_getitemD)]) (eFld [2, 3, 4, 5, 6] s_own (eV 0)) (eC (.str s_counts))) aNil) (aCons (eIxU (lkT [(2, f_BookD_getitemD), (3, f_BookD_getitemD), (4, f_BookD_getitemD), (5, f_BookD_getitemD)]) (eFld [2, 3, 4, 5, 6] s_own (eV 0)) (eC (.str s_still))) (aCons (eIxU (lkT [(2, f_BookD_getitemD), (3, f_BookD_getitemD), (4, f_BookD_getitemD), (5, f_BookD_getitemD)]) (eFld [2, 3, 4, 5, 6] s_own (eV 0)) (eC (.str s_read))) (aCons (eIxU (lkT [(2, f_BookD_getitemD), (3, f_BookD_getitemD), (4, f_BookD_getitemD), (5, f_BookD_getitemD)]) (eFld [2, 3, 4, 5, 6] s_own (eV 0)) (eC (.str s_sleep))) aNil)))))
def f_StillBook_twin : MF := runB 1 0 m_StillBook_twin
def m_LookBookD_initD : MS := (sSeq (sSuper (knw [4]) 0 f_BookD_initD (aCons (eDisp [((eC (.str s_check)), (eV 1)), ((eC (.str s_look)), (eV 2)), ((eC (.str s_chain)), (eV 3))]) aNil)) sNx)
def f_LookBookD_initD : MF := runB 4 1 m_LookBookD_initD
def m_LookBook_twin : MS := (sRet (eCallK 0 3 (mkK 4 f_LookBookD_initD ar_bd_LookBookD_initD_1_check_look_chain) aNil (aCons (eIxU (lkT [(2, f_BookD_getitemD), (3, f_BookD_getitemD), (4, f_BookD_getitemD), (5, f_BookD_getitemD)]) (eFld [2, 3, 4, 5, 6] s_own (eV 0)) (eC (.str s_check))) (aCons (eIxU (lkT [(2, f_BookD_getitemD), (3, f_BookD_getitemD), (4, f_BookD_getitemD), (5, f_BookD_getitemD)]) (eFld [2, 3, 4, 5, 6] s_own (eV 0)) (eC (.str s_look))) (aCons (eIxU (lkT [(2, f_BookD_getitemD), (3, f_BookD_getitemD), (4, f_BookD_getitemD), (5, f_BookD_getitemD)]) (eFld [2, 3, 4, 5, 6] s_own (eV 0)) (eC (.str s_chain))) aNil)))))
def f_LookBook_twin : MF := runB 1 0 m_LookBook_twin
def m_EpochBookD_initD : MS := (sSeq (sSuper (knw [3]) 0 f_BookD_initD (aCons (eDisp [((eC (.str s_epochs)), (eV 1)), ((eC (.str s_behind)), (eV 2)), ((eC (.str s_check)), (eV 3)), ((eC (.str s_fetch)), (eV 4)), ((eC (.str s_mark)), (eV 5)), ((eC (.str s_test)), (eV 6)), ((eC (.str s_step)), (eV 7)), ((eC (.str s_told)), (eV 8))]) aNil)) sNx)
def f_EpochBookD_initD : MF := runB 9 1 m_EpochBookD_initD
def m_EpochBook_twin : MS := (sSeq (sAsg (eCB cDict (aCons (eFld [2, 3, 4, 5, 6] s_own (eV 0)) aNil)) (gNm 1)) (sSeq (sRet (eKwD [s_epochs, s_behind, s_check, s_fetch, s_mark, s_test, s_step, s_told] (mkK 3 f_EpochBookD_initD ar_bd_EpochBookD_initD_1_epochs_behind_check_fetch_mark_test_step_told) (eV 1))) sNx))
def f_EpochBook_twin : MF := runB 1 1 m_EpochBook_twin
def m_SettingD_initD : MS := (sSeq (sDrop (eCall f_look_at_book (aCons (eV 1) aNil))) (sSeq (sAsg (eIf (tOf (eBin fEq (eProp (lkT [(2, f_Book_way), (3, f_Book_way), (4, f_Book_way), (5, f_Book_way)]) (eV 1)) (eC (.str s_epochs)))) (eC (.int 7)) (eC (.int 0))) (gNm 6)) (sSeq (sFor (iSeq (eLst (aCons (eTup (aCons (eC (.str s_readers)) (aCons (eV 2) (aCons (eC (.int 1)) (aCons (eC (.int 3)) aNil))))) (aCons (eTup (aCons (eC (.str s_takers)) (aCons (eV 3) (aCons (eC (.int 1)) (aCons (eC (.int 2)) aNil))))) (aCons (eTup (aCons (eC (.str s_steppers)) (aCons (eV 4) (aCons (eC (.int 0)) (aCons (eV 6) aNil))))) (aCons (eTup (aCons (eC (.str s_things)) (aCons (eV 5) (aCons (eC (.int 1)) (aCons (eC (.int 40)) aNil))))) aNil)))))) (gTgt (.many [7, 8, 9, 10])) (sIf (tNotM (tOf (eCall f_is_number (aCons (eV 8) (aCons (eV 9) (aCons (eV 10) aNil)))))) (sRaise 16 s_word (eV 7)) sNx)) (sSeq (sFldM [29] s_kept (eV 0) (eMeth (lkT [(3, f_EpochBook_twin), (4, f_LookBook_twin), (5, f_StillBook_twin)]) s_twin (eV 1) aNil)) (sSeq (sFldM [29] s_hands (eV 0) (eTup (aCons (eV 2) (aCons (eV 3) (aCons (eV 4) (aCons (eV 5) aNil)))))) sNx)))))
def f_SettingD_initD : MF := runB 6 5 m_SettingD_initD
def m_least_needed : MS := (sSeq (sIf (tOrM (tOf (eBin fNe (eIxU (lkT [(2, f_BookD_getitemD), (3, f_BookD_getitemD), (4, f_BookD_getitemD), (5, f_BookD_getitemD)]) (eV 0) (eC (.str s_fetch))) (eC (.str s_behind)))) (tOrM (tNotM (tOf (eIxU (lkT [(2, f_BookD_getitemD), (3, f_BookD_getitemD), (4, f_BookD_getitemD), (5, f_BookD_getitemD)]) (eV 0) (eC (.str s_told))))) (tOf (eBin fEq (eIxU (lkT [(2, f_BookD_getitemD), (3, f_BookD_getitemD), (4, f_BookD_getitemD), (5, f_BookD_getitemD)]) (eV 0) (eC (.str s_step))) (eC (.str s_add)))))) (sRet (eC .non)) sNx) (sSeq (sIf (tOf (eIxU (lkT [(2, f_BookD_getitemD), (3, f_BookD_getitemD), (4, f_BookD_getitemD), (5, f_BookD_getitemD)]) (eV 0) (eC (.str s_check)))) (sRet (eIf (tOf (eBin fEq (eIxU (lkT [(2, f_BookD_getitemD), (3, f_BookD_getitemD), (4, f_BookD_getitemD), (5, f_BookD_getitemD)]) (eV 0) (eC (.str s_mark))) (eC (.str s_fresh)))) (eC (.int 2)) (eC (.int 3)))) sNx) (sSeq (sRet (eIf (tAndM (tOf (eBin fEq (eIxU (lkT [(2, f_BookD_getitemD), (3, f_BookD_getitemD), (4, f_BookD_getitemD), (5, f_BookD_getitemD)]) (eV 0) (eC (.str s_mark))) (eC (.str s_fresh)))) (tOf (eBin fEq (eIxU (lkT [(2, f_BookD_getitemD), (3, f_BookD_getitemD), (4, f_BookD_getitemD), (5, f_BookD_getitemD)]) (eV 0) (eC (.str s_test))) (eC (.str s_equal))))) (eC (.int 3)) (eC .non))) sNx)))
def f_least_needed : MF := runB 1 0 m_least_needed
def m_is_safe : MS := (sSeq (sDrop (eCall f_look_at_book (aCons (eV 0) aNil))) (sSeq (sIf (tOf (eBin fEq (eProp (lkT [(2, f_Book_way), (3, f_Book_way), (4, f_Book_way), (5, f_Book_way)]) (eV 0)) (eC (.str s_epochs)))) (sSeq (sAsg (eCall f_least_needed (aCons (eV 0) aNil)) (gNm 1)) (sSeq (sRet (eAnd (eBin fNotN (eV 1) (eC .non)) (eBin fGe (eIxU (lkT [(2, f_BookD_getitemD), (3, f_BookD_getitemD), (4, f_BookD_getitemD), (5, f_BookD_getitemD)]) (eV 0) (eC (.str s_behind))) (eV 1)))) sNx)) sNx) (sSeq (sIf (tOf (eBin fEq (eProp (lkT [(2, f_Book_way), (3, f_Book_way), (4, f_Book_way), (5, f_Book_way)]) (eV 0)) (eC (.str s_looks)))) (sRet (eAnd (eIxU (lkT [(2, f_BookD_getitemD), (3, f_BookD_getitemD), (4, f_BookD_getitemD), (5, f_BookD_getitemD)]) (eV 0) (eC (.str s_check))) (eAnd (eBin fEq (eIxU (lkT [(2, f_BookD_getitemD), (3, f_BookD_getitemD), (4, f_BookD_getitemD), (5, f_BookD_getitemD)]) (eV 0) (eC (.str s_look))) (eC (.str s_behind))) (eBin fNe (eIxU (lkT [(2, f_BookD_getitemD), (3, f_BookD_getitemD), (4, f_BookD_getitemD), (5, f_BookD_getitemD)]) (eV 0) (eC (.str s_chain))) (eC (.str s_next)))))) sNx) (sSeq (sIf (tOf (eBin fIn (eIxU (lkT [(2, f_BookD_getitemD), (3, f_BookD_getitemD), (4, f_BookD_getitemD), (5, f_BookD_getitemD)]) (eV 0) (eC (.str s_sleep))) (eTup (aCons (eC (.str s_inside)) (aCons (eC (.str s_late)) aNil))))) (sRet (eC (.bl false))) sNx) (sSeq (sRet (eOr (eBin fEq (eIxU (lkT [(2, f_BookD_getitemD), (3, f_BookD_getitemD), (4, f_BookD_getitemD), (5, f_BookD_getitemD)]) (eV 0) (eC (.str s_counts))) (eC (.int 1))) (eAnd (eBin fEq (eIxU (lkT [(2, f_BookD_getitemD), (3, f_BookD_getitemD), (4, f_BookD_getitemD), (5, f_BookD_getitemD)]) (eV 0) (eC (.str s_still))) (eC (.str s_outside))) (eBin fEq (eIxU (lkT [(2, f_BookD_getitemD), (3, f_BookD_getitemD), (4, f_BookD_getitemD), (5, f_BookD_getitemD)]) (eV 0) (eC (.str s_read))) (eC (.str s_behind)))))) sNx)))))
def f_is_safe : MF := runB 1 1 m_is_safe
def m_span : MS := (sSeq (sDrop (eCall f_look_at_book (aCons (eV 0) aNil))) (sSeq (sIf (tOrM (tOf (eBin fNe (eProp (lkT [(2, f_Book_way), (3, f_Book_way), (4, f_Book_way), (5, f_Book_way)]) (eV 0)) (eC (.str s_epochs)))) (tOrM (tNotM (tOf (eIxU (lkT [(2, f_BookD_getitemD), (3, f_BookD_getitemD), (4, f_BookD_getitemD), (5, f_BookD_getitemD)]) (eV 0) (eC (.str s_told))))) (tOf (eBin fEq (eIxU (lkT [(2, f_BookD_getitemD), (3, f_BookD_getitemD), (4, f_BookD_getitemD), (5, f_BookD_getitemD)]) (eV 0) (eC (.str s_step))) (eC (.str s_add)))))) (sRet (eC .non)) sNx) (sSeq (sIf (tOf (eIxU (lkT [(2, f_BookD_getitemD), (3, f_BookD_getitemD), (4, f_BookD_getitemD), (5, f_BookD_getitemD)]) (eV 0) (eC (.str s_check)))) (sRet (eC (.int 1))) sNx) (sSeq (sRet (eIf (tOf (eBin fEq (eIxU (lkT [(2, f_BookD_getitemD), (3, f_BookD_getitemD), (4, f_BookD_getitemD), (5, f_BookD_getitemD)]) (eV 0) (eC (.str s_test))) (eC (.str s_equal)))) (eC (.int 2)) (eC .non))) sNx))))
def f_span : MF := runB 1 0 m_span
def m_still_faults : MS := (sSeq (sAsg (eBin fGt (eIxU (lkT [(2, f_BookD_getitemD), (3, f_BookD_getitemD), (4, f_BookD_getitemD), (5, f_BookD_getitemD)]) (eV 0) (eC (.str s_counts))) (eC (.int 1))) (gNm 1)) (sSeq (sRet (eLst (aCons (eTup (aCons (eC (.str s_still)) (aCons (eAnd (eV 1) (eBin fEq (eIxU (lkT [(2, f_BookD_getitemD), (3, f_BookD_getitemD), (4, f_BookD_getitemD), (5, f_BookD_getitemD)]) (eV 0) (eC (.str s_still))) (eC (.str s_anywhere)))) aNil))) (aCons (eTup (aCons (eC (.str s_read)) (aCons (eAnd (eV 1) (eBin fEq (eIxU (lkT [(2, f_BookD_getitemD), (3, f_BookD_getitemD), (4, f_BookD_getitemD), (5, f_BookD_getitemD)]) (eV 0) (eC (.str s_read))) (eC (.str s_ahead)))) aNil))) (aCons (eTup (aCons (eC (.str s_sleep)) (aCons (eBin fIn (eIxU (lkT [(2, f_BookD_getitemD), (3, f_BookD_getitemD), (4, f_BookD_getitemD), (5, f_BookD_getitemD)]) (eV 0) (eC (.str s_sleep))) (eTup (aCons (eC (.str s_inside)) (aCons (eC (.str s_late)) aNil)))) aNil))) aNil))))) sNx))
def f_still_faults : MF := runB 1 1 m_still_faults
def m_look_faults : MS := (sRet (eLst (aCons (eTup (aCons (eC (.str s_check)) (aCons (eNot (eIxU (lkT [(2, f_BookD_getitemD), (3, f_BookD_getitemD), (4, f_BookD_getitemD), (5, f_BookD_getitemD)]) (eV 0) (eC (.str s_check)))) aNil))) (aCons (eTup (aCons (eC (.str s_look)) (aCons (eBin fEq (eIxU (lkT [(2, f_BookD_getitemD), (3, f_BookD_getitemD), (4, f_BookD_getitemD), (5, f_BookD_getitemD)]) (eV 0) (eC (.str s_look))) (eC (.str s_ahead))) aNil))) (aCons (eTup (aCons (eC (.str s_chain)) (aCons (eBin fEq (eIxU (lkT [(2, f_BookD_getitemD), (3, f_BookD_getitemD), (4, f_BookD_getitemD), (5, f_BookD_getitemD)]) (eV 0) (eC (.str s_chain))) (eC (.str s_next))) aNil))) aNil)))))
def f_look_faults : MF := runB 1 0 m_look_faults
def m_epoch_faults : MS := (sSeq (sAsg (eBin fEq (eIxU (lkT [(2, f_BookD_getitemD), (3, f_BookD_getitemD), (4, f_BookD_getitemD), (5, f_BookD_getitemD)]) (eV 0) (eC (.str s_epochs))) (eC (.int 2))) (gNm 1)) (sSeq (sRet (eLst (aCons (eTup (aCons (eC (.str s_behind)) (aCons (eBin fEq (eIxU (lkT [(2, f_BookD_getitemD), (3, f_BookD_getitemD), (4, f_BookD_getitemD), (5, f_BookD_getitemD)]) (eV 0) (eC (.str s_behind))) (eC (.int 1))) aNil))) (aCons (eTup (aCons (eC (.str s_check)) (aCons (eAnd (eV 1) (eNot (eIxU (lkT [(2, f_BookD_getitemD), (3, f_BookD_getitemD), (4, f_BookD_getitemD), (5, f_BookD_getitemD)]) (eV 0) (eC (.str s_check))))) aNil))) (aCons (eTup (aCons (eC (.str s_fetch)) (aCons (eBin fEq (eIxU (lkT [(2, f_BookD_getitemD), (3, f_BookD_getitemD), (4, f_BookD_getitemD), (5, f_BookD_getitemD)]) (eV 0) (eC (.str s_fetch))) (eC (.str s_ahead))) aNil))) (aCons (eTup (aCons (eC (.str s_mark)) (aCons (eAnd (eV 1) (eBin fEq (eIxU (lkT [(2, f_BookD_getitemD), (3, f_BookD_getitemD), (4, f_BookD_getitemD), (5, f_BookD_getitemD)]) (eV 0) (eC (.str s_mark))) (eC (.str s_own)))) aNil))) (aCons (eTup (aCons (eC (.str s_step)) (aCons (eBin fEq (eIxU (lkT [(2, f_BookD_getitemD), (3, f_BookD_getitemD), (4, f_BookD_getitemD), (5, f_BookD_getitemD)]) (eV 0) (eC (.str s_step))) (eC (.str s_add))) aNil))) (aCons (eTup (aCons (eC (.str s_told)) (aCons (eNot (eIxU (lkT [(2, f_BookD_getitemD), (3, f_BookD_getitemD), (4, f_BookD_getitemD), (5, f_BookD_getitemD)]) (eV 0) (eC (.str s_told)))) aNil))) aNil)))))))) sNx))
def f_epoch_faults : MF := runB 1 1 m_epoch_faults
def m_faults : MS := (sSeq (sDrop (eCall f_look_at_book (aCons (eV 0) aNil))) (sSeq (sAsg (eKd (lkS tb_FAULTS) (eProp (lkT [(2, f_Book_way), (3, f_Book_way), (4, f_Book_way), (5, f_Book_way)]) (eV 0))) (gNm 1)) (sSeq (sRet (eLc (iSeq (eCallL 1 (lkF [(s_epoch_faults, f_epoch_faults), (s_look_faults, f_look_faults), (s_still_faults, f_still_faults)]) (aCons (eV 0) aNil))) (.many [2, 3]) [2, 3] (tOf (eV 3)) (eV 2))) sNx)))
def f_faults : MF := runB 1 3 m_faults
def m_look_at_epochs : MS := (sIf (tNotM (tOf (eIsi i_EpochBook.t (eV 0)))) (sRaise 15 s_value (eV 0)) sNx)
def f_look_at_epochs : MF := runB 1 0 m_look_at_epochs
def m_least_behind : MS := (sSeq (sDrop (eCall f_look_at_epochs (aCons (eV 0) aNil))) sErr)
def f_least_behind : MF := runB 1 1 m_least_behind
def m_fewest_epochs : MS := (sSeq (sDrop (eCall f_look_at_epochs (aCons (eV 0) aNil))) sErr)
def f_fewest_epochs : MF := runB 1 0 m_fewest_epochs
def m_safe_numbers : MS := (sSeq (sDrop (eCall f_look_at_epochs (aCons (eV 0) aNil))) sErr)
def f_safe_numbers : MF := runB 1 3 m_safe_numbers
def m_breaking : MS := (sSeq (sDrop (eCall f_look_at_book (aCons (eV 0) aNil))) sErr)
def f_breaking : MF := runB 1 3 m_breaking
def m_paper_of : MS := (sSeq (sDrop (eCall f_look_at_book (aCons (eV 0) aNil))) sErr)
def f_paper_of : MF := runB 1 2 m_paper_of
def m_compared : MS := (sSeq (sDrop (eCall f_look_at_book (aCons (eV 0) aNil))) (sSeq (sDrop (eCall f_look_at_book (aCons (eV 1) aNil))) sErr))
def f_compared : MF := runB 2 0 m_compared
def m__law_ask : MS := (sSeq (sIf (tOf (eBin fEq (eV 0) (eC (.int 0)))) (sRet (eCall f_is_safe (aCons (eV 1) aNil))) sNx) (sSeq (sIf (tOf (eBin fEq (eV 0) (eC (.int 1)))) (sRet (eCall f_span (aCons (eV 1) aNil))) sNx) (sSeq (sIf (tOf (eBin fEq (eV 0) (eC (.int 2)))) (sRet (eCall f_faults (aCons (eV 1) aNil))) sNx) (sSeq (sIf (tOf (eBin fEq (eV 0) (eC (.int 3)))) (sRet (eCall f_least_behind (aCons (eV 1) aNil))) sNx) (sSeq (sIf (tOf (eBin fEq (eV 0) (eC (.int 4)))) (sRet (eCall f_fewest_epochs (aCons (eV 1) aNil))) sNx) (sSeq (sIf (tOf (eBin fEq (eV 0) (eC (.int 5)))) (sRet (eListG [15] f_safe_numbers (aCons (eV 1) aNil))) sNx) (sSeq (sIf (tOf (eBin fEq (eV 0) (eC (.int 6)))) (sRet (eCall f_breaking (aCons (eV 1) aNil))) sNx) (sSeq (sIf (tOf (eBin fEq (eV 0) (eC (.int 7)))) (sRet (eCall f_paper_of (aCons (eV 1) aNil))) sNx) (sSeq (sIf (tOf (eBin fEq (eV 0) (eC (.int 8)))) (sRet (eCall f_compared (aCons (eV 1) (aCons (eC (.int 5)) aNil)))) sNx) (sSeq (sRet (eCall f_compared (aCons (eCallK 2 0 (mkK 3 f_EpochBookD_initD ar_bd_EpochBookD_initD_3_) (aCons (eC (.int 2)) (aCons (eC (.int 1)) aNil)) aNil) (aCons (eV 1) aNil)))) sNx))))))))))
def f__law_ask : MF := runB 2 0 m__law_ask
def m__law_refused : MS := (sSeq (sAsg (eC .non) (gNm 2)) (sSeq (sTry (sDrop (eCall f__law_ask (aCons (eV 0) (aCons (eV 1) aNil)))) ((lkT [(13, false), (15, true), (16, false), (14, false)], 3, fun c n => (sSeq (sAsg (eAnd (eXi (lkT [(13, true), (15, true), (16, true), (14, true)]) c n) (eAnd (eXi (lkT [(13, true), (15, true), (16, true), (14, true)]) c n) (eNot (eXi (lkT [(13, false), (15, false), (16, true), (14, false)]) c n)))) (gNm 4)) (sSeq (sAsg (eLst (aCons (eV 4) (aCons (eXf [15] c n s_value) aNil))) (gNm 2)) sNx))) :: [])) (sSeq (sRet (eAnd (eBin fNotN (eV 2) (eC .non)) (eAnd (eIxU (lkT [(2, f_BookD_getitemD), (3, f_BookD_getitemD), (4, f_BookD_getitemD), (5, f_BookD_getitemD)]) (eV 2) (eC (.int 0))) (eCmpU [3, 4, 5, 6, 29] (lkT [(3, f_BookD_eqD), (4, f_BookD_eqD), (5, f_BookD_eqD), (29, f_SettingD_eqD)]) fEqX (eIxU (lkT [(2, f_BookD_getitemD), (3, f_BookD_getitemD), (4, f_BookD_getitemD), (5, f_BookD_getitemD)]) (eV 2) (eC (.int 1))) (eV 1))))) sNx)))
def f__law_refused : MF := runB 2 3 m__law_refused
def m_law : MS := (sSeq (sAsg (eC (.int 0)) (gNm 1)) (sSeq (sIf (tOf (eBin fNe (eV 0) (eLst aNil))) (sAsg (eBin fMod (eCB cInt (aCons (eIxU (lkT [(2, f_BookD_getitemD), (3, f_BookD_getitemD), (4, f_BookD_getitemD), (5, f_BookD_getitemD)]) (eV 0) (eC (.int 0))) aNil)) (eC (.int 9))) (gNm 1)) sNx) (sSeq (sAsg (eLst (aCons (eC .non) (aCons (eC (.bl true)) (aCons (eC (.int 0)) (aCons (eC (.int 3)) (aCons (eC (.str s_epochs)) (aCons (eLst aNil) (aCons (eTup (aCons (eC (.str s_epochs)) (aCons (eC (.int 2)) (aCons (eC (.int 1)) aNil)))) (aCons (eDisp [((eC (.str s_epochs)), (eC (.int 2)))]) aNil))))))))) (gNm 2)) (sSeq (sDrop (eBM .lst mAppend (eV 2) (aCons (eCallK 4 1 (mkK 29 f_SettingD_initD ar_bd_SettingD_initD_5_things) (aCons (eCallK 2 0 (mkK 3 f_EpochBookD_initD ar_bd_EpochBookD_initD_3_) (aCons (eC (.int 2)) (aCons (eC (.int 2)) aNil)) aNil) (aCons (eC (.int 1)) (aCons (eC (.int 1)) (aCons (eC (.int 1)) aNil)))) (aCons (eC (.int 2)) aNil)) aNil))) (sSeq (sFor (iSeq (eBin fAdd (eSl (eV 2) (oSome (eV 1)) oNo) (eSl (eV 2) oNo (oSome (eV 1))))) (gNm 3) (sFor (iRng (aCons (eC (.int 10)) aNil)) (gNm 4) (sIf (tNotM (tOf (eCall f__law_refused (aCons (eV 4) (aCons (eV 3) aNil))))) (sRet (eC (.bl false))) sNx))) (sSeq (sFor (iSeq (eLst (aCons (eCallK 0 0 (mkK 4 f_LookBookD_initD ar_bd_LookBookD_initD_1_) aNil aNil) (aCons (eCallK 1 0 (mkK 5 f_StillBookD_initD ar_bd_StillBookD_initD_2_) (aCons (eC (.int 2)) aNil) aNil) aNil)))) (gNm 3) (sSeq (sFor (iRng (aCons (eC (.int 3)) (aCons (eC (.int 6)) aNil))) (gNm 4) (sIf (tNotM (tOf (eCall f__law_refused (aCons (eV 4) (aCons (eV 3) aNil))))) (sRet (eC (.bl false))) sNx)) (sSeq (sIf (tOrM (tNotM (tOf (eCall f_is_safe (aCons (eV 3) aNil)))) (tOrM (tOf (eBin fNe (eCall f_faults (aCons (eV 3) aNil)) (eLst aNil))) (tOf (eBin fNotN (eCall f_span (aCons (eV 3) aNil)) (eC .non))))) (sRet (eC (.bl false))) sNx) sNx))) (sSeq (sRet (eC (.bl true))) sNx)))))))
def f_law : MF := runB 1 4 m_law
abbrev st_NoSwitchD_initD : Stmt := clsAt 3 0
abbrev a_NoSwitchD_initD : Defn := mA "NoSwitch" "__init__"
abbrev st_Book_look_at_word : Stmt := clsAt 21 5
abbrev a_Book_look_at_word : Defn := mA "Book" "look_at_word"
abbrev st_BookD_getitemD : Stmt := clsAt 21 9
abbrev a_BookD_getitemD : Defn := mA "Book" "__getitem__"
abbrev st_is_book : Stmt := top 25
abbrev a_is_book : Defn := gA "is_book"
abbrev st_NoBookD_initD : Stmt := clsAt 5 0
abbrev a_NoBookD_initD : Defn := mA "NoBook" "__init__"
abbrev st_look_at_book : Stmt := top 26
abbrev a_look_at_book : Defn := gA "look_at_book"
abbrev st_Book_way : Stmt := clsAt 21 4
abbrev a_Book_way : Defn := getAd "Book" "way"
abbrev st_is_whole : Stmt := top 11
abbrev a_is_whole : Defn := gA "is_whole"
abbrev st_is_number : Stmt := top 10
abbrev a_is_number : Defn := gA "is_number"
abbrev st_NoSettingD_initD : Stmt := clsAt 6 0
abbrev a_NoSettingD_initD : Defn := mA "NoSetting" "__init__"
abbrev st_values_at : Stmt := top 17
abbrev a_values_at : Defn := gA "values_at"
abbrev st_BookD_eqD : Stmt := clsAt 21 13
abbrev a_BookD_eqD : Defn := mA "Book" "__eq__"
abbrev st_SettingD_eqD : Stmt := clsAt 46 6
abbrev a_SettingD_eqD : Defn := mA "Setting" "__eq__"
abbrev st_is_same : Stmt := top 18
abbrev a_is_same : Defn := gA "is_same"
abbrev st_is_value : Stmt := top 19
abbrev a_is_value : Defn := gA "is_value"
abbrev st_Book_first_wrong : Stmt := clsAt 21 3
abbrev a_Book_first_wrong : Defn := mA "Book" "first_wrong"
abbrev st_NoValueD_initD : Stmt := clsAt 4 0
abbrev a_NoValueD_initD : Defn := mA "NoValue" "__init__"
abbrev st_BookD_initD : Stmt := clsAt 21 2
abbrev a_BookD_initD : Defn := mA "Book" "__init__"
abbrev st_StillBookD_initD : Stmt := clsAt 24 2
abbrev a_StillBookD_initD : Defn := mA "StillBook" "__init__"
abbrev st_StillBook_twin : Stmt := clsAt 24 5
abbrev a_StillBook_twin : Defn := mA "StillBook" "twin"
abbrev st_LookBookD_initD : Stmt := clsAt 23 2
abbrev a_LookBookD_initD : Defn := mA "LookBook" "__init__"
abbrev st_LookBook_twin : Stmt := clsAt 23 5
abbrev a_LookBook_twin : Defn := mA "LookBook" "twin"
abbrev st_EpochBookD_initD : Stmt := clsAt 22 2
abbrev a_EpochBookD_initD : Defn := mA "EpochBook" "__init__"
abbrev st_EpochBook_twin : Stmt := clsAt 22 5
abbrev a_EpochBook_twin : Defn := mA "EpochBook" "twin"
abbrev st_SettingD_initD : Stmt := clsAt 46 0
abbrev a_SettingD_initD : Defn := mA "Setting" "__init__"
abbrev st_least_needed : Stmt := top 29
abbrev a_least_needed : Defn := gA "least_needed"
abbrev st_is_safe : Stmt := top 30
abbrev a_is_safe : Defn := gA "is_safe"
abbrev st_span : Stmt := top 31
abbrev a_span : Defn := gA "span"
abbrev st_still_faults : Stmt := top 33
abbrev a_still_faults : Defn := gA "still_faults"
abbrev st_look_faults : Stmt := top 34
abbrev a_look_faults : Defn := gA "look_faults"
abbrev st_epoch_faults : Stmt := top 32
abbrev a_epoch_faults : Defn := gA "epoch_faults"
abbrev st_faults : Stmt := top 36
abbrev a_faults : Defn := gA "faults"
abbrev st_look_at_epochs : Stmt := top 37
abbrev a_look_at_epochs : Defn := gA "look_at_epochs"
abbrev st_least_behind : Stmt := top 38
abbrev a_least_behind : Defn := gA "least_behind"
abbrev st_fewest_epochs : Stmt := top 39
abbrev a_fewest_epochs : Defn := gA "fewest_epochs"
abbrev st_safe_numbers : Stmt := top 40
abbrev a_safe_numbers : Defn := gA "safe_numbers"
abbrev st_breaking : Stmt := top 62
abbrev a_breaking : Defn := gA "breaking"
abbrev st_paper_of : Stmt := top 74
abbrev a_paper_of : Defn := gA "paper_of"
abbrev st_compared : Stmt := top 64
abbrev a_compared : Defn := gA "compared"
abbrev st__law_ask : Stmt := top 76
abbrev a__law_ask : Defn := gA "_law_ask"
abbrev st__law_refused : Stmt := top 77
abbrev a__law_refused : Defn := gA "_law_refused"
abbrev st_law : Stmt := top 78
abbrev a_law : Defn := gA "law"
def gd_Book_look_at_word : GDef := ⟨a_Book_look_at_word, "look_at_word", "Book.look_at_word", defArgs st_Book_look_at_word, defBody st_Book_look_at_word, defScope st_Book_look_at_word, [], []⟩
def gd_BookD_getitemD : GDef := ⟨a_BookD_getitemD, "__getitem__", "Book.__getitem__", defArgs st_BookD_getitemD, defBody st_BookD_getitemD, defScope st_BookD_getitemD, [], []⟩
def gd_is_book : GDef := ⟨a_is_book, "is_book", "is_book", defArgs st_is_book, defBody st_is_book, defScope st_is_book, [], []⟩
def gd_look_at_book : GDef := ⟨a_look_at_book, "look_at_book", "look_at_book", defArgs st_look_at_book, defBody st_look_at_book, defScope st_look_at_book, [], []⟩
def gd_Book_way : GDef := ⟨a_Book_way, "way", "Book.way", defArgs st_Book_way, defBody st_Book_way, defScope st_Book_way, [], []⟩
def gd_is_whole : GDef := ⟨a_is_whole, "is_whole", "is_whole", defArgs st_is_whole, defBody st_is_whole, defScope st_is_whole, [], []⟩
def gd_is_number : GDef := ⟨a_is_number, "is_number", "is_number", defArgs st_is_number, defBody st_is_number, defScope st_is_number, [], []⟩
def gd_values_at : GDef := ⟨a_values_at, "values_at", "values_at", defArgs st_values_at, defBody st_values_at, defScope st_values_at, [], []⟩
def gd_BookD_eqD : GDef := ⟨a_BookD_eqD, "__eq__", "Book.__eq__", defArgs st_BookD_eqD, defBody st_BookD_eqD, defScope st_BookD_eqD, [], []⟩
def gd_SettingD_eqD : GDef := ⟨a_SettingD_eqD, "__eq__", "Setting.__eq__", defArgs st_SettingD_eqD, defBody st_SettingD_eqD, defScope st_SettingD_eqD, [], []⟩
def gd_is_same : GDef := ⟨a_is_same, "is_same", "is_same", defArgs st_is_same, defBody st_is_same, defScope st_is_same, [], []⟩
def gd_is_value : GDef := ⟨a_is_value, "is_value", "is_value", defArgs st_is_value, defBody st_is_value, defScope st_is_value, [], []⟩
def gd_Book_first_wrong : GDef := ⟨a_Book_first_wrong, "first_wrong", "Book.first_wrong", defArgs st_Book_first_wrong, defBody st_Book_first_wrong, defScope st_Book_first_wrong, [], []⟩
def gd_BookD_initD : GDef := ⟨a_BookD_initD, "__init__", "Book.__init__", defArgs st_BookD_initD, defBody st_BookD_initD, defScope st_BookD_initD, [], []⟩
def gd_StillBook_twin : GDef := ⟨a_StillBook_twin, "twin", "StillBook.twin", defArgs st_StillBook_twin, defBody st_StillBook_twin, defScope st_StillBook_twin, [], []⟩
def gd_LookBook_twin : GDef := ⟨a_LookBook_twin, "twin", "LookBook.twin", defArgs st_LookBook_twin, defBody st_LookBook_twin, defScope st_LookBook_twin, [], []⟩
def gd_EpochBook_twin : GDef := ⟨a_EpochBook_twin, "twin", "EpochBook.twin", defArgs st_EpochBook_twin, defBody st_EpochBook_twin, defScope st_EpochBook_twin, [], []⟩
def gd_SettingD_initD : GDef := ⟨a_SettingD_initD, "__init__", "Setting.__init__", defArgs st_SettingD_initD, defBody st_SettingD_initD, defScope st_SettingD_initD, [(.int 1), (.int 1), (.int 0)], [("things", (.int 3))]⟩
def gd_least_needed : GDef := ⟨a_least_needed, "least_needed", "least_needed", defArgs st_least_needed, defBody st_least_needed, defScope st_least_needed, [], []⟩
def gd_is_safe : GDef := ⟨a_is_safe, "is_safe", "is_safe", defArgs st_is_safe, defBody st_is_safe, defScope st_is_safe, [], []⟩
def gd_span : GDef := ⟨a_span, "span", "span", defArgs st_span, defBody st_span, defScope st_span, [], []⟩
def gd_still_faults : GDef := ⟨a_still_faults, "still_faults", "still_faults", defArgs st_still_faults, defBody st_still_faults, defScope st_still_faults, [], []⟩
def gd_look_faults : GDef := ⟨a_look_faults, "look_faults", "look_faults", defArgs st_look_faults, defBody st_look_faults, defScope st_look_faults, [], []⟩
def gd_epoch_faults : GDef := ⟨a_epoch_faults, "epoch_faults", "epoch_faults", defArgs st_epoch_faults, defBody st_epoch_faults, defScope st_epoch_faults, [], []⟩
def gd_faults : GDef := ⟨a_faults, "faults", "faults", defArgs st_faults, defBody st_faults, defScope st_faults, [], []⟩
def gd_look_at_epochs : GDef := ⟨a_look_at_epochs, "look_at_epochs", "look_at_epochs", defArgs st_look_at_epochs, defBody st_look_at_epochs, defScope st_look_at_epochs, [], []⟩
def gd_least_behind : GDef := ⟨a_least_behind, "least_behind", "least_behind", defArgs st_least_behind, defBody st_least_behind, defScope st_least_behind, [], []⟩
def gd_fewest_epochs : GDef := ⟨a_fewest_epochs, "fewest_epochs", "fewest_epochs", defArgs st_fewest_epochs, defBody st_fewest_epochs, defScope st_fewest_epochs, [], []⟩
def gd_safe_numbers : GDef := ⟨a_safe_numbers, "safe_numbers", "safe_numbers", defArgs st_safe_numbers, defBody st_safe_numbers, defScope st_safe_numbers, [], []⟩
def gd_breaking : GDef := ⟨a_breaking, "breaking", "breaking", defArgs st_breaking, defBody st_breaking, defScope st_breaking, [], []⟩
def gd_paper_of : GDef := ⟨a_paper_of, "paper_of", "paper_of", defArgs st_paper_of, defBody st_paper_of, defScope st_paper_of, [], []⟩
def gd_compared : GDef := ⟨a_compared, "compared", "compared", defArgs st_compared, defBody st_compared, defScope st_compared, [], []⟩
def gd__law_ask : GDef := ⟨a__law_ask, "_law_ask", "_law_ask", defArgs st__law_ask, defBody st__law_ask, defScope st__law_ask, [], []⟩
def gd__law_refused : GDef := ⟨a__law_refused, "_law_refused", "_law_refused", defArgs st__law_refused, defBody st__law_refused, defScope st__law_refused, [], []⟩
def gd_law : GDef := ⟨a_law, "law", "law", defArgs st_law, defBody st_law, defScope st_law, [], []⟩
def sd_NoSwitchD_initD : SDef := ⟨a_NoSwitchD_initD, "__init__", "NoSwitch.__init__", defArgs st_NoSwitchD_initD, defBody st_NoSwitchD_initD, defScope st_NoSwitchD_initD, [], "NoSwitch", P.main.file⟩
def sd_NoBookD_initD : SDef := ⟨a_NoBookD_initD, "__init__", "NoBook.__init__", defArgs st_NoBookD_initD, defBody st_NoBookD_initD, defScope st_NoBookD_initD, [], "NoBook", P.main.file⟩
def sd_NoSettingD_initD : SDef := ⟨a_NoSettingD_initD, "__init__", "NoSetting.__init__", defArgs st_NoSettingD_initD, defBody st_NoSettingD_initD, defScope st_NoSettingD_initD, [], "NoSetting", P.main.file⟩
def sd_NoValueD_initD : SDef := ⟨a_NoValueD_initD, "__init__", "NoValue.__init__", defArgs st_NoValueD_initD, defBody st_NoValueD_initD, defScope st_NoValueD_initD, [], "NoValue", P.main.file⟩
def sd_StillBookD_initD : SDef := ⟨a_StillBookD_initD, "__init__", "StillBook.__init__", defArgs st_StillBookD_initD, defBody st_StillBookD_initD, defScope st_StillBookD_initD, [("still", (.str "outside")), ("read", (.str "behind")), ("sleep", (.str "none"))], "StillBook", P.main.file⟩
def sd_LookBookD_initD : SDef := ⟨a_LookBookD_initD, "__init__", "LookBook.__init__", defArgs st_LookBookD_initD, defBody st_LookBookD_initD, defScope st_LookBookD_initD, [("check", (.bl true)), ("look", (.str "behind")), ("chain", (.str "none"))], "LookBook", P.main.file⟩
def sd_EpochBookD_initD : SDef := ⟨a_EpochBookD_initD, "__init__", "EpochBook.__init__", defArgs st_EpochBookD_initD, defBody st_EpochBookD_initD, defScope st_EpochBookD_initD, [("check", (.bl true)), ("fetch", (.str "behind")), ("mark", (.str "fresh")), ("test", (.str "equal")), ("step", (.str "still")), ("told", (.bl true))], "EpochBook", P.main.file⟩
def fnL : List GDef := [gd_Book_look_at_word, gd_BookD_getitemD, gd_is_book, gd_look_at_book, gd_Book_way, gd_is_whole, gd_is_number, gd_values_at, gd_BookD_eqD, gd_SettingD_eqD, gd_is_same, gd_is_value, gd_Book_first_wrong, gd_BookD_initD, gd_StillBook_twin, gd_LookBook_twin, gd_EpochBook_twin, gd_SettingD_initD, gd_least_needed, gd_is_safe, gd_span, gd_still_faults, gd_look_faults, gd_epoch_faults, gd_faults, gd_look_at_epochs, gd_least_behind, gd_fewest_epochs, gd_safe_numbers, gd_breaking, gd_paper_of, gd_compared, gd__law_ask, gd__law_refused, gd_law]
def sfL : List SDef := [sd_NoSwitchD_initD, sd_NoBookD_initD, sd_NoSettingD_initD, sd_NoValueD_initD, sd_StillBookD_initD, sd_LookBookD_initD, sd_EpochBookD_initD]
def tab_ORDERS : Tab := (fun K => ga K "ORDERS", ["check", "fetch", "mark", "test", "step", "told", "look", "chain", "still", "read", "sleep"])
def tab_FAULTS : Tab := (fun K => ga K "FAULTS", ["epochs", "looks", "still"])
def tsL : List Tab := [tab_ORDERS, tab_FAULTS]
def exL : List (PySem.W.Frag → Bool) := [fun K => (Fa.free "str").ok K,
  fun K => isB K nm [.ty "str"] i_str,
  fun K => (Fa.free "isinstance").ok K,
  fun K => conVB K "StillBook" (toStr s_WORDS) (.tup [(.str s_counts), (.str s_still), (.str s_read), (.str s_sleep)]),
  fun K => conVB K "LookBook" (toStr s_WORDS) (.tup [(.str s_check), (.str s_look), (.str s_chain)]),
  fun K => conVB K "EpochBook" (toStr s_WORDS) (.tup [(.str s_epochs), (.str s_behind), (.str s_check), (.str s_fetch), (.str s_mark), (.str s_test), (.str s_step), (.str s_told)]),
  fun K => conVB K "Book" (toStr s_WORDS) (.tup []),
  fun K => excB K "NoSwitch",
  fun K => exiB K "NoSwitch" "word" a_NoSwitchD_initD,
  fun K => (Fa.glo "NoSwitch").ok K,
  fun K => methB K "StillBook" (toStr s_look_at_word) a_Book_look_at_word,
  fun K => methB K "LookBook" (toStr s_look_at_word) a_Book_look_at_word,
  fun K => methB K "EpochBook" (toStr s_look_at_word) a_Book_look_at_word,
  fun K => methB K "Book" (toStr s_look_at_word) a_Book_look_at_word,
  fun K => fldB K "Script" (toStr s_own),
  fun K => fldB K "StillBook" (toStr s_own),
  fun K => fldB K "LookBook" (toStr s_own),
  fun K => fldB K "EpochBook" (toStr s_own),
  fun K => fldB K "Book" (toStr s_own),
  fun K => spB K "StillBook" "__getitem__" a_BookD_getitemD,
  fun K => spB K "LookBook" "__getitem__" a_BookD_getitemD,
  fun K => spB K "EpochBook" "__getitem__" a_BookD_getitemD,
  fun K => spB K "Book" "__getitem__" a_BookD_getitemD,
  fun K => (Fa.free "int").ok K,
  fun K => (Fa.glo "EpochBook").ok K,
  fun K => (Fa.glo "LookBook").ok K,
  fun K => (Fa.glo "StillBook").ok K,
  fun K => isB K nm [.own "EpochBook", .own "LookBook", .own "StillBook"] i_EpochBook_LookBook_StillBook,
  fun K => (Fa.glo "is_book").ok K,
  fun K => excB K "NoBook",
  fun K => exiB K "NoBook" "value" a_NoBookD_initD,
  fun K => (Fa.glo "NoBook").ok K,
  fun K => (Fa.glo "look_at_book").ok K,
  fun K => conVB K "StillBook" (toStr s_WAY) (.str s_still),
  fun K => conVB K "LookBook" (toStr s_WAY) (.str s_looks),
  fun K => conVB K "EpochBook" (toStr s_WAY) (.str s_epochs),
  fun K => conVB K "Book" (toStr s_WAY) (.str s_empty),
  fun K => propB K "StillBook" (toStr s_way) a_Book_way,
  fun K => propB K "LookBook" (toStr s_way) a_Book_way,
  fun K => propB K "EpochBook" (toStr s_way) a_Book_way,
  fun K => propB K "Book" (toStr s_way) a_Book_way,
  fun K => gvB K "MOST_STEPPERS" (.int 7),
  fun K => gvB K "MOST_THINGS" (.int 40),
  fun K => gvB K "MOST_TAKERS" (.int 2),
  fun K => gvB K "MOST_READERS" (.int 3),
  fun K => isB K nm [.ty "int"] i_int,
  fun K => (Fa.free "bool").ok K,
  fun K => isB K nm [.ty "bool"] i_bool,
  fun K => (Fa.glo "is_whole").ok K,
  fun K => (Fa.glo "is_number").ok K,
  fun K => excB K "NoSetting",
  fun K => exiB K "NoSetting" "word" a_NoSettingD_initD,
  fun K => (Fa.glo "NoSetting").ok K,
  fun K => gvB K "LEAST_EPOCHS" (.int 2),
  fun K => gvB K "MOST_EPOCHS" (.int 6),
  fun K => (Fa.free "tuple").ok K,
  fun K => (Fa.free "range").ok K,
  fun K => gvB K "MOST_COUNTS" (.int 4),
  fun K => kdB K (ga K "ORDERS") tb_ORDERS,
  fun K => (Fa.glo "ORDERS").ok K,
  fun K => (Fa.glo "values_at").ok K,
  fun K => (Fa.glo "Book").ok K,
  fun K => isB K nm [.own "Book"] i_Book,
  fun K => (Fa.glo "Setting").ok K,
  fun K => isB K nm [.own "Setting"] i_Setting,
  fun K => fldB K "Setting" (toStr s_kept),
  fun K => spB K "StillBook" "__eq__" a_BookD_eqD,
  fun K => spB K "LookBook" "__eq__" a_BookD_eqD,
  fun K => spB K "EpochBook" "__eq__" a_BookD_eqD,
  fun K => nfB1 K nm "StillBook" [3, 4, 5],
  fun K => nfB1 K nm "LookBook" [3, 4, 5],
  fun K => nfB1 K nm "EpochBook" [3, 4, 5],
  fun K => fldB K "Setting" (toStr s_hands),
  fun K => spB K "Setting" "__eq__" a_SettingD_eqD,
  fun K => nfB1 K nm "Setting" [3, 4, 5, 6, 29],
  fun K => nfB1 K nm "StillBook" [3, 4, 5, 6, 29],
  fun K => nfB1 K nm "LookBook" [3, 4, 5, 6, 29],
  fun K => nfB1 K nm "EpochBook" [3, 4, 5, 6, 29],
  fun K => (Fa.glo "is_same").ok K,
  fun K => (Fa.glo "is_value").ok K,
  fun K => methB K "StillBook" (toStr s_first_wrong) a_Book_first_wrong,
  fun K => methB K "LookBook" (toStr s_first_wrong) a_Book_first_wrong,
  fun K => methB K "EpochBook" (toStr s_first_wrong) a_Book_first_wrong,
  fun K => methB K "Book" (toStr s_first_wrong) a_Book_first_wrong,
  fun K => excB K "NoValue",
  fun K => exiB K "NoValue" "word" a_NoValueD_initD,
  fun K => (Fa.glo "NoValue").ok K,
  fun K => (Fa.free "list").ok K,
  fun K => fldB K "StillBook" (toStr s_order),
  fun K => fldB K "LookBook" (toStr s_order),
  fun K => fldB K "EpochBook" (toStr s_order),
  fun K => fldB K "Book" (toStr s_order),
  fun K => supB K "StillBook" a_BookD_initD ["StillBook"],
  fun K => (Fa.free "super").ok K,
  fun K => mkB K "StillBook" a_StillBookD_initD,
  fun K => methB K "StillBook" (toStr s_twin) a_StillBook_twin,
  fun K => supB K "LookBook" a_BookD_initD ["LookBook"],
  fun K => mkB K "LookBook" a_LookBookD_initD,
  fun K => methB K "LookBook" (toStr s_twin) a_LookBook_twin,
  fun K => (Fa.free "dict").ok K,
  fun K => supB K "EpochBook" a_BookD_initD ["EpochBook"],
  fun K => mkB K "EpochBook" a_EpochBookD_initD,
  fun K => methB K "EpochBook" (toStr s_twin) a_EpochBook_twin,
  fun K => mkB K "Setting" a_SettingD_initD,
  fun K => (Fa.glo "least_needed").ok K,
  fun K => (Fa.glo "is_safe").ok K,
  fun K => (Fa.glo "span").ok K,
  fun K => kdB K (ga K "FAULTS") tb_FAULTS,
  fun K => (Fa.glo "FAULTS").ok K,
  fun K => (Fa.glo "still_faults").ok K,
  fun K => (Fa.glo "look_faults").ok K,
  fun K => (Fa.glo "epoch_faults").ok K,
  fun K => (Fa.glo "faults").ok K,
  fun K => isB K nm [.own "EpochBook"] i_EpochBook,
  fun K => (Fa.glo "look_at_epochs").ok K,
  fun K => (Fa.glo "least_behind").ok K,
  fun K => (Fa.glo "fewest_epochs").ok K,
  fun K => nsB K "NoBook",
  fun K => (Fa.glo "safe_numbers").ok K,
  fun K => (Fa.glo "breaking").ok K,
  fun K => (Fa.glo "paper_of").ok K,
  fun K => (Fa.glo "compared").ok K,
  fun K => (Fa.glo "_law_ask").ok K,
  fun K => xiB K nm (.own "NoSetting") [(13, false), (15, false), (16, true), (14, false)],
  fun K => (Fa.free "ValueError").ok K,
  fun K => xiB K nm (.ty "ValueError") [(13, true), (15, true), (16, true), (14, true)],
  fun K => (Fa.glo "RoomsError").ok K,
  fun K => xiB K nm (.own "RoomsError") [(13, true), (15, true), (16, true), (14, true)],
  fun K => xcB K nm [15] (toStr s_value),
  fun K => exmL K nm "NoBook" [(13, false), (15, true), (16, false), (14, false)],
  fun K => (Fa.glo "_law_refused").ok K,
  fun K => (Fa.glo "law").ok K,
  noLstB]
def spec : MSpec := ⟨fnL, sfL, tsL, exL⟩
section
variable {w : World} {K : PySem.W.Frag} {mg : Str → Option Value} {base : Heap}
theorem bn_NoSwitchD_initD (E : Ev spec w K mg) : BOk K a_NoSwitchD_initD ["self", "word"] := FunS.bindsN (E.says.sup 0 (d := sd_NoSwitchD_initD)) fun _ _ _ _ _ _ us hl => match us, hl with | [_, _], _ => rfl
theorem sc_NoSwitchD_initD : NdefX.NScope ["self", "word", "__class__"] ["self", "word"] ["__class__"] (defScope st_NoSwitchD_initD) := NdefX.nscope_by (by decide +kernel)
theorem ix_NoSwitchD_initD (E : Ev spec w K mg) : FnOk P w K mg base (L2.CX P w) 1 (a_NoSwitchD_initD K) (fdOf K a_NoSwitchD_initD) ["self", "word"] (spI (ga K "NoSwitch") (toStr s_word)) := by
  rw [← t_word]
  refine exFn (k := 0) (m := "a word is no switch of a book") (E.says.sup 0 (d := sd_NoSwitchD_initD)) sc_NoSwitchD_initD (excB_ok (E.says.ex 7)) (exiB_ok (E.says.ex 8)).no (fun _ _ _ _ _ => (exiB_ok (E.says.ex 8)).supX) (fun A outer s H Ex => ?_)
  exact ex_body (supD_of (E.says.sup 0 (d := sd_NoSwitchD_initD)) rfl rfl (by rfl) rfl (by kernel_rfl) (by kernel_rfl) (exiB_ok (E.says.ex 8)).any) rfl (E.free 93) rfl rfl (.inr (.inr rfl)) rfl (by first | exact .inl rfl | exact .inr (.inl rfl)) rfl (by first | exact .inl rfl | exact .inr (.inl rfl)) rfl rfl rfl rfl rfl rfl (by decide) (by decide)
theorem bn_Book_look_at_word (E : Ev spec w K mg) : BOk K a_Book_look_at_word ["self", "word"] := FunD.bindsN (E.says.def_ 0 (d := gd_Book_look_at_word)) fun _ _ _ _ _ _ us hl => match us, hl with | [_, _], _ => rfl
theorem sc_Book_look_at_word : FnScope ["self", "word"] ["self", "word"] (defScope st_Book_look_at_word) := ⟨rfl, rfl, rfl, by decide +kernel, rfl, by decide +kernel, by decide +kernel⟩
theorem ok_Book_look_at_word (E : Ev spec w K mg) : DOk P w K mg base nm 4 a_Book_look_at_word ["self", "word"] f_Book_look_at_word := by
  obtain ⟨hX, XI, Gn⟩ := E.hh
  have sc := sc_Book_look_at_word
  refine ⟨fn_M (N := ["self", "word"]) (E.says.def_ 0 (d := gd_Book_look_at_word)) sc rfl (fun cdv A outer s H Ex hr tk hp => ?_), arity_runB, (E.says.def_ 0 (d := gd_Book_look_at_word)).kp⟩
  exact (ms_one (ms_if (PW.pt (mw_or (mt_not (mt_val (me_isi rfl (isOk_of (cs := [.ty "str"]) (E.says.ex 1)) rfl (E.free 2) (xv 1) (pe_ty rfl (E.free 0) boot_str) (ClsR.ok _ (.ty "str"))))) (mw_or1 (mt_cmpR (mo_notIn rfl (hu65 hr)) (xv 1) (me_con t_WORDS (conOk_cons XI Gn rfl (E.says.ex 6) (conOk_cons XI Gn rfl (E.says.ex 5) (conOk_cons XI Gn rfl (E.says.ex 4) (conOk_cons XI Gn rfl (E.says.ex 3) conOk_nil)))) (xv 0) rfl) rfl)))) (ms_one (ms_raise (c := 13) (fld := s_word) rfl tk rfl (excB_ok (E.says.ex 7)) (exiB_ok (E.says.ex 8)).ini (exiB_ok (E.says.ex 8)).ty (ix_NoSwitchD_initD E) (hr.mono (by decide)) (bn_NoSwitchD_initD E) rfl (E.glo 9) (xv 1))) ms_nil))
theorem bn_BookD_getitemD (E : Ev spec w K mg) : BOk K a_BookD_getitemD ["self", "word"] := FunD.bindsN (E.says.def_ 1 (d := gd_BookD_getitemD)) fun _ _ _ _ _ _ us hl => match us, hl with | [_, _], _ => rfl
theorem sc_BookD_getitemD : FnScope ["self", "word"] ["self", "word"] (defScope st_BookD_getitemD) := ⟨rfl, rfl, rfl, by decide +kernel, rfl, by decide +kernel, by decide +kernel⟩
local macro_rules | `(tactic| push_cast [$E:term, 1]) => `(tactic| exact fldOk_cons rfl (($E).says.ex 18) (fldOk_cons rfl (($E).says.ex 17) (fldOk_cons rfl (($E).says.ex 16) (fldOk_cons rfl (($E).says.ex 15) (fldOk_cons rfl (($E).says.ex 14) fldOk_nil)))))
theorem ok_BookD_getitemD (E : Ev spec w K mg) : DOk P w K mg base nm 7 a_BookD_getitemD ["self", "word"] f_BookD_getitemD := by
  obtain ⟨hX, XI, Gn⟩ := E.hh
  have sc := sc_BookD_getitemD
  refine ⟨fn_M (N := ["self", "word"]) (E.says.def_ 1 (d := gd_BookD_getitemD)) sc rfl (fun cdv A outer s H Ex hr tk hp => ?_), arity_runB, (E.says.def_ 1 (d := gd_BookD_getitemD)).kp⟩
  exact (ms_cons (ms_expr (me_meth t_look_at_word (methOk_cons rfl (E.says.ex 13) (xcm (ok_Book_look_at_word E) (bn_Book_look_at_word E) hr tk) (methOk_cons rfl (E.says.ex 12) (xcm (ok_Book_look_at_word E) (bn_Book_look_at_word E) hr tk) (methOk_cons rfl (E.says.ex 11) (xcm (ok_Book_look_at_word E) (bn_Book_look_at_word E) hr tk) (methOk_cons rfl (E.says.ex 10) (xcm (ok_Book_look_at_word E) (bn_Book_look_at_word E) hr tk) methOk_nil)))) (xv 0) (ma_cons (xv 1) ma_nil))) (ms_cons (ms_ret (me_ix rfl (hu1 hr) (me_fld t_own (by push_cast [E, 1]) (xv 0) rfl) (xv 1) (by intro _ _; rfl))) ms_nil))
theorem bn_is_book (E : Ev spec w K mg) : BOk K a_is_book ["value"] := FunD.bindsN (E.says.def_ 2 (d := gd_is_book)) fun _ _ _ _ _ _ us hl => match us, hl with | [_], _ => rfl
theorem sc_is_book : FnScope ["value"] ["value"] (defScope st_is_book) := ⟨rfl, rfl, rfl, by decide +kernel, rfl, by decide +kernel, by decide +kernel⟩
theorem ok_is_book (E : Ev spec w K mg) : DOk P w K mg base nm 1 a_is_book ["value"] f_is_book := by
  obtain ⟨hX, XI, Gn⟩ := E.hh
  have sc := sc_is_book
  refine ⟨fn_M (N := ["value"]) (E.says.def_ 2 (d := gd_is_book)) sc rfl (fun cdv A outer s H Ex hr tk hp => ?_), arity_runB, (E.says.def_ 2 (d := gd_is_book)).kp⟩
  exact (ms_one (ms_ret (me_isiT rfl (isOk_of (E.says.ex 27)) rfl (E.free 2) (xv 0) (pa_c1 (pe_cl rfl (E.glo 24)) (pa_c1 (pe_cl rfl (E.glo 25)) (pa_c1 (pe_cl rfl (E.glo 26)) pa_c0))) (ClsR.all _ [.own "EpochBook", .own "LookBook", .own "StillBook"]) rfl)))
theorem bn_NoBookD_initD (E : Ev spec w K mg) : BOk K a_NoBookD_initD ["self", "value"] := FunS.bindsN (E.says.sup 1 (d := sd_NoBookD_initD)) fun _ _ _ _ _ _ us hl => match us, hl with | [_, _], _ => rfl
theorem sc_NoBookD_initD : NdefX.NScope ["self", "value", "__class__"] ["self", "value"] ["__class__"] (defScope st_NoBookD_initD) := NdefX.nscope_by (by decide +kernel)
theorem ix_NoBookD_initD (E : Ev spec w K mg) : FnOk P w K mg base (L2.CX P w) 1 (a_NoBookD_initD K) (fdOf K a_NoBookD_initD) ["self", "value"] (spI (ga K "NoBook") (toStr s_value)) := by
  rw [← t_value]
  refine exFn (k := 0) (m := "a value is no book") (E.says.sup 1 (d := sd_NoBookD_initD)) sc_NoBookD_initD (excB_ok (E.says.ex 29)) (exiB_ok (E.says.ex 30)).no (fun _ _ _ _ _ => (exiB_ok (E.says.ex 30)).supX) (fun A outer s H Ex => ?_)
  exact ex_body (supD_of (E.says.sup 1 (d := sd_NoBookD_initD)) rfl rfl (by rfl) rfl (by kernel_rfl) (by kernel_rfl) (exiB_ok (E.says.ex 30)).any) rfl (E.free 93) rfl rfl (.inr (.inr rfl)) rfl (by first | exact .inl rfl | exact .inr (.inl rfl)) rfl (by first | exact .inl rfl | exact .inr (.inl rfl)) rfl rfl rfl rfl rfl rfl (by decide) (by decide)
theorem bn_look_at_book (E : Ev spec w K mg) : BOk K a_look_at_book ["value"] := FunD.bindsN (E.says.def_ 3 (d := gd_look_at_book)) fun _ _ _ _ _ _ us hl => match us, hl with | [_], _ => rfl
theorem sc_look_at_book : FnScope ["value"] ["value"] (defScope st_look_at_book) := ⟨rfl, rfl, rfl, by decide +kernel, rfl, by decide +kernel, by decide +kernel⟩
theorem ok_look_at_book (E : Ev spec w K mg) : DOk P w K mg base nm 4 a_look_at_book ["value"] f_look_at_book := by
  obtain ⟨hX, XI, Gn⟩ := E.hh
  have sc := sc_look_at_book
  refine ⟨fn_M (N := ["value"]) (E.says.def_ 3 (d := gd_look_at_book)) sc rfl (fun cdv A outer s H Ex hr tk hp => ?_), arity_runB, (E.says.def_ 3 (d := gd_look_at_book)).kp⟩
  exact (ms_one (ms_if (mt_not (mt_val (xcall (ok_is_book E) (bn_is_book E) hr tk (E.glo 28) (ma_cons (xv 0) ma_nil)))) (ms_one (ms_raise (c := 15) (fld := s_value) rfl tk rfl (excB_ok (E.says.ex 29)) (exiB_ok (E.says.ex 30)).ini (exiB_ok (E.says.ex 30)).ty (ix_NoBookD_initD E) (hr.mono (by decide)) (bn_NoBookD_initD E) rfl (E.glo 31) (xv 0))) ms_nil))
theorem bn_Book_way (E : Ev spec w K mg) : BOk K a_Book_way ["self"] := FunD.bindsN (E.says.def_ 4 (d := gd_Book_way)) fun _ _ _ _ _ _ us hl => match us, hl with | [_], _ => rfl
theorem sc_Book_way : FnScope ["self"] ["self"] (defScope st_Book_way) := ⟨rfl, rfl, rfl, by decide +kernel, rfl, by decide +kernel, by decide +kernel⟩
theorem ok_Book_way (E : Ev spec w K mg) : DOk P w K mg base nm 1 a_Book_way ["self"] f_Book_way := by
  obtain ⟨hX, XI, Gn⟩ := E.hh
  have sc := sc_Book_way
  refine ⟨fn_M (N := ["self"]) (E.says.def_ 4 (d := gd_Book_way)) sc rfl (fun cdv A outer s H Ex hr tk hp => ?_), arity_runB, (E.says.def_ 4 (d := gd_Book_way)).kp⟩
  exact (ms_one (ms_ret (me_con t_WAY (conOk_cons XI Gn rfl (E.says.ex 36) (conOk_cons XI Gn rfl (E.says.ex 35) (conOk_cons XI Gn rfl (E.says.ex 34) (conOk_cons XI Gn rfl (E.says.ex 33) conOk_nil)))) (xv 0) rfl)))
theorem bn_is_whole (E : Ev spec w K mg) : BOk K a_is_whole ["value"] := FunD.bindsN (E.says.def_ 5 (d := gd_is_whole)) fun _ _ _ _ _ _ us hl => match us, hl with | [_], _ => rfl
theorem sc_is_whole : FnScope ["value"] ["value"] (defScope st_is_whole) := ⟨rfl, rfl, rfl, by decide +kernel, rfl, by decide +kernel, by decide +kernel⟩
theorem ok_is_whole (E : Ev spec w K mg) : DOk P w K mg base nm 1 a_is_whole ["value"] f_is_whole := by
  obtain ⟨hX, XI, Gn⟩ := E.hh
  have sc := sc_is_whole
  refine ⟨fn_M (N := ["value"]) (E.says.def_ 5 (d := gd_is_whole)) sc rfl (fun cdv A outer s H Ex hr tk hp => ?_), arity_runB, (E.says.def_ 5 (d := gd_is_whole)).kp⟩
  exact (ms_one (ms_ret (me_and (me_isi rfl (isOk_of (cs := [.ty "int"]) (E.says.ex 45)) rfl (E.free 2) (xv 0) (pe_ty rfl (E.free 23) boot_int) (ClsR.ok _ (.ty "int"))) (me_one (me_not (me_isi rfl (isOk_of (cs := [.ty "bool"]) (E.says.ex 47)) rfl (E.free 2) (xv 0) (pe_ty rfl (E.free 46) boot_bool) (ClsR.ok _ (.ty "bool"))))))))
theorem bn_is_number (E : Ev spec w K mg) : BOk K a_is_number ["value", "low", "high"] := FunD.bindsN (E.says.def_ 6 (d := gd_is_number)) fun _ _ _ _ _ _ us hl => match us, hl with | [_, _, _], _ => rfl
theorem sc_is_number : FnScope ["value", "low", "high"] ["value", "low", "high"] (defScope st_is_number) := ⟨rfl, rfl, rfl, by decide +kernel, rfl, by decide +kernel, by decide +kernel⟩
theorem ok_is_number (E : Ev spec w K mg) : DOk P w K mg base nm 4 a_is_number ["value", "low", "high"] f_is_number := by
  obtain ⟨hX, XI, Gn⟩ := E.hh
  have sc := sc_is_number
  refine ⟨fn_M (N := ["value", "low", "high"]) (E.says.def_ 6 (d := gd_is_number)) sc rfl (fun cdv A outer s H Ex hr tk hp => ?_), arity_runB, (E.says.def_ 6 (d := gd_is_number)).kp⟩
  exact (ms_one (ms_ret (me_and (xcall (ok_is_whole E) (bn_is_whole E) hr tk (E.glo 48) (ma_cons (xv 0) ma_nil)) (me_one (me_chain mo_le mo_le (xv 1) (xv 0) (xv 2))))))
theorem bn_NoSettingD_initD (E : Ev spec w K mg) : BOk K a_NoSettingD_initD ["self", "word"] := FunS.bindsN (E.says.sup 2 (d := sd_NoSettingD_initD)) fun _ _ _ _ _ _ us hl => match us, hl with | [_, _], _ => rfl
theorem sc_NoSettingD_initD : NdefX.NScope ["self", "word", "__class__"] ["self", "word"] ["__class__"] (defScope st_NoSettingD_initD) := NdefX.nscope_by (by decide +kernel)
theorem ix_NoSettingD_initD (E : Ev spec w K mg) : FnOk P w K mg base (L2.CX P w) 1 (a_NoSettingD_initD K) (fdOf K a_NoSettingD_initD) ["self", "word"] (spI (ga K "NoSetting") (toStr s_word)) := by
  rw [← t_word]
  refine exFn (k := 0) (m := "a part of a setting is none, or a value is no setting") (E.says.sup 2 (d := sd_NoSettingD_initD)) sc_NoSettingD_initD (excB_ok (E.says.ex 50)) (exiB_ok (E.says.ex 51)).no (fun _ _ _ _ _ => (exiB_ok (E.says.ex 51)).supX) (fun A outer s H Ex => ?_)
  exact ex_body (supD_of (E.says.sup 2 (d := sd_NoSettingD_initD)) rfl rfl (by rfl) rfl (by kernel_rfl) (by kernel_rfl) (exiB_ok (E.says.ex 51)).any) rfl (E.free 93) rfl rfl (.inr (.inr rfl)) rfl (by first | exact .inl rfl | exact .inr (.inl rfl)) rfl (by first | exact .inl rfl | exact .inr (.inl rfl)) rfl rfl rfl rfl rfl rfl (by decide) (by decide)
theorem bn_values_at (E : Ev spec w K mg) : BOk K a_values_at ["word", "own"] := FunD.bindsN (E.says.def_ 7 (d := gd_values_at)) fun _ _ _ _ _ _ us hl => match us, hl with | [_, _], _ => rfl
theorem sc_values_at : FnScope ["word", "own"] ["word", "own"] (defScope st_values_at) := ⟨rfl, rfl, rfl, by decide +kernel, rfl, by decide +kernel, by decide +kernel⟩
local macro_rules | `(tactic| push_cast [$E:term, $hr:term, $tk:term, 0]) => `(tactic| exact spOk_cons rfl (($E).says.ex 22) (xca1 (ok_BookD_getitemD ($E)) (bn_BookD_getitemD ($E)) ($hr) ($tk)) (spOk_cons rfl (($E).says.ex 21) (xca1 (ok_BookD_getitemD ($E)) (bn_BookD_getitemD ($E)) ($hr) ($tk)) (spOk_cons rfl (($E).says.ex 20) (xca1 (ok_BookD_getitemD ($E)) (bn_BookD_getitemD ($E)) ($hr) ($tk)) (spOk_cons rfl (($E).says.ex 19) (xca1 (ok_BookD_getitemD ($E)) (bn_BookD_getitemD ($E)) ($hr) ($tk)) spOk_nil))))
theorem ok_values_at (E : Ev spec w K mg) : DOk P w K mg base nm 10 a_values_at ["word", "own"] f_values_at := by
  obtain ⟨hX, XI, Gn⟩ := E.hh
  have sc := sc_values_at
  refine ⟨fn_M (N := ["word", "own"]) (E.says.def_ 7 (d := gd_values_at)) sc rfl (fun cdv A outer s H Ex hr tk hp => ?_), arity_runB, (E.says.def_ 7 (d := gd_values_at)).kp⟩
  exact (ms_cons (ms_if (mt_cmpR (mo_eq rfl (hu64 hr)) (xv 0) (me_str t_epochs) rfl) (ms_one (ms_ret (me_tupRg2 rfl rfl (E.free 55) rfl (E.free 56) (xval E 53 rfl) (me_bin (mo_add rfl) (xval E 54 rfl) me_int)))) ms_nil) (ms_cons (ms_if (mt_cmpR (mo_eq rfl (hu64 hr)) (xv 0) (me_str t_behind) rfl) (ms_one (ms_ret (me_tupRg2 rfl rfl (E.free 55) rfl (E.free 56) me_int (me_bin (mo_add rfl) (me_ixU rfl (hu1 hr) (by push_cast [E, hr, tk, 0]) (xv 1) (me_str t_epochs) (by intro _ _; rfl)) me_int)))) ms_nil) (ms_cons (ms_ret (me_if (mt_cmpR (mo_eq rfl (hu64 hr)) (xv 0) (me_str t_counts) rfl) (me_tupRg2 rfl rfl (E.free 55) rfl (E.free 56) me_int (me_bin (mo_add rfl) (xval E 57 rfl) me_int)) (me_kd (d := ga K "ORDERS") (kdOk_of XI Gn (E.says.tab 0 (t := tab_ORDERS)) (E.says.ex 58)) rfl (E.glo 59) (xv 0) (by intro _ _; rfl)))) ms_nil)))
theorem bn_BookD_eqD (E : Ev spec w K mg) : BOk K a_BookD_eqD ["self", "other"] := FunD.bindsN (E.says.def_ 8 (d := gd_BookD_eqD)) fun _ _ _ _ _ _ us hl => match us, hl with | [_, _], _ => rfl
theorem sc_BookD_eqD : FnScope ["self", "other"] ["self", "other"] (defScope st_BookD_eqD) := ⟨rfl, rfl, rfl, by decide +kernel, rfl, by decide +kernel, by decide +kernel⟩
theorem ok_BookD_eqD (E : Ev spec w K mg) : DOk P w K mg base nm 1 a_BookD_eqD ["self", "other"] f_BookD_eqD := by
  obtain ⟨hX, XI, Gn⟩ := E.hh
  have sc := sc_BookD_eqD
  refine ⟨fn_M (N := ["self", "other"]) (E.says.def_ 8 (d := gd_BookD_eqD)) sc rfl (fun cdv A outer s H Ex hr tk hp => ?_), arity_runB, (E.says.def_ 8 (d := gd_BookD_eqD)).kp⟩
  exact (ms_one (ms_ret (me_and (me_isi rfl (isOk_of (cs := [.own "Book"]) (E.says.ex 62)) rfl (E.free 2) (xv 1) (pe_cl rfl (E.glo 61)) (ClsR.ok _ (.own "Book"))) (me_and (me_cmp (mo_eqX rfl (hu64 hr)) (me_con t_WAY (conOk_cons XI Gn rfl (E.says.ex 36) (conOk_cons XI Gn rfl (E.says.ex 35) (conOk_cons XI Gn rfl (E.says.ex 34) (conOk_cons XI Gn rfl (E.says.ex 33) conOk_nil)))) (xv 0) rfl) (me_con t_WAY (conOk_cons XI Gn rfl (E.says.ex 36) (conOk_cons XI Gn rfl (E.says.ex 35) (conOk_cons XI Gn rfl (E.says.ex 34) (conOk_cons XI Gn rfl (E.says.ex 33) conOk_nil)))) (xv 1) rfl) rfl) (me_one (me_cmp (mo_eqX rfl (hu64 hr)) (me_fld t_own (by push_cast [E, 1]) (xv 0) rfl) (me_fld t_own (by push_cast [E, 1]) (xv 1) rfl) rfl))))))
theorem bn_SettingD_eqD (E : Ev spec w K mg) : BOk K a_SettingD_eqD ["self", "other"] := FunD.bindsN (E.says.def_ 9 (d := gd_SettingD_eqD)) fun _ _ _ _ _ _ us hl => match us, hl with | [_, _], _ => rfl
theorem sc_SettingD_eqD : FnScope ["self", "other"] ["self", "other"] (defScope st_SettingD_eqD) := ⟨rfl, rfl, rfl, by decide +kernel, rfl, by decide +kernel, by decide +kernel⟩
theorem ok_SettingD_eqD (E : Ev spec w K mg) : DOk P w K mg base nm 4 a_SettingD_eqD ["self", "other"] f_SettingD_eqD := by
  obtain ⟨hX, XI, Gn⟩ := E.hh
  have sc := sc_SettingD_eqD
  refine ⟨fn_M (N := ["self", "other"]) (E.says.def_ 9 (d := gd_SettingD_eqD)) sc rfl (fun cdv A outer s H Ex hr tk hp => ?_), arity_runB, (E.says.def_ 9 (d := gd_SettingD_eqD)).kp⟩
  exact (ms_one (ms_ret (me_and (me_isi rfl (isOk_of (cs := [.own "Setting"]) (E.says.ex 64)) rfl (E.free 2) (xv 1) (pe_cl rfl (E.glo 63)) (ClsR.ok _ (.own "Setting"))) (me_and (me_cmpU (nm := "__eq__") (fun _ _ => rfl) rfl rfl (Nat.lt_of_succ_lt (hu1 hr)) (spOk_cons rfl (E.says.ex 68) (xca0 (ok_BookD_eqD E) (bn_BookD_eqD E) hr tk) (spOk_cons rfl (E.says.ex 67) (xca0 (ok_BookD_eqD E) (bn_BookD_eqD E) hr tk) (spOk_cons rfl (E.says.ex 66) (xca0 (ok_BookD_eqD E) (bn_BookD_eqD E) hr tk) spOk_nil))) (nfOk_cons rfl (E.says.ex 71) (nfOk_cons rfl (E.says.ex 70) (nfOk_cons rfl (E.says.ex 69) nfOk_nil))) (mo_eqX rfl (hu64 hr)) (me_fld t_kept (fldOk_cons rfl (E.says.ex 65) fldOk_nil) (xv 0) rfl) (me_fld t_kept (fldOk_cons rfl (E.says.ex 65) fldOk_nil) (xv 1) rfl) rfl) (me_one (me_cmp (mo_eqX rfl (hu64 hr)) (me_fld t_hands (fldOk_cons rfl (E.says.ex 72) fldOk_nil) (xv 0) rfl) (me_fld t_hands (fldOk_cons rfl (E.says.ex 72) fldOk_nil) (xv 1) rfl) rfl))))))
theorem bn_is_same (E : Ev spec w K mg) : BOk K a_is_same ["value", "one"] := FunD.bindsN (E.says.def_ 10 (d := gd_is_same)) fun _ _ _ _ _ _ us hl => match us, hl with | [_, _], _ => rfl
theorem sc_is_same : FnScope ["value", "one"] ["value", "one"] (defScope st_is_same) := ⟨rfl, rfl, rfl, by decide +kernel, rfl, by decide +kernel, by decide +kernel⟩
local macro_rules | `(tactic| push_cast [$E:term, $hr:term, $tk:term, 3]) => `(tactic| exact spOk_cons rfl (($E).says.ex 68) (xca0 (ok_BookD_eqD ($E)) (bn_BookD_eqD ($E)) ($hr) ($tk)) (spOk_cons rfl (($E).says.ex 67) (xca0 (ok_BookD_eqD ($E)) (bn_BookD_eqD ($E)) ($hr) ($tk)) (spOk_cons rfl (($E).says.ex 66) (xca0 (ok_BookD_eqD ($E)) (bn_BookD_eqD ($E)) ($hr) ($tk)) (spOk_cons rfl (($E).says.ex 73) (xca0 (ok_SettingD_eqD ($E)) (bn_SettingD_eqD ($E)) ($hr) ($tk)) spOk_nil))))
theorem ok_is_same (E : Ev spec w K mg) : DOk P w K mg base nm 7 a_is_same ["value", "one"] f_is_same := by
  obtain ⟨hX, XI, Gn⟩ := E.hh
  have sc := sc_is_same
  refine ⟨fn_M (N := ["value", "one"]) (E.says.def_ 10 (d := gd_is_same)) sc rfl (fun cdv A outer s H Ex hr tk hp => ?_), arity_runB, (E.says.def_ 10 (d := gd_is_same)).kp⟩
  exact (ms_cons (ms_if (mt_val (me_isi rfl (isOk_of (cs := [.ty "bool"]) (E.says.ex 47)) rfl (E.free 2) (xv 1) (pe_ty rfl (E.free 46) boot_bool) (ClsR.ok _ (.ty "bool")))) (ms_one (ms_ret (me_and (me_isi rfl (isOk_of (cs := [.ty "bool"]) (E.says.ex 47)) rfl (E.free 2) (xv 0) (pe_ty rfl (E.free 46) boot_bool) (ClsR.ok _ (.ty "bool"))) (me_one (me_cmpU (nm := "__eq__") (fun _ _ => rfl) rfl rfl (Nat.lt_of_succ_lt (hu1 hr)) (by push_cast [E, hr, tk, 3]) (nfOk_cons rfl (E.says.ex 77) (nfOk_cons rfl (E.says.ex 76) (nfOk_cons rfl (E.says.ex 75) (nfOk_cons rfl (E.says.ex 74) nfOk_nil)))) (mo_eqX rfl (hu64 hr)) (xv 0) (xv 1) rfl))))) ms_nil) (ms_cons (ms_if (mt_val (me_isi rfl (isOk_of (cs := [.ty "str"]) (E.says.ex 1)) rfl (E.free 2) (xv 1) (pe_ty rfl (E.free 0) boot_str) (ClsR.ok _ (.ty "str")))) (ms_one (ms_ret (me_and (me_isi rfl (isOk_of (cs := [.ty "str"]) (E.says.ex 1)) rfl (E.free 2) (xv 0) (pe_ty rfl (E.free 0) boot_str) (ClsR.ok _ (.ty "str"))) (me_one (me_cmpU (nm := "__eq__") (fun _ _ => rfl) rfl rfl (Nat.lt_of_succ_lt (hu1 hr)) (by push_cast [E, hr, tk, 3]) (nfOk_cons rfl (E.says.ex 77) (nfOk_cons rfl (E.says.ex 76) (nfOk_cons rfl (E.says.ex 75) (nfOk_cons rfl (E.says.ex 74) nfOk_nil)))) (mo_eqX rfl (hu64 hr)) (xv 0) (xv 1) rfl))))) ms_nil) (ms_cons (ms_ret (me_and (xcall (ok_is_whole E) (bn_is_whole E) hr tk (E.glo 48) (ma_cons (xv 0) ma_nil)) (me_one (me_cmpU (nm := "__eq__") (fun _ _ => rfl) rfl rfl (Nat.lt_of_succ_lt (hu1 hr)) (by push_cast [E, hr, tk, 3]) (nfOk_cons rfl (E.says.ex 77) (nfOk_cons rfl (E.says.ex 76) (nfOk_cons rfl (E.says.ex 75) (nfOk_cons rfl (E.says.ex 74) nfOk_nil)))) (mo_eqX rfl (hu64 hr)) (xv 0) (xv 1) rfl)))) ms_nil)))
theorem bn_is_value (E : Ev spec w K mg) : BOk K a_is_value ["word", "own"] := FunD.bindsN (E.says.def_ 11 (d := gd_is_value)) fun _ _ _ _ _ _ us hl => match us, hl with | [_, _], _ => rfl
theorem sc_is_value : FnScope ["word", "own", "one"] ["word", "own"] (defScope st_is_value) := ⟨rfl, rfl, rfl, by decide +kernel, rfl, by decide +kernel, by decide +kernel⟩
theorem ok_is_value (E : Ev spec w K mg) : DOk P w K mg base nm 13 a_is_value ["word", "own"] f_is_value := by
  obtain ⟨hX, XI, Gn⟩ := E.hh
  have sc := sc_is_value
  refine ⟨fn_M (N := ["word", "own", "one"]) (E.says.def_ 11 (d := gd_is_value)) sc rfl (fun cdv A outer s H Ex hr tk hp => ?_), arity_runB, (E.says.def_ 11 (d := gd_is_value)).kp⟩
  exact (ms_one (ms_ret (me_cmp (mo_ne rfl (hu64 hr)) (me_lc1 (t := .one 2) (own := [(("one" : Str), 2)]) rfl rfl sc.nd (mi_seq rfl (xcall (ok_values_at E) (bn_values_at E) hr tk (E.glo 60) (ma_cons (xv 0) (ma_cons (xv 1) ma_nil)))) (blkOk_by (by kernel_rfl)) (by decide) (fun _ _ _ _ _ => (pg_name sc.nd rfl (by first | exact .inl rfl | exact .inr rfl))) (fun _ _ _ _ _ => (mt_val (xcall (ok_is_same E) (bn_is_same E) hr takes0 (E.glo 78) (ma_cons (me_ixU rfl (hu1 hr) (spOk_cons rfl (E.says.ex 22) (xca1 (ok_BookD_getitemD E) (bn_BookD_getitemD E) hr takes0) (spOk_cons rfl (E.says.ex 21) (xca1 (ok_BookD_getitemD E) (bn_BookD_getitemD E) hr takes0) (spOk_cons rfl (E.says.ex 20) (xca1 (ok_BookD_getitemD E) (bn_BookD_getitemD E) hr takes0) (spOk_cons rfl (E.says.ex 19) (xca1 (ok_BookD_getitemD E) (bn_BookD_getitemD E) hr takes0) spOk_nil)))) (xv 1) (xv 0) (by intro _ _; rfl)) (ma_cons (xv 2) ma_nil))))) (fun _ _ _ _ _ => (xv 2))) (me_lst ma_nil) rfl)))
theorem bn_Book_first_wrong (E : Ev spec w K mg) : BOk K a_Book_first_wrong ["self", "own"] := FunD.bindsN (E.says.def_ 12 (d := gd_Book_first_wrong)) fun _ _ _ _ _ _ us hl => match us, hl with | [_, _], _ => rfl
theorem sc_Book_first_wrong : FnScope ["self", "own", "word"] ["self", "own"] (defScope st_Book_first_wrong) := ⟨rfl, rfl, rfl, by decide +kernel, rfl, by decide +kernel, by decide +kernel⟩
theorem ok_Book_first_wrong (E : Ev spec w K mg) : DOk P w K mg base nm 16 a_Book_first_wrong ["self", "own"] f_Book_first_wrong := by
  obtain ⟨hX, XI, Gn⟩ := E.hh
  have sc := sc_Book_first_wrong
  refine ⟨fn_M (N := ["self", "own", "word"]) (E.says.def_ 12 (d := gd_Book_first_wrong)) sc rfl (fun cdv A outer s H Ex hr tk hp => ?_), arity_runB, (E.says.def_ 12 (d := gd_Book_first_wrong)).kp⟩
  exact (ms_cons (ms_for hp rfl (mi_seq rfl (me_con t_WORDS (conOk_cons XI Gn rfl (E.says.ex 6) (conOk_cons XI Gn rfl (E.says.ex 5) (conOk_cons XI Gn rfl (E.says.ex 4) (conOk_cons XI Gn rfl (E.says.ex 3) conOk_nil)))) (xv 0) rfl)) (mg_name sc.nd rfl (by first | exact .inl rfl | exact .inr rfl)) (onlyNx_name _) (ms_one (ms_if (mt_not (mt_val (xcall (ok_is_value E) (bn_is_value E) hr tk (E.glo 79) (ma_cons (xv 2) (ma_cons (xv 1) ma_nil))))) (ms_one (ms_ret (xv 2))) ms_nil))) (ms_cons (ms_ret me_non) ms_nil))
theorem bn_NoValueD_initD (E : Ev spec w K mg) : BOk K a_NoValueD_initD ["self", "word"] := FunS.bindsN (E.says.sup 3 (d := sd_NoValueD_initD)) fun _ _ _ _ _ _ us hl => match us, hl with | [_, _], _ => rfl
theorem sc_NoValueD_initD : NdefX.NScope ["self", "word", "__class__"] ["self", "word"] ["__class__"] (defScope st_NoValueD_initD) := NdefX.nscope_by (by decide +kernel)
theorem ix_NoValueD_initD (E : Ev spec w K mg) : FnOk P w K mg base (L2.CX P w) 1 (a_NoValueD_initD K) (fdOf K a_NoValueD_initD) ["self", "word"] (spI (ga K "NoValue") (toStr s_word)) := by
  rw [← t_word]
  refine exFn (k := 0) (m := "a value is none of a switch") (E.says.sup 3 (d := sd_NoValueD_initD)) sc_NoValueD_initD (excB_ok (E.says.ex 84)) (exiB_ok (E.says.ex 85)).no (fun _ _ _ _ _ => (exiB_ok (E.says.ex 85)).supX) (fun A outer s H Ex => ?_)
  exact ex_body (supD_of (E.says.sup 3 (d := sd_NoValueD_initD)) rfl rfl (by rfl) rfl (by kernel_rfl) (by kernel_rfl) (exiB_ok (E.says.ex 85)).any) rfl (E.free 93) rfl rfl (.inr (.inr rfl)) rfl (by first | exact .inl rfl | exact .inr (.inl rfl)) rfl (by first | exact .inl rfl | exact .inr (.inl rfl)) rfl rfl rfl rfl rfl rfl (by decide) (by decide)
theorem bn_BookD_initD (E : Ev spec w K mg) : BOk K a_BookD_initD ["self", "own"] := FunD.bindsN (E.says.def_ 13 (d := gd_BookD_initD)) fun _ _ _ _ _ _ us hl => match us, hl with | [_, _], _ => rfl
theorem sc_BookD_initD : FnScope ["self", "own", "wrong"] ["self", "own"] (defScope st_BookD_initD) := ⟨rfl, rfl, rfl, by decide +kernel, rfl, by decide +kernel, by decide +kernel⟩
theorem ok_BookD_initD (E : Ev spec w K mg) : DOk P w K mg base nm 19 a_BookD_initD ["self", "own"] f_BookD_initD := by
  obtain ⟨hX, XI, Gn⟩ := E.hh
  have sc := sc_BookD_initD
  refine ⟨fn_M (N := ["self", "own", "wrong"]) (E.says.def_ 13 (d := gd_BookD_initD)) sc rfl (fun cdv A outer s H Ex hr tk hp => ?_), arity_runB, (E.says.def_ 13 (d := gd_BookD_initD)).kp⟩
  exact (ms_cons (ms_set (i := 2) sc.nd rfl (by first | exact .inl rfl | exact .inr rfl) (me_meth t_first_wrong (methOk_cons rfl (E.says.ex 83) (xcm (ok_Book_first_wrong E) (bn_Book_first_wrong E) hr tk) (methOk_cons rfl (E.says.ex 82) (xcm (ok_Book_first_wrong E) (bn_Book_first_wrong E) hr tk) (methOk_cons rfl (E.says.ex 81) (xcm (ok_Book_first_wrong E) (bn_Book_first_wrong E) hr tk) (methOk_cons rfl (E.says.ex 80) (xcm (ok_Book_first_wrong E) (bn_Book_first_wrong E) hr tk) methOk_nil)))) (xv 0) (ma_cons (xv 1) ma_nil))) (ms_cons (ms_if (mt_cmpR mo_notN (xv 2) me_non rfl) (ms_one (ms_raise (c := 14) (fld := s_word) rfl tk rfl (excB_ok (E.says.ex 84)) (exiB_ok (E.says.ex 85)).ini (exiB_ok (E.says.ex 85)).ty (ix_NoValueD_initD E) (hr.mono (by decide)) (bn_NoValueD_initD E) rfl (E.glo 86) (xv 2))) ms_nil) (ms_cons (ms_fld t_own (by push_cast [E, 1]) (xv 0) (xv 1) rfl) (ms_cons (ms_fld t_order (fldOk_cons rfl (E.says.ex 91) (fldOk_cons rfl (E.says.ex 90) (fldOk_cons rfl (E.says.ex 89) (fldOk_cons rfl (E.says.ex 88) fldOk_nil)))) (xv 0) (me_cty (mc_list rfl rfl) rfl (E.free 87) boot_list (ma_cons (me_con t_WORDS (conOk_cons XI Gn rfl (E.says.ex 6) (conOk_cons XI Gn rfl (E.says.ex 5) (conOk_cons XI Gn rfl (E.says.ex 4) (conOk_cons XI Gn rfl (E.says.ex 3) conOk_nil)))) (xv 0) rfl) ma_nil)) rfl) ms_nil))))
theorem bd_StillBookD_initD_2_still_read_sleep (E : Ev spec w K mg) : Bnd (GxOf K mg nm) K (fdOf K a_StillBookD_initD) ["self", "counts", "still", "read", "sleep"] 2 ["still", "read", "sleep"] ar_bd_StillBookD_initD_2_still_read_sleep := by
  obtain ⟨mv, kb⟩ := FunS.kbinds0 (ps := ["self", "counts", "still", "read", "sleep"]) (E.says.sup 4 (d := sd_StillBookD_initD)) 2 ["still", "read", "sleep"] [] (arr3 se_bd_StillBookD_initD_2_still_read_sleep) (fun h => nomatch h) (show ∀ q ∈ ([] : List (Str × V)), q ∈ ([(("still" : Str), (.str "outside" : V)), (("read" : Str), (.str "behind" : V)), (("sleep" : Str), (.str "none" : V))] : List (Str × V)) from by decide +kernel)
    (fun r1 r2 r3 => arr3_vals r1 r2 r3 _)
    (fun D doc pm an cdv ct us mv ws l1 l2 l3 => match us, l1, mv, l2, ws, l3 with
      | [u0, u1], _, [], _, [w0, w1, w2], _ => by exact rfl)
  exact ⟨_, _, kb, fun ρ H args zargs vs zs r1 r2 l1 l2 => arr3_rvs r1 .nil r2 _⟩
theorem bd_StillBookD_initD_2_ (E : Ev spec w K mg) : Bnd (GxOf K mg nm) K (fdOf K a_StillBookD_initD) ["self", "counts", "still", "read", "sleep"] 2 [] ar_bd_StillBookD_initD_2_ := by
  obtain ⟨mv, kb⟩ := FunS.kbinds0 (ps := ["self", "counts", "still", "read", "sleep"]) (E.says.sup 4 (d := sd_StillBookD_initD)) 2 [] [(("still" : Str), (.str "outside" : V)), (("read" : Str), (.str "behind" : V)), (("sleep" : Str), (.str "none" : V))] (arr3 se_bd_StillBookD_initD_2_) (fun h => nomatch h) (show ∀ q ∈ ([(("still" : Str), (.str "outside" : V)), (("read" : Str), (.str "behind" : V)), (("sleep" : Str), (.str "none" : V))] : List (Str × V)), q ∈ ([(("still" : Str), (.str "outside" : V)), (("read" : Str), (.str "behind" : V)), (("sleep" : Str), (.str "none" : V))] : List (Str × V)) from by decide +kernel)
    (fun r1 r2 r3 => arr3_vals r1 r2 r3 _)
    (fun D doc pm an cdv ct us mv ws l1 l2 l3 => match us, l1, mv, l2, ws, l3 with
      | [u0, u1], _, [m0, m1, m2], _, [], _ => by refine ⟨_, _, _, _, _, _, rfl, rfl, ?_⟩; refine ⟨_, _, _, _, _, _, rfl, rfl, ?_⟩; refine ⟨_, _, _, _, _, _, rfl, rfl, ?_⟩; exact rfl)
  exact ⟨_, _, kb, fun ρ H args zargs vs zs r1 r2 l1 l2 => arr3_rvs r1 (.cons (.str t_outside) (.cons (.str t_behind) (.cons (.str t_none) .nil))) r2 _⟩
theorem sc_StillBookD_initD : NdefX.NScope ["self", "counts", "still", "read", "sleep", "__class__"] ["self", "counts", "still", "read", "sleep"] ["__class__"] (defScope st_StillBookD_initD) := NdefX.nscope_by (by decide +kernel)
theorem ok_StillBookD_initD (E : Ev spec w K mg) : DOk P w K mg base nm 22 a_StillBookD_initD ["self", "counts", "still", "read", "sleep"] f_StillBookD_initD := by
  obtain ⟨hX, XI, Gn⟩ := E.hh
  have sc := sc_StillBookD_initD
  refine ⟨fnS_M (N := ["self", "counts", "still", "read", "sleep", "__class__"]) (E.says.sup 4 (d := sd_StillBookD_initD)) sc rfl (by decide) (fun A outer s H Ex hr tk hp => ?_), arity_runB, (E.says.sup 4 (d := sd_StillBookD_initD)).kp⟩
  exact (mst_cons (mst_super (j := 5) (i := 0) (supOk_of (cs := [5]) (l := ["StillBook"]) (ar := _) E (E.says.sup 4 (d := sd_StillBookD_initD)) 92 (((ok_BookD_initD E).fp hr).code (bn_BookD_initD E) tk) (by decide +kernel) rfl rfl (by rfl) rfl (by kernel_rfl) (by kernel_rfl)) rfl (E.free 93) rfl rfl (.inr (.inr rfl)) rfl (by first | exact .inl rfl | exact .inr (.inl rfl)) rfl (ma_cons (me_disp (ps := [((eC (.str s_counts)), (eV 1)), ((eC (.str s_still)), (eV 2)), ((eC (.str s_read)), (eV 3)), ((eC (.str s_sleep)), (eV 4))]) (mp_cons (me_str t_counts) (xv 1) (mp_cons (me_str t_still) (xv 2) (mp_cons (me_str t_read) (xv 3) (mp_cons (me_str t_sleep) (xv 4) mp_nil)))) rfl rfl (by decide) (by decide)) ma_nil) rfl) ms_nil)
theorem bn_StillBook_twin (E : Ev spec w K mg) : BOk K a_StillBook_twin ["self"] := FunD.bindsN (E.says.def_ 14 (d := gd_StillBook_twin)) fun _ _ _ _ _ _ us hl => match us, hl with | [_], _ => rfl
theorem sc_StillBook_twin : FnScope ["self"] ["self"] (defScope st_StillBook_twin) := ⟨rfl, rfl, rfl, by decide +kernel, rfl, by decide +kernel, by decide +kernel⟩
theorem ok_StillBook_twin (E : Ev spec w K mg) : DOk P w K mg base nm 25 a_StillBook_twin ["self"] f_StillBook_twin := by
  obtain ⟨hX, XI, Gn⟩ := E.hh
  have sc := sc_StillBook_twin
  refine ⟨fn_M (N := ["self"]) (E.says.def_ 14 (d := gd_StillBook_twin)) sc rfl (fun cdv A outer s H Ex hr tk hp => ?_), arity_runB, (E.says.def_ 14 (d := gd_StillBook_twin)).kp⟩
  exact (ms_one (ms_ret (me_callK (xmkK (c := 5) E (ok_StillBookD_initD E) (bd_StillBookD_initD_2_still_read_sleep E) (by exact hr) tk 94 rfl).1 rfl (E.glo 26) (xmkK (c := 5) E (ok_StillBookD_initD E) (bd_StillBookD_initD_2_still_read_sleep E) (by exact hr) tk 94 rfl).2 (ma_cons (me_ixU rfl (hu1 hr) (by push_cast [E, hr, tk, 0]) (me_fld t_own (by push_cast [E, 1]) (xv 0) rfl) (me_str t_counts) (by intro _ _; rfl)) ma_nil) (mk_cons (me_ixU rfl (hu1 hr) (by push_cast [E, hr, tk, 0]) (me_fld t_own (by push_cast [E, 1]) (xv 0) rfl) (me_str t_still) (by intro _ _; rfl)) (mk_cons (me_ixU rfl (hu1 hr) (by push_cast [E, hr, tk, 0]) (me_fld t_own (by push_cast [E, 1]) (xv 0) rfl) (me_str t_read) (by intro _ _; rfl)) (mk_cons (me_ixU rfl (hu1 hr) (by push_cast [E, hr, tk, 0]) (me_fld t_own (by push_cast [E, 1]) (xv 0) rfl) (me_str t_sleep) (by intro _ _; rfl)) mk_nil))))))
theorem bd_LookBookD_initD_1_check_look_chain (E : Ev spec w K mg) : Bnd (GxOf K mg nm) K (fdOf K a_LookBookD_initD) ["self", "check", "look", "chain"] 1 ["check", "look", "chain"] ar_bd_LookBookD_initD_1_check_look_chain := by
  obtain ⟨mv, kb⟩ := FunS.kbinds0 (ps := ["self", "check", "look", "chain"]) (E.says.sup 5 (d := sd_LookBookD_initD)) 1 ["check", "look", "chain"] [] (arr3 se_bd_LookBookD_initD_1_check_look_chain) (fun h => nomatch h) (show ∀ q ∈ ([] : List (Str × V)), q ∈ ([(("check" : Str), (.bl true : V)), (("look" : Str), (.str "behind" : V)), (("chain" : Str), (.str "none" : V))] : List (Str × V)) from by decide +kernel)
    (fun r1 r2 r3 => arr3_vals r1 r2 r3 _)
    (fun D doc pm an cdv ct us mv ws l1 l2 l3 => match us, l1, mv, l2, ws, l3 with
      | [u0], _, [], _, [w0, w1, w2], _ => by exact rfl)
  exact ⟨_, _, kb, fun ρ H args zargs vs zs r1 r2 l1 l2 => arr3_rvs r1 .nil r2 _⟩
theorem bd_LookBookD_initD_1_ (E : Ev spec w K mg) : Bnd (GxOf K mg nm) K (fdOf K a_LookBookD_initD) ["self", "check", "look", "chain"] 1 [] ar_bd_LookBookD_initD_1_ := by
  obtain ⟨mv, kb⟩ := FunS.kbinds0 (ps := ["self", "check", "look", "chain"]) (E.says.sup 5 (d := sd_LookBookD_initD)) 1 [] [(("check" : Str), (.bl true : V)), (("look" : Str), (.str "behind" : V)), (("chain" : Str), (.str "none" : V))] (arr3 se_bd_LookBookD_initD_1_) (fun h => nomatch h) (show ∀ q ∈ ([(("check" : Str), (.bl true : V)), (("look" : Str), (.str "behind" : V)), (("chain" : Str), (.str "none" : V))] : List (Str × V)), q ∈ ([(("check" : Str), (.bl true : V)), (("look" : Str), (.str "behind" : V)), (("chain" : Str), (.str "none" : V))] : List (Str × V)) from by decide +kernel)
    (fun r1 r2 r3 => arr3_vals r1 r2 r3 _)
    (fun D doc pm an cdv ct us mv ws l1 l2 l3 => match us, l1, mv, l2, ws, l3 with
      | [u0], _, [m0, m1, m2], _, [], _ => by refine ⟨_, _, _, _, _, _, rfl, rfl, ?_⟩; refine ⟨_, _, _, _, _, _, rfl, rfl, ?_⟩; refine ⟨_, _, _, _, _, _, rfl, rfl, ?_⟩; exact rfl)
  exact ⟨_, _, kb, fun ρ H args zargs vs zs r1 r2 l1 l2 => arr3_rvs r1 (.cons (.bl _) (.cons (.str t_behind) (.cons (.str t_none) .nil))) r2 _⟩
theorem sc_LookBookD_initD : NdefX.NScope ["self", "check", "look", "chain", "__class__"] ["self", "check", "look", "chain"] ["__class__"] (defScope st_LookBookD_initD) := NdefX.nscope_by (by decide +kernel)
theorem ok_LookBookD_initD (E : Ev spec w K mg) : DOk P w K mg base nm 22 a_LookBookD_initD ["self", "check", "look", "chain"] f_LookBookD_initD := by
  obtain ⟨hX, XI, Gn⟩ := E.hh
  have sc := sc_LookBookD_initD
  refine ⟨fnS_M (N := ["self", "check", "look", "chain", "__class__"]) (E.says.sup 5 (d := sd_LookBookD_initD)) sc rfl (by decide) (fun A outer s H Ex hr tk hp => ?_), arity_runB, (E.says.sup 5 (d := sd_LookBookD_initD)).kp⟩
  exact (mst_cons (mst_super (j := 4) (i := 0) (supOk_of (cs := [4]) (l := ["LookBook"]) (ar := _) E (E.says.sup 5 (d := sd_LookBookD_initD)) 96 (((ok_BookD_initD E).fp hr).code (bn_BookD_initD E) tk) (by decide +kernel) rfl rfl (by rfl) rfl (by kernel_rfl) (by kernel_rfl)) rfl (E.free 93) rfl rfl (.inr (.inr rfl)) rfl (by first | exact .inl rfl | exact .inr (.inl rfl)) rfl (ma_cons (me_disp (ps := [((eC (.str s_check)), (eV 1)), ((eC (.str s_look)), (eV 2)), ((eC (.str s_chain)), (eV 3))]) (mp_cons (me_str t_check) (xv 1) (mp_cons (me_str t_look) (xv 2) (mp_cons (me_str t_chain) (xv 3) mp_nil))) rfl rfl (by decide) (by decide)) ma_nil) rfl) ms_nil)
theorem bn_LookBook_twin (E : Ev spec w K mg) : BOk K a_LookBook_twin ["self"] := FunD.bindsN (E.says.def_ 15 (d := gd_LookBook_twin)) fun _ _ _ _ _ _ us hl => match us, hl with | [_], _ => rfl
theorem sc_LookBook_twin : FnScope ["self"] ["self"] (defScope st_LookBook_twin) := ⟨rfl, rfl, rfl, by decide +kernel, rfl, by decide +kernel, by decide +kernel⟩
theorem ok_LookBook_twin (E : Ev spec w K mg) : DOk P w K mg base nm 25 a_LookBook_twin ["self"] f_LookBook_twin := by
  obtain ⟨hX, XI, Gn⟩ := E.hh
  have sc := sc_LookBook_twin
  refine ⟨fn_M (N := ["self"]) (E.says.def_ 15 (d := gd_LookBook_twin)) sc rfl (fun cdv A outer s H Ex hr tk hp => ?_), arity_runB, (E.says.def_ 15 (d := gd_LookBook_twin)).kp⟩
  exact (ms_one (ms_ret (me_callK0 (xmkK (c := 4) E (ok_LookBookD_initD E) (bd_LookBookD_initD_1_check_look_chain E) (by exact hr) tk 97 rfl).1 rfl (E.glo 25) (xmkK (c := 4) E (ok_LookBookD_initD E) (bd_LookBookD_initD_1_check_look_chain E) (by exact hr) tk 97 rfl).2 (mk_cons (me_ixU rfl (hu1 hr) (by push_cast [E, hr, tk, 0]) (me_fld t_own (by push_cast [E, 1]) (xv 0) rfl) (me_str t_check) (by intro _ _; rfl)) (mk_cons (me_ixU rfl (hu1 hr) (by push_cast [E, hr, tk, 0]) (me_fld t_own (by push_cast [E, 1]) (xv 0) rfl) (me_str t_look) (by intro _ _; rfl)) (mk_cons (me_ixU rfl (hu1 hr) (by push_cast [E, hr, tk, 0]) (me_fld t_own (by push_cast [E, 1]) (xv 0) rfl) (me_str t_chain) (by intro _ _; rfl)) mk_nil))))))
theorem bd_EpochBookD_initD_1_epochs_behind_check_fetch_mark_test_step_told (E : Ev spec w K mg) : Bnd (GxOf K mg nm) K (fdOf K a_EpochBookD_initD) ["self", "epochs", "behind", "check", "fetch", "mark", "test", "step", "told"] 1 ["epochs", "behind", "check", "fetch", "mark", "test", "step", "told"] ar_bd_EpochBookD_initD_1_epochs_behind_check_fetch_mark_test_step_told := by
  obtain ⟨mv, kb⟩ := FunS.kbinds0 (ps := ["self", "epochs", "behind", "check", "fetch", "mark", "test", "step", "told"]) (E.says.sup 6 (d := sd_EpochBookD_initD)) 1 ["epochs", "behind", "check", "fetch", "mark", "test", "step", "told"] [] (arr3 se_bd_EpochBookD_initD_1_epochs_behind_check_fetch_mark_test_step_told) (fun h => nomatch h) (show ∀ q ∈ ([] : List (Str × V)), q ∈ ([(("check" : Str), (.bl true : V)), (("fetch" : Str), (.str "behind" : V)), (("mark" : Str), (.str "fresh" : V)), (("test" : Str), (.str "equal" : V)), (("step" : Str), (.str "still" : V)), (("told" : Str), (.bl true : V))] : List (Str × V)) from by decide +kernel)
    (fun r1 r2 r3 => arr3_vals r1 r2 r3 _)
    (fun D doc pm an cdv ct us mv ws l1 l2 l3 => match us, l1, mv, l2, ws, l3 with
      | [u0], _, [], _, [w0, w1, w2, w3, w4, w5, w6, w7], _ => by exact rfl)
  exact ⟨_, _, kb, fun ρ H args zargs vs zs r1 r2 l1 l2 => arr3_rvs r1 .nil r2 _⟩
theorem kl_bd_EpochBookD_initD_1_epochs_behind_check_fetch_mark_test_step_told : [s_epochs, s_behind, s_check, s_fetch, s_mark, s_test, s_step, s_told].map toStr = (["epochs", "behind", "check", "fetch", "mark", "test", "step", "told"] : List Str) := by kernel_rfl
theorem bd_EpochBookD_initD_3_ (E : Ev spec w K mg) : Bnd (GxOf K mg nm) K (fdOf K a_EpochBookD_initD) ["self", "epochs", "behind", "check", "fetch", "mark", "test", "step", "told"] 3 [] ar_bd_EpochBookD_initD_3_ := by
  obtain ⟨mv, kb⟩ := FunS.kbinds0 (ps := ["self", "epochs", "behind", "check", "fetch", "mark", "test", "step", "told"]) (E.says.sup 6 (d := sd_EpochBookD_initD)) 3 [] [(("check" : Str), (.bl true : V)), (("fetch" : Str), (.str "behind" : V)), (("mark" : Str), (.str "fresh" : V)), (("test" : Str), (.str "equal" : V)), (("step" : Str), (.str "still" : V)), (("told" : Str), (.bl true : V))] (arr3 se_bd_EpochBookD_initD_3_) (fun h => nomatch h) (show ∀ q ∈ ([(("check" : Str), (.bl true : V)), (("fetch" : Str), (.str "behind" : V)), (("mark" : Str), (.str "fresh" : V)), (("test" : Str), (.str "equal" : V)), (("step" : Str), (.str "still" : V)), (("told" : Str), (.bl true : V))] : List (Str × V)), q ∈ ([(("check" : Str), (.bl true : V)), (("fetch" : Str), (.str "behind" : V)), (("mark" : Str), (.str "fresh" : V)), (("test" : Str), (.str "equal" : V)), (("step" : Str), (.str "still" : V)), (("told" : Str), (.bl true : V))] : List (Str × V)) from by decide +kernel)
    (fun r1 r2 r3 => arr3_vals r1 r2 r3 _)
    (fun D doc pm an cdv ct us mv ws l1 l2 l3 => match us, l1, mv, l2, ws, l3 with
      | [u0, u1, u2], _, [m0, m1, m2, m3, m4, m5], _, [], _ => by refine ⟨_, _, _, _, _, _, rfl, rfl, ?_⟩; refine ⟨_, _, _, _, _, _, rfl, rfl, ?_⟩; refine ⟨_, _, _, _, _, _, rfl, rfl, ?_⟩; refine ⟨_, _, _, _, _, _, rfl, rfl, ?_⟩; refine ⟨_, _, _, _, _, _, rfl, rfl, ?_⟩; refine ⟨_, _, _, _, _, _, rfl, rfl, ?_⟩; exact rfl)
  exact ⟨_, _, kb, fun ρ H args zargs vs zs r1 r2 l1 l2 => arr3_rvs r1 (.cons (.bl _) (.cons (.str t_behind) (.cons (.str t_fresh) (.cons (.str t_equal) (.cons (.str t_still) (.cons (.bl _) .nil)))))) r2 _⟩
theorem sc_EpochBookD_initD : NdefX.NScope ["self", "epochs", "behind", "check", "fetch", "mark", "test", "step", "told", "__class__"] ["self", "epochs", "behind", "check", "fetch", "mark", "test", "step", "told"] ["__class__"] (defScope st_EpochBookD_initD) := NdefX.nscope_by (by decide +kernel)
theorem ok_EpochBookD_initD (E : Ev spec w K mg) : DOk P w K mg base nm 22 a_EpochBookD_initD ["self", "epochs", "behind", "check", "fetch", "mark", "test", "step", "told"] f_EpochBookD_initD := by
  obtain ⟨hX, XI, Gn⟩ := E.hh
  have sc := sc_EpochBookD_initD
  refine ⟨fnS_M (N := ["self", "epochs", "behind", "check", "fetch", "mark", "test", "step", "told", "__class__"]) (E.says.sup 6 (d := sd_EpochBookD_initD)) sc rfl (by decide) (fun A outer s H Ex hr tk hp => ?_), arity_runB, (E.says.sup 6 (d := sd_EpochBookD_initD)).kp⟩
  exact (mst_cons (mst_super (j := 9) (i := 0) (supOk_of (cs := [3]) (l := ["EpochBook"]) (ar := _) E (E.says.sup 6 (d := sd_EpochBookD_initD)) 100 (((ok_BookD_initD E).fp hr).code (bn_BookD_initD E) tk) (by decide +kernel) rfl rfl (by rfl) rfl (by kernel_rfl) (by kernel_rfl)) rfl (E.free 93) rfl rfl (.inr (.inr rfl)) rfl (by first | exact .inl rfl | exact .inr (.inl rfl)) rfl (ma_cons (me_disp (ps := [((eC (.str s_epochs)), (eV 1)), ((eC (.str s_behind)), (eV 2)), ((eC (.str s_check)), (eV 3)), ((eC (.str s_fetch)), (eV 4)), ((eC (.str s_mark)), (eV 5)), ((eC (.str s_test)), (eV 6)), ((eC (.str s_step)), (eV 7)), ((eC (.str s_told)), (eV 8))]) (mp_cons (me_str t_epochs) (xv 1) (mp_cons (me_str t_behind) (xv 2) (mp_cons (me_str t_check) (xv 3) (mp_cons (me_str t_fetch) (xv 4) (mp_cons (me_str t_mark) (xv 5) (mp_cons (me_str t_test) (xv 6) (mp_cons (me_str t_step) (xv 7) (mp_cons (me_str t_told) (xv 8) mp_nil)))))))) rfl rfl (by decide) (by decide)) ma_nil) rfl) ms_nil)
theorem bn_EpochBook_twin (E : Ev spec w K mg) : BOk K a_EpochBook_twin ["self"] := FunD.bindsN (E.says.def_ 16 (d := gd_EpochBook_twin)) fun _ _ _ _ _ _ us hl => match us, hl with | [_], _ => rfl
theorem sc_EpochBook_twin : FnScope ["self", "own"] ["self"] (defScope st_EpochBook_twin) := ⟨rfl, rfl, rfl, by decide +kernel, rfl, by decide +kernel, by decide +kernel⟩
theorem ok_EpochBook_twin (E : Ev spec w K mg) : DOk P w K mg base nm 25 a_EpochBook_twin ["self"] f_EpochBook_twin := by
  obtain ⟨hX, XI, Gn⟩ := E.hh
  have sc := sc_EpochBook_twin
  refine ⟨fn_M (N := ["self", "own"]) (E.says.def_ 16 (d := gd_EpochBook_twin)) sc rfl (fun cdv A outer s H Ex hr tk hp => ?_), arity_runB, (E.says.def_ 16 (d := gd_EpochBook_twin)).kp⟩
  exact (ms_cons (ms_set (i := 1) sc.nd rfl (by first | exact .inl rfl | exact .inr rfl) (me_cty mc_dict rfl (E.free 99) boot_dict (ma_cons (me_fld t_own (by push_cast [E, 1]) (xv 0) rfl) ma_nil))) (ms_cons (ms_ret (me_kwd (ks := [s_epochs, s_behind, s_check, s_fetch, s_mark, s_test, s_step, s_told]) (kwc (xmkK (c := 3) E (ok_EpochBookD_initD E) (bd_EpochBookD_initD_1_epochs_behind_check_fetch_mark_test_step_told E) (by exact hr) tk 101 rfl) kl_bd_EpochBookD_initD_1_epochs_behind_check_fetch_mark_test_step_told) rfl (E.glo 24) (xmkK (c := 3) E (ok_EpochBookD_initD E) (bd_EpochBookD_initD_1_epochs_behind_check_fetch_mark_test_step_told E) (by exact hr) tk 101 rfl).2 (xv 1))) ms_nil))
theorem bd_SettingD_initD_5_things (E : Ev spec w K mg) : Bnd (GxOf K mg nm) K (fdOf K a_SettingD_initD) ["self", "book", "readers", "takers", "steppers", "things"] 5 ["things"] ar_bd_SettingD_initD_5_things := by
  obtain ⟨its, mv, kb⟩ := FunD.kbinds (ps := ["self", "book", "readers", "takers", "steppers", "things"]) (E.says.def_ 17 (d := gd_SettingD_initD)) 5 ["things"] [] (fun us ds ms ws => arr4 se_bd_SettingD_initD_5_things us ms ws ds) (fun h => nomatch h) (fun h => nomatch h) (show ∀ q ∈ ([] : List (Str × V)), q ∈ ([(("things" : Str), (.int 3 : V))] : List (Str × V)) from by decide +kernel)
    (fun r1 r4 r2 r3 => arr4_vals r1 r2 r3 r4 _)
    (fun T D doc pm an cdv ct us its mv ws l1 l4 l2 l3 => match us, l1, its, l4, mv, l2, ws, l3 with
      | [u0, u1, u2, u3, u4], _, [d0, d1, d2], _, [], _, [w0], _ => ⟨_, rfl, by exact rfl⟩)
  exact ⟨_, _, kb, fun ρ H args zargs vs zs r1 r2 l1 l2 => arr4_rvs r1 .nil r2 (.cons (.int _) (.cons (.int _) (.cons (.int _) .nil))) _⟩
theorem sc_SettingD_initD : FnScope ["self", "book", "readers", "takers", "steppers", "things", "most", "word", "value", "low", "high"] ["self", "book", "readers", "takers", "steppers", "things"] (defScope st_SettingD_initD) := ⟨rfl, rfl, rfl, by decide +kernel, rfl, by decide +kernel, by decide +kernel⟩
local macro_rules | `(tactic| push_cast [$E:term, $hr:term, 2]) => `(tactic| exact propOk_cons rfl (($E).says.ex 40) ((ok_Book_way ($E)).fp ($hr)) (bn_Book_way ($E)) (propOk_cons rfl (($E).says.ex 39) ((ok_Book_way ($E)).fp ($hr)) (bn_Book_way ($E)) (propOk_cons rfl (($E).says.ex 38) ((ok_Book_way ($E)).fp ($hr)) (bn_Book_way ($E)) (propOk_cons rfl (($E).says.ex 37) ((ok_Book_way ($E)).fp ($hr)) (bn_Book_way ($E)) propOk_nil))))
theorem ok_SettingD_initD (E : Ev spec w K mg) : DOk P w K mg base nm 28 a_SettingD_initD ["self", "book", "readers", "takers", "steppers", "things"] f_SettingD_initD := by
  obtain ⟨hX, XI, Gn⟩ := E.hh
  have sc := sc_SettingD_initD
  refine ⟨fn_M (N := ["self", "book", "readers", "takers", "steppers", "things", "most", "word", "value", "low", "high"]) (E.says.def_ 17 (d := gd_SettingD_initD)) sc rfl (fun cdv A outer s H Ex hr tk hp => ?_), arity_runB, (E.says.def_ 17 (d := gd_SettingD_initD)).kp⟩
  exact (ms_cons (ms_expr (xcall (ok_look_at_book E) (bn_look_at_book E) hr tk (E.glo 32) (ma_cons (xv 1) ma_nil))) (ms_cons (ms_set (i := 6) sc.nd rfl (by first | exact .inl rfl | exact .inr rfl) (me_if (mt_cmpR (mo_eq rfl (hu64 hr)) (me_prop t_way (by push_cast [E, hr, 2]) (xv 1) rfl) (me_str t_epochs) rfl) (xval E 41 rfl) me_int)) (ms_cons (ms_for hp rfl (mi_seq rfl (me_lst (ma_cons (me_tup (ma_cons (me_str t_readers) (ma_cons (xv 2) (ma_cons me_int (ma_cons (xval E 44 rfl) ma_nil))))) (ma_cons (me_tup (ma_cons (me_str t_takers) (ma_cons (xv 3) (ma_cons me_int (ma_cons (xval E 43 rfl) ma_nil))))) (ma_cons (me_tup (ma_cons (me_str t_steppers) (ma_cons (xv 4) (ma_cons me_int (ma_cons (xv 6) ma_nil))))) (ma_cons (me_tup (ma_cons (me_str t_things) (ma_cons (xv 5) (ma_cons me_int (ma_cons (xval E 42 rfl) ma_nil))))) ma_nil)))))) (mg_tgt (t := .many [7, 8, 9, 10]) rfl (pg_tup rfl (pgs_cons (pg_name sc.nd rfl (by first | exact .inl rfl | exact .inr rfl)) (pgs_cons (pg_name sc.nd rfl (by first | exact .inl rfl | exact .inr rfl)) (pgs_cons (pg_name sc.nd rfl (by first | exact .inl rfl | exact .inr rfl)) (pgs_cons (pg_name sc.nd rfl (by first | exact .inl rfl | exact .inr rfl)) pgs_nil)))))) (onlyNx_tgt _) (ms_one (ms_if (mt_not (mt_val (xcall (ok_is_number E) (bn_is_number E) hr tk (E.glo 49) (ma_cons (xv 8) (ma_cons (xv 9) (ma_cons (xv 10) ma_nil)))))) (ms_one (ms_raise (c := 16) (fld := s_word) rfl tk rfl (excB_ok (E.says.ex 50)) (exiB_ok (E.says.ex 51)).ini (exiB_ok (E.says.ex 51)).ty (ix_NoSettingD_initD E) (hr.mono (by decide)) (bn_NoSettingD_initD E) rfl (E.glo 52) (xv 7))) ms_nil))) (ms_cons (ms_fld t_kept (fldOk_cons rfl (E.says.ex 65) fldOk_nil) (xv 0) (me_meth0 t_twin (methOk_cons rfl (E.says.ex 102) (xcm (ok_EpochBook_twin E) (bn_EpochBook_twin E) hr tk) (methOk_cons rfl (E.says.ex 98) (xcm (ok_LookBook_twin E) (bn_LookBook_twin E) hr tk) (methOk_cons rfl (E.says.ex 95) (xcm (ok_StillBook_twin E) (bn_StillBook_twin E) hr tk) methOk_nil))) (xv 1)) rfl) (ms_cons (ms_fld t_hands (fldOk_cons rfl (E.says.ex 72) fldOk_nil) (xv 0) (me_tup (ma_cons (xv 2) (ma_cons (xv 3) (ma_cons (xv 4) (ma_cons (xv 5) ma_nil))))) rfl) ms_nil)))))
theorem bn_least_needed (E : Ev spec w K mg) : BOk K a_least_needed ["book"] := FunD.bindsN (E.says.def_ 18 (d := gd_least_needed)) fun _ _ _ _ _ _ us hl => match us, hl with | [_], _ => rfl
theorem sc_least_needed : FnScope ["book"] ["book"] (defScope st_least_needed) := ⟨rfl, rfl, rfl, by decide +kernel, rfl, by decide +kernel, by decide +kernel⟩
theorem ok_least_needed (E : Ev spec w K mg) : DOk P w K mg base nm 10 a_least_needed ["book"] f_least_needed := by
  obtain ⟨hX, XI, Gn⟩ := E.hh
  have sc := sc_least_needed
  refine ⟨fn_M (N := ["book"]) (E.says.def_ 18 (d := gd_least_needed)) sc rfl (fun cdv A outer s H Ex hr tk hp => ?_), arity_runB, (E.says.def_ 18 (d := gd_least_needed)).kp⟩
  exact (ms_cons (ms_if (PW.pt (mw_or (mt_cmpR (mo_ne rfl (hu64 hr)) (me_ixU rfl (hu1 hr) (by push_cast [E, hr, tk, 0]) (xv 0) (me_str t_fetch) (by intro _ _; rfl)) (me_str t_behind) rfl) (mw_or (mt_not (mt_val (me_ixU rfl (hu1 hr) (by push_cast [E, hr, tk, 0]) (xv 0) (me_str t_told) (by intro _ _; rfl)))) (mw_or1 (mt_cmpR (mo_eq rfl (hu64 hr)) (me_ixU rfl (hu1 hr) (by push_cast [E, hr, tk, 0]) (xv 0) (me_str t_step) (by intro _ _; rfl)) (me_str t_add) rfl))))) (ms_one (ms_ret me_non)) ms_nil) (ms_cons (ms_if (mt_val (me_ixU rfl (hu1 hr) (by push_cast [E, hr, tk, 0]) (xv 0) (me_str t_check) (by intro _ _; rfl))) (ms_one (ms_ret (me_if (mt_cmpR (mo_eq rfl (hu64 hr)) (me_ixU rfl (hu1 hr) (by push_cast [E, hr, tk, 0]) (xv 0) (me_str t_mark) (by intro _ _; rfl)) (me_str t_fresh) rfl) me_int me_int))) ms_nil) (ms_cons (ms_ret (me_if (PW.pt (mw_and (mt_cmpR (mo_eq rfl (hu64 hr)) (me_ixU rfl (hu1 hr) (by push_cast [E, hr, tk, 0]) (xv 0) (me_str t_mark) (by intro _ _; rfl)) (me_str t_fresh) rfl) (mw_and1 (mt_cmpR (mo_eq rfl (hu64 hr)) (me_ixU rfl (hu1 hr) (by push_cast [E, hr, tk, 0]) (xv 0) (me_str t_test) (by intro _ _; rfl)) (me_str t_equal) rfl)))) me_int me_non)) ms_nil)))
theorem bn_is_safe (E : Ev spec w K mg) : BOk K a_is_safe ["book"] := FunD.bindsN (E.says.def_ 19 (d := gd_is_safe)) fun _ _ _ _ _ _ us hl => match us, hl with | [_], _ => rfl
theorem sc_is_safe : FnScope ["book", "needed"] ["book"] (defScope st_is_safe) := ⟨rfl, rfl, rfl, by decide +kernel, rfl, by decide +kernel, by decide +kernel⟩
theorem ok_is_safe (E : Ev spec w K mg) : DOk P w K mg base nm 13 a_is_safe ["book"] f_is_safe := by
  obtain ⟨hX, XI, Gn⟩ := E.hh
  have sc := sc_is_safe
  refine ⟨fn_M (N := ["book", "needed"]) (E.says.def_ 19 (d := gd_is_safe)) sc rfl (fun cdv A outer s H Ex hr tk hp => ?_), arity_runB, (E.says.def_ 19 (d := gd_is_safe)).kp⟩
  exact (ms_cons (ms_expr (xcall (ok_look_at_book E) (bn_look_at_book E) hr tk (E.glo 32) (ma_cons (xv 0) ma_nil))) (ms_cons (ms_if (mt_cmpR (mo_eq rfl (hu64 hr)) (me_prop t_way (by push_cast [E, hr, 2]) (xv 0) rfl) (me_str t_epochs) rfl) (ms_cons (ms_set (i := 1) sc.nd rfl (by first | exact .inl rfl | exact .inr rfl) (xcall (ok_least_needed E) (bn_least_needed E) hr tk (E.glo 104) (ma_cons (xv 0) ma_nil))) (ms_cons (ms_ret (me_and (me_cmp mo_notN (xv 1) me_non rfl) (me_one (me_cmp mo_ge (me_ixU rfl (hu1 hr) (by push_cast [E, hr, tk, 0]) (xv 0) (me_str t_behind) (by intro _ _; rfl)) (xv 1) rfl)))) ms_nil)) ms_nil) (ms_cons (ms_if (mt_cmpR (mo_eq rfl (hu64 hr)) (me_prop t_way (by push_cast [E, hr, 2]) (xv 0) rfl) (me_str t_looks) rfl) (ms_one (ms_ret (me_and (me_ixU rfl (hu1 hr) (by push_cast [E, hr, tk, 0]) (xv 0) (me_str t_check) (by intro _ _; rfl)) (me_and (me_cmp (mo_eq rfl (hu64 hr)) (me_ixU rfl (hu1 hr) (by push_cast [E, hr, tk, 0]) (xv 0) (me_str t_look) (by intro _ _; rfl)) (me_str t_behind) rfl) (me_one (me_cmp (mo_ne rfl (hu64 hr)) (me_ixU rfl (hu1 hr) (by push_cast [E, hr, tk, 0]) (xv 0) (me_str t_chain) (by intro _ _; rfl)) (me_str t_next) rfl)))))) ms_nil) (ms_cons (ms_if (mt_cmpR (mo_in rfl (hu65 hr)) (me_ixU rfl (hu1 hr) (by push_cast [E, hr, tk, 0]) (xv 0) (me_str t_sleep) (by intro _ _; rfl)) (me_tup (ma_cons (me_str t_inside) (ma_cons (me_str t_late) ma_nil))) rfl) (ms_one (ms_ret me_bl)) ms_nil) (ms_cons (ms_ret (me_or (me_cmp (mo_eq rfl (hu64 hr)) (me_ixU rfl (hu1 hr) (by push_cast [E, hr, tk, 0]) (xv 0) (me_str t_counts) (by intro _ _; rfl)) me_int rfl) (me_one (me_and (me_cmp (mo_eq rfl (hu64 hr)) (me_ixU rfl (hu1 hr) (by push_cast [E, hr, tk, 0]) (xv 0) (me_str t_still) (by intro _ _; rfl)) (me_str t_outside) rfl) (me_one (me_cmp (mo_eq rfl (hu64 hr)) (me_ixU rfl (hu1 hr) (by push_cast [E, hr, tk, 0]) (xv 0) (me_str t_read) (by intro _ _; rfl)) (me_str t_behind) rfl)))))) ms_nil)))))
theorem bn_span (E : Ev spec w K mg) : BOk K a_span ["book"] := FunD.bindsN (E.says.def_ 20 (d := gd_span)) fun _ _ _ _ _ _ us hl => match us, hl with | [_], _ => rfl
theorem sc_span : FnScope ["book"] ["book"] (defScope st_span) := ⟨rfl, rfl, rfl, by decide +kernel, rfl, by decide +kernel, by decide +kernel⟩
theorem ok_span (E : Ev spec w K mg) : DOk P w K mg base nm 10 a_span ["book"] f_span := by
  obtain ⟨hX, XI, Gn⟩ := E.hh
  have sc := sc_span
  refine ⟨fn_M (N := ["book"]) (E.says.def_ 20 (d := gd_span)) sc rfl (fun cdv A outer s H Ex hr tk hp => ?_), arity_runB, (E.says.def_ 20 (d := gd_span)).kp⟩
  exact (ms_cons (ms_expr (xcall (ok_look_at_book E) (bn_look_at_book E) hr tk (E.glo 32) (ma_cons (xv 0) ma_nil))) (ms_cons (ms_if (PW.pt (mw_or (mt_cmpR (mo_ne rfl (hu64 hr)) (me_prop t_way (by push_cast [E, hr, 2]) (xv 0) rfl) (me_str t_epochs) rfl) (mw_or (mt_not (mt_val (me_ixU rfl (hu1 hr) (by push_cast [E, hr, tk, 0]) (xv 0) (me_str t_told) (by intro _ _; rfl)))) (mw_or1 (mt_cmpR (mo_eq rfl (hu64 hr)) (me_ixU rfl (hu1 hr) (by push_cast [E, hr, tk, 0]) (xv 0) (me_str t_step) (by intro _ _; rfl)) (me_str t_add) rfl))))) (ms_one (ms_ret me_non)) ms_nil) (ms_cons (ms_if (mt_val (me_ixU rfl (hu1 hr) (by push_cast [E, hr, tk, 0]) (xv 0) (me_str t_check) (by intro _ _; rfl))) (ms_one (ms_ret me_int)) ms_nil) (ms_cons (ms_ret (me_if (mt_cmpR (mo_eq rfl (hu64 hr)) (me_ixU rfl (hu1 hr) (by push_cast [E, hr, tk, 0]) (xv 0) (me_str t_test) (by intro _ _; rfl)) (me_str t_equal) rfl) me_int me_non)) ms_nil))))
theorem bn_still_faults (E : Ev spec w K mg) : BOk K a_still_faults ["book"] := FunD.bindsN (E.says.def_ 21 (d := gd_still_faults)) fun _ _ _ _ _ _ us hl => match us, hl with | [_], _ => rfl
theorem sc_still_faults : FnScope ["book", "many"] ["book"] (defScope st_still_faults) := ⟨rfl, rfl, rfl, by decide +kernel, rfl, by decide +kernel, by decide +kernel⟩
theorem ok_still_faults (E : Ev spec w K mg) : DOk P w K mg base nm 10 a_still_faults ["book"] f_still_faults := by
  obtain ⟨hX, XI, Gn⟩ := E.hh
  have sc := sc_still_faults
  refine ⟨fn_M (N := ["book", "many"]) (E.says.def_ 21 (d := gd_still_faults)) sc rfl (fun cdv A outer s H Ex hr tk hp => ?_), arity_runB, (E.says.def_ 21 (d := gd_still_faults)).kp⟩
  exact (ms_cons (ms_set (i := 1) sc.nd rfl (by first | exact .inl rfl | exact .inr rfl) (me_cmp mo_gt (me_ixU rfl (hu1 hr) (by push_cast [E, hr, tk, 0]) (xv 0) (me_str t_counts) (by intro _ _; rfl)) me_int rfl)) (ms_cons (ms_ret (me_lst (ma_cons (me_tup (ma_cons (me_str t_still) (ma_cons (me_and (xv 1) (me_one (me_cmp (mo_eq rfl (hu64 hr)) (me_ixU rfl (hu1 hr) (by push_cast [E, hr, tk, 0]) (xv 0) (me_str t_still) (by intro _ _; rfl)) (me_str t_anywhere) rfl))) ma_nil))) (ma_cons (me_tup (ma_cons (me_str t_read) (ma_cons (me_and (xv 1) (me_one (me_cmp (mo_eq rfl (hu64 hr)) (me_ixU rfl (hu1 hr) (by push_cast [E, hr, tk, 0]) (xv 0) (me_str t_read) (by intro _ _; rfl)) (me_str t_ahead) rfl))) ma_nil))) (ma_cons (me_tup (ma_cons (me_str t_sleep) (ma_cons (me_cmp (mo_in rfl (hu65 hr)) (me_ixU rfl (hu1 hr) (by push_cast [E, hr, tk, 0]) (xv 0) (me_str t_sleep) (by intro _ _; rfl)) (me_tup (ma_cons (me_str t_inside) (ma_cons (me_str t_late) ma_nil))) rfl) ma_nil))) ma_nil))))) ms_nil))
theorem bn_look_faults (E : Ev spec w K mg) : BOk K a_look_faults ["book"] := FunD.bindsN (E.says.def_ 22 (d := gd_look_faults)) fun _ _ _ _ _ _ us hl => match us, hl with | [_], _ => rfl
theorem sc_look_faults : FnScope ["book"] ["book"] (defScope st_look_faults) := ⟨rfl, rfl, rfl, by decide +kernel, rfl, by decide +kernel, by decide +kernel⟩
theorem ok_look_faults (E : Ev spec w K mg) : DOk P w K mg base nm 10 a_look_faults ["book"] f_look_faults := by
  obtain ⟨hX, XI, Gn⟩ := E.hh
  have sc := sc_look_faults
  refine ⟨fn_M (N := ["book"]) (E.says.def_ 22 (d := gd_look_faults)) sc rfl (fun cdv A outer s H Ex hr tk hp => ?_), arity_runB, (E.says.def_ 22 (d := gd_look_faults)).kp⟩
  exact (ms_one (ms_ret (me_lst (ma_cons (me_tup (ma_cons (me_str t_check) (ma_cons (me_not (me_ixU rfl (hu1 hr) (by push_cast [E, hr, tk, 0]) (xv 0) (me_str t_check) (by intro _ _; rfl))) ma_nil))) (ma_cons (me_tup (ma_cons (me_str t_look) (ma_cons (me_cmp (mo_eq rfl (hu64 hr)) (me_ixU rfl (hu1 hr) (by push_cast [E, hr, tk, 0]) (xv 0) (me_str t_look) (by intro _ _; rfl)) (me_str t_ahead) rfl) ma_nil))) (ma_cons (me_tup (ma_cons (me_str t_chain) (ma_cons (me_cmp (mo_eq rfl (hu64 hr)) (me_ixU rfl (hu1 hr) (by push_cast [E, hr, tk, 0]) (xv 0) (me_str t_chain) (by intro _ _; rfl)) (me_str t_next) rfl) ma_nil))) ma_nil))))))
theorem bn_epoch_faults (E : Ev spec w K mg) : BOk K a_epoch_faults ["book"] := FunD.bindsN (E.says.def_ 23 (d := gd_epoch_faults)) fun _ _ _ _ _ _ us hl => match us, hl with | [_], _ => rfl
theorem sc_epoch_faults : FnScope ["book", "few"] ["book"] (defScope st_epoch_faults) := ⟨rfl, rfl, rfl, by decide +kernel, rfl, by decide +kernel, by decide +kernel⟩
theorem ok_epoch_faults (E : Ev spec w K mg) : DOk P w K mg base nm 10 a_epoch_faults ["book"] f_epoch_faults := by
  obtain ⟨hX, XI, Gn⟩ := E.hh
  have sc := sc_epoch_faults
  refine ⟨fn_M (N := ["book", "few"]) (E.says.def_ 23 (d := gd_epoch_faults)) sc rfl (fun cdv A outer s H Ex hr tk hp => ?_), arity_runB, (E.says.def_ 23 (d := gd_epoch_faults)).kp⟩
  exact (ms_cons (ms_set (i := 1) sc.nd rfl (by first | exact .inl rfl | exact .inr rfl) (me_cmp (mo_eq rfl (hu64 hr)) (me_ixU rfl (hu1 hr) (by push_cast [E, hr, tk, 0]) (xv 0) (me_str t_epochs) (by intro _ _; rfl)) me_int rfl)) (ms_cons (ms_ret (me_lst (ma_cons (me_tup (ma_cons (me_str t_behind) (ma_cons (me_cmp (mo_eq rfl (hu64 hr)) (me_ixU rfl (hu1 hr) (by push_cast [E, hr, tk, 0]) (xv 0) (me_str t_behind) (by intro _ _; rfl)) me_int rfl) ma_nil))) (ma_cons (me_tup (ma_cons (me_str t_check) (ma_cons (me_and (xv 1) (me_one (me_not (me_ixU rfl (hu1 hr) (by push_cast [E, hr, tk, 0]) (xv 0) (me_str t_check) (by intro _ _; rfl))))) ma_nil))) (ma_cons (me_tup (ma_cons (me_str t_fetch) (ma_cons (me_cmp (mo_eq rfl (hu64 hr)) (me_ixU rfl (hu1 hr) (by push_cast [E, hr, tk, 0]) (xv 0) (me_str t_fetch) (by intro _ _; rfl)) (me_str t_ahead) rfl) ma_nil))) (ma_cons (me_tup (ma_cons (me_str t_mark) (ma_cons (me_and (xv 1) (me_one (me_cmp (mo_eq rfl (hu64 hr)) (me_ixU rfl (hu1 hr) (by push_cast [E, hr, tk, 0]) (xv 0) (me_str t_mark) (by intro _ _; rfl)) (me_str t_own) rfl))) ma_nil))) (ma_cons (me_tup (ma_cons (me_str t_step) (ma_cons (me_cmp (mo_eq rfl (hu64 hr)) (me_ixU rfl (hu1 hr) (by push_cast [E, hr, tk, 0]) (xv 0) (me_str t_step) (by intro _ _; rfl)) (me_str t_add) rfl) ma_nil))) (ma_cons (me_tup (ma_cons (me_str t_told) (ma_cons (me_not (me_ixU rfl (hu1 hr) (by push_cast [E, hr, tk, 0]) (xv 0) (me_str t_told) (by intro _ _; rfl))) ma_nil))) ma_nil)))))))) ms_nil))
theorem bn_faults (E : Ev spec w K mg) : BOk K a_faults ["book"] := FunD.bindsN (E.says.def_ 24 (d := gd_faults)) fun _ _ _ _ _ _ us hl => match us, hl with | [_], _ => rfl
theorem sc_faults : FnScope ["book", "found", "word", "wrong"] ["book"] (defScope st_faults) := ⟨rfl, rfl, rfl, by decide +kernel, rfl, by decide +kernel, by decide +kernel⟩
theorem ok_faults (E : Ev spec w K mg) : DOk P w K mg base nm 13 a_faults ["book"] f_faults := by
  obtain ⟨hX, XI, Gn⟩ := E.hh
  have sc := sc_faults
  refine ⟨fn_M (N := ["book", "found", "word", "wrong"]) (E.says.def_ 24 (d := gd_faults)) sc rfl (fun cdv A outer s H Ex hr tk hp => ?_), arity_runB, (E.says.def_ 24 (d := gd_faults)).kp⟩
  exact (ms_cons (ms_expr (xcall (ok_look_at_book E) (bn_look_at_book E) hr tk (E.glo 32) (ma_cons (xv 0) ma_nil))) (ms_cons (ms_set (i := 1) sc.nd rfl (by first | exact .inl rfl | exact .inr rfl) (me_kd (d := ga K "FAULTS") (kdOk_of XI Gn (E.says.tab 1 (t := tab_FAULTS)) (E.says.ex 107)) rfl (E.glo 108) (me_prop t_way (by push_cast [E, hr, 2]) (xv 0) rfl) (by intro _ _; rfl))) (ms_cons (ms_ret (me_lc1 (t := .many [2, 3]) (own := [(("word" : Str), 2), (("wrong" : Str), 3)]) rfl rfl sc.nd (mi_seq rfl (me_callL (i := 1) rfl (by first | exact .inl rfl | exact .inr (.inl rfl) | exact .inr (.inr rfl)) (clOk_cons (a := ga K "epoch_faults") (by rw [← t_epoch_faults]; exact (E.glo 111)) (xcm (ok_epoch_faults E) (bn_epoch_faults E) hr tk) (ok_epoch_faults (base := base) E).kp (clOk_cons (a := ga K "look_faults") (by rw [← t_look_faults]; exact (E.glo 110)) (xcm (ok_look_faults E) (bn_look_faults E) hr tk) (ok_look_faults (base := base) E).kp (clOk_cons (a := ga K "still_faults") (by rw [← t_still_faults]; exact (E.glo 109)) (xcm (ok_still_faults E) (bn_still_faults E) hr tk) (ok_still_faults (base := base) E).kp clOk_nil))) (ma_cons (xv 0) ma_nil))) (blkOk_by (by kernel_rfl)) (by decide) (fun _ _ _ _ _ => (pg_tup rfl (pgs_cons (pg_name sc.nd rfl (by first | exact .inl rfl | exact .inr rfl)) (pgs_cons (pg_name sc.nd rfl (by first | exact .inl rfl | exact .inr rfl)) pgs_nil)))) (fun _ _ _ _ _ => (mt_val (xv 3))) (fun _ _ _ _ _ => (xv 2)))) ms_nil)))
theorem bn_look_at_epochs (E : Ev spec w K mg) : BOk K a_look_at_epochs ["book"] := FunD.bindsN (E.says.def_ 25 (d := gd_look_at_epochs)) fun _ _ _ _ _ _ us hl => match us, hl with | [_], _ => rfl
theorem sc_look_at_epochs : FnScope ["book"] ["book"] (defScope st_look_at_epochs) := ⟨rfl, rfl, rfl, by decide +kernel, rfl, by decide +kernel, by decide +kernel⟩
theorem ok_look_at_epochs (E : Ev spec w K mg) : DOk P w K mg base nm 4 a_look_at_epochs ["book"] f_look_at_epochs := by
  obtain ⟨hX, XI, Gn⟩ := E.hh
  have sc := sc_look_at_epochs
  refine ⟨fn_M (N := ["book"]) (E.says.def_ 25 (d := gd_look_at_epochs)) sc rfl (fun cdv A outer s H Ex hr tk hp => ?_), arity_runB, (E.says.def_ 25 (d := gd_look_at_epochs)).kp⟩
  exact (ms_one (ms_if (mt_not (mt_val (me_isi rfl (isOk_of (cs := [.own "EpochBook"]) (E.says.ex 113)) rfl (E.free 2) (xv 0) (pe_cl rfl (E.glo 24)) (ClsR.ok _ (.own "EpochBook"))))) (ms_one (ms_raise (c := 15) (fld := s_value) rfl tk rfl (excB_ok (E.says.ex 29)) (exiB_ok (E.says.ex 30)).ini (exiB_ok (E.says.ex 30)).ty (ix_NoBookD_initD E) (hr.mono (by decide)) (bn_NoBookD_initD E) rfl (E.glo 31) (xv 0))) ms_nil))
theorem bn_least_behind (E : Ev spec w K mg) : BOk K a_least_behind ["book"] := FunD.bindsN (E.says.def_ 26 (d := gd_least_behind)) fun _ _ _ _ _ _ us hl => match us, hl with | [_], _ => rfl
theorem sc_least_behind : FnScope ["book", "needed"] ["book"] (defScope st_least_behind) := ⟨rfl, rfl, rfl, by decide +kernel, rfl, by decide +kernel, by decide +kernel⟩
theorem ok_least_behind (E : Ev spec w K mg) : DOk P w K mg base nm 7 a_least_behind ["book"] f_least_behind := by
  obtain ⟨hX, XI, Gn⟩ := E.hh
  have sc := sc_least_behind
  refine ⟨fn_M (N := ["book", "needed"]) (E.says.def_ 26 (d := gd_least_behind)) sc rfl (fun cdv A outer s H Ex hr tk hp => ?_), arity_runB, (E.says.def_ 26 (d := gd_least_behind)).kp⟩
  exact (ms_cons (ms_expr (xcall (ok_look_at_epochs E) (bn_look_at_epochs E) hr tk (E.glo 114) (ma_cons (xv 0) ma_nil))) mss_err)
theorem bn_fewest_epochs (E : Ev spec w K mg) : BOk K a_fewest_epochs ["book"] := FunD.bindsN (E.says.def_ 27 (d := gd_fewest_epochs)) fun _ _ _ _ _ _ us hl => match us, hl with | [_], _ => rfl
theorem sc_fewest_epochs : FnScope ["book"] ["book"] (defScope st_fewest_epochs) := ⟨rfl, rfl, rfl, by decide +kernel, rfl, by decide +kernel, by decide +kernel⟩
theorem ok_fewest_epochs (E : Ev spec w K mg) : DOk P w K mg base nm 7 a_fewest_epochs ["book"] f_fewest_epochs := by
  obtain ⟨hX, XI, Gn⟩ := E.hh
  have sc := sc_fewest_epochs
  refine ⟨fn_M (N := ["book"]) (E.says.def_ 27 (d := gd_fewest_epochs)) sc rfl (fun cdv A outer s H Ex hr tk hp => ?_), arity_runB, (E.says.def_ 27 (d := gd_fewest_epochs)).kp⟩
  exact (ms_cons (ms_expr (xcall (ok_look_at_epochs E) (bn_look_at_epochs E) hr tk (E.glo 114) (ma_cons (xv 0) ma_nil))) mss_err)
theorem bn_safe_numbers (E : Ev spec w K mg) : BOk K a_safe_numbers ["book"] := FunD.bindsN (E.says.def_ 28 (d := gd_safe_numbers)) fun _ _ _ _ _ _ us hl => match us, hl with | [_], _ => rfl
theorem sc_safe_numbers : GScope ["book", "needed", "epochs", "behind"] ["book"] (defScope st_safe_numbers) := ⟨rfl, rfl, rfl, by decide +kernel, rfl, by decide +kernel, by decide +kernel⟩
theorem ok_safe_numbers (E : Ev spec w K mg) : DOkL P w K mg base nm 7 a_safe_numbers ["book"] [15] f_safe_numbers := by
  obtain ⟨hX, XI, Gn⟩ := E.hh
  have sc := sc_safe_numbers
  refine ⟨gfn_M (N := ["book", "needed", "epochs", "behind"]) (E.says.def_ 28 (d := gd_safe_numbers)) sc rfl (fun cdv A outer s H Ex pn hr tk hp => ?_), arity_runB, (E.says.def_ 28 (d := gd_safe_numbers)).kp⟩
  exact (ms_cons (ms_expr (xcall (ok_look_at_epochs E) (bn_look_at_epochs E) hr tk (E.glo 114) (ma_cons (xv 0) ma_nil))) mss_err)
theorem bn_breaking (E : Ev spec w K mg) : BOk K a_breaking ["book"] := FunD.bindsN (E.says.def_ 29 (d := gd_breaking)) fun _ _ _ _ _ _ us hl => match us, hl with | [_], _ => rfl
theorem sc_breaking : FnScope ["book", "found", "script", "linked"] ["book"] (defScope st_breaking) := ⟨rfl, rfl, rfl, by decide +kernel, rfl, by decide +kernel, by decide +kernel⟩
theorem ok_breaking (E : Ev spec w K mg) : DOk P w K mg base nm 7 a_breaking ["book"] f_breaking := by
  obtain ⟨hX, XI, Gn⟩ := E.hh
  have sc := sc_breaking
  refine ⟨fn_M (N := ["book", "found", "script", "linked"]) (E.says.def_ 29 (d := gd_breaking)) sc rfl (fun cdv A outer s H Ex hr tk hp => ?_), arity_runB, (E.says.def_ 29 (d := gd_breaking)).kp⟩
  exact (ms_cons (ms_expr (xcall (ok_look_at_book E) (bn_look_at_book E) hr tk (E.glo 32) (ma_cons (xv 0) ma_nil))) mss_err)
theorem bn_paper_of (E : Ev spec w K mg) : BOk K a_paper_of ["book"] := FunD.bindsN (E.says.def_ 30 (d := gd_paper_of)) fun _ _ _ _ _ _ us hl => match us, hl with | [_], _ => rfl
theorem sc_paper_of : FnScope ["book", "setting", "run"] ["book"] (defScope st_paper_of) := ⟨rfl, rfl, rfl, by decide +kernel, rfl, by decide +kernel, by decide +kernel⟩
theorem ok_paper_of (E : Ev spec w K mg) : DOk P w K mg base nm 7 a_paper_of ["book"] f_paper_of := by
  obtain ⟨hX, XI, Gn⟩ := E.hh
  have sc := sc_paper_of
  refine ⟨fn_M (N := ["book", "setting", "run"]) (E.says.def_ 30 (d := gd_paper_of)) sc rfl (fun cdv A outer s H Ex hr tk hp => ?_), arity_runB, (E.says.def_ 30 (d := gd_paper_of)).kp⟩
  exact (ms_cons (ms_expr (xcall (ok_look_at_book E) (bn_look_at_book E) hr tk (E.glo 32) (ma_cons (xv 0) ma_nil))) mss_err)
theorem bn_compared (E : Ev spec w K mg) : BOk K a_compared ["one", "other"] := FunD.bindsN (E.says.def_ 31 (d := gd_compared)) fun _ _ _ _ _ _ us hl => match us, hl with | [_, _], _ => rfl
theorem sc_compared : FnScope ["one", "other"] ["one", "other"] (defScope st_compared) := ⟨rfl, rfl, rfl, by decide +kernel, rfl, by decide +kernel, by decide +kernel⟩
theorem ok_compared (E : Ev spec w K mg) : DOk P w K mg base nm 7 a_compared ["one", "other"] f_compared := by
  obtain ⟨hX, XI, Gn⟩ := E.hh
  have sc := sc_compared
  refine ⟨fn_M (N := ["one", "other"]) (E.says.def_ 31 (d := gd_compared)) sc rfl (fun cdv A outer s H Ex hr tk hp => ?_), arity_runB, (E.says.def_ 31 (d := gd_compared)).kp⟩
  exact (ms_cons (ms_expr (xcall (ok_look_at_book E) (bn_look_at_book E) hr tk (E.glo 32) (ma_cons (xv 0) ma_nil))) (ms_cons (ms_expr (xcall (ok_look_at_book E) (bn_look_at_book E) hr tk (E.glo 32) (ma_cons (xv 1) ma_nil))) mss_err))
theorem bn__law_ask (E : Ev spec w K mg) : BOk K a__law_ask ["_law_place", "_law_value"] := FunD.bindsN (E.says.def_ 32 (d := gd__law_ask)) fun _ _ _ _ _ _ us hl => match us, hl with | [_, _], _ => rfl
theorem sc__law_ask : FnScope ["_law_place", "_law_value"] ["_law_place", "_law_value"] (defScope st__law_ask) := ⟨rfl, rfl, rfl, by decide +kernel, rfl, by decide +kernel, by decide +kernel⟩
theorem ok__law_ask (E : Ev spec w K mg) : DOk P w K mg base nm 25 a__law_ask ["_law_place", "_law_value"] f__law_ask := by
  obtain ⟨hX, XI, Gn⟩ := E.hh
  have sc := sc__law_ask
  refine ⟨fn_M (N := ["_law_place", "_law_value"]) (E.says.def_ 32 (d := gd__law_ask)) sc rfl (fun cdv A outer s H Ex hr tk hp => ?_), arity_runB, (E.says.def_ 32 (d := gd__law_ask)).kp⟩
  exact (ms_cons (ms_if (mt_cmpR (mo_eq rfl (hu64 hr)) (xv 0) me_int rfl) (ms_one (ms_ret (xcall (ok_is_safe E) (bn_is_safe E) hr tk (E.glo 105) (ma_cons (xv 1) ma_nil)))) ms_nil) (ms_cons (ms_if (mt_cmpR (mo_eq rfl (hu64 hr)) (xv 0) me_int rfl) (ms_one (ms_ret (xcall (ok_span E) (bn_span E) hr tk (E.glo 106) (ma_cons (xv 1) ma_nil)))) ms_nil) (ms_cons (ms_if (mt_cmpR (mo_eq rfl (hu64 hr)) (xv 0) me_int rfl) (ms_one (ms_ret (xcall (ok_faults E) (bn_faults E) hr tk (E.glo 112) (ma_cons (xv 1) ma_nil)))) ms_nil) (ms_cons (ms_if (mt_cmpR (mo_eq rfl (hu64 hr)) (xv 0) me_int rfl) (ms_one (ms_ret (xcall (ok_least_behind E) (bn_least_behind E) hr tk (E.glo 115) (ma_cons (xv 1) ma_nil)))) ms_nil) (ms_cons (ms_if (mt_cmpR (mo_eq rfl (hu64 hr)) (xv 0) me_int rfl) (ms_one (ms_ret (xcall (ok_fewest_epochs E) (bn_fewest_epochs E) hr tk (E.glo 116) (ma_cons (xv 1) ma_nil)))) ms_nil) (ms_cons (ms_if (mt_cmpR (mo_eq rfl (hu64 hr)) (xv 0) me_int rfl) (ms_one (ms_ret (xlistG (ok_safe_numbers E) (bn_safe_numbers E) (noSt_cons rfl (E.says.ex 117) noSt_nil) hr tk (E.glo 118) (ma_cons (xv 1) ma_nil) rfl (E.free 87) boot_list))) ms_nil) (ms_cons (ms_if (mt_cmpR (mo_eq rfl (hu64 hr)) (xv 0) me_int rfl) (ms_one (ms_ret (xcall (ok_breaking E) (bn_breaking E) hr tk (E.glo 119) (ma_cons (xv 1) ma_nil)))) ms_nil) (ms_cons (ms_if (mt_cmpR (mo_eq rfl (hu64 hr)) (xv 0) me_int rfl) (ms_one (ms_ret (xcall (ok_paper_of E) (bn_paper_of E) hr tk (E.glo 120) (ma_cons (xv 1) ma_nil)))) ms_nil) (ms_cons (ms_if (mt_cmpR (mo_eq rfl (hu64 hr)) (xv 0) me_int rfl) (ms_one (ms_ret (xcall (ok_compared E) (bn_compared E) hr tk (E.glo 121) (ma_cons (xv 1) (ma_cons me_int ma_nil))))) ms_nil) (ms_cons (ms_ret (xcall (ok_compared E) (bn_compared E) hr tk (E.glo 121) (ma_cons (me_callK (xmkK (c := 3) E (ok_EpochBookD_initD E) (bd_EpochBookD_initD_3_ E) (by exact hr) tk 101 rfl).1 rfl (E.glo 24) (xmkK (c := 3) E (ok_EpochBookD_initD E) (bd_EpochBookD_initD_3_ E) (by exact hr) tk 101 rfl).2 (ma_cons me_int (ma_cons me_int ma_nil)) mk_nil) (ma_cons (xv 1) ma_nil)))) ms_nil))))))))))
theorem bn__law_refused (E : Ev spec w K mg) : BOk K a__law_refused ["_law_place", "_law_value"] := FunD.bindsN (E.says.def_ 33 (d := gd__law_refused)) fun _ _ _ _ _ _ us hl => match us, hl with | [_, _], _ => rfl
theorem sc__law_refused : FnScope ["_law_place", "_law_value", "_law_found", "e", "_law_good"] ["_law_place", "_law_value"] (defScope st__law_refused) := ⟨rfl, rfl, rfl, by decide +kernel, rfl, by decide +kernel, by decide +kernel⟩
theorem ok__law_refused (E : Ev spec w K mg) : DOk P w K mg base nm 28 a__law_refused ["_law_place", "_law_value"] f__law_refused := by
  obtain ⟨hX, XI, Gn⟩ := E.hh
  have sc := sc__law_refused
  refine ⟨fn_M (N := ["_law_place", "_law_value", "_law_found", "e", "_law_good"]) (E.says.def_ 33 (d := gd__law_refused)) sc rfl (fun cdv A outer s H Ex hr tk hp => ?_), arity_runB, (E.says.def_ 33 (d := gd__law_refused)).kp⟩
  exact (ms_cons (ms_set (i := 2) sc.nd rfl (by first | exact .inl rfl | exact .inr rfl) me_non) (ms_cons (ms_try tk sc.nd (fun W' pn xe tk hp => (ms_one (ms_expr (xcall (ok__law_ask E) (bn__law_ask E) hr tk (E.glo 122) (ma_cons (xv 0) (ma_cons (xv 1) ma_nil)))))) (.cons (x := "NoBook") (i := 3) ⟨rfl, rfl, .inl (E.glo 31)⟩ rfl rfl (exmL_ok (E.says.ex 129)) (fun a oe C dd pn c n hct hmt hz hf => (msx_set (j := 4) sc.nd rfl (by first | exact .inl rfl | exact .inr rfl) (by decide) (mex_and (mex_isi (i := 3) (xiB_ok (r := .own "RoomsError") (E.says.ex 127)) hct hz hf rfl (by first | exact .inl rfl | exact .inr (.inl rfl)) rfl (E.free 2) (pe_cl rfl (E.glo 126)) (ClsR.ok _ (.own "RoomsError"))) (mex_and (mex_isi (i := 3) (xiB_ok (r := .ty "ValueError") (E.says.ex 125)) hct hz hf rfl (by first | exact .inl rfl | exact .inr (.inl rfl)) rfl (E.free 2) (pe_ty rfl (E.free 124) boot_ValueError) (ClsR.ok _ (.ty "ValueError"))) (mex_one (mex_not (mex_isi (i := 3) (xiB_ok (r := .own "NoSetting") (E.says.ex 123)) hct hz hf rfl (by first | exact .inl rfl | exact .inr (.inl rfl)) rfl (E.free 2) (pe_cl rfl (E.glo 52)) (ClsR.ok _ (.own "NoSetting"))))))) (msx_set (j := 2) sc.nd rfl (by first | exact .inl rfl | exact .inr rfl) (by decide) (mex_lst (mex_cons (mex_of (xv 4)) (mex_cons (mex_fld (i := 3) t_value (xcB_ok (E.says.ex 128)) hct hz hf rfl (by first | exact .inl rfl | exact .inr (.inl rfl)) rfl) mex_nil))) msx_nil rfl) rfl)) .nil)) (ms_cons (ms_ret (me_and (me_cmp mo_notN (xv 2) me_non rfl) (me_and (me_ixU rfl (hu1 hr) (by push_cast [E, hr, tk, 0]) (xv 2) me_int (by intro _ _; rfl)) (me_one (me_cmpU (nm := "__eq__") (fun _ _ => rfl) rfl rfl (Nat.lt_of_succ_lt (hu1 hr)) (by push_cast [E, hr, tk, 3]) (nfOk_cons rfl (E.says.ex 77) (nfOk_cons rfl (E.says.ex 76) (nfOk_cons rfl (E.says.ex 75) (nfOk_cons rfl (E.says.ex 74) nfOk_nil)))) (mo_eqX rfl (hu64 hr)) (me_ixU rfl (hu1 hr) (by push_cast [E, hr, tk, 0]) (xv 2) me_int (by intro _ _; rfl)) (xv 1) rfl))))) ms_nil)))
theorem sc_law : FnScope ["_law_script", "_law_first", "_law_values", "_law_value", "_law_place"] ["_law_script"] (defScope st_law) := ⟨rfl, rfl, rfl, by decide +kernel, rfl, by decide +kernel, by decide +kernel⟩
theorem ok_law (E : Ev spec w K mg) : DOk P w K mg base nm 31 a_law ["_law_script"] f_law := by
  obtain ⟨hX, XI, Gn⟩ := E.hh
  have sc := sc_law
  refine ⟨fn_M (N := ["_law_script", "_law_first", "_law_values", "_law_value", "_law_place"]) (E.says.def_ 34 (d := gd_law)) sc rfl (fun cdv A outer s H Ex hr tk hp => ?_), arity_runB, (E.says.def_ 34 (d := gd_law)).kp⟩
  exact (ms_cons (ms_set (i := 1) sc.nd rfl (by first | exact .inl rfl | exact .inr rfl) me_int) (ms_cons (ms_if (mt_cmpR (mo_ne rfl (hu64 hr)) (xv 0) (me_lst ma_nil) rfl) (ms_one (ms_set (i := 1) sc.nd rfl (by first | exact .inl rfl | exact .inr rfl) (me_bin mo_mod (me_cty mc_int rfl (E.free 23) boot_int (ma_cons (me_ixU rfl (hu1 hr) (by push_cast [E, hr, tk, 0]) (xv 0) me_int (by intro _ _; rfl)) ma_nil)) me_int))) ms_nil) (ms_cons (ms_set (i := 2) sc.nd rfl (by first | exact .inl rfl | exact .inr rfl) (me_lst (ma_cons me_non (ma_cons me_bl (ma_cons me_int (ma_cons me_int (ma_cons (me_str t_epochs) (ma_cons (me_lst ma_nil) (ma_cons (me_tup (ma_cons (me_str t_epochs) (ma_cons me_int (ma_cons me_int ma_nil)))) (ma_cons (me_disp (ps := [((eC (.str s_epochs)), (eC (.int 2)))]) (mp_cons (me_str t_epochs) me_int mp_nil) rfl rfl (by decide) (by decide)) ma_nil)))))))))) (ms_cons (ms_expr (me_bm (k := .lst) rfl PySem.F.plainAttrs_list PySem.F.slot_list_append PySem.F.type_list_append mm_append (xv 2) (ma_cons (me_callK (xmkK (c := 29) E (ok_SettingD_initD E) (bd_SettingD_initD_5_things E) (by exact hr) tk 103 rfl).1 rfl (E.glo 63) (xmkK (c := 29) E (ok_SettingD_initD E) (bd_SettingD_initD_5_things E) (by exact hr) tk 103 rfl).2 (ma_cons (me_callK (xmkK (c := 3) E (ok_EpochBookD_initD E) (bd_EpochBookD_initD_3_ E) (by exact hr) tk 101 rfl).1 rfl (E.glo 24) (xmkK (c := 3) E (ok_EpochBookD_initD E) (bd_EpochBookD_initD_3_ E) (by exact hr) tk 101 rfl).2 (ma_cons me_int (ma_cons me_int ma_nil)) mk_nil) (ma_cons me_int (ma_cons me_int (ma_cons me_int ma_nil)))) (mk_cons me_int mk_nil)) ma_nil))) (ms_cons (ms_for hp rfl (mi_seq rfl (me_bin (mo_add rfl) (me_slice rfl (xv 2) (mo_some (xv 1)) mo_none) (me_slice rfl (xv 2) mo_none (mo_some (xv 1))))) (mg_name sc.nd rfl (by first | exact .inl rfl | exact .inr rfl)) (onlyNx_name _) (ms_one (ms_for hp rfl (mi_rng1 rfl (E.free 56) (ma_cons me_int ma_nil) rfl aCons1) (mg_name sc.nd rfl (by first | exact .inl rfl | exact .inr rfl)) (onlyNx_name _) (ms_one (ms_if (mt_not (mt_val (xcall (ok__law_refused E) (bn__law_refused E) hr tk (E.glo 130) (ma_cons (xv 4) (ma_cons (xv 3) ma_nil))))) (ms_one (ms_ret me_bl)) ms_nil))))) (ms_cons (ms_for hp rfl (mi_seq rfl (me_lst (ma_cons (me_callK0 (xmkK (c := 4) E (ok_LookBookD_initD E) (bd_LookBookD_initD_1_ E) (by exact hr) tk 97 rfl).1 rfl (E.glo 25) (xmkK (c := 4) E (ok_LookBookD_initD E) (bd_LookBookD_initD_1_ E) (by exact hr) tk 97 rfl).2 mk_nil) (ma_cons (me_callK (xmkK (c := 5) E (ok_StillBookD_initD E) (bd_StillBookD_initD_2_ E) (by exact hr) tk 94 rfl).1 rfl (E.glo 26) (xmkK (c := 5) E (ok_StillBookD_initD E) (bd_StillBookD_initD_2_ E) (by exact hr) tk 94 rfl).2 (ma_cons me_int ma_nil) mk_nil) ma_nil)))) (mg_name sc.nd rfl (by first | exact .inl rfl | exact .inr rfl)) (onlyNx_name _) (ms_cons (ms_for hp rfl (mi_rng2 rfl (E.free 56) (ma_cons me_int (ma_cons me_int ma_nil)) rfl rfl aCons2) (mg_name sc.nd rfl (by first | exact .inl rfl | exact .inr rfl)) (onlyNx_name _) (ms_one (ms_if (mt_not (mt_val (xcall (ok__law_refused E) (bn__law_refused E) hr tk (E.glo 130) (ma_cons (xv 4) (ma_cons (xv 3) ma_nil))))) (ms_one (ms_ret me_bl)) ms_nil))) (ms_cons (ms_if (PW.pt (mw_or (mt_not (mt_val (xcall (ok_is_safe E) (bn_is_safe E) hr tk (E.glo 105) (ma_cons (xv 3) ma_nil)))) (mw_or (mt_cmpR (mo_ne rfl (hu64 hr)) (xcall (ok_faults E) (bn_faults E) hr tk (E.glo 112) (ma_cons (xv 3) ma_nil)) (me_lst ma_nil) rfl) (mw_or1 (mt_cmpR mo_notN (xcall (ok_span E) (bn_span E) hr tk (E.glo 106) (ma_cons (xv 3) ma_nil)) me_non rfl))))) (ms_one (ms_ret me_bl)) ms_nil) ms_nil))) (ms_cons (ms_ret me_bl) ms_nil)))))))
end
end Lw
end
section
set_option synthInstance.maxHeartbeats 0
set_option synthInstance.maxSize 1000000
namespace Lw
open PySem L2 ML
instance : LAr ar_bd_StillBookD_initD_2_still_read_sleep := ⟨fun r vs vs' zs zs' a b => arr32 a (CVs.self r) b _⟩
instance : LAr ar_bd_LookBookD_initD_1_check_look_chain := ⟨fun r vs vs' zs zs' a b => arr32 a (CVs.self r) b _⟩
instance : LAr ar_bd_EpochBookD_initD_1_epochs_behind_check_fetch_mark_test_step_told := ⟨fun r vs vs' zs zs' a b => arr32 a (CVs.self r) b _⟩
instance : LAr ar_bd_SettingD_initD_5_things := ⟨fun r vs vs' zs zs' a b => arr42 a (CVs.self r) b (CVs.self r) _⟩
instance : LAr ar_bd_EpochBookD_initD_3_ := ⟨fun r vs vs' zs zs' a b => arr32 a (CVs.self r) b _⟩
instance : LAr ar_bd_StillBookD_initD_2_ := ⟨fun r vs vs' zs zs' a b => arr32 a (CVs.self r) b _⟩
instance : LAr ar_bd_LookBookD_initD_1_ := ⟨fun r vs vs' zs zs' a b => arr32 a (CVs.self r) b _⟩
instance : CTs (lkS tb_ORDERS) := by unfold tb_ORDERS; infer_instance
instance : CTs (lkS tb_FAULTS) := by unfold tb_FAULTS; infer_instance
instance : LF f_Book_look_at_word := lf_runB (by unfold m_Book_look_at_word; infer_instance)
instance : LF f_BookD_getitemD := lf_runB (by unfold m_BookD_getitemD; infer_instance)
instance : LF f_is_book := lf_runB (by unfold m_is_book; infer_instance)
instance : LF f_look_at_book := lf_runB (by unfold m_look_at_book; infer_instance)
instance : LF f_Book_way := lf_runB (by unfold m_Book_way; infer_instance)
instance : LF f_is_whole := lf_runB (by unfold m_is_whole; infer_instance)
instance : LF f_is_number := lf_runB (by unfold m_is_number; infer_instance)
instance : LF f_values_at := lf_runB (by unfold m_values_at; infer_instance)
instance : LF f_BookD_eqD := lf_runB (by unfold m_BookD_eqD; infer_instance)
instance : LF f_SettingD_eqD := lf_runB (by unfold m_SettingD_eqD; infer_instance)
instance : LF f_is_same := lf_runB (by unfold m_is_same; infer_instance)
instance : LF f_is_value := lf_runB (by unfold m_is_value; infer_instance)
instance : LF f_Book_first_wrong := lf_runB (by unfold m_Book_first_wrong; infer_instance)
instance : LF f_BookD_initD := lf_runB (by unfold m_BookD_initD; infer_instance)
instance : LF f_StillBookD_initD := lf_runB (by unfold m_StillBookD_initD; infer_instance)
instance : LF f_StillBook_twin := lf_runB (by unfold m_StillBook_twin; infer_instance)
instance : LF f_LookBookD_initD := lf_runB (by unfold m_LookBookD_initD; infer_instance)
instance : LF f_LookBook_twin := lf_runB (by unfold m_LookBook_twin; infer_instance)
instance : LF f_EpochBookD_initD := lf_runB (by unfold m_EpochBookD_initD; infer_instance)
instance : LF f_EpochBook_twin := lf_runB (by unfold m_EpochBook_twin; infer_instance)
instance : LF f_SettingD_initD := lf_runB (by unfold m_SettingD_initD; infer_instance)
instance : LF f_least_needed := lf_runB (by unfold m_least_needed; infer_instance)
instance : LF f_is_safe := lf_runB (by unfold m_is_safe; infer_instance)
instance : LF f_span := lf_runB (by unfold m_span; infer_instance)
instance : LF f_still_faults := lf_runB (by unfold m_still_faults; infer_instance)
instance : LF f_look_faults := lf_runB (by unfold m_look_faults; infer_instance)
instance : LF f_epoch_faults := lf_runB (by unfold m_epoch_faults; infer_instance)
instance : LF f_faults := lf_runB (by unfold m_faults; infer_instance)
instance : LF f_look_at_epochs := lf_runB (by unfold m_look_at_epochs; infer_instance)
instance : LF f_least_behind := lf_runB (by unfold m_least_behind; infer_instance)
instance : LF f_fewest_epochs := lf_runB (by unfold m_fewest_epochs; infer_instance)
instance : LF f_safe_numbers := lf_runB (by unfold m_safe_numbers; infer_instance)
instance : LF f_breaking := lf_runB (by unfold m_breaking; infer_instance)
instance : LF f_paper_of := lf_runB (by unfold m_paper_of; infer_instance)
instance : LF f_compared := lf_runB (by unfold m_compared; infer_instance)
instance : LF f__law_ask := lf_runB (by unfold m__law_ask; infer_instance)
instance : LF f__law_refused := lf_runB (by unfold m__law_refused; infer_instance)
instance : LF f_law := lf_runB (by unfold m_law; infer_instance)
end Lw
end
section
namespace ML
open PySem PySem.Spec PyProof.Rows L2 He
theorem ints_rv {G : Gx} {ρ : List Addr} {H : Hp} : ∀ ns : List Int, RVs G ρ H (ns.map VI.int) (ns.map V.int)
  | [] => .nil
  | n :: ns => .cons (.int n) (ints_rv ns)
theorem scr_ag {G : Gx} {K : PySem.W.Frag} {H : Hp} {a : Addr} {ns : List Int} (nl : noLstB K = true) (hO : Only H) (hS : SqL K H a (ns.map V.int)) : Ag G [a] [.scr (ns.map VI.int)] H := by
  refine ⟨by simp, rfl, fun n o e => ?_⟩
  cases n with
  | succ n => simp at e
  | zero =>
    cases e
    refine ⟨a, rfl, ?_⟩
    rcases hS with (h | ⟨ob, h⟩) | ⟨o, its, n, h, hc, _⟩
    · rcases hO a with z | ⟨o, xs, z⟩
      · rw [z] at h; cases h
      · rw [z] at h; cases h
    · exact ⟨ob, _, h, ints_rv ns⟩
    · exact absurd hc (noLst_ok nl h)
theorem law_sp {G : Gx} {K : PySem.W.Frag} {H : Hp} {a : Addr} {ns : List Int} {g : MF} {h' : Hi} (nl : noLstB K = true) (hO : Only H) (hS : SqL K H a (ns.map V.int)) (e : g [.ref 0] [.scr (ns.map VI.int)] = .ok (.bl true) h') :
    spM G 1 g [.ref a] H (fun v _ => v = .bl true) fun _ _ _ => False := by
  refine ⟨[a], [.scr (ns.map VI.int)], [.ref 0], rfl, scr_ag nl hO hS, .cons (.ref rfl) .nil, ?_⟩
  rw [e]
  intro ρ' H' x _ _ r
  cases r
  rfl
theorem fn_cx0 {P : Program} {w : World} {K : PySem.W.Frag} {mg : Str → Option Value} {base : Heap} {k : Nat} {f : Addr} {fd : FuncData} {ps : List Str} {sp : Sp} (F : FnOk P w K mg base (L2.CX P w) k f fd ps sp) :
    FnOk P w K mg base CX0 k f fd ps fun vs H Q _ => sp vs H Q fun _ _ _ => False :=
  ⟨fun vs H Q E h => F.len vs H Q _ h, fun A outer s H args us vs Q E hr e0 hb hv h => codeAny_mono (F.run A outer s H args us vs Q (fun _ _ _ => False) hr e0 hb hv h) fun r s' q => by
    cases r with
    | ok f => cases f <;> exact q
    | error e =>
      obtain ⟨_, _, _, _, _, _, _, _, _, _, _, _, z⟩ := q
      exact z.elim⟩
end ML
end
section
namespace ML
open PySem PySem.Spec PyProof.Rows L2 He
def obsLG (as : List Addr) (m : MSpec) (g : Addr → Option Obj) : AlM := obsM m (frG g as)
def hookL (as : List Addr) (m : MSpec) : PySem.W.Hook where
  α := AlM
  obs := fun s => obsLG as m s.heap.get?
  val := fun w => valM m w
  says := fun w h => ∃ K : PySem.W.Frag, K.In h ∧ SaysM m w K
  of := fun _ _ e => ⟨_, frG_in, e⟩
  keeps := fun _ _ _ ⟨K, hK, c⟩ k => ⟨K, PySem.W.Frag.In.keeps hK k, c⟩
theorem obsLG_eq {as : List Addr} {m : MSpec} {g : Addr → Option Obj} {s : Shared} (h : ∀ a, g a = s.heap.get? a) : obsLG as m g = (hookL as m).obs s := by
  have e : g = s.heap.get? := funext h
  rw [e] <;> rfl
end ML
end
section
noncomputable section
namespace MHP
open PySem PySem.W PySem.Calls PyProof.Rows HandSHeadRun
section
variable (st : SharedT → Thread → Option (SharedT × Thread)) (n0 : Nat) (ann : Option Value)
def segF (b : Nat) : Nat → SharedT → Thread → Option (Flow × SharedT × Code × Pos)
  | 0, _, _ => none
  | m + 1, s, t => match endAt b t with
    | some f => some (f, s, t.code, t.pos)
    | none => match stepOk n0 ann t with
      | false => none
      | true => match st s t with
        | some (s', t') => frS s' fun s' => segF b m s' t'
        | none => none
def topF : Nat → SharedT → Thread → Option (SharedT × Thread)
  | 0, s, t => some (s, t)
  | m + 1, s, t => match through t with
    | true => none
    | false => match stepOk n0 ann t with
      | false => none
      | true => match st s t with
        | some (s', t') => frS s' fun s' => topF m s' t'
        | none => none
end
section
variable {tb : String → Option Builtin} {p : Program} {w : World} {n0 : Nat} {ann : Option Value} {b : Nat}
theorem segF_ok : ∀ {m : Nat} {s s' : SharedT} {t : Thread} {f : Flow} {c : Code} {q : Pos}, segF (stepT (denote tb) p w) n0 ann b m s t = some (f, s', c, q) → segRun tb p w n0 ann b m s.abs t = some (f, s'.abs, c, q)
  | 0, _, _, _, _, _, _, h => by cases h
  | m + 1, s, s', t, f, c, q, h => by
    unfold segF at h
    unfold segRun
    cases he : endAt b t with
    | some x => rw [he] at h; cases h; rfl
    | none =>
      rw [he] at h
      cases hk : stepOk n0 ann t with
      | false => rw [hk] at h; cases h
      | true =>
        rw [hk] at h
        cases hs : stepT (denote tb) p w s t with
        | none => rw [hs] at h; cases h
        | some r =>
          obtain ⟨s2, t2⟩ := r
          rw [hs] at h
          dsimp only at h
          rw [frS_eq] at h
          rw [stepT_spec hs]
          exact segF_ok h
theorem topF_ok : ∀ {m : Nat} {s s' : SharedT} {t t' : Thread}, topF (stepT (denote tb) p w) n0 ann m s t = some (s', t') → topGo tb p w n0 ann m s.abs t = some (s'.abs, t')
  | 0, _, _, _, _, h => by cases h; rfl
  | m + 1, s, s', t, t', h => by
    unfold topF at h
    unfold topGo
    cases he : through t with
    | true => rw [he] at h; cases h
    | false =>
      rw [he] at h
      cases hk : stepOk n0 ann t with
      | false => rw [hk] at h; cases h
      | true =>
        rw [hk] at h
        cases hs : stepT (denote tb) p w s t with
        | none => rw [hs] at h; cases h
        | some r =>
          obtain ⟨s2, t2⟩ := r
          rw [hs] at h
          dsimp only at h
          rw [frS_eq] at h
          rw [stepT_spec hs]
          exact topF_ok h
end
def preF (st : SharedT → Thread → Option (SharedT × Thread)) (n0 : Nat) (ann : Option Value) (k : Nat) (p : Program) (w : World) (os : OsState) : Option (SharedT × Thread) := match putAll (boot_heap w.params).objs.toList .nil 0 with
  | some (t, n) => topF st n0 ann k (bootT w os (t, n)) (topStub p)
  | none => none
theorem preF_ok {tb : String → Option Builtin} {n0 k : Nat} {ann : Option Value} {p : Program} {w : World} {os : OsState} {s : SharedT} {t : Thread} (h : preF (stepT (denote tb) p w) n0 ann k p w os = some (s, t)) :
    topGo tb p w n0 ann k ⟨boot_heap w.params, #[], boot_drawn, boot_toks, os⟩ (topStub p) = some (s.abs, t) := by
  unfold preF at h
  cases e : putAll (boot_heap w.params).objs.toList .nil 0 with
  | none => rw [e] at h; cases h
  | some r =>
    obtain ⟨T, n⟩ := r
    rw [e] at h
    have q := topF_ok h
    have eh := putAll_heap e
    have eb : (bootT w os (T, n)).abs = ⟨boot_heap w.params, #[], boot_drawn, boot_toks, os⟩ := by
      show (⟨absHeap T n (boot_heap w.params).life, #[], boot_drawn, boot_toks, os⟩ : Shared) = _
      rw [eh]
    rw [eb] at q
    exact q
theorem fin_ok {p : Program} {w : World} {n0 m : Nat} {ann : Option Value} {s s' : SharedT} {t : Thread} (h : goF (stepQ (denQ tabQ) p w) n0 ann m s t = some s') : topRun treeTable p w n0 ann m s.abs t = some s'.abs :=
  goF_ok (by rw [stepQ_eq, denQ_eq, tabQ_eq]; exact h)
theorem seg_ok {p : Program} {w : World} {n0 m : Nat} {ann : Option Value} {s s' : SharedT} {t : Thread} {c : Code} {q : Pos} (h : segF (stepQ (denQ tabQ) p w) n0 ann 1 m s t = some (.next, s', c, q)) : segRun treeTable p w n0 ann 1 m s.abs t = some (.next, s'.abs, c, q) :=
  segF_ok (by rw [stepQ_eq, denQ_eq, tabQ_eq]; exact h)
theorem left_pc {p q : Program} {loose : List Str} {Xt : Shared → Bool} {α : Type} {Yf : Shared → α} {Ya : World → α} {N k0 M1 m0 : Nat} {ann : Option Value} {A Z : World → OsState → SharedT} {th : Thread}
    (e : opening p = plainProg p.main.scope.names) (hN : Nat.ble 600 N = true) (f : ∀ s, fenceModules? p s = some s) (le : Nat.ble (k0 + M1) N = true)
    (hm : ∀ w : World, (boot_heap w.params).objs.size = m0) (ha : ∀ w : World, bootAnn w = ann)
    (pre : ∀ (w : World) (os : OsState), preF (stepQ (denQ tabQ) p w) m0 ann k0 p w os = some (A w os, th))
    (rest : ∀ (w : World) (os : OsState), topRun treeTable p w m0 ann M1 (A w os).abs th = some (Z w os).abs)
    (l1 : ∀ (w : World) (os : OsState), looksF p (boot_heap w.params) (Z w os).abs = true)
    (l2 : ∀ (w : World) (os : OsState), seenQ q loose (importedModules p.main.body) Xt (Z w os).abs = openGood q loose)
    (l3 : ∀ (w : World) (os : OsState), Yf (Z w os).abs = Ya w) : LeftO p q loose Xt Yf Ya N true := fun w => by
  obtain ⟨⟨h, gs, d, k, os⟩, a, a'⟩ := Option.map_eq_some_iff.mp (boot_open e hN f w)
  obtain ⟨rfl, rfl, rfl, rfl⟩ : h = boot_heap w.params ∧ gs = Array.mk [] ∧ d = boot_drawn ∧ k = boot_toks := by simpa using a'
  have pr := pre w os
  rw [← stepQ_eq, ← denQ_eq, ← tabQ_eq] at pr
  have r0 := go_top (preF_ok pr) (rest w os)
  rw [← hm w, ← ha w] at r0
  have r := topRun_mono (N - (k0 + M1)) _ _ _ _ r0
  rw [show k0 + M1 + (N - (k0 + M1)) = N by have := Nat.le_of_ble_eq_true le; omega] at r
  have l1' : (staticsOk (importedModules p.main.body) (boot_heap w.params) (Z w os).abs.heap && namesBound p (Z w os).abs.heap && gensDone (Z w os).abs && laidKept (boot_heap w.params) (Z w os).abs.heap) = true := l1 w os
  have t : topFrom treeTable p w N ⟨boot_heap w.params, Array.mk [], boot_drawn, boot_toks, os⟩ = some (Z w os).abs := by
    unfold topFrom
    dsimp only
    rw [boot_ns]
    show (topRun treeTable p w (boot_heap w.params).objs.size (bootAnn w) N ⟨boot_heap w.params, #[], boot_drawn, boot_toks, os⟩ (topStub p)).bind _ = _
    rw [r]
    show (match staticsOk (importedModules p.main.body) (boot_heap w.params) (Z w os).abs.heap && namesBound p (Z w os).abs.heap && gensDone (Z w os).abs && laidKept (boot_heap w.params) (Z w os).abs.heap with | true => some (Z w os).abs | false => none) = _
    rw [l1']
  have l2' := l2 w os
  rw [← seenQ_eq] at l2'
  unfold openEnds
  rw [a]
  show (topFrom treeTable p w N _).map _ = _
  rw [t]
  exact congrArg some (Prod.ext l2' (l3 w os))
theorem head_left {r : OpenRow} {q : Program} {H : Hook} {N : Nat} {loose : List PySem.Str} {d : DefRec} {kwd : List (PySem.Str × PySem.Expr)}
    (left : LeftO r.prog q loose (fun s => xlAt q [] s && recOk r.toRowW.records s) H.obs H.val N true)
    (hdef : defOf q r.name = some (d, kwd)) (hp : r.prog.theDef r.name = some (d.params, d.body, d.scope)) (hk : kwWritten? d.params.kwonlyargs d.params.kw_defaults = some kwd)
    (hwr : (!r.writes || r.records.isEmpty) = true) (k1 : r.wellSaid = true) (ok : (chainsOk q && opensWell r.prog && (frees r.toRowW && r.within.isEmpty)) = true) (hb : r.prog.bare) (hw : r.toRowW.promised)
    (call : WalkO q loose (XL q []) H.says r.toRowW d kwd fun f vs => PySem.call f vs) : r.Holds :=
  holds_open (r := r) (q := q) (loose := loose) (XP := XL q []) (YP := H.says) (d := d) (kwd := kwd) left H.of H.keeps (fun s z => xl_of s (Bool.and_eq_true_iff.mp z).1) XL.keeps hdef hp hk (fun s z => recFacts_of (Bool.and_eq_true_iff.mp z).2) hwr k1 ok hb hw call
def tS (p : Program) (i : Nat) : Stmt := p.main.body.getD i (.Pass ⟨0, 0, 0, 0⟩)
def cS (p : Program) (i j : Nat) : Stmt := (match tS p i with
  | .ClassDef _ _ _ b _ _ _ _ _ _ _ => b
  | _ => []).getD j (.Pass ⟨0, 0, 0, 0⟩)
def sub (l : List Stmt) (a n : Nat) : List Stmt := (l.drop a).take n
end MHP
end
section
set_option maxHeartbeats 0
namespace Lw
open PySem PySem.Spec PyProof.Rows PySem.W L2 He MHP HandSHeadRun
abbrev Rr : OpenRow := OpenLaw.row PySem.Challenge.rw_epochrooms_k45_verdicts_refused
abbrev PP : Program := PySem.Challenge.pw_epochrooms_k45_verdicts_refused
abbrev zA (i : Nat) := defArgs (tS PP i)
abbrev zAC (i j : Nat) := defArgs (cS PP i j)
abbrev zB (i : Nat) := defBody (tS PP i)
abbrev zBC (i j : Nat) := defBody (cS PP i j)
abbrev zS (i : Nat) := defScope (tS PP i)
abbrev zSC (i j : Nat) := defScope (cS PP i j)
abbrev zo (x : String) : Str := .ofString x
abbrev zi (n : Int) : Value := .int n 0
abbrev N := @BT.node
abbrev Z := BT.nil
abbrev zhK (P : Params) (x : String) := PyData.keyHash P (.ofString x)
abbrev zsK (x : String) (n : Nat) : Value := .str (.ofString x) n
abbrev zt (l : List Value) : Obj := ⟨.type "tuple", none, .seq l.toArray 0, #[]⟩
abbrev zc (l : List Value) : Obj := ⟨.type "code", none, .fields l.toArray, #[]⟩
abbrev zf (f : FuncData) : Obj := ⟨.type "function", none, .func f, #[]⟩
abbrev zm (x y : String) (a b c d e f : Nat) (q : String) (n r : Nat) : Obj := zf ⟨.ofString x, .ofString y, zAC a b, .stmts (zBC c d), zSC e f, 3, [], .none, .none, .none, zsK q n, none, .ref r, .none, 0⟩
abbrev zn (l : List Value) : Obj := ⟨.none, none, .fields l.toArray, #[]⟩
def B11 : Obj := zt []
def B12 : Obj := zn []
def B13 : Obj := zc [(zsK "<module>" 182), (zsK "<module>" 183), (zsK "/claim/cut.py" 184), (zi 1), (zi 0), (zi 0), (zi 0), (zi 0), (.ref 11), (.bool false), (zi 181), (.ref 12), .none, .none, .none, .none, (zi 185), (zi 1), (zsK "/claim/cut.py" 186)]
def B14 : Obj := ⟨(.type "frame"), none, .plain, #[(some (.ref 13)), (some (.ref 3)), (some (.ref 3)), none, (some (zsK "__main__" 164)), none, (some (.ref 0))]⟩
def C3 (P : Params) : Obj := ⟨(.type "dict"), none, (.dict #[⟨(zhK P "__name__"), (zsK "__name__" 165), (zsK "epochrooms.books" 394)⟩, ⟨(zhK P "__doc__"), (zsK "__doc__" 166), .none⟩, ⟨(zhK P "__package__"), (zsK "__package__" 167), .none⟩, ⟨(zhK P "__loader__"), (zsK "__loader__" 168), (.builtin "__main__.__loader__#opaque")⟩, ⟨(zhK P "__spec__"), (zsK "__spec__" 169), .none⟩, ⟨(zhK P "__annotations__"), (zsK "__annotations__" 170), (.ref 6)⟩, ⟨(zhK P "__builtins__"), (zsK "__builtins__" 171), (.ref 4)⟩, ⟨(zhK P "__file__"), (zsK "__file__" 173), (zsK "/claim/cut.py" 172)⟩, ⟨(zhK P "__cached__"), (zsK "__cached__" 174), .none⟩, ⟨(zhK P "_wall"), (zsK "_wall" 193), (.ref 21)⟩, ⟨(zhK P "RoomsError"), (zsK "RoomsError" 213), (.ref 31)⟩, ⟨(zhK P "NoSwitch"), (zsK "NoSwitch" 240), (.ref 53)⟩, ⟨(zhK P "NoValue"), (zsK "NoValue" 267), (.ref 74)⟩, ⟨(zhK P "NoBook"), (zsK "NoBook" 294), (.ref 95)⟩, ⟨(zhK P "NoSetting"), (zsK "NoSetting" 321), (.ref 116)⟩, ⟨(zhK P "NoMove"), (zsK "NoMove" 348), (.ref 137)⟩, ⟨(zhK P "IsSafe"), (zsK "IsSafe" 375), (.ref 158)⟩, ⟨(zhK P "is_number"), (zsK "is_number" 386), (.ref 167)⟩, ⟨(zhK P "is_whole"), (zsK "is_whole" 393), (.ref 174)⟩, ⟨(zhK P "ORDERS"), (zsK "ORDERS" 440), (.ref 175)⟩, ⟨(zhK P "LEAST_EPOCHS"), (zsK "LEAST_EPOCHS" 442), (.int 2 441)⟩, ⟨(zhK P "MOST_EPOCHS"), (zsK "MOST_EPOCHS" 444), (.int 6 443)⟩, ⟨(zhK P "MOST_COUNTS"), (zsK "MOST_COUNTS" 446), (.int 4 445)⟩, ⟨(zhK P "values_at"), (zsK "values_at" 454), (.ref 193)⟩, ⟨(zhK P "is_same"), (zsK "is_same" 462), (.ref 200)⟩, ⟨(zhK P "is_value"), (zsK "is_value" 468), (.ref 205)⟩, ⟨(zhK P "care"), (zsK "care" 478), (.ref 212)⟩, ⟨(zhK P "Book"), (zsK "Book" 608), (.ref 313)⟩] 28), #[]⟩
def C12 : Obj := zn [(zi 1), (zi 0), (.ref 20), (zi 5), (zi 0), (.ref 27), (zi 7), (zi 0), (.ref 41), (zi 12), (zi 0), (.ref 62), (zi 17), (zi 0), (.ref 83), (zi 22), (zi 0), (.ref 104), (zi 27), (zi 0), (.ref 125), (zi 32), (zi 0), (.ref 146), (zi 38), (zi 0), (.ref 166), (zi 40), (zi 0), (.ref 173), (zi 47), (zi 0), (.ref 192), (zi 53), (zi 0), (.ref 199), (zi 59), (zi 0), (.ref 204), (zi 61), (zi 0), (.ref 211), (zi 70), (zi 0), (.ref 218)]
def C15 : Obj := zt []
def C16 : Obj := zn []
def C17 : Obj := zt [(zsK "k" 190)]
def C18 : Obj := zt []
def C19 : Obj := ⟨.none, none, (.func ⟨(zo "_wall"), (zo "_wall"), (zA 0), (.stmts (zB 0)), (zS 0), 0, [], .none, .none, .none, .none, none, .none, .none, 0⟩), #[]⟩
def C20 : Obj := zc [(zsK "_wall" 187), (zsK "_wall" 188), (zsK "/claim/cut.py" 189), (zi 1), (zi 1), (zi 0), (zi 0), (zi 3), (.ref 15), (.bool true), (zi 181), (.ref 16), .none, (.ref 17), (.ref 18), (.ref 19), (zi 191), (zi 1), (zsK "/claim/cut.py" 192)]
def C21 : Obj := zf ⟨(zo "_wall"), (zo "_wall"), (zA 0), (.stmts (zB 0)), (zS 0), 3, [], .none, .none, .none, (zsK "__main__" 164), none, (.ref 20), .none, 0⟩
def C22 : Obj := zt [(.type "ValueError")]
def C23 : Obj := ⟨(.type "builtin_function_or_method"), none, (.fields #[(.builtin "type.__prepare__"), (.type "type")]), #[]⟩
def C24 (P : Params) : Obj := ⟨(.type "dict"), none, (.dict #[⟨(zhK P "__module__"), (zsK "__module__" 203), (zsK "epochrooms.errors" 194)⟩, ⟨(zhK P "__qualname__"), (zsK "__qualname__" 205), (zsK "RoomsError" 204)⟩, ⟨(zhK P "__firstlineno__"), (zsK "__firstlineno__" 207), (.int 5 206)⟩, ⟨(zhK P "__static_attributes__"), (zsK "__static_attributes__" 208), (.ref 29)⟩] 4), #[]⟩
def C25 : Obj := zt []
def C26 : Obj := zn []
def C27 : Obj := zc [(zsK "RoomsError" 198), (zsK "RoomsError" 199), (zsK "/claim/cut.py" 200), (zi 5), (zi 0), (zi 0), (zi 0), (zi 0), (.ref 25), (.bool false), (zi 181), (.ref 26), .none, .none, .none, .none, (zi 201), (zi 5), (zsK "/claim/cut.py" 202)]
def C28 : Obj := ⟨(.type "frame"), none, .plain, #[(some (.ref 27)), (some (.ref 3)), (some (.ref 24)), none, (some (zsK "epochrooms.errors" 194)), none, (some (.ref 0))]⟩
def C29 : Obj := zt []
def C30 (P : Params) : Obj := ⟨(.type "dict"), none, (.dict #[⟨(zhK P "__module__"), (zsK "__module__" 203), (zsK "epochrooms.errors" 194)⟩, ⟨(zhK P "__firstlineno__"), (zsK "__firstlineno__" 207), (.int 5 206)⟩, ⟨(zhK P "__static_attributes__"), (zsK "__static_attributes__" 208), (.ref 29)⟩, ⟨(zhK P "__weakref__"), (zsK "__weakref__" 210), (.ref 32)⟩, ⟨(zhK P "__doc__"), (zsK "__doc__" 211), .none⟩] 3), #[]⟩
def C31 : Obj := ⟨(.type "type"), none, (.cls ⟨(zo "RoomsError"), [(.type "ValueError")], [(.ref 31), (.type "ValueError"), (.type "Exception"), (.type "BaseException"), (.type "object")], 30, (zo "RoomsError"), true, [], [(.ref 53), (.ref 74), (.ref 95), (.ref 116), (.ref 137), (.ref 158)], false, none, false⟩), #[(some (.ref 22)), none, (some (zsK "RoomsError" 196)), (some (zsK "RoomsError" 204)), (some (.builtin "ValueError.__new__")), (some (.bool true))]⟩
def C32 : Obj := ⟨(.type "getset_descriptor"), none, (.fields #[(zsK "__weakref__" 209), (.ref 31), (.builtin "ExceptionGroup.__weakref__"), .none]), #[]⟩
def C33 : Obj := ⟨(.type "super"), none, (.fields #[(.ref 31), (.ref 31), (.ref 31)]), #[]⟩
def C34 : Obj := ⟨(.type "builtin_function_or_method"), none, (.fields #[(.builtin "object.__init_subclass__"), (.ref 31)]), #[]⟩
def C35 : Obj := zt [(.ref 31)]
def C36 : Obj := ⟨(.type "builtin_function_or_method"), none, (.fields #[(.builtin "type.__prepare__"), (.type "type")]), #[]⟩
def C37 (P : Params) : Obj := ⟨(.type "dict"), none, (.dict #[⟨(zhK P "__module__"), (zsK "__module__" 221), (zsK "epochrooms.errors" 194)⟩, ⟨(zhK P "__qualname__"), (zsK "__qualname__" 223), (zsK "NoSwitch" 222)⟩, ⟨(zhK P "__firstlineno__"), (zsK "__firstlineno__" 225), (.int 7 224)⟩, ⟨(zhK P "__init__"), (zsK "__init__" 234), (.ref 50)⟩, ⟨(zhK P "__static_attributes__"), (zsK "__static_attributes__" 236), (.ref 51)⟩, ⟨(zhK P "__classcell__"), (zsK "__classcell__" 237), (.ref 38)⟩] 6), #[]⟩
def C38 : Obj := ⟨(.type "cell"), none, (.cell (some (.ref 53))), #[]⟩
def C39 : Obj := zt []
def C40 : Obj := zn [(zi 9), (zi 4), (.ref 49)]
def C41 : Obj := zc [(zsK "NoSwitch" 216), (zsK "NoSwitch" 217), (zsK "/claim/cut.py" 218), (zi 7), (zi 0), (zi 0), (zi 0), (zi 0), (.ref 39), (.bool false), (zi 181), (.ref 40), .none, .none, .none, .none, (zi 219), (zi 7), (zsK "/claim/cut.py" 220)]
def C42 : Obj := ⟨(.type "frame"), none, .plain, #[(some (.ref 41)), (some (.ref 3)), (some (.ref 37)), none, (some (zsK "epochrooms.errors" 194)), none, (some (.ref 0))]⟩
def C43 : Obj := zt [(.ref 38)]
def C44 : Obj := zt [(zsK "__class__" 229)]
def C45 : Obj := zn []
def C46 : Obj := zt [(zsK "self" 230), (zsK "word" 231)]
def C47 : Obj := zt []
def C48 : Obj := ⟨.none, none, (.func ⟨(zo "__init__"), (zo "NoSwitch.__init__"), (zAC 3 0), (.stmts (zBC 3 0)), (zSC 6 0), 0, [], .none, .none, .none, .none, none, .none, .none, 0⟩), #[]⟩
def C49 : Obj := zc [(zsK "__init__" 226), (zsK "NoSwitch.__init__" 227), (zsK "/claim/cut.py" 228), (zi 9), (zi 2), (zi 0), (zi 0), (zi 3), (.ref 44), (.bool true), (zi 181), (.ref 45), .none, (.ref 46), (.ref 47), (.ref 48), (zi 232), (zi 9), (zsK "/claim/cut.py" 233)]
def C50 : Obj := zf ⟨(zo "__init__"), (zo "NoSwitch.__init__"), (zAC 3 0), (.stmts (zBC 3 0)), (zSC 6 0), 3, [((zo "__class__"), 38)], .none, .none, .none, (zsK "epochrooms.errors" 194), none, (.ref 49), (.ref 43), 0⟩
def C51 : Obj := zt [(zsK "word" 235)]
def C52 (P : Params) : Obj := ⟨(.type "dict"), none, (.dict #[⟨(zhK P "__module__"), (zsK "__module__" 221), (zsK "epochrooms.errors" 194)⟩, ⟨(zhK P "__firstlineno__"), (zsK "__firstlineno__" 225), (.int 7 224)⟩, ⟨(zhK P "__init__"), (zsK "__init__" 234), (.ref 50)⟩, ⟨(zhK P "__static_attributes__"), (zsK "__static_attributes__" 236), (.ref 51)⟩, ⟨(zhK P "__doc__"), (zsK "__doc__" 238), .none⟩] 3), #[]⟩
def C53 : Obj := ⟨(.type "type"), none, (.cls ⟨(zo "NoSwitch"), [(.ref 31)], [(.ref 53), (.ref 31), (.type "ValueError"), (.type "Exception"), (.type "BaseException"), (.type "object")], 52, (zo "NoSwitch"), true, [], [], false, none, false⟩), #[(some (.ref 35)), none, (some (zsK "NoSwitch" 214)), (some (zsK "NoSwitch" 222)), (some (.builtin "ValueError.__new__")), (some (.bool true))]⟩
def C54 : Obj := ⟨(.type "super"), none, (.fields #[(.ref 53), (.ref 53), (.ref 53)]), #[]⟩
def C55 : Obj := ⟨(.type "builtin_function_or_method"), none, (.fields #[(.builtin "object.__init_subclass__"), (.ref 53)]), #[]⟩
def C56 : Obj := zt [(.ref 31)]
def C57 : Obj := ⟨(.type "builtin_function_or_method"), none, (.fields #[(.builtin "type.__prepare__"), (.type "type")]), #[]⟩
def C58 (P : Params) : Obj := ⟨(.type "dict"), none, (.dict #[⟨(zhK P "__module__"), (zsK "__module__" 248), (zsK "epochrooms.errors" 194)⟩, ⟨(zhK P "__qualname__"), (zsK "__qualname__" 250), (zsK "NoValue" 249)⟩, ⟨(zhK P "__firstlineno__"), (zsK "__firstlineno__" 252), (.int 12 251)⟩, ⟨(zhK P "__init__"), (zsK "__init__" 261), (.ref 71)⟩, ⟨(zhK P "__static_attributes__"), (zsK "__static_attributes__" 263), (.ref 72)⟩, ⟨(zhK P "__classcell__"), (zsK "__classcell__" 264), (.ref 59)⟩] 6), #[]⟩
def C59 : Obj := ⟨(.type "cell"), none, (.cell (some (.ref 74))), #[]⟩
def C60 : Obj := zt []
def C61 : Obj := zn [(zi 14), (zi 4), (.ref 70)]
def C62 : Obj := zc [(zsK "NoValue" 243), (zsK "NoValue" 244), (zsK "/claim/cut.py" 245), (zi 12), (zi 0), (zi 0), (zi 0), (zi 0), (.ref 60), (.bool false), (zi 181), (.ref 61), .none, .none, .none, .none, (zi 246), (zi 12), (zsK "/claim/cut.py" 247)]
def C63 : Obj := ⟨(.type "frame"), none, .plain, #[(some (.ref 62)), (some (.ref 3)), (some (.ref 58)), none, (some (zsK "epochrooms.errors" 194)), none, (some (.ref 0))]⟩
def C64 : Obj := zt [(.ref 59)]
def C65 : Obj := zt [(zsK "__class__" 256)]
def C66 : Obj := zn []
def C67 : Obj := zt [(zsK "self" 257), (zsK "word" 258)]
def C68 : Obj := zt []
def C69 : Obj := ⟨.none, none, (.func ⟨(zo "__init__"), (zo "NoValue.__init__"), (zAC 4 0), (.stmts (zBC 4 0)), (zSC 6 0), 0, [], .none, .none, .none, .none, none, .none, .none, 0⟩), #[]⟩
def C70 : Obj := zc [(zsK "__init__" 253), (zsK "NoValue.__init__" 254), (zsK "/claim/cut.py" 255), (zi 14), (zi 2), (zi 0), (zi 0), (zi 3), (.ref 65), (.bool true), (zi 181), (.ref 66), .none, (.ref 67), (.ref 68), (.ref 69), (zi 259), (zi 14), (zsK "/claim/cut.py" 260)]
def C71 : Obj := zf ⟨(zo "__init__"), (zo "NoValue.__init__"), (zAC 4 0), (.stmts (zBC 4 0)), (zSC 6 0), 3, [((zo "__class__"), 59)], .none, .none, .none, (zsK "epochrooms.errors" 194), none, (.ref 70), (.ref 64), 0⟩
def C72 : Obj := zt [(zsK "word" 262)]
def C73 (P : Params) : Obj := ⟨(.type "dict"), none, (.dict #[⟨(zhK P "__module__"), (zsK "__module__" 248), (zsK "epochrooms.errors" 194)⟩, ⟨(zhK P "__firstlineno__"), (zsK "__firstlineno__" 252), (.int 12 251)⟩, ⟨(zhK P "__init__"), (zsK "__init__" 261), (.ref 71)⟩, ⟨(zhK P "__static_attributes__"), (zsK "__static_attributes__" 263), (.ref 72)⟩, ⟨(zhK P "__doc__"), (zsK "__doc__" 265), .none⟩] 3), #[]⟩
def C74 : Obj := ⟨(.type "type"), none, (.cls ⟨(zo "NoValue"), [(.ref 31)], [(.ref 74), (.ref 31), (.type "ValueError"), (.type "Exception"), (.type "BaseException"), (.type "object")], 73, (zo "NoValue"), true, [], [], false, none, false⟩), #[(some (.ref 56)), none, (some (zsK "NoValue" 241)), (some (zsK "NoValue" 249)), (some (.builtin "ValueError.__new__")), (some (.bool true))]⟩
def C75 : Obj := ⟨(.type "super"), none, (.fields #[(.ref 74), (.ref 74), (.ref 74)]), #[]⟩
def C76 : Obj := ⟨(.type "builtin_function_or_method"), none, (.fields #[(.builtin "object.__init_subclass__"), (.ref 74)]), #[]⟩
def C77 : Obj := zt [(.ref 31)]
def C78 : Obj := ⟨(.type "builtin_function_or_method"), none, (.fields #[(.builtin "type.__prepare__"), (.type "type")]), #[]⟩
def C79 (P : Params) : Obj := ⟨(.type "dict"), none, (.dict #[⟨(zhK P "__module__"), (zsK "__module__" 275), (zsK "epochrooms.errors" 194)⟩, ⟨(zhK P "__qualname__"), (zsK "__qualname__" 277), (zsK "NoBook" 276)⟩, ⟨(zhK P "__firstlineno__"), (zsK "__firstlineno__" 279), (.int 17 278)⟩, ⟨(zhK P "__init__"), (zsK "__init__" 288), (.ref 92)⟩, ⟨(zhK P "__static_attributes__"), (zsK "__static_attributes__" 290), (.ref 93)⟩, ⟨(zhK P "__classcell__"), (zsK "__classcell__" 291), (.ref 80)⟩] 6), #[]⟩
def C80 : Obj := ⟨(.type "cell"), none, (.cell (some (.ref 95))), #[]⟩
def C81 : Obj := zt []
def C82 : Obj := zn [(zi 19), (zi 4), (.ref 91)]
def C83 : Obj := zc [(zsK "NoBook" 270), (zsK "NoBook" 271), (zsK "/claim/cut.py" 272), (zi 17), (zi 0), (zi 0), (zi 0), (zi 0), (.ref 81), (.bool false), (zi 181), (.ref 82), .none, .none, .none, .none, (zi 273), (zi 17), (zsK "/claim/cut.py" 274)]
def C84 : Obj := ⟨(.type "frame"), none, .plain, #[(some (.ref 83)), (some (.ref 3)), (some (.ref 79)), none, (some (zsK "epochrooms.errors" 194)), none, (some (.ref 0))]⟩
def C85 : Obj := zt [(.ref 80)]
def C86 : Obj := zt [(zsK "__class__" 283)]
def C87 : Obj := zn []
def C88 : Obj := zt [(zsK "self" 284), (zsK "value" 285)]
def C89 : Obj := zt []
def C90 : Obj := ⟨.none, none, (.func ⟨(zo "__init__"), (zo "NoBook.__init__"), (zAC 5 0), (.stmts (zBC 5 0)), (zSC 8 0), 0, [], .none, .none, .none, .none, none, .none, .none, 0⟩), #[]⟩
def C91 : Obj := zc [(zsK "__init__" 280), (zsK "NoBook.__init__" 281), (zsK "/claim/cut.py" 282), (zi 19), (zi 2), (zi 0), (zi 0), (zi 3), (.ref 86), (.bool true), (zi 181), (.ref 87), .none, (.ref 88), (.ref 89), (.ref 90), (zi 286), (zi 19), (zsK "/claim/cut.py" 287)]
def C92 : Obj := zf ⟨(zo "__init__"), (zo "NoBook.__init__"), (zAC 5 0), (.stmts (zBC 5 0)), (zSC 8 0), 3, [((zo "__class__"), 80)], .none, .none, .none, (zsK "epochrooms.errors" 194), none, (.ref 91), (.ref 85), 0⟩
def C93 : Obj := zt [(zsK "value" 289)]
def C94 (P : Params) : Obj := ⟨(.type "dict"), none, (.dict #[⟨(zhK P "__module__"), (zsK "__module__" 275), (zsK "epochrooms.errors" 194)⟩, ⟨(zhK P "__firstlineno__"), (zsK "__firstlineno__" 279), (.int 17 278)⟩, ⟨(zhK P "__init__"), (zsK "__init__" 288), (.ref 92)⟩, ⟨(zhK P "__static_attributes__"), (zsK "__static_attributes__" 290), (.ref 93)⟩, ⟨(zhK P "__doc__"), (zsK "__doc__" 292), .none⟩] 3), #[]⟩
def C95 : Obj := ⟨(.type "type"), none, (.cls ⟨(zo "NoBook"), [(.ref 31)], [(.ref 95), (.ref 31), (.type "ValueError"), (.type "Exception"), (.type "BaseException"), (.type "object")], 94, (zo "NoBook"), true, [], [], false, none, false⟩), #[(some (.ref 77)), none, (some (zsK "NoBook" 268)), (some (zsK "NoBook" 276)), (some (.builtin "ValueError.__new__")), (some (.bool true))]⟩
def C96 : Obj := ⟨(.type "super"), none, (.fields #[(.ref 95), (.ref 95), (.ref 95)]), #[]⟩
def C97 : Obj := ⟨(.type "builtin_function_or_method"), none, (.fields #[(.builtin "object.__init_subclass__"), (.ref 95)]), #[]⟩
def C98 : Obj := zt [(.ref 31)]
def C99 : Obj := ⟨(.type "builtin_function_or_method"), none, (.fields #[(.builtin "type.__prepare__"), (.type "type")]), #[]⟩
def C100 (P : Params) : Obj := ⟨(.type "dict"), none, (.dict #[⟨(zhK P "__module__"), (zsK "__module__" 302), (zsK "epochrooms.errors" 194)⟩, ⟨(zhK P "__qualname__"), (zsK "__qualname__" 304), (zsK "NoSetting" 303)⟩, ⟨(zhK P "__firstlineno__"), (zsK "__firstlineno__" 306), (.int 22 305)⟩, ⟨(zhK P "__init__"), (zsK "__init__" 315), (.ref 113)⟩, ⟨(zhK P "__static_attributes__"), (zsK "__static_attributes__" 317), (.ref 114)⟩, ⟨(zhK P "__classcell__"), (zsK "__classcell__" 318), (.ref 101)⟩] 6), #[]⟩
def C101 : Obj := ⟨(.type "cell"), none, (.cell (some (.ref 116))), #[]⟩
def C102 : Obj := zt []
def C103 : Obj := zn [(zi 24), (zi 4), (.ref 112)]
def C104 : Obj := zc [(zsK "NoSetting" 297), (zsK "NoSetting" 298), (zsK "/claim/cut.py" 299), (zi 22), (zi 0), (zi 0), (zi 0), (zi 0), (.ref 102), (.bool false), (zi 181), (.ref 103), .none, .none, .none, .none, (zi 300), (zi 22), (zsK "/claim/cut.py" 301)]
def C105 : Obj := ⟨(.type "frame"), none, .plain, #[(some (.ref 104)), (some (.ref 3)), (some (.ref 100)), none, (some (zsK "epochrooms.errors" 194)), none, (some (.ref 0))]⟩
def C106 : Obj := zt [(.ref 101)]
def C107 : Obj := zt [(zsK "__class__" 310)]
def C108 : Obj := zn []
def C109 : Obj := zt [(zsK "self" 311), (zsK "word" 312)]
def C110 : Obj := zt []
def C111 : Obj := ⟨.none, none, (.func ⟨(zo "__init__"), (zo "NoSetting.__init__"), (zAC 6 0), (.stmts (zBC 6 0)), (zSC 6 0), 0, [], .none, .none, .none, .none, none, .none, .none, 0⟩), #[]⟩
def C112 : Obj := zc [(zsK "__init__" 307), (zsK "NoSetting.__init__" 308), (zsK "/claim/cut.py" 309), (zi 24), (zi 2), (zi 0), (zi 0), (zi 3), (.ref 107), (.bool true), (zi 181), (.ref 108), .none, (.ref 109), (.ref 110), (.ref 111), (zi 313), (zi 24), (zsK "/claim/cut.py" 314)]
def C113 : Obj := zf ⟨(zo "__init__"), (zo "NoSetting.__init__"), (zAC 6 0), (.stmts (zBC 6 0)), (zSC 6 0), 3, [((zo "__class__"), 101)], .none, .none, .none, (zsK "epochrooms.errors" 194), none, (.ref 112), (.ref 106), 0⟩
def C114 : Obj := zt [(zsK "word" 316)]
def C115 (P : Params) : Obj := ⟨(.type "dict"), none, (.dict #[⟨(zhK P "__module__"), (zsK "__module__" 302), (zsK "epochrooms.errors" 194)⟩, ⟨(zhK P "__firstlineno__"), (zsK "__firstlineno__" 306), (.int 22 305)⟩, ⟨(zhK P "__init__"), (zsK "__init__" 315), (.ref 113)⟩, ⟨(zhK P "__static_attributes__"), (zsK "__static_attributes__" 317), (.ref 114)⟩, ⟨(zhK P "__doc__"), (zsK "__doc__" 319), .none⟩] 3), #[]⟩
def C116 : Obj := ⟨(.type "type"), none, (.cls ⟨(zo "NoSetting"), [(.ref 31)], [(.ref 116), (.ref 31), (.type "ValueError"), (.type "Exception"), (.type "BaseException"), (.type "object")], 115, (zo "NoSetting"), true, [], [], false, none, false⟩), #[(some (.ref 98)), none, (some (zsK "NoSetting" 295)), (some (zsK "NoSetting" 303)), (some (.builtin "ValueError.__new__")), (some (.bool true))]⟩
def C117 : Obj := ⟨(.type "super"), none, (.fields #[(.ref 116), (.ref 116), (.ref 116)]), #[]⟩
def C118 : Obj := ⟨(.type "builtin_function_or_method"), none, (.fields #[(.builtin "object.__init_subclass__"), (.ref 116)]), #[]⟩
def C119 : Obj := zt [(.ref 31)]
def C120 : Obj := ⟨(.type "builtin_function_or_method"), none, (.fields #[(.builtin "type.__prepare__"), (.type "type")]), #[]⟩
def C121 (P : Params) : Obj := ⟨(.type "dict"), none, (.dict #[⟨(zhK P "__module__"), (zsK "__module__" 329), (zsK "epochrooms.errors" 194)⟩, ⟨(zhK P "__qualname__"), (zsK "__qualname__" 331), (zsK "NoMove" 330)⟩, ⟨(zhK P "__firstlineno__"), (zsK "__firstlineno__" 333), (.int 27 332)⟩, ⟨(zhK P "__init__"), (zsK "__init__" 342), (.ref 134)⟩, ⟨(zhK P "__static_attributes__"), (zsK "__static_attributes__" 344), (.ref 135)⟩, ⟨(zhK P "__classcell__"), (zsK "__classcell__" 345), (.ref 122)⟩] 6), #[]⟩
def C122 : Obj := ⟨(.type "cell"), none, (.cell (some (.ref 137))), #[]⟩
def C123 : Obj := zt []
def C124 : Obj := zn [(zi 29), (zi 4), (.ref 133)]
def C125 : Obj := zc [(zsK "NoMove" 324), (zsK "NoMove" 325), (zsK "/claim/cut.py" 326), (zi 27), (zi 0), (zi 0), (zi 0), (zi 0), (.ref 123), (.bool false), (zi 181), (.ref 124), .none, .none, .none, .none, (zi 327), (zi 27), (zsK "/claim/cut.py" 328)]
def C126 : Obj := ⟨(.type "frame"), none, .plain, #[(some (.ref 125)), (some (.ref 3)), (some (.ref 121)), none, (some (zsK "epochrooms.errors" 194)), none, (some (.ref 0))]⟩
def C127 : Obj := zt [(.ref 122)]
def C128 : Obj := zt [(zsK "__class__" 337)]
def C129 : Obj := zn []
def C130 : Obj := zt [(zsK "self" 338), (zsK "index" 339)]
def C131 : Obj := zt []
def C132 : Obj := ⟨.none, none, (.func ⟨(zo "__init__"), (zo "NoMove.__init__"), (zAC 7 0), (.stmts (zBC 7 0)), (zSC 7 0), 0, [], .none, .none, .none, .none, none, .none, .none, 0⟩), #[]⟩
def C133 : Obj := zc [(zsK "__init__" 334), (zsK "NoMove.__init__" 335), (zsK "/claim/cut.py" 336), (zi 29), (zi 2), (zi 0), (zi 0), (zi 3), (.ref 128), (.bool true), (zi 181), (.ref 129), .none, (.ref 130), (.ref 131), (.ref 132), (zi 340), (zi 29), (zsK "/claim/cut.py" 341)]
def C134 : Obj := zf ⟨(zo "__init__"), (zo "NoMove.__init__"), (zAC 7 0), (.stmts (zBC 7 0)), (zSC 7 0), 3, [((zo "__class__"), 122)], .none, .none, .none, (zsK "epochrooms.errors" 194), none, (.ref 133), (.ref 127), 0⟩
def C135 : Obj := zt [(zsK "index" 343)]
def C136 (P : Params) : Obj := ⟨(.type "dict"), none, (.dict #[⟨(zhK P "__module__"), (zsK "__module__" 329), (zsK "epochrooms.errors" 194)⟩, ⟨(zhK P "__firstlineno__"), (zsK "__firstlineno__" 333), (.int 27 332)⟩, ⟨(zhK P "__init__"), (zsK "__init__" 342), (.ref 134)⟩, ⟨(zhK P "__static_attributes__"), (zsK "__static_attributes__" 344), (.ref 135)⟩, ⟨(zhK P "__doc__"), (zsK "__doc__" 346), .none⟩] 3), #[]⟩
def C137 : Obj := ⟨(.type "type"), none, (.cls ⟨(zo "NoMove"), [(.ref 31)], [(.ref 137), (.ref 31), (.type "ValueError"), (.type "Exception"), (.type "BaseException"), (.type "object")], 136, (zo "NoMove"), true, [], [], false, none, false⟩), #[(some (.ref 119)), none, (some (zsK "NoMove" 322)), (some (zsK "NoMove" 330)), (some (.builtin "ValueError.__new__")), (some (.bool true))]⟩
def C138 : Obj := ⟨(.type "super"), none, (.fields #[(.ref 137), (.ref 137), (.ref 137)]), #[]⟩
def C139 : Obj := ⟨(.type "builtin_function_or_method"), none, (.fields #[(.builtin "object.__init_subclass__"), (.ref 137)]), #[]⟩
def C140 : Obj := zt [(.ref 31)]
def C141 : Obj := ⟨(.type "builtin_function_or_method"), none, (.fields #[(.builtin "type.__prepare__"), (.type "type")]), #[]⟩
def C142 (P : Params) : Obj := ⟨(.type "dict"), none, (.dict #[⟨(zhK P "__module__"), (zsK "__module__" 356), (zsK "epochrooms.errors" 194)⟩, ⟨(zhK P "__qualname__"), (zsK "__qualname__" 358), (zsK "IsSafe" 357)⟩, ⟨(zhK P "__firstlineno__"), (zsK "__firstlineno__" 360), (.int 32 359)⟩, ⟨(zhK P "__init__"), (zsK "__init__" 369), (.ref 155)⟩, ⟨(zhK P "__static_attributes__"), (zsK "__static_attributes__" 371), (.ref 156)⟩, ⟨(zhK P "__classcell__"), (zsK "__classcell__" 372), (.ref 143)⟩] 6), #[]⟩
def C143 : Obj := ⟨(.type "cell"), none, (.cell (some (.ref 158))), #[]⟩
def C144 : Obj := zt []
def C145 : Obj := zn [(zi 34), (zi 4), (.ref 154)]
def C146 : Obj := zc [(zsK "IsSafe" 351), (zsK "IsSafe" 352), (zsK "/claim/cut.py" 353), (zi 32), (zi 0), (zi 0), (zi 0), (zi 0), (.ref 144), (.bool false), (zi 181), (.ref 145), .none, .none, .none, .none, (zi 354), (zi 32), (zsK "/claim/cut.py" 355)]
def C147 : Obj := ⟨(.type "frame"), none, .plain, #[(some (.ref 146)), (some (.ref 3)), (some (.ref 142)), none, (some (zsK "epochrooms.errors" 194)), none, (some (.ref 0))]⟩
def C148 : Obj := zt [(.ref 143)]
def C149 : Obj := zt [(zsK "__class__" 364)]
def C150 : Obj := zn []
def C151 : Obj := zt [(zsK "self" 365), (zsK "value" 366)]
def C152 : Obj := zt []
def C153 : Obj := ⟨.none, none, (.func ⟨(zo "__init__"), (zo "IsSafe.__init__"), (zAC 8 0), (.stmts (zBC 8 0)), (zSC 8 0), 0, [], .none, .none, .none, .none, none, .none, .none, 0⟩), #[]⟩
def C154 : Obj := zc [(zsK "__init__" 361), (zsK "IsSafe.__init__" 362), (zsK "/claim/cut.py" 363), (zi 34), (zi 2), (zi 0), (zi 0), (zi 3), (.ref 149), (.bool true), (zi 181), (.ref 150), .none, (.ref 151), (.ref 152), (.ref 153), (zi 367), (zi 34), (zsK "/claim/cut.py" 368)]
def C155 : Obj := zf ⟨(zo "__init__"), (zo "IsSafe.__init__"), (zAC 8 0), (.stmts (zBC 8 0)), (zSC 8 0), 3, [((zo "__class__"), 143)], .none, .none, .none, (zsK "epochrooms.errors" 194), none, (.ref 154), (.ref 148), 0⟩
def C156 : Obj := zt [(zsK "value" 370)]
def C157 (P : Params) : Obj := ⟨(.type "dict"), none, (.dict #[⟨(zhK P "__module__"), (zsK "__module__" 356), (zsK "epochrooms.errors" 194)⟩, ⟨(zhK P "__firstlineno__"), (zsK "__firstlineno__" 360), (.int 32 359)⟩, ⟨(zhK P "__init__"), (zsK "__init__" 369), (.ref 155)⟩, ⟨(zhK P "__static_attributes__"), (zsK "__static_attributes__" 371), (.ref 156)⟩, ⟨(zhK P "__doc__"), (zsK "__doc__" 373), .none⟩] 3), #[]⟩
def C158 : Obj := ⟨(.type "type"), none, (.cls ⟨(zo "IsSafe"), [(.ref 31)], [(.ref 158), (.ref 31), (.type "ValueError"), (.type "Exception"), (.type "BaseException"), (.type "object")], 157, (zo "IsSafe"), true, [], [], false, none, false⟩), #[(some (.ref 140)), none, (some (zsK "IsSafe" 349)), (some (zsK "IsSafe" 357)), (some (.builtin "ValueError.__new__")), (some (.bool true))]⟩
def C159 : Obj := ⟨(.type "super"), none, (.fields #[(.ref 158), (.ref 158), (.ref 158)]), #[]⟩
def C160 : Obj := ⟨(.type "builtin_function_or_method"), none, (.fields #[(.builtin "object.__init_subclass__"), (.ref 158)]), #[]⟩
def C161 : Obj := zt []
def C162 : Obj := zn []
def C163 : Obj := zt [(zsK "value" 381), (zsK "low" 382), (zsK "high" 383)]
def C164 : Obj := zt []
def C165 : Obj := ⟨.none, none, (.func ⟨(zo "is_number"), (zo "is_number"), (zA 10), (.stmts (zB 10)), (zS 10), 0, [], .none, .none, .none, .none, none, .none, .none, 0⟩), #[]⟩
def C166 : Obj := zc [(zsK "is_number" 378), (zsK "is_number" 379), (zsK "/claim/cut.py" 380), (zi 38), (zi 3), (zi 0), (zi 0), (zi 3), (.ref 161), (.bool true), (zi 181), (.ref 162), .none, (.ref 163), (.ref 164), (.ref 165), (zi 384), (zi 38), (zsK "/claim/cut.py" 385)]
def C167 : Obj := zf ⟨(zo "is_number"), (zo "is_number"), (zA 10), (.stmts (zB 10)), (zS 10), 3, [], .none, .none, .none, (zsK "epochrooms.numbers" 376), none, (.ref 166), .none, 0⟩
def C168 : Obj := zt []
def C169 : Obj := zn []
def C170 : Obj := zt [(zsK "value" 390)]
def C171 : Obj := zt []
def C172 : Obj := ⟨.none, none, (.func ⟨(zo "is_whole"), (zo "is_whole"), (zA 11), (.stmts (zB 11)), (zS 11), 0, [], .none, .none, .none, .none, none, .none, .none, 0⟩), #[]⟩
def C173 : Obj := zc [(zsK "is_whole" 387), (zsK "is_whole" 388), (zsK "/claim/cut.py" 389), (zi 40), (zi 1), (zi 0), (zi 0), (zi 3), (.ref 168), (.bool true), (zi 181), (.ref 169), .none, (.ref 170), (.ref 171), (.ref 172), (zi 391), (zi 40), (zsK "/claim/cut.py" 392)]
def C174 : Obj := zf ⟨(zo "is_whole"), (zo "is_whole"), (zA 11), (.stmts (zB 11)), (zS 11), 3, [], .none, .none, .none, (zsK "epochrooms.numbers" 376), none, (.ref 173), .none, 0⟩
def C175 (P : Params) : Obj := ⟨(.type "dict"), none, (.dict #[⟨(zhK P "check"), (zsK "check" 396), (.ref 176)⟩, ⟨(zhK P "fetch"), (zsK "fetch" 397), (.ref 177)⟩, ⟨(zhK P "mark"), (zsK "mark" 400), (.ref 178)⟩, ⟨(zhK P "test"), (zsK "test" 403), (.ref 179)⟩, ⟨(zhK P "step"), (zsK "step" 406), (.ref 180)⟩, ⟨(zhK P "told"), (zsK "told" 410), (.ref 181)⟩, ⟨(zhK P "look"), (zsK "look" 411), (.ref 182)⟩, ⟨(zhK P "chain"), (zsK "chain" 414), (.ref 183)⟩, ⟨(zhK P "still"), (zsK "still" 418), (.ref 184)⟩, ⟨(zhK P "read"), (zsK "read" 421), (.ref 185)⟩, ⟨(zhK P "sleep"), (zsK "sleep" 424), (.ref 186)⟩] 11), #[]⟩
def C176 : Obj := zt [(.bool false), (.bool true)]
def C177 : Obj := zt [(zsK "ahead" 398), (zsK "behind" 399)]
def C178 : Obj := zt [(zsK "own" 401), (zsK "fresh" 402)]
def C179 : Obj := zt [(zsK "last" 404), (zsK "equal" 405)]
def C180 : Obj := zt [(zsK "add" 407), (zsK "set" 408), (zsK "still" 409)]
def C181 : Obj := zt [(.bool false), (.bool true)]
def C182 : Obj := zt [(zsK "ahead" 412), (zsK "behind" 413)]
def C183 : Obj := zt [(zsK "next" 415), (zsK "both" 416), (zsK "none" 417)]
def C184 : Obj := zt [(zsK "anywhere" 419), (zsK "outside" 420)]
def C185 : Obj := zt [(zsK "ahead" 422), (zsK "behind" 423)]
def C186 : Obj := zt [(zsK "inside" 425), (zsK "late" 426), (zsK "outside" 427), (zsK "none" 428)]
def C187 : Obj := zt []
def C188 : Obj := zn []
def C189 : Obj := zt [(zsK "word" 450), (zsK "own" 451)]
def C190 : Obj := zt []
def C191 : Obj := ⟨.none, none, (.func ⟨(zo "values_at"), (zo "values_at"), (zA 17), (.stmts (zB 17)), (zS 17), 0, [], .none, .none, .none, .none, none, .none, .none, 0⟩), #[]⟩
def C192 : Obj := zc [(zsK "values_at" 447), (zsK "values_at" 448), (zsK "/claim/cut.py" 449), (zi 47), (zi 2), (zi 0), (zi 0), (zi 3), (.ref 187), (.bool true), (zi 181), (.ref 188), .none, (.ref 189), (.ref 190), (.ref 191), (zi 452), (zi 47), (zsK "/claim/cut.py" 453)]
def C193 : Obj := zf ⟨(zo "values_at"), (zo "values_at"), (zA 17), (.stmts (zB 17)), (zS 17), 3, [], .none, .none, .none, (zsK "epochrooms.books" 394), none, (.ref 192), .none, 0⟩
def C194 : Obj := zt []
def C195 : Obj := zn []
def C196 : Obj := zt [(zsK "value" 458), (zsK "one" 459)]
def C197 : Obj := zt []
def C198 : Obj := ⟨.none, none, (.func ⟨(zo "is_same"), (zo "is_same"), (zA 18), (.stmts (zB 18)), (zS 18), 0, [], .none, .none, .none, .none, none, .none, .none, 0⟩), #[]⟩
def C199 : Obj := zc [(zsK "is_same" 455), (zsK "is_same" 456), (zsK "/claim/cut.py" 457), (zi 53), (zi 2), (zi 0), (zi 0), (zi 3), (.ref 194), (.bool true), (zi 181), (.ref 195), .none, (.ref 196), (.ref 197), (.ref 198), (zi 460), (zi 53), (zsK "/claim/cut.py" 461)]
def C200 : Obj := zf ⟨(zo "is_same"), (zo "is_same"), (zA 18), (.stmts (zB 18)), (zS 18), 3, [], .none, .none, .none, (zsK "epochrooms.books" 394), none, (.ref 199), .none, 0⟩
def C201 : Obj := zt []
def C202 : Obj := zn []
def C203 : Obj := ⟨.none, none, (.func ⟨(zo "is_value"), (zo "is_value"), (zA 19), (.stmts (zB 19)), (zS 19), 0, [], .none, .none, .none, .none, none, .none, .none, 0⟩), #[]⟩
def C204 : Obj := zc [(zsK "is_value" 463), (zsK "is_value" 464), (zsK "/claim/cut.py" 465), (zi 59), (zi 2), (zi 0), (zi 0), (zi 3), (.ref 201), (.bool true), (zi 181), (.ref 202), .none, .none, .none, (.ref 203), (zi 466), (zi 59), (zsK "/claim/cut.py" 467)]
def C205 : Obj := zf ⟨(zo "is_value"), (zo "is_value"), (zA 19), (.stmts (zB 19)), (zS 19), 3, [], .none, .none, .none, (zsK "epochrooms.books" 394), none, (.ref 204), .none, 0⟩
def C206 : Obj := zt []
def C207 : Obj := zn []
def C208 : Obj := zt [(zsK "word" 472), (zsK "value" 473), (zsK "ahead" 474), (zsK "one" 475)]
def C209 : Obj := zt []
def C210 : Obj := ⟨.none, none, (.func ⟨(zo "care"), (zo "care"), (zA 20), (.stmts (zB 20)), (zS 20), 0, [], .none, .none, .none, .none, none, .none, .none, 0⟩), #[]⟩
def C211 : Obj := zc [(zsK "care" 469), (zsK "care" 470), (zsK "/claim/cut.py" 471), (zi 61), (zi 2), (zi 0), (zi 0), (zi 3), (.ref 206), (.bool true), (zi 181), (.ref 207), .none, (.ref 208), (.ref 209), (.ref 210), (zi 476), (zi 61), (zsK "/claim/cut.py" 477)]
def C212 : Obj := zf ⟨(zo "care"), (zo "care"), (zA 20), (.stmts (zB 20)), (zS 20), 3, [], .none, .none, .none, (zsK "epochrooms.books" 394), none, (.ref 211), .none, 0⟩
def C213 : Obj := zt []
def C214 : Obj := ⟨(.type "builtin_function_or_method"), none, (.fields #[(.builtin "type.__prepare__"), (.type "type")]), #[]⟩
def C215 (P : Params) : Obj := ⟨(.type "dict"), none, (.dict #[⟨(zhK P "__module__"), (zsK "__module__" 486), (zsK "epochrooms.books" 394)⟩, ⟨(zhK P "__qualname__"), (zsK "__qualname__" 488), (zsK "Book" 487)⟩, ⟨(zhK P "__firstlineno__"), (zsK "__firstlineno__" 490), (.int 70 489)⟩, ⟨(zhK P "WORDS"), (zsK "WORDS" 491), (.ref 220)⟩, ⟨(zhK P "WAY"), (zsK "WAY" 493), (zsK "" 492)⟩, ⟨(zhK P "__init__"), (zsK "__init__" 502), (.ref 227)⟩, ⟨(zhK P "first_wrong"), (zsK "first_wrong" 511), (.ref 234)⟩, ⟨(zhK P "way"), (zsK "way" 519), (.ref 242)⟩, ⟨(zhK P "look_at_word"), (zsK "look_at_word" 527), (.ref 249)⟩, ⟨(zhK P "switches"), (zsK "switches" 533), (.ref 254)⟩, ⟨(zhK P "listed"), (zsK "listed" 540), (.ref 261)⟩, ⟨(zhK P "change"), (zsK "change" 548), (.ref 268)⟩, ⟨(zhK P "__getitem__"), (zsK "__getitem__" 556), (.ref 275)⟩, ⟨(zhK P "__setitem__"), (zsK "__setitem__" 566), (.ref 282)⟩, ⟨(zhK P "__iter__"), (zsK "__iter__" 573), (.ref 289)⟩, ⟨(zhK P "__len__"), (zsK "__len__" 580), (.ref 296)⟩, ⟨(zhK P "__eq__"), (zsK "__eq__" 588), (.ref 303)⟩, ⟨(zhK P "__le__"), (zsK "__le__" 597), (.ref 310)⟩, ⟨(zhK P "__static_attributes__"), (zsK "__static_attributes__" 600), (.ref 311)⟩] 19), #[]⟩
def C216 : Obj := zt []
def C217 : Obj := zn [(zi 74), (zi 4), (.ref 226), (zi 81), (zi 4), (.ref 233), (zi 88), (zi 4), (.ref 240), (zi 91), (zi 4), (.ref 248), (zi 95), (zi 4), (.ref 253), (zi 98), (zi 4), (.ref 260), (zi 101), (zi 4), (.ref 267), (zi 104), (zi 4), (.ref 274), (zi 108), (zi 4), (.ref 281), (zi 115), (zi 4), (.ref 288), (zi 118), (zi 4), (.ref 295), (zi 121), (zi 4), (.ref 302), (zi 124), (zi 4), (.ref 309)]
def C218 : Obj := zc [(zsK "Book" 481), (zsK "Book" 482), (zsK "/claim/cut.py" 483), (zi 70), (zi 0), (zi 0), (zi 0), (zi 0), (.ref 216), (.bool false), (zi 181), (.ref 217), .none, .none, .none, .none, (zi 484), (zi 70), (zsK "/claim/cut.py" 485)]
def C219 : Obj := ⟨(.type "frame"), none, .plain, #[(some (.ref 218)), (some (.ref 3)), (some (.ref 215)), none, (some (zsK "epochrooms.books" 394)), none, (some (.ref 0))]⟩
def C220 : Obj := zt []
def C221 : Obj := zt []
def C222 : Obj := zn []
def C223 : Obj := zt [(zsK "self" 497), (zsK "own" 498), (zsK "wrong" 499)]
def C224 : Obj := zt []
def C225 : Obj := ⟨.none, none, (.func ⟨(zo "__init__"), (zo "Book.__init__"), (zAC 21 2), (.stmts (zBC 21 2)), (zSC 21 2), 0, [], .none, .none, .none, .none, none, .none, .none, 0⟩), #[]⟩
def C226 : Obj := zc [(zsK "__init__" 494), (zsK "Book.__init__" 495), (zsK "/claim/cut.py" 496), (zi 74), (zi 2), (zi 0), (zi 0), (zi 3), (.ref 221), (.bool true), (zi 181), (.ref 222), .none, (.ref 223), (.ref 224), (.ref 225), (zi 500), (zi 74), (zsK "/claim/cut.py" 501)]
def C227 : Obj := zm "__init__" "Book.__init__" 21 2 21 2 21 2 "epochrooms.books" 394 226
def C228 : Obj := zt []
def C229 : Obj := zn []
def C230 : Obj := zt [(zsK "self" 506), (zsK "own" 507), (zsK "word" 508)]
def C231 : Obj := zt []
def C232 : Obj := ⟨.none, none, (.func ⟨(zo "first_wrong"), (zo "Book.first_wrong"), (zAC 21 3), (.stmts (zBC 21 3)), (zSC 21 3), 0, [], .none, .none, .none, .none, none, .none, .none, 0⟩), #[]⟩
def C233 : Obj := zc [(zsK "first_wrong" 503), (zsK "Book.first_wrong" 504), (zsK "/claim/cut.py" 505), (zi 81), (zi 2), (zi 0), (zi 0), (zi 3), (.ref 228), (.bool true), (zi 181), (.ref 229), .none, (.ref 230), (.ref 231), (.ref 232), (zi 509), (zi 81), (zsK "/claim/cut.py" 510)]
def C234 : Obj := zm "first_wrong" "Book.first_wrong" 21 3 21 3 21 3 "epochrooms.books" 394 233
def C235 : Obj := zt []
def C236 : Obj := zn []
def C237 : Obj := zt [(zsK "self" 515)]
def C238 : Obj := zt []
def C239 : Obj := ⟨.none, none, (.func ⟨(zo "way"), (zo "Book.way"), (zAC 21 4), (.stmts (zBC 21 4)), (zSC 51 3), 0, [], .none, .none, .none, .none, none, .none, .none, 0⟩), #[]⟩
def C240 : Obj := zc [(zsK "way" 512), (zsK "Book.way" 513), (zsK "/claim/cut.py" 514), (zi 87), (zi 1), (zi 0), (zi 0), (zi 3), (.ref 235), (.bool true), (zi 181), (.ref 236), .none, (.ref 237), (.ref 238), (.ref 239), (zi 516), (zi 87), (zsK "/claim/cut.py" 517)]
def C241 : Obj := zm "way" "Book.way" 21 4 21 4 51 3 "epochrooms.books" 394 240
def C242 : Obj := ⟨(.type "property"), none, (.fields #[(.ref 241), .none, .none, .none, (zsK "way" 519), (.bool false)]), #[]⟩
def C243 : Obj := zt []
def C244 : Obj := zn []
def C245 : Obj := zt [(zsK "self" 523), (zsK "word" 524)]
def C246 : Obj := zt []
def C247 : Obj := ⟨.none, none, (.func ⟨(zo "look_at_word"), (zo "Book.look_at_word"), (zAC 21 5), (.stmts (zBC 21 5)), (zSC 21 5), 0, [], .none, .none, .none, .none, none, .none, .none, 0⟩), #[]⟩
def C248 : Obj := zc [(zsK "look_at_word" 520), (zsK "Book.look_at_word" 521), (zsK "/claim/cut.py" 522), (zi 91), (zi 2), (zi 0), (zi 0), (zi 3), (.ref 243), (.bool true), (zi 181), (.ref 244), .none, (.ref 245), (.ref 246), (.ref 247), (zi 525), (zi 91), (zsK "/claim/cut.py" 526)]
def C249 : Obj := zm "look_at_word" "Book.look_at_word" 21 5 21 5 21 5 "epochrooms.books" 394 248
def C250 : Obj := zt []
def C251 : Obj := zn []
def C252 : Obj := ⟨.none, none, (.func ⟨(zo "switches"), (zo "Book.switches"), (zAC 21 6), (.stmts (zBC 21 6)), (zSC 21 6), 0, [], .none, .none, .none, .none, none, .none, .none, 0⟩), #[]⟩
def C253 : Obj := zc [(zsK "switches" 528), (zsK "Book.switches" 529), (zsK "/claim/cut.py" 530), (zi 95), (zi 1), (zi 0), (zi 0), (zi 3), (.ref 250), (.bool true), (zi 181), (.ref 251), .none, .none, .none, (.ref 252), (zi 531), (zi 95), (zsK "/claim/cut.py" 532)]
def C254 : Obj := zm "switches" "Book.switches" 21 6 21 6 21 6 "epochrooms.books" 394 253
def C255 : Obj := zt []
def C256 : Obj := zn []
def C257 : Obj := zt [(zsK "self" 537)]
def C258 : Obj := zt []
def C259 : Obj := ⟨.none, none, (.func ⟨(zo "listed"), (zo "Book.listed"), (zAC 21 7), (.stmts (zBC 21 7)), (zSC 21 7), 0, [], .none, .none, .none, .none, none, .none, .none, 0⟩), #[]⟩
def C260 : Obj := zc [(zsK "listed" 534), (zsK "Book.listed" 535), (zsK "/claim/cut.py" 536), (zi 98), (zi 1), (zi 0), (zi 0), (zi 3), (.ref 255), (.bool true), (zi 181), (.ref 256), .none, (.ref 257), (.ref 258), (.ref 259), (zi 538), (zi 98), (zsK "/claim/cut.py" 539)]
def C261 : Obj := zm "listed" "Book.listed" 21 7 21 7 21 7 "epochrooms.books" 394 260
def C262 : Obj := zt []
def C263 : Obj := zn []
def C264 : Obj := zt [(zsK "self" 544), (zsK "values" 545)]
def C265 : Obj := zt []
def C266 : Obj := ⟨.none, none, (.func ⟨(zo "change"), (zo "Book.change"), (zAC 21 8), (.stmts (zBC 21 8)), (zSC 21 8), 0, [], .none, .none, .none, .none, none, .none, .none, 0⟩), #[]⟩
def C267 : Obj := zc [(zsK "change" 541), (zsK "Book.change" 542), (zsK "/claim/cut.py" 543), (zi 101), (zi 1), (zi 0), (zi 0), (zi 11), (.ref 262), (.bool true), (zi 181), (.ref 263), .none, (.ref 264), (.ref 265), (.ref 266), (zi 546), (zi 101), (zsK "/claim/cut.py" 547)]
def C268 : Obj := zm "change" "Book.change" 21 8 21 8 21 8 "epochrooms.books" 394 267
def C269 : Obj := zt []
def C270 : Obj := zn []
def C271 : Obj := zt [(zsK "self" 552), (zsK "word" 553)]
def C272 : Obj := zt []
def C273 : Obj := ⟨.none, none, (.func ⟨(zo "__getitem__"), (zo "Book.__getitem__"), (zAC 21 9), (.stmts (zBC 21 9)), (zSC 21 9), 0, [], .none, .none, .none, .none, none, .none, .none, 0⟩), #[]⟩
def C274 : Obj := zc [(zsK "__getitem__" 549), (zsK "Book.__getitem__" 550), (zsK "/claim/cut.py" 551), (zi 104), (zi 2), (zi 0), (zi 0), (zi 3), (.ref 269), (.bool true), (zi 181), (.ref 270), .none, (.ref 271), (.ref 272), (.ref 273), (zi 554), (zi 104), (zsK "/claim/cut.py" 555)]
def C275 : Obj := zm "__getitem__" "Book.__getitem__" 21 9 21 9 21 9 "epochrooms.books" 394 274
def C276 : Obj := zt []
def C277 : Obj := zn []
def C278 : Obj := zt [(zsK "self" 560), (zsK "word" 561), (zsK "value" 562), (zsK "own" 563)]
def C279 : Obj := zt []
def C280 : Obj := ⟨.none, none, (.func ⟨(zo "__setitem__"), (zo "Book.__setitem__"), (zAC 21 10), (.stmts (zBC 21 10)), (zSC 21 10), 0, [], .none, .none, .none, .none, none, .none, .none, 0⟩), #[]⟩
def C281 : Obj := zc [(zsK "__setitem__" 557), (zsK "Book.__setitem__" 558), (zsK "/claim/cut.py" 559), (zi 108), (zi 3), (zi 0), (zi 0), (zi 3), (.ref 276), (.bool true), (zi 181), (.ref 277), .none, (.ref 278), (.ref 279), (.ref 280), (zi 564), (zi 108), (zsK "/claim/cut.py" 565)]
def C282 : Obj := zm "__setitem__" "Book.__setitem__" 21 10 21 10 21 10 "epochrooms.books" 394 281
def C283 : Obj := zt []
def C284 : Obj := zn []
def C285 : Obj := zt [(zsK "self" 570)]
def C286 : Obj := zt []
def C287 : Obj := ⟨.none, none, (.func ⟨(zo "__iter__"), (zo "Book.__iter__"), (zAC 21 11), (.stmts (zBC 21 11)), (zSC 21 11), 0, [], .none, .none, .none, .none, none, .none, .none, 0⟩), #[]⟩
def C288 : Obj := zc [(zsK "__iter__" 567), (zsK "Book.__iter__" 568), (zsK "/claim/cut.py" 569), (zi 115), (zi 1), (zi 0), (zi 0), (zi 3), (.ref 283), (.bool true), (zi 181), (.ref 284), .none, (.ref 285), (.ref 286), (.ref 287), (zi 571), (zi 115), (zsK "/claim/cut.py" 572)]
def C289 : Obj := zm "__iter__" "Book.__iter__" 21 11 21 11 21 11 "epochrooms.books" 394 288
def C290 : Obj := zt []
def C291 : Obj := zn []
def C292 : Obj := zt [(zsK "self" 577)]
def C293 : Obj := zt []
def C294 : Obj := ⟨.none, none, (.func ⟨(zo "__len__"), (zo "Book.__len__"), (zAC 21 12), (.stmts (zBC 21 12)), (zSC 21 12), 0, [], .none, .none, .none, .none, none, .none, .none, 0⟩), #[]⟩
def C295 : Obj := zc [(zsK "__len__" 574), (zsK "Book.__len__" 575), (zsK "/claim/cut.py" 576), (zi 118), (zi 1), (zi 0), (zi 0), (zi 3), (.ref 290), (.bool true), (zi 181), (.ref 291), .none, (.ref 292), (.ref 293), (.ref 294), (zi 578), (zi 118), (zsK "/claim/cut.py" 579)]
def C296 : Obj := zm "__len__" "Book.__len__" 21 12 21 12 21 12 "epochrooms.books" 394 295
def C297 : Obj := zt []
def C298 : Obj := zn []
def C299 : Obj := zt [(zsK "self" 584), (zsK "other" 585)]
def C300 : Obj := zt []
def C301 : Obj := ⟨.none, none, (.func ⟨(zo "__eq__"), (zo "Book.__eq__"), (zAC 21 13), (.stmts (zBC 21 13)), (zSC 21 13), 0, [], .none, .none, .none, .none, none, .none, .none, 0⟩), #[]⟩
def C302 : Obj := zc [(zsK "__eq__" 581), (zsK "Book.__eq__" 582), (zsK "/claim/cut.py" 583), (zi 121), (zi 2), (zi 0), (zi 0), (zi 3), (.ref 297), (.bool true), (zi 181), (.ref 298), .none, (.ref 299), (.ref 300), (.ref 301), (zi 586), (zi 121), (zsK "/claim/cut.py" 587)]
def C303 : Obj := zm "__eq__" "Book.__eq__" 21 13 21 13 21 13 "epochrooms.books" 394 302
def C304 : Obj := zt []
def C305 : Obj := zn []
def C306 : Obj := zt [(zsK "self" 592), (zsK "other" 593), (zsK "word" 594)]
def C307 : Obj := zt []
def C308 : Obj := ⟨.none, none, (.func ⟨(zo "__le__"), (zo "Book.__le__"), (zAC 21 14), (.stmts (zBC 21 14)), (zSC 21 14), 0, [], .none, .none, .none, .none, none, .none, .none, 0⟩), #[]⟩
def C309 : Obj := zc [(zsK "__le__" 589), (zsK "Book.__le__" 590), (zsK "/claim/cut.py" 591), (zi 124), (zi 2), (zi 0), (zi 0), (zi 3), (.ref 304), (.bool true), (zi 181), (.ref 305), .none, (.ref 306), (.ref 307), (.ref 308), (zi 595), (zi 124), (zsK "/claim/cut.py" 596)]
def C310 : Obj := zm "__le__" "Book.__le__" 21 14 21 14 21 14 "epochrooms.books" 394 309
def C311 : Obj := zt [(zsK "order" 598), (zsK "own" 599)]
def C312 (P : Params) : Obj := ⟨(.type "dict"), none, (.dict #[⟨(zhK P "__module__"), (zsK "__module__" 486), (zsK "epochrooms.books" 394)⟩, ⟨(zhK P "__firstlineno__"), (zsK "__firstlineno__" 490), (.int 70 489)⟩, ⟨(zhK P "WORDS"), (zsK "WORDS" 491), (.ref 220)⟩, ⟨(zhK P "WAY"), (zsK "WAY" 493), (zsK "" 492)⟩, ⟨(zhK P "__init__"), (zsK "__init__" 502), (.ref 227)⟩, ⟨(zhK P "first_wrong"), (zsK "first_wrong" 511), (.ref 234)⟩, ⟨(zhK P "way"), (zsK "way" 519), (.ref 242)⟩, ⟨(zhK P "look_at_word"), (zsK "look_at_word" 527), (.ref 249)⟩, ⟨(zhK P "switches"), (zsK "switches" 533), (.ref 254)⟩, ⟨(zhK P "listed"), (zsK "listed" 540), (.ref 261)⟩, ⟨(zhK P "change"), (zsK "change" 548), (.ref 268)⟩, ⟨(zhK P "__getitem__"), (zsK "__getitem__" 556), (.ref 275)⟩, ⟨(zhK P "__setitem__"), (zsK "__setitem__" 566), (.ref 282)⟩, ⟨(zhK P "__iter__"), (zsK "__iter__" 573), (.ref 289)⟩, ⟨(zhK P "__len__"), (zsK "__len__" 580), (.ref 296)⟩, ⟨(zhK P "__eq__"), (zsK "__eq__" 588), (.ref 303)⟩, ⟨(zhK P "__le__"), (zsK "__le__" 597), (.ref 310)⟩, ⟨(zhK P "__static_attributes__"), (zsK "__static_attributes__" 600), (.ref 311)⟩, ⟨(zhK P "__dict__"), (zsK "__dict__" 602), (.ref 314)⟩, ⟨(zhK P "__weakref__"), (zsK "__weakref__" 604), (.ref 315)⟩, ⟨(zhK P "__doc__"), (zsK "__doc__" 605), .none⟩, ⟨(zhK P "__hash__"), (zsK "__hash__" 606), .none⟩] 5), #[]⟩
def C313 : Obj := ⟨(.type "type"), none, (.cls ⟨(zo "Book"), [(.type "object")], [(.ref 313), (.type "object")], 312, (zo "Book"), true, [], [], false, none, false⟩), #[none, none, (some (zsK "Book" 479)), (some (zsK "Book" 487)), (some (.builtin "object.__new__")), (some (.bool true))]⟩
def C314 : Obj := ⟨(.type "getset_descriptor"), none, (.fields #[(zsK "__dict__" 601), (.ref 313), (.builtin "function.__dict__"), (.builtin "function.__dict__#set")]), #[]⟩
def C315 : Obj := ⟨(.type "getset_descriptor"), none, (.fields #[(zsK "__weakref__" 603), (.ref 313), (.builtin "ExceptionGroup.__weakref__"), .none]), #[]⟩
def C316 : Obj := ⟨(.type "super"), none, (.fields #[(.ref 313), (.ref 313), (.ref 313)]), #[]⟩
def C317 : Obj := ⟨(.type "builtin_function_or_method"), none, (.fields #[(.builtin "object.__init_subclass__"), (.ref 313)]), #[]⟩
def D3 (P : Params) : Obj := ⟨(.type "dict"), none, (.dict #[⟨(zhK P "__name__"), (zsK "__name__" 165), (zsK "epochrooms.books" 394)⟩, ⟨(zhK P "__doc__"), (zsK "__doc__" 166), .none⟩, ⟨(zhK P "__package__"), (zsK "__package__" 167), .none⟩, ⟨(zhK P "__loader__"), (zsK "__loader__" 168), (.builtin "__main__.__loader__#opaque")⟩, ⟨(zhK P "__spec__"), (zsK "__spec__" 169), .none⟩, ⟨(zhK P "__annotations__"), (zsK "__annotations__" 170), (.ref 6)⟩, ⟨(zhK P "__builtins__"), (zsK "__builtins__" 171), (.ref 4)⟩, ⟨(zhK P "__file__"), (zsK "__file__" 173), (zsK "/claim/cut.py" 172)⟩, ⟨(zhK P "__cached__"), (zsK "__cached__" 174), .none⟩, ⟨(zhK P "_wall"), (zsK "_wall" 193), (.ref 21)⟩, ⟨(zhK P "RoomsError"), (zsK "RoomsError" 213), (.ref 31)⟩, ⟨(zhK P "NoSwitch"), (zsK "NoSwitch" 240), (.ref 53)⟩, ⟨(zhK P "NoValue"), (zsK "NoValue" 267), (.ref 74)⟩, ⟨(zhK P "NoBook"), (zsK "NoBook" 294), (.ref 95)⟩, ⟨(zhK P "NoSetting"), (zsK "NoSetting" 321), (.ref 116)⟩, ⟨(zhK P "NoMove"), (zsK "NoMove" 348), (.ref 137)⟩, ⟨(zhK P "IsSafe"), (zsK "IsSafe" 375), (.ref 158)⟩, ⟨(zhK P "is_number"), (zsK "is_number" 386), (.ref 167)⟩, ⟨(zhK P "is_whole"), (zsK "is_whole" 393), (.ref 174)⟩, ⟨(zhK P "ORDERS"), (zsK "ORDERS" 440), (.ref 175)⟩, ⟨(zhK P "LEAST_EPOCHS"), (zsK "LEAST_EPOCHS" 442), (.int 2 441)⟩, ⟨(zhK P "MOST_EPOCHS"), (zsK "MOST_EPOCHS" 444), (.int 6 443)⟩, ⟨(zhK P "MOST_COUNTS"), (zsK "MOST_COUNTS" 446), (.int 4 445)⟩, ⟨(zhK P "values_at"), (zsK "values_at" 454), (.ref 193)⟩, ⟨(zhK P "is_same"), (zsK "is_same" 462), (.ref 200)⟩, ⟨(zhK P "is_value"), (zsK "is_value" 468), (.ref 205)⟩, ⟨(zhK P "care"), (zsK "care" 478), (.ref 212)⟩, ⟨(zhK P "Book"), (zsK "Book" 608), (.ref 313)⟩, ⟨(zhK P "EpochBook"), (zsK "EpochBook" 852), (.ref 501)⟩] 29), #[]⟩
def D12 : Obj := zn [(zi 1), (zi 0), (.ref 20), (zi 5), (zi 0), (.ref 27), (zi 7), (zi 0), (.ref 41), (zi 12), (zi 0), (.ref 62), (zi 17), (zi 0), (.ref 83), (zi 22), (zi 0), (.ref 104), (zi 27), (zi 0), (.ref 125), (zi 32), (zi 0), (.ref 146), (zi 38), (zi 0), (.ref 166), (zi 40), (zi 0), (.ref 173), (zi 47), (zi 0), (.ref 192), (zi 53), (zi 0), (.ref 199), (zi 59), (zi 0), (.ref 204), (zi 61), (zi 0), (.ref 211), (zi 70), (zi 0), (.ref 218), (zi 135), (zi 0), (.ref 324)]
def D313 : Obj := ⟨(.type "type"), none, (.cls ⟨(zo "Book"), [(.type "object")], [(.ref 313), (.type "object")], 312, (zo "Book"), true, [], [(.ref 501)], false, none, false⟩), #[none, none, (some (zsK "Book" 479)), (some (zsK "Book" 487)), (some (.builtin "object.__new__")), (some (.bool true))]⟩
def D318 : Obj := zt [(.ref 313)]
def D319 : Obj := ⟨(.type "builtin_function_or_method"), none, (.fields #[(.builtin "type.__prepare__"), (.type "type")]), #[]⟩
def D320 (P : Params) : Obj := ⟨(.type "dict"), none, (.dict #[⟨(zhK P "__module__"), (zsK "__module__" 616), (zsK "epochrooms.books" 394)⟩, ⟨(zhK P "__qualname__"), (zsK "__qualname__" 618), (zsK "EpochBook" 617)⟩, ⟨(zhK P "__firstlineno__"), (zsK "__firstlineno__" 620), (.int 135 619)⟩, ⟨(zhK P "WORDS"), (zsK "WORDS" 629), (.ref 326)⟩, ⟨(zhK P "WAY"), (zsK "WAY" 631), (zsK "epochs" 630)⟩, ⟨(zhK P "__init__"), (zsK "__init__" 657), (.ref 335)⟩, ⟨(zhK P "careful"), (zsK "careful" 676), (.ref 344)⟩, ⟨(zhK P "hasty"), (zsK "hasty" 695), (.ref 354)⟩, ⟨(zhK P "twin"), (zsK "twin" 703), (.ref 362)⟩, ⟨(zhK P "epochs"), (zsK "epochs" 711), (.ref 379)⟩, ⟨(zhK P "behind"), (zsK "behind" 729), (.ref 396)⟩, ⟨(zhK P "check"), (zsK "check" 747), (.ref 413)⟩, ⟨(zhK P "fetch"), (zsK "fetch" 765), (.ref 430)⟩, ⟨(zhK P "mark"), (zsK "mark" 783), (.ref 447)⟩, ⟨(zhK P "test"), (zsK "test" 801), (.ref 464)⟩, ⟨(zhK P "step"), (zsK "step" 819), (.ref 481)⟩, ⟨(zhK P "told"), (zsK "told" 837), (.ref 498)⟩, ⟨(zhK P "__static_attributes__"), (zsK "__static_attributes__" 848), (.ref 499)⟩, ⟨(zhK P "__classcell__"), (zsK "__classcell__" 849), (.ref 321)⟩] 19), #[]⟩
def D321 : Obj := ⟨(.type "cell"), none, (.cell (some (.ref 501))), #[]⟩
def D322 : Obj := zt []
def D323 : Obj := zn [(zi 139), (zi 4), (.ref 334), (zi 143), (zi 4), (.ref 341), (zi 147), (zi 4), (.ref 351), (zi 150), (zi 4), (.ref 361), (zi 155), (zi 4), (.ref 368), (zi 159), (zi 4), (.ref 377), (zi 163), (zi 4), (.ref 385), (zi 167), (zi 4), (.ref 394), (zi 171), (zi 4), (.ref 402), (zi 175), (zi 4), (.ref 411), (zi 179), (zi 4), (.ref 419), (zi 183), (zi 4), (.ref 428), (zi 187), (zi 4), (.ref 436), (zi 191), (zi 4), (.ref 445), (zi 195), (zi 4), (.ref 453), (zi 199), (zi 4), (.ref 462), (zi 203), (zi 4), (.ref 470), (zi 207), (zi 4), (.ref 479), (zi 211), (zi 4), (.ref 487), (zi 215), (zi 4), (.ref 496)]
def D324 : Obj := zc [(zsK "EpochBook" 611), (zsK "EpochBook" 612), (zsK "/claim/cut.py" 613), (zi 135), (zi 0), (zi 0), (zi 0), (zi 0), (.ref 322), (.bool false), (zi 181), (.ref 323), .none, .none, .none, .none, (zi 614), (zi 135), (zsK "/claim/cut.py" 615)]
def D325 : Obj := ⟨(.type "frame"), none, .plain, #[(some (.ref 324)), (some (.ref 3)), (some (.ref 320)), none, (some (zsK "epochrooms.books" 394)), none, (some (.ref 0))]⟩
def D326 : Obj := zt [(zsK "epochs" 621), (zsK "behind" 622), (zsK "check" 623), (zsK "fetch" 624), (zsK "mark" 625), (zsK "test" 626), (zsK "step" 627), (zsK "told" 628)]
def D327 (P : Params) : Obj := ⟨(.type "dict"), none, (.dict #[⟨(zhK P "check"), (zsK "check" 636), (.bool true)⟩, ⟨(zhK P "fetch"), (zsK "fetch" 637), (zsK "behind" 632)⟩, ⟨(zhK P "mark"), (zsK "mark" 638), (zsK "fresh" 633)⟩, ⟨(zhK P "test"), (zsK "test" 639), (zsK "equal" 634)⟩, ⟨(zhK P "step"), (zsK "step" 640), (zsK "still" 635)⟩, ⟨(zhK P "told"), (zsK "told" 641), (.bool true)⟩] 6), #[]⟩
def D328 : Obj := zt [(.ref 321)]
def D329 : Obj := zt [(zsK "__class__" 645)]
def D330 : Obj := zn []
def D331 : Obj := zt [(zsK "self" 646), (zsK "epochs" 647), (zsK "behind" 648), (zsK "check" 649), (zsK "fetch" 650), (zsK "mark" 651), (zsK "test" 652), (zsK "step" 653), (zsK "told" 654)]
def D332 : Obj := zt []
def D333 : Obj := ⟨.none, none, (.func ⟨(zo "__init__"), (zo "EpochBook.__init__"), (zAC 22 2), (.stmts (zBC 22 2)), (zSC 22 2), 0, [], .none, .none, .none, .none, none, .none, .none, 0⟩), #[]⟩
def D334 : Obj := zc [(zsK "__init__" 642), (zsK "EpochBook.__init__" 643), (zsK "/claim/cut.py" 644), (zi 139), (zi 3), (zi 0), (zi 6), (zi 3), (.ref 329), (.bool true), (zi 181), (.ref 330), .none, (.ref 331), (.ref 332), (.ref 333), (zi 655), (zi 139), (zsK "/claim/cut.py" 656)]
def D335 : Obj := zf ⟨(zo "__init__"), (zo "EpochBook.__init__"), (zAC 22 2), (.stmts (zBC 22 2)), (zSC 22 2), 3, [((zo "__class__"), 321)], .none, (.ref 327), .none, (zsK "epochrooms.books" 394), none, (.ref 334), (.ref 328), 0⟩
def D336 : Obj := zt []
def D337 : Obj := zn []
def D338 : Obj := zt [(zsK "epochs" 661)]
def D339 : Obj := zt []
def D340 : Obj := ⟨.none, none, (.func ⟨(zo "careful"), (zo "EpochBook.careful"), (zAC 22 3), (.stmts (zBC 22 3)), (zSC 22 3), 0, [], .none, .none, .none, .none, none, .none, .none, 0⟩), #[]⟩
def D341 : Obj := zc [(zsK "careful" 658), (zsK "EpochBook.careful" 659), (zsK "/claim/cut.py" 660), (zi 142), (zi 1), (zi 0), (zi 0), (zi 3), (.ref 336), (.bool true), (zi 181), (.ref 337), .none, (.ref 338), (.ref 339), (.ref 340), (zi 662), (zi 142), (zsK "/claim/cut.py" 663)]
def D342 : Obj := zf ⟨(zo "careful"), (zo "EpochBook.careful"), (zAC 22 3), (.stmts (zBC 22 3)), (zSC 22 3), 3, [], .none, .none, .none, (zsK "epochrooms.books" 394), (some 345), (.ref 341), .none, 0⟩
def D343 (P : Params) : Obj := ⟨(.type "dict"), none, (.dict #[⟨(zhK P "__module__"), (zsK "__module__" 665), (zsK "epochrooms.books" 394)⟩, ⟨(zhK P "__name__"), (zsK "__name__" 668), (zsK "careful" 667)⟩, ⟨(zhK P "__qualname__"), (zsK "__qualname__" 671), (zsK "EpochBook.careful" 670)⟩, ⟨(zhK P "__doc__"), (zsK "__doc__" 673), .none⟩, ⟨(zhK P "__annotations__"), (zsK "__annotations__" 675), (.ref 345)⟩] 5), #[]⟩
def D344 : Obj := ⟨(.type "staticmethod"), (some 343), (.fields #[(.ref 342), (.bool false)]), #[]⟩
def D345 : Obj := ⟨(.type "dict"), none, (.dict #[] 0), #[]⟩
def D346 : Obj := zt []
def D347 : Obj := zn []
def D348 : Obj := zt [(zsK "epochs" 680)]
def D349 : Obj := zt []
def D350 : Obj := ⟨.none, none, (.func ⟨(zo "hasty"), (zo "EpochBook.hasty"), (zAC 22 4), (.stmts (zBC 22 4)), (zSC 22 4), 0, [], .none, .none, .none, .none, none, .none, .none, 0⟩), #[]⟩
def D351 : Obj := zc [(zsK "hasty" 677), (zsK "EpochBook.hasty" 678), (zsK "/claim/cut.py" 679), (zi 146), (zi 1), (zi 0), (zi 0), (zi 3), (.ref 346), (.bool true), (zi 181), (.ref 347), .none, (.ref 348), (.ref 349), (.ref 350), (zi 681), (zi 146), (zsK "/claim/cut.py" 682)]
def D352 : Obj := zf ⟨(zo "hasty"), (zo "EpochBook.hasty"), (zAC 22 4), (.stmts (zBC 22 4)), (zSC 22 4), 3, [], .none, .none, .none, (zsK "epochrooms.books" 394), (some 355), (.ref 351), .none, 0⟩
def D353 (P : Params) : Obj := ⟨(.type "dict"), none, (.dict #[⟨(zhK P "__module__"), (zsK "__module__" 684), (zsK "epochrooms.books" 394)⟩, ⟨(zhK P "__name__"), (zsK "__name__" 687), (zsK "hasty" 686)⟩, ⟨(zhK P "__qualname__"), (zsK "__qualname__" 690), (zsK "EpochBook.hasty" 689)⟩, ⟨(zhK P "__doc__"), (zsK "__doc__" 692), .none⟩, ⟨(zhK P "__annotations__"), (zsK "__annotations__" 694), (.ref 355)⟩] 5), #[]⟩
def D354 : Obj := ⟨(.type "staticmethod"), (some 353), (.fields #[(.ref 352), (.bool false)]), #[]⟩
def D355 : Obj := ⟨(.type "dict"), none, (.dict #[] 0), #[]⟩
def D356 : Obj := zt []
def D357 : Obj := zn []
def D358 : Obj := zt [(zsK "self" 699), (zsK "own" 700)]
def D359 : Obj := zt []
def D360 : Obj := ⟨.none, none, (.func ⟨(zo "twin"), (zo "EpochBook.twin"), (zAC 22 5), (.stmts (zBC 22 5)), (zSC 22 5), 0, [], .none, .none, .none, .none, none, .none, .none, 0⟩), #[]⟩
def D361 : Obj := zc [(zsK "twin" 696), (zsK "EpochBook.twin" 697), (zsK "/claim/cut.py" 698), (zi 150), (zi 1), (zi 0), (zi 0), (zi 3), (.ref 356), (.bool true), (zi 181), (.ref 357), .none, (.ref 358), (.ref 359), (.ref 360), (zi 701), (zi 150), (zsK "/claim/cut.py" 702)]
def D362 : Obj := zm "twin" "EpochBook.twin" 22 5 22 5 22 5 "epochrooms.books" 394 361
def D363 : Obj := zt []
def D364 : Obj := zn []
def D365 : Obj := zt [(zsK "self" 707)]
def D366 : Obj := zt []
def D367 : Obj := ⟨.none, none, (.func ⟨(zo "epochs"), (zo "EpochBook.epochs"), (zAC 22 6), (.stmts (zBC 22 6)), (zSC 51 3), 0, [], .none, .none, .none, .none, none, .none, .none, 0⟩), #[]⟩
def D368 : Obj := zc [(zsK "epochs" 704), (zsK "EpochBook.epochs" 705), (zsK "/claim/cut.py" 706), (zi 154), (zi 1), (zi 0), (zi 0), (zi 3), (.ref 363), (.bool true), (zi 181), (.ref 364), .none, (.ref 365), (.ref 366), (.ref 367), (zi 708), (zi 154), (zsK "/claim/cut.py" 709)]
def D369 : Obj := zm "epochs" "EpochBook.epochs" 22 6 22 6 51 3 "epochrooms.books" 394 368
def D370 : Obj := ⟨(.type "property"), none, (.fields #[(.ref 369), .none, .none, .none, (zi 0), (.bool false)]), #[]⟩
def D371 : Obj := ⟨(.type "builtin_function_or_method"), none, (.fields #[(.builtin "property.setter"), (.ref 370)]), #[]⟩
def D372 : Obj := zt []
def D373 : Obj := zn []
def D374 : Obj := zt [(zsK "self" 716), (zsK "value" 717)]
def D375 : Obj := zt []
def D376 : Obj := ⟨.none, none, (.func ⟨(zo "epochs"), (zo "EpochBook.epochs"), (zAC 22 7), (.stmts (zBC 22 7)), (zSC 24 13), 0, [], .none, .none, .none, .none, none, .none, .none, 0⟩), #[]⟩
def D377 : Obj := zc [(zsK "epochs" 713), (zsK "EpochBook.epochs" 714), (zsK "/claim/cut.py" 715), (zi 158), (zi 2), (zi 0), (zi 0), (zi 3), (.ref 372), (.bool true), (zi 181), (.ref 373), .none, (.ref 374), (.ref 375), (.ref 376), (zi 718), (zi 158), (zsK "/claim/cut.py" 719)]
def D378 : Obj := zm "epochs" "EpochBook.epochs" 22 7 22 7 24 13 "epochrooms.books" 394 377
def D379 : Obj := ⟨(.type "property"), none, (.fields #[(.ref 369), (.ref 378), .none, .none, (zsK "epochs" 711), (.bool false)]), #[]⟩
def D380 : Obj := zt []
def D381 : Obj := zn []
def D382 : Obj := zt [(zsK "self" 725)]
def D383 : Obj := zt []
def D384 : Obj := ⟨.none, none, (.func ⟨(zo "behind"), (zo "EpochBook.behind"), (zAC 22 8), (.stmts (zBC 22 8)), (zSC 51 3), 0, [], .none, .none, .none, .none, none, .none, .none, 0⟩), #[]⟩
def D385 : Obj := zc [(zsK "behind" 722), (zsK "EpochBook.behind" 723), (zsK "/claim/cut.py" 724), (zi 162), (zi 1), (zi 0), (zi 0), (zi 3), (.ref 380), (.bool true), (zi 181), (.ref 381), .none, (.ref 382), (.ref 383), (.ref 384), (zi 726), (zi 162), (zsK "/claim/cut.py" 727)]
def D386 : Obj := zm "behind" "EpochBook.behind" 22 8 22 8 51 3 "epochrooms.books" 394 385
def D387 : Obj := ⟨(.type "property"), none, (.fields #[(.ref 386), .none, .none, .none, (zi 0), (.bool false)]), #[]⟩
def D388 : Obj := ⟨(.type "builtin_function_or_method"), none, (.fields #[(.builtin "property.setter"), (.ref 387)]), #[]⟩
def D389 : Obj := zt []
def D390 : Obj := zn []
def D391 : Obj := zt [(zsK "self" 734), (zsK "value" 735)]
def D392 : Obj := zt []
def D393 : Obj := ⟨.none, none, (.func ⟨(zo "behind"), (zo "EpochBook.behind"), (zAC 22 9), (.stmts (zBC 22 9)), (zSC 24 13), 0, [], .none, .none, .none, .none, none, .none, .none, 0⟩), #[]⟩
def D394 : Obj := zc [(zsK "behind" 731), (zsK "EpochBook.behind" 732), (zsK "/claim/cut.py" 733), (zi 166), (zi 2), (zi 0), (zi 0), (zi 3), (.ref 389), (.bool true), (zi 181), (.ref 390), .none, (.ref 391), (.ref 392), (.ref 393), (zi 736), (zi 166), (zsK "/claim/cut.py" 737)]
def D395 : Obj := zm "behind" "EpochBook.behind" 22 9 22 9 24 13 "epochrooms.books" 394 394
def D396 : Obj := ⟨(.type "property"), none, (.fields #[(.ref 386), (.ref 395), .none, .none, (zsK "behind" 729), (.bool false)]), #[]⟩
def D397 : Obj := zt []
def D398 : Obj := zn []
def D399 : Obj := zt [(zsK "self" 743)]
def D400 : Obj := zt []
def D401 : Obj := ⟨.none, none, (.func ⟨(zo "check"), (zo "EpochBook.check"), (zAC 22 10), (.stmts (zBC 22 10)), (zSC 51 3), 0, [], .none, .none, .none, .none, none, .none, .none, 0⟩), #[]⟩
def D402 : Obj := zc [(zsK "check" 740), (zsK "EpochBook.check" 741), (zsK "/claim/cut.py" 742), (zi 170), (zi 1), (zi 0), (zi 0), (zi 3), (.ref 397), (.bool true), (zi 181), (.ref 398), .none, (.ref 399), (.ref 400), (.ref 401), (zi 744), (zi 170), (zsK "/claim/cut.py" 745)]
def D403 : Obj := zm "check" "EpochBook.check" 22 10 22 10 51 3 "epochrooms.books" 394 402
def D404 : Obj := ⟨(.type "property"), none, (.fields #[(.ref 403), .none, .none, .none, (zi 0), (.bool false)]), #[]⟩
def D405 : Obj := ⟨(.type "builtin_function_or_method"), none, (.fields #[(.builtin "property.setter"), (.ref 404)]), #[]⟩
def D406 : Obj := zt []
def D407 : Obj := zn []
def D408 : Obj := zt [(zsK "self" 752), (zsK "value" 753)]
def D409 : Obj := zt []
def D410 : Obj := ⟨.none, none, (.func ⟨(zo "check"), (zo "EpochBook.check"), (zAC 22 11), (.stmts (zBC 22 11)), (zSC 24 13), 0, [], .none, .none, .none, .none, none, .none, .none, 0⟩), #[]⟩
def D411 : Obj := zc [(zsK "check" 749), (zsK "EpochBook.check" 750), (zsK "/claim/cut.py" 751), (zi 174), (zi 2), (zi 0), (zi 0), (zi 3), (.ref 406), (.bool true), (zi 181), (.ref 407), .none, (.ref 408), (.ref 409), (.ref 410), (zi 754), (zi 174), (zsK "/claim/cut.py" 755)]
def D412 : Obj := zm "check" "EpochBook.check" 22 11 22 11 24 13 "epochrooms.books" 394 411
def D413 : Obj := ⟨(.type "property"), none, (.fields #[(.ref 403), (.ref 412), .none, .none, (zsK "check" 747), (.bool false)]), #[]⟩
def D414 : Obj := zt []
def D415 : Obj := zn []
def D416 : Obj := zt [(zsK "self" 761)]
def D417 : Obj := zt []
def D418 : Obj := ⟨.none, none, (.func ⟨(zo "fetch"), (zo "EpochBook.fetch"), (zAC 22 12), (.stmts (zBC 22 12)), (zSC 51 3), 0, [], .none, .none, .none, .none, none, .none, .none, 0⟩), #[]⟩
def D419 : Obj := zc [(zsK "fetch" 758), (zsK "EpochBook.fetch" 759), (zsK "/claim/cut.py" 760), (zi 178), (zi 1), (zi 0), (zi 0), (zi 3), (.ref 414), (.bool true), (zi 181), (.ref 415), .none, (.ref 416), (.ref 417), (.ref 418), (zi 762), (zi 178), (zsK "/claim/cut.py" 763)]
def D420 : Obj := zm "fetch" "EpochBook.fetch" 22 12 22 12 51 3 "epochrooms.books" 394 419
def D421 : Obj := ⟨(.type "property"), none, (.fields #[(.ref 420), .none, .none, .none, (zi 0), (.bool false)]), #[]⟩
def D422 : Obj := ⟨(.type "builtin_function_or_method"), none, (.fields #[(.builtin "property.setter"), (.ref 421)]), #[]⟩
def D423 : Obj := zt []
def D424 : Obj := zn []
def D425 : Obj := zt [(zsK "self" 770), (zsK "value" 771)]
def D426 : Obj := zt []
def D427 : Obj := ⟨.none, none, (.func ⟨(zo "fetch"), (zo "EpochBook.fetch"), (zAC 22 13), (.stmts (zBC 22 13)), (zSC 24 13), 0, [], .none, .none, .none, .none, none, .none, .none, 0⟩), #[]⟩
def D428 : Obj := zc [(zsK "fetch" 767), (zsK "EpochBook.fetch" 768), (zsK "/claim/cut.py" 769), (zi 182), (zi 2), (zi 0), (zi 0), (zi 3), (.ref 423), (.bool true), (zi 181), (.ref 424), .none, (.ref 425), (.ref 426), (.ref 427), (zi 772), (zi 182), (zsK "/claim/cut.py" 773)]
def D429 : Obj := zm "fetch" "EpochBook.fetch" 22 13 22 13 24 13 "epochrooms.books" 394 428
def D430 : Obj := ⟨(.type "property"), none, (.fields #[(.ref 420), (.ref 429), .none, .none, (zsK "fetch" 765), (.bool false)]), #[]⟩
def D431 : Obj := zt []
def D432 : Obj := zn []
def D433 : Obj := zt [(zsK "self" 779)]
def D434 : Obj := zt []
def D435 : Obj := ⟨.none, none, (.func ⟨(zo "mark"), (zo "EpochBook.mark"), (zAC 22 14), (.stmts (zBC 22 14)), (zSC 51 3), 0, [], .none, .none, .none, .none, none, .none, .none, 0⟩), #[]⟩
def D436 : Obj := zc [(zsK "mark" 776), (zsK "EpochBook.mark" 777), (zsK "/claim/cut.py" 778), (zi 186), (zi 1), (zi 0), (zi 0), (zi 3), (.ref 431), (.bool true), (zi 181), (.ref 432), .none, (.ref 433), (.ref 434), (.ref 435), (zi 780), (zi 186), (zsK "/claim/cut.py" 781)]
def D437 : Obj := zm "mark" "EpochBook.mark" 22 14 22 14 51 3 "epochrooms.books" 394 436
def D438 : Obj := ⟨(.type "property"), none, (.fields #[(.ref 437), .none, .none, .none, (zi 0), (.bool false)]), #[]⟩
def D439 : Obj := ⟨(.type "builtin_function_or_method"), none, (.fields #[(.builtin "property.setter"), (.ref 438)]), #[]⟩
def D440 : Obj := zt []
def D441 : Obj := zn []
def D442 : Obj := zt [(zsK "self" 788), (zsK "value" 789)]
def D443 : Obj := zt []
def D444 : Obj := ⟨.none, none, (.func ⟨(zo "mark"), (zo "EpochBook.mark"), (zAC 22 15), (.stmts (zBC 22 15)), (zSC 24 13), 0, [], .none, .none, .none, .none, none, .none, .none, 0⟩), #[]⟩
def D445 : Obj := zc [(zsK "mark" 785), (zsK "EpochBook.mark" 786), (zsK "/claim/cut.py" 787), (zi 190), (zi 2), (zi 0), (zi 0), (zi 3), (.ref 440), (.bool true), (zi 181), (.ref 441), .none, (.ref 442), (.ref 443), (.ref 444), (zi 790), (zi 190), (zsK "/claim/cut.py" 791)]
def D446 : Obj := zm "mark" "EpochBook.mark" 22 15 22 15 24 13 "epochrooms.books" 394 445
def D447 : Obj := ⟨(.type "property"), none, (.fields #[(.ref 437), (.ref 446), .none, .none, (zsK "mark" 783), (.bool false)]), #[]⟩
def D448 : Obj := zt []
def D449 : Obj := zn []
def D450 : Obj := zt [(zsK "self" 797)]
def D451 : Obj := zt []
def D452 : Obj := ⟨.none, none, (.func ⟨(zo "test"), (zo "EpochBook.test"), (zAC 22 16), (.stmts (zBC 22 16)), (zSC 51 3), 0, [], .none, .none, .none, .none, none, .none, .none, 0⟩), #[]⟩
def D453 : Obj := zc [(zsK "test" 794), (zsK "EpochBook.test" 795), (zsK "/claim/cut.py" 796), (zi 194), (zi 1), (zi 0), (zi 0), (zi 3), (.ref 448), (.bool true), (zi 181), (.ref 449), .none, (.ref 450), (.ref 451), (.ref 452), (zi 798), (zi 194), (zsK "/claim/cut.py" 799)]
def D454 : Obj := zm "test" "EpochBook.test" 22 16 22 16 51 3 "epochrooms.books" 394 453
def D455 : Obj := ⟨(.type "property"), none, (.fields #[(.ref 454), .none, .none, .none, (zi 0), (.bool false)]), #[]⟩
def D456 : Obj := ⟨(.type "builtin_function_or_method"), none, (.fields #[(.builtin "property.setter"), (.ref 455)]), #[]⟩
def D457 : Obj := zt []
def D458 : Obj := zn []
def D459 : Obj := zt [(zsK "self" 806), (zsK "value" 807)]
def D460 : Obj := zt []
def D461 : Obj := ⟨.none, none, (.func ⟨(zo "test"), (zo "EpochBook.test"), (zAC 22 17), (.stmts (zBC 22 17)), (zSC 24 13), 0, [], .none, .none, .none, .none, none, .none, .none, 0⟩), #[]⟩
def D462 : Obj := zc [(zsK "test" 803), (zsK "EpochBook.test" 804), (zsK "/claim/cut.py" 805), (zi 198), (zi 2), (zi 0), (zi 0), (zi 3), (.ref 457), (.bool true), (zi 181), (.ref 458), .none, (.ref 459), (.ref 460), (.ref 461), (zi 808), (zi 198), (zsK "/claim/cut.py" 809)]
def D463 : Obj := zm "test" "EpochBook.test" 22 17 22 17 24 13 "epochrooms.books" 394 462
def D464 : Obj := ⟨(.type "property"), none, (.fields #[(.ref 454), (.ref 463), .none, .none, (zsK "test" 801), (.bool false)]), #[]⟩
def D465 : Obj := zt []
def D466 : Obj := zn []
def D467 : Obj := zt [(zsK "self" 815)]
def D468 : Obj := zt []
def D469 : Obj := ⟨.none, none, (.func ⟨(zo "step"), (zo "EpochBook.step"), (zAC 22 18), (.stmts (zBC 22 18)), (zSC 51 3), 0, [], .none, .none, .none, .none, none, .none, .none, 0⟩), #[]⟩
def D470 : Obj := zc [(zsK "step" 812), (zsK "EpochBook.step" 813), (zsK "/claim/cut.py" 814), (zi 202), (zi 1), (zi 0), (zi 0), (zi 3), (.ref 465), (.bool true), (zi 181), (.ref 466), .none, (.ref 467), (.ref 468), (.ref 469), (zi 816), (zi 202), (zsK "/claim/cut.py" 817)]
def D471 : Obj := zm "step" "EpochBook.step" 22 18 22 18 51 3 "epochrooms.books" 394 470
def D472 : Obj := ⟨(.type "property"), none, (.fields #[(.ref 471), .none, .none, .none, (zi 0), (.bool false)]), #[]⟩
def D473 : Obj := ⟨(.type "builtin_function_or_method"), none, (.fields #[(.builtin "property.setter"), (.ref 472)]), #[]⟩
def D474 : Obj := zt []
def D475 : Obj := zn []
def D476 : Obj := zt [(zsK "self" 824), (zsK "value" 825)]
def D477 : Obj := zt []
def D478 : Obj := ⟨.none, none, (.func ⟨(zo "step"), (zo "EpochBook.step"), (zAC 22 19), (.stmts (zBC 22 19)), (zSC 24 13), 0, [], .none, .none, .none, .none, none, .none, .none, 0⟩), #[]⟩
def D479 : Obj := zc [(zsK "step" 821), (zsK "EpochBook.step" 822), (zsK "/claim/cut.py" 823), (zi 206), (zi 2), (zi 0), (zi 0), (zi 3), (.ref 474), (.bool true), (zi 181), (.ref 475), .none, (.ref 476), (.ref 477), (.ref 478), (zi 826), (zi 206), (zsK "/claim/cut.py" 827)]
def D480 : Obj := zm "step" "EpochBook.step" 22 19 22 19 24 13 "epochrooms.books" 394 479
def D481 : Obj := ⟨(.type "property"), none, (.fields #[(.ref 471), (.ref 480), .none, .none, (zsK "step" 819), (.bool false)]), #[]⟩
def D482 : Obj := zt []
def D483 : Obj := zn []
def D484 : Obj := zt [(zsK "self" 833)]
def D485 : Obj := zt []
def D486 : Obj := ⟨.none, none, (.func ⟨(zo "told"), (zo "EpochBook.told"), (zAC 22 20), (.stmts (zBC 22 20)), (zSC 51 3), 0, [], .none, .none, .none, .none, none, .none, .none, 0⟩), #[]⟩
def D487 : Obj := zc [(zsK "told" 830), (zsK "EpochBook.told" 831), (zsK "/claim/cut.py" 832), (zi 210), (zi 1), (zi 0), (zi 0), (zi 3), (.ref 482), (.bool true), (zi 181), (.ref 483), .none, (.ref 484), (.ref 485), (.ref 486), (zi 834), (zi 210), (zsK "/claim/cut.py" 835)]
def D488 : Obj := zm "told" "EpochBook.told" 22 20 22 20 51 3 "epochrooms.books" 394 487
def D489 : Obj := ⟨(.type "property"), none, (.fields #[(.ref 488), .none, .none, .none, (zi 0), (.bool false)]), #[]⟩
def D490 : Obj := ⟨(.type "builtin_function_or_method"), none, (.fields #[(.builtin "property.setter"), (.ref 489)]), #[]⟩
def D491 : Obj := zt []
def D492 : Obj := zn []
def D493 : Obj := zt [(zsK "self" 842), (zsK "value" 843)]
def D494 : Obj := zt []
def D495 : Obj := ⟨.none, none, (.func ⟨(zo "told"), (zo "EpochBook.told"), (zAC 22 21), (.stmts (zBC 22 21)), (zSC 24 13), 0, [], .none, .none, .none, .none, none, .none, .none, 0⟩), #[]⟩
def D496 : Obj := zc [(zsK "told" 839), (zsK "EpochBook.told" 840), (zsK "/claim/cut.py" 841), (zi 214), (zi 2), (zi 0), (zi 0), (zi 3), (.ref 491), (.bool true), (zi 181), (.ref 492), .none, (.ref 493), (.ref 494), (.ref 495), (zi 844), (zi 214), (zsK "/claim/cut.py" 845)]
def D497 : Obj := zm "told" "EpochBook.told" 22 21 22 21 24 13 "epochrooms.books" 394 496
def D498 : Obj := ⟨(.type "property"), none, (.fields #[(.ref 488), (.ref 497), .none, .none, (zsK "told" 837), (.bool false)]), #[]⟩
def D499 : Obj := zt []
def D500 (P : Params) : Obj := ⟨(.type "dict"), none, (.dict #[⟨(zhK P "__module__"), (zsK "__module__" 616), (zsK "epochrooms.books" 394)⟩, ⟨(zhK P "__firstlineno__"), (zsK "__firstlineno__" 620), (.int 135 619)⟩, ⟨(zhK P "WORDS"), (zsK "WORDS" 629), (.ref 326)⟩, ⟨(zhK P "WAY"), (zsK "WAY" 631), (zsK "epochs" 630)⟩, ⟨(zhK P "__init__"), (zsK "__init__" 657), (.ref 335)⟩, ⟨(zhK P "careful"), (zsK "careful" 676), (.ref 344)⟩, ⟨(zhK P "hasty"), (zsK "hasty" 695), (.ref 354)⟩, ⟨(zhK P "twin"), (zsK "twin" 703), (.ref 362)⟩, ⟨(zhK P "epochs"), (zsK "epochs" 711), (.ref 379)⟩, ⟨(zhK P "behind"), (zsK "behind" 729), (.ref 396)⟩, ⟨(zhK P "check"), (zsK "check" 747), (.ref 413)⟩, ⟨(zhK P "fetch"), (zsK "fetch" 765), (.ref 430)⟩, ⟨(zhK P "mark"), (zsK "mark" 783), (.ref 447)⟩, ⟨(zhK P "test"), (zsK "test" 801), (.ref 464)⟩, ⟨(zhK P "step"), (zsK "step" 819), (.ref 481)⟩, ⟨(zhK P "told"), (zsK "told" 837), (.ref 498)⟩, ⟨(zhK P "__static_attributes__"), (zsK "__static_attributes__" 848), (.ref 499)⟩, ⟨(zhK P "__doc__"), (zsK "__doc__" 850), .none⟩] 3), #[]⟩
def D501 : Obj := ⟨(.type "type"), none, (.cls ⟨(zo "EpochBook"), [(.ref 313)], [(.ref 501), (.ref 313), (.type "object")], 500, (zo "EpochBook"), true, [], [], false, none, false⟩), #[(some (.ref 318)), none, (some (zsK "EpochBook" 609)), (some (zsK "EpochBook" 617)), (some (.builtin "object.__new__")), (some (.bool true))]⟩
def D502 : Obj := ⟨(.type "super"), none, (.fields #[(.ref 501), (.ref 501), (.ref 501)]), #[]⟩
def D503 : Obj := ⟨(.type "builtin_function_or_method"), none, (.fields #[(.builtin "object.__init_subclass__"), (.ref 501)]), #[]⟩
def E3 (P : Params) : Obj := ⟨(.type "dict"), none, (.dict #[⟨(zhK P "__name__"), (zsK "__name__" 165), (zsK "epochrooms.books" 394)⟩, ⟨(zhK P "__doc__"), (zsK "__doc__" 166), .none⟩, ⟨(zhK P "__package__"), (zsK "__package__" 167), .none⟩, ⟨(zhK P "__loader__"), (zsK "__loader__" 168), (.builtin "__main__.__loader__#opaque")⟩, ⟨(zhK P "__spec__"), (zsK "__spec__" 169), .none⟩, ⟨(zhK P "__annotations__"), (zsK "__annotations__" 170), (.ref 6)⟩, ⟨(zhK P "__builtins__"), (zsK "__builtins__" 171), (.ref 4)⟩, ⟨(zhK P "__file__"), (zsK "__file__" 173), (zsK "/claim/cut.py" 172)⟩, ⟨(zhK P "__cached__"), (zsK "__cached__" 174), .none⟩, ⟨(zhK P "_wall"), (zsK "_wall" 193), (.ref 21)⟩, ⟨(zhK P "RoomsError"), (zsK "RoomsError" 213), (.ref 31)⟩, ⟨(zhK P "NoSwitch"), (zsK "NoSwitch" 240), (.ref 53)⟩, ⟨(zhK P "NoValue"), (zsK "NoValue" 267), (.ref 74)⟩, ⟨(zhK P "NoBook"), (zsK "NoBook" 294), (.ref 95)⟩, ⟨(zhK P "NoSetting"), (zsK "NoSetting" 321), (.ref 116)⟩, ⟨(zhK P "NoMove"), (zsK "NoMove" 348), (.ref 137)⟩, ⟨(zhK P "IsSafe"), (zsK "IsSafe" 375), (.ref 158)⟩, ⟨(zhK P "is_number"), (zsK "is_number" 386), (.ref 167)⟩, ⟨(zhK P "is_whole"), (zsK "is_whole" 393), (.ref 174)⟩, ⟨(zhK P "ORDERS"), (zsK "ORDERS" 440), (.ref 175)⟩, ⟨(zhK P "LEAST_EPOCHS"), (zsK "LEAST_EPOCHS" 442), (.int 2 441)⟩, ⟨(zhK P "MOST_EPOCHS"), (zsK "MOST_EPOCHS" 444), (.int 6 443)⟩, ⟨(zhK P "MOST_COUNTS"), (zsK "MOST_COUNTS" 446), (.int 4 445)⟩, ⟨(zhK P "values_at"), (zsK "values_at" 454), (.ref 193)⟩, ⟨(zhK P "is_same"), (zsK "is_same" 462), (.ref 200)⟩, ⟨(zhK P "is_value"), (zsK "is_value" 468), (.ref 205)⟩, ⟨(zhK P "care"), (zsK "care" 478), (.ref 212)⟩, ⟨(zhK P "Book"), (zsK "Book" 608), (.ref 313)⟩, ⟨(zhK P "EpochBook"), (zsK "EpochBook" 852), (.ref 501)⟩, ⟨(zhK P "LookBook"), (zsK "LookBook" 988), (.ref 602)⟩] 30), #[]⟩
def E12 : Obj := zn [(zi 1), (zi 0), (.ref 20), (zi 5), (zi 0), (.ref 27), (zi 7), (zi 0), (.ref 41), (zi 12), (zi 0), (.ref 62), (zi 17), (zi 0), (.ref 83), (zi 22), (zi 0), (.ref 104), (zi 27), (zi 0), (.ref 125), (zi 32), (zi 0), (.ref 146), (zi 38), (zi 0), (.ref 166), (zi 40), (zi 0), (.ref 173), (zi 47), (zi 0), (.ref 192), (zi 53), (zi 0), (.ref 199), (zi 59), (zi 0), (.ref 204), (zi 61), (zi 0), (.ref 211), (zi 70), (zi 0), (.ref 218), (zi 135), (zi 0), (.ref 324), (zi 217), (zi 0), (.ref 510)]
def E313 : Obj := ⟨(.type "type"), none, (.cls ⟨(zo "Book"), [(.type "object")], [(.ref 313), (.type "object")], 312, (zo "Book"), true, [], [(.ref 501), (.ref 602)], false, none, false⟩), #[none, none, (some (zsK "Book" 479)), (some (zsK "Book" 487)), (some (.builtin "object.__new__")), (some (.bool true))]⟩
def E504 : Obj := zt [(.ref 313)]
def E505 : Obj := ⟨(.type "builtin_function_or_method"), none, (.fields #[(.builtin "type.__prepare__"), (.type "type")]), #[]⟩
def E506 (P : Params) : Obj := ⟨(.type "dict"), none, (.dict #[⟨(zhK P "__module__"), (zsK "__module__" 860), (zsK "epochrooms.books" 394)⟩, ⟨(zhK P "__qualname__"), (zsK "__qualname__" 862), (zsK "LookBook" 861)⟩, ⟨(zhK P "__firstlineno__"), (zsK "__firstlineno__" 864), (.int 217 863)⟩, ⟨(zhK P "WORDS"), (zsK "WORDS" 868), (.ref 512)⟩, ⟨(zhK P "WAY"), (zsK "WAY" 870), (zsK "looks" 869)⟩, ⟨(zhK P "__init__"), (zsK "__init__" 886), (.ref 521)⟩, ⟨(zhK P "careful"), (zsK "careful" 904), (.ref 530)⟩, ⟨(zhK P "hasty"), (zsK "hasty" 922), (.ref 540)⟩, ⟨(zhK P "twin"), (zsK "twin" 929), (.ref 548)⟩, ⟨(zhK P "check"), (zsK "check" 937), (.ref 565)⟩, ⟨(zhK P "look"), (zsK "look" 955), (.ref 582)⟩, ⟨(zhK P "chain"), (zsK "chain" 973), (.ref 599)⟩, ⟨(zhK P "__static_attributes__"), (zsK "__static_attributes__" 984), (.ref 600)⟩, ⟨(zhK P "__classcell__"), (zsK "__classcell__" 985), (.ref 507)⟩] 14), #[]⟩
def E507 : Obj := ⟨(.type "cell"), none, (.cell (some (.ref 602))), #[]⟩
def E508 : Obj := zt []
def E509 : Obj := zn [(zi 221), (zi 4), (.ref 520), (zi 225), (zi 4), (.ref 527), (zi 229), (zi 4), (.ref 537), (zi 232), (zi 4), (.ref 547), (zi 236), (zi 4), (.ref 554), (zi 240), (zi 4), (.ref 563), (zi 244), (zi 4), (.ref 571), (zi 248), (zi 4), (.ref 580), (zi 252), (zi 4), (.ref 588), (zi 256), (zi 4), (.ref 597)]
def E510 : Obj := zc [(zsK "LookBook" 855), (zsK "LookBook" 856), (zsK "/claim/cut.py" 857), (zi 217), (zi 0), (zi 0), (zi 0), (zi 0), (.ref 508), (.bool false), (zi 181), (.ref 509), .none, .none, .none, .none, (zi 858), (zi 217), (zsK "/claim/cut.py" 859)]
def E511 : Obj := ⟨(.type "frame"), none, .plain, #[(some (.ref 510)), (some (.ref 3)), (some (.ref 506)), none, (some (zsK "epochrooms.books" 394)), none, (some (.ref 0))]⟩
def E512 : Obj := zt [(zsK "check" 865), (zsK "look" 866), (zsK "chain" 867)]
def E513 (P : Params) : Obj := ⟨(.type "dict"), none, (.dict #[⟨(zhK P "check"), (zsK "check" 873), (.bool true)⟩, ⟨(zhK P "look"), (zsK "look" 874), (zsK "behind" 871)⟩, ⟨(zhK P "chain"), (zsK "chain" 875), (zsK "none" 872)⟩] 3), #[]⟩
def E514 : Obj := zt [(.ref 507)]
def E515 : Obj := zt [(zsK "__class__" 879)]
def E516 : Obj := zn []
def E517 : Obj := zt [(zsK "self" 880), (zsK "check" 881), (zsK "look" 882), (zsK "chain" 883)]
def E518 : Obj := zt []
def E519 : Obj := ⟨.none, none, (.func ⟨(zo "__init__"), (zo "LookBook.__init__"), (zAC 23 2), (.stmts (zBC 23 2)), (zSC 23 2), 0, [], .none, .none, .none, .none, none, .none, .none, 0⟩), #[]⟩
def E520 : Obj := zc [(zsK "__init__" 876), (zsK "LookBook.__init__" 877), (zsK "/claim/cut.py" 878), (zi 221), (zi 1), (zi 0), (zi 3), (zi 3), (.ref 515), (.bool true), (zi 181), (.ref 516), .none, (.ref 517), (.ref 518), (.ref 519), (zi 884), (zi 221), (zsK "/claim/cut.py" 885)]
def E521 : Obj := zf ⟨(zo "__init__"), (zo "LookBook.__init__"), (zAC 23 2), (.stmts (zBC 23 2)), (zSC 23 2), 3, [((zo "__class__"), 507)], .none, (.ref 513), .none, (zsK "epochrooms.books" 394), none, (.ref 520), (.ref 514), 0⟩
def E522 : Obj := zt []
def E523 : Obj := zn []
def E524 : Obj := zt []
def E525 : Obj := zt []
def E526 : Obj := ⟨.none, none, (.func ⟨(zo "careful"), (zo "LookBook.careful"), (zAC 24 4), (.stmts (zBC 23 3)), (zSC 23 3), 0, [], .none, .none, .none, .none, none, .none, .none, 0⟩), #[]⟩
def E527 : Obj := zc [(zsK "careful" 887), (zsK "LookBook.careful" 888), (zsK "/claim/cut.py" 889), (zi 224), (zi 0), (zi 0), (zi 0), (zi 3), (.ref 522), (.bool true), (zi 181), (.ref 523), .none, (.ref 524), (.ref 525), (.ref 526), (zi 890), (zi 224), (zsK "/claim/cut.py" 891)]
def E528 : Obj := zf ⟨(zo "careful"), (zo "LookBook.careful"), (zAC 24 4), (.stmts (zBC 23 3)), (zSC 23 3), 3, [], .none, .none, .none, (zsK "epochrooms.books" 394), (some 531), (.ref 527), .none, 0⟩
def E529 (P : Params) : Obj := ⟨(.type "dict"), none, (.dict #[⟨(zhK P "__module__"), (zsK "__module__" 893), (zsK "epochrooms.books" 394)⟩, ⟨(zhK P "__name__"), (zsK "__name__" 896), (zsK "careful" 895)⟩, ⟨(zhK P "__qualname__"), (zsK "__qualname__" 899), (zsK "LookBook.careful" 898)⟩, ⟨(zhK P "__doc__"), (zsK "__doc__" 901), .none⟩, ⟨(zhK P "__annotations__"), (zsK "__annotations__" 903), (.ref 531)⟩] 5), #[]⟩
def E530 : Obj := ⟨(.type "staticmethod"), (some 529), (.fields #[(.ref 528), (.bool false)]), #[]⟩
def E531 : Obj := ⟨(.type "dict"), none, (.dict #[] 0), #[]⟩
def E532 : Obj := zt []
def E533 : Obj := zn []
def E534 : Obj := zt []
def E535 : Obj := zt []
def E536 : Obj := ⟨.none, none, (.func ⟨(zo "hasty"), (zo "LookBook.hasty"), (zAC 24 4), (.stmts (zBC 23 4)), (zSC 24 4), 0, [], .none, .none, .none, .none, none, .none, .none, 0⟩), #[]⟩
def E537 : Obj := zc [(zsK "hasty" 905), (zsK "LookBook.hasty" 906), (zsK "/claim/cut.py" 907), (zi 228), (zi 0), (zi 0), (zi 0), (zi 3), (.ref 532), (.bool true), (zi 181), (.ref 533), .none, (.ref 534), (.ref 535), (.ref 536), (zi 908), (zi 228), (zsK "/claim/cut.py" 909)]
def E538 : Obj := zf ⟨(zo "hasty"), (zo "LookBook.hasty"), (zAC 24 4), (.stmts (zBC 23 4)), (zSC 24 4), 3, [], .none, .none, .none, (zsK "epochrooms.books" 394), (some 541), (.ref 537), .none, 0⟩
def E539 (P : Params) : Obj := ⟨(.type "dict"), none, (.dict #[⟨(zhK P "__module__"), (zsK "__module__" 911), (zsK "epochrooms.books" 394)⟩, ⟨(zhK P "__name__"), (zsK "__name__" 914), (zsK "hasty" 913)⟩, ⟨(zhK P "__qualname__"), (zsK "__qualname__" 917), (zsK "LookBook.hasty" 916)⟩, ⟨(zhK P "__doc__"), (zsK "__doc__" 919), .none⟩, ⟨(zhK P "__annotations__"), (zsK "__annotations__" 921), (.ref 541)⟩] 5), #[]⟩
def E540 : Obj := ⟨(.type "staticmethod"), (some 539), (.fields #[(.ref 538), (.bool false)]), #[]⟩
def E541 : Obj := ⟨(.type "dict"), none, (.dict #[] 0), #[]⟩
def E542 : Obj := zt []
def E543 : Obj := zn []
def E544 : Obj := zt [(zsK "self" 926)]
def E545 : Obj := zt []
def E546 : Obj := ⟨.none, none, (.func ⟨(zo "twin"), (zo "LookBook.twin"), (zAC 23 5), (.stmts (zBC 23 5)), (zSC 23 5), 0, [], .none, .none, .none, .none, none, .none, .none, 0⟩), #[]⟩
def E547 : Obj := zc [(zsK "twin" 923), (zsK "LookBook.twin" 924), (zsK "/claim/cut.py" 925), (zi 232), (zi 1), (zi 0), (zi 0), (zi 3), (.ref 542), (.bool true), (zi 181), (.ref 543), .none, (.ref 544), (.ref 545), (.ref 546), (zi 927), (zi 232), (zsK "/claim/cut.py" 928)]
def E548 : Obj := zm "twin" "LookBook.twin" 23 5 23 5 23 5 "epochrooms.books" 394 547
def E549 : Obj := zt []
def E550 : Obj := zn []
def E551 : Obj := zt [(zsK "self" 933)]
def E552 : Obj := zt []
def E553 : Obj := ⟨.none, none, (.func ⟨(zo "check"), (zo "LookBook.check"), (zAC 23 6), (.stmts (zBC 23 6)), (zSC 51 3), 0, [], .none, .none, .none, .none, none, .none, .none, 0⟩), #[]⟩
def E554 : Obj := zc [(zsK "check" 930), (zsK "LookBook.check" 931), (zsK "/claim/cut.py" 932), (zi 235), (zi 1), (zi 0), (zi 0), (zi 3), (.ref 549), (.bool true), (zi 181), (.ref 550), .none, (.ref 551), (.ref 552), (.ref 553), (zi 934), (zi 235), (zsK "/claim/cut.py" 935)]
def E555 : Obj := zm "check" "LookBook.check" 23 6 23 6 51 3 "epochrooms.books" 394 554
def E556 : Obj := ⟨(.type "property"), none, (.fields #[(.ref 555), .none, .none, .none, (zi 0), (.bool false)]), #[]⟩
def E557 : Obj := ⟨(.type "builtin_function_or_method"), none, (.fields #[(.builtin "property.setter"), (.ref 556)]), #[]⟩
def E558 : Obj := zt []
def E559 : Obj := zn []
def E560 : Obj := zt [(zsK "self" 942), (zsK "value" 943)]
def E561 : Obj := zt []
def E562 : Obj := ⟨.none, none, (.func ⟨(zo "check"), (zo "LookBook.check"), (zAC 23 7), (.stmts (zBC 23 7)), (zSC 24 13), 0, [], .none, .none, .none, .none, none, .none, .none, 0⟩), #[]⟩
def E563 : Obj := zc [(zsK "check" 939), (zsK "LookBook.check" 940), (zsK "/claim/cut.py" 941), (zi 239), (zi 2), (zi 0), (zi 0), (zi 3), (.ref 558), (.bool true), (zi 181), (.ref 559), .none, (.ref 560), (.ref 561), (.ref 562), (zi 944), (zi 239), (zsK "/claim/cut.py" 945)]
def E564 : Obj := zm "check" "LookBook.check" 23 7 23 7 24 13 "epochrooms.books" 394 563
def E565 : Obj := ⟨(.type "property"), none, (.fields #[(.ref 555), (.ref 564), .none, .none, (zsK "check" 937), (.bool false)]), #[]⟩
def E566 : Obj := zt []
def E567 : Obj := zn []
def E568 : Obj := zt [(zsK "self" 951)]
def E569 : Obj := zt []
def E570 : Obj := ⟨.none, none, (.func ⟨(zo "look"), (zo "LookBook.look"), (zAC 23 8), (.stmts (zBC 23 8)), (zSC 51 3), 0, [], .none, .none, .none, .none, none, .none, .none, 0⟩), #[]⟩
def E571 : Obj := zc [(zsK "look" 948), (zsK "LookBook.look" 949), (zsK "/claim/cut.py" 950), (zi 243), (zi 1), (zi 0), (zi 0), (zi 3), (.ref 566), (.bool true), (zi 181), (.ref 567), .none, (.ref 568), (.ref 569), (.ref 570), (zi 952), (zi 243), (zsK "/claim/cut.py" 953)]
def E572 : Obj := zm "look" "LookBook.look" 23 8 23 8 51 3 "epochrooms.books" 394 571
def E573 : Obj := ⟨(.type "property"), none, (.fields #[(.ref 572), .none, .none, .none, (zi 0), (.bool false)]), #[]⟩
def E574 : Obj := ⟨(.type "builtin_function_or_method"), none, (.fields #[(.builtin "property.setter"), (.ref 573)]), #[]⟩
def E575 : Obj := zt []
def E576 : Obj := zn []
def E577 : Obj := zt [(zsK "self" 960), (zsK "value" 961)]
def E578 : Obj := zt []
def E579 : Obj := ⟨.none, none, (.func ⟨(zo "look"), (zo "LookBook.look"), (zAC 23 9), (.stmts (zBC 23 9)), (zSC 24 13), 0, [], .none, .none, .none, .none, none, .none, .none, 0⟩), #[]⟩
def E580 : Obj := zc [(zsK "look" 957), (zsK "LookBook.look" 958), (zsK "/claim/cut.py" 959), (zi 247), (zi 2), (zi 0), (zi 0), (zi 3), (.ref 575), (.bool true), (zi 181), (.ref 576), .none, (.ref 577), (.ref 578), (.ref 579), (zi 962), (zi 247), (zsK "/claim/cut.py" 963)]
def E581 : Obj := zm "look" "LookBook.look" 23 9 23 9 24 13 "epochrooms.books" 394 580
def E582 : Obj := ⟨(.type "property"), none, (.fields #[(.ref 572), (.ref 581), .none, .none, (zsK "look" 955), (.bool false)]), #[]⟩
def E583 : Obj := zt []
def E584 : Obj := zn []
def E585 : Obj := zt [(zsK "self" 969)]
def E586 : Obj := zt []
def E587 : Obj := ⟨.none, none, (.func ⟨(zo "chain"), (zo "LookBook.chain"), (zAC 23 10), (.stmts (zBC 23 10)), (zSC 51 3), 0, [], .none, .none, .none, .none, none, .none, .none, 0⟩), #[]⟩
def E588 : Obj := zc [(zsK "chain" 966), (zsK "LookBook.chain" 967), (zsK "/claim/cut.py" 968), (zi 251), (zi 1), (zi 0), (zi 0), (zi 3), (.ref 583), (.bool true), (zi 181), (.ref 584), .none, (.ref 585), (.ref 586), (.ref 587), (zi 970), (zi 251), (zsK "/claim/cut.py" 971)]
def E589 : Obj := zm "chain" "LookBook.chain" 23 10 23 10 51 3 "epochrooms.books" 394 588
def E590 : Obj := ⟨(.type "property"), none, (.fields #[(.ref 589), .none, .none, .none, (zi 0), (.bool false)]), #[]⟩
def E591 : Obj := ⟨(.type "builtin_function_or_method"), none, (.fields #[(.builtin "property.setter"), (.ref 590)]), #[]⟩
def E592 : Obj := zt []
def E593 : Obj := zn []
def E594 : Obj := zt [(zsK "self" 978), (zsK "value" 979)]
def E595 : Obj := zt []
def E596 : Obj := ⟨.none, none, (.func ⟨(zo "chain"), (zo "LookBook.chain"), (zAC 23 11), (.stmts (zBC 23 11)), (zSC 24 13), 0, [], .none, .none, .none, .none, none, .none, .none, 0⟩), #[]⟩
def E597 : Obj := zc [(zsK "chain" 975), (zsK "LookBook.chain" 976), (zsK "/claim/cut.py" 977), (zi 255), (zi 2), (zi 0), (zi 0), (zi 3), (.ref 592), (.bool true), (zi 181), (.ref 593), .none, (.ref 594), (.ref 595), (.ref 596), (zi 980), (zi 255), (zsK "/claim/cut.py" 981)]
def E598 : Obj := zm "chain" "LookBook.chain" 23 11 23 11 24 13 "epochrooms.books" 394 597
def E599 : Obj := ⟨(.type "property"), none, (.fields #[(.ref 589), (.ref 598), .none, .none, (zsK "chain" 973), (.bool false)]), #[]⟩
def E600 : Obj := zt []
def E601 (P : Params) : Obj := ⟨(.type "dict"), none, (.dict #[⟨(zhK P "__module__"), (zsK "__module__" 860), (zsK "epochrooms.books" 394)⟩, ⟨(zhK P "__firstlineno__"), (zsK "__firstlineno__" 864), (.int 217 863)⟩, ⟨(zhK P "WORDS"), (zsK "WORDS" 868), (.ref 512)⟩, ⟨(zhK P "WAY"), (zsK "WAY" 870), (zsK "looks" 869)⟩, ⟨(zhK P "__init__"), (zsK "__init__" 886), (.ref 521)⟩, ⟨(zhK P "careful"), (zsK "careful" 904), (.ref 530)⟩, ⟨(zhK P "hasty"), (zsK "hasty" 922), (.ref 540)⟩, ⟨(zhK P "twin"), (zsK "twin" 929), (.ref 548)⟩, ⟨(zhK P "check"), (zsK "check" 937), (.ref 565)⟩, ⟨(zhK P "look"), (zsK "look" 955), (.ref 582)⟩, ⟨(zhK P "chain"), (zsK "chain" 973), (.ref 599)⟩, ⟨(zhK P "__static_attributes__"), (zsK "__static_attributes__" 984), (.ref 600)⟩, ⟨(zhK P "__doc__"), (zsK "__doc__" 986), .none⟩] 3), #[]⟩
def E602 : Obj := ⟨(.type "type"), none, (.cls ⟨(zo "LookBook"), [(.ref 313)], [(.ref 602), (.ref 313), (.type "object")], 601, (zo "LookBook"), true, [], [], false, none, false⟩), #[(some (.ref 504)), none, (some (zsK "LookBook" 853)), (some (zsK "LookBook" 861)), (some (.builtin "object.__new__")), (some (.bool true))]⟩
def E603 : Obj := ⟨(.type "super"), none, (.fields #[(.ref 602), (.ref 602), (.ref 602)]), #[]⟩
def E604 : Obj := ⟨(.type "builtin_function_or_method"), none, (.fields #[(.builtin "object.__init_subclass__"), (.ref 602)]), #[]⟩
def F3 (P : Params) : Obj := ⟨(.type "dict"), none, (.dict #[⟨(zhK P "__name__"), (zsK "__name__" 165), (zsK "epochrooms.books" 394)⟩, ⟨(zhK P "__doc__"), (zsK "__doc__" 166), .none⟩, ⟨(zhK P "__package__"), (zsK "__package__" 167), .none⟩, ⟨(zhK P "__loader__"), (zsK "__loader__" 168), (.builtin "__main__.__loader__#opaque")⟩, ⟨(zhK P "__spec__"), (zsK "__spec__" 169), .none⟩, ⟨(zhK P "__annotations__"), (zsK "__annotations__" 170), (.ref 6)⟩, ⟨(zhK P "__builtins__"), (zsK "__builtins__" 171), (.ref 4)⟩, ⟨(zhK P "__file__"), (zsK "__file__" 173), (zsK "/claim/cut.py" 172)⟩, ⟨(zhK P "__cached__"), (zsK "__cached__" 174), .none⟩, ⟨(zhK P "_wall"), (zsK "_wall" 193), (.ref 21)⟩, ⟨(zhK P "RoomsError"), (zsK "RoomsError" 213), (.ref 31)⟩, ⟨(zhK P "NoSwitch"), (zsK "NoSwitch" 240), (.ref 53)⟩, ⟨(zhK P "NoValue"), (zsK "NoValue" 267), (.ref 74)⟩, ⟨(zhK P "NoBook"), (zsK "NoBook" 294), (.ref 95)⟩, ⟨(zhK P "NoSetting"), (zsK "NoSetting" 321), (.ref 116)⟩, ⟨(zhK P "NoMove"), (zsK "NoMove" 348), (.ref 137)⟩, ⟨(zhK P "IsSafe"), (zsK "IsSafe" 375), (.ref 158)⟩, ⟨(zhK P "is_number"), (zsK "is_number" 386), (.ref 167)⟩, ⟨(zhK P "is_whole"), (zsK "is_whole" 393), (.ref 174)⟩, ⟨(zhK P "ORDERS"), (zsK "ORDERS" 440), (.ref 175)⟩, ⟨(zhK P "LEAST_EPOCHS"), (zsK "LEAST_EPOCHS" 442), (.int 2 441)⟩, ⟨(zhK P "MOST_EPOCHS"), (zsK "MOST_EPOCHS" 444), (.int 6 443)⟩, ⟨(zhK P "MOST_COUNTS"), (zsK "MOST_COUNTS" 446), (.int 4 445)⟩, ⟨(zhK P "values_at"), (zsK "values_at" 454), (.ref 193)⟩, ⟨(zhK P "is_same"), (zsK "is_same" 462), (.ref 200)⟩, ⟨(zhK P "is_value"), (zsK "is_value" 468), (.ref 205)⟩, ⟨(zhK P "care"), (zsK "care" 478), (.ref 212)⟩, ⟨(zhK P "Book"), (zsK "Book" 608), (.ref 313)⟩, ⟨(zhK P "EpochBook"), (zsK "EpochBook" 852), (.ref 501)⟩, ⟨(zhK P "LookBook"), (zsK "LookBook" 988), (.ref 602)⟩, ⟨(zhK P "StillBook"), (zsK "StillBook" 1145), (.ref 720)⟩] 31), #[]⟩
def F12 : Obj := zn [(zi 1), (zi 0), (.ref 20), (zi 5), (zi 0), (.ref 27), (zi 7), (zi 0), (.ref 41), (zi 12), (zi 0), (.ref 62), (zi 17), (zi 0), (.ref 83), (zi 22), (zi 0), (.ref 104), (zi 27), (zi 0), (.ref 125), (zi 32), (zi 0), (.ref 146), (zi 38), (zi 0), (.ref 166), (zi 40), (zi 0), (.ref 173), (zi 47), (zi 0), (.ref 192), (zi 53), (zi 0), (.ref 199), (zi 59), (zi 0), (.ref 204), (zi 61), (zi 0), (.ref 211), (zi 70), (zi 0), (.ref 218), (zi 135), (zi 0), (.ref 324), (zi 217), (zi 0), (.ref 510), (zi 258), (zi 0), (.ref 611)]
def F313 : Obj := ⟨(.type "type"), none, (.cls ⟨(zo "Book"), [(.type "object")], [(.ref 313), (.type "object")], 312, (zo "Book"), true, [], [(.ref 501), (.ref 602), (.ref 720)], false, none, false⟩), #[none, none, (some (zsK "Book" 479)), (some (zsK "Book" 487)), (some (.builtin "object.__new__")), (some (.bool true))]⟩
def F605 : Obj := zt [(.ref 313)]
def F606 : Obj := ⟨(.type "builtin_function_or_method"), none, (.fields #[(.builtin "type.__prepare__"), (.type "type")]), #[]⟩
def F607 (P : Params) : Obj := ⟨(.type "dict"), none, (.dict #[⟨(zhK P "__module__"), (zsK "__module__" 996), (zsK "epochrooms.books" 394)⟩, ⟨(zhK P "__qualname__"), (zsK "__qualname__" 998), (zsK "StillBook" 997)⟩, ⟨(zhK P "__firstlineno__"), (zsK "__firstlineno__" 1000), (.int 258 999)⟩, ⟨(zhK P "WORDS"), (zsK "WORDS" 1005), (.ref 613)⟩, ⟨(zhK P "WAY"), (zsK "WAY" 1007), (zsK "still" 1006)⟩, ⟨(zhK P "__init__"), (zsK "__init__" 1025), (.ref 622)⟩, ⟨(zhK P "careful"), (zsK "careful" 1043), (.ref 631)⟩, ⟨(zhK P "hasty"), (zsK "hasty" 1061), (.ref 641)⟩, ⟨(zhK P "twin"), (zsK "twin" 1068), (.ref 649)⟩, ⟨(zhK P "counts"), (zsK "counts" 1076), (.ref 666)⟩, ⟨(zhK P "still"), (zsK "still" 1094), (.ref 683)⟩, ⟨(zhK P "read"), (zsK "read" 1112), (.ref 700)⟩, ⟨(zhK P "sleep"), (zsK "sleep" 1130), (.ref 717)⟩, ⟨(zhK P "__static_attributes__"), (zsK "__static_attributes__" 1141), (.ref 718)⟩, ⟨(zhK P "__classcell__"), (zsK "__classcell__" 1142), (.ref 608)⟩] 15), #[]⟩
def F608 : Obj := ⟨(.type "cell"), none, (.cell (some (.ref 720))), #[]⟩
def F609 : Obj := zt []
def F610 : Obj := zn [(zi 262), (zi 4), (.ref 621), (zi 266), (zi 4), (.ref 628), (zi 270), (zi 4), (.ref 638), (zi 273), (zi 4), (.ref 648), (zi 277), (zi 4), (.ref 655), (zi 281), (zi 4), (.ref 664), (zi 285), (zi 4), (.ref 672), (zi 289), (zi 4), (.ref 681), (zi 293), (zi 4), (.ref 689), (zi 297), (zi 4), (.ref 698), (zi 301), (zi 4), (.ref 706), (zi 305), (zi 4), (.ref 715)]
def F611 : Obj := zc [(zsK "StillBook" 991), (zsK "StillBook" 992), (zsK "/claim/cut.py" 993), (zi 258), (zi 0), (zi 0), (zi 0), (zi 0), (.ref 609), (.bool false), (zi 181), (.ref 610), .none, .none, .none, .none, (zi 994), (zi 258), (zsK "/claim/cut.py" 995)]
def F612 : Obj := ⟨(.type "frame"), none, .plain, #[(some (.ref 611)), (some (.ref 3)), (some (.ref 607)), none, (some (zsK "epochrooms.books" 394)), none, (some (.ref 0))]⟩
def F613 : Obj := zt [(zsK "counts" 1001), (zsK "still" 1002), (zsK "read" 1003), (zsK "sleep" 1004)]
def F614 (P : Params) : Obj := ⟨(.type "dict"), none, (.dict #[⟨(zhK P "still"), (zsK "still" 1011), (zsK "outside" 1008)⟩, ⟨(zhK P "read"), (zsK "read" 1012), (zsK "behind" 1009)⟩, ⟨(zhK P "sleep"), (zsK "sleep" 1013), (zsK "none" 1010)⟩] 3), #[]⟩
def F615 : Obj := zt [(.ref 608)]
def F616 : Obj := zt [(zsK "__class__" 1017)]
def F617 : Obj := zn []
def F618 : Obj := zt [(zsK "self" 1018), (zsK "counts" 1019), (zsK "still" 1020), (zsK "read" 1021), (zsK "sleep" 1022)]
def F619 : Obj := zt []
def F620 : Obj := ⟨.none, none, (.func ⟨(zo "__init__"), (zo "StillBook.__init__"), (zAC 24 2), (.stmts (zBC 24 2)), (zSC 24 2), 0, [], .none, .none, .none, .none, none, .none, .none, 0⟩), #[]⟩
def F621 : Obj := zc [(zsK "__init__" 1014), (zsK "StillBook.__init__" 1015), (zsK "/claim/cut.py" 1016), (zi 262), (zi 2), (zi 0), (zi 3), (zi 3), (.ref 616), (.bool true), (zi 181), (.ref 617), .none, (.ref 618), (.ref 619), (.ref 620), (zi 1023), (zi 262), (zsK "/claim/cut.py" 1024)]
def F622 : Obj := zf ⟨(zo "__init__"), (zo "StillBook.__init__"), (zAC 24 2), (.stmts (zBC 24 2)), (zSC 24 2), 3, [((zo "__class__"), 608)], .none, (.ref 614), .none, (zsK "epochrooms.books" 394), none, (.ref 621), (.ref 615), 0⟩
def F623 : Obj := zt []
def F624 : Obj := zn []
def F625 : Obj := zt []
def F626 : Obj := zt []
def F627 : Obj := ⟨.none, none, (.func ⟨(zo "careful"), (zo "StillBook.careful"), (zAC 24 4), (.stmts (zBC 24 3)), (zSC 24 3), 0, [], .none, .none, .none, .none, none, .none, .none, 0⟩), #[]⟩
def F628 : Obj := zc [(zsK "careful" 1026), (zsK "StillBook.careful" 1027), (zsK "/claim/cut.py" 1028), (zi 265), (zi 0), (zi 0), (zi 0), (zi 3), (.ref 623), (.bool true), (zi 181), (.ref 624), .none, (.ref 625), (.ref 626), (.ref 627), (zi 1029), (zi 265), (zsK "/claim/cut.py" 1030)]
def F629 : Obj := zf ⟨(zo "careful"), (zo "StillBook.careful"), (zAC 24 4), (.stmts (zBC 24 3)), (zSC 24 3), 3, [], .none, .none, .none, (zsK "epochrooms.books" 394), (some 632), (.ref 628), .none, 0⟩
def F630 (P : Params) : Obj := ⟨(.type "dict"), none, (.dict #[⟨(zhK P "__module__"), (zsK "__module__" 1032), (zsK "epochrooms.books" 394)⟩, ⟨(zhK P "__name__"), (zsK "__name__" 1035), (zsK "careful" 1034)⟩, ⟨(zhK P "__qualname__"), (zsK "__qualname__" 1038), (zsK "StillBook.careful" 1037)⟩, ⟨(zhK P "__doc__"), (zsK "__doc__" 1040), .none⟩, ⟨(zhK P "__annotations__"), (zsK "__annotations__" 1042), (.ref 632)⟩] 5), #[]⟩
def F631 : Obj := ⟨(.type "staticmethod"), (some 630), (.fields #[(.ref 629), (.bool false)]), #[]⟩
def F632 : Obj := ⟨(.type "dict"), none, (.dict #[] 0), #[]⟩
def F633 : Obj := zt []
def F634 : Obj := zn []
def F635 : Obj := zt []
def F636 : Obj := zt []
def F637 : Obj := ⟨.none, none, (.func ⟨(zo "hasty"), (zo "StillBook.hasty"), (zAC 24 4), (.stmts (zBC 24 4)), (zSC 24 4), 0, [], .none, .none, .none, .none, none, .none, .none, 0⟩), #[]⟩
def F638 : Obj := zc [(zsK "hasty" 1044), (zsK "StillBook.hasty" 1045), (zsK "/claim/cut.py" 1046), (zi 269), (zi 0), (zi 0), (zi 0), (zi 3), (.ref 633), (.bool true), (zi 181), (.ref 634), .none, (.ref 635), (.ref 636), (.ref 637), (zi 1047), (zi 269), (zsK "/claim/cut.py" 1048)]
def F639 : Obj := zf ⟨(zo "hasty"), (zo "StillBook.hasty"), (zAC 24 4), (.stmts (zBC 24 4)), (zSC 24 4), 3, [], .none, .none, .none, (zsK "epochrooms.books" 394), (some 642), (.ref 638), .none, 0⟩
def F640 (P : Params) : Obj := ⟨(.type "dict"), none, (.dict #[⟨(zhK P "__module__"), (zsK "__module__" 1050), (zsK "epochrooms.books" 394)⟩, ⟨(zhK P "__name__"), (zsK "__name__" 1053), (zsK "hasty" 1052)⟩, ⟨(zhK P "__qualname__"), (zsK "__qualname__" 1056), (zsK "StillBook.hasty" 1055)⟩, ⟨(zhK P "__doc__"), (zsK "__doc__" 1058), .none⟩, ⟨(zhK P "__annotations__"), (zsK "__annotations__" 1060), (.ref 642)⟩] 5), #[]⟩
def F641 : Obj := ⟨(.type "staticmethod"), (some 640), (.fields #[(.ref 639), (.bool false)]), #[]⟩
def F642 : Obj := ⟨(.type "dict"), none, (.dict #[] 0), #[]⟩
def F643 : Obj := zt []
def F644 : Obj := zn []
def F645 : Obj := zt [(zsK "self" 1065)]
def F646 : Obj := zt []
def F647 : Obj := ⟨.none, none, (.func ⟨(zo "twin"), (zo "StillBook.twin"), (zAC 24 5), (.stmts (zBC 24 5)), (zSC 24 5), 0, [], .none, .none, .none, .none, none, .none, .none, 0⟩), #[]⟩
def F648 : Obj := zc [(zsK "twin" 1062), (zsK "StillBook.twin" 1063), (zsK "/claim/cut.py" 1064), (zi 273), (zi 1), (zi 0), (zi 0), (zi 3), (.ref 643), (.bool true), (zi 181), (.ref 644), .none, (.ref 645), (.ref 646), (.ref 647), (zi 1066), (zi 273), (zsK "/claim/cut.py" 1067)]
def F649 : Obj := zm "twin" "StillBook.twin" 24 5 24 5 24 5 "epochrooms.books" 394 648
def F650 : Obj := zt []
def F651 : Obj := zn []
def F652 : Obj := zt [(zsK "self" 1072)]
def F653 : Obj := zt []
def F654 : Obj := ⟨.none, none, (.func ⟨(zo "counts"), (zo "StillBook.counts"), (zAC 24 6), (.stmts (zBC 24 6)), (zSC 51 3), 0, [], .none, .none, .none, .none, none, .none, .none, 0⟩), #[]⟩
def F655 : Obj := zc [(zsK "counts" 1069), (zsK "StillBook.counts" 1070), (zsK "/claim/cut.py" 1071), (zi 276), (zi 1), (zi 0), (zi 0), (zi 3), (.ref 650), (.bool true), (zi 181), (.ref 651), .none, (.ref 652), (.ref 653), (.ref 654), (zi 1073), (zi 276), (zsK "/claim/cut.py" 1074)]
def F656 : Obj := zm "counts" "StillBook.counts" 24 6 24 6 51 3 "epochrooms.books" 394 655
def F657 : Obj := ⟨(.type "property"), none, (.fields #[(.ref 656), .none, .none, .none, (zi 0), (.bool false)]), #[]⟩
def F658 : Obj := ⟨(.type "builtin_function_or_method"), none, (.fields #[(.builtin "property.setter"), (.ref 657)]), #[]⟩
def F659 : Obj := zt []
def F660 : Obj := zn []
def F661 : Obj := zt [(zsK "self" 1081), (zsK "value" 1082)]
def F662 : Obj := zt []
def F663 : Obj := ⟨.none, none, (.func ⟨(zo "counts"), (zo "StillBook.counts"), (zAC 24 7), (.stmts (zBC 24 7)), (zSC 24 13), 0, [], .none, .none, .none, .none, none, .none, .none, 0⟩), #[]⟩
def F664 : Obj := zc [(zsK "counts" 1078), (zsK "StillBook.counts" 1079), (zsK "/claim/cut.py" 1080), (zi 280), (zi 2), (zi 0), (zi 0), (zi 3), (.ref 659), (.bool true), (zi 181), (.ref 660), .none, (.ref 661), (.ref 662), (.ref 663), (zi 1083), (zi 280), (zsK "/claim/cut.py" 1084)]
def F665 : Obj := zm "counts" "StillBook.counts" 24 7 24 7 24 13 "epochrooms.books" 394 664
def F666 : Obj := ⟨(.type "property"), none, (.fields #[(.ref 656), (.ref 665), .none, .none, (zsK "counts" 1076), (.bool false)]), #[]⟩
def F667 : Obj := zt []
def F668 : Obj := zn []
def F669 : Obj := zt [(zsK "self" 1090)]
def F670 : Obj := zt []
def F671 : Obj := ⟨.none, none, (.func ⟨(zo "still"), (zo "StillBook.still"), (zAC 24 8), (.stmts (zBC 24 8)), (zSC 51 3), 0, [], .none, .none, .none, .none, none, .none, .none, 0⟩), #[]⟩
def F672 : Obj := zc [(zsK "still" 1087), (zsK "StillBook.still" 1088), (zsK "/claim/cut.py" 1089), (zi 284), (zi 1), (zi 0), (zi 0), (zi 3), (.ref 667), (.bool true), (zi 181), (.ref 668), .none, (.ref 669), (.ref 670), (.ref 671), (zi 1091), (zi 284), (zsK "/claim/cut.py" 1092)]
def F673 : Obj := zm "still" "StillBook.still" 24 8 24 8 51 3 "epochrooms.books" 394 672
def F674 : Obj := ⟨(.type "property"), none, (.fields #[(.ref 673), .none, .none, .none, (zi 0), (.bool false)]), #[]⟩
def F675 : Obj := ⟨(.type "builtin_function_or_method"), none, (.fields #[(.builtin "property.setter"), (.ref 674)]), #[]⟩
def F676 : Obj := zt []
def F677 : Obj := zn []
def F678 : Obj := zt [(zsK "self" 1099), (zsK "value" 1100)]
def F679 : Obj := zt []
def F680 : Obj := ⟨.none, none, (.func ⟨(zo "still"), (zo "StillBook.still"), (zAC 24 9), (.stmts (zBC 24 9)), (zSC 24 13), 0, [], .none, .none, .none, .none, none, .none, .none, 0⟩), #[]⟩
def F681 : Obj := zc [(zsK "still" 1096), (zsK "StillBook.still" 1097), (zsK "/claim/cut.py" 1098), (zi 288), (zi 2), (zi 0), (zi 0), (zi 3), (.ref 676), (.bool true), (zi 181), (.ref 677), .none, (.ref 678), (.ref 679), (.ref 680), (zi 1101), (zi 288), (zsK "/claim/cut.py" 1102)]
def F682 : Obj := zm "still" "StillBook.still" 24 9 24 9 24 13 "epochrooms.books" 394 681
def F683 : Obj := ⟨(.type "property"), none, (.fields #[(.ref 673), (.ref 682), .none, .none, (zsK "still" 1094), (.bool false)]), #[]⟩
def F684 : Obj := zt []
def F685 : Obj := zn []
def F686 : Obj := zt [(zsK "self" 1108)]
def F687 : Obj := zt []
def F688 : Obj := ⟨.none, none, (.func ⟨(zo "read"), (zo "StillBook.read"), (zAC 24 10), (.stmts (zBC 24 10)), (zSC 51 3), 0, [], .none, .none, .none, .none, none, .none, .none, 0⟩), #[]⟩
def F689 : Obj := zc [(zsK "read" 1105), (zsK "StillBook.read" 1106), (zsK "/claim/cut.py" 1107), (zi 292), (zi 1), (zi 0), (zi 0), (zi 3), (.ref 684), (.bool true), (zi 181), (.ref 685), .none, (.ref 686), (.ref 687), (.ref 688), (zi 1109), (zi 292), (zsK "/claim/cut.py" 1110)]
def F690 : Obj := zm "read" "StillBook.read" 24 10 24 10 51 3 "epochrooms.books" 394 689
def F691 : Obj := ⟨(.type "property"), none, (.fields #[(.ref 690), .none, .none, .none, (zi 0), (.bool false)]), #[]⟩
def F692 : Obj := ⟨(.type "builtin_function_or_method"), none, (.fields #[(.builtin "property.setter"), (.ref 691)]), #[]⟩
def F693 : Obj := zt []
def F694 : Obj := zn []
def F695 : Obj := zt [(zsK "self" 1117), (zsK "value" 1118)]
def F696 : Obj := zt []
def F697 : Obj := ⟨.none, none, (.func ⟨(zo "read"), (zo "StillBook.read"), (zAC 24 11), (.stmts (zBC 24 11)), (zSC 24 13), 0, [], .none, .none, .none, .none, none, .none, .none, 0⟩), #[]⟩
def F698 : Obj := zc [(zsK "read" 1114), (zsK "StillBook.read" 1115), (zsK "/claim/cut.py" 1116), (zi 296), (zi 2), (zi 0), (zi 0), (zi 3), (.ref 693), (.bool true), (zi 181), (.ref 694), .none, (.ref 695), (.ref 696), (.ref 697), (zi 1119), (zi 296), (zsK "/claim/cut.py" 1120)]
def F699 : Obj := zm "read" "StillBook.read" 24 11 24 11 24 13 "epochrooms.books" 394 698
def F700 : Obj := ⟨(.type "property"), none, (.fields #[(.ref 690), (.ref 699), .none, .none, (zsK "read" 1112), (.bool false)]), #[]⟩
def F701 : Obj := zt []
def F702 : Obj := zn []
def F703 : Obj := zt [(zsK "self" 1126)]
def F704 : Obj := zt []
def F705 : Obj := ⟨.none, none, (.func ⟨(zo "sleep"), (zo "StillBook.sleep"), (zAC 24 12), (.stmts (zBC 24 12)), (zSC 51 3), 0, [], .none, .none, .none, .none, none, .none, .none, 0⟩), #[]⟩
def F706 : Obj := zc [(zsK "sleep" 1123), (zsK "StillBook.sleep" 1124), (zsK "/claim/cut.py" 1125), (zi 300), (zi 1), (zi 0), (zi 0), (zi 3), (.ref 701), (.bool true), (zi 181), (.ref 702), .none, (.ref 703), (.ref 704), (.ref 705), (zi 1127), (zi 300), (zsK "/claim/cut.py" 1128)]
def F707 : Obj := zm "sleep" "StillBook.sleep" 24 12 24 12 51 3 "epochrooms.books" 394 706
def F708 : Obj := ⟨(.type "property"), none, (.fields #[(.ref 707), .none, .none, .none, (zi 0), (.bool false)]), #[]⟩
def F709 : Obj := ⟨(.type "builtin_function_or_method"), none, (.fields #[(.builtin "property.setter"), (.ref 708)]), #[]⟩
def F710 : Obj := zt []
def F711 : Obj := zn []
def F712 : Obj := zt [(zsK "self" 1135), (zsK "value" 1136)]
def F713 : Obj := zt []
def F714 : Obj := ⟨.none, none, (.func ⟨(zo "sleep"), (zo "StillBook.sleep"), (zAC 24 13), (.stmts (zBC 24 13)), (zSC 24 13), 0, [], .none, .none, .none, .none, none, .none, .none, 0⟩), #[]⟩
def F715 : Obj := zc [(zsK "sleep" 1132), (zsK "StillBook.sleep" 1133), (zsK "/claim/cut.py" 1134), (zi 304), (zi 2), (zi 0), (zi 0), (zi 3), (.ref 710), (.bool true), (zi 181), (.ref 711), .none, (.ref 712), (.ref 713), (.ref 714), (zi 1137), (zi 304), (zsK "/claim/cut.py" 1138)]
def F716 : Obj := zm "sleep" "StillBook.sleep" 24 13 24 13 24 13 "epochrooms.books" 394 715
def F717 : Obj := ⟨(.type "property"), none, (.fields #[(.ref 707), (.ref 716), .none, .none, (zsK "sleep" 1130), (.bool false)]), #[]⟩
def F718 : Obj := zt []
def F719 (P : Params) : Obj := ⟨(.type "dict"), none, (.dict #[⟨(zhK P "__module__"), (zsK "__module__" 996), (zsK "epochrooms.books" 394)⟩, ⟨(zhK P "__firstlineno__"), (zsK "__firstlineno__" 1000), (.int 258 999)⟩, ⟨(zhK P "WORDS"), (zsK "WORDS" 1005), (.ref 613)⟩, ⟨(zhK P "WAY"), (zsK "WAY" 1007), (zsK "still" 1006)⟩, ⟨(zhK P "__init__"), (zsK "__init__" 1025), (.ref 622)⟩, ⟨(zhK P "careful"), (zsK "careful" 1043), (.ref 631)⟩, ⟨(zhK P "hasty"), (zsK "hasty" 1061), (.ref 641)⟩, ⟨(zhK P "twin"), (zsK "twin" 1068), (.ref 649)⟩, ⟨(zhK P "counts"), (zsK "counts" 1076), (.ref 666)⟩, ⟨(zhK P "still"), (zsK "still" 1094), (.ref 683)⟩, ⟨(zhK P "read"), (zsK "read" 1112), (.ref 700)⟩, ⟨(zhK P "sleep"), (zsK "sleep" 1130), (.ref 717)⟩, ⟨(zhK P "__static_attributes__"), (zsK "__static_attributes__" 1141), (.ref 718)⟩, ⟨(zhK P "__doc__"), (zsK "__doc__" 1143), .none⟩] 3), #[]⟩
def F720 : Obj := ⟨(.type "type"), none, (.cls ⟨(zo "StillBook"), [(.ref 313)], [(.ref 720), (.ref 313), (.type "object")], 719, (zo "StillBook"), true, [], [], false, none, false⟩), #[(some (.ref 605)), none, (some (zsK "StillBook" 989)), (some (zsK "StillBook" 997)), (some (.builtin "object.__new__")), (some (.bool true))]⟩
def F721 : Obj := ⟨(.type "super"), none, (.fields #[(.ref 720), (.ref 720), (.ref 720)]), #[]⟩
def F722 : Obj := ⟨(.type "builtin_function_or_method"), none, (.fields #[(.builtin "object.__init_subclass__"), (.ref 720)]), #[]⟩
def G3 (P : Params) : Obj := ⟨(.type "dict"), none, (.dict #[⟨(zhK P "__name__"), (zsK "__name__" 165), (zsK "law_epochrooms_k45_verdicts_refused" 1680)⟩, ⟨(zhK P "__doc__"), (zsK "__doc__" 166), .none⟩, ⟨(zhK P "__package__"), (zsK "__package__" 167), .none⟩, ⟨(zhK P "__loader__"), (zsK "__loader__" 168), (.builtin "__main__.__loader__#opaque")⟩, ⟨(zhK P "__spec__"), (zsK "__spec__" 169), .none⟩, ⟨(zhK P "__annotations__"), (zsK "__annotations__" 170), (.ref 6)⟩, ⟨(zhK P "__builtins__"), (zsK "__builtins__" 171), (.ref 4)⟩, ⟨(zhK P "__file__"), (zsK "__file__" 173), (zsK "/claim/cut.py" 172)⟩, ⟨(zhK P "__cached__"), (zsK "__cached__" 174), .none⟩, ⟨(zhK P "_wall"), (zsK "_wall" 193), (.ref 21)⟩, ⟨(zhK P "RoomsError"), (zsK "RoomsError" 213), (.ref 31)⟩, ⟨(zhK P "NoSwitch"), (zsK "NoSwitch" 240), (.ref 53)⟩, ⟨(zhK P "NoValue"), (zsK "NoValue" 267), (.ref 74)⟩, ⟨(zhK P "NoBook"), (zsK "NoBook" 294), (.ref 95)⟩, ⟨(zhK P "NoSetting"), (zsK "NoSetting" 321), (.ref 116)⟩, ⟨(zhK P "NoMove"), (zsK "NoMove" 348), (.ref 137)⟩, ⟨(zhK P "IsSafe"), (zsK "IsSafe" 375), (.ref 158)⟩, ⟨(zhK P "is_number"), (zsK "is_number" 386), (.ref 167)⟩, ⟨(zhK P "is_whole"), (zsK "is_whole" 393), (.ref 174)⟩, ⟨(zhK P "ORDERS"), (zsK "ORDERS" 440), (.ref 175)⟩, ⟨(zhK P "LEAST_EPOCHS"), (zsK "LEAST_EPOCHS" 442), (.int 2 441)⟩, ⟨(zhK P "MOST_EPOCHS"), (zsK "MOST_EPOCHS" 444), (.int 6 443)⟩, ⟨(zhK P "MOST_COUNTS"), (zsK "MOST_COUNTS" 446), (.int 4 445)⟩, ⟨(zhK P "values_at"), (zsK "values_at" 454), (.ref 193)⟩, ⟨(zhK P "is_same"), (zsK "is_same" 462), (.ref 200)⟩, ⟨(zhK P "is_value"), (zsK "is_value" 468), (.ref 205)⟩, ⟨(zhK P "care"), (zsK "care" 478), (.ref 212)⟩, ⟨(zhK P "Book"), (zsK "Book" 608), (.ref 313)⟩, ⟨(zhK P "EpochBook"), (zsK "EpochBook" 852), (.ref 501)⟩, ⟨(zhK P "LookBook"), (zsK "LookBook" 988), (.ref 602)⟩, ⟨(zhK P "StillBook"), (zsK "StillBook" 1145), (.ref 720)⟩, ⟨(zhK P "is_book"), (zsK "is_book" 1152), (.ref 729)⟩, ⟨(zhK P "look_at_book"), (zsK "look_at_book" 1159), (.ref 736)⟩, ⟨(zhK P "EPOCHS"), (zsK "EPOCHS" 1167), (.ref 737)⟩, ⟨(zhK P "least_needed"), (zsK "least_needed" 1174), (.ref 744)⟩, ⟨(zhK P "is_safe"), (zsK "is_safe" 1182), (.ref 751)⟩, ⟨(zhK P "span"), (zsK "span" 1189), (.ref 758)⟩, ⟨(zhK P "epoch_faults"), (zsK "epoch_faults" 1197), (.ref 765)⟩, ⟨(zhK P "still_faults"), (zsK "still_faults" 1205), (.ref 772)⟩, ⟨(zhK P "look_faults"), (zsK "look_faults" 1212), (.ref 779)⟩, ⟨(zhK P "FAULTS"), (zsK "FAULTS" 1219), (.ref 780)⟩, ⟨(zhK P "faults"), (zsK "faults" 1225), (.ref 785)⟩, ⟨(zhK P "look_at_epochs"), (zsK "look_at_epochs" 1232), (.ref 792)⟩, ⟨(zhK P "least_behind"), (zsK "least_behind" 1240), (.ref 799)⟩, ⟨(zhK P "fewest_epochs"), (zsK "fewest_epochs" 1247), (.ref 806)⟩, ⟨(zhK P "safe_numbers"), (zsK "safe_numbers" 1257), (.ref 813)⟩, ⟨(zhK P "MOST_READERS"), (zsK "MOST_READERS" 1261), (.int 3 1260)⟩, ⟨(zhK P "MOST_TAKERS"), (zsK "MOST_TAKERS" 1263), (.int 2 1262)⟩, ⟨(zhK P "MOST_STEPPERS"), (zsK "MOST_STEPPERS" 1265), (.int 7 1264)⟩, ⟨(zhK P "MOST_THINGS"), (zsK "MOST_THINGS" 1267), (.int 40 1266)⟩, ⟨(zhK P "Setting"), (zsK "Setting" 1359), (.ref 878)⟩, ⟨(zhK P "look_at_setting"), (zsK "look_at_setting" 1366), (.ref 889)⟩, ⟨(zhK P "KINDS"), (zsK "KINDS" 1376), (.ref 890)⟩, ⟨(zhK P "by_hand"), (zsK "by_hand" 1384), (.ref 895)⟩, ⟨(zhK P "Script"), (zsK "Script" 1494), (.ref 976)⟩, ⟨(zhK P "got_ahead"), (zsK "got_ahead" 1502), (.ref 987)⟩, ⟨(zhK P "old_steppers"), (zsK "old_steppers" 1512), (.ref 994)⟩, ⟨(zhK P "adders"), (zsK "adders" 1522), (.ref 1001)⟩, ⟨(zhK P "old_mark"), (zsK "old_mark" 1531), (.ref 1008)⟩, ⟨(zhK P "old_word"), (zsK "old_word" 1540), (.ref 1015)⟩, ⟨(zhK P "own_mark"), (zsK "own_mark" 1548), (.ref 1022)⟩, ⟨(zhK P "break_epochs"), (zsK "break_epochs" 1555), (.ref 1029)⟩, ⟨(zhK P "break_looks"), (zsK "break_looks" 1565), (.ref 1036)⟩, ⟨(zhK P "break_still"), (zsK "break_still" 1576), (.ref 1043)⟩, ⟨(zhK P "BREAKS"), (zsK "BREAKS" 1583), (.ref 1044)⟩, ⟨(zhK P "breaking"), (zsK "breaking" 1593), (.ref 1051)⟩, ⟨(zhK P "compared"), (zsK "compared" 1603), (.ref 1058)⟩, ⟨(zhK P "DEEDS"), (zsK "DEEDS" 1629), (.ref 1059)⟩, ⟨(zhK P "written_value"), (zsK "written_value" 1636), (.ref 1066)⟩, ⟨(zhK P "book_words"), (zsK "book_words" 1642), (.ref 1071)⟩, ⟨(zhK P "write_book"), (zsK "write_book" 1649), (.ref 1078)⟩, ⟨(zhK P "write_setting"), (zsK "write_setting" 1655), (.ref 1083)⟩, ⟨(zhK P "is_written_move"), (zsK "is_written_move" 1662), (.ref 1090)⟩, ⟨(zhK P "write_run"), (zsK "write_run" 1668), (.ref 1095)⟩, ⟨(zhK P "paper_of"), (zsK "paper_of" 1679), (.ref 1102)⟩, ⟨(zhK P "_law_ask"), (zsK "_law_ask" 1689), (.ref 1109)⟩, ⟨(zhK P "_law_refused"), (zsK "_law_refused" 1700), (.ref 1116)⟩, ⟨(zhK P "law"), (zsK "law" 1711), (.ref 1123)⟩] 78), #[]⟩
def G12 : Obj := zn [(zi 1), (zi 0), (.ref 20), (zi 5), (zi 0), (.ref 27), (zi 7), (zi 0), (.ref 41), (zi 12), (zi 0), (.ref 62), (zi 17), (zi 0), (.ref 83), (zi 22), (zi 0), (.ref 104), (zi 27), (zi 0), (.ref 125), (zi 32), (zi 0), (.ref 146), (zi 38), (zi 0), (.ref 166), (zi 40), (zi 0), (.ref 173), (zi 47), (zi 0), (.ref 192), (zi 53), (zi 0), (.ref 199), (zi 59), (zi 0), (.ref 204), (zi 61), (zi 0), (.ref 211), (zi 70), (zi 0), (.ref 218), (zi 135), (zi 0), (.ref 324), (zi 217), (zi 0), (.ref 510), (zi 258), (zi 0), (.ref 611), (zi 307), (zi 0), (.ref 728), (zi 309), (zi 0), (.ref 735), (zi 314), (zi 0), (.ref 743), (zi 320), (zi 0), (.ref 750), (zi 330), (zi 0), (.ref 757), (zi 337), (zi 0), (.ref 764), (zi 340), (zi 0), (.ref 771), (zi 343), (zi 0), (.ref 778), (zi 346), (zi 0), (.ref 784), (zi 350), (zi 0), (.ref 791), (zi 353), (zi 0), (.ref 798), (zi 357), (zi 0), (.ref 805), (zi 360), (zi 0), (.ref 812), (zi 372), (zi 0), (.ref 819), (zi 404), (zi 0), (.ref 888), (zi 409), (zi 0), (.ref 894), (zi 411), (zi 0), (.ref 901), (zi 459), (zi 0), (.ref 986), (zi 467), (zi 0), (.ref 993), (zi 481), (zi 0), (.ref 1000), (zi 493), (zi 0), (.ref 1007), (zi 505), (zi 0), (.ref 1014), (zi 519), (zi 0), (.ref 1021), (zi 528), (zi 0), (.ref 1028), (zi 540), (zi 0), (.ref 1035), (zi 558), (zi 0), (.ref 1042), (zi 577), (zi 0), (.ref 1050), (zi 587), (zi 0), (.ref 1057), (zi 595), (zi 0), (.ref 1065), (zi 599), (zi 0), (.ref 1070), (zi 601), (zi 0), (.ref 1077), (zi 604), (zi 0), (.ref 1082), (zi 607), (zi 0), (.ref 1089), (zi 611), (zi 0), (.ref 1094), (zi 619), (zi 0), (.ref 1101), (zi 626), (zi 0), (.ref 1108), (zi 646), (zi 0), (.ref 1115), (zi 654), (zi 0), (.ref 1122)]
def G723 : Obj := zt []
def G724 : Obj := zn []
def G725 : Obj := zt [(zsK "value" 1149)]
def G726 : Obj := zt []
def G727 : Obj := ⟨.none, none, (.func ⟨(zo "is_book"), (zo "is_book"), (zA 25), (.stmts (zB 25)), (zS 25), 0, [], .none, .none, .none, .none, none, .none, .none, 0⟩), #[]⟩
def G728 : Obj := zc [(zsK "is_book" 1146), (zsK "is_book" 1147), (zsK "/claim/cut.py" 1148), (zi 307), (zi 1), (zi 0), (zi 0), (zi 3), (.ref 723), (.bool true), (zi 181), (.ref 724), .none, (.ref 725), (.ref 726), (.ref 727), (zi 1150), (zi 307), (zsK "/claim/cut.py" 1151)]
def G729 : Obj := zf ⟨(zo "is_book"), (zo "is_book"), (zA 25), (.stmts (zB 25)), (zS 25), 3, [], .none, .none, .none, (zsK "epochrooms.books" 394), none, (.ref 728), .none, 0⟩
def G730 : Obj := zt []
def G731 : Obj := zn []
def G732 : Obj := zt [(zsK "value" 1156)]
def G733 : Obj := zt []
def G734 : Obj := ⟨.none, none, (.func ⟨(zo "look_at_book"), (zo "look_at_book"), (zA 26), (.stmts (zB 26)), (zS 26), 0, [], .none, .none, .none, .none, none, .none, .none, 0⟩), #[]⟩
def G735 : Obj := zc [(zsK "look_at_book" 1153), (zsK "look_at_book" 1154), (zsK "/claim/cut.py" 1155), (zi 309), (zi 1), (zi 0), (zi 0), (zi 3), (.ref 730), (.bool true), (zi 181), (.ref 731), .none, (.ref 732), (.ref 733), (.ref 734), (zi 1157), (zi 309), (zsK "/claim/cut.py" 1158)]
def G736 : Obj := zf ⟨(zo "look_at_book"), (zo "look_at_book"), (zA 26), (.stmts (zB 26)), (zS 26), 3, [], .none, .none, .none, (zsK "epochrooms.books" 394), none, (.ref 735), .none, 0⟩
def G737 : Obj := zt [(.int 2 1162), (.int 3 1163), (.int 4 1164), (.int 5 1165), (.int 6 1166)]
def G738 : Obj := zt []
def G739 : Obj := zn []
def G740 : Obj := zt [(zsK "book" 1171)]
def G741 : Obj := zt []
def G742 : Obj := ⟨.none, none, (.func ⟨(zo "least_needed"), (zo "least_needed"), (zA 29), (.stmts (zB 29)), (zS 34), 0, [], .none, .none, .none, .none, none, .none, .none, 0⟩), #[]⟩
def G743 : Obj := zc [(zsK "least_needed" 1168), (zsK "least_needed" 1169), (zsK "/claim/cut.py" 1170), (zi 314), (zi 1), (zi 0), (zi 0), (zi 3), (.ref 738), (.bool true), (zi 181), (.ref 739), .none, (.ref 740), (.ref 741), (.ref 742), (zi 1172), (zi 314), (zsK "/claim/cut.py" 1173)]
def G744 : Obj := zf ⟨(zo "least_needed"), (zo "least_needed"), (zA 29), (.stmts (zB 29)), (zS 34), 3, [], .none, .none, .none, (zsK "epochrooms.verdicts" 1160), none, (.ref 743), .none, 0⟩
def G745 : Obj := zt []
def G746 : Obj := zn []
def G747 : Obj := zt [(zsK "book" 1178), (zsK "needed" 1179)]
def G748 : Obj := zt []
def G749 : Obj := ⟨.none, none, (.func ⟨(zo "is_safe"), (zo "is_safe"), (zA 30), (.stmts (zB 30)), (zS 30), 0, [], .none, .none, .none, .none, none, .none, .none, 0⟩), #[]⟩
def G750 : Obj := zc [(zsK "is_safe" 1175), (zsK "is_safe" 1176), (zsK "/claim/cut.py" 1177), (zi 320), (zi 1), (zi 0), (zi 0), (zi 3), (.ref 745), (.bool true), (zi 181), (.ref 746), .none, (.ref 747), (.ref 748), (.ref 749), (zi 1180), (zi 320), (zsK "/claim/cut.py" 1181)]
def G751 : Obj := zf ⟨(zo "is_safe"), (zo "is_safe"), (zA 30), (.stmts (zB 30)), (zS 30), 3, [], .none, .none, .none, (zsK "epochrooms.verdicts" 1160), none, (.ref 750), .none, 0⟩
def G752 : Obj := zt []
def G753 : Obj := zn []
def G754 : Obj := zt [(zsK "book" 1186)]
def G755 : Obj := zt []
def G756 : Obj := ⟨.none, none, (.func ⟨(zo "span"), (zo "span"), (zA 31), (.stmts (zB 31)), (zS 31), 0, [], .none, .none, .none, .none, none, .none, .none, 0⟩), #[]⟩
def G757 : Obj := zc [(zsK "span" 1183), (zsK "span" 1184), (zsK "/claim/cut.py" 1185), (zi 330), (zi 1), (zi 0), (zi 0), (zi 3), (.ref 752), (.bool true), (zi 181), (.ref 753), .none, (.ref 754), (.ref 755), (.ref 756), (zi 1187), (zi 330), (zsK "/claim/cut.py" 1188)]
def G758 : Obj := zf ⟨(zo "span"), (zo "span"), (zA 31), (.stmts (zB 31)), (zS 31), 3, [], .none, .none, .none, (zsK "epochrooms.verdicts" 1160), none, (.ref 757), .none, 0⟩
def G759 : Obj := zt []
def G760 : Obj := zn []
def G761 : Obj := zt [(zsK "book" 1193), (zsK "few" 1194)]
def G762 : Obj := zt []
def G763 : Obj := ⟨.none, none, (.func ⟨(zo "epoch_faults"), (zo "epoch_faults"), (zA 32), (.stmts (zB 32)), (zS 32), 0, [], .none, .none, .none, .none, none, .none, .none, 0⟩), #[]⟩
def G764 : Obj := zc [(zsK "epoch_faults" 1190), (zsK "epoch_faults" 1191), (zsK "/claim/cut.py" 1192), (zi 337), (zi 1), (zi 0), (zi 0), (zi 3), (.ref 759), (.bool true), (zi 181), (.ref 760), .none, (.ref 761), (.ref 762), (.ref 763), (zi 1195), (zi 337), (zsK "/claim/cut.py" 1196)]
def G765 : Obj := zf ⟨(zo "epoch_faults"), (zo "epoch_faults"), (zA 32), (.stmts (zB 32)), (zS 32), 3, [], .none, .none, .none, (zsK "epochrooms.verdicts" 1160), none, (.ref 764), .none, 0⟩
def G766 : Obj := zt []
def G767 : Obj := zn []
def G768 : Obj := zt [(zsK "book" 1201), (zsK "many" 1202)]
def G769 : Obj := zt []
def G770 : Obj := ⟨.none, none, (.func ⟨(zo "still_faults"), (zo "still_faults"), (zA 33), (.stmts (zB 33)), (zS 33), 0, [], .none, .none, .none, .none, none, .none, .none, 0⟩), #[]⟩
def G771 : Obj := zc [(zsK "still_faults" 1198), (zsK "still_faults" 1199), (zsK "/claim/cut.py" 1200), (zi 340), (zi 1), (zi 0), (zi 0), (zi 3), (.ref 766), (.bool true), (zi 181), (.ref 767), .none, (.ref 768), (.ref 769), (.ref 770), (zi 1203), (zi 340), (zsK "/claim/cut.py" 1204)]
def G772 : Obj := zf ⟨(zo "still_faults"), (zo "still_faults"), (zA 33), (.stmts (zB 33)), (zS 33), 3, [], .none, .none, .none, (zsK "epochrooms.verdicts" 1160), none, (.ref 771), .none, 0⟩
def G773 : Obj := zt []
def G774 : Obj := zn []
def G775 : Obj := zt [(zsK "book" 1209)]
def G776 : Obj := zt []
def G777 : Obj := ⟨.none, none, (.func ⟨(zo "look_faults"), (zo "look_faults"), (zA 34), (.stmts (zB 34)), (zS 34), 0, [], .none, .none, .none, .none, none, .none, .none, 0⟩), #[]⟩
def G778 : Obj := zc [(zsK "look_faults" 1206), (zsK "look_faults" 1207), (zsK "/claim/cut.py" 1208), (zi 343), (zi 1), (zi 0), (zi 0), (zi 3), (.ref 773), (.bool true), (zi 181), (.ref 774), .none, (.ref 775), (.ref 776), (.ref 777), (zi 1210), (zi 343), (zsK "/claim/cut.py" 1211)]
def G779 : Obj := zf ⟨(zo "look_faults"), (zo "look_faults"), (zA 34), (.stmts (zB 34)), (zS 34), 3, [], .none, .none, .none, (zsK "epochrooms.verdicts" 1160), none, (.ref 778), .none, 0⟩
def G780 (P : Params) : Obj := ⟨(.type "dict"), none, (.dict #[⟨(zhK P "epochs"), (zsK "epochs" 1213), (.ref 765)⟩, ⟨(zhK P "looks"), (zsK "looks" 1214), (.ref 779)⟩, ⟨(zhK P "still"), (zsK "still" 1215), (.ref 772)⟩] 3), #[]⟩
def G781 : Obj := zt []
def G782 : Obj := zn []
def G783 : Obj := ⟨.none, none, (.func ⟨(zo "faults"), (zo "faults"), (zA 36), (.stmts (zB 36)), (zS 36), 0, [], .none, .none, .none, .none, none, .none, .none, 0⟩), #[]⟩
def G784 : Obj := zc [(zsK "faults" 1220), (zsK "faults" 1221), (zsK "/claim/cut.py" 1222), (zi 346), (zi 1), (zi 0), (zi 0), (zi 3), (.ref 781), (.bool true), (zi 181), (.ref 782), .none, .none, .none, (.ref 783), (zi 1223), (zi 346), (zsK "/claim/cut.py" 1224)]
def G785 : Obj := zf ⟨(zo "faults"), (zo "faults"), (zA 36), (.stmts (zB 36)), (zS 36), 3, [], .none, .none, .none, (zsK "epochrooms.verdicts" 1160), none, (.ref 784), .none, 0⟩
def G786 : Obj := zt []
def G787 : Obj := zn []
def G788 : Obj := zt [(zsK "book" 1229)]
def G789 : Obj := zt []
def G790 : Obj := ⟨.none, none, (.func ⟨(zo "look_at_epochs"), (zo "look_at_epochs"), (zA 37), (.stmts (zB 37)), (zS 37), 0, [], .none, .none, .none, .none, none, .none, .none, 0⟩), #[]⟩
def G791 : Obj := zc [(zsK "look_at_epochs" 1226), (zsK "look_at_epochs" 1227), (zsK "/claim/cut.py" 1228), (zi 350), (zi 1), (zi 0), (zi 0), (zi 3), (.ref 786), (.bool true), (zi 181), (.ref 787), .none, (.ref 788), (.ref 789), (.ref 790), (zi 1230), (zi 350), (zsK "/claim/cut.py" 1231)]
def G792 : Obj := zf ⟨(zo "look_at_epochs"), (zo "look_at_epochs"), (zA 37), (.stmts (zB 37)), (zS 37), 3, [], .none, .none, .none, (zsK "epochrooms.verdicts" 1160), none, (.ref 791), .none, 0⟩
def G793 : Obj := zt []
def G794 : Obj := zn []
def G795 : Obj := zt [(zsK "book" 1236), (zsK "needed" 1237)]
def G796 : Obj := zt []
def G797 : Obj := ⟨.none, none, (.func ⟨(zo "least_behind"), (zo "least_behind"), (zA 38), (.stmts (zB 38)), (zS 38), 0, [], .none, .none, .none, .none, none, .none, .none, 0⟩), #[]⟩
def G798 : Obj := zc [(zsK "least_behind" 1233), (zsK "least_behind" 1234), (zsK "/claim/cut.py" 1235), (zi 353), (zi 1), (zi 0), (zi 0), (zi 3), (.ref 793), (.bool true), (zi 181), (.ref 794), .none, (.ref 795), (.ref 796), (.ref 797), (zi 1238), (zi 353), (zsK "/claim/cut.py" 1239)]
def G799 : Obj := zf ⟨(zo "least_behind"), (zo "least_behind"), (zA 38), (.stmts (zB 38)), (zS 38), 3, [], .none, .none, .none, (zsK "epochrooms.verdicts" 1160), none, (.ref 798), .none, 0⟩
def G800 : Obj := zt []
def G801 : Obj := zn []
def G802 : Obj := zt [(zsK "book" 1244)]
def G803 : Obj := zt []
def G804 : Obj := ⟨.none, none, (.func ⟨(zo "fewest_epochs"), (zo "fewest_epochs"), (zA 39), (.stmts (zB 39)), (zS 39), 0, [], .none, .none, .none, .none, none, .none, .none, 0⟩), #[]⟩
def G805 : Obj := zc [(zsK "fewest_epochs" 1241), (zsK "fewest_epochs" 1242), (zsK "/claim/cut.py" 1243), (zi 357), (zi 1), (zi 0), (zi 0), (zi 3), (.ref 800), (.bool true), (zi 181), (.ref 801), .none, (.ref 802), (.ref 803), (.ref 804), (zi 1245), (zi 357), (zsK "/claim/cut.py" 1246)]
def G806 : Obj := zf ⟨(zo "fewest_epochs"), (zo "fewest_epochs"), (zA 39), (.stmts (zB 39)), (zS 39), 3, [], .none, .none, .none, (zsK "epochrooms.verdicts" 1160), none, (.ref 805), .none, 0⟩
def G807 : Obj := zt []
def G808 : Obj := zn []
def G809 : Obj := zt [(zsK "book" 1251), (zsK "needed" 1252), (zsK "epochs" 1253), (zsK "behind" 1254)]
def G810 : Obj := zt []
def G811 : Obj := ⟨.none, none, (.func ⟨(zo "safe_numbers"), (zo "safe_numbers"), (zA 40), (.stmts (zB 40)), (zS 40), 0, [], .none, .none, .none, .none, none, .none, .none, 0⟩), #[]⟩
def G812 : Obj := zc [(zsK "safe_numbers" 1248), (zsK "safe_numbers" 1249), (zsK "/claim/cut.py" 1250), (zi 360), (zi 1), (zi 0), (zi 0), (zi 35), (.ref 807), (.bool true), (zi 181), (.ref 808), .none, (.ref 809), (.ref 810), (.ref 811), (zi 1255), (zi 360), (zsK "/claim/cut.py" 1256)]
def G813 : Obj := zf ⟨(zo "safe_numbers"), (zo "safe_numbers"), (zA 40), (.stmts (zB 40)), (zS 40), 3, [], .none, .none, .none, (zsK "epochrooms.verdicts" 1160), none, (.ref 812), .none, 0⟩
def G814 : Obj := zt []
def G815 : Obj := ⟨(.type "builtin_function_or_method"), none, (.fields #[(.builtin "type.__prepare__"), (.type "type")]), #[]⟩
def G816 (P : Params) : Obj := ⟨(.type "dict"), none, (.dict #[⟨(zhK P "__module__"), (zsK "__module__" 1275), (zsK "epochrooms.settings" 1258)⟩, ⟨(zhK P "__qualname__"), (zsK "__qualname__" 1277), (zsK "Setting" 1276)⟩, ⟨(zhK P "__firstlineno__"), (zsK "__firstlineno__" 1279), (.int 372 1278)⟩, ⟨(zhK P "__init__"), (zsK "__init__" 1301), (.ref 829)⟩, ⟨(zhK P "book"), (zsK "book" 1308), (.ref 836)⟩, ⟨(zhK P "readers"), (zsK "readers" 1316), (.ref 844)⟩, ⟨(zhK P "takers"), (zsK "takers" 1324), (.ref 852)⟩, ⟨(zhK P "steppers"), (zsK "steppers" 1332), (.ref 860)⟩, ⟨(zhK P "things"), (zsK "things" 1340), (.ref 868)⟩, ⟨(zhK P "__eq__"), (zsK "__eq__" 1348), (.ref 875)⟩, ⟨(zhK P "__static_attributes__"), (zsK "__static_attributes__" 1351), (.ref 876)⟩] 11), #[]⟩
def G817 : Obj := zt []
def G818 : Obj := zn [(zi 374), (zi 4), (.ref 828), (zi 383), (zi 4), (.ref 835), (zi 387), (zi 4), (.ref 842), (zi 391), (zi 4), (.ref 850), (zi 395), (zi 4), (.ref 858), (zi 399), (zi 4), (.ref 866), (zi 402), (zi 4), (.ref 874)]
def G819 : Obj := zc [(zsK "Setting" 1270), (zsK "Setting" 1271), (zsK "/claim/cut.py" 1272), (zi 372), (zi 0), (zi 0), (zi 0), (zi 0), (.ref 817), (.bool false), (zi 181), (.ref 818), .none, .none, .none, .none, (zi 1273), (zi 372), (zsK "/claim/cut.py" 1274)]
def G820 : Obj := ⟨(.type "frame"), none, .plain, #[(some (.ref 819)), (some (.ref 3)), (some (.ref 816)), none, (some (zsK "epochrooms.settings" 1258)), none, (some (.ref 0))]⟩
def G821 : Obj := zt [(.int 1 1280), (.int 1 1281), (.int 0 1282)]
def G822 (P : Params) : Obj := ⟨(.type "dict"), none, (.dict #[⟨(zhK P "things"), (zsK "things" 1284), (.int 3 1283)⟩] 1), #[]⟩
def G823 : Obj := zt []
def G824 : Obj := zn []
def G825 : Obj := zt [(zsK "self" 1288), (zsK "book" 1289), (zsK "readers" 1290), (zsK "takers" 1291), (zsK "steppers" 1292), (zsK "things" 1293), (zsK "most" 1294), (zsK "word" 1295), (zsK "value" 1296), (zsK "low" 1297), (zsK "high" 1298)]
def G826 : Obj := zt []
def G827 : Obj := ⟨.none, none, (.func ⟨(zo "__init__"), (zo "Setting.__init__"), (zAC 46 0), (.stmts (zBC 46 0)), (zSC 46 0), 0, [], .none, .none, .none, .none, none, .none, .none, 0⟩), #[]⟩
def G828 : Obj := zc [(zsK "__init__" 1285), (zsK "Setting.__init__" 1286), (zsK "/claim/cut.py" 1287), (zi 374), (zi 5), (zi 0), (zi 1), (zi 3), (.ref 823), (.bool true), (zi 181), (.ref 824), .none, (.ref 825), (.ref 826), (.ref 827), (zi 1299), (zi 374), (zsK "/claim/cut.py" 1300)]
def G829 : Obj := zf ⟨(zo "__init__"), (zo "Setting.__init__"), (zAC 46 0), (.stmts (zBC 46 0)), (zSC 46 0), 3, [], (.ref 821), (.ref 822), .none, (zsK "epochrooms.settings" 1258), none, (.ref 828), .none, 0⟩
def G830 : Obj := zt []
def G831 : Obj := zn []
def G832 : Obj := zt [(zsK "self" 1305)]
def G833 : Obj := zt []
def G834 : Obj := ⟨.none, none, (.func ⟨(zo "book"), (zo "Setting.book"), (zAC 46 1), (.stmts (zBC 46 1)), (zSC 51 3), 0, [], .none, .none, .none, .none, none, .none, .none, 0⟩), #[]⟩
def G835 : Obj := zc [(zsK "book" 1302), (zsK "Setting.book" 1303), (zsK "/claim/cut.py" 1304), (zi 383), (zi 1), (zi 0), (zi 0), (zi 3), (.ref 830), (.bool true), (zi 181), (.ref 831), .none, (.ref 832), (.ref 833), (.ref 834), (zi 1306), (zi 383), (zsK "/claim/cut.py" 1307)]
def G836 : Obj := zm "book" "Setting.book" 46 1 46 1 51 3 "epochrooms.settings" 1258 835
def G837 : Obj := zt []
def G838 : Obj := zn []
def G839 : Obj := zt [(zsK "self" 1312)]
def G840 : Obj := zt []
def G841 : Obj := ⟨.none, none, (.func ⟨(zo "readers"), (zo "Setting.readers"), (zAC 46 2), (.stmts (zBC 46 2)), (zSC 51 3), 0, [], .none, .none, .none, .none, none, .none, .none, 0⟩), #[]⟩
def G842 : Obj := zc [(zsK "readers" 1309), (zsK "Setting.readers" 1310), (zsK "/claim/cut.py" 1311), (zi 386), (zi 1), (zi 0), (zi 0), (zi 3), (.ref 837), (.bool true), (zi 181), (.ref 838), .none, (.ref 839), (.ref 840), (.ref 841), (zi 1313), (zi 386), (zsK "/claim/cut.py" 1314)]
def G843 : Obj := zm "readers" "Setting.readers" 46 2 46 2 51 3 "epochrooms.settings" 1258 842
def G844 : Obj := ⟨(.type "property"), none, (.fields #[(.ref 843), .none, .none, .none, (zsK "readers" 1316), (.bool false)]), #[]⟩
def G845 : Obj := zt []
def G846 : Obj := zn []
def G847 : Obj := zt [(zsK "self" 1320)]
def G848 : Obj := zt []
def G849 : Obj := ⟨.none, none, (.func ⟨(zo "takers"), (zo "Setting.takers"), (zAC 46 3), (.stmts (zBC 46 3)), (zSC 51 3), 0, [], .none, .none, .none, .none, none, .none, .none, 0⟩), #[]⟩
def G850 : Obj := zc [(zsK "takers" 1317), (zsK "Setting.takers" 1318), (zsK "/claim/cut.py" 1319), (zi 390), (zi 1), (zi 0), (zi 0), (zi 3), (.ref 845), (.bool true), (zi 181), (.ref 846), .none, (.ref 847), (.ref 848), (.ref 849), (zi 1321), (zi 390), (zsK "/claim/cut.py" 1322)]
def G851 : Obj := zm "takers" "Setting.takers" 46 3 46 3 51 3 "epochrooms.settings" 1258 850
def G852 : Obj := ⟨(.type "property"), none, (.fields #[(.ref 851), .none, .none, .none, (zsK "takers" 1324), (.bool false)]), #[]⟩
def G853 : Obj := zt []
def G854 : Obj := zn []
def G855 : Obj := zt [(zsK "self" 1328)]
def G856 : Obj := zt []
def G857 : Obj := ⟨.none, none, (.func ⟨(zo "steppers"), (zo "Setting.steppers"), (zAC 46 4), (.stmts (zBC 46 4)), (zSC 51 3), 0, [], .none, .none, .none, .none, none, .none, .none, 0⟩), #[]⟩
def G858 : Obj := zc [(zsK "steppers" 1325), (zsK "Setting.steppers" 1326), (zsK "/claim/cut.py" 1327), (zi 394), (zi 1), (zi 0), (zi 0), (zi 3), (.ref 853), (.bool true), (zi 181), (.ref 854), .none, (.ref 855), (.ref 856), (.ref 857), (zi 1329), (zi 394), (zsK "/claim/cut.py" 1330)]
def G859 : Obj := zm "steppers" "Setting.steppers" 46 4 46 4 51 3 "epochrooms.settings" 1258 858
def G860 : Obj := ⟨(.type "property"), none, (.fields #[(.ref 859), .none, .none, .none, (zsK "steppers" 1332), (.bool false)]), #[]⟩
def G861 : Obj := zt []
def G862 : Obj := zn []
def G863 : Obj := zt [(zsK "self" 1336)]
def G864 : Obj := zt []
def G865 : Obj := ⟨.none, none, (.func ⟨(zo "things"), (zo "Setting.things"), (zAC 46 5), (.stmts (zBC 46 5)), (zSC 51 3), 0, [], .none, .none, .none, .none, none, .none, .none, 0⟩), #[]⟩
def G866 : Obj := zc [(zsK "things" 1333), (zsK "Setting.things" 1334), (zsK "/claim/cut.py" 1335), (zi 398), (zi 1), (zi 0), (zi 0), (zi 3), (.ref 861), (.bool true), (zi 181), (.ref 862), .none, (.ref 863), (.ref 864), (.ref 865), (zi 1337), (zi 398), (zsK "/claim/cut.py" 1338)]
def G867 : Obj := zm "things" "Setting.things" 46 5 46 5 51 3 "epochrooms.settings" 1258 866
def G868 : Obj := ⟨(.type "property"), none, (.fields #[(.ref 867), .none, .none, .none, (zsK "things" 1340), (.bool false)]), #[]⟩
def G869 : Obj := zt []
def G870 : Obj := zn []
def G871 : Obj := zt [(zsK "self" 1344), (zsK "other" 1345)]
def G872 : Obj := zt []
def G873 : Obj := ⟨.none, none, (.func ⟨(zo "__eq__"), (zo "Setting.__eq__"), (zAC 46 6), (.stmts (zBC 46 6)), (zSC 46 6), 0, [], .none, .none, .none, .none, none, .none, .none, 0⟩), #[]⟩
def G874 : Obj := zc [(zsK "__eq__" 1341), (zsK "Setting.__eq__" 1342), (zsK "/claim/cut.py" 1343), (zi 402), (zi 2), (zi 0), (zi 0), (zi 3), (.ref 869), (.bool true), (zi 181), (.ref 870), .none, (.ref 871), (.ref 872), (.ref 873), (zi 1346), (zi 402), (zsK "/claim/cut.py" 1347)]
def G875 : Obj := zm "__eq__" "Setting.__eq__" 46 6 46 6 46 6 "epochrooms.settings" 1258 874
def G876 : Obj := zt [(zsK "hands" 1349), (zsK "kept" 1350)]
def G877 (P : Params) : Obj := ⟨(.type "dict"), none, (.dict #[⟨(zhK P "__module__"), (zsK "__module__" 1275), (zsK "epochrooms.settings" 1258)⟩, ⟨(zhK P "__firstlineno__"), (zsK "__firstlineno__" 1279), (.int 372 1278)⟩, ⟨(zhK P "__init__"), (zsK "__init__" 1301), (.ref 829)⟩, ⟨(zhK P "book"), (zsK "book" 1308), (.ref 836)⟩, ⟨(zhK P "readers"), (zsK "readers" 1316), (.ref 844)⟩, ⟨(zhK P "takers"), (zsK "takers" 1324), (.ref 852)⟩, ⟨(zhK P "steppers"), (zsK "steppers" 1332), (.ref 860)⟩, ⟨(zhK P "things"), (zsK "things" 1340), (.ref 868)⟩, ⟨(zhK P "__eq__"), (zsK "__eq__" 1348), (.ref 875)⟩, ⟨(zhK P "__static_attributes__"), (zsK "__static_attributes__" 1351), (.ref 876)⟩, ⟨(zhK P "__dict__"), (zsK "__dict__" 1353), (.ref 879)⟩, ⟨(zhK P "__weakref__"), (zsK "__weakref__" 1355), (.ref 880)⟩, ⟨(zhK P "__doc__"), (zsK "__doc__" 1356), .none⟩, ⟨(zhK P "__hash__"), (zsK "__hash__" 1357), .none⟩] 5), #[]⟩
def G878 : Obj := ⟨(.type "type"), none, (.cls ⟨(zo "Setting"), [(.type "object")], [(.ref 878), (.type "object")], 877, (zo "Setting"), true, [], [], false, none, false⟩), #[none, none, (some (zsK "Setting" 1268)), (some (zsK "Setting" 1276)), (some (.builtin "object.__new__")), (some (.bool true))]⟩
def G879 : Obj := ⟨(.type "getset_descriptor"), none, (.fields #[(zsK "__dict__" 1352), (.ref 878), (.builtin "function.__dict__"), (.builtin "function.__dict__#set")]), #[]⟩
def G880 : Obj := ⟨(.type "getset_descriptor"), none, (.fields #[(zsK "__weakref__" 1354), (.ref 878), (.builtin "ExceptionGroup.__weakref__"), .none]), #[]⟩
def G881 : Obj := ⟨(.type "super"), none, (.fields #[(.ref 878), (.ref 878), (.ref 878)]), #[]⟩
def G882 : Obj := ⟨(.type "builtin_function_or_method"), none, (.fields #[(.builtin "object.__init_subclass__"), (.ref 878)]), #[]⟩
def G883 : Obj := zt []
def G884 : Obj := zn []
def G885 : Obj := zt [(zsK "value" 1363)]
def G886 : Obj := zt []
def G887 : Obj := ⟨.none, none, (.func ⟨(zo "look_at_setting"), (zo "look_at_setting"), (zA 47), (.stmts (zB 47)), (zS 47), 0, [], .none, .none, .none, .none, none, .none, .none, 0⟩), #[]⟩
def G888 : Obj := zc [(zsK "look_at_setting" 1360), (zsK "look_at_setting" 1361), (zsK "/claim/cut.py" 1362), (zi 404), (zi 1), (zi 0), (zi 0), (zi 3), (.ref 883), (.bool true), (zi 181), (.ref 884), .none, (.ref 885), (.ref 886), (.ref 887), (zi 1364), (zi 404), (zsK "/claim/cut.py" 1365)]
def G889 : Obj := zf ⟨(zo "look_at_setting"), (zo "look_at_setting"), (zA 47), (.stmts (zB 47)), (zS 47), 3, [], .none, .none, .none, (zsK "epochrooms.settings" 1258), none, (.ref 888), .none, 0⟩
def G890 (P : Params) : Obj := ⟨(.type "dict"), none, (.dict #[⟨(zhK P "reader"), (zsK "reader" 1367), (.int 0 1368)⟩, ⟨(zhK P "taker"), (zsK "taker" 1369), (.int 1 1370)⟩, ⟨(zhK P "stepper"), (zsK "stepper" 1371), (.int 2 1372)⟩] 3), #[]⟩
def G891 : Obj := zt []
def G892 : Obj := zn []
def G893 : Obj := ⟨.none, none, (.func ⟨(zo "by_hand"), (zo "by_hand"), (zA 50), (.stmts (zB 50)), (zS 50), 0, [], .none, .none, .none, .none, none, .none, .none, 0⟩), #[]⟩
def G894 : Obj := zc [(zsK "by_hand" 1379), (zsK "by_hand" 1380), (zsK "/claim/cut.py" 1381), (zi 409), (zi 2), (zi 0), (zi 0), (zi 7), (.ref 891), (.bool true), (zi 181), (.ref 892), .none, .none, .none, (.ref 893), (zi 1382), (zi 409), (zsK "/claim/cut.py" 1383)]
def G895 : Obj := zf ⟨(zo "by_hand"), (zo "by_hand"), (zA 50), (.stmts (zB 50)), (zS 50), 3, [], .none, .none, .none, (zsK "epochrooms.breaking" 1377), none, (.ref 894), .none, 0⟩
def G896 : Obj := zt []
def G897 : Obj := ⟨(.type "builtin_function_or_method"), none, (.fields #[(.builtin "type.__prepare__"), (.type "type")]), #[]⟩
def G898 (P : Params) : Obj := ⟨(.type "dict"), none, (.dict #[⟨(zhK P "__module__"), (zsK "__module__" 1392), (zsK "epochrooms.breaking" 1377)⟩, ⟨(zhK P "__qualname__"), (zsK "__qualname__" 1394), (zsK "Script" 1393)⟩, ⟨(zhK P "__firstlineno__"), (zsK "__firstlineno__" 1396), (.int 411 1395)⟩, ⟨(zhK P "__init__"), (zsK "__init__" 1405), (.ref 909)⟩, ⟨(zhK P "reader"), (zsK "reader" 1413), (.ref 916)⟩, ⟨(zhK P "taker"), (zsK "taker" 1421), (.ref 923)⟩, ⟨(zhK P "settled"), (zsK "settled" 1428), (.ref 930)⟩, ⟨(zhK P "enters"), (zsK "enters" 1436), (.ref 937)⟩, ⟨(zhK P "gives_up"), (zsK "gives_up" 1444), (.ref 944)⟩, ⟨(zhK P "gets_ready"), (zsK "gets_ready" 1453), (.ref 951)⟩, ⟨(zhK P "fires"), (zsK "fires" 1462), (.ref 958)⟩, ⟨(zhK P "goes_on"), (zsK "goes_on" 1473), (.ref 966)⟩, ⟨(zhK P "turns"), (zsK "turns" 1483), (.ref 973)⟩, ⟨(zhK P "__static_attributes__"), (zsK "__static_attributes__" 1487), (.ref 974)⟩] 14), #[]⟩
def G899 : Obj := zt []
def G900 : Obj := zn [(zi 413), (zi 4), (.ref 908), (zi 418), (zi 4), (.ref 915), (zi 421), (zi 4), (.ref 922), (zi 424), (zi 4), (.ref 929), (zi 427), (zi 4), (.ref 936), (zi 433), (zi 4), (.ref 943), (zi 440), (zi 4), (.ref 950), (zi 446), (zi 4), (.ref 957), (zi 450), (zi 4), (.ref 965), (zi 455), (zi 4), (.ref 972)]
def G901 : Obj := zc [(zsK "Script" 1387), (zsK "Script" 1388), (zsK "/claim/cut.py" 1389), (zi 411), (zi 0), (zi 0), (zi 0), (zi 0), (.ref 899), (.bool false), (zi 181), (.ref 900), .none, .none, .none, .none, (zi 1390), (zi 411), (zsK "/claim/cut.py" 1391)]
def G902 : Obj := ⟨(.type "frame"), none, .plain, #[(some (.ref 901)), (some (.ref 3)), (some (.ref 898)), none, (some (zsK "epochrooms.breaking" 1377)), none, (some (.ref 0))]⟩
def G903 : Obj := zt []
def G904 : Obj := zn []
def G905 : Obj := zt [(zsK "self" 1400), (zsK "book" 1401), (zsK "steppers" 1402)]
def G906 : Obj := zt []
def G907 : Obj := ⟨.none, none, (.func ⟨(zo "__init__"), (zo "Script.__init__"), (zAC 51 0), (.stmts (zBC 51 0)), (zSC 51 0), 0, [], .none, .none, .none, .none, none, .none, .none, 0⟩), #[]⟩
def G908 : Obj := zc [(zsK "__init__" 1397), (zsK "Script.__init__" 1398), (zsK "/claim/cut.py" 1399), (zi 413), (zi 3), (zi 0), (zi 0), (zi 3), (.ref 903), (.bool true), (zi 181), (.ref 904), .none, (.ref 905), (.ref 906), (.ref 907), (zi 1403), (zi 413), (zsK "/claim/cut.py" 1404)]
def G909 : Obj := zm "__init__" "Script.__init__" 51 0 51 0 51 0 "epochrooms.breaking" 1377 908
def G910 : Obj := zt []
def G911 : Obj := zn []
def G912 : Obj := zt [(zsK "self" 1409), (zsK "deeds" 1410)]
def G913 : Obj := zt []
def G914 : Obj := ⟨.none, none, (.func ⟨(zo "reader"), (zo "Script.reader"), (zAC 51 1), (.stmts (zBC 51 1)), (zSC 51 2), 0, [], .none, .none, .none, .none, none, .none, .none, 0⟩), #[]⟩
def G915 : Obj := zc [(zsK "reader" 1406), (zsK "Script.reader" 1407), (zsK "/claim/cut.py" 1408), (zi 418), (zi 1), (zi 0), (zi 0), (zi 7), (.ref 910), (.bool true), (zi 181), (.ref 911), .none, (.ref 912), (.ref 913), (.ref 914), (zi 1411), (zi 418), (zsK "/claim/cut.py" 1412)]
def G916 : Obj := zm "reader" "Script.reader" 51 1 51 1 51 2 "epochrooms.breaking" 1377 915
def G917 : Obj := zt []
def G918 : Obj := zn []
def G919 : Obj := zt [(zsK "self" 1417), (zsK "deeds" 1418)]
def G920 : Obj := zt []
def G921 : Obj := ⟨.none, none, (.func ⟨(zo "taker"), (zo "Script.taker"), (zAC 51 2), (.stmts (zBC 51 2)), (zSC 51 2), 0, [], .none, .none, .none, .none, none, .none, .none, 0⟩), #[]⟩
def G922 : Obj := zc [(zsK "taker" 1414), (zsK "Script.taker" 1415), (zsK "/claim/cut.py" 1416), (zi 421), (zi 1), (zi 0), (zi 0), (zi 7), (.ref 917), (.bool true), (zi 181), (.ref 918), .none, (.ref 919), (.ref 920), (.ref 921), (zi 1419), (zi 421), (zsK "/claim/cut.py" 1420)]
def G923 : Obj := zm "taker" "Script.taker" 51 2 51 2 51 2 "epochrooms.breaking" 1377 922
def G924 : Obj := zt []
def G925 : Obj := zn []
def G926 : Obj := zt [(zsK "self" 1425)]
def G927 : Obj := zt []
def G928 : Obj := ⟨.none, none, (.func ⟨(zo "settled"), (zo "Script.settled"), (zAC 51 3), (.stmts (zBC 51 3)), (zSC 51 3), 0, [], .none, .none, .none, .none, none, .none, .none, 0⟩), #[]⟩
def G929 : Obj := zc [(zsK "settled" 1422), (zsK "Script.settled" 1423), (zsK "/claim/cut.py" 1424), (zi 424), (zi 1), (zi 0), (zi 0), (zi 3), (.ref 924), (.bool true), (zi 181), (.ref 925), .none, (.ref 926), (.ref 927), (.ref 928), (zi 1426), (zi 424), (zsK "/claim/cut.py" 1427)]
def G930 : Obj := zm "settled" "Script.settled" 51 3 51 3 51 3 "epochrooms.breaking" 1377 929
def G931 : Obj := zt []
def G932 : Obj := zn []
def G933 : Obj := zt [(zsK "self" 1432), (zsK "settled" 1433)]
def G934 : Obj := zt []
def G935 : Obj := ⟨.none, none, (.func ⟨(zo "enters"), (zo "Script.enters"), (zAC 51 4), (.stmts (zBC 51 4)), (zSC 51 5), 0, [], .none, .none, .none, .none, none, .none, .none, 0⟩), #[]⟩
def G936 : Obj := zc [(zsK "enters" 1429), (zsK "Script.enters" 1430), (zsK "/claim/cut.py" 1431), (zi 427), (zi 1), (zi 0), (zi 0), (zi 3), (.ref 931), (.bool true), (zi 181), (.ref 932), .none, (.ref 933), (.ref 934), (.ref 935), (zi 1434), (zi 427), (zsK "/claim/cut.py" 1435)]
def G937 : Obj := zm "enters" "Script.enters" 51 4 51 4 51 5 "epochrooms.breaking" 1377 936
def G938 : Obj := zt []
def G939 : Obj := zn []
def G940 : Obj := zt [(zsK "self" 1440), (zsK "settled" 1441)]
def G941 : Obj := zt []
def G942 : Obj := ⟨.none, none, (.func ⟨(zo "gives_up"), (zo "Script.gives_up"), (zAC 51 5), (.stmts (zBC 51 5)), (zSC 51 5), 0, [], .none, .none, .none, .none, none, .none, .none, 0⟩), #[]⟩
def G943 : Obj := zc [(zsK "gives_up" 1437), (zsK "Script.gives_up" 1438), (zsK "/claim/cut.py" 1439), (zi 433), (zi 1), (zi 0), (zi 0), (zi 3), (.ref 938), (.bool true), (zi 181), (.ref 939), .none, (.ref 940), (.ref 941), (.ref 942), (zi 1442), (zi 433), (zsK "/claim/cut.py" 1443)]
def G944 : Obj := zm "gives_up" "Script.gives_up" 51 5 51 5 51 5 "epochrooms.breaking" 1377 943
def G945 : Obj := zt []
def G946 : Obj := zn []
def G947 : Obj := zt [(zsK "self" 1448), (zsK "number" 1449), (zsK "deeds" 1450)]
def G948 : Obj := zt []
def G949 : Obj := ⟨.none, none, (.func ⟨(zo "gets_ready"), (zo "Script.gets_ready"), (zAC 51 6), (.stmts (zBC 51 6)), (zSC 51 7), 0, [], .none, .none, .none, .none, none, .none, .none, 0⟩), #[]⟩
def G950 : Obj := zc [(zsK "gets_ready" 1445), (zsK "Script.gets_ready" 1446), (zsK "/claim/cut.py" 1447), (zi 440), (zi 2), (zi 0), (zi 0), (zi 3), (.ref 945), (.bool true), (zi 181), (.ref 946), .none, (.ref 947), (.ref 948), (.ref 949), (zi 1451), (zi 440), (zsK "/claim/cut.py" 1452)]
def G951 : Obj := zm "gets_ready" "Script.gets_ready" 51 6 51 6 51 7 "epochrooms.breaking" 1377 950
def G952 : Obj := zt []
def G953 : Obj := zn []
def G954 : Obj := zt [(zsK "self" 1457), (zsK "number" 1458), (zsK "deeds" 1459)]
def G955 : Obj := zt []
def G956 : Obj := ⟨.none, none, (.func ⟨(zo "fires"), (zo "Script.fires"), (zAC 51 7), (.stmts (zBC 51 7)), (zSC 51 7), 0, [], .none, .none, .none, .none, none, .none, .none, 0⟩), #[]⟩
def G957 : Obj := zc [(zsK "fires" 1454), (zsK "Script.fires" 1455), (zsK "/claim/cut.py" 1456), (zi 446), (zi 2), (zi 0), (zi 0), (zi 3), (.ref 952), (.bool true), (zi 181), (.ref 953), .none, (.ref 954), (.ref 955), (.ref 956), (zi 1460), (zi 446), (zsK "/claim/cut.py" 1461)]
def G958 : Obj := zm "fires" "Script.fires" 51 7 51 7 51 7 "epochrooms.breaking" 1377 957
def G959 : Obj := zt [(.int 1 1463)]
def G960 : Obj := zt []
def G961 : Obj := zn []
def G962 : Obj := zt [(zsK "self" 1467), (zsK "number" 1468), (zsK "many" 1469), (zsK "turn" 1470)]
def G963 : Obj := zt []
def G964 : Obj := ⟨.none, none, (.func ⟨(zo "goes_on"), (zo "Script.goes_on"), (zAC 51 8), (.stmts (zBC 51 8)), (zSC 51 9), 0, [], .none, .none, .none, .none, none, .none, .none, 0⟩), #[]⟩
def G965 : Obj := zc [(zsK "goes_on" 1464), (zsK "Script.goes_on" 1465), (zsK "/claim/cut.py" 1466), (zi 450), (zi 3), (zi 0), (zi 0), (zi 3), (.ref 960), (.bool true), (zi 181), (.ref 961), .none, (.ref 962), (.ref 963), (.ref 964), (zi 1471), (zi 450), (zsK "/claim/cut.py" 1472)]
def G966 : Obj := zf ⟨(zo "goes_on"), (zo "Script.goes_on"), (zAC 51 8), (.stmts (zBC 51 8)), (zSC 51 9), 3, [], (.ref 959), .none, .none, (zsK "epochrooms.breaking" 1377), none, (.ref 965), .none, 0⟩
def G967 : Obj := zt []
def G968 : Obj := zn []
def G969 : Obj := zt [(zsK "self" 1477), (zsK "number" 1478), (zsK "many" 1479), (zsK "turn" 1480)]
def G970 : Obj := zt []
def G971 : Obj := ⟨.none, none, (.func ⟨(zo "turns"), (zo "Script.turns"), (zAC 51 9), (.stmts (zBC 51 9)), (zSC 51 9), 0, [], .none, .none, .none, .none, none, .none, .none, 0⟩), #[]⟩
def G972 : Obj := zc [(zsK "turns" 1474), (zsK "Script.turns" 1475), (zsK "/claim/cut.py" 1476), (zi 455), (zi 3), (zi 0), (zi 0), (zi 3), (.ref 967), (.bool true), (zi 181), (.ref 968), .none, (.ref 969), (.ref 970), (.ref 971), (zi 1481), (zi 455), (zsK "/claim/cut.py" 1482)]
def G973 : Obj := zm "turns" "Script.turns" 51 9 51 9 51 9 "epochrooms.breaking" 1377 972
def G974 : Obj := zt [(zsK "many" 1484), (zsK "own" 1485), (zsK "written" 1486)]
def G975 (P : Params) : Obj := ⟨(.type "dict"), none, (.dict #[⟨(zhK P "__module__"), (zsK "__module__" 1392), (zsK "epochrooms.breaking" 1377)⟩, ⟨(zhK P "__firstlineno__"), (zsK "__firstlineno__" 1396), (.int 411 1395)⟩, ⟨(zhK P "__init__"), (zsK "__init__" 1405), (.ref 909)⟩, ⟨(zhK P "reader"), (zsK "reader" 1413), (.ref 916)⟩, ⟨(zhK P "taker"), (zsK "taker" 1421), (.ref 923)⟩, ⟨(zhK P "settled"), (zsK "settled" 1428), (.ref 930)⟩, ⟨(zhK P "enters"), (zsK "enters" 1436), (.ref 937)⟩, ⟨(zhK P "gives_up"), (zsK "gives_up" 1444), (.ref 944)⟩, ⟨(zhK P "gets_ready"), (zsK "gets_ready" 1453), (.ref 951)⟩, ⟨(zhK P "fires"), (zsK "fires" 1462), (.ref 958)⟩, ⟨(zhK P "goes_on"), (zsK "goes_on" 1473), (.ref 966)⟩, ⟨(zhK P "turns"), (zsK "turns" 1483), (.ref 973)⟩, ⟨(zhK P "__static_attributes__"), (zsK "__static_attributes__" 1487), (.ref 974)⟩, ⟨(zhK P "__dict__"), (zsK "__dict__" 1489), (.ref 977)⟩, ⟨(zhK P "__weakref__"), (zsK "__weakref__" 1491), (.ref 978)⟩, ⟨(zhK P "__doc__"), (zsK "__doc__" 1492), .none⟩] 4), #[]⟩
def G976 : Obj := ⟨(.type "type"), none, (.cls ⟨(zo "Script"), [(.type "object")], [(.ref 976), (.type "object")], 975, (zo "Script"), true, [], [], false, none, false⟩), #[none, none, (some (zsK "Script" 1385)), (some (zsK "Script" 1393)), (some (.builtin "object.__new__")), (some (.bool true))]⟩
def G977 : Obj := ⟨(.type "getset_descriptor"), none, (.fields #[(zsK "__dict__" 1488), (.ref 976), (.builtin "function.__dict__"), (.builtin "function.__dict__#set")]), #[]⟩
def G978 : Obj := ⟨(.type "getset_descriptor"), none, (.fields #[(zsK "__weakref__" 1490), (.ref 976), (.builtin "ExceptionGroup.__weakref__"), .none]), #[]⟩
def G979 : Obj := ⟨(.type "super"), none, (.fields #[(.ref 976), (.ref 976), (.ref 976)]), #[]⟩
def G980 : Obj := ⟨(.type "builtin_function_or_method"), none, (.fields #[(.builtin "object.__init_subclass__"), (.ref 976)]), #[]⟩
def G981 : Obj := zt []
def G982 : Obj := zn []
def G983 : Obj := zt [(zsK "book" 1498), (zsK "script" 1499)]
def G984 : Obj := zt []
def G985 : Obj := ⟨.none, none, (.func ⟨(zo "got_ahead"), (zo "got_ahead"), (zA 52), (.stmts (zB 52)), (zS 57), 0, [], .none, .none, .none, .none, none, .none, .none, 0⟩), #[]⟩
def G986 : Obj := zc [(zsK "got_ahead" 1495), (zsK "got_ahead" 1496), (zsK "/claim/cut.py" 1497), (zi 459), (zi 1), (zi 0), (zi 0), (zi 3), (.ref 981), (.bool true), (zi 181), (.ref 982), .none, (.ref 983), (.ref 984), (.ref 985), (zi 1500), (zi 459), (zsK "/claim/cut.py" 1501)]
def G987 : Obj := zf ⟨(zo "got_ahead"), (zo "got_ahead"), (zA 52), (.stmts (zB 52)), (zS 57), 3, [], .none, .none, .none, (zsK "epochrooms.breaking" 1377), none, (.ref 986), .none, 0⟩
def G988 : Obj := zt []
def G989 : Obj := zn []
def G990 : Obj := zt [(zsK "book" 1506), (zsK "behind" 1507), (zsK "script" 1508), (zsK "number" 1509)]
def G991 : Obj := zt []
def G992 : Obj := ⟨.none, none, (.func ⟨(zo "old_steppers"), (zo "old_steppers"), (zA 53), (.stmts (zB 53)), (zS 54), 0, [], .none, .none, .none, .none, none, .none, .none, 0⟩), #[]⟩
def G993 : Obj := zc [(zsK "old_steppers" 1503), (zsK "old_steppers" 1504), (zsK "/claim/cut.py" 1505), (zi 467), (zi 1), (zi 0), (zi 0), (zi 3), (.ref 988), (.bool true), (zi 181), (.ref 989), .none, (.ref 990), (.ref 991), (.ref 992), (zi 1510), (zi 467), (zsK "/claim/cut.py" 1511)]
def G994 : Obj := zf ⟨(zo "old_steppers"), (zo "old_steppers"), (zA 53), (.stmts (zB 53)), (zS 54), 3, [], .none, .none, .none, (zsK "epochrooms.breaking" 1377), none, (.ref 993), .none, 0⟩
def G995 : Obj := zt []
def G996 : Obj := zn []
def G997 : Obj := zt [(zsK "book" 1516), (zsK "behind" 1517), (zsK "script" 1518), (zsK "number" 1519)]
def G998 : Obj := zt []
def G999 : Obj := ⟨.none, none, (.func ⟨(zo "adders"), (zo "adders"), (zA 54), (.stmts (zB 54)), (zS 54), 0, [], .none, .none, .none, .none, none, .none, .none, 0⟩), #[]⟩
def G1000 : Obj := zc [(zsK "adders" 1513), (zsK "adders" 1514), (zsK "/claim/cut.py" 1515), (zi 481), (zi 1), (zi 0), (zi 0), (zi 3), (.ref 995), (.bool true), (zi 181), (.ref 996), .none, (.ref 997), (.ref 998), (.ref 999), (zi 1520), (zi 481), (zsK "/claim/cut.py" 1521)]
def G1001 : Obj := zf ⟨(zo "adders"), (zo "adders"), (zA 54), (.stmts (zB 54)), (zS 54), 3, [], .none, .none, .none, (zsK "epochrooms.breaking" 1377), none, (.ref 1000), .none, 0⟩
def G1002 : Obj := zt []
def G1003 : Obj := zn []
def G1004 : Obj := zt [(zsK "book" 1526), (zsK "rounds" 1527), (zsK "script" 1528)]
def G1005 : Obj := zt []
def G1006 : Obj := ⟨.none, none, (.func ⟨(zo "old_mark"), (zo "old_mark"), (zA 55), (.stmts (zB 55)), (zS 56), 0, [], .none, .none, .none, .none, none, .none, .none, 0⟩), #[]⟩
def G1007 : Obj := zc [(zsK "old_mark" 1523), (zsK "old_mark" 1524), (zsK "/claim/cut.py" 1525), (zi 493), (zi 1), (zi 0), (zi 0), (zi 3), (.ref 1002), (.bool true), (zi 181), (.ref 1003), .none, (.ref 1004), (.ref 1005), (.ref 1006), (zi 1529), (zi 493), (zsK "/claim/cut.py" 1530)]
def G1008 : Obj := zf ⟨(zo "old_mark"), (zo "old_mark"), (zA 55), (.stmts (zB 55)), (zS 56), 3, [], .none, .none, .none, (zsK "epochrooms.breaking" 1377), none, (.ref 1007), .none, 0⟩
def G1009 : Obj := zt []
def G1010 : Obj := zn []
def G1011 : Obj := zt [(zsK "book" 1535), (zsK "rounds" 1536), (zsK "script" 1537)]
def G1012 : Obj := zt []
def G1013 : Obj := ⟨.none, none, (.func ⟨(zo "old_word"), (zo "old_word"), (zA 56), (.stmts (zB 56)), (zS 56), 0, [], .none, .none, .none, .none, none, .none, .none, 0⟩), #[]⟩
def G1014 : Obj := zc [(zsK "old_word" 1532), (zsK "old_word" 1533), (zsK "/claim/cut.py" 1534), (zi 505), (zi 1), (zi 0), (zi 0), (zi 3), (.ref 1009), (.bool true), (zi 181), (.ref 1010), .none, (.ref 1011), (.ref 1012), (.ref 1013), (zi 1538), (zi 505), (zsK "/claim/cut.py" 1539)]
def G1015 : Obj := zf ⟨(zo "old_word"), (zo "old_word"), (zA 56), (.stmts (zB 56)), (zS 56), 3, [], .none, .none, .none, (zsK "epochrooms.breaking" 1377), none, (.ref 1014), .none, 0⟩
def G1016 : Obj := zt []
def G1017 : Obj := zn []
def G1018 : Obj := zt [(zsK "book" 1544), (zsK "script" 1545)]
def G1019 : Obj := zt []
def G1020 : Obj := ⟨.none, none, (.func ⟨(zo "own_mark"), (zo "own_mark"), (zA 57), (.stmts (zB 57)), (zS 57), 0, [], .none, .none, .none, .none, none, .none, .none, 0⟩), #[]⟩
def G1021 : Obj := zc [(zsK "own_mark" 1541), (zsK "own_mark" 1542), (zsK "/claim/cut.py" 1543), (zi 519), (zi 1), (zi 0), (zi 0), (zi 3), (.ref 1016), (.bool true), (zi 181), (.ref 1017), .none, (.ref 1018), (.ref 1019), (.ref 1020), (zi 1546), (zi 519), (zsK "/claim/cut.py" 1547)]
def G1022 : Obj := zf ⟨(zo "own_mark"), (zo "own_mark"), (zA 57), (.stmts (zB 57)), (zS 57), 3, [], .none, .none, .none, (zsK "epochrooms.breaking" 1377), none, (.ref 1021), .none, 0⟩
def G1023 : Obj := zt []
def G1024 : Obj := zn []
def G1025 : Obj := zt [(zsK "book" 1552)]
def G1026 : Obj := zt []
def G1027 : Obj := ⟨.none, none, (.func ⟨(zo "break_epochs"), (zo "break_epochs"), (zA 58), (.stmts (zB 58)), (zS 58), 0, [], .none, .none, .none, .none, none, .none, .none, 0⟩), #[]⟩
def G1028 : Obj := zc [(zsK "break_epochs" 1549), (zsK "break_epochs" 1550), (zsK "/claim/cut.py" 1551), (zi 528), (zi 1), (zi 0), (zi 0), (zi 3), (.ref 1023), (.bool true), (zi 181), (.ref 1024), .none, (.ref 1025), (.ref 1026), (.ref 1027), (zi 1553), (zi 528), (zsK "/claim/cut.py" 1554)]
def G1029 : Obj := zf ⟨(zo "break_epochs"), (zo "break_epochs"), (zA 58), (.stmts (zB 58)), (zS 58), 3, [], .none, .none, .none, (zsK "epochrooms.breaking" 1377), none, (.ref 1028), .none, 0⟩
def G1030 : Obj := zt []
def G1031 : Obj := zn []
def G1032 : Obj := zt [(zsK "book" 1559), (zsK "script" 1560), (zsK "look" 1561), (zsK "given" 1562)]
def G1033 : Obj := zt []
def G1034 : Obj := ⟨.none, none, (.func ⟨(zo "break_looks"), (zo "break_looks"), (zA 59), (.stmts (zB 59)), (zS 59), 0, [], .none, .none, .none, .none, none, .none, .none, 0⟩), #[]⟩
def G1035 : Obj := zc [(zsK "break_looks" 1556), (zsK "break_looks" 1557), (zsK "/claim/cut.py" 1558), (zi 540), (zi 1), (zi 0), (zi 0), (zi 3), (.ref 1030), (.bool true), (zi 181), (.ref 1031), .none, (.ref 1032), (.ref 1033), (.ref 1034), (zi 1563), (zi 540), (zsK "/claim/cut.py" 1564)]
def G1036 : Obj := zf ⟨(zo "break_looks"), (zo "break_looks"), (zA 59), (.stmts (zB 59)), (zS 59), 3, [], .none, .none, .none, (zsK "epochrooms.breaking" 1377), none, (.ref 1035), .none, 0⟩
def G1037 : Obj := zt []
def G1038 : Obj := zn []
def G1039 : Obj := zt [(zsK "book" 1569), (zsK "script" 1570), (zsK "ahead" 1571), (zsK "given" 1572), (zsK "deeds" 1573)]
def G1040 : Obj := zt []
def G1041 : Obj := ⟨.none, none, (.func ⟨(zo "break_still"), (zo "break_still"), (zA 60), (.stmts (zB 60)), (zS 60), 0, [], .none, .none, .none, .none, none, .none, .none, 0⟩), #[]⟩
def G1042 : Obj := zc [(zsK "break_still" 1566), (zsK "break_still" 1567), (zsK "/claim/cut.py" 1568), (zi 558), (zi 1), (zi 0), (zi 0), (zi 3), (.ref 1037), (.bool true), (zi 181), (.ref 1038), .none, (.ref 1039), (.ref 1040), (.ref 1041), (zi 1574), (zi 558), (zsK "/claim/cut.py" 1575)]
def G1043 : Obj := zf ⟨(zo "break_still"), (zo "break_still"), (zA 60), (.stmts (zB 60)), (zS 60), 3, [], .none, .none, .none, (zsK "epochrooms.breaking" 1377), none, (.ref 1042), .none, 0⟩
def G1044 (P : Params) : Obj := ⟨(.type "dict"), none, (.dict #[⟨(zhK P "epochs"), (zsK "epochs" 1577), (.ref 1029)⟩, ⟨(zhK P "looks"), (zsK "looks" 1578), (.ref 1036)⟩, ⟨(zhK P "still"), (zsK "still" 1579), (.ref 1043)⟩] 3), #[]⟩
def G1045 : Obj := zt []
def G1046 : Obj := zn []
def G1047 : Obj := zt [(zsK "book" 1587), (zsK "found" 1588), (zsK "script" 1589), (zsK "linked" 1590)]
def G1048 : Obj := zt []
def G1049 : Obj := ⟨.none, none, (.func ⟨(zo "breaking"), (zo "breaking"), (zA 62), (.stmts (zB 62)), (zS 62), 0, [], .none, .none, .none, .none, none, .none, .none, 0⟩), #[]⟩
def G1050 : Obj := zc [(zsK "breaking" 1584), (zsK "breaking" 1585), (zsK "/claim/cut.py" 1586), (zi 577), (zi 1), (zi 0), (zi 0), (zi 3), (.ref 1045), (.bool true), (zi 181), (.ref 1046), .none, (.ref 1047), (.ref 1048), (.ref 1049), (zi 1591), (zi 577), (zsK "/claim/cut.py" 1592)]
def G1051 : Obj := zf ⟨(zo "breaking"), (zo "breaking"), (zA 62), (.stmts (zB 62)), (zS 62), 3, [], .none, .none, .none, (zsK "epochrooms.breaking" 1377), none, (.ref 1050), .none, 0⟩
def G1052 : Obj := zt []
def G1053 : Obj := zn []
def G1054 : Obj := zt [(zsK "one" 1599), (zsK "other" 1600)]
def G1055 : Obj := zt []
def G1056 : Obj := ⟨.none, none, (.func ⟨(zo "compared"), (zo "compared"), (zA 64), (.stmts (zB 64)), (zS 64), 0, [], .none, .none, .none, .none, none, .none, .none, 0⟩), #[]⟩
def G1057 : Obj := zc [(zsK "compared" 1596), (zsK "compared" 1597), (zsK "/claim/cut.py" 1598), (zi 587), (zi 2), (zi 0), (zi 0), (zi 3), (.ref 1052), (.bool true), (zi 181), (.ref 1053), .none, (.ref 1054), (.ref 1055), (.ref 1056), (zi 1601), (zi 587), (zsK "/claim/cut.py" 1602)]
def G1058 : Obj := zf ⟨(zo "compared"), (zo "compared"), (zA 64), (.stmts (zB 64)), (zS 64), 3, [], .none, .none, .none, (zsK "epochrooms.changes" 1594), none, (.ref 1057), .none, 0⟩
def G1059 : Obj := zt [(zsK "tell" 1606), (zsK "write" 1607), (zsK "check" 1608), (zsK "get" 1609), (zsK "use" 1610), (zsK "end" 1611), (zsK "see" 1612), (zsK "take" 1613), (zsK "mark" 1614), (zsK "leave" 1615), (zsK "begin" 1616), (zsK "look" 1617), (zsK "step" 1618), (zsK "publish" 1619), (zsK "next" 1620), (zsK "other" 1621), (zsK "clear" 1622), (zsK "round" 1623), (zsK "free" 1624), (zsK "still" 1625), (zsK "sleep" 1626), (zsK "wake" 1627), (zsK "note" 1628)]
def G1060 : Obj := zt []
def G1061 : Obj := zn []
def G1062 : Obj := zt [(zsK "value" 1633)]
def G1063 : Obj := zt []
def G1064 : Obj := ⟨.none, none, (.func ⟨(zo "written_value"), (zo "written_value"), (zA 67), (.stmts (zB 67)), (zS 67), 0, [], .none, .none, .none, .none, none, .none, .none, 0⟩), #[]⟩
def G1065 : Obj := zc [(zsK "written_value" 1630), (zsK "written_value" 1631), (zsK "/claim/cut.py" 1632), (zi 595), (zi 1), (zi 0), (zi 0), (zi 3), (.ref 1060), (.bool true), (zi 181), (.ref 1061), .none, (.ref 1062), (.ref 1063), (.ref 1064), (zi 1634), (zi 595), (zsK "/claim/cut.py" 1635)]
def G1066 : Obj := zf ⟨(zo "written_value"), (zo "written_value"), (zA 67), (.stmts (zB 67)), (zS 67), 3, [], .none, .none, .none, (zsK "epochrooms.notes" 1604), none, (.ref 1065), .none, 0⟩
def G1067 : Obj := zt []
def G1068 : Obj := zn []
def G1069 : Obj := ⟨.none, none, (.func ⟨(zo "book_words"), (zo "book_words"), (zA 68), (.stmts (zB 68)), (zS 68), 0, [], .none, .none, .none, .none, none, .none, .none, 0⟩), #[]⟩
def G1070 : Obj := zc [(zsK "book_words" 1637), (zsK "book_words" 1638), (zsK "/claim/cut.py" 1639), (zi 599), (zi 1), (zi 0), (zi 0), (zi 3), (.ref 1067), (.bool true), (zi 181), (.ref 1068), .none, .none, .none, (.ref 1069), (zi 1640), (zi 599), (zsK "/claim/cut.py" 1641)]
def G1071 : Obj := zf ⟨(zo "book_words"), (zo "book_words"), (zA 68), (.stmts (zB 68)), (zS 68), 3, [], .none, .none, .none, (zsK "epochrooms.notes" 1604), none, (.ref 1070), .none, 0⟩
def G1072 : Obj := zt []
def G1073 : Obj := zn []
def G1074 : Obj := zt [(zsK "book" 1646)]
def G1075 : Obj := zt []
def G1076 : Obj := ⟨.none, none, (.func ⟨(zo "write_book"), (zo "write_book"), (zA 69), (.stmts (zB 69)), (zS 69), 0, [], .none, .none, .none, .none, none, .none, .none, 0⟩), #[]⟩
def G1077 : Obj := zc [(zsK "write_book" 1643), (zsK "write_book" 1644), (zsK "/claim/cut.py" 1645), (zi 601), (zi 1), (zi 0), (zi 0), (zi 3), (.ref 1072), (.bool true), (zi 181), (.ref 1073), .none, (.ref 1074), (.ref 1075), (.ref 1076), (zi 1647), (zi 601), (zsK "/claim/cut.py" 1648)]
def G1078 : Obj := zf ⟨(zo "write_book"), (zo "write_book"), (zA 69), (.stmts (zB 69)), (zS 69), 3, [], .none, .none, .none, (zsK "epochrooms.notes" 1604), none, (.ref 1077), .none, 0⟩
def G1079 : Obj := zt []
def G1080 : Obj := zn []
def G1081 : Obj := ⟨.none, none, (.func ⟨(zo "write_setting"), (zo "write_setting"), (zA 70), (.stmts (zB 70)), (zS 70), 0, [], .none, .none, .none, .none, none, .none, .none, 0⟩), #[]⟩
def G1082 : Obj := zc [(zsK "write_setting" 1650), (zsK "write_setting" 1651), (zsK "/claim/cut.py" 1652), (zi 604), (zi 1), (zi 0), (zi 0), (zi 3), (.ref 1079), (.bool true), (zi 181), (.ref 1080), .none, .none, .none, (.ref 1081), (zi 1653), (zi 604), (zsK "/claim/cut.py" 1654)]
def G1083 : Obj := zf ⟨(zo "write_setting"), (zo "write_setting"), (zA 70), (.stmts (zB 70)), (zS 70), 3, [], .none, .none, .none, (zsK "epochrooms.notes" 1604), none, (.ref 1082), .none, 0⟩
def G1084 : Obj := zt []
def G1085 : Obj := zn []
def G1086 : Obj := zt [(zsK "move" 1659)]
def G1087 : Obj := zt []
def G1088 : Obj := ⟨.none, none, (.func ⟨(zo "is_written_move"), (zo "is_written_move"), (zA 71), (.stmts (zB 71)), (zS 71), 0, [], .none, .none, .none, .none, none, .none, .none, 0⟩), #[]⟩
def G1089 : Obj := zc [(zsK "is_written_move" 1656), (zsK "is_written_move" 1657), (zsK "/claim/cut.py" 1658), (zi 607), (zi 1), (zi 0), (zi 0), (zi 3), (.ref 1084), (.bool true), (zi 181), (.ref 1085), .none, (.ref 1086), (.ref 1087), (.ref 1088), (zi 1660), (zi 607), (zsK "/claim/cut.py" 1661)]
def G1090 : Obj := zf ⟨(zo "is_written_move"), (zo "is_written_move"), (zA 71), (.stmts (zB 71)), (zS 71), 3, [], .none, .none, .none, (zsK "epochrooms.notes" 1604), none, (.ref 1089), .none, 0⟩
def G1091 : Obj := zt []
def G1092 : Obj := zn []
def G1093 : Obj := ⟨.none, none, (.func ⟨(zo "write_run"), (zo "write_run"), (zA 72), (.stmts (zB 72)), (zS 72), 0, [], .none, .none, .none, .none, none, .none, .none, 0⟩), #[]⟩
def G1094 : Obj := zc [(zsK "write_run" 1663), (zsK "write_run" 1664), (zsK "/claim/cut.py" 1665), (zi 611), (zi 1), (zi 0), (zi 0), (zi 3), (.ref 1091), (.bool true), (zi 181), (.ref 1092), .none, .none, .none, (.ref 1093), (zi 1666), (zi 611), (zsK "/claim/cut.py" 1667)]
def G1095 : Obj := zf ⟨(zo "write_run"), (zo "write_run"), (zA 72), (.stmts (zB 72)), (zS 72), 3, [], .none, .none, .none, (zsK "epochrooms.notes" 1604), none, (.ref 1094), .none, 0⟩
def G1096 : Obj := zt []
def G1097 : Obj := zn []
def G1098 : Obj := zt [(zsK "book" 1674), (zsK "setting" 1675), (zsK "run" 1676)]
def G1099 : Obj := zt []
def G1100 : Obj := ⟨.none, none, (.func ⟨(zo "paper_of"), (zo "paper_of"), (zA 74), (.stmts (zB 74)), (zS 74), 0, [], .none, .none, .none, .none, none, .none, .none, 0⟩), #[]⟩
def G1101 : Obj := zc [(zsK "paper_of" 1671), (zsK "paper_of" 1672), (zsK "/claim/cut.py" 1673), (zi 619), (zi 1), (zi 0), (zi 0), (zi 3), (.ref 1096), (.bool true), (zi 181), (.ref 1097), .none, (.ref 1098), (.ref 1099), (.ref 1100), (zi 1677), (zi 619), (zsK "/claim/cut.py" 1678)]
def G1102 : Obj := zf ⟨(zo "paper_of"), (zo "paper_of"), (zA 74), (.stmts (zB 74)), (zS 74), 3, [], .none, .none, .none, (zsK "epochrooms.papers" 1669), none, (.ref 1101), .none, 0⟩
def G1103 : Obj := zt []
def G1104 : Obj := zn []
def G1105 : Obj := zt [(zsK "_law_place" 1685), (zsK "_law_value" 1686)]
def G1106 : Obj := zt []
def G1107 : Obj := ⟨.none, none, (.func ⟨(zo "_law_ask"), (zo "_law_ask"), (zA 76), (.stmts (zB 76)), (zS 76), 0, [], .none, .none, .none, .none, none, .none, .none, 0⟩), #[]⟩
def G1108 : Obj := zc [(zsK "_law_ask" 1682), (zsK "_law_ask" 1683), (zsK "/claim/cut.py" 1684), (zi 626), (zi 2), (zi 0), (zi 0), (zi 3), (.ref 1103), (.bool true), (zi 181), (.ref 1104), .none, (.ref 1105), (.ref 1106), (.ref 1107), (zi 1687), (zi 626), (zsK "/claim/cut.py" 1688)]
def G1109 : Obj := zf ⟨(zo "_law_ask"), (zo "_law_ask"), (zA 76), (.stmts (zB 76)), (zS 76), 3, [], .none, .none, .none, (zsK "law_epochrooms_k45_verdicts_refused" 1680), none, (.ref 1108), .none, 0⟩
def G1110 : Obj := zt []
def G1111 : Obj := zn []
def G1112 : Obj := zt [(zsK "_law_place" 1693), (zsK "_law_value" 1694), (zsK "_law_found" 1695), (zsK "e" 1696), (zsK "_law_good" 1697)]
def G1113 : Obj := zt []
def G1114 : Obj := ⟨.none, none, (.func ⟨(zo "_law_refused"), (zo "_law_refused"), (zA 77), (.stmts (zB 77)), (zS 77), 0, [], .none, .none, .none, .none, none, .none, .none, 0⟩), #[]⟩
def G1115 : Obj := zc [(zsK "_law_refused" 1690), (zsK "_law_refused" 1691), (zsK "/claim/cut.py" 1692), (zi 646), (zi 2), (zi 0), (zi 0), (zi 3), (.ref 1110), (.bool true), (zi 181), (.ref 1111), .none, (.ref 1112), (.ref 1113), (.ref 1114), (zi 1698), (zi 646), (zsK "/claim/cut.py" 1699)]
def G1116 : Obj := zf ⟨(zo "_law_refused"), (zo "_law_refused"), (zA 77), (.stmts (zB 77)), (zS 77), 3, [], .none, .none, .none, (zsK "law_epochrooms_k45_verdicts_refused" 1680), none, (.ref 1115), .none, 0⟩
def G1117 : Obj := zt []
def G1118 : Obj := zn []
def G1119 : Obj := zt [(zsK "_law_script" 1704), (zsK "_law_first" 1705), (zsK "_law_values" 1706), (zsK "_law_value" 1707), (zsK "_law_place" 1708)]
def G1120 : Obj := zt []
def G1121 : Obj := ⟨.none, none, (.func ⟨(zo "law"), (zo "law"), (zA 78), (.stmts (zB 78)), (zS 78), 0, [], .none, .none, .none, .none, none, .none, .none, 0⟩), #[]⟩
def G1122 : Obj := zc [(zsK "law" 1701), (zsK "law" 1702), (zsK "/claim/cut.py" 1703), (zi 654), (zi 1), (zi 0), (zi 0), (zi 3), (.ref 1117), (.bool true), (zi 181), (.ref 1118), .none, (.ref 1119), (.ref 1120), (.ref 1121), (zi 1709), (zi 654), (zsK "/claim/cut.py" 1710)]
def G1123 : Obj := zf ⟨(zo "law"), (zo "law"), (zA 78), (.stmts (zB 78)), (zS 78), 3, [], .none, .none, .none, (zsK "law_epochrooms_k45_verdicts_refused" 1680), none, (.ref 1122), .none, 0⟩
noncomputable def zTA (P : Params) : BT := (N (boot_o_0 P) (N (boot_o_1 P) (N (boot_o_3 P) (N (boot_o_7 P) Z Z) (N B11 Z Z)) (N (boot_o_5 P) (N (boot_o_9 P) Z Z) (N B13 Z Z))) (N (boot_o_2 P) (N (boot_o_4 P) (N (boot_o_8 P) Z Z) (N B12 Z Z)) (N (boot_o_6 P) (N (boot_o_10 P) Z Z) (N B14 Z Z))))
noncomputable def zStA (w : World) (os : OsState) : SharedT := ⟨zTA w.params, 15, ⟨[], [], [], 0, [], [], false, #[], [], 0, false, false, false, 0, [2000, 10, 10], false, 0, true, [], [], 0, false⟩, #[], ⟨0, 0, 0, 0⟩, 187, os⟩
noncomputable def zT21 (P : Params) : BT := (N (boot_o_0 P) (N (boot_o_1 P) (N (C3 P) (N (boot_o_7 P) (N C15 (N C31 (N C63 (N C127 (N C255 Z Z) Z) (N C191 Z Z)) (N C95 (N C159 (N C287 Z Z) Z) (N C223 Z Z))) (N C47 (N (C79 P) (N C143 (N C271 Z Z) Z) (N C207 Z Z)) (N C111 (N (C175 P) (N C303 Z Z) Z) (N C239 Z Z)))) (N C23 (N C39 (N C71 (N C135 (N C263 Z Z) Z) (N C199 Z Z)) (N C103 (N C167 (N C295 Z Z) Z) (N C231 Z Z))) (N C55 (N C87 (N C151 (N C279 Z Z) Z) (N (C215 P) Z Z)) (N C119 (N C183 (N C311 Z Z) Z) (N C247 Z Z))))) (N B11 (N C19 (N C35 (N C67 (N C131 (N C259 Z Z) Z) (N C195 Z Z)) (N C99 (N C163 (N C291 Z Z) Z) (N C227 Z Z))) (N C51 (N C83 (N C147 (N C275 Z Z) Z) (N C211 Z Z)) (N (C115 P) (N C179 (N C307 Z Z) Z) (N C243 Z Z)))) (N C27 (N C43 (N C75 (N C139 (N C267 Z Z) Z) (N C203 Z Z)) (N C107 (N C171 (N C299 Z Z) Z) (N C235 Z Z))) (N C59 (N C91 (N C155 (N C283 Z Z) Z) (N C219 Z Z)) (N C123 (N C187 (N C315 Z Z) Z) (N C251 Z Z)))))) (N (boot_o_5 P) (N (boot_o_9 P) (N C17 (N C33 (N C65 (N C129 (N C257 Z Z) Z) (N C193 Z Z)) (N C97 (N C161 (N C289 Z Z) Z) (N C225 Z Z))) (N C49 (N C81 (N C145 (N C273 Z Z) Z) (N C209 Z Z)) (N C113 (N C177 (N C305 Z Z) Z) (N C241 Z Z)))) (N C25 (N C41 (N (C73 P) (N C137 (N C265 Z Z) Z) (N C201 Z Z)) (N C105 (N C169 (N C297 Z Z) Z) (N C233 Z Z))) (N C57 (N C89 (N C153 (N C281 Z Z) Z) (N C217 Z Z)) (N (C121 P) (N C185 (N C313 Z Z) Z) (N C249 Z Z))))) (N B13 (N C21 (N (C37 P) (N C69 (N C133 (N C261 Z Z) Z) (N C197 Z Z)) (N C101 (N C165 (N C293 Z Z) Z) (N C229 Z Z))) (N C53 (N C85 (N C149 (N C277 Z Z) Z) (N C213 Z Z)) (N C117 (N C181 (N C309 Z Z) Z) (N C245 Z Z)))) (N C29 (N C45 (N C77 (N C141 (N C269 Z Z) Z) (N C205 Z Z)) (N C109 (N C173 (N C301 Z Z) Z) (N C237 Z Z))) (N C61 (N C93 (N (C157 P) (N C285 Z Z) Z) (N C221 Z Z)) (N C125 (N C189 (N C317 Z Z) Z) (N C253 Z Z))))))) (N (boot_o_2 P) (N (boot_o_4 P) (N (boot_o_8 P) (N C16 (N C32 (N C64 (N C128 (N C256 Z Z) Z) (N C192 Z Z)) (N C96 (N C160 (N C288 Z Z) Z) (N C224 Z Z))) (N C48 (N C80 (N C144 (N C272 Z Z) Z) (N C208 Z Z)) (N C112 (N C176 (N C304 Z Z) Z) (N C240 Z Z)))) (N (C24 P) (N C40 (N C72 (N (C136 P) (N C264 Z Z) Z) (N C200 Z Z)) (N C104 (N C168 (N C296 Z Z) Z) (N C232 Z Z))) (N C56 (N C88 (N C152 (N C280 Z Z) Z) (N C216 Z Z)) (N C120 (N C184 (N (C312 P) Z Z) Z) (N C248 Z Z))))) (N C12 (N C20 (N C36 (N C68 (N C132 (N C260 Z Z) Z) (N C196 Z Z)) (N (C100 P) (N C164 (N C292 Z Z) Z) (N C228 Z Z))) (N (C52 P) (N C84 (N C148 (N C276 Z Z) Z) (N C212 Z Z)) (N C116 (N C180 (N C308 Z Z) Z) (N C244 Z Z)))) (N C28 (N C44 (N C76 (N C140 (N C268 Z Z) Z) (N C204 Z Z)) (N C108 (N C172 (N C300 Z Z) Z) (N C236 Z Z))) (N C60 (N C92 (N C156 (N C284 Z Z) Z) (N C220 Z Z)) (N C124 (N C188 (N C316 Z Z) Z) (N C252 Z Z)))))) (N (boot_o_6 P) (N (boot_o_10 P) (N C18 (N C34 (N C66 (N C130 (N C258 Z Z) Z) (N C194 Z Z)) (N C98 (N C162 (N C290 Z Z) Z) (N C226 Z Z))) (N C50 (N C82 (N C146 (N C274 Z Z) Z) (N C210 Z Z)) (N C114 (N C178 (N C306 Z Z) Z) (N C242 Z Z)))) (N C26 (N C42 (N C74 (N C138 (N C266 Z Z) Z) (N C202 Z Z)) (N C106 (N C170 (N C298 Z Z) Z) (N C234 Z Z))) (N (C58 P) (N C90 (N C154 (N C282 Z Z) Z) (N C218 Z Z)) (N C122 (N C186 (N C314 Z Z) Z) (N C250 Z Z))))) (N B14 (N C22 (N C38 (N C70 (N C134 (N C262 Z Z) Z) (N C198 Z Z)) (N C102 (N C166 (N C294 Z Z) Z) (N C230 Z Z))) (N C54 (N C86 (N C150 (N C278 Z Z) Z) (N C214 Z Z)) (N C118 (N C182 (N C310 Z Z) Z) (N C246 Z Z)))) (N (C30 P) (N C46 (N C78 (N (C142 P) (N C270 Z Z) Z) (N C206 Z Z)) (N C110 (N C174 (N C302 Z Z) Z) (N C238 Z Z))) (N C62 (N (C94 P) (N C158 (N C286 Z Z) Z) (N C222 Z Z)) (N C126 (N C190 Z Z) (N C254 Z Z))))))))
noncomputable def zSt21 (w : World) (os : OsState) : SharedT := ⟨zT21 w.params, 318, ⟨[], [], [], 0, [], [], false, #[], [], 0, false, false, false, 0, [2000, 10, 10], false, 0, true, [], [], 0, false⟩, #[], ⟨0, 0, 0, 0⟩, 609, os⟩
noncomputable def zT22 (P : Params) : BT := (N (boot_o_0 P) (N (boot_o_1 P) (N (D3 P) (N (boot_o_7 P) (N C15 (N C31 (N C63 (N C127 (N C255 Z Z) (N D383 Z Z)) (N C191 (N D319 Z Z) (N D447 Z Z))) (N C95 (N C159 (N C287 Z Z) (N D415 Z Z)) (N C223 (N D351 Z Z) (N D479 Z Z)))) (N C47 (N (C79 P) (N C143 (N C271 Z Z) (N D399 Z Z)) (N C207 (N D335 Z Z) (N D463 Z Z))) (N C111 (N (C175 P) (N C303 Z Z) (N D431 Z Z)) (N C239 (N D367 Z Z) (N D495 Z Z))))) (N C23 (N C39 (N C71 (N C135 (N C263 Z Z) (N D391 Z Z)) (N C199 (N (D327 P) Z Z) (N D455 Z Z))) (N C103 (N C167 (N C295 Z Z) (N D423 Z Z)) (N C231 (N D359 Z Z) (N D487 Z Z)))) (N C55 (N C87 (N C151 (N C279 Z Z) (N D407 Z Z)) (N (C215 P) (N (D343 P) Z Z) (N D471 Z Z))) (N C119 (N C183 (N C311 Z Z) (N D439 Z Z)) (N C247 (N D375 Z Z) (N D503 Z Z)))))) (N B11 (N C19 (N C35 (N C67 (N C131 (N C259 Z Z) (N D387 Z Z)) (N C195 (N D323 Z Z) (N D451 Z Z))) (N C99 (N C163 (N C291 Z Z) (N D419 Z Z)) (N C227 (N D355 Z Z) (N D483 Z Z)))) (N C51 (N C83 (N C147 (N C275 Z Z) (N D403 Z Z)) (N C211 (N D339 Z Z) (N D467 Z Z))) (N (C115 P) (N C179 (N C307 Z Z) (N D435 Z Z)) (N C243 (N D371 Z Z) (N D499 Z Z))))) (N C27 (N C43 (N C75 (N C139 (N C267 Z Z) (N D395 Z Z)) (N C203 (N D331 Z Z) (N D459 Z Z))) (N C107 (N C171 (N C299 Z Z) (N D427 Z Z)) (N C235 (N D363 Z Z) (N D491 Z Z)))) (N C59 (N C91 (N C155 (N C283 Z Z) (N D411 Z Z)) (N C219 (N D347 Z Z) (N D475 Z Z))) (N C123 (N C187 (N C315 Z Z) (N D443 Z Z)) (N C251 (N D379 Z Z) Z)))))) (N (boot_o_5 P) (N (boot_o_9 P) (N C17 (N C33 (N C65 (N C129 (N C257 Z Z) (N D385 Z Z)) (N C193 (N D321 Z Z) (N D449 Z Z))) (N C97 (N C161 (N C289 Z Z) (N D417 Z Z)) (N C225 (N (D353 P) Z Z) (N D481 Z Z)))) (N C49 (N C81 (N C145 (N C273 Z Z) (N D401 Z Z)) (N C209 (N D337 Z Z) (N D465 Z Z))) (N C113 (N C177 (N C305 Z Z) (N D433 Z Z)) (N C241 (N D369 Z Z) (N D497 Z Z))))) (N C25 (N C41 (N (C73 P) (N C137 (N C265 Z Z) (N D393 Z Z)) (N C201 (N D329 Z Z) (N D457 Z Z))) (N C105 (N C169 (N C297 Z Z) (N D425 Z Z)) (N C233 (N D361 Z Z) (N D489 Z Z)))) (N C57 (N C89 (N C153 (N C281 Z Z) (N D409 Z Z)) (N C217 (N D345 Z Z) (N D473 Z Z))) (N (C121 P) (N C185 (N D313 Z Z) (N D441 Z Z)) (N C249 (N D377 Z Z) Z))))) (N B13 (N C21 (N (C37 P) (N C69 (N C133 (N C261 Z Z) (N D389 Z Z)) (N C197 (N D325 Z Z) (N D453 Z Z))) (N C101 (N C165 (N C293 Z Z) (N D421 Z Z)) (N C229 (N D357 Z Z) (N D485 Z Z)))) (N C53 (N C85 (N C149 (N C277 Z Z) (N D405 Z Z)) (N C213 (N D341 Z Z) (N D469 Z Z))) (N C117 (N C181 (N C309 Z Z) (N D437 Z Z)) (N C245 (N D373 Z Z) (N D501 Z Z))))) (N C29 (N C45 (N C77 (N C141 (N C269 Z Z) (N D397 Z Z)) (N C205 (N D333 Z Z) (N D461 Z Z))) (N C109 (N C173 (N C301 Z Z) (N D429 Z Z)) (N C237 (N D365 Z Z) (N D493 Z Z)))) (N C61 (N C93 (N (C157 P) (N C285 Z Z) (N D413 Z Z)) (N C221 (N D349 Z Z) (N D477 Z Z))) (N C125 (N C189 (N C317 Z Z) (N D445 Z Z)) (N C253 (N D381 Z Z) Z))))))) (N (boot_o_2 P) (N (boot_o_4 P) (N (boot_o_8 P) (N C16 (N C32 (N C64 (N C128 (N C256 Z Z) (N D384 Z Z)) (N C192 (N (D320 P) Z Z) (N D448 Z Z))) (N C96 (N C160 (N C288 Z Z) (N D416 Z Z)) (N C224 (N D352 Z Z) (N D480 Z Z)))) (N C48 (N C80 (N C144 (N C272 Z Z) (N D400 Z Z)) (N C208 (N D336 Z Z) (N D464 Z Z))) (N C112 (N C176 (N C304 Z Z) (N D432 Z Z)) (N C240 (N D368 Z Z) (N D496 Z Z))))) (N (C24 P) (N C40 (N C72 (N (C136 P) (N C264 Z Z) (N D392 Z Z)) (N C200 (N D328 Z Z) (N D456 Z Z))) (N C104 (N C168 (N C296 Z Z) (N D424 Z Z)) (N C232 (N D360 Z Z) (N D488 Z Z)))) (N C56 (N C88 (N C152 (N C280 Z Z) (N D408 Z Z)) (N C216 (N D344 Z Z) (N D472 Z Z))) (N C120 (N C184 (N (C312 P) Z Z) (N D440 Z Z)) (N C248 (N D376 Z Z) Z))))) (N D12 (N C20 (N C36 (N C68 (N C132 (N C260 Z Z) (N D388 Z Z)) (N C196 (N D324 Z Z) (N D452 Z Z))) (N (C100 P) (N C164 (N C292 Z Z) (N D420 Z Z)) (N C228 (N D356 Z Z) (N D484 Z Z)))) (N (C52 P) (N C84 (N C148 (N C276 Z Z) (N D404 Z Z)) (N C212 (N D340 Z Z) (N D468 Z Z))) (N C116 (N C180 (N C308 Z Z) (N D436 Z Z)) (N C244 (N D372 Z Z) (N (D500 P) Z Z))))) (N C28 (N C44 (N C76 (N C140 (N C268 Z Z) (N D396 Z Z)) (N C204 (N D332 Z Z) (N D460 Z Z))) (N C108 (N C172 (N C300 Z Z) (N D428 Z Z)) (N C236 (N D364 Z Z) (N D492 Z Z)))) (N C60 (N C92 (N C156 (N C284 Z Z) (N D412 Z Z)) (N C220 (N D348 Z Z) (N D476 Z Z))) (N C124 (N C188 (N C316 Z Z) (N D444 Z Z)) (N C252 (N D380 Z Z) Z)))))) (N (boot_o_6 P) (N (boot_o_10 P) (N C18 (N C34 (N C66 (N C130 (N C258 Z Z) (N D386 Z Z)) (N C194 (N D322 Z Z) (N D450 Z Z))) (N C98 (N C162 (N C290 Z Z) (N D418 Z Z)) (N C226 (N D354 Z Z) (N D482 Z Z)))) (N C50 (N C82 (N C146 (N C274 Z Z) (N D402 Z Z)) (N C210 (N D338 Z Z) (N D466 Z Z))) (N C114 (N C178 (N C306 Z Z) (N D434 Z Z)) (N C242 (N D370 Z Z) (N D498 Z Z))))) (N C26 (N C42 (N C74 (N C138 (N C266 Z Z) (N D394 Z Z)) (N C202 (N D330 Z Z) (N D458 Z Z))) (N C106 (N C170 (N C298 Z Z) (N D426 Z Z)) (N C234 (N D362 Z Z) (N D490 Z Z)))) (N (C58 P) (N C90 (N C154 (N C282 Z Z) (N D410 Z Z)) (N C218 (N D346 Z Z) (N D474 Z Z))) (N C122 (N C186 (N C314 Z Z) (N D442 Z Z)) (N C250 (N D378 Z Z) Z))))) (N B14 (N C22 (N C38 (N C70 (N C134 (N C262 Z Z) (N D390 Z Z)) (N C198 (N D326 Z Z) (N D454 Z Z))) (N C102 (N C166 (N C294 Z Z) (N D422 Z Z)) (N C230 (N D358 Z Z) (N D486 Z Z)))) (N C54 (N C86 (N C150 (N C278 Z Z) (N D406 Z Z)) (N C214 (N D342 Z Z) (N D470 Z Z))) (N C118 (N C182 (N C310 Z Z) (N D438 Z Z)) (N C246 (N D374 Z Z) (N D502 Z Z))))) (N (C30 P) (N C46 (N C78 (N (C142 P) (N C270 Z Z) (N D398 Z Z)) (N C206 (N D334 Z Z) (N D462 Z Z))) (N C110 (N C174 (N C302 Z Z) (N D430 Z Z)) (N C238 (N D366 Z Z) (N D494 Z Z)))) (N C62 (N (C94 P) (N C158 (N C286 Z Z) (N D414 Z Z)) (N C222 (N D350 Z Z) (N D478 Z Z))) (N C126 (N C190 (N D318 Z Z) (N D446 Z Z)) (N C254 (N D382 Z Z) Z))))))))
noncomputable def zSt22 (w : World) (os : OsState) : SharedT := ⟨zT22 w.params, 504, ⟨[], [], [], 0, [], [], false, #[], [], 0, false, false, false, 0, [2000, 10, 10], false, 0, true, [], [], 0, false⟩, #[], ⟨0, 0, 0, 0⟩, 853, os⟩
noncomputable def zT23 (P : Params) : BT := (N (boot_o_0 P) (N (boot_o_1 P) (N (E3 P) (N (boot_o_7 P) (N C15 (N C31 (N C63 (N C127 (N C255 (N E511 Z Z) Z) (N D383 Z Z)) (N C191 (N D319 (N E575 Z Z) Z) (N D447 Z Z))) (N C95 (N C159 (N C287 (N E543 Z Z) Z) (N D415 Z Z)) (N C223 (N D351 Z Z) (N D479 Z Z)))) (N C47 (N (C79 P) (N C143 (N C271 (N E527 Z Z) Z) (N D399 Z Z)) (N C207 (N D335 (N E591 Z Z) Z) (N D463 Z Z))) (N C111 (N (C175 P) (N C303 (N E559 Z Z) Z) (N D431 Z Z)) (N C239 (N D367 Z Z) (N D495 Z Z))))) (N C23 (N C39 (N C71 (N C135 (N C263 (N E519 Z Z) Z) (N D391 Z Z)) (N C199 (N (D327 P) (N E583 Z Z) Z) (N D455 Z Z))) (N C103 (N C167 (N C295 (N E551 Z Z) Z) (N D423 Z Z)) (N C231 (N D359 Z Z) (N D487 Z Z)))) (N C55 (N C87 (N C151 (N C279 (N E535 Z Z) Z) (N D407 Z Z)) (N (C215 P) (N (D343 P) (N E599 Z Z) Z) (N D471 Z Z))) (N C119 (N C183 (N C311 (N E567 Z Z) Z) (N D439 Z Z)) (N C247 (N D375 Z Z) (N D503 Z Z)))))) (N B11 (N C19 (N C35 (N C67 (N C131 (N C259 (N E515 Z Z) Z) (N D387 Z Z)) (N C195 (N D323 (N E579 Z Z) Z) (N D451 Z Z))) (N C99 (N C163 (N C291 (N E547 Z Z) Z) (N D419 Z Z)) (N C227 (N D355 Z Z) (N D483 Z Z)))) (N C51 (N C83 (N C147 (N C275 (N E531 Z Z) Z) (N D403 Z Z)) (N C211 (N D339 (N E595 Z Z) Z) (N D467 Z Z))) (N (C115 P) (N C179 (N C307 (N E563 Z Z) Z) (N D435 Z Z)) (N C243 (N D371 Z Z) (N D499 Z Z))))) (N C27 (N C43 (N C75 (N C139 (N C267 (N E523 Z Z) Z) (N D395 Z Z)) (N C203 (N D331 (N E587 Z Z) Z) (N D459 Z Z))) (N C107 (N C171 (N C299 (N E555 Z Z) Z) (N D427 Z Z)) (N C235 (N D363 Z Z) (N D491 Z Z)))) (N C59 (N C91 (N C155 (N C283 (N (E539 P) Z Z) Z) (N D411 Z Z)) (N C219 (N D347 (N E603 Z Z) Z) (N D475 Z Z))) (N C123 (N C187 (N C315 (N E571 Z Z) Z) (N D443 Z Z)) (N C251 (N D379 Z Z) (N E507 Z Z))))))) (N (boot_o_5 P) (N (boot_o_9 P) (N C17 (N C33 (N C65 (N C129 (N C257 (N (E513 P) Z Z) Z) (N D385 Z Z)) (N C193 (N D321 (N E577 Z Z) Z) (N D449 Z Z))) (N C97 (N C161 (N C289 (N E545 Z Z) Z) (N D417 Z Z)) (N C225 (N (D353 P) Z Z) (N D481 Z Z)))) (N C49 (N C81 (N C145 (N C273 (N (E529 P) Z Z) Z) (N D401 Z Z)) (N C209 (N D337 (N E593 Z Z) Z) (N D465 Z Z))) (N C113 (N C177 (N C305 (N E561 Z Z) Z) (N D433 Z Z)) (N C241 (N D369 Z Z) (N D497 Z Z))))) (N C25 (N C41 (N (C73 P) (N C137 (N C265 (N E521 Z Z) Z) (N D393 Z Z)) (N C201 (N D329 (N E585 Z Z) Z) (N D457 Z Z))) (N C105 (N C169 (N C297 (N E553 Z Z) Z) (N D425 Z Z)) (N C233 (N D361 Z Z) (N D489 Z Z)))) (N C57 (N C89 (N C153 (N C281 (N E537 Z Z) Z) (N D409 Z Z)) (N C217 (N D345 (N (E601 P) Z Z) Z) (N D473 Z Z))) (N (C121 P) (N C185 (N E313 (N E569 Z Z) Z) (N D441 Z Z)) (N C249 (N D377 Z Z) (N E505 Z Z)))))) (N B13 (N C21 (N (C37 P) (N C69 (N C133 (N C261 (N E517 Z Z) Z) (N D389 Z Z)) (N C197 (N D325 (N E581 Z Z) Z) (N D453 Z Z))) (N C101 (N C165 (N C293 (N E549 Z Z) Z) (N D421 Z Z)) (N C229 (N D357 Z Z) (N D485 Z Z)))) (N C53 (N C85 (N C149 (N C277 (N E533 Z Z) Z) (N D405 Z Z)) (N C213 (N D341 (N E597 Z Z) Z) (N D469 Z Z))) (N C117 (N C181 (N C309 (N E565 Z Z) Z) (N D437 Z Z)) (N C245 (N D373 Z Z) (N D501 Z Z))))) (N C29 (N C45 (N C77 (N C141 (N C269 (N E525 Z Z) Z) (N D397 Z Z)) (N C205 (N D333 (N E589 Z Z) Z) (N D461 Z Z))) (N C109 (N C173 (N C301 (N E557 Z Z) Z) (N D429 Z Z)) (N C237 (N D365 Z Z) (N D493 Z Z)))) (N C61 (N C93 (N (C157 P) (N C285 (N E541 Z Z) Z) (N D413 Z Z)) (N C221 (N D349 Z Z) (N D477 Z Z))) (N C125 (N C189 (N C317 (N E573 Z Z) Z) (N D445 Z Z)) (N C253 (N D381 Z Z) (N E509 Z Z)))))))) (N (boot_o_2 P) (N (boot_o_4 P) (N (boot_o_8 P) (N C16 (N C32 (N C64 (N C128 (N C256 (N E512 Z Z) Z) (N D384 Z Z)) (N C192 (N (D320 P) (N E576 Z Z) Z) (N D448 Z Z))) (N C96 (N C160 (N C288 (N E544 Z Z) Z) (N D416 Z Z)) (N C224 (N D352 Z Z) (N D480 Z Z)))) (N C48 (N C80 (N C144 (N C272 (N E528 Z Z) Z) (N D400 Z Z)) (N C208 (N D336 (N E592 Z Z) Z) (N D464 Z Z))) (N C112 (N C176 (N C304 (N E560 Z Z) Z) (N D432 Z Z)) (N C240 (N D368 Z Z) (N D496 Z Z))))) (N (C24 P) (N C40 (N C72 (N (C136 P) (N C264 (N E520 Z Z) Z) (N D392 Z Z)) (N C200 (N D328 (N E584 Z Z) Z) (N D456 Z Z))) (N C104 (N C168 (N C296 (N E552 Z Z) Z) (N D424 Z Z)) (N C232 (N D360 Z Z) (N D488 Z Z)))) (N C56 (N C88 (N C152 (N C280 (N E536 Z Z) Z) (N D408 Z Z)) (N C216 (N D344 (N E600 Z Z) Z) (N D472 Z Z))) (N C120 (N C184 (N (C312 P) (N E568 Z Z) Z) (N D440 Z Z)) (N C248 (N D376 Z Z) (N E504 Z Z)))))) (N E12 (N C20 (N C36 (N C68 (N C132 (N C260 (N E516 Z Z) Z) (N D388 Z Z)) (N C196 (N D324 (N E580 Z Z) Z) (N D452 Z Z))) (N (C100 P) (N C164 (N C292 (N E548 Z Z) Z) (N D420 Z Z)) (N C228 (N D356 Z Z) (N D484 Z Z)))) (N (C52 P) (N C84 (N C148 (N C276 (N E532 Z Z) Z) (N D404 Z Z)) (N C212 (N D340 (N E596 Z Z) Z) (N D468 Z Z))) (N C116 (N C180 (N C308 (N E564 Z Z) Z) (N D436 Z Z)) (N C244 (N D372 Z Z) (N (D500 P) Z Z))))) (N C28 (N C44 (N C76 (N C140 (N C268 (N E524 Z Z) Z) (N D396 Z Z)) (N C204 (N D332 (N E588 Z Z) Z) (N D460 Z Z))) (N C108 (N C172 (N C300 (N E556 Z Z) Z) (N D428 Z Z)) (N C236 (N D364 Z Z) (N D492 Z Z)))) (N C60 (N C92 (N C156 (N C284 (N E540 Z Z) Z) (N D412 Z Z)) (N C220 (N D348 (N E604 Z Z) Z) (N D476 Z Z))) (N C124 (N C188 (N C316 (N E572 Z Z) Z) (N D444 Z Z)) (N C252 (N D380 Z Z) (N E508 Z Z))))))) (N (boot_o_6 P) (N (boot_o_10 P) (N C18 (N C34 (N C66 (N C130 (N C258 (N E514 Z Z) Z) (N D386 Z Z)) (N C194 (N D322 (N E578 Z Z) Z) (N D450 Z Z))) (N C98 (N C162 (N C290 (N E546 Z Z) Z) (N D418 Z Z)) (N C226 (N D354 Z Z) (N D482 Z Z)))) (N C50 (N C82 (N C146 (N C274 (N E530 Z Z) Z) (N D402 Z Z)) (N C210 (N D338 (N E594 Z Z) Z) (N D466 Z Z))) (N C114 (N C178 (N C306 (N E562 Z Z) Z) (N D434 Z Z)) (N C242 (N D370 Z Z) (N D498 Z Z))))) (N C26 (N C42 (N C74 (N C138 (N C266 (N E522 Z Z) Z) (N D394 Z Z)) (N C202 (N D330 (N E586 Z Z) Z) (N D458 Z Z))) (N C106 (N C170 (N C298 (N E554 Z Z) Z) (N D426 Z Z)) (N C234 (N D362 Z Z) (N D490 Z Z)))) (N (C58 P) (N C90 (N C154 (N C282 (N E538 Z Z) Z) (N D410 Z Z)) (N C218 (N D346 (N E602 Z Z) Z) (N D474 Z Z))) (N C122 (N C186 (N C314 (N E570 Z Z) Z) (N D442 Z Z)) (N C250 (N D378 Z Z) (N (E506 P) Z Z)))))) (N B14 (N C22 (N C38 (N C70 (N C134 (N C262 (N E518 Z Z) Z) (N D390 Z Z)) (N C198 (N D326 (N E582 Z Z) Z) (N D454 Z Z))) (N C102 (N C166 (N C294 (N E550 Z Z) Z) (N D422 Z Z)) (N C230 (N D358 Z Z) (N D486 Z Z)))) (N C54 (N C86 (N C150 (N C278 (N E534 Z Z) Z) (N D406 Z Z)) (N C214 (N D342 (N E598 Z Z) Z) (N D470 Z Z))) (N C118 (N C182 (N C310 (N E566 Z Z) Z) (N D438 Z Z)) (N C246 (N D374 Z Z) (N D502 Z Z))))) (N (C30 P) (N C46 (N C78 (N (C142 P) (N C270 (N E526 Z Z) Z) (N D398 Z Z)) (N C206 (N D334 (N E590 Z Z) Z) (N D462 Z Z))) (N C110 (N C174 (N C302 (N E558 Z Z) Z) (N D430 Z Z)) (N C238 (N D366 Z Z) (N D494 Z Z)))) (N C62 (N (C94 P) (N C158 (N C286 (N E542 Z Z) Z) (N D414 Z Z)) (N C222 (N D350 Z Z) (N D478 Z Z))) (N C126 (N C190 (N D318 (N E574 Z Z) Z) (N D446 Z Z)) (N C254 (N D382 Z Z) (N E510 Z Z)))))))))
noncomputable def zSt23 (w : World) (os : OsState) : SharedT := ⟨zT23 w.params, 605, ⟨[], [], [], 0, [], [], false, #[], [], 0, false, false, false, 0, [2000, 10, 10], false, 0, true, [], [], 0, false⟩, #[], ⟨0, 0, 0, 0⟩, 989, os⟩
noncomputable def zT24 (P : Params) : BT := (N (boot_o_0 P) (N (boot_o_1 P) (N (F3 P) (N (boot_o_7 P) (N C15 (N C31 (N C63 (N C127 (N C255 (N E511 Z Z) Z) (N D383 (N F639 Z Z) Z)) (N C191 (N D319 (N E575 Z Z) Z) (N D447 (N F703 Z Z) Z))) (N C95 (N C159 (N C287 (N E543 Z Z) Z) (N D415 (N F671 Z Z) Z)) (N C223 (N D351 (N (F607 P) Z Z) Z) (N D479 Z Z)))) (N C47 (N (C79 P) (N C143 (N C271 (N E527 Z Z) Z) (N D399 (N F655 Z Z) Z)) (N C207 (N D335 (N E591 Z Z) Z) (N D463 (N (F719 P) Z Z) Z))) (N C111 (N (C175 P) (N C303 (N E559 Z Z) Z) (N D431 (N F687 Z Z) Z)) (N C239 (N D367 (N F623 Z Z) Z) (N D495 Z Z))))) (N C23 (N C39 (N C71 (N C135 (N C263 (N E519 Z Z) Z) (N D391 (N F647 Z Z) Z)) (N C199 (N (D327 P) (N E583 Z Z) Z) (N D455 (N F711 Z Z) Z))) (N C103 (N C167 (N C295 (N E551 Z Z) Z) (N D423 (N F679 Z Z) Z)) (N C231 (N D359 (N F615 Z Z) Z) (N D487 Z Z)))) (N C55 (N C87 (N C151 (N C279 (N E535 Z Z) Z) (N D407 (N F663 Z Z) Z)) (N (C215 P) (N (D343 P) (N E599 Z Z) Z) (N D471 Z Z))) (N C119 (N C183 (N C311 (N E567 Z Z) Z) (N D439 (N F695 Z Z) Z)) (N C247 (N D375 (N F631 Z Z) Z) (N D503 Z Z)))))) (N B11 (N C19 (N C35 (N C67 (N C131 (N C259 (N E515 Z Z) Z) (N D387 (N F643 Z Z) Z)) (N C195 (N D323 (N E579 Z Z) Z) (N D451 (N F707 Z Z) Z))) (N C99 (N C163 (N C291 (N E547 Z Z) Z) (N D419 (N F675 Z Z) Z)) (N C227 (N D355 (N F611 Z Z) Z) (N D483 Z Z)))) (N C51 (N C83 (N C147 (N C275 (N E531 Z Z) Z) (N D403 (N F659 Z Z) Z)) (N C211 (N D339 (N E595 Z Z) Z) (N D467 Z Z))) (N (C115 P) (N C179 (N C307 (N E563 Z Z) Z) (N D435 (N F691 Z Z) Z)) (N C243 (N D371 (N F627 Z Z) Z) (N D499 Z Z))))) (N C27 (N C43 (N C75 (N C139 (N C267 (N E523 Z Z) Z) (N D395 (N F651 Z Z) Z)) (N C203 (N D331 (N E587 Z Z) Z) (N D459 (N F715 Z Z) Z))) (N C107 (N C171 (N C299 (N E555 Z Z) Z) (N D427 (N F683 Z Z) Z)) (N C235 (N D363 (N F619 Z Z) Z) (N D491 Z Z)))) (N C59 (N C91 (N C155 (N C283 (N (E539 P) Z Z) Z) (N D411 (N F667 Z Z) Z)) (N C219 (N D347 (N E603 Z Z) Z) (N D475 Z Z))) (N C123 (N C187 (N C315 (N E571 Z Z) Z) (N D443 (N F699 Z Z) Z)) (N C251 (N D379 (N F635 Z Z) Z) (N E507 Z Z))))))) (N (boot_o_5 P) (N (boot_o_9 P) (N C17 (N C33 (N C65 (N C129 (N C257 (N (E513 P) Z Z) Z) (N D385 (N F641 Z Z) Z)) (N C193 (N D321 (N E577 Z Z) Z) (N D449 (N F705 Z Z) Z))) (N C97 (N C161 (N C289 (N E545 Z Z) Z) (N D417 (N F673 Z Z) Z)) (N C225 (N (D353 P) (N F609 Z Z) Z) (N D481 Z Z)))) (N C49 (N C81 (N C145 (N C273 (N (E529 P) Z Z) Z) (N D401 (N F657 Z Z) Z)) (N C209 (N D337 (N E593 Z Z) Z) (N D465 (N F721 Z Z) Z))) (N C113 (N C177 (N C305 (N E561 Z Z) Z) (N D433 (N F689 Z Z) Z)) (N C241 (N D369 (N F625 Z Z) Z) (N D497 Z Z))))) (N C25 (N C41 (N (C73 P) (N C137 (N C265 (N E521 Z Z) Z) (N D393 (N F649 Z Z) Z)) (N C201 (N D329 (N E585 Z Z) Z) (N D457 (N F713 Z Z) Z))) (N C105 (N C169 (N C297 (N E553 Z Z) Z) (N D425 (N F681 Z Z) Z)) (N C233 (N D361 (N F617 Z Z) Z) (N D489 Z Z)))) (N C57 (N C89 (N C153 (N C281 (N E537 Z Z) Z) (N D409 (N F665 Z Z) Z)) (N C217 (N D345 (N (E601 P) Z Z) Z) (N D473 Z Z))) (N (C121 P) (N C185 (N F313 (N E569 Z Z) Z) (N D441 (N F697 Z Z) Z)) (N C249 (N D377 (N F633 Z Z) Z) (N E505 Z Z)))))) (N B13 (N C21 (N (C37 P) (N C69 (N C133 (N C261 (N E517 Z Z) Z) (N D389 (N F645 Z Z) Z)) (N C197 (N D325 (N E581 Z Z) Z) (N D453 (N F709 Z Z) Z))) (N C101 (N C165 (N C293 (N E549 Z Z) Z) (N D421 (N F677 Z Z) Z)) (N C229 (N D357 (N F613 Z Z) Z) (N D485 Z Z)))) (N C53 (N C85 (N C149 (N C277 (N E533 Z Z) Z) (N D405 (N F661 Z Z) Z)) (N C213 (N D341 (N E597 Z Z) Z) (N D469 Z Z))) (N C117 (N C181 (N C309 (N E565 Z Z) Z) (N D437 (N F693 Z Z) Z)) (N C245 (N D373 (N F629 Z Z) Z) (N D501 Z Z))))) (N C29 (N C45 (N C77 (N C141 (N C269 (N E525 Z Z) Z) (N D397 (N F653 Z Z) Z)) (N C205 (N D333 (N E589 Z Z) Z) (N D461 (N F717 Z Z) Z))) (N C109 (N C173 (N C301 (N E557 Z Z) Z) (N D429 (N F685 Z Z) Z)) (N C237 (N D365 (N F621 Z Z) Z) (N D493 Z Z)))) (N C61 (N C93 (N (C157 P) (N C285 (N E541 Z Z) Z) (N D413 (N F669 Z Z) Z)) (N C221 (N D349 (N F605 Z Z) Z) (N D477 Z Z))) (N C125 (N C189 (N C317 (N E573 Z Z) Z) (N D445 (N F701 Z Z) Z)) (N C253 (N D381 (N F637 Z Z) Z) (N E509 Z Z)))))))) (N (boot_o_2 P) (N (boot_o_4 P) (N (boot_o_8 P) (N C16 (N C32 (N C64 (N C128 (N C256 (N E512 Z Z) Z) (N D384 (N (F640 P) Z Z) Z)) (N C192 (N (D320 P) (N E576 Z Z) Z) (N D448 (N F704 Z Z) Z))) (N C96 (N C160 (N C288 (N E544 Z Z) Z) (N D416 (N F672 Z Z) Z)) (N C224 (N D352 (N F608 Z Z) Z) (N D480 Z Z)))) (N C48 (N C80 (N C144 (N C272 (N E528 Z Z) Z) (N D400 (N F656 Z Z) Z)) (N C208 (N D336 (N E592 Z Z) Z) (N D464 (N F720 Z Z) Z))) (N C112 (N C176 (N C304 (N E560 Z Z) Z) (N D432 (N F688 Z Z) Z)) (N C240 (N D368 (N F624 Z Z) Z) (N D496 Z Z))))) (N (C24 P) (N C40 (N C72 (N (C136 P) (N C264 (N E520 Z Z) Z) (N D392 (N F648 Z Z) Z)) (N C200 (N D328 (N E584 Z Z) Z) (N D456 (N F712 Z Z) Z))) (N C104 (N C168 (N C296 (N E552 Z Z) Z) (N D424 (N F680 Z Z) Z)) (N C232 (N D360 (N F616 Z Z) Z) (N D488 Z Z)))) (N C56 (N C88 (N C152 (N C280 (N E536 Z Z) Z) (N D408 (N F664 Z Z) Z)) (N C216 (N D344 (N E600 Z Z) Z) (N D472 Z Z))) (N C120 (N C184 (N (C312 P) (N E568 Z Z) Z) (N D440 (N F696 Z Z) Z)) (N C248 (N D376 (N F632 Z Z) Z) (N E504 Z Z)))))) (N F12 (N C20 (N C36 (N C68 (N C132 (N C260 (N E516 Z Z) Z) (N D388 (N F644 Z Z) Z)) (N C196 (N D324 (N E580 Z Z) Z) (N D452 (N F708 Z Z) Z))) (N (C100 P) (N C164 (N C292 (N E548 Z Z) Z) (N D420 (N F676 Z Z) Z)) (N C228 (N D356 (N F612 Z Z) Z) (N D484 Z Z)))) (N (C52 P) (N C84 (N C148 (N C276 (N E532 Z Z) Z) (N D404 (N F660 Z Z) Z)) (N C212 (N D340 (N E596 Z Z) Z) (N D468 Z Z))) (N C116 (N C180 (N C308 (N E564 Z Z) Z) (N D436 (N F692 Z Z) Z)) (N C244 (N D372 (N F628 Z Z) Z) (N (D500 P) Z Z))))) (N C28 (N C44 (N C76 (N C140 (N C268 (N E524 Z Z) Z) (N D396 (N F652 Z Z) Z)) (N C204 (N D332 (N E588 Z Z) Z) (N D460 (N F716 Z Z) Z))) (N C108 (N C172 (N C300 (N E556 Z Z) Z) (N D428 (N F684 Z Z) Z)) (N C236 (N D364 (N F620 Z Z) Z) (N D492 Z Z)))) (N C60 (N C92 (N C156 (N C284 (N E540 Z Z) Z) (N D412 (N F668 Z Z) Z)) (N C220 (N D348 (N E604 Z Z) Z) (N D476 Z Z))) (N C124 (N C188 (N C316 (N E572 Z Z) Z) (N D444 (N F700 Z Z) Z)) (N C252 (N D380 (N F636 Z Z) Z) (N E508 Z Z))))))) (N (boot_o_6 P) (N (boot_o_10 P) (N C18 (N C34 (N C66 (N C130 (N C258 (N E514 Z Z) Z) (N D386 (N F642 Z Z) Z)) (N C194 (N D322 (N E578 Z Z) Z) (N D450 (N F706 Z Z) Z))) (N C98 (N C162 (N C290 (N E546 Z Z) Z) (N D418 (N F674 Z Z) Z)) (N C226 (N D354 (N F610 Z Z) Z) (N D482 Z Z)))) (N C50 (N C82 (N C146 (N C274 (N E530 Z Z) Z) (N D402 (N F658 Z Z) Z)) (N C210 (N D338 (N E594 Z Z) Z) (N D466 (N F722 Z Z) Z))) (N C114 (N C178 (N C306 (N E562 Z Z) Z) (N D434 (N F690 Z Z) Z)) (N C242 (N D370 (N F626 Z Z) Z) (N D498 Z Z))))) (N C26 (N C42 (N C74 (N C138 (N C266 (N E522 Z Z) Z) (N D394 (N F650 Z Z) Z)) (N C202 (N D330 (N E586 Z Z) Z) (N D458 (N F714 Z Z) Z))) (N C106 (N C170 (N C298 (N E554 Z Z) Z) (N D426 (N F682 Z Z) Z)) (N C234 (N D362 (N F618 Z Z) Z) (N D490 Z Z)))) (N (C58 P) (N C90 (N C154 (N C282 (N E538 Z Z) Z) (N D410 (N F666 Z Z) Z)) (N C218 (N D346 (N E602 Z Z) Z) (N D474 Z Z))) (N C122 (N C186 (N C314 (N E570 Z Z) Z) (N D442 (N F698 Z Z) Z)) (N C250 (N D378 (N F634 Z Z) Z) (N (E506 P) Z Z)))))) (N B14 (N C22 (N C38 (N C70 (N C134 (N C262 (N E518 Z Z) Z) (N D390 (N F646 Z Z) Z)) (N C198 (N D326 (N E582 Z Z) Z) (N D454 (N F710 Z Z) Z))) (N C102 (N C166 (N C294 (N E550 Z Z) Z) (N D422 (N F678 Z Z) Z)) (N C230 (N D358 (N (F614 P) Z Z) Z) (N D486 Z Z)))) (N C54 (N C86 (N C150 (N C278 (N E534 Z Z) Z) (N D406 (N F662 Z Z) Z)) (N C214 (N D342 (N E598 Z Z) Z) (N D470 Z Z))) (N C118 (N C182 (N C310 (N E566 Z Z) Z) (N D438 (N F694 Z Z) Z)) (N C246 (N D374 (N (F630 P) Z Z) Z) (N D502 Z Z))))) (N (C30 P) (N C46 (N C78 (N (C142 P) (N C270 (N E526 Z Z) Z) (N D398 (N F654 Z Z) Z)) (N C206 (N D334 (N E590 Z Z) Z) (N D462 (N F718 Z Z) Z))) (N C110 (N C174 (N C302 (N E558 Z Z) Z) (N D430 (N F686 Z Z) Z)) (N C238 (N D366 (N F622 Z Z) Z) (N D494 Z Z)))) (N C62 (N (C94 P) (N C158 (N C286 (N E542 Z Z) Z) (N D414 (N F670 Z Z) Z)) (N C222 (N D350 (N F606 Z Z) Z) (N D478 Z Z))) (N C126 (N C190 (N D318 (N E574 Z Z) Z) (N D446 (N F702 Z Z) Z)) (N C254 (N D382 (N F638 Z Z) Z) (N E510 Z Z)))))))))
noncomputable def zSt24 (w : World) (os : OsState) : SharedT := ⟨zT24 w.params, 723, ⟨[], [], [], 0, [], [], false, #[], [], 0, false, false, false, 0, [2000, 10, 10], false, 0, true, [], [], 0, false⟩, #[], ⟨0, 0, 0, 0⟩, 1146, os⟩
noncomputable def zT78 (P : Params) : BT := (N (boot_o_0 P) (N (boot_o_1 P) (N (G3 P) (N (boot_o_7 P) (N C15 (N C31 (N C63 (N C127 (N C255 (N E511 (N G1023 Z Z) Z) (N G767 Z Z)) (N D383 (N F639 Z Z) (N G895 Z Z))) (N C191 (N D319 (N E575 (N G1087 Z Z) Z) (N G831 Z Z)) (N D447 (N F703 Z Z) (N G959 Z Z)))) (N C95 (N C159 (N C287 (N E543 (N G1055 Z Z) Z) (N G799 Z Z)) (N D415 (N F671 Z Z) (N G927 Z Z))) (N C223 (N D351 (N (F607 P) (N G1119 Z Z) Z) (N G863 Z Z)) (N D479 (N G735 Z Z) (N G991 Z Z))))) (N C47 (N (C79 P) (N C143 (N C271 (N E527 (N G1039 Z Z) Z) (N G783 Z Z)) (N D399 (N F655 Z Z) (N G911 Z Z))) (N C207 (N D335 (N E591 (N G1103 Z Z) Z) (N G847 Z Z)) (N D463 (N (F719 P) Z Z) (N (G975 P) Z Z)))) (N C111 (N (C175 P) (N C303 (N E559 (N G1071 Z Z) Z) (N G815 Z Z)) (N D431 (N F687 Z Z) (N G943 Z Z))) (N C239 (N D367 (N F623 Z Z) (N G879 Z Z)) (N D495 (N G751 Z Z) (N G1007 Z Z)))))) (N C23 (N C39 (N C71 (N C135 (N C263 (N E519 (N G1031 Z Z) Z) (N G775 Z Z)) (N D391 (N F647 Z Z) (N G903 Z Z))) (N C199 (N (D327 P) (N E583 (N G1095 Z Z) Z) (N G839 Z Z)) (N D455 (N F711 Z Z) (N G967 Z Z)))) (N C103 (N C167 (N C295 (N E551 (N G1063 Z Z) Z) (N G807 Z Z)) (N D423 (N F679 Z Z) (N G935 Z Z))) (N C231 (N D359 (N F615 Z Z) (N G871 Z Z)) (N D487 (N G743 Z Z) (N G999 Z Z))))) (N C55 (N C87 (N C151 (N C279 (N E535 (N G1047 Z Z) Z) (N G791 Z Z)) (N D407 (N F663 Z Z) (N G919 Z Z))) (N (C215 P) (N (D343 P) (N E599 (N G1111 Z Z) Z) (N G855 Z Z)) (N D471 (N G727 Z Z) (N G983 Z Z)))) (N C119 (N C183 (N C311 (N E567 (N G1079 Z Z) Z) (N G823 Z Z)) (N D439 (N F695 Z Z) (N G951 Z Z))) (N C247 (N D375 (N F631 Z Z) (N G887 Z Z)) (N D503 (N G759 Z Z) (N G1015 Z Z))))))) (N B11 (N C19 (N C35 (N C67 (N C131 (N C259 (N E515 (N G1027 Z Z) Z) (N G771 Z Z)) (N D387 (N F643 Z Z) (N G899 Z Z))) (N C195 (N D323 (N E579 (N G1091 Z Z) Z) (N G835 Z Z)) (N D451 (N F707 Z Z) (N G963 Z Z)))) (N C99 (N C163 (N C291 (N E547 (N G1059 Z Z) Z) (N G803 Z Z)) (N D419 (N F675 Z Z) (N G931 Z Z))) (N C227 (N D355 (N F611 (N G1123 Z Z) Z) (N G867 Z Z)) (N D483 (N G739 Z Z) (N G995 Z Z))))) (N C51 (N C83 (N C147 (N C275 (N E531 (N G1043 Z Z) Z) (N G787 Z Z)) (N D403 (N F659 Z Z) (N G915 Z Z))) (N C211 (N D339 (N E595 (N G1107 Z Z) Z) (N G851 Z Z)) (N D467 (N G723 Z Z) (N G979 Z Z)))) (N (C115 P) (N C179 (N C307 (N E563 (N G1075 Z Z) Z) (N G819 Z Z)) (N D435 (N F691 Z Z) (N G947 Z Z))) (N C243 (N D371 (N F627 Z Z) (N G883 Z Z)) (N D499 (N G755 Z Z) (N G1011 Z Z)))))) (N C27 (N C43 (N C75 (N C139 (N C267 (N E523 (N G1035 Z Z) Z) (N G779 Z Z)) (N D395 (N F651 Z Z) (N G907 Z Z))) (N C203 (N D331 (N E587 (N G1099 Z Z) Z) (N G843 Z Z)) (N D459 (N F715 Z Z) (N G971 Z Z)))) (N C107 (N C171 (N C299 (N E555 (N G1067 Z Z) Z) (N G811 Z Z)) (N D427 (N F683 Z Z) (N G939 Z Z))) (N C235 (N D363 (N F619 Z Z) (N G875 Z Z)) (N D491 (N G747 Z Z) (N G1003 Z Z))))) (N C59 (N C91 (N C155 (N C283 (N (E539 P) (N G1051 Z Z) Z) (N G795 Z Z)) (N D411 (N F667 Z Z) (N G923 Z Z))) (N C219 (N D347 (N E603 (N G1115 Z Z) Z) (N G859 Z Z)) (N D475 (N G731 Z Z) (N G987 Z Z)))) (N C123 (N C187 (N C315 (N E571 (N G1083 Z Z) Z) (N G827 Z Z)) (N D443 (N F699 Z Z) (N G955 Z Z))) (N C251 (N D379 (N F635 Z Z) (N G891 Z Z)) (N E507 (N G763 Z Z) (N G1019 Z Z)))))))) (N (boot_o_5 P) (N (boot_o_9 P) (N C17 (N C33 (N C65 (N C129 (N C257 (N (E513 P) (N G1025 Z Z) Z) (N G769 Z Z)) (N D385 (N F641 Z Z) (N G897 Z Z))) (N C193 (N D321 (N E577 (N G1089 Z Z) Z) (N G833 Z Z)) (N D449 (N F705 Z Z) (N G961 Z Z)))) (N C97 (N C161 (N C289 (N E545 (N G1057 Z Z) Z) (N G801 Z Z)) (N D417 (N F673 Z Z) (N G929 Z Z))) (N C225 (N (D353 P) (N F609 (N G1121 Z Z) Z) (N G865 Z Z)) (N D481 (N G737 Z Z) (N G993 Z Z))))) (N C49 (N C81 (N C145 (N C273 (N (E529 P) (N G1041 Z Z) Z) (N G785 Z Z)) (N D401 (N F657 Z Z) (N G913 Z Z))) (N C209 (N D337 (N E593 (N G1105 Z Z) Z) (N G849 Z Z)) (N D465 (N F721 Z Z) (N G977 Z Z)))) (N C113 (N C177 (N C305 (N E561 (N G1073 Z Z) Z) (N G817 Z Z)) (N D433 (N F689 Z Z) (N G945 Z Z))) (N C241 (N D369 (N F625 Z Z) (N G881 Z Z)) (N D497 (N G753 Z Z) (N G1009 Z Z)))))) (N C25 (N C41 (N (C73 P) (N C137 (N C265 (N E521 (N G1033 Z Z) Z) (N G777 Z Z)) (N D393 (N F649 Z Z) (N G905 Z Z))) (N C201 (N D329 (N E585 (N G1097 Z Z) Z) (N G841 Z Z)) (N D457 (N F713 Z Z) (N G969 Z Z)))) (N C105 (N C169 (N C297 (N E553 (N G1065 Z Z) Z) (N G809 Z Z)) (N D425 (N F681 Z Z) (N G937 Z Z))) (N C233 (N D361 (N F617 Z Z) (N G873 Z Z)) (N D489 (N G745 Z Z) (N G1001 Z Z))))) (N C57 (N C89 (N C153 (N C281 (N E537 (N G1049 Z Z) Z) (N G793 Z Z)) (N D409 (N F665 Z Z) (N G921 Z Z))) (N C217 (N D345 (N (E601 P) (N G1113 Z Z) Z) (N G857 Z Z)) (N D473 (N G729 Z Z) (N G985 Z Z)))) (N (C121 P) (N C185 (N F313 (N E569 (N G1081 Z Z) Z) (N G825 Z Z)) (N D441 (N F697 Z Z) (N G953 Z Z))) (N C249 (N D377 (N F633 Z Z) (N G889 Z Z)) (N E505 (N G761 Z Z) (N G1017 Z Z))))))) (N B13 (N C21 (N (C37 P) (N C69 (N C133 (N C261 (N E517 (N G1029 Z Z) Z) (N G773 Z Z)) (N D389 (N F645 Z Z) (N G901 Z Z))) (N C197 (N D325 (N E581 (N G1093 Z Z) Z) (N G837 Z Z)) (N D453 (N F709 Z Z) (N G965 Z Z)))) (N C101 (N C165 (N C293 (N E549 (N G1061 Z Z) Z) (N G805 Z Z)) (N D421 (N F677 Z Z) (N G933 Z Z))) (N C229 (N D357 (N F613 Z Z) (N G869 Z Z)) (N D485 (N G741 Z Z) (N G997 Z Z))))) (N C53 (N C85 (N C149 (N C277 (N E533 (N G1045 Z Z) Z) (N G789 Z Z)) (N D405 (N F661 Z Z) (N G917 Z Z))) (N C213 (N D341 (N E597 (N G1109 Z Z) Z) (N G853 Z Z)) (N D469 (N G725 Z Z) (N G981 Z Z)))) (N C117 (N C181 (N C309 (N E565 (N G1077 Z Z) Z) (N G821 Z Z)) (N D437 (N F693 Z Z) (N G949 Z Z))) (N C245 (N D373 (N F629 Z Z) (N G885 Z Z)) (N D501 (N G757 Z Z) (N G1013 Z Z)))))) (N C29 (N C45 (N C77 (N C141 (N C269 (N E525 (N G1037 Z Z) Z) (N G781 Z Z)) (N D397 (N F653 Z Z) (N G909 Z Z))) (N C205 (N D333 (N E589 (N G1101 Z Z) Z) (N G845 Z Z)) (N D461 (N F717 Z Z) (N G973 Z Z)))) (N C109 (N C173 (N C301 (N E557 (N G1069 Z Z) Z) (N G813 Z Z)) (N D429 (N F685 Z Z) (N G941 Z Z))) (N C237 (N D365 (N F621 Z Z) (N (G877 P) Z Z)) (N D493 (N G749 Z Z) (N G1005 Z Z))))) (N C61 (N C93 (N (C157 P) (N C285 (N E541 (N G1053 Z Z) Z) (N G797 Z Z)) (N D413 (N F669 Z Z) (N G925 Z Z))) (N C221 (N D349 (N F605 (N G1117 Z Z) Z) (N G861 Z Z)) (N D477 (N G733 Z Z) (N G989 Z Z)))) (N C125 (N C189 (N C317 (N E573 (N G1085 Z Z) Z) (N G829 Z Z)) (N D445 (N F701 Z Z) (N G957 Z Z))) (N C253 (N D381 (N F637 Z Z) (N G893 Z Z)) (N E509 (N G765 Z Z) (N G1021 Z Z))))))))) (N (boot_o_2 P) (N (boot_o_4 P) (N (boot_o_8 P) (N C16 (N C32 (N C64 (N C128 (N C256 (N E512 (N G1024 Z Z) Z) (N G768 Z Z)) (N D384 (N (F640 P) Z Z) (N G896 Z Z))) (N C192 (N (D320 P) (N E576 (N G1088 Z Z) Z) (N G832 Z Z)) (N D448 (N F704 Z Z) (N G960 Z Z)))) (N C96 (N C160 (N C288 (N E544 (N G1056 Z Z) Z) (N G800 Z Z)) (N D416 (N F672 Z Z) (N G928 Z Z))) (N C224 (N D352 (N F608 (N G1120 Z Z) Z) (N G864 Z Z)) (N D480 (N G736 Z Z) (N G992 Z Z))))) (N C48 (N C80 (N C144 (N C272 (N E528 (N G1040 Z Z) Z) (N G784 Z Z)) (N D400 (N F656 Z Z) (N G912 Z Z))) (N C208 (N D336 (N E592 (N G1104 Z Z) Z) (N G848 Z Z)) (N D464 (N F720 Z Z) (N G976 Z Z)))) (N C112 (N C176 (N C304 (N E560 (N G1072 Z Z) Z) (N (G816 P) Z Z)) (N D432 (N F688 Z Z) (N G944 Z Z))) (N C240 (N D368 (N F624 Z Z) (N G880 Z Z)) (N D496 (N G752 Z Z) (N G1008 Z Z)))))) (N (C24 P) (N C40 (N C72 (N (C136 P) (N C264 (N E520 (N G1032 Z Z) Z) (N G776 Z Z)) (N D392 (N F648 Z Z) (N G904 Z Z))) (N C200 (N D328 (N E584 (N G1096 Z Z) Z) (N G840 Z Z)) (N D456 (N F712 Z Z) (N G968 Z Z)))) (N C104 (N C168 (N C296 (N E552 (N G1064 Z Z) Z) (N G808 Z Z)) (N D424 (N F680 Z Z) (N G936 Z Z))) (N C232 (N D360 (N F616 Z Z) (N G872 Z Z)) (N D488 (N G744 Z Z) (N G1000 Z Z))))) (N C56 (N C88 (N C152 (N C280 (N E536 (N G1048 Z Z) Z) (N G792 Z Z)) (N D408 (N F664 Z Z) (N G920 Z Z))) (N C216 (N D344 (N E600 (N G1112 Z Z) Z) (N G856 Z Z)) (N D472 (N G728 Z Z) (N G984 Z Z)))) (N C120 (N C184 (N (C312 P) (N E568 (N G1080 Z Z) Z) (N G824 Z Z)) (N D440 (N F696 Z Z) (N G952 Z Z))) (N C248 (N D376 (N F632 Z Z) (N G888 Z Z)) (N E504 (N G760 Z Z) (N G1016 Z Z))))))) (N G12 (N C20 (N C36 (N C68 (N C132 (N C260 (N E516 (N G1028 Z Z) Z) (N G772 Z Z)) (N D388 (N F644 Z Z) (N G900 Z Z))) (N C196 (N D324 (N E580 (N G1092 Z Z) Z) (N G836 Z Z)) (N D452 (N F708 Z Z) (N G964 Z Z)))) (N (C100 P) (N C164 (N C292 (N E548 (N G1060 Z Z) Z) (N G804 Z Z)) (N D420 (N F676 Z Z) (N G932 Z Z))) (N C228 (N D356 (N F612 Z Z) (N G868 Z Z)) (N D484 (N G740 Z Z) (N G996 Z Z))))) (N (C52 P) (N C84 (N C148 (N C276 (N E532 (N (G1044 P) Z Z) Z) (N G788 Z Z)) (N D404 (N F660 Z Z) (N G916 Z Z))) (N C212 (N D340 (N E596 (N G1108 Z Z) Z) (N G852 Z Z)) (N D468 (N G724 Z Z) (N G980 Z Z)))) (N C116 (N C180 (N C308 (N E564 (N G1076 Z Z) Z) (N G820 Z Z)) (N D436 (N F692 Z Z) (N G948 Z Z))) (N C244 (N D372 (N F628 Z Z) (N G884 Z Z)) (N (D500 P) (N G756 Z Z) (N G1012 Z Z)))))) (N C28 (N C44 (N C76 (N C140 (N C268 (N E524 (N G1036 Z Z) Z) (N (G780 P) Z Z)) (N D396 (N F652 Z Z) (N G908 Z Z))) (N C204 (N D332 (N E588 (N G1100 Z Z) Z) (N G844 Z Z)) (N D460 (N F716 Z Z) (N G972 Z Z)))) (N C108 (N C172 (N C300 (N E556 (N G1068 Z Z) Z) (N G812 Z Z)) (N D428 (N F684 Z Z) (N G940 Z Z))) (N C236 (N D364 (N F620 Z Z) (N G876 Z Z)) (N D492 (N G748 Z Z) (N G1004 Z Z))))) (N C60 (N C92 (N C156 (N C284 (N E540 (N G1052 Z Z) Z) (N G796 Z Z)) (N D412 (N F668 Z Z) (N G924 Z Z))) (N C220 (N D348 (N E604 (N G1116 Z Z) Z) (N G860 Z Z)) (N D476 (N G732 Z Z) (N G988 Z Z)))) (N C124 (N C188 (N C316 (N E572 (N G1084 Z Z) Z) (N G828 Z Z)) (N D444 (N F700 Z Z) (N G956 Z Z))) (N C252 (N D380 (N F636 Z Z) (N G892 Z Z)) (N E508 (N G764 Z Z) (N G1020 Z Z)))))))) (N (boot_o_6 P) (N (boot_o_10 P) (N C18 (N C34 (N C66 (N C130 (N C258 (N E514 (N G1026 Z Z) Z) (N G770 Z Z)) (N D386 (N F642 Z Z) (N (G898 P) Z Z))) (N C194 (N D322 (N E578 (N G1090 Z Z) Z) (N G834 Z Z)) (N D450 (N F706 Z Z) (N G962 Z Z)))) (N C98 (N C162 (N C290 (N E546 (N G1058 Z Z) Z) (N G802 Z Z)) (N D418 (N F674 Z Z) (N G930 Z Z))) (N C226 (N D354 (N F610 (N G1122 Z Z) Z) (N G866 Z Z)) (N D482 (N G738 Z Z) (N G994 Z Z))))) (N C50 (N C82 (N C146 (N C274 (N E530 (N G1042 Z Z) Z) (N G786 Z Z)) (N D402 (N F658 Z Z) (N G914 Z Z))) (N C210 (N D338 (N E594 (N G1106 Z Z) Z) (N G850 Z Z)) (N D466 (N F722 Z Z) (N G978 Z Z)))) (N C114 (N C178 (N C306 (N E562 (N G1074 Z Z) Z) (N G818 Z Z)) (N D434 (N F690 Z Z) (N G946 Z Z))) (N C242 (N D370 (N F626 Z Z) (N G882 Z Z)) (N D498 (N G754 Z Z) (N G1010 Z Z)))))) (N C26 (N C42 (N C74 (N C138 (N C266 (N E522 (N G1034 Z Z) Z) (N G778 Z Z)) (N D394 (N F650 Z Z) (N G906 Z Z))) (N C202 (N D330 (N E586 (N G1098 Z Z) Z) (N G842 Z Z)) (N D458 (N F714 Z Z) (N G970 Z Z)))) (N C106 (N C170 (N C298 (N E554 (N G1066 Z Z) Z) (N G810 Z Z)) (N D426 (N F682 Z Z) (N G938 Z Z))) (N C234 (N D362 (N F618 Z Z) (N G874 Z Z)) (N D490 (N G746 Z Z) (N G1002 Z Z))))) (N (C58 P) (N C90 (N C154 (N C282 (N E538 (N G1050 Z Z) Z) (N G794 Z Z)) (N D410 (N F666 Z Z) (N G922 Z Z))) (N C218 (N D346 (N E602 (N G1114 Z Z) Z) (N G858 Z Z)) (N D474 (N G730 Z Z) (N G986 Z Z)))) (N C122 (N C186 (N C314 (N E570 (N G1082 Z Z) Z) (N G826 Z Z)) (N D442 (N F698 Z Z) (N G954 Z Z))) (N C250 (N D378 (N F634 Z Z) (N (G890 P) Z Z)) (N (E506 P) (N G762 Z Z) (N G1018 Z Z))))))) (N B14 (N C22 (N C38 (N C70 (N C134 (N C262 (N E518 (N G1030 Z Z) Z) (N G774 Z Z)) (N D390 (N F646 Z Z) (N G902 Z Z))) (N C198 (N D326 (N E582 (N G1094 Z Z) Z) (N G838 Z Z)) (N D454 (N F710 Z Z) (N G966 Z Z)))) (N C102 (N C166 (N C294 (N E550 (N G1062 Z Z) Z) (N G806 Z Z)) (N D422 (N F678 Z Z) (N G934 Z Z))) (N C230 (N D358 (N (F614 P) Z Z) (N G870 Z Z)) (N D486 (N G742 Z Z) (N G998 Z Z))))) (N C54 (N C86 (N C150 (N C278 (N E534 (N G1046 Z Z) Z) (N G790 Z Z)) (N D406 (N F662 Z Z) (N G918 Z Z))) (N C214 (N D342 (N E598 (N G1110 Z Z) Z) (N G854 Z Z)) (N D470 (N G726 Z Z) (N G982 Z Z)))) (N C118 (N C182 (N C310 (N E566 (N G1078 Z Z) Z) (N (G822 P) Z Z)) (N D438 (N F694 Z Z) (N G950 Z Z))) (N C246 (N D374 (N (F630 P) Z Z) (N G886 Z Z)) (N D502 (N G758 Z Z) (N G1014 Z Z)))))) (N (C30 P) (N C46 (N C78 (N (C142 P) (N C270 (N E526 (N G1038 Z Z) Z) (N G782 Z Z)) (N D398 (N F654 Z Z) (N G910 Z Z))) (N C206 (N D334 (N E590 (N G1102 Z Z) Z) (N G846 Z Z)) (N D462 (N F718 Z Z) (N G974 Z Z)))) (N C110 (N C174 (N C302 (N E558 (N G1070 Z Z) Z) (N G814 Z Z)) (N D430 (N F686 Z Z) (N G942 Z Z))) (N C238 (N D366 (N F622 Z Z) (N G878 Z Z)) (N D494 (N G750 Z Z) (N G1006 Z Z))))) (N C62 (N (C94 P) (N C158 (N C286 (N E542 (N G1054 Z Z) Z) (N G798 Z Z)) (N D414 (N F670 Z Z) (N G926 Z Z))) (N C222 (N D350 (N F606 (N G1118 Z Z) Z) (N G862 Z Z)) (N D478 (N G734 Z Z) (N G990 Z Z)))) (N C126 (N C190 (N D318 (N E574 (N G1086 Z Z) Z) (N G830 Z Z)) (N D446 (N F702 Z Z) (N G958 Z Z))) (N C254 (N D382 (N F638 Z Z) (N G894 Z Z)) (N E510 (N G766 Z Z) (N G1022 Z Z))))))))))
noncomputable def zSt78 (w : World) (os : OsState) : SharedT := ⟨zT78 w.params, 1124, ⟨[], [], [], 0, [], [], false, #[], [], 0, false, false, false, 0, [2000, 10, 10], false, 0, true, [], [], 0, false⟩, #[], ⟨0, 0, 0, 0⟩, 1712, os⟩
def envT : Env := { scope := PP.main.scope, locals := mainNs, globals := mainNs, cells := [], code := (.ref 13), frame := some 14 }
def qT : Pos := ⟨0, 0, 0, 0⟩
def annT : Option Value := (some (.ref 6))
abbrev bodyT : List Stmt := behindTheImports PP
abbrev codeT : Code := .body bodyT envT
noncomputable def thT : Thread := ⟨denote treeTable codeT, codeT, ⟨0, 0, 0, 0⟩, [topFrame qT]⟩
noncomputable def thQ : Thread := ⟨denQ tabQ codeT, codeT, ⟨0, 0, 0, 0⟩, [topFrame qT]⟩
open ML
def lo0 : List Str := ["_wall", "RoomsError", "NoSwitch", "NoValue", "NoBook", "NoSetting", "NoMove", "IsSafe", "is_number", "is_whole", "ORDERS", "LEAST_EPOCHS", "MOST_EPOCHS", "MOST_COUNTS", "values_at", "is_same", "is_value", "care", "Book", "EpochBook", "LookBook", "StillBook", "is_book", "look_at_book", "EPOCHS", "least_needed", "is_safe", "span", "epoch_faults", "still_faults"]
def lo1 : List Str := ["look_faults", "FAULTS", "faults", "look_at_epochs", "least_behind", "fewest_epochs", "safe_numbers", "MOST_READERS", "MOST_TAKERS", "MOST_STEPPERS", "MOST_THINGS", "Setting", "look_at_setting", "KINDS", "by_hand", "Script", "got_ahead", "old_steppers", "adders", "old_mark", "old_word", "own_mark", "break_epochs", "break_looks", "break_still", "BREAKS", "breaking", "compared", "DEEDS", "written_value"]
def lo2 : List Str := ["book_words", "write_book", "write_setting", "is_written_move", "write_run", "paper_of", "_law_ask", "_law_refused"]
def loA : List Str := lo0 ++ lo1 ++ lo2
def adL : List Addr := [2, 3, 6, 4, 21, 31, 53, 74, 95, 116, 137, 158, 167, 174, 175, 193, 200, 205, 212, 313, 501, 602, 720, 729, 736, 737, 744, 751, 758, 765, 772, 779, 780, 785, 792, 799, 806, 813, 878, 889, 890, 895, 976, 987, 994, 1001, 1008, 1015, 1022, 1029, 1036, 1043, 1044, 1051, 1058, 1059, 1066, 1071, 1078, 1083, 1090, 1095, 1102, 1109, 1116, 1123, 0, 20, 30, 52, 73, 94, 115, 136, 157, 166, 173, 176, 177, 178, 179, 180, 181, 182, 183, 184, 185, 186, 192, 199, 204, 211, 312, 500, 601, 719, 728, 735, 743, 750, 757, 764, 771, 778, 784, 791, 798, 805, 812, 877, 888, 894, 975, 986, 993, 1000, 1007, 1014, 1021, 1028, 1035, 1042, 1050, 1057, 1065, 1070, 1077, 1082, 1089, 1094, 1101, 1108, 1115, 1122, 15, 16, 17, 18, 19, 29, 32, 50, 51, 71, 72, 92, 93, 113, 114, 134, 135, 155, 156, 161, 162, 163, 164, 165, 168, 169, 170, 171, 172, 187, 188, 189, 190, 191, 194, 195, 196, 197, 198, 201, 202, 203, 206, 207, 208, 209, 210, 220, 227, 234, 242, 249, 254, 261, 268, 275, 282, 289, 296, 303, 310, 311, 314, 315, 326, 335, 344, 354, 362, 379, 396, 413, 430, 447, 464, 481, 498, 499, 512, 521, 530, 540, 548, 565, 582, 599, 600, 613, 622, 631, 641, 649, 666, 683, 700, 717, 718, 723, 724, 725, 726, 727, 730, 731, 732, 733, 734, 738, 739, 740, 741, 742, 745, 746, 747, 748, 749, 752, 753, 754, 755, 756, 759, 760, 761, 762, 763, 766, 767, 768, 769, 770, 773, 774, 775, 776, 777, 781, 782, 783, 786, 787, 788, 789, 790, 793, 794, 795, 796, 797, 800, 801, 802, 803, 804, 807, 808, 809, 810, 811, 829, 836, 844, 852, 860, 868, 875, 876, 879, 880, 883, 884, 885, 886, 887, 891, 892, 893, 909, 916, 923, 930, 937, 944, 951, 958, 966, 973, 974, 977, 978, 981, 982, 983, 984, 985, 988, 989, 990, 991, 992, 995, 996, 997, 998, 999, 1002, 1003, 1004, 1005, 1006, 1009, 1010, 1011, 1012, 1013, 1016, 1017, 1018, 1019, 1020, 1023, 1024, 1025, 1026, 1027, 1030, 1031, 1032, 1033, 1034, 1037, 1038, 1039, 1040, 1041, 1045, 1046, 1047, 1048, 1049, 1052, 1053, 1054, 1055, 1056, 1060, 1061, 1062, 1063, 1064, 1067, 1068, 1069, 1072, 1073, 1074, 1075, 1076, 1079, 1080, 1081, 1084, 1085, 1086, 1087, 1088, 1091, 1092, 1093, 1096, 1097, 1098, 1099, 1100, 1103, 1104, 1105, 1106, 1107, 1110, 1111, 1112, 1113, 1114, 1117, 1118, 1119, 1120, 1121, 49, 38, 70, 59, 91, 80, 112, 101, 133, 122, 154, 143, 226, 233, 241, 248, 253, 260, 267, 274, 281, 288, 295, 302, 309, 334, 327, 321, 342, 343, 352, 353, 361, 369, 378, 386, 395, 403, 412, 420, 429, 437, 446, 454, 463, 471, 480, 488, 497, 520, 513, 507, 528, 529, 538, 539, 547, 555, 564, 572, 581, 589, 598, 621, 614, 608, 629, 630, 639, 640, 648, 656, 665, 673, 682, 690, 699, 707, 716, 828, 821, 822, 835, 843, 851, 859, 867, 874, 908, 915, 922, 929, 936, 943, 950, 957, 965, 959, 972, 44, 45, 46, 47, 48, 65, 66, 67, 68, 69, 86, 87, 88, 89, 90, 107, 108, 109, 110, 111, 128, 129, 130, 131, 132, 149, 150, 151, 152, 153, 221, 222, 223, 224, 225, 228, 229, 230, 231, 232, 240, 243, 244, 245, 246, 247, 250, 251, 252, 255, 256, 257, 258, 259, 262, 263, 264, 265, 266, 269, 270, 271, 272, 273, 276, 277, 278, 279, 280, 283, 284, 285, 286, 287, 290, 291, 292, 293, 294, 297, 298, 299, 300, 301, 304, 305, 306, 307, 308, 329, 330, 331, 332, 333, 341, 345, 351, 355, 356, 357, 358, 359, 360, 368, 377, 385, 394, 402, 411, 419, 428, 436, 445, 453, 462, 470, 479, 487, 496, 515, 516, 517, 518, 519, 527, 531, 537, 541, 542, 543, 544, 545, 546, 554, 563, 571, 580, 588, 597, 616, 617, 618, 619, 620, 628, 632, 638, 642, 643, 644, 645, 646, 647, 655, 664, 672, 681, 689, 698, 706, 715, 823, 824, 825, 826, 827, 830, 831, 832, 833, 834, 842, 850, 858, 866, 869, 870, 871, 872, 873, 903, 904, 905, 906, 907, 910, 911, 912, 913, 914, 917, 918, 919, 920, 921, 924, 925, 926, 927, 928, 931, 932, 933, 934, 935, 938, 939, 940, 941, 942, 945, 946, 947, 948, 949, 952, 953, 954, 955, 956, 960, 961, 962, 963, 964, 967, 968, 969, 970, 971, 235, 236, 237, 238, 239, 336, 337, 338, 339, 340, 346, 347, 348, 349, 350, 363, 364, 365, 366, 367, 372, 373, 374, 375, 376, 380, 381, 382, 383, 384, 389, 390, 391, 392, 393, 397, 398, 399, 400, 401, 406, 407, 408, 409, 410, 414, 415, 416, 417, 418, 423, 424, 425, 426, 427, 431, 432, 433, 434, 435, 440, 441, 442, 443, 444, 448, 449, 450, 451, 452, 457, 458, 459, 460, 461, 465, 466, 467, 468, 469, 474, 475, 476, 477, 478, 482, 483, 484, 485, 486, 491, 492, 493, 494, 495, 522, 523, 524, 525, 526, 532, 533, 534, 535, 536, 549, 550, 551, 552, 553, 558, 559, 560, 561, 562, 566, 567, 568, 569, 570, 575, 576, 577, 578, 579, 583, 584, 585, 586, 587, 592, 593, 594, 595, 596, 623, 624, 625, 626, 627, 633, 634, 635, 636, 637, 650, 651, 652, 653, 654, 659, 660, 661, 662, 663, 667, 668, 669, 670, 671, 676, 677, 678, 679, 680, 684, 685, 686, 687, 688, 693, 694, 695, 696, 697, 701, 702, 703, 704, 705, 710, 711, 712, 713, 714, 837, 838, 839, 840, 841, 845, 846, 847, 848, 849, 853, 854, 855, 856, 857, 861, 862, 863, 864, 865]
abbrev hk : Hook := hookL adL spec
def ob (s : SharedT) : AlM := obsLG adL spec (getT s)
theorem ob_eq (s : SharedT) : ob s = hk.obs s.abs := obsLG_eq (getT_eq s)
abbrev qV : Program := view PP [78]
theorem look1 (w : World) (os : OsState) : looksF PP (boot_heap w.params) (zSt78 w os).abs = true := by kernel_rfl
theorem look2 (w : World) (os : OsState) : seenQ qV loA (importedModules PP.main.body) (fun s => xlAt qV [] s && recOk Rr.toRowW.records s) (zSt78 w os).abs = openGood qV loA := by kernel_rfl
theorem look3a (w : World) (os : OsState) : ob (zSt78 w os) = hk.val w := by kernel_rfl
abbrev TLeft : Prop := LeftO PP qV loA (fun s => xlAt qV [] s && recOk Rr.toRowW.records s) hk.obs hk.val 11236 true
abbrev TFacts : Prop := ∀ {w : World} {K : PySem.W.Frag} {h : Heap} {mg : Str → Option Value} {f : Addr} (X : K.In h) (Gn : h.Ns mainGlobals mg) (hfa : mg ("law" : Str) = some (.ref f)) (c : SaysM spec w K), ∃ fd : FuncData, (∀ (s : Shared) (v : Value), BindsTo s fd ⟨[v], []⟩ [("_law_script", v)]) ∧ ∀ base : Heap, K.In base → base.Ns mainGlobals mg → FnOk P w K mg base CX0 31 f fd ["_law_script"] (fun vs H Q _ => spM (GxOf K mg nm) 1 f_law vs H Q fun _ _ _ => False)
abbrev TPure : Prop := ∀ (ns : List Int) (hl : ns.length ≤ 63), ∃ h', f_law [.ref 0] [.scr (ns.map VI.int)] = .ok (.bl true) h'
end Lw
end
section
set_option maxHeartbeats 0
open PySem PySem.W PySem.Calls PyProof.Rows
theorem Lw.fin_row (hleft : Lw.TLeft) (hfacts : Lw.TFacts) (hpure : Lw.TPure) : PySem.Challenge.rw_epochrooms_k45_verdicts_refused.Holds := by
  refine Lw.pre_row fun said => ?_
  refine MHP.head_left (r := OpenLaw.row PySem.Challenge.rw_epochrooms_k45_verdicts_refused) (q := view (OpenLaw.row PySem.Challenge.rw_epochrooms_k45_verdicts_refused).prog [78]) (H := Lw.hk) (loose := Lw.loA) (d := HandSHeadRun.topDef (OpenLaw.row PySem.Challenge.rw_epochrooms_k45_verdicts_refused).prog 78) (kwd := []) hleft
    (by kernel_rfl) (by kernel_rfl) (by kernel_rfl) (by rfl) (by first | assumption | decide +kernel) (by decide +kernel) ⟨rfl, rfl, rfl, rfl, rfl, by decide +kernel⟩ ?hw ?hc
  case hw => w_witness2
  case hc =>
    refine L2.walk_ofE (l := PySem.Challenge.rw_epochrooms_k45_verdicts_refused) (n := 63) (k := 31) (x := "_law_script") (CX := L2.CX0) rfl (by decide) (by kernel_rfl) ⟨rfl, by decide, by decide⟩ ?F (fun _ _ _ _ z => z)
    intro w mg fa h Y G hmg0
    obtain ⟨K, KX, c⟩ := Y
    have hmg : mg ("law" : PySem.Str) = some (.ref fa) := by
      have e : (HandSHeadRun.topDef (OpenLaw.row PySem.Challenge.rw_epochrooms_k45_verdicts_refused).prog 78).name = ("law" : PySem.Str) := by kernel_rfl
      rw [← e]
      exact hmg0
    obtain ⟨fd, hb, hF⟩ := hfacts KX G hmg c
    exact ⟨K, fd, _, KX, hb, fun H a ns hl hO hS => by
      obtain ⟨h', e⟩ := hpure ns hl
      exact ML.law_sp (c.ex 132 (f := ML.noLstB) rfl) hO hS e, hF⟩
end
section
set_option maxHeartbeats 0
namespace Lw
open PySem PySem.Spec PyProof.Rows PySem.W L2 He MHP HandSHeadRun
theorem th_eq : thQ = thT := by
  unfold thQ thT
  rw [← denQ_eq, ← tabQ_eq]
theorem preQ (w : World) (os : OsState) : preF (stepQ (denQ tabQ) PP w) 11 annT 12 PP w os = some (zStA w os, thQ) := by kernel_rfl
theorem preT (w : World) (os : OsState) : preF (stepQ (denQ tabQ) PP w) 11 annT 12 PP w os = some (zStA w os, thT) := by
  rw [← th_eq]
  exact preQ w os
theorem sizeT (w : World) : (boot_heap w.params).objs.size = 11 := by kernel_rfl
theorem annT_ok (w : World) : bootAnn w = annT := by kernel_rfl
theorem blockT (w : World) (os : OsState) : segRun treeTable PP w 11 annT 1 1 (zStA w os).abs (blockOf bodyT envT codeT ⟨0, 0, 0, 0⟩ [topFrame qT]) = some (.next, (zStA w os).abs, codeT, ⟨0, 0, 0, 0⟩) := by kernel_rfl
theorem seg21f (w : World) : ∀ os : OsState, segF (stepQ (denQ tabQ) PP (w.withFollow "special-get-raises" false)) 11 annT 1 2912 (zStA (w.withFollow "special-get-raises" false) os) (piecesOf (sub bodyT 0 22) envT codeT ⟨0, 0, 0, 0⟩ [topFrame qT]) = some (.next, zSt21 (w.withFollow "special-get-raises" false) os, codeT, ⟨70, 0, 134, 19⟩) := by
  intro os
  kernel_rfl
theorem seg21t (w : World) : ∀ os : OsState, segF (stepQ (denQ tabQ) PP (w.withFollow "special-get-raises" true)) 11 annT 1 2912 (zStA (w.withFollow "special-get-raises" true) os) (piecesOf (sub bodyT 0 22) envT codeT ⟨0, 0, 0, 0⟩ [topFrame qT]) = some (.next, zSt21 (w.withFollow "special-get-raises" true) os, codeT, ⟨70, 0, 134, 19⟩) := by
  intro os
  kernel_rfl
theorem seg21 (w : World) : ∀ os : OsState, segF (stepQ (denQ tabQ) PP (w)) 11 annT 1 2912 (zStA (w) os) (piecesOf (sub bodyT 0 22) envT codeT ⟨0, 0, 0, 0⟩ [topFrame qT]) = some (.next, zSt21 (w) os, codeT, ⟨70, 0, 134, 19⟩) := byRow2 "special-get-raises" (P := fun w => ∀ os : OsState, segF (stepQ (denQ tabQ) PP (w)) 11 annT 1 2912 (zStA (w) os) (piecesOf (sub bodyT 0 22) envT codeT ⟨0, 0, 0, 0⟩ [topFrame qT]) = some (.next, zSt21 (w) os, codeT, ⟨70, 0, 134, 19⟩)) seg21f seg21t w
theorem seg22 (w : World) : ∀ os : OsState, segF (stepQ (denQ tabQ) PP (w)) 11 annT 1 2301 (zSt21 (w) os) (piecesOf (sub bodyT 22 1) envT codeT ⟨70, 0, 134, 19⟩ [topFrame qT]) = some (.next, zSt22 (w) os, codeT, ⟨135, 0, 216, 28⟩) := by
  intro os
  kernel_rfl
theorem seg23 (w : World) : ∀ os : OsState, segF (stepQ (denQ tabQ) PP (w)) 11 annT 1 1264 (zSt22 (w) os) (piecesOf (sub bodyT 23 1) envT codeT ⟨135, 0, 216, 28⟩ [topFrame qT]) = some (.next, zSt23 (w) os, codeT, ⟨217, 0, 257, 29⟩) := by
  intro os
  kernel_rfl
theorem seg24 (w : World) : ∀ os : OsState, segF (stepQ (denQ tabQ) PP (w)) 11 annT 1 1469 (zSt23 (w) os) (piecesOf (sub bodyT 24 1) envT codeT ⟨217, 0, 257, 29⟩ [topFrame qT]) = some (.next, zSt24 (w) os, codeT, ⟨258, 0, 306, 29⟩) := by
  intro os
  kernel_rfl
theorem seg78f (w : World) : ∀ os : OsState, segF (stepQ (denQ tabQ) PP (w.withFollow "special-get-raises" false)) 11 annT 1 2576 (zSt24 (w.withFollow "special-get-raises" false) os) (piecesOf (sub bodyT 25 54) envT codeT ⟨258, 0, 306, 29⟩ [topFrame qT]) = some (.next, zSt78 (w.withFollow "special-get-raises" false) os, codeT, ⟨654, 0, 670, 15⟩) := by
  intro os
  kernel_rfl
theorem seg78t (w : World) : ∀ os : OsState, segF (stepQ (denQ tabQ) PP (w.withFollow "special-get-raises" true)) 11 annT 1 2576 (zSt24 (w.withFollow "special-get-raises" true) os) (piecesOf (sub bodyT 25 54) envT codeT ⟨258, 0, 306, 29⟩ [topFrame qT]) = some (.next, zSt78 (w.withFollow "special-get-raises" true) os, codeT, ⟨654, 0, 670, 15⟩) := by
  intro os
  kernel_rfl
theorem seg78 (w : World) : ∀ os : OsState, segF (stepQ (denQ tabQ) PP (w)) 11 annT 1 2576 (zSt24 (w) os) (piecesOf (sub bodyT 25 54) envT codeT ⟨258, 0, 306, 29⟩ [topFrame qT]) = some (.next, zSt78 (w) os, codeT, ⟨654, 0, 670, 15⟩) := byRow2 "special-get-raises" (P := fun w => ∀ os : OsState, segF (stepQ (denQ tabQ) PP (w)) 11 annT 1 2576 (zSt24 (w) os) (piecesOf (sub bodyT 25 54) envT codeT ⟨258, 0, 306, 29⟩ [topFrame qT]) = some (.next, zSt78 (w) os, codeT, ⟨654, 0, 670, 15⟩)) seg78f seg78t w
theorem finT (w : World) (os : OsState) : goF (stepQ (denQ tabQ) PP w) 11 annT 2 (zSt78 w os) (restOf [] envT codeT ⟨654, 0, 670, 15⟩ [topFrame qT]) = some (zSt78 w os) := by kernel_rfl
theorem bodyT_eq : bodyT = (sub bodyT 0 22 ++ (sub bodyT 22 1 ++ (sub bodyT 23 1 ++ (sub bodyT 24 1 ++ (sub bodyT 25 54 ++ []))))) := by kernel_rfl
theorem restT (w : World) (os : OsState) : topRun treeTable PP w 11 annT (1 + (2912 + (2301 + (1264 + (1469 + (2576 + (2))))))) (zStA w os).abs thT = some (zSt78 w os).abs := by
  have z : topRun treeTable PP w 11 annT (2912 + (2301 + (1264 + (1469 + (2576 + (2)))))) (zStA w os).abs (restOf (sub bodyT 0 22 ++ (sub bodyT 22 1 ++ (sub bodyT 23 1 ++ (sub bodyT 24 1 ++ (sub bodyT 25 54 ++ []))))) envT codeT ⟨0, 0, 0, 0⟩ [topFrame qT]) = some (zSt78 w os).abs := piece_app (seg_ok (seg21 w os)) (piece_app (seg_ok (seg22 w os)) (piece_app (seg_ok (seg23 w os)) (piece_app (seg_ok (seg24 w os)) (piece_app (seg_ok (seg78 w os)) (fin_ok (finT w os))))))
  rw [← bodyT_eq] at z
  exact piece_block (blockT w os) z
end Lw
end
section
set_option maxHeartbeats 400000
namespace ML
open PySem L2
mutual
def flatV : VI → Bool
  | .ref _ => false
  | .tup xs => flatVs xs
  | _ => true
def flatVs : List VI → Bool
  | [] => true
  | x :: xs => flatV x && flatVs xs
end
def flatF : List (S × VI) → Bool
  | [] => true
  | (_, v) :: r => flatV v && flatF r
def flatK : List (VI × VI) → Bool
  | [] => true
  | (k, v) :: r => flatV k && (flatV v && flatK r)
def flatO : OI → Bool
  | .lst xs => flatVs xs
  | .scr xs => flatVs xs
  | .dic kvs => flatK kvs
  | .ins _ fs => flatF fs
  | .xd fs => flatF fs
section
variable {r : List Nat}
mutual
theorem RV2.flat : ∀ {v w : VI}, RV2 r v w → flatV v = true → w = v
  | _, _, .non, _ => rfl
  | _, _, .bl _, _ => rfl
  | _, _, .int _, _ => rfl
  | _, _, .str _, _ => rfl
  | _, _, .glo _, _ => rfl
  | _, _, .ref _, e => by simp [flatV] at e
  | _, _, .tup t, e => by rw [RVs2.flat t (by simpa [flatV] using e)]
theorem RVs2.flat : ∀ {v w : List VI}, RVs2 r v w → flatVs v = true → w = v
  | _, _, .nil, _ => rfl
  | _, _, .cons a t, e => by
    simp only [flatVs, Bool.and_eq_true] at e
    rw [RV2.flat a e.1, RVs2.flat t e.2]
end
mutual
theorem RV2.self : ∀ (v : VI), flatV v = true → RV2 r v v
  | .non, _ => .non
  | .bl b, _ => .bl b
  | .int b, _ => .int b
  | .str b, _ => .str b
  | .glo b, _ => .glo b
  | .ref n, e => by simp [flatV] at e
  | .tup xs, e => .tup (RVs2.self xs (by simpa [flatV] using e))
theorem RVs2.self : ∀ (v : List VI), flatVs v = true → RVs2 r v v
  | [], _ => .nil
  | x :: xs, e => by
    simp only [flatVs, Bool.and_eq_true] at e
    exact .cons (RV2.self x e.1) (RVs2.self xs e.2)
end
theorem RFs2.flat : ∀ {v w : List (S × VI)}, RFs2 r v w → flatF v = true → w = v
  | _, _, .nil, _ => rfl
  | _, _, .cons a t, e => by
    simp only [flatF, Bool.and_eq_true] at e
    rw [a.flat e.1, RFs2.flat t e.2]
theorem RKs2.flat : ∀ {v w : List (VI × VI)}, RKs2 r v w → flatK v = true → w = v
  | _, _, .nil, _ => rfl
  | _, _, .cons a b t, e => by
    simp only [flatK, Bool.and_eq_true] at e
    rw [a.flat e.1, b.flat e.2.1, RKs2.flat t e.2.2]
theorem RFs2.self : ∀ (v : List (S × VI)), flatF v = true → RFs2 r v v
  | [], _ => .nil
  | (f, x) :: xs, e => by
    simp only [flatF, Bool.and_eq_true] at e
    exact .cons (RV2.self x e.1) (RFs2.self xs e.2)
theorem RKs2.self : ∀ (v : List (VI × VI)), flatK v = true → RKs2 r v v
  | [], _ => .nil
  | (f, x) :: xs, e => by
    simp only [flatK, Bool.and_eq_true] at e
    exact .cons (RV2.self f e.1) (RV2.self x e.2.1) (RKs2.self xs e.2.2)
theorem RO2.flat {o o' : OI} (k : RO2 r o o') (e : flatO o = true) : o' = o := by
  cases k with
  | lst t => rw [t.flat e]
  | scr t => rw [t.flat e]
  | dic t => rw [t.flat e]
  | ins t => rw [t.flat e]
  | xd t => rw [t.flat e]
theorem RO2.self (o : OI) (e : flatO o = true) : RO2 r o o := by
  cases o with
  | lst t => exact .lst (.self _ e)
  | scr t => exact .scr (.self _ e)
  | dic t => exact .dic (.self _ e)
  | ins c t => exact .ins (.self _ e)
  | xd t => exact .xd (.self _ e)
end
theorem Ag2.of {r : List Nat} {s h : Hi} (nd : r.Nodup) (len : r.length = s.length) (k : ∀ (n : Nat) (o : OI), s[n]? = some o → ∃ (m : Nat) (o' : OI), r[n]? = some m ∧ h[m]? = some o' ∧ RO2 r o o') : Ag2 r s h := ⟨nd, len, k⟩
theorem Ag2.one {p : Nat} {o o' : OI} {h : Hi} (e : h[p]? = some o') (k : RO2 [p] o o') : Ag2 [p] [o] h := ⟨by simp, rfl, fun n u q => by
  cases n with
  | zero => cases q; exact ⟨p, o', rfl, e, k⟩
  | succ n => simp at q⟩
theorem Ag2.two {p p2 : Nat} {o o' u u' : OI} {h : Hi} (ne : p ≠ p2) (e : h[p]? = some o') (k : RO2 [p, p2] o o') (e2 : h[p2]? = some u') (k2 : RO2 [p, p2] u u') : Ag2 [p, p2] [o, u] h := ⟨by simp [ne], rfl, fun n w q => by
  match n with
  | 0 => cases q; exact ⟨p, o', rfl, e, k⟩
  | 1 => cases q; exact ⟨p2, u', rfl, e2, k2⟩
  | n + 2 => simp at q⟩
structure Fr (ps : List Nat) (h h' : Hi) : Prop where
  len : h.length ≤ h'.length
  at_ : ∀ (m : Nat) (o : OI), m ∉ ps → h[m]? = some o → h'[m]? = some o
theorem Fr.refl {ps : List Nat} {h : Hi} : Fr ps h h := ⟨Nat.le_refl _, fun _ _ _ e => e⟩
theorem Fr.trans {ps : List Nat} {h h1 h2 : Hi} (a : Fr ps h h1) (b : Fr ps h1 h2) : Fr ps h h2 := ⟨Nat.le_trans a.len b.len, fun m o n e => b.at_ m o n (a.at_ m o n e)⟩
theorem Ex2.fresh {r r' : List Nat} {h h' : Hi} (e : Ex2 r h r' h') {n m : Nat} (q : r'[n]? = some m) (l : r.length ≤ n) : h.length ≤ m := by
  obtain ⟨z, rfl, k⟩ := e.more
  rw [List.getElem?_append_right l] at q
  exact k m (List.mem_of_getElem? q)
end ML
end
section
set_option maxHeartbeats 400000
namespace ML
open PySem L2
section
variable {α β : Type} {σ σ1 : Sg} {h h1 : Hi}
@[simp] theorem x_bind (a : α) (f : α → Hi → Res β) : Res.bind (.ok a h) f = f a h := rfl
@[simp] theorem x_bindS (a : α) (f : α → Hi → RS) : Res.bindS (.ok a h) σ f = f a h := rfl
@[simp] theorem x_nx (f : MS) : RS.andThen (.nx σ h) f = f σ h := rfl
@[simp] theorem x_rt (v : VI) (f : MS) : RS.andThen (.rt v h) f = .rt v h := rfl
@[simp] theorem x_endN : endB (.nx σ h) = .ok .non h := rfl
@[simp] theorem x_endR (v : VI) : endB (.rt v h) = .ok v h := rfl
@[simp] theorem x_eV (i : Nat) : eV i σ h = match σ[i]? with
  | some (some v) => .ok v h
  | _ => .err := rfl
@[simp] theorem x_eC (v : VI) : eC v σ h = .ok v h := rfl
@[simp] theorem x_aNil : aNil σ h = .ok [] h := rfl
@[simp] theorem x_aCons (a : ME) (r : MA) : aCons a r σ h = (a σ h).bind fun x h1 => (r σ h1).bind fun xs h2 => .ok (x :: xs) h2 := rfl
@[simp] theorem x_eBin (f : Op2) (a b : ME) : eBin f a b σ h = (a σ h).bind fun x h1 => (b σ h1).bind fun y h2 => ofO (f x y h2) := rfl
@[simp] theorem x_ofO (v : α) : ofO (some (v, h)) = .ok v h := rfl
@[simp] theorem x_tOf (e : ME) : tOf e σ h = (e σ h).bind fun v h1 => match v with
  | .bl b => .ok b h1
  | _ => .err := rfl
@[simp] theorem x_tAnd (a b : MT) : tAndM a b σ h = (a σ h).bind fun c h1 => match c with
  | true => b σ h1
  | false => .ok false h1 := rfl
@[simp] theorem x_tOr (a b : MT) : tOrM a b σ h = (a σ h).bind fun c h1 => match c with
  | true => .ok true h1
  | false => b σ h1 := rfl
@[simp] theorem x_tNot (a : MT) : tNotM a σ h = (a σ h).bind fun c h1 => .ok (!c) h1 := rfl
@[simp] theorem x_eIf (t : MT) (a b : ME) : eIf t a b σ h = (t σ h).bind fun c h1 => match c with
  | true => a σ h1
  | false => b σ h1 := rfl
@[simp] theorem x_sNx : sNx σ h = .nx σ h := rfl
@[simp] theorem x_sSeq (a b : MS) : sSeq a b σ h = (a σ h).andThen b := rfl
@[simp] theorem x_sRet (e : ME) : sRet e σ h = (e σ h).bindS σ fun v h1 => .rt v h1 := rfl
@[simp] theorem x_sDrop (e : ME) : sDrop e σ h = (e σ h).bindS σ fun _ h1 => .nx σ h1 := rfl
@[simp] theorem x_sIf (t : MT) (a b : MS) : sIf t a b σ h = (t σ h).bindS σ fun c h1 => match c with
  | true => a σ h1
  | false => b σ h1 := rfl
@[simp] theorem x_gNm (i : Nat) (v : VI) : gNm i v σ h = .nx (σ.set i (some v)) h := rfl
@[simp] theorem x_sAsg (e : ME) (g : MG) : sAsg e g σ h = (e σ h).bindS σ fun v h1 => g v σ h1 := rfl
@[simp] theorem x_eCall (g : MF) (ma : MA) : eCall g ma σ h = (ma σ h).bind fun vs h1 => g vs h1 := rfl
@[simp] theorem x_eCB (f : OpC) (ma : MA) : eCB f ma σ h = (ma σ h).bind fun vs h1 => ofO (f vs h1) := rfl
@[simp] theorem x_sFor (mi : MI) (g : MG) (b : MS) : sFor mi g b σ h = (mi σ h).bindS σ fun it h1 => turns it g b (it.fuel h1) 0 σ h1 := rfl
@[simp] theorem x_iSeq (e : ME) : iSeq e σ h = (e σ h).bind fun v h1 => ofI (seqOf v h1) h1 := rfl
@[simp] theorem x_iRng (a : MA) : iRng a σ h = (a σ h).bind fun vs h1 => ofI (rngOf vs) h1 := rfl
@[simp] theorem x_ofI (it : Itm) : ofI (some it) h = .ok it h := rfl
@[simp] theorem x_dropV (v : VI) : dropV σ (.ok v h) = .nx σ h := rfl
@[simp] theorem x_nxO : nxO σ (some h) = .nx σ h := rfl
@[simp] theorem x_okM (v : VI) : okM (.ok v h) = .ok v h := rfl
end
@[simp] theorem x_run0 (n : Nat) (b : MS) (h : Hi) : runB 0 n b [] h = endB (b (List.replicate n none) h) := rfl
@[simp] theorem x_run1 (n : Nat) (b : MS) (a0 : VI) (h : Hi) : runB 1 n b [a0] h = endB (b (some a0 :: List.replicate n none) h) := rfl
@[simp] theorem x_run2 (n : Nat) (b : MS) (a0 a1 : VI) (h : Hi) : runB 2 n b [a0, a1] h = endB (b (some a0 :: some a1 :: List.replicate n none) h) := rfl
@[simp] theorem x_run3 (n : Nat) (b : MS) (a0 a1 a2 : VI) (h : Hi) : runB 3 n b [a0, a1, a2] h = endB (b (some a0 :: some a1 :: some a2 :: List.replicate n none) h) := rfl
@[simp] theorem x_run4 (n : Nat) (b : MS) (a0 a1 a2 a3 : VI) (h : Hi) : runB 4 n b [a0, a1, a2, a3] h = endB (b (some a0 :: some a1 :: some a2 :: some a3 :: List.replicate n none) h) := rfl
@[simp] theorem x_run5 (n : Nat) (b : MS) (a0 a1 a2 a3 a4 : VI) (h : Hi) : runB 5 n b [a0, a1, a2, a3, a4] h = endB (b (some a0 :: some a1 :: some a2 :: some a3 :: some a4 :: List.replicate n none) h) := rfl
@[simp] theorem x_run6 (n : Nat) (b : MS) (a0 a1 a2 a3 a4 a5 : VI) (h : Hi) : runB 6 n b [a0, a1, a2, a3, a4, a5] h = endB (b (some a0 :: some a1 :: some a2 :: some a3 :: some a4 :: some a5 :: List.replicate n none) h) := rfl
@[simp] theorem x_run7 (n : Nat) (b : MS) (a0 a1 a2 a3 a4 a5 a6 : VI) (h : Hi) : runB 7 n b [a0, a1, a2, a3, a4, a5, a6] h = endB (b (some a0 :: some a1 :: some a2 :: some a3 :: some a4 :: some a5 :: some a6 :: List.replicate n none) h) := rfl
@[simp] theorem x_run8 (n : Nat) (b : MS) (a0 a1 a2 a3 a4 a5 a6 a7 : VI) (h : Hi) : runB 8 n b [a0, a1, a2, a3, a4, a5, a6, a7] h = endB (b (some a0 :: some a1 :: some a2 :: some a3 :: some a4 :: some a5 :: some a6 :: some a7 :: List.replicate n none) h) := rfl
@[simp] theorem x_run9 (n : Nat) (b : MS) (a0 a1 a2 a3 a4 a5 a6 a7 a8 : VI) (h : Hi) : runB 9 n b [a0, a1, a2, a3, a4, a5, a6, a7, a8] h = endB (b (some a0 :: some a1 :: some a2 :: some a3 :: some a4 :: some a5 :: some a6 :: some a7 :: some a8 :: List.replicate n none) h) := rfl
@[simp] theorem x_rep0 : (List.replicate 0 none : Sg) = [] := rfl
@[simp] theorem x_rep1 : (List.replicate 1 none : Sg) = [none] := rfl
@[simp] theorem x_rep2 : (List.replicate 2 none : Sg) = [none, none] := rfl
@[simp] theorem x_rep3 : (List.replicate 3 none : Sg) = [none, none, none] := rfl
@[simp] theorem x_rep4 : (List.replicate 4 none : Sg) = [none, none, none, none] := rfl
@[simp] theorem x_rep5 : (List.replicate 5 none : Sg) = [none, none, none, none, none] := rfl
end ML
end
section
namespace Lw
open PySem L2 ML
def clR : RS → Bool
  | .rt (.bl true) _ => true
  | _ => false
theorem cl_nil {h : Hi} : Ag2 [] [] h := Ag2.of (s := []) (h := h) (by simp) rfl (fun n o q => by simp at q)
end Lw
end
section
set_option maxHeartbeats 0
namespace Lw
open PySem L2 ML
abbrev bH : MS := (sIf (tOf (eBin fNe (eV 0) (eLst aNil))) (sAsg (eBin fMod (eCB cInt (aCons (eIxU (lkT [(2, f_BookD_getitemD), (3, f_BookD_getitemD), (4, f_BookD_getitemD), (5, f_BookD_getitemD)]) (eV 0) (eC (.int 0))) aNil)) (eC (.int 9))) (gNm 1)) sNx)
abbrev bR : MS := (sSeq (sAsg (eLst (aCons (eC .non) (aCons (eC (.bl true)) (aCons (eC (.int 0)) (aCons (eC (.int 3)) (aCons (eC (.str s_epochs)) (aCons (eLst aNil) (aCons (eTup (aCons (eC (.str s_epochs)) (aCons (eC (.int 2)) (aCons (eC (.int 1)) aNil)))) (aCons (eDisp [((eC (.str s_epochs)), (eC (.int 2)))]) aNil))))))))) (gNm 2)) (sSeq (sDrop (eBM .lst mAppend (eV 2) (aCons (eCallK 4 1 (mkK 29 f_SettingD_initD ar_bd_SettingD_initD_5_things) (aCons (eCallK 2 0 (mkK 3 f_EpochBookD_initD ar_bd_EpochBookD_initD_3_) (aCons (eC (.int 2)) (aCons (eC (.int 2)) aNil)) aNil) (aCons (eC (.int 1)) (aCons (eC (.int 1)) (aCons (eC (.int 1)) aNil)))) (aCons (eC (.int 2)) aNil)) aNil))) (sSeq (sFor (iSeq (eBin fAdd (eSl (eV 2) (oSome (eV 1)) oNo) (eSl (eV 2) oNo (oSome (eV 1))))) (gNm 3) (sFor (iRng (aCons (eC (.int 10)) aNil)) (gNm 4) (sIf (tNotM (tOf (eCall f__law_refused (aCons (eV 4) (aCons (eV 3) aNil))))) (sRet (eC (.bl false))) sNx))) (sSeq (sFor (iSeq (eLst (aCons (eCallK 0 0 (mkK 4 f_LookBookD_initD ar_bd_LookBookD_initD_1_) aNil aNil) (aCons (eCallK 1 0 (mkK 5 f_StillBookD_initD ar_bd_StillBookD_initD_2_) (aCons (eC (.int 2)) aNil) aNil) aNil)))) (gNm 3) (sSeq (sFor (iRng (aCons (eC (.int 3)) (aCons (eC (.int 6)) aNil))) (gNm 4) (sIf (tNotM (tOf (eCall f__law_refused (aCons (eV 4) (aCons (eV 3) aNil))))) (sRet (eC (.bl false))) sNx)) (sSeq (sIf (tOrM (tNotM (tOf (eCall f_is_safe (aCons (eV 3) aNil)))) (tOrM (tOf (eBin fNe (eCall f_faults (aCons (eV 3) aNil)) (eLst aNil))) (tOf (eBin fNotN (eCall f_span (aCons (eV 3) aNil)) (eC .non))))) (sRet (eC (.bl false))) sNx) sNx))) (sSeq (sRet (eC (.bl true))) sNx)))))
set_option synthInstance.maxHeartbeats 0 in
set_option synthInstance.maxSize 1000000 in
instance lsR : LS bR := by unfold bR; infer_instance
theorem t0 : clR (bR [none, some (.int 0), none, none, none] []) = true := by kernel_rfl
theorem t1 : clR (bR [none, some (.int 1), none, none, none] []) = true := by kernel_rfl
theorem t2 : clR (bR [none, some (.int 2), none, none, none] []) = true := by kernel_rfl
theorem t3 : clR (bR [none, some (.int 3), none, none, none] []) = true := by kernel_rfl
theorem t4 : clR (bR [none, some (.int 4), none, none, none] []) = true := by kernel_rfl
theorem t5 : clR (bR [none, some (.int 5), none, none, none] []) = true := by kernel_rfl
theorem t6 : clR (bR [none, some (.int 6), none, none, none] []) = true := by kernel_rfl
theorem t7 : clR (bR [none, some (.int 7), none, none, none] []) = true := by kernel_rfl
theorem t8 : clR (bR [none, some (.int 8), none, none, none] []) = true := by kernel_rfl
theorem law_eq : m_law = sSeq (sAsg (eC (.int 0)) (gNm 1)) (sSeq bH bR) := rfl
theorem cl_rt1 {m : MS} [x : LS m] {k : Int} {x0 x2 x3 x4 : Option VI} {h : Hi} (ev : clR (m [none, some (.int k), none, none, none] []) = true) : ∃ h', m [x0, some (.int k), x2, x3, x4] h = .rt (.bl true) h' := by
  have as : AS2 [] [none, some (.int k), none, none, none] [x0, some (.int k), x2, x3, x4] := ⟨rfl, fun i v e => by
    match i, e with
    | 0, e => cases e
    | 1, e => cases e; exact ⟨_, rfl, .int _⟩
    | 2, e => cases e
    | 3, e => cases e
    | 4, e => cases e
    | i + 5, e => cases e⟩
  have kk := x.run [] [] h _ _ cl_nil as
  cases e : m [none, some (.int k), none, none, none] [] with
  | rt v s' =>
    rw [e] at kk ev
    obtain ⟨r', h', v', e1, e2, e3, e4⟩ := kk
    cases v with
    | bl b =>
      cases b with
      | true => cases e4; exact ⟨h', e1⟩
      | false => cases ev
    | _ => cases ev
  | _ => rw [e] at ev; cases ev
theorem rest_g {k : Int} {x0 x2 x3 x4 : Option VI} {h : Hi} (k0 : 0 ≤ k) (k9 : k < 9) : ∃ h', bR [x0, some (.int k), x2, x3, x4] h = .rt (.bl true) h' := by
  have : k = 0 ∨ k = 1 ∨ k = 2 ∨ k = 3 ∨ k = 4 ∨ k = 5 ∨ k = 6 ∨ k = 7 ∨ k = 8 := by omega
  rcases this with rfl | rfl | rfl | rfl | rfl | rfl | rfl | rfl | rfl
  · exact cl_rt1 t0
  · exact cl_rt1 t1
  · exact cl_rt1 t2
  · exact cl_rt1 t3
  · exact cl_rt1 t4
  · exact cl_rt1 t5
  · exact cl_rt1 t6
  · exact cl_rt1 t7
  · exact cl_rt1 t8
theorem datI (h : Hi) (n : Nat) : ∀ ns : List Int, datL (dat (n + 1) h) (ns.map VI.int) = some (ns.map PyData.int)
  | [] => rfl
  | k :: ns => by
    have i := datI h n ns
    simp only [List.map_cons, datL]
    rw [i]
    rfl
theorem layI : ∀ ns : List Int, PyData.canLayAll0 (ns.map PyData.int) = true ∧ PyData.depthAll (ns.map PyData.int) ≤ 1
  | [] => ⟨rfl, by simp [PyData.depthAll]⟩
  | k :: ns => by
    obtain ⟨a, b⟩ := layI ns
    exact ⟨by simp [PyData.canLayAll0, PyData.canLay0, a], by simp [PyData.depthAll, PyData.depth]; exact b⟩
theorem ne_g {h : Hi} {n : Int} {ns : List Int} {m : Nat} (e1 : h[0]? = some (.scr ((n :: ns).map VI.int))) (e2 : h[m]? = some (.lst [])) : fNe (.ref 0) (.ref m) h = some (.bl true, h) := by
  have d1 : dat 66 h (.ref 0) = some (.list ((n :: ns).map PyData.int)) := by
    unfold dat
    simp only [e1, datI]
    rfl
  have d2 : dat 66 h (.ref m) = some (.list []) := by
    unfold dat
    simp only [e2, datL]
    rfl
  obtain ⟨a, b⟩ := layI (n :: ns)
  have s1 : SeqAt.shaped (.list ((n :: ns).map PyData.int)) = true := by
    simp only [SeqAt.shaped, PyData.canLay0, PyData.depth, a, Bool.true_and]
    exact decide_eq_true (by omega)
  have s2 : SeqAt.shaped (.list []) = true := by kernel_rfl
  unfold fNe eqD
  rw [d1, d2]
  dsimp only
  rw [s1, s2]
  simp [PyData.eqv, PyData.eqvAll]
theorem head_g : ∀ ns : List Int, ∃ k h', bH [some (.ref 0), some (.int 0), none, none, none] [.scr (ns.map VI.int)] = .nx [some (.ref 0), some (.int k), none, none, none] h' ∧ 0 ≤ k ∧ k < 9
  | [] => ⟨0, [.scr [], .lst []], by kernel_rfl, by omega, by omega⟩
  | n :: ns => by
    have e1 : ([OI.scr ((n :: ns).map VI.int), .lst []] : Hi)[0]? = some (.scr ((n :: ns).map VI.int)) := rfl
    have ne := ne_g e1 (m := 1) rfl
    have ll : eLst aNil [some (.ref 0), some (.int 0), none, none, none] [.scr ((n :: ns).map VI.int)] = .ok (.ref 1) [.scr ((n :: ns).map VI.int), .lst []] := rfl
    have v0 : ∀ q : Hi, eV 0 [some (.ref 0), some (.int 0), none, none, none] q = .ok (.ref 0) q := fun _ => rfl
    have t : tOf (eBin fNe (eV 0) (eLst aNil)) [some (.ref 0), some (.int 0), none, none, none] [.scr ((n :: ns).map VI.int)] = .ok true [.scr ((n :: ns).map VI.int), .lst []] := by
      simp only [z_tOf, z_eBin, v0, z_bind, ll, z_binK, ne, z_ofO, z_bolK]
    refine ⟨n % 9, [.scr ((n :: ns).map VI.int), .lst []], ?_, Int.emod_nonneg _ (by decide), Int.emod_lt_of_pos _ (by decide)⟩
    show sIf _ _ _ _ _ = _
    simp only [z_sIf, t, z_bindS, z_sifT]
    obtain ⟨q, hq⟩ : ∃ q : Hi, q = [.scr ((n :: ns).map VI.int), .lst []] := ⟨_, rfl⟩
    have g0 : q[0]? = some (.scr ((n :: ns).map VI.int)) := by rw [hq]; rfl
    rw [← hq]
    have il : insC (.ref 0) q = none := by simp [insC, g0]
    have fx : fIx (.ref 0) (.int 0) q = some (.int n, q) := by
      simp only [fIx, g0, List.map_cons]
      simp [ixL, ixI]
    have ci : cInt [.int n] q = some (.int n, q) := rfl
    have fm : fMod (.int n) (.int 9) q = some (.int (n % 9), q) := rfl
    simp only [z_sAsg, z_eBin, z_eCB, z_aCons, eIxU, v0, z_bind, z_eC, il, fx, z_ofO, z_aNil, z_consK, z_cbK, ci, z_binK, fm, z_bindS]
    rfl
theorem pure_law (ns : List Int) (hl : ns.length ≤ 63) : ∃ h', f_law [.ref 0] [.scr (ns.map VI.int)] = .ok (.bl true) h' := by
  obtain ⟨k, h1, e1, k0, k9⟩ := head_g ns
  obtain ⟨h2, e2⟩ := rest_g (x0 := some (.ref 0)) (x2 := none) (x3 := none) (x4 := none) (h := h1) k0 k9
  refine ⟨h2, ?_⟩
  have m : f_law [.ref 0] [.scr (ns.map VI.int)] = endB (m_law [some (.ref 0), none, none, none, none] [.scr (ns.map VI.int)]) := rfl
  rw [m, law_eq]
  have a : ∀ (q : Hi), sSeq (sAsg (eC (.int 0)) (gNm 1)) (sSeq bH bR) [some (.ref 0), none, none, none, none] q = sSeq bH bR [some (.ref 0), some (.int 0), none, none, none] q := fun _ => rfl
  rw [a]
  have b : sSeq bH bR [some (.ref 0), some (.int 0), none, none, none] [.scr (ns.map VI.int)] = bR [some (.ref 0), some (.int k), none, none, none] h1 := by
    show (bH _ _).andThen bR = _
    rw [e1]
    rfl
  rw [b, e2]
  rfl
end Lw
end
set_option maxHeartbeats 0
namespace Lw
open PySem PySem.Spec PyProof.Rows PySem.W L2 He ML MHP HandSHeadRun
theorem leftT : LeftO PP qV loA (fun s => xlAt qV [] s && recOk Rr.toRowW.records s) hk.obs hk.val 11236 true :=
  left_pc (A := zStA) (Z := zSt78) (th := thT) (k0 := 12) (M1 := 1 + (2912 + (2301 + (1264 + (1469 + (2576 + (2))))))) (by kernel_rfl) (by decide +kernel) (fun s => by kernel_rfl) (by decide +kernel) sizeT annT_ok preT restT look1 look2 fun w os => by rw [← ob_eq]; exact look3a w os
theorem facts {w : World} {K : PySem.W.Frag} {h : Heap} {mg : Str → Option Value} {f : Addr} (X : K.In h) (Gn : h.Ns mainGlobals mg) (hfa : mg ("law" : Str) = some (.ref f)) (c : SaysM spec w K) :
    ∃ fd : FuncData, (∀ (s : Shared) (v : Value), BindsTo s fd ⟨[v], []⟩ [("_law_script", v)]) ∧ ∀ base : Heap, K.In base → base.Ns mainGlobals mg → FnOk P w K mg base CX0 31 f fd ["_law_script"] (fun vs H Q _ => spM (GxOf K mg nm) 1 f_law vs H Q fun _ _ _ => False) := by
  have E : Ev spec w K mg := ⟨c, h, X, Gn⟩
  have e := hfa.symm.trans (glo_ok X Gn (c.ex 131 (f := fun K => (Fa.glo "law").ok K) rfl))
  cases e
  have b := FunD.bindsA (ps := ["_law_script"]) (c.def_ 34 (d := gd_law) rfl) fun _ _ _ _ _ _ us hl => match us, hl with | [_], _ => rfl
  exact ⟨_, fun s v => b s [v] rfl, fun base _ _ => fn_cx0 (ok_law (base := base) E).ok⟩
end Lw
open PySem PySem.W PySem.Calls PyProof.Rows
theorem PySem.Challenge.cw_epochrooms_k45_verdicts_refused_holds : PySem.Challenge.rw_epochrooms_k45_verdicts_refused.Holds := by
  exact Lw.fin_row Lw.leftT Lw.facts Lw.pure_law
