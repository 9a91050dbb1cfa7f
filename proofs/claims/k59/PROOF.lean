import PyProof.Rows.All
import Wide.All
import OpenK.AllK
import Wide.FinOn
import HandS.SortKw
import KE.KSortKeyAny
import PyProof.TupleOfSeq
import HandS.HeadNt
import HandS.ClsMeth
import HandS.DictEq
import HandS.Base
import HandS.Call
import HandS.List
import HandS.Comp
import HandS.Ends
import HandS.Dict
import HandS.More
import HandS.Conv
import HandS.Small
import HandS.Deep
import HandS.TupAny
import HandS.IsInst
import HandS.Iter
import HandS.WordsDict
import KE.KStateDown
import HandS.Exc
import HandS.ExcOwn
import HandS.Property
import HandS.Nested
import HandS.Words
import HandS.Defaults
import HandS.Head0
import HandS.Head1
import HandS.Head2
import HandS.HeadEnd
import HandS.Style
import HandS.HeadHook1
import HandS.HeadHook2
import HandS.HeadHook3
import PyProof.DictUpdate
import KE.KDictCopyH
import HandS.TupMul
import KE.KDictKeyed
import KE.KSuper
import KE.KSuperObj
import KE.KOpsOwn
import HandS.MakeKw
import HandS.MakeKwOnly
import KE.KMinBuiltin
import PyProof.WalkInts
import PyProof.WalksMore
import KE.KExcIs
import HandS.ExcIs
import HandS.ExcInit
import HandS.ExcField
import HandS.TryMany
import KE.KExcSuper
import HandS.GenList
import HandS.GenCall
import HandS.Star
import HandS.MethStar
import KE.KCallOwn
import HandS.TryOnly
import HandS.RaiseMore
import HandS.OwnEq
import PyProof.EqKinds
import PyProof.ReprRoads
import KE.GoesMore
import KE.KWithOwn
import HandS.DictComp
import KE.KDictDisplayH
import HandS.Flow
import PySem.Challenge.RW_epochrooms_k59_tables_counted
section
open PySem PySem.W PySem.Calls PyProof.Rows
set_option maxHeartbeats 0
theorem Lw.pre_row (x : (OpenLaw.row PySem.Challenge.rw_epochrooms_k59_tables_counted).wellSaid = true → (OpenLaw.row PySem.Challenge.rw_epochrooms_k59_tables_counted).Holds) : PySem.Challenge.rw_epochrooms_k59_tables_counted.Holds := by
  w_on; o_law
  exact x (by assumption)
end
set_option Elab.async false
set_option linter.all false
set_option maxRecDepth 100000
set_option maxHeartbeats 4000000
section
namespace MB
open PySem
section
variable {prog : Program} {w : World} {K : Type} [DecidableEq K] {kk : KeyKind prog w K} {A : Around} {E : Value → Shared → Prop} {s : Shared}
end
end MB
end
section
namespace ML
open PySem L2
abbrev S := List Nat
def toStr (s : S) : Str := ⟨s.toArray⟩
theorem toStr_inj {a b : S} (h : toStr a = toStr b) : a = b := by
  unfold toStr at h
  injection h with h
  have := congrArg Array.toList h
  simpa using this
inductive VI where
  | non | bl (b : Bool) | int (i : Int) | str (s : S) | glo (g : S) | ref (n : Nat) | tup (xs : List VI)
inductive OI where
  | lst (xs : List VI) | dic (kvs : List (VI × VI)) | ins (c : Nat) (fs : List (S × VI)) | xd (fs : List (S × VI)) | scr (xs : List VI)
  | dnk (kvs : List (VI × VI))
abbrev Hi := List OI
inductive Res (α : Type) where
  | ok (a : α) (h : Hi) | ex (c n : Nat) (h : Hi) | err
structure Gx where
  w : World
  K : PySem.W.Frag
  mg : Str → Option Value
  ct : Nat → Option Addr
mutual
inductive RV (G : Gx) (ρ : List Addr) (H : Hp) : VI → V → Prop
  | non : RV G ρ H .non .non
  | bl (b : Bool) : RV G ρ H (.bl b) (.bl b)
  | int (i : Int) : RV G ρ H (.int i) (.int i)
  | str {s : S} {x : Str} (e : x = toStr s) : RV G ρ H (.str s) (.str x)
  | glo {g : S} {a : Addr} (e : G.mg (toStr g) = some (.ref a)) : RV G ρ H (.glo g) (.ref a)
  | ref {n : Nat} {a : Addr} (e : ρ[n]? = some a) : RV G ρ H (.ref n) (.ref a)
  | tup {xs : List VI} {ys : List V} {a : Addr} (t : SqT G.K H a ys) (r : RVs G ρ H xs ys) : RV G ρ H (.tup xs) (.ref a)
inductive RVs (G : Gx) (ρ : List Addr) (H : Hp) : List VI → List V → Prop
  | nil : RVs G ρ H [] []
  | cons {v : VI} {x : V} {vs : List VI} {xs : List V} (h : RV G ρ H v x) (t : RVs G ρ H vs xs) : RVs G ρ H (v :: vs) (x :: xs)
end
structure Stp (G : Gx) (ρ : List Addr) (H : Hp) (ρ' : List Addr) (H' : Hp) : Prop where
  pre : ∀ (n : Nat) (a : Addr), ρ[n]? = some a → ρ'[n]? = some a
  tup : ∀ a xs, SqT G.K H a xs → SqT G.K H' a xs
theorem Stp.refl {G : Gx} {ρ : List Addr} {H : Hp} : Stp G ρ H ρ H := ⟨fun _ _ h => h, fun _ _ h => h⟩
theorem Stp.trans {G : Gx} {ρ ρ1 ρ2 : List Addr} {H H1 H2 : Hp} (a : Stp G ρ H ρ1 H1) (b : Stp G ρ1 H1 ρ2 H2) : Stp G ρ H ρ2 H2 :=
  ⟨fun n x h => b.pre n x (a.pre n x h), fun x xs h => b.tup x xs (a.tup x xs h)⟩
section
variable {G : Gx} {ρ ρ' : List Addr} {H H' : Hp}
mutual
theorem RV.mono (st : Stp G ρ H ρ' H') : ∀ {v : VI} {x : V}, RV G ρ H v x → RV G ρ' H' v x
  | _, _, .non => .non
  | _, _, .bl b => .bl b
  | _, _, .int i => .int i
  | _, _, .str e => .str e
  | _, _, .glo e => .glo e
  | _, _, .ref e => .ref (st.pre _ _ e)
  | _, _, .tup t r => .tup (st.tup _ _ t) (RVs.mono st r)
theorem RVs.mono (st : Stp G ρ H ρ' H') : ∀ {v : List VI} {x : List V}, RVs G ρ H v x → RVs G ρ' H' v x
  | _, _, .nil => .nil
  | _, _, .cons h t => .cons (RV.mono st h) (RVs.mono st t)
end
theorem RVs.length : ∀ {v : List VI} {x : List V}, RVs G ρ H v x → v.length = x.length
  | _, _, .nil => rfl
  | _, _, .cons _ t => by rw [List.length_cons, List.length_cons, t.length]
theorem RVs.get : ∀ {v : List VI} {x : List V} {i : Nat} {a : VI}, RVs G ρ H v x → v[i]? = some a → ∃ b, x[i]? = some b ∧ RV G ρ H a b
  | _, _, _, _, .nil, e => by simp at e
  | _, _, 0, _, .cons h _, e => by simp at e; subst e; exact ⟨_, rfl, h⟩
  | _, _, i + 1, _, .cons _ t, e => by
    obtain ⟨b, h1, h2⟩ := RVs.get (i := i) t (by simpa using e)
    exact ⟨b, by simpa using h1, h2⟩
theorem RVs.append : ∀ {v w : List VI} {x y : List V}, RVs G ρ H v x → RVs G ρ H w y → RVs G ρ H (v ++ w) (x ++ y)
  | _, _, _, _, .nil, h => h
  | _, _, _, _, .cons h t, k => .cons h (RVs.append t k)
theorem RVs.set : ∀ {v : List VI} {x : List V} {a : VI} {b : V} (i : Nat), RVs G ρ H v x → RV G ρ H a b → RVs G ρ H (v.set i a) (x.set i b)
  | _, _, _, _, _, .nil, _ => .nil
  | _, _, _, _, 0, .cons _ t, r => .cons r t
  | _, _, _, _, i + 1, .cons h t, r => .cons h (RVs.set i t r)
theorem RVs.take : ∀ {v : List VI} {x : List V} (n : Nat), RVs G ρ H v x → RVs G ρ H (v.take n) (x.take n)
  | _, _, 0, _ => .nil
  | _, _, _ + 1, .nil => .nil
  | _, _, n + 1, .cons h t => .cons h (RVs.take n t)
theorem RVs.drop : ∀ {v : List VI} {x : List V} (n : Nat), RVs G ρ H v x → RVs G ρ H (v.drop n) (x.drop n)
  | _, _, 0, r => r
  | _, _, _ + 1, .nil => .nil
  | _, _, n + 1, .cons _ t => RVs.drop n t
end
inductive RFs (G : Gx) (ρ : List Addr) (H : Hp) : List (S × VI) → List (Str × V) → Prop
  | nil : RFs G ρ H [] []
  | cons {f : S} {g : Str} {v : VI} {x : V} {fs : List (S × VI)} {gs : List (Str × V)} (e : g = toStr f) (h : RV G ρ H v x) (t : RFs G ρ H fs gs) : RFs G ρ H ((f, v) :: fs) ((g, x) :: gs)
def RK : VI → Key → Prop
  | .int i, k => k = .inl i
  | .str s, k => k = .inr (toStr s)
  | _, _ => False
inductive RKs (G : Gx) (ρ : List Addr) (H : Hp) : List (VI × VI) → List (Key × V) → Prop
  | nil : RKs G ρ H [] []
  | cons {a : VI} {k : Key} {v : VI} {x : V} {as : List (VI × VI)} {ks : List (Key × V)} (e : RK a k) (h : RV G ρ H v x) (t : RKs G ρ H as ks) : RKs G ρ H ((a, v) :: as) ((k, x) :: ks)
section
variable {G : Gx} {ρ ρ' : List Addr} {H H' : Hp}
theorem RFs.mono (st : Stp G ρ H ρ' H') : ∀ {v : List (S × VI)} {x : List (Str × V)}, RFs G ρ H v x → RFs G ρ' H' v x
  | _, _, .nil => .nil
  | _, _, .cons e h t => .cons e (h.mono st) (RFs.mono st t)
theorem RKs.mono (st : Stp G ρ H ρ' H') : ∀ {v : List (VI × VI)} {x : List (Key × V)}, RKs G ρ H v x → RKs G ρ' H' v x
  | _, _, .nil => .nil
  | _, _, .cons e h t => .cons e (h.mono st) (RKs.mono st t)
theorem RFs.length : ∀ {v : List (S × VI)} {x : List (Str × V)}, RFs G ρ H v x → v.length = x.length
  | _, _, .nil => rfl
  | _, _, .cons _ _ t => by rw [List.length_cons, List.length_cons, t.length]
theorem RKs.length : ∀ {v : List (VI × VI)} {x : List (Key × V)}, RKs G ρ H v x → v.length = x.length
  | _, _, .nil => rfl
  | _, _, .cons _ _ t => by rw [List.length_cons, List.length_cons, t.length]
end
def nksOf (f : VI → Option NestedKey) : List VI → Option (List NestedKey)
  | [] => some []
  | x :: xs => match f x with
    | some k => match nksOf f xs with
      | some ks => some (k :: ks)
      | none => none
    | none => none
def nkLf (v : VI) : Option NestedKey := match v with
  | .non => some .none
  | .bl b => some (.num (if b then 1 else 0))
  | .int i => some (.num i)
  | .str s => some (.text (toStr s))
  | _ => none
def nkOf : Nat → VI → Option NestedKey
  | 0, v => nkLf v
  | n + 1, v => match v with
    | .tup xs => (nksOf (nkOf n) xs).map .tup
    | w => nkLf w
def nkD (v : VI) : Option NestedKey := match v with
  | .tup xs => nkOf 8 (.tup xs)
  | _ => none
def NDt (w : World) (a : Addr) (xs : List (NestedKey × Addr × Value)) (h : Heap) : Prop :=
  xs.length ≤ sizeLine ∧ (a == sysModules) = false ∧ (∃ o es ep, h.get? a = some o ∧ o.ExactDict ∧ o.data = .dict es ep ∧ es.toList = xs.map fun x => ⟨x.1.hash w, .ref x.2.1, x.2.2⟩) ∧ (xs.map (·.1)).Nodup
inductive RNs (G : Gx) (ρ : List Addr) (H : Hp) : List (VI × VI) → List (NestedKey × Addr × Value) → Prop
  | nil : RNs G ρ H [] []
  | cons {k v : VI} {n : NestedKey} {b : Addr} {x : V} {u : Value} {as : List (VI × VI)} {xs : List (NestedKey × Addr × Value)} (e : nkD k = some n) (hk : RV G ρ H k (.ref b)) (h : RV G ρ H v x) (r : RelV x u) (t : RNs G ρ H as xs) : RNs G ρ H ((k, v) :: as) ((n, b, u) :: xs)
theorem RNs.mono {G : Gx} {ρ ρ' : List Addr} {H H' : Hp} (st : Stp G ρ H ρ' H') : ∀ {v : List (VI × VI)} {x : List (NestedKey × Addr × Value)}, RNs G ρ H v x → RNs G ρ' H' v x
  | _, _, .nil => .nil
  | _, _, .cons e hk h r t => .cons e (hk.mono st) (h.mono st) r (RNs.mono st t)
theorem RNs.length {G : Gx} {ρ : List Addr} {H : Hp} : ∀ {v : List (VI × VI)} {x : List (NestedKey × Addr × Value)}, RNs G ρ H v x → v.length = x.length
  | _, _, .nil => rfl
  | _, _, .cons _ _ _ _ t => by rw [List.length_cons, List.length_cons, t.length]
def OR (G : Gx) (ρ : List Addr) (H : Hp) (a : Addr) : OI → Prop
  | .lst xs => ∃ ys, H a = some (.lst ys) ∧ RVs G ρ H xs ys
  | .dic kvs => ∃ ks, H a = some (.dK ks) ∧ RKs G ρ H kvs ks
  | .ins c fs => ∃ C dx gs, G.ct c = some C ∧ H a = some (.ins C dx gs) ∧ RFs G ρ H fs gs
  | .xd fs => ∃ gs, H a = some (.xd gs) ∧ RFs G ρ H fs gs
  | .scr xs => ∃ o ys, H a = some (.frz o (.lst ys)) ∧ RVs G ρ H xs ys
  | .dnk kvs => ∃ xs, H a = some (.ext (NDt G.w a xs)) ∧ RNs G ρ H kvs xs
theorem OR.mono {G : Gx} {ρ ρ' : List Addr} {H H' : Hp} {a : Addr} (st : Stp G ρ H ρ' H') (e : H' a = H a) : ∀ {o : OI}, OR G ρ H a o → OR G ρ' H' a o
  | .lst _, ⟨ys, h, r⟩ => ⟨ys, e.trans h, r.mono st⟩
  | .dic _, ⟨ks, h, r⟩ => ⟨ks, e.trans h, r.mono st⟩
  | .ins _ _, ⟨C, dx, gs, c, h, r⟩ => ⟨C, dx, gs, c, e.trans h, r.mono st⟩
  | .xd _, ⟨gs, h, r⟩ => ⟨gs, e.trans h, r.mono st⟩
  | .scr _, ⟨o, ys, h, r⟩ => ⟨o, ys, e.trans h, r.mono st⟩
  | .dnk _, ⟨xs, h, r⟩ => ⟨xs, e.trans h, r.mono st⟩
theorem OR.some {G : Gx} {ρ : List Addr} {H : Hp} {a : Addr} : ∀ {o : OI}, OR G ρ H a o → ∃ u, H a = some u ∧ (∀ xs, u ≠ .tup xs) ∧ ∀ ob xs, u ≠ .frz ob (.tup xs)
  | .lst _, ⟨ys, h, _⟩ => ⟨_, h, (fun _ z => by cases z), (fun _ _ z => by cases z)⟩
  | .dic _, ⟨ks, h, _⟩ => ⟨_, h, (fun _ z => by cases z), (fun _ _ z => by cases z)⟩
  | .ins _ _, ⟨C, dx, gs, _, h, _⟩ => ⟨_, h, (fun _ z => by cases z), (fun _ _ z => by cases z)⟩
  | .xd _, ⟨gs, h, _⟩ => ⟨_, h, (fun _ z => by cases z), (fun _ _ z => by cases z)⟩
  | .scr _, ⟨o, ys, h, _⟩ => ⟨_, h, (fun _ z => by cases z), (fun _ _ z => by cases z)⟩
  | .dnk _, ⟨xs, h, _⟩ => ⟨_, h, (fun _ z => by cases z), (fun _ _ z => by cases z)⟩
structure Ag (G : Gx) (ρ : List Addr) (h : Hi) (H : Hp) : Prop where
  nd : ρ.Nodup
  len : ρ.length = h.length
  ob : ∀ (n : Nat) (o : OI), h[n]? = some o → ∃ a, ρ[n]? = some a ∧ OR G ρ H a o
structure AgS (G : Gx) (ρ : List Addr) (H : Hp) (σi : List (Option VI)) (σ : St) : Prop where
  len : σi.length = σ.length
  at_ : ∀ (i : Nat) (v : VI), σi[i]? = some (some v) → ∃ x, σ[i]? = some (some x) ∧ RV G ρ H v x
section
variable {G : Gx} {ρ ρ' : List Addr} {H H' : Hp} {h : Hi} {σi : List (Option VI)} {σ : St}
theorem AgS.mono (st : Stp G ρ H ρ' H') (a : AgS G ρ H σi σ) : AgS G ρ' H' σi σ := ⟨a.len, fun i v e => let ⟨x, h1, h2⟩ := a.at_ i v e; ⟨x, h1, h2.mono st⟩⟩
theorem AgS.set (a : AgS G ρ H σi σ) {v : VI} {x : V} (r : RV G ρ H v x) (i : Nat) : AgS G ρ H (σi.set i (some v)) (σ.set i (some x)) := by
  refine ⟨by simp [a.len], fun j w e => ?_⟩
  rw [List.getElem?_set] at e ⊢
  by_cases hj : i = j
  · subst hj
    rw [if_pos rfl] at e ⊢
    by_cases hl : i < σi.length
    · rw [if_pos hl] at e
      rw [if_pos (by rw [← a.len]; exact hl)]
      cases e
      exact ⟨x, rfl, r⟩
    · rw [if_neg hl] at e
      cases e
  · rw [if_neg hj] at e ⊢
    exact a.at_ j w e
theorem AgS.lose (a : AgS G ρ H σi σ) (i : Nat) (y : Option V) : AgS G ρ H (σi.set i none) (σ.set i y) := by
  refine ⟨by simp [a.len], fun j w e => ?_⟩
  rw [List.getElem?_set] at e ⊢
  by_cases hj : i = j
  · subst hj
    rw [if_pos rfl] at e
    by_cases hl : i < σi.length
    · rw [if_pos hl] at e; cases e
    · rw [if_neg hl] at e; cases e
  · rw [if_neg hj] at e ⊢
    exact a.at_ j w e
theorem sqt_ne {K : PySem.W.Frag} {H : Hp} {p : Addr} {o : HO} (hp : H p = none ∨ ∃ u, H p = some u ∧ (∀ xs, u ≠ .tup xs) ∧ ∀ ob xs, u ≠ .frz ob (.tup xs)) : ∀ a xs, SqT K H a xs → SqT K (upd H p o) a xs := by
  intro a xs q
  have hne : ∀ u, H a = some u → ((∃ xs, u = .tup xs) ∨ ∃ ob xs, u = .frz ob (.tup xs)) → a ≠ p := by
    intro u hu k z
    subst z
    rcases hp with hp | ⟨u', hp, n1, n2⟩
    · rw [hu] at hp; cases hp
    · rw [hu] at hp; cases hp
      rcases k with ⟨xs, rfl⟩ | ⟨ob, xs, rfl⟩
      · exact n1 _ rfl
      · exact n2 _ _ rfl
  rcases q with (q | ⟨ob, q⟩) | q
  · exact .inl (.inl (by rw [upd_ne (hne _ q (.inl ⟨_, rfl⟩))]; exact q))
  · exact .inl (.inr ⟨ob, by rw [upd_ne (hne _ q (.inr ⟨_, _, rfl⟩))]; exact q⟩)
  · exact .inr q
theorem Ag.at_ (ag : Ag G ρ h H) {n : Nat} {a : Addr} {o : OI} (e : h[n]? = some o) (p : ρ[n]? = some a) : OR G ρ H a o := by
  obtain ⟨b, hb, r⟩ := ag.ob n o e
  rw [p] at hb
  cases hb
  exact r
theorem Ag.fresh (a : Ag G ρ h H) {p : Addr} (hp : H p = none) : p ∉ ρ := by
  intro hm
  obtain ⟨n, hn, e⟩ := List.mem_iff_getElem.mp hm
  have hl : n < h.length := by rw [← a.len]; exact hn
  obtain ⟨b, hb, r⟩ := a.ob n h[n] (by simp [hl])
  obtain ⟨u, hu, _⟩ := r.some
  have : b = p := by
    have : ρ[n]? = some ρ[n] := by simp [hn]
    rw [this] at hb
    cases hb
    exact e
  subst this
  rw [hp] at hu
  cases hu
theorem Stp.new {p : Addr} {o : HO} (hp : H p = none) : Stp G ρ H (ρ ++ [p]) (upd H p o) :=
  ⟨fun n a e => by rw [List.getElem?_append_left (List.getElem?_eq_some_iff.mp e).1]; exact e, sqt_ne (.inl hp)⟩
theorem Stp.more {p : Addr} {o : HO} (hp : H p = none) : Stp G ρ H ρ (upd H p o) := ⟨fun _ _ e => e, sqt_ne (.inl hp)⟩
theorem Ag.more (a : Ag G ρ h H) {p : Addr} {o : HO} (hp : H p = none) : Ag G ρ h (upd H p o) :=
  ⟨a.nd, a.len, fun n u e => by
    obtain ⟨b, hb, r⟩ := a.ob n u e
    obtain ⟨_, hu, _⟩ := r.some
    exact ⟨b, hb, r.mono (Stp.more hp) (upd_ne (ne_of_none hu hp))⟩⟩
theorem Ag.new (a : Ag G ρ h H) {p : Addr} {o : HO} {u : OI} (hp : H p = none) (r : OR G (ρ ++ [p]) (upd H p o) p u) : Ag G (ρ ++ [p]) (h ++ [u]) (upd H p o) := by
  refine ⟨?_, by simp [a.len], fun n v e => ?_⟩
  · rw [List.nodup_append]
    refine ⟨a.nd, by simp, fun x hx y hy => ?_⟩
    rw [List.mem_singleton] at hy
    subst hy
    intro z
    subst z
    exact a.fresh hp hx
  · by_cases hn : n < h.length
    · rw [List.getElem?_append_left hn] at e
      obtain ⟨b, hb, q⟩ := a.ob n v e
      obtain ⟨_, hu, _⟩ := q.some
      exact ⟨b, (Stp.new (G := G) (o := o) hp).pre n b hb, q.mono (Stp.new hp) (upd_ne (ne_of_none hu hp))⟩
    · have hle : h.length ≤ n := Nat.le_of_not_lt hn
      rw [List.getElem?_append_right hle] at e
      have hz : n - h.length = 0 := by
        have := (List.getElem?_eq_some_iff.mp e).1
        simp at this
        omega
      rw [hz] at e
      simp at e
      subst e
      have : n = ρ.length := by rw [a.len]; omega
      exact ⟨p, by rw [this]; simp, r⟩
theorem Stp.wr {p : Addr} {o : HO} {n : Nat} {u : OI} (a : Ag G ρ h H) (hn : h[n]? = some u) (hp : ρ[n]? = some p) : Stp G ρ H ρ (upd H p o) :=
  ⟨fun _ _ e => e, by
    obtain ⟨b, hb, r⟩ := a.ob n u hn
    rw [hp] at hb
    cases hb
    exact sqt_ne (.inr r.some)⟩
theorem Ag.wr (a : Ag G ρ h H) {p : Addr} {o : HO} {n : Nat} {u u' : OI} (hn : h[n]? = some u) (hp : ρ[n]? = some p) (r : OR G ρ (upd H p o) p u') : Ag G ρ (h.set n u') (upd H p o) := by
  refine ⟨a.nd, by simp [a.len], fun m v e => ?_⟩
  rw [List.getElem?_set] at e
  by_cases hm : n = m
  · subst hm
    rw [if_pos rfl, if_pos (List.getElem?_eq_some_iff.mp hn).1] at e
    cases e
    exact ⟨p, hp, r⟩
  · rw [if_neg hm] at e
    obtain ⟨b, hb, q⟩ := a.ob m v e
    have hne : b ≠ p := by
      intro z
      subst z
      obtain ⟨h1, e1⟩ := List.getElem?_eq_some_iff.mp hp
      obtain ⟨h2, e2⟩ := List.getElem?_eq_some_iff.mp hb
      have pw := List.pairwise_iff_getElem.mp a.nd
      rcases Nat.lt_trichotomy n m with l | l | l
      · exact pw n m h1 h2 l (e1.trans e2.symm)
      · exact hm l
      · exact pw m n h2 h1 l (e2.trans e1.symm)
    exact ⟨b, hb, q.mono (Stp.wr a hn hp) (upd_ne hne)⟩
end
end ML
end
section
namespace ML
open PySem L2
abbrev Sg := List (Option VI)
abbrev ME := Sg → Hi → Res VI
abbrev MT := Sg → Hi → Res Bool
abbrev MA := Sg → Hi → Res (List VI)
def Res.bind {α β : Type} (r : Res α) (f : α → Hi → Res β) : Res β := match r with
  | .ok a h => f a h
  | .ex c n h => .ex c n h
  | .err => .err
def FinG {α β : Type} (G : Gx) (ρ : List Addr) (H : Hp) (R : List Addr → Hp → α → β → Prop) (Q : β → Hp → Prop) (W : Value → Option Addr → Hp → Prop) : Res α → Prop
  | .ok v h' => ∀ ρ' H' x, Stp G ρ H ρ' H' → Ag G ρ' h' H' → R ρ' H' v x → Q x H'
  | .ex c n h' => ∀ ρ' H' d C, Stp G ρ H ρ' H' → Ag G ρ' h' H' → ρ'[n]? = some d → G.ct c = some C → W (.ref C) (some d) H'
  | .err => False
def rdG {α β : Type} (G : Gx) (R : List Addr → Hp → α → β → Prop) (W : WX) (m : Sg → Hi → Res α) : St → Hp → (β → Hp → Prop) → Prop := fun σ H Q =>
  ∃ ρ σi h, AgS G ρ H σi σ ∧ Ag G ρ h H ∧ FinG G ρ H R Q (fun c d H' => W c d σ H') (m σi h)
abbrev rdE (G : Gx) (W : WX) (m : ME) : TE := rdG G (RV G) W m
abbrev rdT (G : Gx) (W : WX) (m : MT) : TT := rdG G (fun _ _ (b c : Bool) => b = c) W m
abbrev rdA (G : Gx) (W : WX) (m : MA) : TA := rdG G (RVs G) W m
section
variable {G : Gx} {ρ ρ1 : List Addr} {H H1 : Hp} {α β γ δ : Type} {W : WX} {σ : St}
theorem FinG.later {R : List Addr → Hp → α → β → Prop} {Q : β → Hp → Prop} {W : Value → Option Addr → Hp → Prop} (st : Stp G ρ H ρ1 H1) : ∀ {r : Res α}, FinG G ρ H R Q W r → FinG G ρ1 H1 R Q W r
  | .ok _ _, f => fun ρ' H' x s a r => f ρ' H' x (st.trans s) a r
  | .ex _ _ _, f => fun ρ' H' d C s a e c => f ρ' H' d C (st.trans s) a e c
  | .err, f => f
theorem rdG_go {R : List Addr → Hp → α → β → Prop} {R' : List Addr → Hp → γ → δ → Prop} {m : Sg → Hi → Res α} {k : α → Hi → Res γ} {Q : δ → Hp → Prop} {N : β → Hp → Prop} {σi : Sg} {h : Hi}
    (as : AgS G ρ H σi σ) (a : Ag G ρ h H) (f : FinG G ρ H R' Q (fun c d H' => W c d σ H') ((m σi h).bind k))
    (nx : ∀ ρ1 H1 h1 x y, Stp G ρ H ρ1 H1 → AgS G ρ1 H1 σi σ → Ag G ρ1 h1 H1 → R ρ1 H1 x y → FinG G ρ1 H1 R' Q (fun c d H' => W c d σ H') (k x h1) → N y H1) : rdG G R W m σ H N := by
  refine ⟨ρ, σi, h, as, a, ?_⟩
  cases e : m σi h with
  | err => rw [e] at f; exact f
  | ex c n h' => rw [e] at f; exact f
  | ok v h' =>
    rw [e] at f
    exact fun ρ' H' x st a' r => nx ρ' H' h' v x st (as.mono st) a' r (FinG.later st f)
theorem FinG.ok {R : List Addr → Hp → α → β → Prop} {Q : β → Hp → Prop} {W : Value → Option Addr → Hp → Prop} {v : α} {h : Hi} {x : β} (f : FinG G ρ H R Q W (.ok v h)) (a : Ag G ρ h H) (r : R ρ H v x) : Q x H := f ρ H x .refl a r
end
section
variable {X : Cx} {e a b : Expr} {pos : Pos}
theorem PE.imp' {t t' : TE} (h : PE X e t) (i : ∀ σ H Q, t' σ H Q → t σ H Q) : PE X e t' := ⟨fun pins s σ H Q I q => h.run pins s σ H Q I (i σ H Q q)⟩
theorem PT.imp' {t t' : TT} (h : PT X e t) (i : ∀ σ H Q, t' σ H Q → t σ H Q) : PT X e t' := ⟨fun pins s σ H Q I q => h.run pins s σ H Q I (i σ H Q q)⟩
theorem PW.imp' {t t' : TT} (h : PW X e t) (i : ∀ σ H Q, t' σ H Q → t σ H Q) : PW X e t' := ⟨fun wh pins s σ H Q I q => h.run wh pins s σ H Q I (i σ H Q q)⟩
theorem PA.imp' {es : List Expr} {t t' : TA} (h : PA X es t) (i : ∀ σ H Q, t' σ H Q → t σ H Q) : PA X es t' := ⟨fun p pins s σ H Q I q => h.run p pins s σ H Q I (i σ H Q q)⟩
theorem PS.imp' {st : Stmt} {t t' : TS} (h : PS X st t) (i : ∀ D σ H, t' D σ H → t D σ H) : PS X st t' := ⟨fun pins s σ H D I q => h.run pins s σ H D I (i D σ H q)⟩
theorem PSs.imp' {st : List Stmt} {t t' : TS} (h : PSs X st t) (i : ∀ D σ H, t' D σ H → t D σ H) : PSs X st t' := ⟨fun pins s σ H D I q => h.run pins s σ H D I (i D σ H q)⟩
end
def eV (i : Nat) : ME := fun σ h => match σ[i]? with
  | some (some v) => .ok v h
  | _ => .err
def eC (v : VI) : ME := fun _ h => .ok v h
def aNil : MA := fun _ h => .ok [] h
def aCons (a : ME) (r : MA) : MA := fun σ h => (a σ h).bind fun x h1 => (r σ h1).bind fun xs h2 => .ok (x :: xs) h2
def small (n : Nat) : Bool := Nat.ble n 100000
theorem small_ok {n : Nat} (h : small n = true) : n ≤ sizeLine := Nat.le_trans (Nat.le_of_ble_eq_true h) (by decide)
def eTup (a : MA) : ME := fun σ h => (a σ h).bind fun xs h1 => match small xs.length with
  | true => .ok (.tup xs) h1
  | false => .err
def eLst (a : MA) : ME := fun σ h => (a σ h).bind fun xs h1 => match small xs.length with
  | true => .ok (.ref h1.length) (h1 ++ [.lst xs])
  | false => .err
section
variable {G : Gx} {W : WX} {X : Cx} {e a b : Expr} {es : List Expr} {pos : Pos} {me ma mb : ME} {mr : MA}
theorem me_var {i : Nat} {x : Str} (hN : X.N[i]? = some x) (hv : Vis X.env.scope x) (hd : (x == ("__debug__" : Str)) = false := by decide) (hcd : (x == ("__classdict__" : Str)) = false := by decide) : PE X (.Name x pos) (rdE G W (eV i)) :=
  PE.imp' (pe_var hN hv hd hcd) fun σ H Q ⟨ρ, σi, h, as, ag, f⟩ => by
    unfold eV at f
    cases e : σi[i]? with
    | none => rw [e] at f; exact f.elim
    | some o =>
      rw [e] at f
      cases o with
      | none => exact f.elim
      | some v =>
        obtain ⟨x, h1, r⟩ := as.at_ i v e
        exact ⟨x, h1, f.ok ag r⟩
theorem me_c {v : VI} {x : V} (he : PE X e (tC x)) (r : ∀ ρ H, RV G ρ H v x) : PE X e (rdE G W (eC v)) :=
  PE.imp' he fun σ H Q ⟨ρ, σi, h, as, ag, f⟩ => f.ok ag (r ρ H)
theorem me_int {i : Int} {j} : PE X (.Constant (.int i) j pos) (rdE G W (eC (.int i))) := me_c pe_int fun _ _ => .int i
theorem me_bl {i : Bool} {j} : PE X (.Constant (.bool i) j pos) (rdE G W (eC (.bl i))) := me_c pe_bl fun _ _ => .bl i
theorem me_non {j} : PE X (.Constant .none j pos) (rdE G W (eC .non)) := me_c pe_non fun _ _ => .non
theorem me_str {s : S} {x : Str} {j} (h : x = toStr s) : PE X (.Constant (.str x) j pos) (rdE G W (eC (.str s))) := me_c pe_str fun _ _ => .str h
theorem ma_nil : PA X [] (rdA G W aNil) := PA.imp' pa_nil fun σ H Q ⟨ρ, σi, h, as, ag, f⟩ => f.ok ag .nil
theorem ma_cons (ha : PE X e (rdE G W me)) (hr : PA X es (rdA G W mr)) (hs : starEach (e :: es) X.env = (false, eval e X.env) :: starEach es X.env := by rfl) : PA X (e :: es) (rdA G W (aCons me mr)) :=
  PA.imp' (pa_cons ha hr hs) fun σ H Q ⟨ρ, σi, h, as, ag, f⟩ => rdG_go as ag f fun ρ1 H1 h1 x y st as ag r f => rdG_go as ag f fun ρ2 H2 h2 xs ys st2 as ag rs f => f.ok ag (.cons (r.mono st2) rs)
theorem me_tup {x1} (h : PA X es (rdA G W mr)) : PE X (.Tuple es x1 pos) (rdE G W (eTup mr)) :=
  PE.imp' (pe_tup h) fun σ H Q ⟨ρ, σi, h, as, ag, f⟩ => rdG_go as ag f fun ρ1 H1 h1 xs ys st as ag rs f => by
    cases e : small xs.length with
    | false => rw [e] at f; exact f.elim
    | true =>
      rw [e] at f
      refine ⟨by rw [← rs.length]; exact small_ok e, fun p hp => ?_⟩
      exact f ρ1 _ _ (Stp.more hp) (ag.more hp) (.tup (.inl (.inl upd_same)) (rs.mono (Stp.more hp)))
theorem me_lst (h : PA X es (rdA G W mr)) : PE X (.List es pos) (rdE G W (eLst mr)) :=
  PE.imp' (pe_lst h) fun σ H Q ⟨ρ, σi, h, as, ag, f⟩ => rdG_go as ag f fun ρ1 H1 h1 xs ys st as ag rs f => by
    cases e : small xs.length with
    | false => rw [e] at f; exact f.elim
    | true =>
      rw [e] at f
      refine ⟨by rw [← rs.length]; exact small_ok e, fun p hp => ?_⟩
      exact f (ρ1 ++ [p]) _ _ (Stp.new hp) (ag.new hp ⟨ys, upd_same, rs.mono (Stp.new hp)⟩) (.ref (by rw [← ag.len]; simp))
end
end ML
end
section
namespace ML
open PySem L2
def datL (f : VI → Option PyData) : List VI → Option (List PyData)
  | [] => some []
  | x :: xs => match f x with
    | some d => match datL f xs with
      | some ds => some (d :: ds)
      | none => none
    | none => none
def dat : Nat → Hi → VI → Option PyData
  | 0, _, _ => none
  | n + 1, h, v => match v with
    | .non => some .none
    | .bl b => some (.bool b)
    | .int i => some (.int i)
    | .str s => some (.str (toStr s))
    | .glo _ => none
    | .tup xs => (datL (dat n h) xs).map .tuple
    | .ref a => match h[a]? with
      | some (.lst xs) => (datL (dat n h) xs).map .list
      | some (.scr xs) => (datL (dat n h) xs).map .list
      | _ => none
section
variable {G : Gx} {ρ : List Addr} {h : Hi} {H : Hp}
theorem datL_ok {f : VI → Option PyData} (ih : ∀ v x d, RV G ρ H v x → f v = some d → Dp G.K H x d) : ∀ {vs xs ds}, RVs G ρ H vs xs → datL f vs = some ds → DpAll G.K H xs ds
  | _, _, _, .nil, e => by cases e; exact .nil
  | _, _, _, .cons (v := v) (vs := vs) r t, e => by
    unfold datL at e
    cases e1 : f v with
    | none => rw [e1] at e; cases e
    | some d =>
      rw [e1] at e
      cases e2 : datL f vs with
      | none => rw [e2] at e; cases e
      | some ds =>
        rw [e2] at e
        cases e
        exact .cons (ih _ _ _ r e1) (datL_ok ih t e2)
theorem dat_ok (ag : Ag G ρ h H) : ∀ (n : Nat) (v : VI) (x : V) (d : PyData), RV G ρ H v x → dat n h v = some d → Dp G.K H x d
  | 0, _, _, _, _, e => by cases e
  | n + 1, v, x, d, r, e => by
    cases r with
    | non => cases e; exact .non
    | bl b => cases e; exact .bl b
    | int i => cases e; exact .int i
    | str q => cases e; subst q; exact .str _
    | glo q => cases e
    | @tup xs ys a t rs =>
      have e' : (datL (dat n h) xs).map PyData.tuple = some d := e
      cases e1 : datL (dat n h) xs with
      | none => rw [e1] at e'; cases e'
      | some ds =>
        rw [e1] at e'
        cases e'
        exact .tup t (datL_ok (fun v x d => dat_ok ag n v x d) rs e1)
    | @ref k a q =>
      cases e0 : h[k]? with
      | none => unfold dat at e; dsimp only at e; rw [e0] at e; cases e
      | some o =>
        obtain ⟨b, hb, ob⟩ := ag.ob k o e0
        rw [q] at hb
        cases hb
        unfold dat at e
        dsimp only at e
        rw [e0] at e
        cases o with
        | lst xs =>
          obtain ⟨ys, hy, rs⟩ := ob
          have e' : (datL (dat n h) xs).map PyData.list = some d := e
          cases e1 : datL (dat n h) xs with
          | none => rw [e1] at e'; cases e'
          | some ds =>
            rw [e1] at e'
            cases e'
            exact .lst (.inl (.inl hy)) (datL_ok (fun v x d => dat_ok ag n v x d) rs e1)
        | scr xs =>
          obtain ⟨ob, ys, hy, rs⟩ := ob
          have e' : (datL (dat n h) xs).map PyData.list = some d := e
          cases e1 : datL (dat n h) xs with
          | none => rw [e1] at e'; cases e'
          | some ds =>
            rw [e1] at e'
            cases e'
            exact .lst (.inl (.inr ⟨_, hy⟩)) (datL_ok (fun v x d => dat_ok ag n v x d) rs e1)
        | dic kvs => cases e
        | ins c fs => cases e
        | xd fs => cases e
        | dnk kvs => cases e
end
abbrev Op2 := VI → VI → Hi → Option (VI × Hi)
def ofO {α : Type} : Option (α × Hi) → Res α
  | some (a, h) => .ok a h
  | none => .err
def eBin (f : Op2) (a b : ME) : ME := fun σ h => (a σ h).bind fun x h1 => (b σ h1).bind fun y h2 => ofO (f x y h2)
def FinO {α β : Type} (G : Gx) (ρ : List Addr) (H : Hp) (R : List Addr → Hp → α → β → Prop) (Q : β → Hp → Prop) : Option (α × Hi) → Prop
  | some (v, h') => ∀ ρ' H' x, Stp G ρ H ρ' H' → Ag G ρ' h' H' → R ρ' H' v x → Q x H'
  | none => False
def rd2 (G : Gx) (f : Op2) : R2 := fun x y H Q => ∃ ρ h xi yi, Ag G ρ h H ∧ RV G ρ H xi x ∧ RV G ρ H yi y ∧ FinO G ρ H (RV G) Q (f xi yi h)
section
variable {G : Gx} {ρ : List Addr} {h : Hi} {H : Hp} {W : WX} {X : Cx} {e a b c : Expr} {pos : Pos} {ma mb mc : ME} {f : Op2}
theorem FinO.of {α β : Type} {R : List Addr → Hp → α → β → Prop} {Q : β → Hp → Prop} {W : Value → Option Addr → Hp → Prop} {r : Option (α × Hi)} (f : FinG G ρ H R Q W (ofO r)) : FinO G ρ H R Q r := by
  cases r with
  | none => exact f
  | some p => exact f
theorem FinO.ok {α β : Type} {R : List Addr → Hp → α → β → Prop} {Q : β → Hp → Prop} {v : α} {x : β} (f : FinO G ρ H R Q (some (v, h))) (a : Ag G ρ h H) (r : R ρ H v x) : Q x H := f ρ H x .refl a r
theorem me_bin {op : Operator} (ho : OpR X (binaryOp op) (rd2 G f)) (ha : PE X a (rdE G W ma)) (hb : PE X b (rdE G W mb)) : PE X (.BinOp a op b pos) (rdE G W (eBin f ma mb)) :=
  PE.imp' (pe_op ho ha hb) fun σ H Q ⟨ρ, σi, h, as, ag, f⟩ => rdG_go as ag f fun ρ1 H1 h1 x x' st as ag r f => rdG_go as ag f fun ρ2 H2 h2 y y' st2 as ag rs f => ⟨ρ2, h2, x, y, ag, r.mono st2, rs, FinO.of f⟩
theorem me_cmp {op : CmpOp} (ho : OpR X (compareOp op) (rd2 G f)) (ha : PE X a (rdE G W ma)) (hb : PE X b (rdE G W mb)) (hm : behindInMarks op b = false) : PE X (.Compare a [op] [b] pos) (rdE G W (eBin f ma mb)) :=
  PE.imp' (pe_cmpR ho ha hb hm) fun σ H Q ⟨ρ, σi, h, as, ag, f⟩ => rdG_go as ag f fun ρ1 H1 h1 x x' st as ag r f => rdG_go as ag f fun ρ2 H2 h2 y y' st2 as ag rs f => ⟨ρ2, h2, x, y, ag, r.mono st2, rs, FinO.of f⟩
theorem OpR.imp' {g : Value → Value → Sem Value} {r r' : R2} (h : OpR X g r) (i : ∀ x y H Q, r' x y H Q → r x y H Q) : OpR X g r' := fun pins s σ H x y v u Q I r1 r2 q => h pins s σ H x y v u Q I r1 r2 (i x y H Q q)
theorem opR_at {g : Value → Value → Sem Value} (h : ∀ ρ h H xi yi x y Q, Ag G ρ h H → RV G ρ H xi x → RV G ρ H yi y → FinO G ρ H (RV G) Q (f xi yi h) → ∃ r : R2, OpR X g r ∧ r x y H Q) : OpR X g (rd2 G f) :=
  fun pins s σ H x y v u Q I r1 r2 ⟨ρ, hi, xi, yi, ag, a1, a2, q⟩ => by
    obtain ⟨r, ho, hr⟩ := h ρ hi H xi yi x y Q ag a1 a2 q
    exact ho pins s σ H x y v u Q I r1 r2 hr
end
def fAdd : Op2 := fun x y h => match x, y with
  | .int i, .int j => some (.int (i + j), h)
  | .str s, .str t => match small (s.length + t.length) with
    | true => some (.str (s ++ t), h)
    | false => none
  | .tup xs, .tup ys => match small (xs.length + ys.length) with
    | true => some (.tup (xs ++ ys), h)
    | false => none
  | .ref a, .ref b => match h[a]?, h[b]? with
    | some (.lst xs), some (.lst ys) => match small (xs.length + ys.length) with
      | true => some (.ref h.length, h ++ [.lst (xs ++ ys)])
      | false => none
    | _, _ => none
  | _, _ => none
def fSub : Op2 := fun x y h => match x, y with
  | .int i, .int j => some (.int (i - j), h)
  | _, _ => none
def bnd (i : Int) : Bool := decide (-(2 ^ 64) < i) && decide (i < 2 ^ 64)
def repL (xs : List VI) : Nat → List VI
  | 0 => []
  | n + 1 => xs ++ repL xs n
def fMul : Op2 := fun x y h => match x, y with
  | .int i, .int j => match bnd i || bnd j with
    | true => some (.int (i * j), h)
    | false => none
  | .ref a, .int k => match h[a]? with
    | some (.lst xs) => match (decide (0 ≤ k) && decide (k ≤ 1000)) && small (xs.length * k.toNat) with
      | true => some (.ref h.length, h ++ [.lst (repL xs k.toNat)])
      | false => none
    | _ => none
  | .tup xs, .int k => match (decide (2 ≤ k) && decide (k ≤ 1000)) && (Nat.ble xs.length 1000 && !xs.isEmpty) with
    | true => some (.tup (repL xs k.toNat), h)
    | false => none
  | _, _ => none
def fMod : Op2 := fun x y h => match x, y with
  | .int i, .int j => match decide (0 < j) with
    | true => some (.int (i % j), h)
    | false => none
  | _, _ => none
def fFdiv : Op2 := fun x y h => match x, y with
  | .int i, .int j => match decide (0 < j) && decide (j < 1073741824) with
    | true => some (.int (i / j), h)
    | false => none
  | _, _ => none
def fPow : Op2 := fun x y h => match x, y with
  | .int i, .int j => match decide (0 ≤ j) && (decide (j ≤ 1000) && decide (i.natAbs < 2 ^ 64)) with
    | true => some (.int (i ^ j.toNat), h)
    | false => none
  | _, _ => none
theorem toStr_append (s t : S) : toStr s ++ toStr t = toStr (s ++ t) := by
  show PySem.Str.append (toStr s) (toStr t) = _
  unfold PySem.Str.append toStr
  simp
theorem toStr_length (s : S) : (toStr s).length = s.length := by
  show (toStr s).cps.size = _
  unfold toStr
  simp
section
variable {G : Gx} {ρ : List Addr} {H : Hp}
theorem RVs.rep {xs : List VI} {ys : List V} (r : RVs G ρ H xs ys) : ∀ n, RVs G ρ H (repL xs n) (List.replicate n ys).flatten
  | 0 => .nil
  | n + 1 => by
    rw [List.replicate_succ, List.flatten_cons]
    exact RVs.append r (RVs.rep r n)
variable {X : Cx}
theorem RVs.nil_iff {xs : List VI} {ys : List V} (r : RVs G ρ H xs ys) : xs = [] ↔ ys = [] := by
  cases r with
  | nil => exact ⟨fun _ => rfl, fun _ => rfl⟩
  | cons _ _ => exact ⟨fun z => (by cases z), fun z => (by cases z)⟩
theorem FinO.new {h : Hi} {Q : VK} {p : Addr} {o : HO} {u : OI} (f : FinO G ρ H (RV G) Q (some (.ref h.length, h ++ [u]))) (ag : Ag G ρ h H) (hp : H p = none) (r : OR G (ρ ++ [p]) (upd H p o) p u) : Q (.ref p) (upd H p o) :=
  f (ρ ++ [p]) _ _ (Stp.new hp) (ag.new hp r) (.ref (by rw [← ag.len]; simp))
theorem mo_add (hG : G.K = X.K) : OpR X (binaryOp .Add) (rd2 G fAdd) := opR_at fun ρ h H xi yi x y Q ag r1 r2 f => by
  unfold fAdd at f
  cases r1 with
  | int i =>
    cases r2 with
    | int j => exact ⟨_, op_add, i, j, rfl, rfl, f.ok ag (.int _)⟩
    | _ => exact f.elim
  | @str s _ e =>
    cases r2 with
    | @str t _ e' =>
      subst e e'
      dsimp only at f
      cases q : small (s.length + t.length) with
      | false => rw [q] at f; exact f.elim
      | true =>
        rw [q] at f
        exact ⟨_, op_add_str, _, _, rfl, rfl, by rw [toStr_length, toStr_length]; exact small_ok q, f.ok ag (.str (toStr_append s t))⟩
    | _ => exact f.elim
  | @tup xs ys a t1 s1 =>
    cases r2 with
    | @tup xs2 ys2 b t2 s2 =>
      dsimp only at f
      cases q : small (xs.length + xs2.length) with
      | false => rw [q] at f; exact f.elim
      | true =>
        rw [q] at f
        refine ⟨_, op_catA, a, b, ys, ys2, rfl, rfl, hG ▸ t1, hG ▸ t2, by rw [← s1.length, ← s2.length]; exact small_ok q, fun z => ?_, fun z1 z2 => ?_, fun z1 z2 p hp => ?_⟩
        · have e := s1.nil_iff.mpr z
          subst e
          exact f.ok ag (.tup t2 s2)
        · have e := s2.nil_iff.mpr z2
          subst e
          rw [List.append_nil] at f
          exact f.ok ag (.tup t1 s1)
        · exact f ρ _ _ (Stp.more hp) (ag.more hp) (.tup (.inl (.inl upd_same)) ((s1.append s2).mono (Stp.more hp)))
    | _ => exact f.elim
  | @ref n a e =>
    cases r2 with
    | @ref m b e' =>
      dsimp only at f
      cases q : h[n]? with
      | none => rw [q] at f; exact f.elim
      | some o =>
        rw [q] at f
        cases o with
        | lst xs =>
          cases q2 : h[m]? with
          | none => rw [q2] at f; exact f.elim
          | some o2 =>
            rw [q2] at f
            cases o2 with
            | lst ys =>
              dsimp only at f
              obtain ⟨xv, hx, rx⟩ := ag.at_ q e
              obtain ⟨yv, hy, ry⟩ := ag.at_ q2 e'
              cases z : small (xs.length + ys.length) with
              | false => rw [z] at f; exact f.elim
              | true =>
                rw [z] at f
                exact ⟨_, op_cat, a, b, xv, yv, rfl, rfl, hx, hy, by rw [← rx.length, ← ry.length]; exact small_ok z, fun p hp => FinO.new f ag hp ⟨_, upd_same, (rx.append ry).mono (Stp.new hp)⟩⟩
            | _ => exact f.elim
        | _ => exact f.elim
    | _ => exact f.elim
  | _ => exact f.elim
theorem mo_sub : OpR X (binaryOp .Sub) (rd2 G fSub) := opR_at fun ρ h H xi yi x y Q ag r1 r2 f => by
  unfold fSub at f
  cases r1 with
  | int i =>
    cases r2 with
    | int j => exact ⟨_, op_sub, i, j, rfl, rfl, f.ok ag (.int _)⟩
    | _ => exact f.elim
  | _ => exact f.elim
theorem bnd_ok {i : Int} (h : bnd i = true) : -(2 ^ 64) < i ∧ i < 2 ^ 64 := by
  unfold bnd at h
  obtain ⟨h1, h2⟩ := Bool.and_eq_true_iff.mp h
  exact ⟨of_decide_eq_true h1, of_decide_eq_true h2⟩
theorem mo_mul (hG : G.K = X.K) : OpR X (binaryOp .Mult) (rd2 G fMul) := opR_at fun ρ h H xi yi x y Q ag r1 r2 f => by
  unfold fMul at f
  cases r1 with
  | int i =>
    cases r2 with
    | int j =>
      dsimp only at f
      cases q : bnd i || bnd j with
      | false => rw [q] at f; exact f.elim
      | true =>
        rw [q] at f
        exact ⟨_, op_mul, i, j, rfl, rfl, (Bool.or_eq_true_iff.mp q).elim (fun z => .inl (bnd_ok z)) (fun z => .inr (bnd_ok z)), f.ok ag (.int _)⟩
    | _ => exact f.elim
  | @tup xs ys a t1 s1 =>
    cases r2 with
    | int k =>
      dsimp only at f
      cases q : (decide (2 ≤ k) && decide (k ≤ 1000)) && (Nat.ble xs.length 1000 && !xs.isEmpty) with
      | false => rw [q] at f; exact f.elim
      | true =>
        rw [q] at f
        obtain ⟨q1, q2⟩ := Bool.and_eq_true_iff.mp q
        obtain ⟨k1, k2⟩ := Bool.and_eq_true_iff.mp q1
        obtain ⟨l1, l2⟩ := Bool.and_eq_true_iff.mp q2
        refine ⟨_, op_repT, a, k, ys, rfl, rfl, hG ▸ t1, fun z => ?_, of_decide_eq_true k1, of_decide_eq_true k2, by rw [← s1.length]; exact Nat.le_of_ble_eq_true l1, fun p hp => ?_⟩
        · have e := s1.nil_iff.mpr z
          subst e
          cases l2
        · exact f ρ _ _ (Stp.more hp) (ag.more hp) (.tup (.inl (.inl upd_same)) ((s1.rep _).mono (Stp.more hp)))
    | _ => exact f.elim
  | @ref n a e =>
    cases r2 with
    | int k =>
      dsimp only at f
      cases q : h[n]? with
      | none => rw [q] at f; exact f.elim
      | some o =>
        rw [q] at f
        cases o with
        | lst xs =>
          dsimp only at f
          obtain ⟨xv, hx, rx⟩ := ag.at_ q e
          cases z : (decide (0 ≤ k) && decide (k ≤ 1000)) && small (xs.length * k.toNat) with
          | false => rw [z] at f; exact f.elim
          | true =>
            rw [z] at f
            obtain ⟨q1, q2⟩ := Bool.and_eq_true_iff.mp z
            obtain ⟨k1, k2⟩ := Bool.and_eq_true_iff.mp q1
            have k1 := of_decide_eq_true k1
            have k2 := of_decide_eq_true k2
            exact ⟨_, op_rep, a, k, xv, rfl, rfl, hx, by omega, by omega, by rw [← rx.length]; exact small_ok q2, fun p hp => FinO.new f ag hp ⟨_, upd_same, (rx.rep _).mono (Stp.new hp)⟩⟩
        | _ => exact f.elim
    | _ => cases q : h[n]? <;> exact f.elim
  | _ => exact f.elim
theorem mo_mod : OpR X (binaryOp .Mod) (rd2 G fMod) := opR_at fun ρ h H xi yi x y Q ag r1 r2 f => by
  unfold fMod at f
  cases r1 with
  | int i =>
    cases r2 with
    | int j =>
      dsimp only at f
      cases q : decide (0 < j) with
      | false => rw [q] at f; exact f.elim
      | true => rw [q] at f; exact ⟨_, op_mod, i, j, rfl, rfl, of_decide_eq_true q, f.ok ag (.int _)⟩
    | _ => exact f.elim
  | _ => exact f.elim
theorem mo_fdiv : OpR X (binaryOp .FloorDiv) (rd2 G fFdiv) := opR_at fun ρ h H xi yi x y Q ag r1 r2 f => by
  unfold fFdiv at f
  cases r1 with
  | int i =>
    cases r2 with
    | int j =>
      dsimp only at f
      cases q : decide (0 < j) && decide (j < 1073741824) with
      | false => rw [q] at f; exact f.elim
      | true =>
        rw [q] at f
        obtain ⟨q1, q2⟩ := Bool.and_eq_true_iff.mp q
        exact ⟨_, op_fdiv, i, j, rfl, rfl, ⟨of_decide_eq_true q1, of_decide_eq_true q2⟩, f.ok ag (.int _)⟩
    | _ => exact f.elim
  | _ => exact f.elim
theorem mo_pow : OpR X (binaryOp .Pow) (rd2 G fPow) := opR_at fun ρ h H xi yi x y Q ag r1 r2 f => by
  unfold fPow at f
  cases r1 with
  | int i =>
    cases r2 with
    | int j =>
      dsimp only at f
      cases q : decide (0 ≤ j) && (decide (j ≤ 1000) && decide (i.natAbs < 2 ^ 64)) with
      | false => rw [q] at f; exact f.elim
      | true =>
        rw [q] at f
        obtain ⟨q1, q2⟩ := Bool.and_eq_true_iff.mp q
        obtain ⟨q2, q3⟩ := Bool.and_eq_true_iff.mp q2
        have q2 := of_decide_eq_true q2
        exact ⟨_, op_pow, i, j, rfl, rfl, ⟨of_decide_eq_true q1, by omega, of_decide_eq_true q3⟩, f.ok ag (.int _)⟩
    | _ => exact f.elim
  | _ => exact f.elim
def eqD (h : Hi) (x y : VI) : Option Bool := match dat 66 h x, dat 66 h y with
  | some d, some e => match SeqAt.shaped d && SeqAt.shaped e with
    | true => some (PyData.eqv d e)
    | false => none
  | _, _ => none
def fEq : Op2 := fun x y h => match eqD h x y with
  | some b => some (.bl b, h)
  | none => none
def fNe : Op2 := fun x y h => match eqD h x y with
  | some b => some (.bl (!b), h)
  | none => none
def fInt (p : Int → Int → Bool) : Op2 := fun x y h => match x, y with
  | .int i, .int j => some (.bl (p i j), h)
  | _, _ => none
def fLt : Op2 := fInt fun i j => decide (i < j)
def fLe : Op2 := fInt fun i j => decide (i ≤ j)
def fGt : Op2 := fInt fun i j => decide (j < i)
def fGe : Op2 := fInt fun i j => decide (j ≤ i)
def fIsN : Op2 := fun x y h => match y with
  | .non => some (.bl (match x with | .non => true | _ => false), h)
  | _ => none
def fNotN : Op2 := fun x y h => match y with
  | .non => some (.bl (match x with | .non => false | _ => true), h)
  | _ => none
theorem eqD_ok {h : Hi} {xi yi : VI} {x y : V} {b : Bool} (ag : Ag G ρ h H) (r1 : RV G ρ H xi x) (r2 : RV G ρ H yi y) (e : eqD h xi yi = some b) : ∃ d d', Dp G.K H x d ∧ Dp G.K H y d' ∧ SeqAt.shaped d = true ∧ SeqAt.shaped d' = true ∧ b = PyData.eqv d d' := by
  unfold eqD at e
  cases e1 : dat 66 h xi with
  | none => rw [e1] at e; cases e
  | some d =>
    cases e2 : dat 66 h yi with
    | none => rw [e1, e2] at e; cases e
    | some d' =>
      rw [e1, e2] at e
      dsimp only at e
      cases q : SeqAt.shaped d && SeqAt.shaped d' with
      | false => rw [q] at e; cases e
      | true =>
        rw [q] at e
        cases e
        obtain ⟨q1, q2⟩ := Bool.and_eq_true_iff.mp q
        exact ⟨d, d', dat_ok ag _ _ _ _ r1 e1, dat_ok ag _ _ _ _ r2 e2, q1, q2, rfl⟩
theorem mo_eq (hG : G.K = X.K) (hu : X.A.units + 64 < cLine) : OpR X (compareOp .Eq) (rd2 G fEq) := opR_at fun ρ h H xi yi x y Q ag r1 r2 f => by
  unfold fEq at f
  cases e : eqD h xi yi with
  | none => rw [e] at f; exact f.elim
  | some b =>
    rw [e] at f
    obtain ⟨d, d', p1, p2, s1, s2, rfl⟩ := eqD_ok ag r1 r2 e
    exact ⟨_, op_eqD hu, d, d', hG ▸ p1, hG ▸ p2, s1, s2, f.ok ag (.bl _)⟩
theorem mo_ne (hG : G.K = X.K) (hu : X.A.units + 64 < cLine) : OpR X (compareOp .NotEq) (rd2 G fNe) := opR_at fun ρ h H xi yi x y Q ag r1 r2 f => by
  unfold fNe at f
  cases e : eqD h xi yi with
  | none => rw [e] at f; exact f.elim
  | some b =>
    rw [e] at f
    obtain ⟨d, d', p1, p2, s1, s2, rfl⟩ := eqD_ok ag r1 r2 e
    exact ⟨_, op_neD hu, d, d', hG ▸ p1, hG ▸ p2, s1, s2, f.ok ag (.bl _)⟩
theorem mo_int {g : Value → Value → Sem Value} {p : Int → Int → Bool} (ho : OpR X g (rI0 fun i j => .bl (p i j))) : OpR X g (rd2 G (fInt p)) := opR_at fun ρ h H xi yi x y Q ag r1 r2 f => by
  unfold fInt at f
  cases r1 with
  | int i =>
    cases r2 with
    | int j => exact ⟨_, ho, i, j, rfl, rfl, f.ok ag (.bl _)⟩
    | _ => exact f.elim
  | _ => exact f.elim
theorem mo_lt : OpR X (compareOp .Lt) (rd2 G fLt) := mo_int op_lt
theorem mo_gt : OpR X (compareOp .Gt) (rd2 G fGt) := mo_int op_gt
theorem mo_ge : OpR X (compareOp .GtE) (rd2 G fGe) := mo_int op_ge
theorem mo_notN : OpR X (compareOp .IsNot) (rd2 G fNotN) := opR_at fun ρ h H xi yi x y Q ag r1 r2 f => by
  unfold fNotN at f
  cases r2 with
  | non => cases r1 <;> exact ⟨_, op_notN, rfl, f.ok ag (.bl _)⟩
  | _ => exact f.elim
end
end ML
end
section
namespace ML
open PySem L2
def tOf (e : ME) : MT := fun σ h => (e σ h).bind fun v h1 => match v with
  | .bl b => .ok b h1
  | _ => .err
def tAndM (a b : MT) : MT := fun σ h => (a σ h).bind fun c h1 => match c with
  | true => b σ h1
  | false => .ok false h1
def tOrM (a b : MT) : MT := fun σ h => (a σ h).bind fun c h1 => match c with
  | true => .ok true h1
  | false => b σ h1
def tNotM (a : MT) : MT := fun σ h => (a σ h).bind fun c h1 => .ok (!c) h1
def eAnd (a b : ME) : ME := fun σ h => (a σ h).bind fun v h1 => match v with
  | .bl true => b σ h1
  | .bl false => .ok (.bl false) h1
  | _ => .err
def eOr (a b : ME) : ME := fun σ h => (a σ h).bind fun v h1 => match v with
  | .bl true => .ok (.bl true) h1
  | .bl false => b σ h1
  | _ => .err
def eNot (a : ME) : ME := fun σ h => (a σ h).bind fun v h1 => match v with
  | .bl b => .ok (.bl (!b)) h1
  | _ => .err
def eIf (t : MT) (a b : ME) : ME := fun σ h => (t σ h).bind fun c h1 => match c with
  | true => a σ h1
  | false => b σ h1
section
variable {G : Gx} {W : WX} {X : Cx} {e a b c : Expr} {rest : List Expr} {pos : Pos} {me ma mb : ME} {ta tb : MT}
theorem rdG_at {α β : Type} {R : List Addr → Hp → α → β → Prop} {m : Sg → Hi → Res α} {Q : β → Hp → Prop} {ρ : List Addr} {σi : Sg} {h : Hi} {H : Hp} {σ : St} (as : AgS G ρ H σi σ) (a : Ag G ρ h H) (f : FinG G ρ H R Q (fun c d H' => W c d σ H') (m σi h)) : rdG G R W m σ H Q := ⟨ρ, σi, h, as, a, f⟩
theorem mt_val (h : PE X e (rdE G W me)) (he : ∀ whole, isTrue e X.env whole = (do let v ← whole; standAt e.pos; holding [v] (truthy v)) := by intro _; rfl) : PT X e (rdT G W (tOf me)) :=
  PT.imp' (pt_val h he) fun σ H Q ⟨ρ, σi, h, as, ag, f⟩ => rdG_go as ag f fun ρ1 H1 h1 x x' st as ag r f => by
    cases r with
    | bl b => exact ⟨b, rfl, f.ok ag rfl⟩
    | _ => exact f.elim
theorem mw_and1 (ha : PT X a (rdT G W ta)) : PW X (.BoolOp .And [a] pos) (rdT G W ta) := pw_and1 ha
theorem mw_or1 (ha : PT X a (rdT G W ta)) : PW X (.BoolOp .Or [a] pos) (rdT G W ta) := pw_or1 ha
theorem mw_and (ha : PT X a (rdT G W ta)) (hb : PW X (.BoolOp .And (b :: rest) pos) (rdT G W tb)) : PW X (.BoolOp .And (a :: b :: rest) pos) (rdT G W (tAndM ta tb)) :=
  PW.imp' (pw_and ha hb) fun σ H Q ⟨ρ, σi, h, as, ag, f⟩ => rdG_go as ag f fun ρ1 H1 h1 x x' st as ag r f => by
    subst r
    cases x with
    | true => rw [if_pos rfl]; exact rdG_at as ag f
    | false => rw [if_neg Bool.false_ne_true]; exact f.ok ag rfl
theorem mw_or (ha : PT X a (rdT G W ta)) (hb : PW X (.BoolOp .Or (b :: rest) pos) (rdT G W tb)) : PW X (.BoolOp .Or (a :: b :: rest) pos) (rdT G W (tOrM ta tb)) :=
  PW.imp' (pw_or ha hb) fun σ H Q ⟨ρ, σi, h, as, ag, f⟩ => rdG_go as ag f fun ρ1 H1 h1 x x' st as ag r f => by
    subst r
    cases x with
    | true => rw [if_pos rfl]; exact f.ok ag rfl
    | false => rw [if_neg Bool.false_ne_true]; exact rdG_at as ag f
theorem mt_not (ha : PT X a (rdT G W ta)) : PT X (.UnaryOp .Not a pos) (rdT G W (tNotM ta)) :=
  PT.imp' (pt_not ha) fun σ H Q ⟨ρ, σi, h, as, ag, f⟩ => rdG_go as ag f fun ρ1 H1 h1 x x' st as ag r f => by
    subst r
    exact f.ok ag rfl
theorem me_one {op} (h : PE X a (rdE G W me)) : PE X (.BoolOp op [a] pos) (rdE G W me) := pe_one h
theorem me_and (ha : PE X a (rdE G W ma)) (hb : PE X (.BoolOp .And (b :: rest) pos) (rdE G W mb)) : PE X (.BoolOp .And (a :: b :: rest) pos) (rdE G W (eAnd ma mb)) :=
  PE.imp' (pe_and ha hb) fun σ H Q ⟨ρ, σi, h, as, ag, f⟩ => rdG_go as ag f fun ρ1 H1 h1 x x' st as ag r f => by
    cases r with
    | bl b =>
      refine ⟨b, rfl, ?_⟩
      cases b with
      | true => rw [if_pos rfl]; exact rdG_at as ag f
      | false => rw [if_neg Bool.false_ne_true]; exact f.ok ag (.bl _)
    | _ => exact f.elim
end
inductive RS where
  | nx (σ : Sg) (h : Hi) | rt (v : VI) (h : Hi) | bk (σ : Sg) (h : Hi) | ct (σ : Sg) (h : Hi) | ex (c n : Nat) (σ : Sg) (h : Hi) | err
abbrev MS := Sg → Hi → RS
def Res.bindS {α : Type} (r : Res α) (σ : Sg) (f : α → Hi → RS) : RS := match r with
  | .ok a h => f a h
  | .ex c n h => .ex c n σ h
  | .err => .err
def RS.andThen (r : RS) (f : MS) : RS := match r with
  | .nx σ h => f σ h
  | o => o
def FinS (G : Gx) (ρ : List Addr) (H : Hp) (D : Ends) (W : WX) : RS → Prop
  | .nx σ' h' => ∀ ρ' H' σ, Stp G ρ H ρ' H' → Ag G ρ' h' H' → AgS G ρ' H' σ' σ → D.nx σ H'
  | .bk σ' h' => ∀ ρ' H' σ, Stp G ρ H ρ' H' → Ag G ρ' h' H' → AgS G ρ' H' σ' σ → D.bk σ H'
  | .ct σ' h' => ∀ ρ' H' σ, Stp G ρ H ρ' H' → Ag G ρ' h' H' → AgS G ρ' H' σ' σ → D.ct σ H'
  | .rt v h' => ∀ ρ' H' x, Stp G ρ H ρ' H' → Ag G ρ' h' H' → RV G ρ' H' v x → D.rt x H'
  | .ex c n σ' h' => ∀ ρ' H' d C σ, Stp G ρ H ρ' H' → Ag G ρ' h' H' → AgS G ρ' H' σ' σ → ρ'[n]? = some d → G.ct c = some C → W (.ref C) (some d) σ H'
  | .err => False
def rdS (G : Gx) (W : WX) (m : MS) : TS := fun D σ H => ∃ ρ σi h, AgS G ρ H σi σ ∧ Ag G ρ h H ∧ FinS G ρ H D W (m σi h)
def sNx : MS := fun σ h => .nx σ h
def sSeq (a b : MS) : MS := fun σ h => (a σ h).andThen b
def sBk : MS := fun σ h => .bk σ h
def sCt : MS := fun σ h => .ct σ h
def sRet (e : ME) : MS := fun σ h => (e σ h).bindS σ fun v h1 => .rt v h1
def sRetN : MS := fun σ h => .rt .non h
def sDrop (e : ME) : MS := fun σ h => (e σ h).bindS σ fun _ h1 => .nx σ h1
def sIf (t : MT) (a b : MS) : MS := fun σ h => (t σ h).bindS σ fun c h1 => match c with
  | true => a σ h1
  | false => b σ h1
abbrev MG := VI → Sg → Hi → RS
def gNm (i : Nat) : MG := fun v σ h => .nx (σ.set i (some v)) h
def sAsg (e : ME) (g : MG) : MS := fun σ h => (e σ h).bindS σ fun v h1 => g v σ h1
section
variable {G : Gx} {W : WX} {X : Cx} {ρ ρ1 : List Addr} {H H1 : Hp} {σ : St} {σi : Sg} {h : Hi} {D : Ends} {e : Expr} {st : Stmt} {pos : Pos} {me : ME} {ms mr : MS} {mt : MT} {rest : List Stmt}
theorem FinS.later (st : Stp G ρ H ρ1 H1) : ∀ {r : RS}, FinS G ρ H D W r → FinS G ρ1 H1 D W r
  | .nx _ _, f => fun ρ' H' x s => f ρ' H' x (st.trans s)
  | .bk _ _, f => fun ρ' H' x s => f ρ' H' x (st.trans s)
  | .ct _ _, f => fun ρ' H' x s => f ρ' H' x (st.trans s)
  | .rt _ _, f => fun ρ' H' x s => f ρ' H' x (st.trans s)
  | .ex _ _ _ _, f => fun ρ' H' d C x s => f ρ' H' d C x (st.trans s)
  | .err, f => f
theorem rdS_go {α β : Type} {R : List Addr → Hp → α → β → Prop} {m : Sg → Hi → Res α} {k : α → Hi → RS} {N : β → Hp → Prop}
    (as : AgS G ρ H σi σ) (a : Ag G ρ h H) (f : FinS G ρ H D W ((m σi h).bindS σi k))
    (nx : ∀ ρ1 H1 h1 x y, Stp G ρ H ρ1 H1 → AgS G ρ1 H1 σi σ → Ag G ρ1 h1 H1 → R ρ1 H1 x y → FinS G ρ1 H1 D W (k x h1) → N y H1) : rdG G R W m σ H N := by
  refine ⟨ρ, σi, h, as, a, ?_⟩
  cases e : m σi h with
  | err => rw [e] at f; exact f
  | ex c n h' =>
    rw [e] at f
    exact fun ρ' H' d C st a' hn hc => f ρ' H' d C σ st a' (as.mono st) hn hc
  | ok v h' =>
    rw [e] at f
    exact fun ρ' H' x st a' r => nx ρ' H' h' v x st (as.mono st) a' r (FinS.later st f)
theorem FinS.nx (f : FinS G ρ H D W (.nx σi h)) (a : Ag G ρ h H) (as : AgS G ρ H σi σ) : D.nx σ H := f ρ H σ .refl a as
theorem ms_nil : PSs X [] (rdS G W sNx) := PSs.imp' pss_nil fun D σ H ⟨ρ, σi, h, as, ag, f⟩ => f.nx ag as
theorem ms_cons (h1 : PS X st (rdS G W ms)) (h2 : PSs X rest (rdS G W mr)) : PSs X (st :: rest) (rdS G W (sSeq ms mr)) :=
  PSs.imp' (pss_cons h1 h2) fun D σ H ⟨ρ, σi, h, as, ag, f⟩ => by
    refine ⟨ρ, σi, h, as, ag, ?_⟩
    have f' : FinS G ρ H D W ((ms σi h).andThen mr) := f
    cases e : ms σi h with
    | nx σ' h' =>
      rw [e] at f'
      exact fun ρ' H' σ2 st ag2 as2 => ⟨ρ', σ', h', as2, ag2, FinS.later st f'⟩
    | bk σ' h' => rw [e] at f'; exact f'
    | ct σ' h' => rw [e] at f'; exact f'
    | rt v h' => rw [e] at f'; exact f'
    | ex c n σ' h' => rw [e] at f'; exact f'
    | err => rw [e] at f'; exact f'
theorem ms_one (h1 : PS X st (rdS G W ms)) : PSs X [st] (rdS G W ms) := pss_one h1
theorem ms_expr (he : PE X e (rdE G W me)) (hs : swapsWith e none pos.line X.env = pure false := by rfl) : PS X (.Expr e pos) (rdS G W (sDrop me)) :=
  PS.imp' (ps_expr he hs) fun D σ H ⟨ρ, σi, h, as, ag, f⟩ => rdS_go as ag f fun ρ1 H1 h1 x x' st as ag r f => f.nx ag as
theorem ms_ret (he : PE X e (rdE G W me)) : PS X (.Return (some e) pos) (rdS G W (sRet me)) :=
  PS.imp' (ps_ret he) fun D σ H ⟨ρ, σi, h, as, ag, f⟩ => rdS_go as ag f fun ρ1 H1 h1 x x' st as ag r f => f ρ1 H1 x' .refl ag r
theorem ms_if {c : Expr} {a b : List Stmt} {ma mb : MS} (hc : PT X c (rdT G W mt)) (ha : PSs X a (rdS G W ma)) (hb : PSs X b (rdS G W mb)) : PS X (.If c a b pos) (rdS G W (sIf mt ma mb)) :=
  PS.imp' (ps_if hc ha hb) fun D σ H ⟨ρ, σi, h, as, ag, f⟩ => rdS_go as ag f fun ρ1 H1 h1 x x' st as ag r f => by
    subst r
    cases x with
    | true => rw [if_pos rfl]; exact ⟨ρ1, _, h1, as, ag, f⟩
    | false => rw [if_neg Bool.false_ne_true]; exact ⟨ρ1, _, h1, as, ag, f⟩
def rdGt (G : Gx) (W : WX) (g : MG) : TG := fun v σ H Q => ∃ ρ σi h vi, AgS G ρ H σi σ ∧ Ag G ρ h H ∧ RV G ρ H vi v ∧ FinS G ρ H { nx := Q, rt := fun _ _ => False } W (g vi σi h)
theorem mg_name {i : Nat} {x : Str} (hN : X.N.Nodup) (hi : X.N[i]? = some x) (hx : Loc X.env.scope x) (hf : X.fn x = true ∨ X.env.scope.names.lookup x = some .local := by first | exact .inl rfl | exact .inr rfl | assumption) : PG X (.Name x pos) (rdGt G W (gNm i)) :=
  ⟨fun pins s σ H v u Q I r ⟨ρ, σi, h, vi, as, ag, rv, f⟩ => (pg_name hN hi hx hf).run pins s σ H v u Q I r (f.nx ag (as.set rv i))⟩
def OnlyNx (g : MG) : Prop := ∀ v σ h, (∃ σ' h', g v σ h = .nx σ' h') ∨ (∃ c n σ' h', g v σ h = .ex c n σ' h') ∨ g v σ h = .err
theorem FinS.ends {D' : Ends} {r : RS} (hn : (∃ σ' h', r = .nx σ' h') ∨ (∃ c n σ' h', r = .ex c n σ' h') ∨ r = .err) (f : FinS G ρ H D W r) (e : D'.nx = D.nx) : FinS G ρ H D' W r := by
  rcases hn with ⟨σ', h', q⟩ | ⟨c, n, σ', h', q⟩ | q
  · rw [q] at f ⊢; exact fun ρ' H' σ s a as => by rw [e]; exact f ρ' H' σ s a as
  · rw [q] at f ⊢; exact f
  · rw [q] at f ⊢; exact f
theorem onlyNx_name (i : Nat) : OnlyNx (gNm i) := fun _ _ _ => .inl ⟨_, _, rfl⟩
theorem ms_asg {tg : Expr} {mg : MG} (he : PE X e (rdE G W me)) (hg : PG X tg (rdGt G W mg)) (on : OnlyNx mg) (hs : swapsWithSole [tg] e pos.line X.env = pure false := by rfl) (hw : swappedStores [tg] e X.env = pure none := by rfl)
    (h1 : (assignEach [tg] X.env).map (·.2) = [assign tg X.env] := by rfl) : PS X (.Assign [tg] e pos) (rdS G W (sAsg me mg)) :=
  PS.imp' (ps_asg he hg hs hw h1) fun D σ H ⟨ρ, σi, h, as, ag, f⟩ => rdS_go as ag f fun ρ1 H1 h1 x x' st as ag r f => ⟨ρ1, _, h1, x, as, ag, r, FinS.ends (on _ _ _) f rfl⟩
theorem ms_set {i : Nat} {x : Str} {pos' : Pos} (hN : X.N.Nodup) (hi : X.N[i]? = some x) (hx : Loc X.env.scope x) (he : PE X e (rdE G W me)) (hs : swapsWith e (some (.Name x pos')) pos.line X.env = pure false := by rfl) (hf : X.fn x = true ∨ X.env.scope.names.lookup x = some .local := by first | exact .inl rfl | exact .inr rfl | assumption) :
    PS X (.Assign [.Name x pos'] e pos) (rdS G W (sAsg me (gNm i))) :=
  PS.imp' (ps_set hN hi hx he hs hf) fun D σ H ⟨ρ, σi, h, as, ag, f⟩ => rdS_go as ag f fun ρ1 H1 h1 x x' st as ag r f => f.nx ag (as.set r i)
end
end ML
end
section
namespace ML
open PySem L2 PyProof.Rows
abbrev MF := List VI → Hi → Res VI
def endB : RS → Res VI
  | .nx _ h' => .ok .non h'
  | .rt v h' => .ok v h'
  | .ex c k _ h' => .ex c k h'
  | _ => .err
def runB (np n : Nat) (body : MS) : MF := fun vs h => match Nat.beq vs.length np with
  | true => endB (body (vs.map some ++ List.replicate n none) h)
  | false => .err
def spM (G : Gx) (np : Nat) (f : MF) : Sp := fun vs H Q E => ∃ ρ h args, args.length = np ∧ Ag G ρ h H ∧ RVs G ρ H args vs ∧ FinG G ρ H (RV G) Q (fun c d H' => E c d H') (f args h)
def CallM (X : Cx) (G : Gx) (W : WX) (fv : Value) (f : MF) : Prop :=
  ∀ (pins : List (Addr × Obj)) (s : Shared) (σ : L2.St) (H : Hp) (us : List Value) (vs : List V) (args : List VI) (ρ : List Addr) (h : Hi) (Q : VK), Inv X pins σ H s → Vals vs us → RVs G ρ H args vs → Ag G ρ h H →
    FinG G ρ H (RV G) Q (fun c d H' => W c d σ H') (f args h) → wpAny (model X.prog X.w) X.A (call fv us) (EP X pins σ Q) X.xe s
section
variable {G : Gx} {W : WX} {X : Cx} {ρ : List Addr} {h : Hi} {H : Hp} {σ : L2.St} {k np : Nat} {f C : Addr} {fd : FuncData} {ps : List Str} {g : MF}
theorem spM_len {vs : List V} {Q : VK} {E : XK} (h : spM G np g vs H Q E) : vs.length = np := by
  obtain ⟨_, _, args, l, _, r, _⟩ := h
  rw [← r.length, l]
theorem RVs.some_all : ∀ {vs : List VI} {xs : List V}, RVs G ρ H vs xs → ∀ (i : Nat) (v : VI), (vs.map some)[i]? = some (some v) → ∃ x, (xs.map some)[i]? = some (some x) ∧ RV G ρ H v x := fun {vs xs} r i v e => by
  rw [List.getElem?_map] at e
  cases q : vs[i]? with
  | none => rw [q] at e; cases e
  | some w =>
    rw [q] at e
    cases e
    obtain ⟨b, hb, rb⟩ := r.get q
    exact ⟨b, by rw [List.getElem?_map, hb] <;> rfl, rb⟩
theorem ags_start {N : List Str} {n : Nat} {args : List VI} {vs : List V} (r : RVs G ρ H args vs) (hn : N.length = vs.length + n) : AgS G ρ H (args.map some ++ List.replicate n none) (L2.start N vs) := by
  have hz : N.length - vs.length = n := by omega
  have hl : (args.map (some : VI → Option VI)).length = (vs.map (some : V → Option V)).length := by simp [r.length]
  unfold L2.start
  rw [hz]
  refine ⟨by simp [r.length], fun i v e => ?_⟩
  by_cases q : i < (args.map (some : VI → Option VI)).length
  · rw [List.getElem?_append_left q] at e
    rw [List.getElem?_append_left (by rw [← hl]; exact q)]
    exact r.some_all i v e
  · rw [List.getElem?_append_right (Nat.le_of_not_lt q)] at e
    have := List.mem_of_getElem? e
    rw [List.mem_replicate] at this
    cases this.2
theorem fn_M {P : Program} {w : World} {K : PySem.W.Frag} {mg : Str → Option Value} {base : Heap} {x qual : Str} {params : Arguments} {body : List Stmt} {scope : Scope} {dvs : List V} {kws : List (Str × V)} {N : List Str} {n : Nat} {mb : MS}
    (F : FunD K x qual params body scope dvs kws f fd) (S : FnScope N ps scope) (hn : N.length = ps.length + n)
    (hb : ∀ (cdv : Value) (A : Around) (outer : List Env) (s : Shared) (H : Hp) (E : XK), Room k (cxOf (L2.CX P w) P w K mg base N qual scope f cdv A outer s H E).A →
      Takes (cxOf (L2.CX P w) P w K mg base N qual scope f cdv A outer s H E) (fun c d _ H => E c d H) →
      PassesOwn (model P w) (cxOf (L2.CX P w) P w K mg base N qual scope f cdv A outer s H E).A (cxOf (L2.CX P w) P w K mg base N qual scope f cdv A outer s H E).env (cxOf (L2.CX P w) P w K mg base N qual scope f cdv A outer s H E).xe →
      PSs (cxOf (L2.CX P w) P w K mg base N qual scope f cdv A outer s H E) body (rdS G (fun c d _ H => E c d H) mb)) : FnOk P w K mg base (L2.CX P w) (k + 1) f fd ps (spM G ps.length (runB ps.length n mb)) := by
  refine F.ok S (fun vs H Q E h => spM_len h) (fun cdv A outer s H vs Q E hr hsp => ?_)
  obtain ⟨ρ, h, args, l, ag, r, fin⟩ := hsp
  refine ⟨_, hb cdv A outer s H E hr (takes_of rfl rfl rfl rfl) (passes_of rfl), ?_⟩
  refine ⟨ρ, _, h, ags_start r (by rw [← r.length, l]; exact hn), ag, ?_⟩
  unfold runB at fin
  rw [show Nat.beq args.length ps.length = true from by rw [l]; exact Nat.beq_refl _] at fin
  dsimp only at fin
  cases e : mb (args.map some ++ List.replicate n none) h with
  | nx σ' h' => rw [e] at fin; exact fun ρ' H' σ2 st a' as' => fin ρ' H' .non st a' .non
  | rt v h' => rw [e] at fin; exact fin
  | bk σ' h' => rw [e] at fin; exact fin.elim
  | ct σ' h' => rw [e] at fin; exact fin.elim
  | ex c n σ' h' => rw [e] at fin; exact fun ρ' H' d C σ2 st a' as' hn hc => fin ρ' H' d C st a' hn hc
  | err => rw [e] at fin; exact fin
def Arity (np : Nat) (g : MF) : Prop := ∀ vs h, vs.length ≠ np → g vs h = .err
theorem arity_runB {n : Nat} {mb : MS} : Arity np (runB np n mb) := fun vs h hl => by
  unfold runB
  rw [show Nat.beq vs.length np = false from Bool.eq_false_iff.mpr fun z => hl (Nat.eq_of_beq_eq_true z)]
theorem callM_fn (F : FnOk X.prog X.w X.K X.mg X.base (L2.CX X.prog X.w) k f fd ps (spM G ps.length g)) (ar : Arity ps.length g) (hr : Room k X.A) (hb : Binds X.K fd ps []) (tk : Takes X W) : CallM X G W (.ref f) g := by
  intro pins s σ H us vs args ρ h Q I r ra ag fin
  by_cases hl : args.length = ps.length
  · have hsp : spM G ps.length g vs H Q (WE W σ) := ⟨ρ, h, args, hl, ag, ra, fin⟩
    have lu : us.length = ps.length := by rw [← r.length, ← ra.length]; exact hl
    have b := hb s us I.kIn (by rw [List.append_nil]; exact lu)
    rw [List.append_nil] at b
    refine wpAny_call (codeAny_mono (F.run _ _ s H ⟨us, []⟩ us vs Q (WE W σ) hr I.env0 b r hsp) fun res s' hq => ?_)
    match res, hq with
    | .error e, hq => exact passAt tk σ pins H s e s' I hq
    | .ok (.ret u), hq => exact I.after hq
  · rw [ar args h hl] at fin
    exact fin.elim
end
end ML
end
section
namespace ML
open PySem L2 PyProof.Rows
def eCall (g : MF) (ma : MA) : ME := fun σ h => (ma σ h).bind fun vs h1 => g vs h1
def getF (f : S) : List (S × VI) → Option VI
  | [] => none
  | (g, v) :: r => match decide (g = f) with
    | true => some v
    | false => getF f r
def setF (f : S) (v : VI) : List (S × VI) → List (S × VI)
  | [] => [(f, v)]
  | (g, x) :: r => match decide (g = f) with
    | true => (g, v) :: r
    | false => (g, x) :: setF f v r
section
variable {G : Gx} {ρ : List Addr} {H : Hp}
theorem RFs.getF : ∀ {fs : List (S × VI)} {gs : List (Str × V)} (f : S), RFs G ρ H fs gs → match ML.getF f fs with
    | some v => ∃ x, gs.lookup (toStr f) = some x ∧ RV G ρ H v x
    | none => gs.lookup (toStr f) = none
  | _, _, f, .nil => rfl
  | _, _, f, .cons (f := k) (g := g) (fs := fs) (gs := gs) e h t => by
    subst e
    unfold ML.getF
    by_cases q : k = f
    · subst q
      rw [decide_eq_true rfl]
      exact ⟨_, by simp [List.lookup], h⟩
    · rw [decide_eq_false q]
      have hb : (toStr f == toStr k) = false := beq_eq_false_iff_ne.mpr fun z => q (toStr_inj z).symm
      dsimp only
      have ih := RFs.getF f t
      simp only [List.lookup, hb]
      exact ih
theorem RFs.setF : ∀ {fs : List (S × VI)} {gs : List (Str × V)} {v : VI} {x : V} (f : S), RFs G ρ H fs gs → RV G ρ H v x → RFs G ρ H (ML.setF f v fs) (putF (toStr f) x gs)
  | _, _, _, _, f, .nil, r => .cons rfl r .nil
  | _, _, v, x, f, .cons (f := k) (g := g) (fs := fs) (gs := gs) e h t, r => by
    subst e
    unfold ML.setF
    by_cases q : k = f
    · subst q
      rw [decide_eq_true rfl]
      show RFs G ρ H _ (if toStr k = toStr k then _ else _)
      rw [if_pos rfl]
      exact .cons rfl r t
    · rw [decide_eq_false q]
      show RFs G ρ H _ (if toStr k = toStr f then _ else _)
      rw [if_neg fun z => q (toStr_inj z)]
      exact .cons rfl h (RFs.setF f t r)
end
def eFld (cs : List Nat) (f : S) (e : ME) : ME := fun σ h => (e σ h).bind fun x h1 => match x with
  | .ref n => match h1[n]? with
    | some (.ins c fs) => match cs.contains c, getF f fs with
      | true, some v => .ok v h1
      | _, _ => .err
    | _ => .err
  | _ => .err
def FldOk (K : PySem.W.Frag) (G : Gx) (cs : List Nat) (f : S) : Prop := ∀ c C, cs.contains c = true → G.ct c = some C → Cls K C ∧ NoAttr K C (toStr f)
def eCon (tbl : Nat → Option VI) (f : S) (e : ME) : ME := fun σ h => (e σ h).bind fun x h1 => match x with
  | .ref n => match h1[n]? with
    | some (.ins c fs) => match tbl c, getF f fs with
      | some v, none => .ok v h1
      | _, _ => .err
    | _ => .err
  | _ => .err
def sFldM (cs : List Nat) (f : S) (o v : ME) : MS := fun σ h => (v σ h).bindS σ fun y h1 => (o σ h1).bindS σ fun x h2 => match x with
  | .ref n => match h2[n]? with
    | some (.ins c fs) => match cs.contains c && Nat.blt fs.length 1000 with
      | true => .nx σ (h2.set n (.ins c (setF f y fs)))
      | false => .err
    | _ => .err
  | _ => .err
def eMeth (tbl : Nat → Option MF) (m : S) (o : ME) (ma : MA) : ME := fun σ h => (o σ h).bind fun x h1 => match x with
  | .ref n => match h1[n]? with
    | some (.ins c fs) => match tbl c, getF m fs with
      | some g, none => (ma σ h1).bind fun vs h2 => g (.ref n :: vs) h2
      | _, _ => .err
    | _ => .err
  | _ => .err
def MethOk (X : Cx) (G : Gx) (W : WX) (tbl : Nat → Option MF) (m : S) : Prop := ∀ c C g, tbl c = some g → G.ct c = some C → Cls X.K C ∧ ∃ f, Meth X.K C (toStr m) f ∧ CallM X G W (.ref f) g
section
variable {G : Gx} {W : WX} {X : Cx} {ρ : List Addr} {h : Hi} {H : Hp} {σ : L2.St} {k : Nat} {f C : Addr} {fd : FuncData} {ps : List Str} {g : MF} {x : Str} {p pos apos pos' : Pos} {e o v : Expr} {es : List Expr} {ma : MA} {me mo mv : ME}
theorem me_call (c : CallM X G W (.ref f) g) (hg : Gl X x) (hm : X.mg x = some (.ref f)) (hk : PySem.W.keepIn X.K (.ref f) = true) (ha : PA X (e :: es) (rdA G W ma)) (hdb : (x == ("__debug__" : Str)) = false := by decide)
    (he : starEach (e :: es) X.env = (false, eval e X.env) :: starEach es X.env := by rfl) (hpl : (backTo pos (starEach es X.env)).any (·.1) = false := by rfl) : PE X (.Call (.Name x p) (e :: es) [] pos) (rdE G W (eCall g ma)) := by
  refine ⟨fun pins s σ H Q I ⟨ρ, σi, h, as, ag, fin⟩ => ?_⟩
  refine wpAny_Call_Name_kw (ld_glob I hg hm ?_ hdb)
  have A : rdA G W ma σ H fun vs H1 => ∃ ρ1 h1 args, RVs G ρ1 H1 args vs ∧ Ag G ρ1 h1 H1 ∧ FinG G ρ1 H1 (RV G) Q (fun c d H' => W c d σ H') (g args h1) :=
    rdG_go as ag fin fun ρ1 H1 h1 xs ys st as ag r f => ⟨ρ1, h1, xs, r, ag, f⟩
  refine PySem.W.callWith_K (h₀ := X.base) I.ok.mod.kin hk (thn (ha.run pos pins s σ H _ I A) fun us s1 ⟨vs, H1, I1, r, q⟩ => ⟨I1.kIn, ?_⟩) he hpl
  obtain ⟨ρ1, h1, args, ra, ag1, f1⟩ := q
  exact c pins s1 σ H1 us vs args ρ1 h1 Q I1 r ra ag1 f1
theorem insAt (ag : Ag G ρ h H) {n : Nat} {a : Addr} {c : Nat} {fl : List (S × VI)} (q : h[n]? = some (.ins c fl)) (e : ρ[n]? = some a) : ∃ C dx gs, G.ct c = some C ∧ H a = some (.ins C dx gs) ∧ RFs G ρ H fl gs := ag.at_ q e
theorem me_fld {cs : List Nat} {fn : S} {fs : Str} (ef : fs = toStr fn) (hF : FldOk X.K G cs fn) (he : PE X e (rdE G W me)) (hb : attributeBase e fs X.env (eval e X.env) = eval e X.env) : PE X (.Attribute e fs pos) (rdE G W (eFld cs fn me)) := by
  subst ef
  refine PE.imp' (pe_fld he hb) fun σ H Q ⟨ρ, σi, h, as, ag, fin⟩ => rdG_go as ag fin fun ρ1 H1 h1 x y st as ag r fi => ?_
  cases r with
  | @ref n a e =>
    dsimp only at fi
    cases q : h1[n]? with
    | none => rw [q] at fi; exact fi.elim
    | some ob =>
      rw [q] at fi
      cases ob with
      | ins c fl =>
        dsimp only at fi
        obtain ⟨C, dx, gs, hc, hH, rf⟩ := insAt ag q e
        have gf := RFs.getF fn rf
        cases q1 : cs.contains c with
        | false => rw [q1] at fi; exact fi.elim
        | true =>
          cases q2 : getF fn fl with
          | none => rw [q1, q2] at fi; exact fi.elim
          | some w =>
            rw [q2] at gf
            obtain ⟨z, hz, rz⟩ := gf
            rw [q1, q2] at fi
            obtain ⟨k1, k2⟩ := hF c C q1 hc
            exact ⟨a, C, dx, gs, z, rfl, hH, k1, k2, hz, fi.ok ag rz⟩
      | _ => exact fi.elim
  | _ => exact fi.elim
theorem ms_fld {cs : List Nat} {fn : S} {fs : Str} (ef : fs = toStr fn) (hF : FldOk X.K G cs fn) (ho : PE X o (rdE G W mo)) (hv : PE X v (rdE G W mv)) (hs : swapsWith v (some (.Attribute o fs pos')) pos.line X.env = pure false) : PS X (.Assign [.Attribute o fs pos'] v pos) (rdS G W (sFldM cs fn mo mv)) := by
  subst ef
  refine PS.imp' (ps_fld ho hv hs) fun D σ H ⟨ρ, σi, h, as, ag, fin⟩ => rdS_go as ag fin fun ρ1 H1 h1 y y' st as ag ry fin => rdS_go as ag fin fun ρ2 H2 h2 x x' st2 as ag r fi => ?_
  cases r with
  | @ref n a e =>
    dsimp only at fi
    cases q : h2[n]? with
    | none => rw [q] at fi; exact fi.elim
    | some ob =>
      rw [q] at fi
      cases ob with
      | ins c fl =>
        dsimp only at fi
        obtain ⟨C, dx, gs, hc, hH, rf⟩ := insAt ag q e
        cases q1 : cs.contains c && Nat.blt fl.length 1000 with
        | false => rw [q1] at fi; exact fi.elim
        | true =>
          rw [q1] at fi
          obtain ⟨q2, q3⟩ := Bool.and_eq_true_iff.mp q1
          obtain ⟨k1, k2⟩ := hF c C q2 hc
          have st3 : Stp G ρ2 H2 ρ2 (upd H2 a (.ins C dx (putF (toStr fn) y' gs))) := Stp.wr ag q e
          exact ⟨a, C, dx, gs, rfl, hH, k1, k2, by rw [← rf.length]; exact Nat.le_of_ble_eq_true q3,
            fi ρ2 _ σ st3 (ag.wr q e ⟨C, dx, _, hc, upd_same, RFs.setF fn (rf.mono st3) (ry.mono (st2.trans st3))⟩) (as.mono st3)⟩
      | _ => exact fi.elim
  | _ => exact fi.elim
theorem me_meth0 {tbl : Nat → Option MF} {m : S} {mm : Str} (em : mm = toStr m) (hM : MethOk X G W tbl m) (ho : PE X o (rdE G W mo)) {pl : Sem Bool}
    (ht : eval (.Call (.Attribute o mm apos) [] [] pos) X.env = (do
      let ov ← eval o X.env
      standAt apos.atName
      let (f, first) ← holding [ov] (getMethod ov mm pl)
      callWith pos f first (backTo pos (starEach [] X.env)) (backToKw pos (keywordEach [] X.env))) := by rfl) :
    PE X (.Call (.Attribute o mm apos) [] [] pos) (rdE G W (eMeth tbl m mo aNil)) := by
  subst em
  refine ⟨fun pins s σ H Q I ⟨ρ, σi, h, as, ag, fin⟩ => ?_⟩
  have A : rdE G W mo σ H fun x H1 => ∃ ρ1 h1 n a c fl g, x = .ref a ∧ Ag G ρ1 h1 H1 ∧ ρ1[n]? = some a ∧ h1[n]? = some (.ins c fl) ∧ tbl c = some g ∧ getF m fl = none ∧
      FinG G ρ1 H1 (RV G) Q (fun c d H' => W c d σ H') (g [.ref n] h1) :=
    rdG_go as ag fin fun ρ1 H1 h1 x y st as ag r fi => by
      cases r with
      | @ref n a e =>
        dsimp only at fi
        cases q : h1[n]? with
        | none => rw [q] at fi; exact fi.elim
        | some ob =>
          rw [q] at fi
          cases ob with
          | ins c fl =>
            dsimp only at fi
            cases q1 : tbl c with
            | none => rw [q1] at fi; exact fi.elim
            | some g =>
              cases q2 : getF m fl with
              | some w => rw [q1, q2] at fi; exact fi.elim
              | none =>
                rw [q1, q2] at fi
                exact ⟨ρ1, h1, n, a, c, fl, g, rfl, ag, e, q, q1, q2, fi⟩
          | _ => exact fi.elim
      | _ => exact fi.elim
  refine PySem.W.methodCall_KW (pl := pl) (thn (ho.run pins s σ H _ I A) fun u s1 ⟨x, H1, I1, rx, ρ1, h1, n, a, c, fl, g, ex, ag1, hn, hh, ht, hl, f1⟩ => ?_) ht
  subst ex
  obtain rfl : u = Value.ref a := rx
  obtain ⟨C, dx, gs, hc, hH, rf⟩ := insAt ag1 hh hn
  have gf := RFs.getF m rf
  rw [hl] at gf
  obtain ⟨k1, fa, k2, k3⟩ := hM c C g ht hc
  refine getmeth_ok I1 hH k1 k2 gf ?_
  exact PySem.W.callWith_K0 (first := [.ref a]) I1.kIn k2.kp (k3 pins s1 σ H1 [.ref a] [.ref a] [.ref n] ρ1 h1 Q I1 (.cons rfl .nil) (.cons (.ref hn) .nil) ag1 f1)
end
end ML
end
section
namespace ML
open PySem L2 PyProof.Rows
section
variable {G : Gx} {W : WX} {X : Cx} {ρ : List Addr} {h : Hi} {H : Hp} {σ : L2.St} {k : Nat} {f C : Addr} {fd : FuncData} {ps : List Str} {g : MF} {x : Str} {p pos apos pos' : Pos} {e o v : Expr} {es : List Expr} {ma : MA} {me mo mv : ME}
def mkM (c : Nat) (g : MF) : MF := fun vs h => match g (.ref h.length :: vs) (h ++ [.ins c []]) with
  | .ok .non h2 => .ok (.ref h.length) h2
  | .ex c n h2 => .ex c n h2
  | _ => .err
theorem callM_make {c : Nat} (M : Mk X.K C f) (hc : G.ct c = some C) (F : FnOk X.prog X.w X.K X.mg X.base (L2.CX X.prog X.w) k f fd ps (spM G ps.length g)) (ar : Arity ps.length g) (hr : Room (k + 1) X.A) (hb : Binds X.K fd ps []) (tk : Takes X W) :
    CallM X G W (.ref C) (mkM c g) := by
  intro pins s σ H us vs args ρ h Q I r ra ag fin
  have n0 : H (s.heap.objs.size + 1) = none := I.hok.fresh (Nat.le_succ _)
  have n1 : H s.heap.objs.size = none := I.hok.fresh (Nat.le_refl _)
  have ne : s.heap.objs.size ≠ s.heap.objs.size + 1 := Nat.ne_of_lt (Nat.lt_succ_self _)
  have I2 := L2.Inv.made (C := C) I
  have st1 : Stp G ρ H ρ (upd H s.heap.objs.size (.own (s.heap.objs.size + 1))) := Stp.more n1
  have a1 : Ag G ρ h (upd H s.heap.objs.size (.own (s.heap.objs.size + 1))) := ag.more n1
  have n2 : upd H s.heap.objs.size (.own (s.heap.objs.size + 1)) (s.heap.objs.size + 1) = none := by rw [upd_ne ne.symm]; exact n0
  have st2 := Stp.new (G := G) (ρ := ρ) (o := .ins C s.heap.objs.size []) n2
  have a2 := a1.new (o := .ins C s.heap.objs.size []) (u := .ins c []) n2 ⟨C, s.heap.objs.size, [], hc, upd_same, .nil⟩
  have st := st1.trans st2
  have hx : (ρ ++ [s.heap.objs.size + 1])[h.length]? = some (s.heap.objs.size + 1) := by rw [← ag.len]; simp
  by_cases hl : (VI.ref h.length :: args).length = ps.length
  · have hsp : spM G ps.length g (.ref (s.heap.objs.size + 1) :: vs) (upd (upd H s.heap.objs.size (.own (s.heap.objs.size + 1))) (s.heap.objs.size + 1) (.ins C s.heap.objs.size [])) (fun v H2 => v = .non ∧ Q (.ref (s.heap.objs.size + 1)) H2) (WE W σ) := by
      refine ⟨_, _, _, hl, a2, .cons (.ref hx) (ra.mono st), ?_⟩
      unfold mkM at fin
      cases q : g (.ref h.length :: args) (h ++ [.ins c []]) with
      | err => rw [q] at fin; exact fin.elim
      | ex c' n h2 => rw [q] at fin; exact fun ρ' H' d C' s a hn hc => fin ρ' H' d C' (st.trans s) a hn hc
      | ok v h2 =>
        rw [q] at fin
        cases v with
        | non =>
          exact fun ρ' H' x s a rx => by
            cases rx
            exact ⟨rfl, fin ρ' H' _ (st.trans s) a (.ref (s.pre _ _ hx))⟩
        | _ => exact fin.elim
    have r2 : Vals (V.ref (s.heap.objs.size + 1) :: vs) (Value.ref (s.heap.objs.size + 1) :: us) := .cons rfl r
    have lu : ((Value.ref (s.heap.objs.size + 1) :: us) ++ []).length = ps.length := by rw [List.append_nil, ← r2.length, List.length_cons, ← ra.length]; exact hl
    have b := hb _ (Value.ref (s.heap.objs.size + 1) :: us) I2.kIn lu
    rw [List.append_nil] at b
    refine wpAny_call (make_map (f := f) I.kIn M.makes M.init (beq_iff_eq.mp M.fn) (codeAny_mono (F.run _ _ _ _ ⟨Value.ref (s.heap.objs.size + 1) :: us, []⟩ _ _ _ (WE W σ) (hr.make C us []) (I2.env0.make C us []) b r2 hsp) fun res s' hq => ?_))
    match res, hq with
    | .error e, hq => exact passAt tk σ pins _ _ e s' I2 hq
    | .ok (.ret u), hq =>
      obtain ⟨v, H', I3, rv, ev, q3⟩ := I2.after hq
      subst ev
      exact ⟨rv, ⟨V.ref (s.heap.objs.size + 1), H', I3, rfl, q3⟩⟩
  · unfold mkM at fin
    rw [ar _ _ hl] at fin
    exact fin.elim
def okM : Res VI → Res VI
  | .ok v h => .ok v h
  | _ => .err
def eProp (tbl : Nat → Option MF) (e : ME) : ME := fun σ h => (e σ h).bind fun x h1 => match x with
  | .ref n => match h1[n]? with
    | some (.ins c fs) => match tbl c with
      | some g => okM (g [.ref n] h1)
      | none => .err
    | _ => .err
  | _ => .err
end
end ML
end
section
namespace ML
open PySem L2
theorem PE.dispatch {X : Cx} {e : Expr} {t : TE} (h : ∀ σ H Q, t σ H Q → ∃ t', PE X e t' ∧ t' σ H Q) : PE X e t := ⟨fun pins s σ H Q I q => let ⟨_, p, q'⟩ := h σ H Q q; p.run pins s σ H Q I q'⟩
theorem PS.dispatch {X : Cx} {e : Stmt} {t : TS} (h : ∀ D σ H, t D σ H → ∃ t', PS X e t' ∧ t' D σ H) : PS X e t := ⟨fun pins s σ H D I q => let ⟨_, p, q'⟩ := h D σ H q; p.run pins s σ H D I q'⟩
abbrev OpC := List VI → Hi → Option (VI × Hi)
def rdC (G : Gx) (f : OpC) : List V → Hp → VK → Prop := fun xs H Q => ∃ ρ h args, Ag G ρ h H ∧ RVs G ρ H args xs ∧ FinO G ρ H (RV G) Q (f args h)
def eCB (f : OpC) (ma : MA) : ME := fun σ h => (ma σ h).bind fun vs h1 => ofO (f vs h1)
section
variable {G : Gx} {ρ : List Addr} {h : Hi} {H : Hp} {W : WX} {X : Cx} {e a b c o i : Expr} {es : List Expr} {pos p pos' apos : Pos} {me mi mo ma mb mv : ME} {mr : MA} {f : OpC} {x : Str} {id T : String}
theorem callR_at {fv : Value} (h : ∀ ρ h H args xs Q, Ag G ρ h H → RVs G ρ H args xs → FinO G ρ H (RV G) Q (f args h) → ∃ r, CallR X fv r ∧ r xs H Q) : CallR X fv (rdC G f) :=
  fun pins s σ H xs us Q I r ⟨ρ, hi, args, ag, ra, q⟩ => by
    obtain ⟨r', ho, hr⟩ := h ρ hi H args xs Q ag ra q
    exact ho pins s σ H xs us Q I r hr
theorem me_cb (hc : CallR X (.builtin id) (rdC G f)) (hg : Gl X x) (hm : X.mg x = none) (hv : bootBuiltins x = some (.builtin id)) (ha : PA X (e :: es) (rdA G W mr)) (hn : x ≠ "__name__" := by decide) (hdb : (x == ("__debug__" : Str)) = false := by decide)
    (he : starEach (e :: es) X.env = (false, eval e X.env) :: starEach es X.env := by rfl) (hpl : (backTo pos (starEach es X.env)).any (·.1) = false := by rfl) : PE X (.Call (.Name x p) (e :: es) [] pos) (rdE G W (eCB f mr)) :=
  PE.imp' (pe_callB hc hg hm hv ha hn hdb he hpl) fun σ H Q ⟨ρ, σi, h, as, ag, fin⟩ => rdG_go as ag fin fun ρ1 H1 h1 vs ys st as ag r fi => ⟨ρ1, h1, vs, ag, r, FinO.of fi⟩
theorem me_cty (hc : CallR X (.type T) (rdC G f)) (hg : Gl X x) (hm : X.mg x = none) (hv : bootBuiltins x = some (.type T)) (ha : PA X (e :: es) (rdA G W mr)) (hn : x ≠ "__name__" := by decide) (hdb : (x == ("__debug__" : Str)) = false := by decide)
    (he : starEach (e :: es) X.env = (false, eval e X.env) :: starEach es X.env := by rfl) (hpl : (backTo pos (starEach es X.env)).any (·.1) = false := by rfl) : PE X (.Call (.Name x p) (e :: es) [] pos) (rdE G W (eCB f mr)) :=
  PE.imp' (pe_callTy hc hg hm hv ha hn hdb he hpl) fun σ H Q ⟨ρ, σi, h, as, ag, fin⟩ => rdG_go as ag fin fun ρ1 H1 h1 vs ys st as ag r fi => ⟨ρ1, h1, vs, ag, r, FinO.of fi⟩
def cLen : OpC := fun vs h => match vs with
  | [.tup xs] => some (.int xs.length, h)
  | [.str s] => match small s.length with
    | true => some (.int s.length, h)
    | false => none
  | [.ref n] => match h[n]? with
    | some (.lst xs) => some (.int xs.length, h)
    | some (.scr xs) => some (.int xs.length, h)
    | some (.dic kvs) => some (.int kvs.length, h)
    | _ => none
  | _ => none
theorem mc_len (hG : G.K = X.K) : CallR X (.builtin "len") (rdC G cLen) := callR_at fun ρ h H args xs Q ag ra fi => by
  unfold cLen at fi
  cases ra with
  | nil => exact fi.elim
  | cons r t =>
    cases t with
    | cons _ _ => cases r <;> exact fi.elim
    | nil =>
      cases r with
      | @tup xs ys a t1 s1 => exact ⟨_, call_len_seq, a, ys, rfl, .inr (hG ▸ t1), by rw [← s1.length]; exact fi.ok ag (.int _)⟩
      | @str s z q =>
        subst q
        dsimp only at fi
        cases q : small s.length with
        | false => rw [q] at fi; exact fi.elim
        | true =>
          rw [q] at fi
          exact ⟨_, call_len_str, _, rfl, by rw [toStr_length]; exact small_ok q, by rw [toStr_length]; exact fi.ok ag (.int _)⟩
      | @ref n a q =>
        dsimp only at fi
        cases q1 : h[n]? with
        | none => rw [q1] at fi; exact fi.elim
        | some ob =>
          rw [q1] at fi
          cases ob with
          | lst xs =>
            obtain ⟨ys, hy, rs⟩ := ag.at_ q1 q
            exact ⟨_, call_len_seq, a, ys, rfl, .inl (.inl (.inl hy)), by rw [← rs.length]; exact fi.ok ag (.int _)⟩
          | scr xs =>
            obtain ⟨ob, ys, hy, rs⟩ := ag.at_ q1 q
            exact ⟨_, call_len_seq, a, ys, rfl, .inl (.inl (.inr ⟨_, hy⟩)), by rw [← rs.length]; exact fi.ok ag (.int _)⟩
          | dic kvs =>
            obtain ⟨ks, hy, rs⟩ := ag.at_ q1 q
            exact ⟨_, call_lenD, a, ks, rfl, hy, by rw [← rs.length]; exact fi.ok ag (.int _)⟩
          | _ => exact fi.elim
      | _ => exact fi.elim
def cInt : OpC := fun vs h => match vs with
  | [.int i] => some (.int i, h)
  | [.bl b] => some (.int (if b then 1 else 0), h)
  | _ => none
theorem mc_int : CallR X (.type "int") (rdC G cInt) := callR_at fun ρ h H args xs Q ag ra fi => by
  unfold cInt at fi
  cases ra with
  | nil => exact fi.elim
  | cons r t =>
    cases t with
    | cons _ _ => cases r <;> exact fi.elim
    | nil =>
      cases r with
      | int i => exact ⟨_, call_int1, .inl ⟨i, rfl, fi.ok ag (.int _)⟩⟩
      | bl k => exact ⟨_, call_int1, .inr ⟨k, rfl, fi.ok ag (.int _)⟩⟩
      | _ => exact fi.elim
def cMax : OpC := fun vs h => match vs with
  | [.int i, .int j] => some (.int (if j > i then j else i), h)
  | _ => none
def cMin : OpC := fun vs h => match vs with
  | [.int i, .int j] => some (.int (if j < i then j else i), h)
  | _ => none
theorem mc_max (hc : X.calm = true) : CallR X (.builtin "max") (rdC G cMax) := callR_at fun ρ h H args xs Q ag ra fi => by
  unfold cMax at fi
  cases ra with
  | nil => exact fi.elim
  | cons r t =>
    cases r with
    | int i =>
      cases t with
      | nil => exact fi.elim
      | cons r2 t2 =>
        cases r2 with
        | int j =>
          cases t2 with
          | nil => exact ⟨_, call_max2 hc, i, j, rfl, fi.ok ag (.int _)⟩
          | cons _ _ => exact fi.elim
        | _ => exact fi.elim
    | _ => exact fi.elim
theorem mc_min (hc : X.calm = true) : CallR X (.builtin "min") (rdC G cMin) := callR_at fun ρ h H args xs Q ag ra fi => by
  unfold cMin at fi
  cases ra with
  | nil => exact fi.elim
  | cons r t =>
    cases r with
    | int i =>
      cases t with
      | nil => exact fi.elim
      | cons r2 t2 =>
        cases r2 with
        | int j =>
          cases t2 with
          | nil => exact ⟨_, call_min2 hc, i, j, rfl, fi.ok ag (.int _)⟩
          | cons _ _ => exact fi.elim
        | _ => exact fi.elim
    | _ => exact fi.elim
def cList : OpC := fun vs h => match vs with
  | [.tup xs] => some (.ref h.length, h ++ [.lst xs])
  | [.ref n] => match h[n]? with
    | some (.lst xs) => some (.ref h.length, h ++ [.lst xs])
    | some (.scr xs) => some (.ref h.length, h ++ [.lst xs])
    | some (.dic kvs) => some (.ref h.length, h ++ [.lst (kvs.map (·.1))])
    | _ => none
  | _ => none
theorem RK.rv {a : VI} {k : Key} (r : RK a k) {H : Hp} {ρ : List Addr} : RV G ρ H a (kV k) := by
  cases a with
  | int i => cases r; exact .int i
  | str s => cases r; exact .str rfl
  | _ => exact r.elim
theorem RKs.keys {ρ : List Addr} {H : Hp} : ∀ {kvs : List (VI × VI)} {ks : List (Key × V)}, RKs G ρ H kvs ks → RVs G ρ H (kvs.map (·.1)) (ks.map fun kv => kV kv.1)
  | _, _, .nil => .nil
  | _, _, .cons e _ t => .cons (RK.rv e) (RKs.keys t)
theorem mc_list (hG : G.K = X.K) (hc : X.calm = true) : CallR X (.type "list") (rdC G cList) := callR_at fun ρ h H args xs Q ag ra fi => by
  unfold cList at fi
  cases ra with
  | nil => exact fi.elim
  | cons r t =>
    cases t with
    | cons _ _ => cases r <;> exact fi.elim
    | nil =>
      cases r with
      | @tup xs ys a t1 s1 => exact ⟨_, call_list_of, a, ys, rfl, .inr (hG ▸ t1), fun l hl => FinO.new fi ag hl ⟨_, upd_same, s1.mono (Stp.new hl)⟩⟩
      | @ref n a q =>
        dsimp only at fi
        cases q1 : h[n]? with
        | none => rw [q1] at fi; exact fi.elim
        | some ob =>
          rw [q1] at fi
          cases ob with
          | lst xs =>
            obtain ⟨ys, hy, rs⟩ := ag.at_ q1 q
            exact ⟨_, call_list_of, a, ys, rfl, .inl (.inl (.inl hy)), fun l hl => FinO.new fi ag hl ⟨_, upd_same, rs.mono (Stp.new hl)⟩⟩
          | scr xs =>
            obtain ⟨ob, ys, hy, rs⟩ := ag.at_ q1 q
            exact ⟨_, call_list_of, a, ys, rfl, .inl (.inl (.inr ⟨_, hy⟩)), fun l hl => FinO.new fi ag hl ⟨_, upd_same, rs.mono (Stp.new hl)⟩⟩
          | dic kvs =>
            obtain ⟨ks, hy, rs⟩ := ag.at_ q1 q
            exact ⟨_, call_list_dK hc, a, ks, rfl, hy, fun l hl => FinO.new fi ag hl ⟨_, upd_same, rs.keys.mono (Stp.new hl)⟩⟩
          | _ => exact fi.elim
      | _ => exact fi.elim
def cTuple : OpC := fun vs h => match vs with
  | [.tup xs] => some (.tup xs, h)
  | [.ref n] => match h[n]? with
    | some (.lst xs) => some (.tup xs, h)
    | some (.scr xs) => some (.tup xs, h)
    | _ => none
  | _ => none
theorem mc_tuple (hG : G.K = X.K) : CallR X (.type "tuple") (rdC G cTuple) := callR_at fun ρ h H args xs Q ag ra fi => by
  unfold cTuple at fi
  cases ra with
  | nil => exact fi.elim
  | cons r t =>
    cases t with
    | cons _ _ => cases r <;> exact fi.elim
    | nil =>
      cases r with
      | @tup xs ys a t1 s1 => exact ⟨_, call_tuple_of, a, ys, rfl, .inr ⟨hG ▸ t1, fi.ok ag (.tup t1 s1)⟩⟩
      | @ref n a q =>
        dsimp only at fi
        cases q1 : h[n]? with
        | none => rw [q1] at fi; exact fi.elim
        | some ob =>
          rw [q1] at fi
          cases ob with
          | lst xs =>
            obtain ⟨ys, hy, rs⟩ := ag.at_ q1 q
            exact ⟨_, call_tuple_of, a, ys, rfl, .inl ⟨.inl (.inl hy), fun l hl => fi ρ _ _ (Stp.more hl) (ag.more hl) (.tup (.inl (.inl upd_same)) (rs.mono (Stp.more hl)))⟩⟩
          | scr xs =>
            obtain ⟨ob, ys, hy, rs⟩ := ag.at_ q1 q
            exact ⟨_, call_tuple_of, a, ys, rfl, .inl ⟨.inl (.inr ⟨_, hy⟩), fun l hl => fi ρ _ _ (Stp.more hl) (ag.more hl) (.tup (.inl (.inl upd_same)) (rs.mono (Stp.more hl)))⟩⟩
          | _ => exact fi.elim
      | _ => exact fi.elim
def cDict : OpC := fun vs h => match vs with
  | [.ref n] => match h[n]? with
    | some (.dic kvs) => some (.ref h.length, h ++ [.dic kvs])
    | _ => none
  | _ => none
end
end ML
end
section
namespace ML
open PySem L2
def keyEq : VI → VI → Bool
  | .int i, .int j => decide (i = j)
  | .str s, .str t => decide (s = t)
  | _, _ => false
def isKey : VI → Bool
  | .int _ => true
  | .str _ => true
  | _ => false
def getD (k : VI) : List (VI × VI) → Option VI
  | [] => none
  | (a, v) :: r => match keyEq a k with
    | true => some v
    | false => getD k r
def hasD (k : VI) : List (VI × VI) → Bool
  | [] => false
  | (a, _) :: r => match keyEq a k with
    | true => true
    | false => hasD k r
def repD (k v : VI) : List (VI × VI) → List (VI × VI)
  | [] => []
  | (a, x) :: r => match keyEq a k with
    | true => (a, v) :: repD k v r
    | false => (a, x) :: repD k v r
def putD (k v : VI) (d : List (VI × VI)) : List (VI × VI) := match hasD k d with
  | true => repD k v d
  | false => d ++ [(k, v)]
theorem keyEq_ok {a b : VI} {k l : Key} (ra : RK a k) (rb : RK b l) : keyEq a b = decide (k = l) := by
  cases a with
  | int i =>
    cases ra
    cases b with
    | int j => cases rb; simp [keyEq]
    | str t => cases rb; simp [keyEq]
    | _ => exact rb.elim
  | str s =>
    cases ra
    cases b with
    | int j => cases rb; simp [keyEq]
    | str t =>
      cases rb
      unfold keyEq
      by_cases e : s = t
      · subst e; simp
      · have : ¬ toStr s = toStr t := fun z => e (toStr_inj z)
        simp [e, this]
    | _ => exact rb.elim
  | _ => exact ra.elim
section
variable {G : Gx} {ρ : List Addr} {H : Hp}
theorem RKs.getD {b : VI} {l : Key} (rb : RK b l) : ∀ {kvs : List (VI × VI)} {ks : List (Key × V)}, RKs G ρ H kvs ks → match ML.getD b kvs with
    | some v => ∃ x, valV ks l = some x ∧ RV G ρ H v x
    | none => valV ks l = none
  | _, _, .nil => rfl
  | _, _, .cons (a := a) (k := k) (as := as) (ks := ks) e h t => by
    unfold ML.getD
    rw [keyEq_ok e rb]
    by_cases q : k = l
    · rw [decide_eq_true q]
      exact ⟨_, valV_pos q, h⟩
    · rw [decide_eq_false q]
      have ih := RKs.getD rb t
      rw [valV_neg q]
      exact ih
theorem RKs.hasD {b : VI} {l : Key} (rb : RK b l) : ∀ {kvs : List (VI × VI)} {ks : List (Key × V)}, RKs G ρ H kvs ks → ML.hasD b kvs = ks.any fun kv => decide (kv.1 = l)
  | _, _, .nil => rfl
  | _, _, .cons (a := a) (k := k) (as := as) (ks := ks) e h t => by
    unfold ML.hasD
    rw [keyEq_ok e rb, List.any_cons]
    by_cases q : k = l
    · rw [decide_eq_true q]
      rfl
    · rw [decide_eq_false q, Bool.false_or]
      exact RKs.hasD rb t
theorem RKs.repD {b v : VI} {x : V} {l : Key} (rb : RK b l) (rv : RV G ρ H v x) : ∀ {kvs : List (VI × VI)} {ks : List (Key × V)}, RKs G ρ H kvs ks → RKs G ρ H (ML.repD b v kvs) (ks.map fun kv => if kv.1 = l then (kv.1, x) else kv)
  | _, _, .nil => .nil
  | _, _, .cons (a := a) (k := k) (as := as) (ks := ks) e h t => by
    unfold ML.repD
    rw [keyEq_ok e rb, List.map_cons]
    by_cases q : k = l
    · rw [decide_eq_true q, if_pos q]
      exact .cons e rv (RKs.repD rb rv t)
    · rw [decide_eq_false q, if_neg q]
      exact .cons e h (RKs.repD rb rv t)
theorem RKs.snoc {b v : VI} {x : V} {l : Key} (rb : RK b l) (rv : RV G ρ H v x) : ∀ {kvs : List (VI × VI)} {ks : List (Key × V)}, RKs G ρ H kvs ks → RKs G ρ H (kvs ++ [(b, v)]) (ks ++ [(l, x)])
  | _, _, .nil => .cons rb rv .nil
  | _, _, .cons e h t => .cons e h (RKs.snoc rb rv t)
theorem RKs.putD {b v : VI} {x : V} {l : Key} (rb : RK b l) (rv : RV G ρ H v x) {kvs : List (VI × VI)} {ks : List (Key × V)} (r : RKs G ρ H kvs ks) : RKs G ρ H (ML.putD b v kvs) (putK ks l x) := by
  unfold ML.putD putK
  rw [r.hasD rb]
  cases ks.any fun kv => decide (kv.1 = l) with
  | true => rw [if_pos rfl]; exact r.repD rb rv
  | false => rw [if_neg Bool.false_ne_true]; exact r.snoc rb rv
theorem RV.key {b : VI} {y : V} (r : RV G ρ H b y) (hk : isKey b = true) : ∃ k, RK b k ∧ y = kV k := by
  cases r with
  | int i => exact ⟨.inl i, rfl, rfl⟩
  | str e => exact ⟨.inr _, rfl, by rw [e]; rfl⟩
  | _ => cases hk
end
def ixI (n : Nat) (i : Int) : Option Nat := if 0 ≤ i then (if i < n then some i.toNat else none) else if -(n : Int) ≤ i then some (i + n).toNat else none
def ixL (xs : List VI) (i : Int) : Option VI := match ixI xs.length i with
  | some j => xs[j]?
  | none => none
def fIx : Op2 := fun x y h => match x with
  | .tup xs => match y with
    | .int i => match ixL xs i with
      | some v => some (v, h)
      | none => none
    | _ => none
  | .ref n => match h[n]? with
    | some (.lst xs) => match y with
      | .int i => match ixL xs i with
        | some v => some (v, h)
        | none => none
      | _ => none
    | some (.scr xs) => match y with
      | .int i => match ixL xs i with
        | some v => some (v, h)
        | none => none
      | _ => none
    | some (.dic kvs) => match isKey y, getD y kvs with
      | true, some v => some (v, h)
      | _, _ => none
    | _ => none
  | _ => none
section
variable {G : Gx} {ρ : List Addr} {h : Hi} {H : Hp} {W : WX} {X : Cx} {e a b c o i v : Expr} {es : List Expr} {pos p pos' apos : Pos} {me mi mo ma mb mv : ME} {mr : MA}
theorem ixI_eq (n : Nat) (i : Int) : ixI n i = ixN n i := rfl
theorem RVs.ixL {xs : List VI} {ys : List V} {i : Int} {v : VI} (r : RVs G ρ H xs ys) (e : ML.ixL xs i = some v) : ∃ y, atI ys i = some y ∧ RV G ρ H v y := by
  unfold ML.ixL at e
  rw [ixI_eq, r.length] at e
  cases q : ixN ys.length i with
  | none => rw [q] at e; cases e
  | some j =>
    rw [q] at e
    obtain ⟨y, hy, ry⟩ := r.get e
    exact ⟨y, by unfold atI; rw [q]; exact hy, ry⟩
inductive IxK (X : Cx) (H : Hp) (x y : V) (Q : VK) : Prop
  | ix (r : R2) (h : IxR X r) (q : r x y H Q)
  | dict (a : Addr) (v : V) (e : x = .ref a) (g : DGet H a y (some v)) (q : Q v H)
theorem ix_kind (hG : G.K = X.K) {xi yi : VI} {x y : V} {Q : VK} (ag : Ag G ρ h H) (r1 : RV G ρ H xi x) (r2 : RV G ρ H yi y) (fi : FinO G ρ H (RV G) Q (fIx xi yi h)) : IxK X H x y Q := by
  unfold fIx at fi
  cases r1 with
  | @tup xs ys a t1 s1 =>
    cases r2 with
    | int j =>
      dsimp only at fi
      cases q : ixL xs j with
      | none => rw [q] at fi; exact fi.elim
      | some v =>
        rw [q] at fi
        obtain ⟨z, hz, rz⟩ := s1.ixL q
        exact .ix _ ix_tup ⟨a, ys, j, z, rfl, rfl, hG ▸ t1, hz, fi.ok ag rz⟩
    | _ => exact fi.elim
  | @ref n a e =>
    dsimp only at fi
    cases q1 : h[n]? with
    | none => rw [q1] at fi; exact fi.elim
    | some ob =>
      rw [q1] at fi
      cases ob with
      | lst xs =>
        obtain ⟨ys, hy, rs⟩ := ag.at_ q1 e
        cases r2 with
        | int j =>
          dsimp only at fi
          cases q : ixL xs j with
          | none => rw [q] at fi; exact fi.elim
          | some v =>
            rw [q] at fi
            obtain ⟨z, hz, rz⟩ := rs.ixL q
            exact .ix _ ix_list ⟨a, ys, j, z, rfl, rfl, .inl (.inl hy), hz, fi.ok ag rz⟩
        | _ => exact fi.elim
      | scr xs =>
        obtain ⟨ob, ys, hy, rs⟩ := ag.at_ q1 e
        cases r2 with
        | int j =>
          dsimp only at fi
          cases q : ixL xs j with
          | none => rw [q] at fi; exact fi.elim
          | some v =>
            rw [q] at fi
            obtain ⟨z, hz, rz⟩ := rs.ixL q
            exact .ix _ ix_list ⟨a, ys, j, z, rfl, rfl, .inl (.inr ⟨_, hy⟩), hz, fi.ok ag rz⟩
        | _ => exact fi.elim
      | dic kvs =>
        obtain ⟨ks, hy, rs⟩ := ag.at_ q1 e
        dsimp only at fi
        cases q2 : isKey yi with
        | false => rw [q2] at fi; exact fi.elim
        | true =>
          obtain ⟨k, rk, ey⟩ := r2.key q2
          have gd := rs.getD rk
          cases q3 : getD yi kvs with
          | none => rw [q2, q3] at fi; exact fi.elim
          | some v =>
            rw [q3] at gd
            rw [q2, q3] at fi
            obtain ⟨z, hz, rz⟩ := gd
            subst ey
            exact .dict a z rfl (by rw [← hz]; exact DGet.k hy) (fi.ok ag rz)
      | _ => exact fi.elim
  | _ => exact fi.elim
theorem me_ix (hG : G.K = X.K) (hu : X.A.units + 1 < cLine) (ha : PE X a (rdE G W ma)) (hb : PE X b (rdE G W mb)) (hs : PlainIx b) : PE X (.Subscript a b pos) (rdE G W (eBin fIx ma mb)) := by
  refine ⟨fun pins s σ H Q I ⟨ρ, σi, h, as, ag, fin⟩ => ?_⟩
  refine PyProof.Rows.Subscript_ (binT ha hb I (R := fun x y H2 => IxK X H2 x y Q) ?_ fun v u s2 x y H2 I2 rx ry q => ?_)
  · exact rdG_go as ag fin fun ρ1 H1 h1 x x' st as ag r f => rdG_go as ag f fun ρ2 H2 h2 y y' st2 as ag rs f => ix_kind hG ag (r.mono st2) rs (FinO.of f)
  · cases q with
    | ix r hr q => exact hr a b pins s2 σ H2 x y v u Q I2 rx ry q (hs _ _)
    | dict d w e g q =>
      subst e
      obtain rfl : v = Value.ref d := rx
      exact PyProof.Rows.tail_any (dict_typeIs I2 g) PySem.F.slot_dict_getitem.lookup (d_getItem hu I2 g ry fun w' s3 I3 rw' => ⟨w, H2, I3, rw', q⟩) (hs _ _)
end
end ML
end
section
namespace ML
open PySem L2
def putIx (o i v : VI) (h : Hi) : Option Hi := match o with
  | .ref n => match h[n]? with
    | some (.lst xs) => match i with
      | .int k => match ixI xs.length k with
        | some j => some (h.set n (.lst (xs.set j v)))
        | none => none
      | _ => none
    | some (.dic kvs) => match isKey i && small (kvs.length + 1) with
      | true => some (h.set n (.dic (putD i v kvs)))
      | false => none
    | _ => none
  | _ => none
def nxO (σ : Sg) : Option Hi → RS
  | some h => .nx σ h
  | none => .err
def gIx (o i : ME) : MG := fun v σ h => (o σ h).bindS σ fun x h1 => (i σ h1).bindS σ fun y h2 => nxO σ (putIx x y v h2)
def rdSet (G : Gx) : TSet := fun o i v H Q => ∃ ρ h oi ii vi, Ag G ρ h H ∧ RV G ρ H oi o ∧ RV G ρ H ii i ∧ RV G ρ H vi v ∧ match putIx oi ii vi h with
  | some h' => ∀ ρ' H', Stp G ρ H ρ' H' → Ag G ρ' h' H' → Q H'
  | none => False
section
variable {G : Gx} {ρ : List Addr} {h : Hi} {H : Hp} {W : WX} {X : Cx} {e a b c o i v : Expr} {es : List Expr} {pos p pos' apos cpos : Pos} {me mi mo ma mb mv : ME} {mr : MA}
theorem small_lt {n : Nat} (h : small (n + 1) = true) : n < sizeLine := small_ok h
theorem set_M (hu : X.A.units + 1 < cLine) : PSet X (rdSet G) := by
  intro pins s σ H o i v ov iv u Q I ro ri rv ⟨ρ, h, oi, ii, vi, ag, r1, r2, r3, q⟩
  unfold putIx at q
  cases r1 with
  | @ref n a e =>
    dsimp only at q
    cases q1 : h[n]? with
    | none => rw [q1] at q; exact q.elim
    | some ob =>
      rw [q1] at q
      cases ob with
      | lst xs =>
        obtain ⟨ys, hy, rs⟩ := ag.at_ q1 e
        cases r2 with
        | int k =>
          dsimp only at q
          cases q2 : ixI xs.length k with
          | none => rw [q2] at q; exact q.elim
          | some j =>
            rw [q2] at q
            have st : Stp G ρ H ρ (upd H a (.lst (ys.set j v))) := Stp.wr ag q1 e
            refine set_list pins s σ H _ _ _ ov iv u Q I ro ri rv ⟨a, ys, k, j, rfl, rfl, hy, by rw [← rs.length]; exact q2, ?_⟩
            exact q ρ _ st (ag.wr q1 e ⟨_, upd_same, (rs.mono st).set j (r3.mono st)⟩)
        | _ => exact q.elim
      | dic kvs =>
        obtain ⟨ks, hy, rs⟩ := ag.at_ q1 e
        dsimp only at q
        cases q2 : isKey ii && small (kvs.length + 1) with
        | false => rw [q2] at q; exact q.elim
        | true =>
          rw [q2] at q
          obtain ⟨q3, q4⟩ := Bool.and_eq_true_iff.mp q2
          obtain ⟨k, rk, ey⟩ := r2.key q3
          subst ey
          have st : Stp G ρ H ρ (upd H a (.dK (putK ks k v))) := Stp.wr ag q1 e
          refine set_dict hu pins s σ H _ _ _ ov iv u Q I ro ri rv ⟨a, _, rfl, DPut.k hy (by rw [← rs.length]; exact small_lt q4), ?_⟩
          exact q ρ _ st (ag.wr q1 e ⟨_, upd_same, RKs.putD rk (r3.mono st) (rs.mono st)⟩)
      | _ => exact q.elim
  | _ => exact q.elim
theorem mg_ix (hu : X.A.units + 1 < cLine) (ho : PE X o (rdE G W mo)) (hi : PE X i (rdE G W mi))
    (ha : ∀ v, assign (.Subscript o i pos) X.env v = (do
      let ov ← holding [v] (eval o X.env)
      let iv ← holding [v, ov] (eval i X.env)
      standAt pos
      holding [v, ov, iv] (setItem ov iv v)
      release [v, ov, iv] []) := by intro _; rfl) : PG X (.Subscript o i pos) (rdGt G W (gIx mo mi)) :=
  ⟨fun pins s σ H v u Q I r ⟨ρ, σi, h, vi, as, ag, rv, f⟩ => (pg_sub ho hi (set_M (G := G) hu) ha).run pins s σ H v u Q I r
    (rdS_go as ag f fun ρ1 H1 h1 x x' st as ag r1 f => rdS_go as ag f fun ρ2 H2 h2 y y' st2 as ag r2 f => ⟨ρ2, h2, x, y, vi, ag, r1.mono st2, r2, rv.mono (st.trans st2), by
      cases q : putIx x y vi h2 with
      | none => rw [q] at f; exact f
      | some h' => rw [q] at f; exact fun ρ' H' s a => f ρ' H' σ s a (as.mono s)⟩)⟩
theorem onlyNx_bindS {α : Type} {r : Res α} {σ : Sg} {k : α → Hi → RS} (hk : ∀ x h, (∃ σ' h', k x h = .nx σ' h') ∨ (∃ c n σ' h', k x h = .ex c n σ' h') ∨ k x h = .err) : (∃ σ' h', r.bindS σ k = .nx σ' h') ∨ (∃ c n σ' h', r.bindS σ k = .ex c n σ' h') ∨ r.bindS σ k = .err := by
  cases r with
  | ok a h => exact hk a h
  | ex c n h => exact .inr (.inl ⟨c, n, σ, h, rfl⟩)
  | err => exact .inr (.inr rfl)
theorem onlyNx_ix (o i : ME) : OnlyNx (gIx o i) := fun v σ h => onlyNx_bindS fun x h1 => onlyNx_bindS fun y h2 => by
  cases putIx x y v h2 with
  | none => exact .inr (.inr rfl)
  | some h' => exact .inl ⟨σ, h', rfl⟩
def gFld (cs : List Nat) (f : S) (o : ME) : MG := fun y σ h => (o σ h).bindS σ fun x h2 => match x with
  | .ref n => match h2[n]? with
    | some (.ins c fs) => match cs.contains c && Nat.blt fs.length 1000 with
      | true => .nx σ (h2.set n (.ins c (setF f y fs)))
      | false => .err
    | _ => .err
  | _ => .err
def sPut (o i v : ME) : MS := fun σ h => (v σ h).bindS σ fun z h1 => (o σ h1).bindS σ fun x h2 => (i σ h2).bindS σ fun y h3 => nxO σ (putIx x y z h3)
def eGet2 (d k x : ME) : ME := fun σ h => (d σ h).bind fun a h1 => match a with
  | .ref n => match h1[n]? with
    | some (.dic _) => (k σ h1).bind fun y h2 => (x σ h2).bind fun z h3 => match h3[n]?, isKey y with
      | some (.dic kvs), true => .ok (match getD y kvs with | some v => v | none => z) h3
      | _, _ => .err
    | _ => .err
  | _ => .err
def aPairs : List (ME × ME) → Sg → Hi → Res (List (VI × VI))
  | [], _, h => .ok [] h
  | (k, v) :: r, σ, h => (k σ h).bind fun x h1 => (v σ h1).bind fun y h2 => (aPairs r σ h2).bind fun ps h3 => .ok ((x, y) :: ps) h3
def putAll (ps : List (VI × VI)) (d : List (VI × VI)) : List (VI × VI) := match ps with
  | [] => d
  | (k, v) :: r => putAll r (putD k v d)
def keysOk : List (VI × VI) → Bool
  | [] => true
  | (k, _) :: r => isKey k && keysOk r
def eDisp (ps : List (ME × ME)) : ME := fun σ h => (aPairs ps σ (h ++ [.dic []])).bind fun kvs h1 => match h1[h.length]? with
  | some (.dic []) => match keysOk kvs && Nat.ble kvs.length 15 with
    | true => .ok (.ref h.length) (h1.set h.length (.dic (putAll kvs [])))
    | false => .err
  | _ => .err
inductive RPs (G : Gx) (ρ : List Addr) (H : Hp) : List (VI × VI) → List (V × V) → Prop
  | nil : RPs G ρ H [] []
  | cons {a b : VI} {x y : V} {as : List (VI × VI)} {xs : List (V × V)} (h1 : RV G ρ H a x) (h2 : RV G ρ H b y) (t : RPs G ρ H as xs) : RPs G ρ H ((a, b) :: as) ((x, y) :: xs)
theorem RPs.mono {ρ' : List Addr} {H' : Hp} (st : Stp G ρ H ρ' H') : ∀ {as : List (VI × VI)} {xs : List (V × V)}, RPs G ρ H as xs → RPs G ρ' H' as xs
  | _, _, .nil => .nil
  | _, _, .cons h1 h2 t => .cons (h1.mono st) (h2.mono st) (RPs.mono st t)
theorem RPs.keys : ∀ {as : List (VI × VI)} {xs : List (V × V)}, RPs G ρ H as xs → keysOk as = true → ∃ kvs : List (Key × V), xs = kvs.map (fun kv => (kV kv.1, kv.2)) ∧ RKs G ρ H as kvs
  | _, _, .nil, _ => ⟨[], rfl, .nil⟩
  | _, _, .cons h1 h2 t, k => by
    obtain ⟨k1, k2⟩ := Bool.and_eq_true_iff.mp k
    obtain ⟨l, rk, e⟩ := h1.key k1
    obtain ⟨kvs, e2, r⟩ := RPs.keys t k2
    subst e e2
    exact ⟨(l, _) :: kvs, rfl, .cons rk h2 r⟩
theorem RKs.putAll : ∀ {as : List (VI × VI)} {kvs : List (Key × V)} {d : List (VI × VI)} {ks : List (Key × V)}, RKs G ρ H as kvs → RKs G ρ H d ks → RKs G ρ H (ML.putAll as d) (mergeK ks kvs)
  | _, _, _, _, .nil, r => r
  | _, _, _, _, .cons (k := k) (x := x) e h t, r => by
    unfold ML.putAll
    have q := RKs.putAll t (RKs.putD e h r)
    exact q
def eDisp0 : ME := fun _ h => .ok (.ref h.length) (h ++ [.dic []])
end
end ML
end
section
namespace ML
open PySem L2
inductive Itm where
  | tup (xs : List VI) | lst (n : Nat) | rng (lo : Int) (k : Nat) | enl (n : Nat) | zip (a b : Nat) | zlt (a : Nat) (ys : List VI)
def listAt (n : Nat) (h : Hi) : Option (List VI) := match h[n]? with
  | some (.lst xs) => some xs
  | some (.scr xs) => some xs
  | _ => none
def Itm.nxt (it : Itm) (i : Nat) (h : Hi) : Option (Option VI) := match it with
  | .tup xs => some xs[i]?
  | .lst n => match listAt n h with
    | some xs => some xs[i]?
    | none => none
  | .rng lo k => some (match Nat.blt i k with
    | true => some (.int (lo + i))
    | false => none)
  | .enl n => match listAt n h with
    | some xs => some (match xs[i]? with
      | some x => some (.tup [.int i, x])
      | none => none)
    | none => none
  | .zip a b => match listAt a h, listAt b h with
    | some xs, some ys => some (match xs[i]?, ys[i]? with
      | some x, some y => some (.tup [x, y])
      | _, _ => none)
    | _, _ => none
  | .zlt a ys => match listAt a h with
    | some xs => match Nat.ble i xs.length && Nat.ble i ys.length with
      | true => some (match xs[i]?, ys[i]? with
        | some x, some y => some (.tup [x, y])
        | _, _ => none)
      | false => none
    | none => none
def Itm.fuel (it : Itm) (h : Hi) : Nat := match it with
  | .tup xs => xs.length
  | .lst n => match listAt n h with
    | some xs => xs.length
    | none => 0
  | .rng _ k => k
  | .enl n => match listAt n h with
    | some xs => xs.length
    | none => 0
  | .zip a _ => match listAt a h with
    | some xs => xs.length
    | none => 0
  | .zlt a _ => match listAt a h with
    | some xs => xs.length
    | none => 0
abbrev MI := Sg → Hi → Res Itm
def turns (it : Itm) (g : MG) (body : MS) : Nat → Nat → MS
  | 0, i, σ, h => match it.nxt i h with
    | some none => .nx σ h
    | _ => .err
  | k + 1, i, σ, h => match it.nxt i h with
    | some none => .nx σ h
    | some (some x) => (g x σ h).andThen fun σ1 h1 => match body σ1 h1 with
      | .nx σ2 h2 => turns it g body k (i + 1) σ2 h2
      | .ct σ2 h2 => turns it g body k (i + 1) σ2 h2
      | .bk σ2 h2 => .nx σ2 h2
      | r => r
    | none => .err
def sFor (mi : MI) (g : MG) (body : MS) : MS := fun σ h => (mi σ h).bindS σ fun it h1 => turns it g body (it.fuel h1) 0 σ h1
def ItOk (G : Gx) (ρ : List Addr) (H : Hp) (J : It) (it : Itm) : Prop := ∀ (i : Nat) (ρ1 : List Addr) (h1 : Hi) (H1 : Hp), Stp G ρ H ρ1 H1 → Ag G ρ1 h1 H1 → match it.nxt i h1 with
  | none => True
  | some none => J.stop i H1
  | some (some v) => J.go i H1 ∧ ∀ x H2, J.yld i H1 x H2 → Stp G ρ1 H1 ρ1 H2 ∧ Ag G ρ1 h1 H2 ∧ RV G ρ1 H2 v x
def rdI (G : Gx) (W : WX) (mi : MI) : TI := fun σ H R => ∃ ρ σi h, AgS G ρ H σi σ ∧ Ag G ρ h H ∧ match mi σi h with
  | .ok it h1 => ∀ ρ1 H1 J, Stp G ρ H ρ1 H1 → Ag G ρ1 h1 H1 → ItOk G ρ1 H1 J it → R J H1
  | .ex c n h1 => ∀ ρ' H' d C, Stp G ρ H ρ' H' → Ag G ρ' h1 H' → ρ'[n]? = some d → G.ct c = some C → W (.ref C) (some d) σ H'
  | .err => False
section
variable {G : Gx} {W : WX} {X : Cx} {ρ ρ1 : List Addr} {H H1 : Hp} {σ : L2.St} {σi : Sg} {h : Hi} {D : Ends} {tg iter e : Expr} {body : List Stmt} {pos p : Pos} {me : ME} {mi : MI} {mg : MG} {mb : MS} {ma : MA}
theorem rdI_go {k : Itm → Hi → RS} {N : It → Hp → Prop} (as : AgS G ρ H σi σ) (a : Ag G ρ h H) (f : FinS G ρ H D W ((mi σi h).bindS σi k))
    (nx : ∀ ρ1 H1 h1 it J, Stp G ρ H ρ1 H1 → AgS G ρ1 H1 σi σ → Ag G ρ1 h1 H1 → ItOk G ρ1 H1 J it → FinS G ρ1 H1 D W (k it h1) → N J H1) : rdI G W mi σ H N := by
  refine ⟨ρ, σi, h, as, a, ?_⟩
  cases e : mi σi h with
  | err => rw [e] at f; exact f
  | ex c n h' =>
    rw [e] at f
    exact fun ρ' H' d C st a' hn hc => f ρ' H' d C σ st a' (as.mono st) hn hc
  | ok it h' =>
    rw [e] at f
    exact fun ρ' H' J st a' io => nx ρ' H' h' it J st (as.mono st) a' io (FinS.later st f)
theorem ItOk.later {J : It} {it : Itm} (st : Stp G ρ H ρ1 H1) (o : ItOk G ρ H J it) : ItOk G ρ1 H1 J it := fun i ρ2 h2 H2 s a => o i ρ2 h2 H2 (st.trans s) a
theorem ms_for (hp : PassesOwn (model X.prog X.w) X.A X.env X.xe) (hc : X.calm = true) (hi : PI X tg iter (rdI G W mi)) (hg : PG X tg (rdGt G W mg)) (on : OnlyNx mg) (hb : PSs X body (rdS G W mb))
    (hs : ∀ x, foldedSetIterable iter X.env x = pure x := by intro _; rfl) : PS X (.For tg iter body [] pos) (rdS G W (sFor mi mg mb)) :=
  PS.imp' (ps_for hp hc hi hg hb hs) fun D σ H ⟨ρ, σi, h, as, ag, fin⟩ => rdI_go as ag fin fun ρ1 H1 h1 it J st as1 ag1 io fi => by
    refine ⟨fun i m σ2 H2 => ∃ ρ2 σi2 h2, Stp G ρ1 H1 ρ2 H2 ∧ AgS G ρ2 H2 σi2 σ2 ∧ Ag G ρ2 h2 H2 ∧ FinS G ρ2 H2 D W (turns it mg mb m i σi2 h2), ⟨_, ρ1, σi, h1, .refl, as1, ag1, fi⟩, ?_⟩
    rintro i m σ2 H2 ⟨ρ2, σi2, h2, st2, as2, ag2, f2⟩
    have ok := io i ρ2 h2 H2 st2 ag2
    cases q : it.nxt i h2 with
    | none =>
      cases m with
      | zero => unfold turns at f2; rw [q] at f2; exact f2.elim
      | succ k => unfold turns at f2; rw [q] at f2; exact f2.elim
    | some o =>
      rw [q] at ok
      cases o with
      | none =>
        refine .inl ⟨ok, ?_⟩
        cases m with
        | zero => unfold turns at f2; rw [q] at f2; exact f2.nx ag2 as2
        | succ k => unfold turns at f2; rw [q] at f2; exact f2.nx ag2 as2
      | some v =>
        cases m with
        | zero => unfold turns at f2; rw [q] at f2; exact f2.elim
        | succ k =>
          unfold turns at f2
          rw [q] at f2
          dsimp only at f2
          obtain ⟨go, yl⟩ := ok
          refine .inr ⟨go, fun σ' H' => ∃ ρ2 σi2 h2, Stp G ρ1 H1 ρ2 H' ∧ AgS G ρ2 H' σi2 σ' ∧ Ag G ρ2 h2 H' ∧ FinS G ρ2 H' D W (turns it mg mb k (i + 1) σi2 h2), fun σ' H' w => ⟨k, Nat.lt_succ_self k, w⟩, fun x H3 y => ?_⟩
          obtain ⟨st3, ag3, rv⟩ := yl x H3 y
          refine ⟨ρ2, σi2, h2, v, as2.mono st3, ag3, rv, ?_⟩
          have f3 := FinS.later st3 f2
          have st13 := st2.trans st3
          rcases on v σi2 h2 with ⟨σ4, h4, e⟩ | ⟨c, n, σ4, h4, e⟩ | e
          · rw [e] at f3 ⊢
            refine fun ρ4 H4 σ5 s4 a4 as4 => ⟨ρ4, σ4, h4, as4, a4, ?_⟩
            have f4 := FinS.later s4 f3
            have st14 := st13.trans s4
            dsimp only [RS.andThen] at f4
            cases e5 : mb σ4 h4 with
            | nx σ6 h6 => rw [e5] at f4; exact fun ρ' H' σ' s a as => ⟨ρ', σ6, h6, st14.trans s, as, a, FinS.later s f4⟩
            | ct σ6 h6 => rw [e5] at f4; exact fun ρ' H' σ' s a as => ⟨ρ', σ6, h6, st14.trans s, as, a, FinS.later s f4⟩
            | bk σ6 h6 => rw [e5] at f4; exact f4
            | rt v6 h6 => rw [e5] at f4; exact f4
            | ex c6 n6 σ6 h6 => rw [e5] at f4; exact f4
            | err => rw [e5] at f4; exact f4
          · rw [e] at f3 ⊢; exact f3
          · rw [e] at f3 ⊢; exact f3
theorem PI.dispatch {t : TI} (h : ∀ σ H Q, t σ H Q → ∃ t', PI X tg iter t' ∧ t' σ H Q) : PI X tg iter t := ⟨fun pins s σ H Q I q => let ⟨_, p, q'⟩ := h σ H Q q; p.run pins s σ H Q I q'⟩
theorem PI.imp' {t t' : TI} (h : PI X tg iter t) (i : ∀ σ H Q, t' σ H Q → t σ H Q) : PI X tg iter t' := ⟨fun pins s σ H Q I q => h.run pins s σ H Q I (i σ H Q q)⟩
def seqOf : VI → Hi → Option Itm := fun v h => match v with
  | .tup xs => some (.tup xs)
  | .ref n => match listAt n h with
    | some _ => some (.lst n)
    | none => none
  | _ => none
def ofI : Option Itm → Hi → Res Itm
  | some it, h => .ok it h
  | none, _ => .err
def iSeq (e : ME) : MI := fun σ h => (e σ h).bind fun v h1 => ofI (seqOf v h1) h1
theorem listAt_ok (K : PySem.W.Frag) (ag : Ag G ρ h H) {n : Nat} {a : Addr} {xs : List VI} (e : listAt n h = some xs) (p : ρ[n]? = some a) : ∃ ys, SqL K H a ys ∧ RVs G ρ H xs ys := by
  unfold listAt at e
  cases q : h[n]? with
  | none => rw [q] at e; cases e
  | some ob =>
    rw [q] at e
    cases ob with
    | lst zs => cases e; obtain ⟨ys, hy, rs⟩ := ag.at_ q p; exact ⟨ys, .inl (.inl hy), rs⟩
    | scr zs => cases e; obtain ⟨ob, ys, hy, rs⟩ := ag.at_ q p; exact ⟨ys, .inl (.inr ⟨_, hy⟩), rs⟩
    | _ => cases e
theorem itOk_lst (hG : G.K = X.K) {n : Nat} {a : Addr} (p : ρ[n]? = some a) : ItOk G ρ H (Itl X.K a) (.lst n) := fun i ρ1 h1 H1 st ag => by
  unfold Itm.nxt
  dsimp only
  cases q : listAt n h1 with
  | none => trivial
  | some xs =>
    obtain ⟨ys, hy, rs⟩ := listAt_ok X.K ag q (st.pre _ _ p)
    dsimp only
    cases q2 : xs[i]? with
    | none =>
      have : xs.length ≤ i := List.getElem?_eq_none_iff.mp q2
      exact ⟨ys, hy, by rw [← rs.length]; exact this⟩
    | some v =>
      obtain ⟨y, hy2, ry⟩ := rs.get q2
      refine ⟨⟨ys, y, hy, hy2⟩, fun x H2 ⟨e, k⟩ => ?_⟩
      subst e
      have := k ys hy
      rw [hy2] at this
      cases this
      exact ⟨.refl, ag, ry⟩
theorem itOk_tup (hG : G.K = X.K) {a : Addr} {xs : List VI} {ys : List V} (t : SqT G.K H a ys) (rs : RVs G ρ H xs ys) : ItOk G ρ H (Itt X.K a) (.tup xs) := fun i ρ1 h1 H1 st ag => by
  unfold Itm.nxt
  have t1 := st.tup _ _ t
  rw [hG] at t1
  have rs1 := rs.mono st
  dsimp only
  cases q2 : xs[i]? with
  | none =>
    have : xs.length ≤ i := List.getElem?_eq_none_iff.mp q2
    exact ⟨ys, t1, by rw [← rs.length]; exact this⟩
  | some v =>
    obtain ⟨y, hy2, ry⟩ := rs1.get q2
    refine ⟨⟨ys, y, t1, hy2⟩, fun x H2 ⟨e, k⟩ => ?_⟩
    subst e
    have := k ys t1
    rw [hy2] at this
    cases this
    exact ⟨.refl, ag, ry⟩
theorem itOk_rng {lo : Int} {k : Nat} : ItOk G ρ H (Itr lo k) (.rng lo k) := fun i ρ1 h1 H1 st ag => by
  unfold Itm.nxt
  dsimp only
  cases q : Nat.blt i k with
  | true => exact ⟨Nat.le_of_ble_eq_true q, fun x H2 ⟨e, z⟩ => by subst e z; exact ⟨.refl, ag, .int _⟩⟩
  | false =>
    refine Nat.le_of_not_lt fun z => ?_
    have : Nat.blt i k = true := Nat.ble_eq_true_of_le z
    rw [q] at this
    cases this
theorem mi_seq (hG : G.K = X.K) (he : PE X e (rdE G W me)) : PI X tg e (rdI G W (iSeq me)) := PI.dispatch fun σ H R ⟨ρ, σi, h, as, ag, fin⟩ => by
  unfold iSeq at fin
  cases q : me σi h with
  | err => rw [q] at fin; exact fin.elim
  | ex c n h1 =>
    rw [q] at fin
    exact ⟨_, pi_list he, ρ, σi, h, as, ag, by rw [q]; exact fin⟩
  | ok v h1 =>
    rw [q] at fin
    dsimp only [Res.bind] at fin
    cases v with
    | tup xs =>
      refine ⟨_, pi_tup he, ρ, σi, h, as, ag, ?_⟩
      rw [q]
      intro ρ1 H1 x st a1 r
      cases r with
      | @tup _ ys a t rs => exact ⟨a, rfl, ⟨ys, hG ▸ t⟩, fin ρ1 H1 _ st a1 (itOk_tup hG t rs)⟩
    | ref n =>
      unfold seqOf at fin
      dsimp only at fin
      cases q2 : listAt n h1 with
      | none => rw [q2] at fin; exact fin.elim
      | some xs =>
        rw [q2] at fin
        refine ⟨_, pi_list he, ρ, σi, h, as, ag, ?_⟩
        rw [q]
        intro ρ1 H1 x st a1 r
        cases r with
        | @ref _ a p =>
          obtain ⟨ys, hy, rs⟩ := listAt_ok X.K a1 q2 p
          exact ⟨a, rfl, ⟨ys, hy⟩, fin ρ1 H1 _ st a1 (itOk_lst hG p)⟩
    | _ => exact fin.elim
def rngOf : List VI → Option Itm
  | [.int j] => match decide (-(2 ^ 62) ≤ j) && decide (j < 2 ^ 62) with
    | true => some (.rng 0 j.toNat)
    | false => none
  | [.int i, .int j] => match (decide (-(2 ^ 62) ≤ i) && decide (i < 2 ^ 62)) && (decide (-(2 ^ 62) ≤ j) && decide (j < 2 ^ 62)) with
    | true => some (.rng i (j - i).toNat)
    | false => none
  | _ => none
def iRng (a : MA) : MI := fun σ h => (a σ h).bind fun vs h1 => ofI (rngOf vs) h1
theorem mi_rng1 {a : Expr} {mr : MA} (hg : Gl X "range") (hm : X.mg "range" = none) (ha : PA X [a] (rdA G W mr)) (hs : starEach [a] X.env = [(false, eval a X.env)] := by rfl) (one : ∀ σ h vs h1, mr σ h = .ok vs h1 → vs.length = 1) : PI X tg (.Call (.Name "range" p) [a] [] pos) (rdI G W (iRng mr)) :=
  PI.imp' (pi_range1 hg hm ha hs) fun σ H R ⟨ρ, σi, h, as, ag, fin⟩ => by
    refine ⟨ρ, σi, h, as, ag, ?_⟩
    unfold iRng at fin
    cases q : mr σi h with
    | err => rw [q] at fin; exact fin.elim
    | ex c n h1 => rw [q] at fin; exact fin
    | ok vs h1 =>
      rw [q] at fin
      have l := one _ _ _ _ q
      intro ρ1 H1 xs st a1 r
      match vs, l, r, fin with
      | [v], _, .cons r .nil, fin =>
        cases r with
        | int j =>
          dsimp only [Res.bind, rngOf] at fin
          cases z : decide (-(2 ^ 62) ≤ j) && decide (j < 2 ^ 62) with
          | false => rw [z] at fin; exact fin.elim
          | true =>
            rw [z] at fin
            obtain ⟨z1, z2⟩ := Bool.and_eq_true_iff.mp z
            exact ⟨j, rfl, of_decide_eq_true z1, of_decide_eq_true z2, fin ρ1 H1 _ st a1 itOk_rng⟩
        | _ => exact fin.elim
end
end ML
end
section
namespace ML
open PySem L2
inductive Tgt where
  | one (i : Nat) | many (is : List Nat)
def putMany : List Nat → List VI → Sg → Option Sg
  | [], [], σ => some σ
  | i :: is, x :: xs, σ => putMany is xs (σ.set i (some x))
  | _, _, _ => none
def Tgt.put (t : Tgt) (v : VI) (σ : Sg) : Option Sg := match t with
  | .one i => some (σ.set i (some v))
  | .many is => match v with
    | .tup xs => putMany is xs σ
    | _ => none
def Tgt.slots : Tgt → List Nat
  | .one i => [i]
  | .many is => is
def gTgt (t : Tgt) : MG := fun v σ h => match t.put v σ with
  | some σ' => .nx σ' h
  | none => .err
def gNames : List Nat → TGs
  | [] => gNil
  | i :: is => gCons (gName i) (gNames is)
def Tgt.tg (K : PySem.W.Frag) : Tgt → TG
  | .one i => gName i
  | .many is => gTup K is.length (gNames is)
def wipeM (σ : Sg) : List Nat → Sg
  | [] => σ
  | i :: r => (wipeM σ r).set i none
section
variable {G : Gx} {ρ : List Addr} {H : Hp} {h : Hi} {X : Cx} {W : WX} {σ : L2.St} {σi : Sg}
theorem names_put : ∀ {is : List Nat} {xs : List VI} {ys : List V} {σi σ2 : Sg} {σ : L2.St} {N : L2.St → Hp → Prop}, AgS G ρ H σi σ → RVs G ρ H xs ys → putMany is xs σi = some σ2 →
    (∀ σ', AgS G ρ H σ2 σ' → (∀ j, j ∉ is → σ'[j]? = σ[j]?) → σ'.length = σ.length → N σ' H) → gNames is ys σ H N
  | [], [], _, σi, σ2, σ, N, as, .nil, e, k => by
    cases e
    exact ⟨rfl, k σ as (fun _ _ => rfl) rfl⟩
  | i :: is, x :: xs, _, σi, σ2, σ, N, as, .cons r rs, e, k => by
    refine ⟨_, _, rfl, ?_⟩
    show gNames is _ _ H N
    refine names_put (as.set r i) rs e fun σ' as' hj hl => k σ' as' (fun j hj' => ?_) (by rw [hl, List.length_set])
    rw [hj j (fun z => hj' (List.mem_cons_of_mem _ z))]
    rw [List.getElem?_set_ne (fun z => hj' (by rw [← z]; exact List.mem_cons_self))]
  | [], _ :: _, _, _, _, _, _, _, _, e, _ => by cases e
  | _ :: _, [], _, _, _, _, _, _, _, e, _ => by cases e
theorem tgt_put (hG : G.K = X.K) {t : Tgt} {v : VI} {x : V} {σ2 : Sg} {N : L2.St → Hp → Prop} (as : AgS G ρ H σi σ) (r : RV G ρ H v x) (e : t.put v σi = some σ2)
    (k : ∀ σ', AgS G ρ H σ2 σ' → (∀ j, j ∉ t.slots → σ'[j]? = σ[j]?) → σ'.length = σ.length → N σ' H) : t.tg X.K x σ H N := by
  cases t with
  | one i =>
    cases e
    exact k _ (as.set r i) (fun j hj => List.getElem?_set_ne (fun z => hj (by rw [← z]; exact List.mem_cons_self))) (List.length_set ..)
  | many is =>
    cases r with
    | @tup xs ys a t rs =>
      have e' : putMany is xs σi = some σ2 := e
      refine ⟨a, ys, rfl, hG ▸ t, ?_, names_put as rs e' k⟩
      have : ∀ {is : List Nat} {xs : List VI} {σi σ2 : Sg}, putMany is xs σi = some σ2 → xs.length = is.length := fun {is} => by
        induction is with
        | nil => intro xs σi σ2 q; cases xs with | nil => rfl | cons _ _ => cases q
        | cons i r ih => intro xs σi σ2 q; cases xs with | nil => cases q | cons y ys => rw [List.length_cons, List.length_cons, ih q]
      rw [← rs.length]
      exact this e'
    | _ => cases e
theorem AgS.wipe : ∀ (vs : List Nat) {σi : Sg} {σ : L2.St}, AgS G ρ H σi σ → AgS G ρ H (wipeM σi vs) (L2.wipe σ vs)
  | [], _, _, a => a
  | i :: r, _, _, a => (AgS.wipe r a).lose i none
theorem wipe_in : ∀ (vs : List Nat) (σ : L2.St) (j : Nat), j ∈ vs → (L2.wipe σ vs)[j]? = if j < σ.length then some none else none
  | i :: r, σ, j, hj => by
    show ((L2.wipe σ r).set i none)[j]? = _
    rw [List.getElem?_set, L2.wipe_length]
    by_cases z : i = j
    · subst z
      rw [if_pos rfl]
    · rw [if_neg z]
      exact wipe_in r σ j ((List.mem_cons.mp hj).resolve_left fun w => z w.symm)
theorem wipe_eq (vs : List Nat) {σ τ : L2.St} (hl : τ.length = σ.length) (k : ∀ j, j ∉ vs → τ[j]? = σ[j]?) : L2.wipe τ vs = L2.wipe σ vs := by
  refine List.ext_getElem? fun j => ?_
  by_cases z : j ∈ vs
  · rw [wipe_in vs τ j z, wipe_in vs σ j z, hl]
  · rw [L2.wipe_out z, L2.wipe_out z]
    exact k j z
end
def turnsC (it : Itm) (t : Tgt) (vs : List Nat) (tt : MT) (el : ME) (D : Nat) (σ : Sg) : Nat → Nat → Hi → Option Hi
  | 0, i, h => match it.nxt i h with
    | some none => some h
    | _ => none
  | k + 1, i, h => match it.nxt i h with
    | some none => some h
    | some (some x) => match t.put x (wipeM σ vs) with
      | some σ2 => match tt σ2 h with
        | .ok true h2 => match el σ2 h2 with
          | .ok y h3 => match h3[D]? with
            | some (.lst acc) => match small (acc.length + 1) with
              | true => turnsC it t vs tt el D σ k (i + 1) (h3.set D (.lst (acc ++ [y])))
              | false => none
            | _ => none
          | _ => none
        | .ok false h2 => turnsC it t vs tt el D σ k (i + 1) h2
        | _ => none
      | none => none
    | none => none
def tYesM : MT := fun _ h => .ok true h
def eLc (mi : MI) (t : Tgt) (vs : List Nat) (tt : MT) (el : ME) : ME := fun σ h => (mi σ h).bind fun it h1 => match turnsC it t vs tt el h1.length σ (it.fuel h1) 0 (h1 ++ [.lst []]) with
  | some h2 => .ok (.ref h1.length) h2
  | none => .err
abbrev W0 : WX := fun _ _ _ _ => False
section
variable {G : Gx} {W : WX} {X : Cx} {ρ ρ1 : List Addr} {H H1 : Hp} {h : Hi} {tg iter elt : Expr} {ifs : List Expr} {scope : Scope} {own : List (Str × Nat)} {pos : Pos} {mi : MI} {mt : MT} {ml : ME} {t : Tgt}
theorem rdI_goE {α β : Type} {R' : List Addr → Hp → α → β → Prop} {Q : β → Hp → Prop} {k : Itm → Hi → Res α} {N : It → Hp → Prop} {σ : L2.St} {σi : Sg} (as : AgS G ρ H σi σ) (a : Ag G ρ h H) (f : FinG G ρ H R' Q (fun c d H' => W c d σ H') ((mi σi h).bind k))
    (nx : ∀ ρ1 H1 h1 it J, Stp G ρ H ρ1 H1 → AgS G ρ1 H1 σi σ → Ag G ρ1 h1 H1 → ItOk G ρ1 H1 J it → FinG G ρ1 H1 R' Q (fun c d H' => W c d σ H') (k it h1) → N J H1) : rdI G W mi σ H N := by
  refine ⟨ρ, σi, h, as, a, ?_⟩
  cases e : mi σi h with
  | err => rw [e] at f; exact f
  | ex c n h' =>
    rw [e] at f
    exact fun ρ' H' d C st a' hn hc => f ρ' H' d C st a' hn hc
  | ok it h' =>
    rw [e] at f
    exact fun ρ' H' J st a' io => nx ρ' H' h' it J st (as.mono st) a' io (FinG.later st f)
theorem lc_rd (hG : G.K = X.K) (vs : List Nat) (hsl : ∀ j ∈ t.slots, j ∈ vs) {tt : TT} (htt : ∀ σ H Q, rdT G W0 mt σ H Q → tt σ H Q) : ∀ σ H Q, rdE G W (eLc mi t vs mt ml) σ H Q → tLc (rdI G W mi) (t.tg X.K) tt (rdE G W0 ml) vs σ H Q := fun σ H Q ⟨ρ, σi, h, as, ag, fin⟩ =>
  rdI_goE as ag fin fun ρ1 H1 h1 it J st as1 ag1 io fi D hD => by
    have st0 : Stp G ρ1 H1 (ρ1 ++ [D]) (upd H1 D (.lst [])) := Stp.new hD
    have ag0 : Ag G (ρ1 ++ [D]) (h1 ++ [.lst []]) (upd H1 D (.lst [])) := ag1.new hD ⟨[], upd_same, .nil⟩
    have hx : (ρ1 ++ [D])[h1.length]? = some D := by rw [← ag1.len]; simp
    cases e0 : turnsC it t vs mt ml h1.length σi (it.fuel h1) 0 (h1 ++ [.lst []]) with
    | none => rw [e0] at fi; exact fi.elim
    | some hf =>
      rw [e0] at fi
      refine ⟨fun i m H2 => ∃ ρ2 h2, Stp G (ρ1 ++ [D]) (upd H1 D (.lst [])) ρ2 H2 ∧ Ag G ρ2 h2 H2 ∧ turnsC it t vs mt ml h1.length σi m i h2 = some hf, ⟨_, ρ1 ++ [D], _, .refl, ag0, e0⟩, ?_⟩
      rintro i m H2 ⟨ρ2, h2, st2, ag2, f2⟩
      have ok := io i ρ2 h2 H2 (st0.trans st2) ag2
      have as2 : AgS G ρ2 H2 σi σ := as1.mono (st0.trans st2)
      have fin' : ∀ {h}, hf = h → Ag G ρ2 h H2 → Q (.ref D) H2 := fun {h} e a => by
        subst e
        exact fi ρ2 H2 _ (st0.trans st2) a (.ref (st2.pre _ _ hx))
      cases q : it.nxt i h2 with
      | none =>
        cases m with
        | zero => unfold turnsC at f2; rw [q] at f2; cases f2
        | succ k => unfold turnsC at f2; rw [q] at f2; cases f2
      | some o =>
        rw [q] at ok
        cases o with
        | none =>
          refine .inl ⟨ok, ?_⟩
          cases m with
          | zero => unfold turnsC at f2; rw [q] at f2; exact fin' (Option.some.inj f2).symm ag2
          | succ k => unfold turnsC at f2; rw [q] at f2; exact fin' (Option.some.inj f2).symm ag2
        | some v =>
          cases m with
          | zero => unfold turnsC at f2; rw [q] at f2; cases f2
          | succ k =>
            unfold turnsC at f2
            rw [q] at f2
            dsimp only at f2
            obtain ⟨go, yl⟩ := ok
            refine .inr ⟨go, fun H' => ∃ ρ2 h2, Stp G (ρ1 ++ [D]) (upd H1 D (.lst [])) ρ2 H' ∧ Ag G ρ2 h2 H' ∧ turnsC it t vs mt ml h1.length σi k (i + 1) h2 = some hf, fun H' w => ⟨k, Nat.lt_succ_self k, w⟩, fun x H3 y => ?_⟩
            obtain ⟨st3, ag3, rv⟩ := yl x H3 y
            cases e1 : t.put v (wipeM σi vs) with
            | none => rw [e1] at f2; cases f2
            | some σ4 =>
              rw [e1] at f2
              dsimp only at f2
              refine tgt_put hG ((as2.mono st3).wipe vs) rv e1 fun σ5 as5 hj hl => ?_
              refine ⟨wipe_eq vs hl (fun j hn => hj j fun z => hn (hsl j z)) |>.trans ?_, ?_⟩
              · exact wipe_eq vs (L2.wipe_length σ vs) fun j hn => L2.wipe_out hn
              · refine htt _ _ _ ⟨ρ2, σ4, h2, as5, ag3, ?_⟩
                cases e2 : mt σ4 h2 with
                | err => rw [e2] at f2; cases f2
                | ex c n h' => rw [e2] at f2; cases f2
                | ok b h4 =>
                  rw [e2] at f2
                  intro ρ6 H6 b' st6 ag6 eb
                  subst eb
                  cases b with
                  | false =>
                    rw [if_neg Bool.false_ne_true]
                    exact ⟨ρ6, h4, (st2.trans st3).trans st6, ag6, f2⟩
                  | true =>
                    rw [if_pos rfl]
                    dsimp only at f2
                    refine ⟨ρ6, σ4, h4, as5.mono st6, ag6, ?_⟩
                    cases e3 : ml σ4 h4 with
                    | err => rw [e3] at f2; cases f2
                    | ex c n h' => rw [e3] at f2; cases f2
                    | ok z h5 =>
                      rw [e3] at f2
                      dsimp only at f2
                      intro ρ7 H7 z' st7 ag7 rz
                      cases e4 : h5[h1.length]? with
                      | none => rw [e4] at f2; cases f2
                      | some ob =>
                        rw [e4] at f2
                        cases ob with
                        | lst acc =>
                          dsimp only at f2
                          cases e5 : small (acc.length + 1) with
                          | false => rw [e5] at f2; cases f2
                          | true =>
                            rw [e5] at f2
                            have stA := ((st2.trans st3).trans st6).trans st7
                            have hD7 := stA.pre _ _ hx
                            obtain ⟨ys, hy, rs⟩ := ag7.at_ e4 hD7
                            have stW : Stp G ρ7 H7 ρ7 (upd H7 D (.lst (ys ++ [z']))) := Stp.wr ag7 e4 hD7
                            refine ⟨ys, hy, by rw [← rs.length]; exact small_lt e5, ρ7, _, stA.trans stW, ag7.wr (u' := .lst (acc ++ [z])) e4 hD7 ⟨_, upd_same, (rs.append (.cons rz .nil)).mono stW⟩, f2⟩
                        | _ => cases f2
end
end ML
end
section
namespace ML
open PySem L2
section
variable {G : Gx} {W : WX} {X : Cx} {tg iter elt c : Expr} {ifs : List Expr} {scope : Scope} {own : List (Str × Nat)} {pos spos py : Pos} {mi : MI} {mt : MT} {ml : ME} {t : Tgt} {i : Nat} {y : Str}
theorem yes_rd : ∀ σ H Q, rdT G W0 tYesM σ H Q → tYes σ H Q := fun σ H Q ⟨ρ, σi, h, as, ag, f⟩ => f ρ H true .refl ag rfl
theorem me_lc1 (hG : G.K = X.K) (hc : X.calm = true) (hN : X.N.Nodup) (hi : PI X tg iter (rdI G W mi)) (ok : BlkOk X.N X.env.scope scope own) (hsl : ∀ j ∈ t.slots, j ∈ own.map (·.2))
    (hg : ∀ (s : Shared) (H : Hp) (C : Addr) (cl : List (Str × Addr)) (fp : List Addr), PG (X.blk s H scope (compEnvC scope cl C X.env) fp) tg (t.tg X.K))
    (ht : ∀ (s : Shared) (H : Hp) (C : Addr) (cl : List (Str × Addr)) (fp : List Addr), PT (X.blk s H scope (compEnvC scope cl C X.env) fp) c (rdT G W0 mt))
    (he : ∀ (s : Shared) (H : Hp) (C : Addr) (cl : List (Str × Addr)) (fp : List Addr), PE (X.blk s H scope (compEnvC scope cl C X.env) fp) elt (rdE G W0 ml)) (hs : ∀ x, foldedSetIterable iter X.env x = pure x := by intro _; rfl) :
    PE X (.ListComp elt [⟨tg, iter, [c], 0⟩] scope pos) (rdE G W (eLc mi t (own.map (·.2)) mt ml)) :=
  PE.imp' (pe_lc hc hN hi ok hg (fun s H C cl fp => pts_one (ht s H C cl fp)) he hs) (lc_rd hG _ hsl fun _ _ _ z => z)
theorem rdS_E {me : ME} {D : Ends} {σ : L2.St} {H : Hp} (r : rdS G W (sAsg me (gNm i)) D σ H) : rdE G W me σ H fun x H1 => gName i x σ H1 D.nx :=
  let ⟨_, _, _, as, ag, f⟩ := r
  rdS_go as ag f fun _ _ _ _ _ _ as ag r f => f.nx ag (as.set r i)
theorem ms_setLc0 (hG : G.K = X.K) (hc : X.calm = true) (hN : X.N.Nodup) (hy : X.N[i]? = some y) (hyl : X.env.scope.names.lookup y = some .local) (hsw : swapsWith (.ListComp elt [⟨tg, iter, [], 0⟩] scope pos) (some (.Name y py)) spos.line X.env = pure true)
    (hi : PI X tg iter (rdI G W mi)) (ok : BlkOk X.N X.env.scope scope own) (hsl : ∀ j ∈ t.slots, j ∈ own.map (·.2))
    (hg : ∀ (s : Shared) (H : Hp) (C : Addr) (cl : List (Str × Addr)) (fp : List Addr), PG (X.blk s H scope (compEnvC scope cl C X.env) fp) tg (t.tg X.K))
    (he : ∀ (s : Shared) (H : Hp) (C : Addr) (cl : List (Str × Addr)) (fp : List Addr), PE (X.blk s H scope (compEnvC scope cl C X.env) fp) elt (rdE G W0 ml)) (hs : ∀ x, foldedSetIterable iter X.env x = pure x := by intro _; rfl) :
    PS X (.Assign [.Name y py] (.ListComp elt [⟨tg, iter, [], 0⟩] scope pos) spos) (rdS G W (sAsg (eLc mi t (own.map (·.2)) tYesM ml) (gNm i))) :=
  PS.imp' (ps_setLc hc hN hy hyl hsw hi ok hg (fun _ _ _ _ _ => pts_nil) he hs) fun D σ H r => lc_rd hG _ hsl yes_rd σ H _ (rdS_E r)
theorem ms_setLc1 (hG : G.K = X.K) (hc : X.calm = true) (hN : X.N.Nodup) (hy : X.N[i]? = some y) (hyl : X.env.scope.names.lookup y = some .local) (hsw : swapsWith (.ListComp elt [⟨tg, iter, [c], 0⟩] scope pos) (some (.Name y py)) spos.line X.env = pure true)
    (hi : PI X tg iter (rdI G W mi)) (ok : BlkOk X.N X.env.scope scope own) (hsl : ∀ j ∈ t.slots, j ∈ own.map (·.2))
    (hg : ∀ (s : Shared) (H : Hp) (C : Addr) (cl : List (Str × Addr)) (fp : List Addr), PG (X.blk s H scope (compEnvC scope cl C X.env) fp) tg (t.tg X.K))
    (ht : ∀ (s : Shared) (H : Hp) (C : Addr) (cl : List (Str × Addr)) (fp : List Addr), PT (X.blk s H scope (compEnvC scope cl C X.env) fp) c (rdT G W0 mt))
    (he : ∀ (s : Shared) (H : Hp) (C : Addr) (cl : List (Str × Addr)) (fp : List Addr), PE (X.blk s H scope (compEnvC scope cl C X.env) fp) elt (rdE G W0 ml)) (hs : ∀ x, foldedSetIterable iter X.env x = pure x := by intro _; rfl) :
    PS X (.Assign [.Name y py] (.ListComp elt [⟨tg, iter, [c], 0⟩] scope pos) spos) (rdS G W (sAsg (eLc mi t (own.map (·.2)) mt ml) (gNm i))) :=
  PS.imp' (ps_setLc hc hN hy hyl hsw hi ok hg (fun s H C cl fp => pts_one (ht s H C cl fp)) he hs) fun D σ H r => lc_rd hG _ hsl (fun _ _ _ z => z) σ H _ (rdS_E r)
def eErr : ME := fun _ _ => .err
def sErr : MS := fun _ _ => .err
def tErr : MT := fun _ _ => .err
theorem ms_err {e : Stmt} : PS X e (rdS G W sErr) := ⟨fun _ _ _ _ _ _ ⟨_, _, _, _, _, f⟩ => f.elim⟩
theorem mss_err {e : List Stmt} : PSs X e (rdS G W sErr) := ⟨fun _ _ _ _ _ _ ⟨_, _, _, _, _, f⟩ => f.elim⟩
end
end ML
end
section
namespace ML
open PySem L2
def eNeg (a : ME) : ME := fun σ h => (a σ h).bind fun v h1 => match v with
  | .int i => .ok (.int (-i)) h1
  | _ => .err
abbrev MO := Sg → Hi → Res (Option Int)
def oNo : MO := fun _ h => .ok none h
def oSome (e : ME) : MO := fun σ h => (e σ h).bind fun v h1 => match v with
  | .int i => .ok (some i) h1
  | _ => .err
def sIxI (n d : Nat) : Option Int → Nat
  | none => d
  | some v => if v < 0 then (v + (n : Int)).toNat else Nat.min v.toNat n
def cutI (xs : List VI) (lo hi : Option Int) : List VI := (xs.drop (sIxI xs.length 0 lo)).take (sIxI xs.length xs.length hi - sIxI xs.length 0 lo)
def sliceM (x : VI) (lo hi : Option Int) (h : Hi) : Option (VI × Hi) := match x with
  | .tup xs => some (.tup (cutI xs lo hi), h)
  | .ref n => match h[n]? with
    | some (.lst xs) => some (.ref h.length, h ++ [.lst (cutI xs lo hi)])
    | some (.scr xs) => some (.ref h.length, h ++ [.lst (cutI xs lo hi)])
    | _ => none
  | _ => none
def eSl (e : ME) (lo hi : MO) : ME := fun σ h => (e σ h).bind fun x h1 => (lo σ h1).bind fun l h2 => (hi σ h2).bind fun u h3 => ofO (sliceM x l u h3)
section
variable {G : Gx} {ρ : List Addr} {h : Hi} {H : Hp} {W : WX} {X : Cx} {e a b c o i v : Expr} {lo hi : Option Expr} {es : List Expr} {pos p p2 pos' apos cpos : Pos} {me mi mo ma mb mv : ME} {ml mh : MO} {mr : MA}
theorem me_neg (ha : PE X a (rdE G W ma)) : PE X (.UnaryOp .USub a pos) (rdE G W (eNeg ma)) :=
  PE.imp' (pe_un un_neg ha) fun σ H Q ⟨ρ, σi, h, as, ag, fin⟩ => rdG_go as ag fin fun ρ1 H1 h1 x x' st as ag r f => by
    cases r with
    | int i => exact ⟨i, rfl, f.ok ag (.int _)⟩
    | _ => exact f.elim
theorem PO.imp' {e : Option Expr} {t t' : TO} (h : PO X e t) (i : ∀ σ H Q, t' σ H Q → t σ H Q) : PO X e t' := ⟨fun pins s σ H Q I q => h.run pins s σ H Q I (i σ H Q q)⟩
theorem sIxI_eq (n d : Nat) (o : Option Int) : sIxI n d o = HT.sIx n d o := by cases o <;> rfl
theorem RVs.cut {xs : List VI} {ys : List V} (r : RVs G ρ H xs ys) (lo hi : Option Int) : RVs G ρ H (cutI xs lo hi) (cutV ys lo hi) := by
  unfold cutI cutV
  rw [sIxI_eq, sIxI_eq, r.length]
  exact (r.drop _).take _
end
inductive Knd where
  | lst | dic | str
def Knd.ty : Knd → String
  | .lst => "list"
  | .dic => "dict"
  | .str => "str"
def kOk (k : Knd) (v : VI) (h : Hi) : Bool := match v with
  | .str _ => match k with | .str => true | _ => false
  | .ref n => match h[n]? with
    | some (.lst _) => match k with | .lst => true | _ => false
    | some (.scr _) => match k with | .lst => true | _ => false
    | some (.dic _) => match k with | .dic => true | _ => false
    | _ => false
  | _ => false
abbrev OpM := VI → List VI → Hi → Option (VI × Hi)
def eBM (k : Knd) (f : OpM) (o : ME) (ma : MA) : ME := fun σ h => (o σ h).bind fun x h1 => match kOk k x h1 with
  | true => (ma σ h1).bind fun vs h2 => ofO (f x vs h2)
  | false => .err
def rdM (G : Gx) (f : OpM) : V → List V → Hp → VK → Prop := fun x xs H Q => ∃ ρ h xi args, Ag G ρ h H ∧ RV G ρ H xi x ∧ RVs G ρ H args xs ∧ FinO G ρ H (RV G) Q (f xi args h)
def mAppend : OpM := fun x vs h => match x with
  | .ref n => match h[n]? with
    | some (.lst xs) => match vs with
      | [y] => match small (xs.length + 1) with
        | true => some (.non, h.set n (.lst (xs ++ [y])))
        | false => none
      | _ => none
    | _ => none
  | _ => none
def mExtend : OpM := fun x vs h => match x with
  | .ref n => match h[n]? with
    | some (.lst xs) => match vs with
      | [.ref m] => match h[m]? with
        | some (.lst ys) => match small (xs.length + ys.length) with
          | true => some (.non, h.set n (.lst (xs ++ ys)))
          | false => none
        | _ => none
      | _ => none
    | _ => none
  | _ => none
def mPop : OpM := fun x vs h => match x with
  | .ref n => match h[n]? with
    | some (.lst xs) => match vs with
      | [] => match xs[xs.length - 1]? with
        | some y => some (y, h.set n (.lst xs.dropLast))
        | none => none
      | _ => none
    | _ => none
  | _ => none
section
variable {G : Gx} {ρ : List Addr} {h : Hi} {H : Hp} {W : WX} {X : Cx} {e a b c o i v : Expr} {es : List Expr} {pos p pos' apos cpos : Pos} {me mi mo ma mb mv : ME} {mr : MA} {k : Knd} {f : OpM} {name : Str} {id T : String}
theorem kOk_ty {xi : VI} {x : V} {K : PySem.W.Frag} (ag : Ag G ρ h H) (r : RV G ρ H xi x) (e : kOk k xi h = true) : tyV K k.ty x H := by
  unfold kOk at e
  cases r with
  | str q => cases k <;> first | rfl | cases e
  | @ref n a q =>
    dsimp only at e
    cases q1 : h[n]? with
    | none => rw [q1] at e; cases e
    | some ob =>
      rw [q1] at e
      cases ob with
      | lst xs =>
        obtain ⟨ys, hy, _⟩ := ag.at_ q1 q
        cases k <;> first | exact .inl ⟨rfl, ys, .inl (.inl hy)⟩ | cases e
      | scr xs =>
        obtain ⟨ob, ys, hy, _⟩ := ag.at_ q1 q
        cases k <;> first | exact .inl ⟨rfl, ys, .inl (.inr ⟨_, hy⟩)⟩ | cases e
      | dic xs =>
        obtain ⟨ys, hy, _⟩ := ag.at_ q1 q
        cases k <;> first | exact .inr (.inr (.inl ⟨rfl, .inl ⟨_, hy⟩⟩)) | cases e
      | _ => cases e
  | _ => cases e
theorem me_bm (hk : k.ty = T) (pa : PlainAttrs T) (slot : Slot T name id) (hty : typeOf (.builtin id) = pure (.type "method_descriptor")) (hm : MtR X id (rdM G f)) (ho : PE X o (rdE G W mo)) (ha : PA X (e :: es) (rdA G W mr))
    (hbase : attributeBase o name X.env (eval o X.env) = eval o X.env := by rfl)
    (hfew : ((backTo cpos (starEach (e :: es) X.env)).all (fun x => !x.1) && (backToKw cpos (keywordEach [] X.env)).all (fun x => x.1.isSome)
      && decide ((e :: es).length + ([] : List Keyword).length + (if ([] : List Keyword).isEmpty then 0 else 1) < 30)) = true := by rfl)
    (hline : (apos.endLine == cpos.line) = true := by rfl) (hs : starEach (e :: es) X.env = (false, eval e X.env) :: starEach es X.env := by rfl) (hplain : (backTo cpos (starEach es X.env)).any (·.1) = false := by rfl) :
    PE X (.Call (.Attribute o name apos) (e :: es) [] cpos) (rdE G W (eBM k f mo mr)) := by
  subst hk
  refine PE.imp' (pe_bm pa slot hty hm ho ha hbase hfew hline hs hplain) fun σ H Q ⟨ρ, σi, h, as, ag, fin⟩ => rdG_go as ag fin fun ρ1 H1 h1 x x' st as ag r fi => ?_
  cases q : kOk k x h1 with
  | false => rw [q] at fi; exact fi.elim
  | true =>
    rw [q] at fi
    exact ⟨kOk_ty ag r q, rdG_go as ag fi fun ρ2 H2 h2 vs ys st2 as ag rs f => ⟨ρ2, h2, x, vs, ag, r.mono st2, rs, FinO.of f⟩⟩
theorem mm_append : MtR X "list.append" (rdM G mAppend) := by
  intro pins s σ H x xs v us Q I rx rxs ⟨ρ, h, xi, args, ag, r, ra, fi⟩
  unfold mAppend at fi
  cases r with
  | @ref n a e =>
    dsimp only at fi
    cases q1 : h[n]? with
    | none => rw [q1] at fi; exact fi.elim
    | some ob =>
      rw [q1] at fi
      cases ob with
      | lst zs =>
        obtain ⟨ys, hy, rs⟩ := ag.at_ q1 e
        cases ra with
        | nil => exact fi.elim
        | cons ry t =>
          cases t with
          | cons _ _ => exact fi.elim
          | nil =>
            dsimp only at fi
            cases q2 : small (zs.length + 1) with
            | false => rw [q2] at fi; exact fi.elim
            | true =>
              rw [q2] at fi
              have st : ∀ o, Stp G ρ H ρ (upd H a o) := fun o => Stp.wr ag q1 e
              exact mt_append pins s σ H _ _ v us Q I rx rxs ⟨a, ys, _, rfl, rfl, hy, by rw [← rs.length]; exact small_lt q2, fi ρ _ _ (st _) (ag.wr q1 e ⟨_, upd_same, (rs.append (.cons ry .nil)).mono (st _)⟩) .non⟩
      | _ => exact fi.elim
  | _ => exact fi.elim
theorem RVs.dropLast {xs : List VI} {ys : List V} (r : RVs G ρ H xs ys) : RVs G ρ H xs.dropLast ys.dropLast := by
  rw [List.dropLast_eq_take, List.dropLast_eq_take, r.length]
  exact r.take _
end
def flI : VI → Bool
  | .non => true
  | .bl _ => true
  | .int _ => true
  | .str _ => true
  | _ => false
def b2i (b : Bool) : Int := match b with
  | true => 1
  | false => 0
def eqI : VI → VI → Bool
  | .non, .non => true
  | .bl a, .bl b => a == b
  | .bl a, .int b => decide (b2i a = b)
  | .int a, .bl b => decide (a = b2i b)
  | .int a, .int b => decide (a = b)
  | .str a, .str b => decide (a = b)
  | _, _ => false
def inI (x : VI) : List VI → Bool
  | [] => false
  | y :: r => match eqI y x with
    | true => true
    | false => inI x r
def alF : List VI → Bool
  | [] => true
  | y :: r => match flI y with
    | true => alF r
    | false => false
def inDl (h : Hi) (x : VI) (ys : List VI) : Option Bool := match dat 66 h x, datL (dat 65 h) ys with
  | some d, some ds => match SeqAt.shaped d && SeqAt.shaped (.list ds) with
    | true => some (ds.any fun z => PyData.eqv z d)
    | false => none
  | _, _ => none
def inM (x y : VI) (h : Hi) : Option Bool := match y with
  | .tup ys => match flI x && alF ys with
    | true => some (inI x ys)
    | false => none
  | .ref n => match h[n]? with
    | some (.lst ys) => match flI x && alF ys with
      | true => some (inI x ys)
      | false => inDl h x ys
    | some (.scr ys) => match flI x && alF ys with
      | true => some (inI x ys)
      | false => inDl h x ys
    | some (.dic kvs) => match isKey x with
      | true => some (match getD x kvs with | some _ => true | none => false)
      | false => none
    | _ => none
  | _ => none
def fIn : Op2 := fun x y h => match inM x y h with
  | some b => some (.bl b, h)
  | none => none
def fNotIn : Op2 := fun x y h => match inM x y h with
  | some b => some (.bl (!b), h)
  | none => none
section
variable {G : Gx} {ρ : List Addr} {h : Hi} {H : Hp} {X : Cx}
theorem RV.flat {v : VI} {x : V} (r : RV G ρ H v x) (e : flI v = true) : flatV x = true := by cases r <;> first | rfl | cases e
theorem RV.eqI {v w : VI} {x y : V} (r : RV G ρ H v x) (r2 : RV G ρ H w y) (e : flI v = true) (e2 : flI w = true) : ML.eqI v w = eqV x y := by
  cases r with
  | non => cases r2 <;> first | rfl | cases e2
  | bl b => cases r2 <;> first | rfl | (cases b <;> rfl) | cases e2
  | int i =>
    cases r2 with
    | bl b => cases b <;> rfl
    | _ => first | rfl | cases e2
  | @str s1 _ q =>
    cases r2 with
    | @str s2 _ q2 =>
      subst q q2
      show decide (s1 = s2) = (toStr s1 == toStr s2)
      by_cases z : s1 = s2
      · subst z; simp
      · rw [decide_eq_false z, beq_eq_false_iff_ne.mpr fun w => z (toStr_inj w)]
    | _ => first | rfl | cases e2
  | _ => cases e
theorem RVs.flats : ∀ {vs : List VI} {xs : List V}, RVs G ρ H vs xs → alF vs = true → xs.all flatV = true
  | _, _, .nil, _ => rfl
  | _, _, .cons (v := v) r t, e => by
    unfold alF at e
    cases q : flI v with
    | false => rw [q] at e; cases e
    | true =>
      rw [q] at e
      rw [List.all_cons, r.flat q, t.flats e]
      rfl
theorem RVs.inI {w : VI} {y : V} (r2 : RV G ρ H w y) (e2 : flI w = true) : ∀ {vs : List VI} {xs : List V}, RVs G ρ H vs xs → alF vs = true → ML.inI w vs = inV y xs
  | _, _, .nil, _ => rfl
  | _, _, .cons (v := v) (x := x) (xs := xs) r t, e => by
    unfold alF at e
    cases q : flI v with
    | false => rw [q] at e; cases e
    | true =>
      rw [q] at e
      unfold ML.inI
      rw [r.eqI r2 q e2]
      show _ = (List.any (x :: xs) fun z => eqV z y)
      rw [List.any_cons]
      cases eqV x y with
      | true => rfl
      | false => rw [Bool.false_or]; exact RVs.inI r2 e2 t e
theorem in_kind (hG : G.K = X.K) (hu : X.A.units + 65 < cLine) {neg : Bool} {op : CmpOp} {xi yi : VI} {x y : V} {Q : VK} (ag : Ag G ρ h H) (r1 : RV G ρ H xi x) (r2 : RV G ρ H yi y)
    (h1 : OpR X (compareOp op) (rIn X.K neg)) (h2 : OpR X (compareOp op) (fun x y H Q => ∃ d ds, Dp X.K H x d ∧ Dp X.K H y (.list ds) ∧ SeqAt.shaped d = true ∧ SeqAt.shaped (.list ds) = true ∧ Q (.bl (if neg then !(ds.any fun z => PyData.eqv z d) else ds.any fun z => PyData.eqv z d)) H))
    (h3 : OpR X (compareOp op) (fun y x H Q => ∃ a o, x = .ref a ∧ DGet H a y o ∧ Q (.bl (if neg then !o.isSome else o.isSome)) H))
    (fi : FinO G ρ H (RV G) Q (match inM xi yi h with | some b => some (VI.bl (if neg then !b else b), h) | none => none)) : ∃ r : R2, OpR X (compareOp op) r ∧ r x y H Q := by
  unfold inM at fi
  have lst : ∀ {ys : List VI} {zs : List V} {a : Addr}, RVs G ρ H ys zs → SqL G.K H a zs → FinO G ρ H (RV G) Q (match (match flI xi && alF ys with | true => some (inI xi ys) | false => inDl h xi ys) with | some b => some (VI.bl (if neg then !b else b), h) | none => none) → ∃ r : R2, OpR X (compareOp op) r ∧ r x (.ref a) H Q := by
    intro ys zs a rs sq fi
    cases q : flI xi && alF ys with
    | true =>
      rw [q] at fi
      obtain ⟨q1, q2⟩ := Bool.and_eq_true_iff.mp q
      exact ⟨_, h1, a, zs, rfl, .inl (hG ▸ sq), r1.flat q1, rs.flats q2, by rw [← rs.inI r1 q1 q2]; exact fi.ok ag (.bl _)⟩
    | false =>
      rw [q] at fi
      dsimp only at fi
      unfold inDl at fi
      cases e1 : dat 66 h xi with
      | none => rw [e1] at fi; exact fi.elim
      | some d =>
        cases e2 : datL (dat 65 h) ys with
        | none => rw [e1, e2] at fi; exact fi.elim
        | some ds =>
          rw [e1, e2] at fi
          dsimp only at fi
          cases z : SeqAt.shaped d && SeqAt.shaped (.list ds) with
          | false => rw [z] at fi; exact fi.elim
          | true =>
            rw [z] at fi
            obtain ⟨z1, z2⟩ := Bool.and_eq_true_iff.mp z
            exact ⟨_, h2, d, ds, hG ▸ dat_ok ag _ _ _ _ r1 e1, hG ▸ .lst sq (datL_ok (fun v x d => dat_ok ag 65 v x d) rs e2), z1, z2, fi.ok ag (.bl _)⟩
  cases r2 with
  | @tup xs ys a t1 s1 =>
    dsimp only at fi
    cases q : flI xi && alF xs with
    | false => rw [q] at fi; exact fi.elim
    | true =>
      rw [q] at fi
      obtain ⟨q1, q2⟩ := Bool.and_eq_true_iff.mp q
      exact ⟨_, h1, a, ys, rfl, .inr (hG ▸ t1), r1.flat q1, s1.flats q2, by rw [← s1.inI r1 q1 q2]; exact fi.ok ag (.bl _)⟩
  | @ref n a e =>
    dsimp only at fi
    cases q1 : h[n]? with
    | none => rw [q1] at fi; exact fi.elim
    | some ob =>
      rw [q1] at fi
      cases ob with
      | lst xs =>
        obtain ⟨ys, hy, rs⟩ := ag.at_ q1 e
        exact lst rs (.inl (.inl hy)) fi
      | scr xs =>
        obtain ⟨ob, ys, hy, rs⟩ := ag.at_ q1 e
        exact lst rs (.inl (.inr ⟨_, hy⟩)) fi
      | dic kvs =>
        obtain ⟨ks, hy, rs⟩ := ag.at_ q1 e
        dsimp only at fi
        cases q2 : isKey xi with
        | false => rw [q2] at fi; exact fi.elim
        | true =>
          rw [q2] at fi
          obtain ⟨k, rk, ey⟩ := r1.key q2
          subst ey
          have gd := rs.getD rk
          refine ⟨_, h3, a, _, rfl, DGet.k hy, ?_⟩
          cases q3 : getD xi kvs with
          | none => rw [q3] at gd fi; rw [gd]; exact fi.ok ag (.bl _)
          | some w =>
            rw [q3] at gd fi
            obtain ⟨z, hz, _⟩ := gd
            rw [hz]
            exact fi.ok ag (.bl _)
      | _ => exact fi.elim
  | _ => exact fi.elim
theorem op_dIn (hu : X.A.units + 1 < cLine) : OpR X (compareOp .In) (fun y x H Q => ∃ a o, x = .ref a ∧ DGet H a y o ∧ Q (.bl o.isSome) H) := by
  intro pins s σ H y x v u Q I ry rx ⟨a, ov, ex, g, q⟩
  subst ex
  obtain rfl : u = Value.ref a := rx
  exact d_in hu I g ry fun s3 I3 => ⟨.bl ov.isSome, H, I3, rfl, q⟩
theorem op_dNotIn (hu : X.A.units + 1 < cLine) : OpR X (compareOp .NotIn) (fun y x H Q => ∃ a o, x = .ref a ∧ DGet H a y o ∧ Q (.bl (!o.isSome)) H) := by
  intro pins s σ H y x v u Q I ry rx ⟨a, ov, ex, g, q⟩
  subst ex
  obtain rfl : u = Value.ref a := rx
  exact d_notIn hu I g ry fun s3 I3 => ⟨.bl (!ov.isSome), H, I3, rfl, q⟩
theorem mo_in (hG : G.K = X.K) (hu : X.A.units + 65 < cLine) : OpR X (compareOp .In) (rd2 G fIn) := opR_at fun ρ h H xi yi x y Q ag r1 r2 f =>
  in_kind (neg := false) hG hu ag r1 r2 op_in_seq (op_inD hu) (op_dIn (by omega)) (by unfold fIn at f; cases q : inM xi yi h <;> rw [q] at f <;> exact f)
theorem mo_notIn (hG : G.K = X.K) (hu : X.A.units + 65 < cLine) : OpR X (compareOp .NotIn) (rd2 G fNotIn) := opR_at fun ρ h H xi yi x y Q ag r1 r2 f =>
  in_kind (neg := true) hG hu ag r1 r2 op_notIn_seq (op_notInD hu) (op_dNotIn (by omega)) (by unfold fNotIn at f; cases q : inM xi yi h <;> rw [q] at f <;> exact f)
end
end ML
end
section
namespace ML
open PySem L2
structure IsT where
  non : Option Bool
  bl : Option Bool
  int : Option Bool
  str : Option Bool
  lst : Option Bool
  tup : Option Bool
  dic : Option Bool
  ins : Nat → Option Bool
def isT (T : IsT) (v : VI) (h : Hi) : Option Bool := match v with
  | .non => T.non
  | .bl _ => T.bl
  | .int _ => T.int
  | .str _ => T.str
  | .tup _ => T.tup
  | .ref n => match h[n]? with
    | some (.lst _) => T.lst
    | some (.scr _) => T.lst
    | some (.dic _) => T.dic
    | some (.ins c _) => T.ins c
    | _ => none
  | _ => none
def eIsi (T : IsT) (e : ME) : ME := fun σ h => (e σ h).bind fun v h1 => match isT T v h1 with
  | some b => .ok (.bl b) h1
  | none => .err
structure IsOk (K : PySem.W.Frag) (G : Gx) (us : List Value) (T : IsT) : Prop where
  non : ∀ b, T.non = some b → PySem.W.kitAny K (.type "NoneType") us = some b
  bl : ∀ b, T.bl = some b → PySem.W.kitAny K (.type "bool") us = some b
  int : ∀ b, T.int = some b → PySem.W.kitAny K (.type "int") us = some b
  str : ∀ b, T.str = some b → PySem.W.kitAny K (.type "str") us = some b
  lst : ∀ b, T.lst = some b → PySem.W.kitAny K (.type "list") us = some b
  tup : ∀ b, T.tup = some b → PySem.W.kitAny K (.type "tuple") us = some b
  dic : ∀ b, T.dic = some b → PySem.W.kitAny K (.type "dict") us = some b
  ins : ∀ c C b, T.ins c = some b → G.ct c = some C → Cls K C ∧ PySem.W.findIn K (.ref C) "__class__" = some (some (.builtin "object.__class__")) ∧ PySem.W.mroIn K C (.type "object") = some true ∧ PySem.W.kitAny K (.ref C) us = some b
  gs : PySem.W.specialIn K (.builtin "object.__class__") "__get__" = some (some (.builtin "getset_descriptor.__get__"))
  tk : PySem.W.takesIn K (.builtin "object.__class__") = some true
section
variable {G : Gx} {ρ : List Addr} {h : Hi} {H : Hp} {W : WX} {X : Cx} {e a b c o i v : Expr} {es : List Expr} {pos p p2 pos' apos cpos tpos : Pos} {me mi mo ma mb mv : ME} {mr : MA} {T : IsT} {us : List Value} {k : Nat}
theorem kit_one {K : PySem.W.Frag} {t u : Value} {b : Bool} (h : PySem.W.kitAny K t [u] = some b) : PySem.W.kitOne K t u = some b := by
  unfold PySem.W.kitAny at h
  cases q : PySem.W.kitOne K t u with
  | none => rw [q] at h; cases h
  | some z =>
    rw [q] at h
    cases z with
    | true => exact h
    | false => exact h
theorem isT_ok (hG : G.K = X.K) (ok : IsOk X.K G us T) {vi : VI} {x : V} {bb : Bool} (ag : Ag G ρ h H) (r : RV G ρ H vi x) (e : isT T vi h = some bb) : ∃ t, TyX X.K H x t ∧ PySem.W.kitAny X.K t us = some bb := by
  unfold isT at e
  cases r with
  | non => exact ⟨_, .base .non, ok.non _ e⟩
  | bl b => exact ⟨_, .base (.bl b), ok.bl _ e⟩
  | int b => exact ⟨_, .base (.int b), ok.int _ e⟩
  | str b => exact ⟨_, .base (.str _), ok.str _ e⟩
  | glo q => cases e
  | @tup xs ys a t rs =>
    refine ⟨_, ?_, ok.tup _ e⟩
    rw [hG] at t
    rcases t with (t | ⟨ob, t⟩) | ⟨o, its, n, k1, k2, _⟩
    · exact .base (.tup t)
    · exact .fTuple t
    · exact .kTuple k1 k2
  | @ref n a q =>
    dsimp only at e
    cases q1 : h[n]? with
    | none => rw [q1] at e; cases e
    | some ob =>
      rw [q1] at e
      cases ob with
      | lst xs => obtain ⟨ys, hy, rs⟩ := ag.at_ q1 q; exact ⟨_, .base (.lst hy), ok.lst _ e⟩
      | scr xs => obtain ⟨ob, ys, hy, rs⟩ := ag.at_ q1 q; exact ⟨_, .base (.frz hy), ok.lst _ e⟩
      | dic kvs => obtain ⟨ks, hy, rs⟩ := ag.at_ q1 q; exact ⟨_, .base (.dK hy), ok.dic _ e⟩
      | ins c fs =>
        obtain ⟨C, dx, gs, hc, hH, rf⟩ := insAt ag q1 q
        obtain ⟨k1, k2, k3, k4⟩ := ok.ins c C bb e hc
        exact ⟨_, .base (.ins hH k1 k2 ok.gs ok.tk k3), k4⟩
      | xd fs => cases e
      | dnk fs => cases e
theorem me_isi (hG : G.K = X.K) {cv : V} {u : Value} (ok : IsOk X.K G [u] T) (hg : Gl X "isinstance") (hm : X.mg "isinstance" = none) (he : PE X e (rdE G W me)) (hc : PE X c (tC cv)) (cl : ClsV cv u)
    (hs1 : starEach [e, c] X.env = (false, eval e X.env) :: starEach [c] X.env := by rfl) (hs2 : starEach [c] X.env = (false, eval c X.env) :: starEach [] X.env := by rfl) (hpl : (backTo pos (starEach [c] X.env)).any (·.1) = false := by rfl) :
    PE X (.Call (.Name "isinstance" p) [e, c] [] pos) (rdE G W (eIsi T me)) :=
  PE.imp' (pe_callB (r := rIsi X.K) call_isi hg hm PyProof.Rows.boot_isinstance (pa_cons he (pa_cons hc pa_nil hs2) hs1) (by decide) (by decide) hs1 hpl) fun σ H Q ⟨ρ, σi, h, as, ag, fin⟩ => rdG_go as ag fin fun ρ1 H1 h1 x x' st as ag r f => by
    cases q : isT T x h1 with
    | none => rw [q] at f; exact f.elim
    | some bb =>
      rw [q] at f
      obtain ⟨t, ty, kt⟩ := isT_ok hG ok ag r q
      exact ⟨x', cv, t, u, bb, rfl, cl, ty, kit_one kt, f.ok ag (.bl _)⟩
def tCs (cvs : List V) : TA := fun _ H Q => Q cvs H
theorem pa_c0 : PA X [] (tCs []) := pa_nil
theorem pa_c1 {cv : V} {cvs : List V} (h : PE X c (tC cv)) (t : PA X es (tCs cvs)) (hs : starEach (c :: es) X.env = (false, eval c X.env) :: starEach es X.env := by rfl) : PA X (c :: es) (tCs (cv :: cvs)) := pa_cons h t hs
theorem me_isiT (hG : G.K = X.K) {cvs : List V} (ok : IsOk X.K G us T) (hg : Gl X "isinstance") (hm : X.mg "isinstance" = none) (he : PE X e (rdE G W me)) (hc : PA X es (tCs cvs)) (cl : Paired ClsV cvs us) (hl : small cvs.length = true)
    (hs1 : starEach [e, .Tuple es k tpos] X.env = (false, eval e X.env) :: starEach [.Tuple es k tpos] X.env := by rfl) (hs2 : starEach [.Tuple es k tpos] X.env = (false, eval (.Tuple es k tpos) X.env) :: starEach [] X.env := by rfl) (hpl : (backTo pos (starEach [.Tuple es k tpos] X.env)).any (·.1) = false := by rfl) :
    PE X (.Call (.Name "isinstance" p) [e, .Tuple es k tpos] [] pos) (rdE G W (eIsi T me)) :=
  PE.imp' (pe_callB (r := rIsiT X.K) call_isiT hg hm PyProof.Rows.boot_isinstance (pa_cons he (pa_cons (pe_tup hc) pa_nil hs2) hs1) (by decide) (by decide) hs1 hpl) fun σ H Q ⟨ρ, σi, h, as, ag, fin⟩ => rdG_go as ag fin fun ρ1 H1 h1 x x' st as ag r f => by
    refine ⟨small_ok hl, fun p hp => ?_⟩
    cases q : isT T x h1 with
    | none => rw [q] at f; exact f.elim
    | some bb =>
      rw [q] at f
      have ag2 : Ag G ρ1 h1 (upd H1 p (.tup cvs)) := ag.more hp
      obtain ⟨t, ty, kt⟩ := isT_ok hG ok ag2 (r.mono (Stp.more hp)) q
      exact ⟨x', p, cvs, t, us, bb, rfl, upd_same, cl, ty, kt, f ρ1 _ _ (Stp.more hp) ag2 (.bl _)⟩
theorem pe_ty {x : Str} {n : String} (hg : Gl X x) (hm : X.mg x = none) (hv : bootBuiltins x = some (.type n)) (hn : x ≠ "__name__" := by decide) (hd : (x == ("__debug__" : Str)) = false := by decide) : PE X (.Name x pos) (tC (.ty n)) := pe_bltn hg hm hv rfl hn hd
theorem pe_cl {x : Str} {C : Addr} (hg : Gl X x) (hm : X.mg x = some (.ref C)) (hd : (x == ("__debug__" : Str)) = false := by decide) : PE X (.Name x pos) (tC (.ref C)) := pe_glob hg hm rfl hd
theorem me_glob {x : Str} {v : VI} {y : V} {u : Value} (hg : Gl X x) (hm : X.mg x = some u) (r : RelV y u) (rv : ∀ ρ H, RV G ρ H v y) (hd : (x == ("__debug__" : Str)) = false := by decide) : PE X (.Name x pos) (rdE G W (eC v)) := me_c (pe_glob hg hm r hd) rv
def eKd (tbl : S → Option VI) (b : ME) : ME := fun σ h => (b σ h).bind fun v h1 => match v with
  | .str s => match tbl s with
    | some w => .ok w h1
    | none => .err
  | _ => .err
def rgI (a b : Int) : List VI := (List.range (b - a).toNat).map fun i => VI.int (a + (i : Nat))
def rgOk (a b : Int) : Bool := (decide (-(2 ^ 62) ≤ a) && decide (a < 2 ^ 62)) && ((decide (-(2 ^ 62) ≤ b) && decide (b < 2 ^ 62)) && decide ((b - a).toNat ≤ 2 ^ 24))
def eTupRg (a b : ME) : ME := fun σ h => (a σ h).bind fun x h1 => (b σ h1).bind fun y h2 => match x, y with
  | .int i, .int j => match rgOk i j with
    | true => .ok (.tup (rgI i j)) h2
    | false => .err
  | _, _ => .err
def eLstRg (a b : ME) : ME := fun σ h => (a σ h).bind fun x h1 => (b σ h1).bind fun y h2 => match x, y with
  | .int i, .int j => match rgOk i j with
    | true => .ok (.ref h2.length) (h2 ++ [.lst (rgI i j)])
    | false => .err
  | _, _ => .err
def eTupRg1 (b : ME) : ME := fun σ h => (b σ h).bind fun y h2 => match y with
  | .int j => match rgOk 0 j with
    | true => .ok (.tup (rgI 0 j)) h2
    | false => .err
  | _ => .err
def eLstRg1 (b : ME) : ME := fun σ h => (b σ h).bind fun y h2 => match y with
  | .int j => match rgOk 0 j with
    | true => .ok (.ref h2.length) (h2 ++ [.lst (rgI 0 j)])
    | false => .err
  | _ => .err
def eChain (f g : Op2) (a b c : ME) : ME := fun σ h => (a σ h).bind fun x h1 => (b σ h1).bind fun y h2 => (ofO (f x y h2)).bind fun z h3 => match z with
  | .bl true => (c σ h3).bind fun w h4 => ofO (g y w h4)
  | .bl false => .ok (.bl false) h3
  | _ => .err
end
def whl (t : MT) (body : MS) : Nat → MS
  | 0 => fun _ _ => .err
  | n + 1 => fun σ h => (t σ h).bindS σ fun b h1 => match b with
    | true => match body σ h1 with
      | .nx σ2 h2 => whl t body n σ2 h2
      | .ct σ2 h2 => whl t body n σ2 h2
      | .bk σ2 h2 => .nx σ2 h2
      | r => r
    | false => .nx σ h1
def sWhile (fu : Sg → Hi → Nat) (t : MT) (body : MS) : MS := fun σ h => whl t body (fu σ h) σ h
section
variable {G : Gx} {W : WX} {X : Cx} {c : Expr} {body : List Stmt} {pos : Pos} {mt : MT} {mb : MS}
end
def iAdd : Op2 := fun x y h => match x, y with
  | .int i, .int j => some (.int (i + j), h)
  | _, _ => none
def iSub : Op2 := fun x y h => match x, y with
  | .int i, .int j => some (.int (i - j), h)
  | _, _ => none
def sAug (i : Nat) (f : Op2) (e : ME) : MS := fun σ h => match σ[i]? with
  | some (some x) => (e σ h).bindS σ fun y h1 => match f x y h1 with
    | some (z, h2) => .nx (σ.set i (some z)) h2
    | none => .err
  | _ => .err
section
variable {G : Gx} {ρ : List Addr} {h : Hi} {H : Hp} {W : WX} {X : Cx} {e a b o : Expr} {pos pos' : Pos} {me ma mb : ME} {i : Nat} {x : Str} {f : Op2}
end
end ML
end
section
namespace ML
open PySem L2 PyProof.Rows
section
variable {X : Cx} {e k v : Expr} {pos : Pos} {td tk tv : TE}
end
def mrgTail (n c : Nat) (k v : ME) : ME := fun σ h2 => (k σ h2).bind fun y h3 => (v σ h3).bind fun z h4 => match isKey y, h4[n]?, h4[c]? with
  | true, some (.dic kvs2), some (.dic []) => match small (kvs2.length + 1) with
    | true => .ok (.ref n) ((h4.set c (.dic [(y, z)])).set n (.dic (putD y z kvs2)))
    | false => .err
  | _, _, _ => .err
def eMrg (e k v : ME) : ME := fun σ h => (e σ (h ++ [.dic []])).bind fun x h1 => match x with
  | .ref m => match Nat.beq m h.length, h1[h.length]?, h1[m]? with
    | false, some (.dic []), some (.dic kvs) => match small (kvs.length + 1) with
      | true => mrgTail h.length h1.length k v σ (h1.set h.length (.dic (putAll kvs [])) ++ [.dic []])
      | false => .err
    | _, _, _ => .err
  | _ => .err
section
variable {G : Gx} {ρ : List Addr} {h : Hi} {H : Hp} {W : WX} {X : Cx} {e k v : Expr} {pos : Pos} {me mk mv : ME}
theorem Ag.ne (ag : Ag G ρ h H) {m n : Nat} {a b : Addr} (hm : ρ[m]? = some a) (hn : ρ[n]? = some b) (q : m ≠ n) : a ≠ b := fun z => by
  subst z
  obtain ⟨h1, e1⟩ := List.getElem?_eq_some_iff.mp hm
  obtain ⟨h2, e2⟩ := List.getElem?_eq_some_iff.mp hn
  have pw := List.pairwise_iff_getElem.mp ag.nd
  rcases Nat.lt_trichotomy m n with l | l | l
  · exact pw m n h1 h2 l (e1.trans e2.symm)
  · exact q l
  · exact pw n m h2 h1 l (e2.trans e1.symm)
end
end ML
end
section
namespace ML
open PySem L2 PyProof.Rows
structure FnP (X : Cx) (G : Gx) (k : Nat) (f : Addr) (fd : FuncData) (ps : List Str) (g : MF) : Prop where
  ok : FnOk X.prog X.w X.K X.mg X.base (L2.CX X.prog X.w) k f fd ps (spM G ps.length g)
  ar : Arity ps.length g
  room : Room (k + 2) X.A
def CallAt (X : Cx) (A : Around) (G : Gx) (W : WX) (fv : Value) (g : MF) : Prop :=
  ∀ (pins : List (Addr × Obj)) (s : Shared) (σ : L2.St) (H : Hp) (us : List Value) (vs : List V) (args : List VI) (ρ : List Addr) (h : Hi) (Q : VK), Inv X pins σ H s → Vals vs us → RVs G ρ H args vs → Ag G ρ h H →
    FinG G ρ H (RV G) Q (fun c d H' => W c d σ H') (g args h) → wpAny (model X.prog X.w) A (call fv us) (EP X pins σ Q) X.xe s
section
variable {G : Gx} {W : WX} {X : Cx} {A : Around} {ρ : List Addr} {h : Hi} {H : Hp} {σ : L2.St} {k np : Nat} {f C : Addr} {fd : FuncData} {ps : List Str} {g : MF}
theorem env0_at (e : Env0 X.prog X.w X.K X.mg X.base X.A X.stack s H) (fr : A.frames = X.A.frames) : Env0 X.prog X.w X.K X.mg X.base A X.stack s H := ⟨by rw [fr]; exact e.frames, e.mod, e.bs, e.bsz, e.funs, e.frf, e.hok, e.bare⟩
theorem callAt_of (F : FnOk X.prog X.w X.K X.mg X.base (L2.CX X.prog X.w) k f fd ps (spM G ps.length g)) (ar : Arity ps.length g) (hr : Room k A) (fr : A.frames = X.A.frames) (hb : Binds X.K fd ps []) (tk : Takes X W) : CallAt X A G W (.ref f) g := by
  intro pins s σ H us vs args ρ h Q I r ra ag fin
  by_cases hl : args.length = ps.length
  · have hsp : spM G ps.length g vs H Q (WE W σ) := ⟨ρ, h, args, hl, ag, ra, fin⟩
    have lu : us.length = ps.length := by rw [← r.length, ← ra.length]; exact hl
    have b := hb s us I.kIn (by rw [List.append_nil]; exact lu)
    rw [List.append_nil] at b
    refine wpAny_call (codeAny_mono (F.run _ _ s H ⟨us, []⟩ us vs Q (WE W σ) hr (env0_at I.env0 fr) b r hsp) fun res s' hq => ?_)
    match res, hq with
    | .error e, hq => exact passAt tk σ pins H s e s' I hq
    | .ok (.ret u), hq => exact I.after hq
  · rw [ar args h hl] at fin
    exact fin.elim
theorem FnP.call (F : FnP X G k f fd ps g) (hb : Binds X.K fd ps []) (tk : Takes X W) : CallM X G W (.ref f) g := callM_fn F.ok F.ar (F.room.mono (by omega)) hb tk
theorem FnP.at0 (F : FnP X G k f fd ps g) (hb : Binds X.K fd ps []) (tk : Takes X W) : CallAt X X.A G W (.ref f) g := callAt_of F.ok F.ar (F.room.mono (by omega)) rfl hb tk
theorem FnP.at1 (F : FnP X G k f fd ps g) (hb : Binds X.K fd ps []) (tk : Takes X W) : CallAt X X.A.in1 G W (.ref f) g := callAt_of F.ok F.ar ((F.room.mono (show k + 1 ≤ k + 2 by omega)).in1) rfl hb tk
end
structure Bnd (G : Gx) (K : PySem.W.Frag) (fd : FuncData) (ps : List Str) (n : Nat) (ks : List Str) (arr : List VI → List VI → List VI) : Prop where
  ex : ∃ (gu : List Value → List Value → List Value) (gV : List V → List V → List V), KBn K fd ps n ks gu gV ∧
    ∀ (ρ : List Addr) (H : Hp) (args zargs : List VI) (vs zs : List V), RVs G ρ H args vs → RVs G ρ H zargs zs → args.length = n → zargs.length = ks.length → RVs G ρ H (arr args zargs) (gV vs zs)
abbrev MK := List VI → List VI → Hi → Res VI
def CallK (X : Cx) (G : Gx) (W : WX) (fv : Value) (n : Nat) (ks : List Str) (g : MK) : Prop :=
  ∀ (pins : List (Addr × Obj)) (s : Shared) (σ : L2.St) (H : Hp) (us ws : List Value) (vs zs : List V) (args zargs : List VI) (ρ : List Addr) (h : Hi) (Q : VK), Inv X pins σ H s → Vals vs us → Vals zs ws → RVs G ρ H args vs → RVs G ρ H zargs zs → Ag G ρ h H →
    args.length = n → zargs.length = ks.length → FinG G ρ H (RV G) Q (fun c d H' => W c d σ H') (g args zargs h) → wpAny (model X.prog X.w) X.A (call fv us (ks.zip ws)) (EP X pins σ Q) X.xe s
def fnK (g : MF) (arr : List VI → List VI → List VI) : MK := fun vs zs h => g (arr vs zs) h
def mkK (c : Nat) (g : MF) (arr : List VI → List VI → List VI) : MK := fun vs zs h => match g (arr (.ref h.length :: vs) zs) (h ++ [.ins c []]) with
  | .ok .non h2 => .ok (.ref h.length) h2
  | .ex c n h2 => .ex c n h2
  | _ => .err
def eCallK (n m : Nat) (g : MK) (ma mk : MA) : ME := fun σ h => (ma σ h).bind fun vs h1 => (mk σ h1).bind fun zs h2 => match Nat.beq vs.length n && Nat.beq zs.length m with
  | true => g vs zs h2
  | false => .err
section
variable {G : Gx} {W : WX} {X : Cx} {A : Around} {ρ : List Addr} {h : Hi} {H : Hp} {σ : L2.St} {k n : Nat} {f C : Addr} {fd : FuncData} {ps ks : List Str} {g : MF} {gk : MK} {arr : List VI → List VI → List VI} {x : Str} {p pos kpos : Pos} {e : Expr} {es : List Expr} {kws : List Keyword} {ma mk : MA} {me : ME} {nm : Option Str} {fv : Value}
theorem mk_nil : PK X [] (rdA G W aNil) := ⟨fun pos pins s σ H Q I ⟨ρ, σi, h, as, ag, f⟩ => pk_nil.run pos pins s σ H Q I (f.ok ag .nil)⟩
theorem callK_fn (F : FnP X G k f fd ps g) (hb : Bnd G X.K fd ps n ks arr) (tk : Takes X W) : CallK X G W (.ref f) n ks (fnK g arr) := by
  intro pins s σ H us ws vs zs args zargs ρ h Q I r rz ra rza ag l1 l2 fin
  obtain ⟨gu, gV, kb, hrel⟩ := hb.ex
  have rA := hrel ρ H args zargs vs zs ra rza l1 l2
  unfold fnK at fin
  by_cases hl : (arr args zargs).length = ps.length
  · have hsp : spM G ps.length g (gV vs zs) H Q (WE W σ) := ⟨ρ, h, _, hl, ag, rA, fin⟩
    have lu : us.length = n := by rw [← r.length, ← ra.length]; exact l1
    have lw : ws.length = ks.length := by rw [← rz.length, ← rza.length]; exact l2
    refine wpAny_call (codeAny_mono (F.ok.run _ _ s H ⟨us, ks.zip ws⟩ (gu us ws) (gV vs zs) Q (WE W σ) (F.room.mono (by omega)) I.env0 (kb.to s us ws I.kIn lu lw) (kb.rel r rz) hsp) fun res s' hq => ?_)
    match res, hq with
    | .error e, hq => exact passAt tk σ pins H s e s' I hq
    | .ok (.ret u), hq => exact I.after hq
  · rw [F.ar _ h hl] at fin
    exact fin.elim
theorem me_callK (c : CallK X G W fv n ks gk) (hg : Gl X x) (hm : X.mg x = some fv) (hkp : PySem.W.keepIn X.K fv = true) (ha : PA X (e :: es) (rdA G W ma)) (hkw : PK X kws (rdA G W mk))
    (hall : (backToKw pos (keywordEach kws X.env)).all (·.1.isSome) = true := by rfl) (hks : (backToKw pos (keywordEach kws X.env)).filterMap (·.1) = ks := by rfl) (hdb : (x == ("__debug__" : Str)) = false := by decide)
    (he : starEach (e :: es) X.env = (false, eval e X.env) :: starEach es X.env := by rfl) (hpl : ((backTo pos (starEach (e :: es) X.env)).any (·.1) || (backToKw pos (keywordEach kws X.env)).any (·.1.isNone)) = false := by rfl) :
    PE X (.Call (.Name x p) (e :: es) kws pos) (rdE G W (eCallK n ks.length gk ma mk)) := by
  refine ⟨fun pins s σ H Q I ⟨ρ, σi, h, as, ag, fin⟩ => ?_⟩
  refine wpAny_Call_Name_kw (ld_glob I hg hm ?_ hdb)
  have B : rdA G W ma σ H fun vs H1 => rdA G W mk σ H1 fun zs H2 => ∃ ρ2 h2 args zargs, RVs G ρ2 H2 args vs ∧ RVs G ρ2 H2 zargs zs ∧ Ag G ρ2 h2 H2 ∧ args.length = n ∧ zargs.length = ks.length ∧ FinG G ρ2 H2 (RV G) Q (fun c d H' => W c d σ H') (gk args zargs h2) :=
    rdG_go as ag fin fun ρ1 H1 h1 xs ys st as ag r f => rdG_go as ag f fun ρ2 H2 h2 zs ws st2 as ag rz f => by
      cases q : Nat.beq xs.length n && Nat.beq zs.length ks.length with
      | false => rw [q] at f; exact f.elim
      | true =>
        rw [q] at f
        obtain ⟨q1, q2⟩ := Bool.and_eq_true_iff.mp q
        exact ⟨ρ2, h2, xs, zs, r.mono st2, rz, ag, Nat.eq_of_beq_eq_true q1, Nat.eq_of_beq_eq_true q2, f⟩
  refine PySem.W.callWith_KW (h₀ := X.base) I.ok.mod.kin hkp hall (thn (ha.run pos pins s σ H _ I B) fun us s1 ⟨vs, H1, I1, r, q⟩ => ?_) hpl he
  refine thn (hkw.run pos pins s1 σ H1 _ I1 q) fun ws s2 ⟨zs, H2, I2, rz, ρ2, h2, args, zargs, ra, rza, ag2, l1, l2, f2⟩ => ⟨I2.kIn, ?_⟩
  rw [hks]
  exact c pins s2 σ H2 us ws vs zs args zargs ρ2 h2 Q I2 r rz ra rza ag2 l1 l2 f2
end
end ML
end
section
namespace ML
open PySem L2 PyProof.Rows
structure SpOk (X : Cx) (A : Around) (G : Gx) (W : WX) (tbl : Nat → Option MF) (nm : Str) : Prop where
  at_ : ∀ c C g, tbl c = some g → G.ct c = some C → ∃ f, PySem.W.noSeq X.K C = true ∧ PySem.W.findIn X.K (.ref C) nm = some (some (.ref f)) ∧ PySem.W.fnIn X.K f = true ∧ PySem.W.isFn X.K (.ref f) = true ∧ CallAt X A G W (.ref f) g
def insC (x : VI) (h : Hi) : Option Nat := match x with
  | .ref n => match h[n]? with
    | some (.ins c _) => some c
    | _ => none
  | _ => none
def eIxU (tbl : Nat → Option MF) (a b : ME) : ME := fun σ h => (a σ h).bind fun x h1 => (b σ h1).bind fun y h2 => match insC x h2 with
  | some c => match tbl c with
    | some g => g [x, y] h2
    | none => .err
  | none => ofO (fIx x y h2)
section
variable {G : Gx} {ρ : List Addr} {h : Hi} {H : Hp} {W : WX} {X : Cx} {A : Around} {e a b c o i v : Expr} {es : List Expr} {pos p pos' apos : Pos} {me mi mo ma mb mv : ME} {mr : MA} {tbl : Nat → Option MF} {σ : L2.St}
theorem insC_ok {x : VI} {y : V} {cn : Nat} (ag : Ag G ρ h H) (r : RV G ρ H x y) (q : insC x h = some cn) : ∃ a C dx gs, y = .ref a ∧ G.ct cn = some C ∧ H a = some (.ins C dx gs) := by
  unfold insC at q
  cases r with
  | @ref n a e =>
    dsimp only at q
    cases q1 : h[n]? with
    | none => rw [q1] at q; cases q
    | some ob =>
      rw [q1] at q
      cases ob with
      | ins c fs =>
        cases q
        obtain ⟨C, dx, gs, hc, hH, _⟩ := insAt ag q1 e
        exact ⟨a, C, dx, gs, rfl, hc, hH⟩
      | _ => cases q
  | _ => cases q
theorem insC_look {pins : List (Addr × Obj)} {s : Shared} {a C dx : Addr} {gs : List (Str × V)} (I : Inv X pins σ H s) (hH : H a = some (.ins C dx gs)) : ∃ m, Fr X.base X.env.locals s.heap m ∧ ∃ ox od, PySem.W.InstAt s.heap a ox C od := by
  obtain ⟨mA, O, _, _, _, _⟩ := ins_get I.hok hH
  obtain ⟨od, J, _⟩ := O.look
  obtain ⟨m, hF⟩ := I.fr
  exact ⟨m, hF, _, _, J⟩
end
def dropV (σ : Sg) : Res VI → RS
  | .ok _ h => .nx σ h
  | .ex c n h => .ex c n σ h
  | .err => .err
def gIxU (tbl : Nat → Option MF) (o i : ME) : MG := fun v σ h => (o σ h).bindS σ fun x h1 => (i σ h1).bindS σ fun y h2 => match insC x h2 with
  | some c => match tbl c with
    | some g => dropV σ (g [x, y, v] h2)
    | none => .err
  | none => nxO σ (putIx x y v h2)
section
variable {G : Gx} {ρ : List Addr} {h : Hi} {H : Hp} {W : WX} {X : Cx} {A : Around} {e a b c o i v : Expr} {es : List Expr} {pos p pos' apos : Pos} {me mi mo ma mb mv : ME} {mr : MA} {tbl : Nat → Option MF}
end
end ML
end
section
namespace ML
open PySem L2 NdefX
open PyProof.Rows hiding wpAt
structure PSsT (X : Cx) (body st : List Stmt) (t : TS) : Prop where
  run : ∀ (pins : List (Addr × Obj)) (s : Shared) (σ : L2.St) (H : Hp) (D : Ends), Inv X pins σ H s → t D σ H → wpAt (model X.prog X.w) X.A (.func body X.env) (execs st X.env) (SP X pins D) X.xe s
structure PST (X : Cx) (body : List Stmt) (st : Stmt) (t : TS) : Prop where
  run : ∀ (pins : List (Addr × Obj)) (s : Shared) (σ : L2.St) (H : Hp) (D : Ends), Inv X pins σ H s → t D σ H → wpAt (model X.prog X.w) X.A (.func body X.env) (exec st X.env) (SP X pins D) X.xe s
theorem PSsT.of {X : Cx} {body st : List Stmt} {t : TS} (h : PSs X st t) : PSsT X body st t := ⟨fun pins s σ H D I q => wpAt_of_wpAny (h.run pins s σ H D I q)⟩
theorem PST.of {X : Cx} {body : List Stmt} {st : Stmt} {t : TS} (h : PS X st t) : PST X body st t := ⟨fun pins s σ H D I q => wpAt_of_wpAny (h.run pins s σ H D I q)⟩
theorem PSsT.imp' {X : Cx} {body st : List Stmt} {t t' : TS} (h : PSsT X body st t) (i : ∀ D σ H, t' D σ H → t D σ H) : PSsT X body st t' := ⟨fun pins s σ H D I q => h.run pins s σ H D I (i D σ H q)⟩
theorem PST.imp' {X : Cx} {body : List Stmt} {st : Stmt} {t t' : TS} (h : PST X body st t) (i : ∀ D σ H, t' D σ H → t D σ H) : PST X body st t' := ⟨fun pins s σ H D I q => h.run pins s σ H D I (i D σ H q)⟩
structure FunS (K : PySem.W.Frag) (x qual : Str) (params : Arguments) (body : List Stmt) (scope : Scope) (dvs : List V) (kws : List (Str × V)) (f : Addr) (fd : FuncData) (cc D c : Addr) (file : Str) : Prop where
  ex : ∃ (oc : Value) (od : Option Addr) (dV kV doc pm : Value) (an : Option Addr) (ct : Value) (osl : Array (Option Value)),
    fd = PySem.W.fnX x qual params body scope [("__class__", cc)] dV kV doc pm an (.ref c) ct ∧ K.lookup f = some ⟨oc, od, .func fd, osl⟩ ∧ DflV K dV dvs ∧ KwdV K kV kws
  code : PySem.W.codeIn K (.ref c) qual = true
  file : ∃ (o : Obj) (vs : Array Value) (tf : Tok), K.lookup c = some o ∧ o.data = .fields vs ∧ vs[2]? = some (.str file tf)
  cell : ∃ o : Obj, K.lookup cc = some o ∧ o.data = .cell (some (.ref D))
  kp : PySem.W.keepIn K (.ref f) = true
abbrev nfS (x qual : Str) (params : Arguments) (body : List Stmt) (scope : Scope) (cc c : Addr) : NF := ⟨x, qual, params, body, scope, [("__class__", cc)], c⟩
section
variable {P : Program} {w : World} {K : PySem.W.Frag} {mg : Str → Option Value} {base : Heap} {x qual : Str} {params : Arguments} {body : List Stmt} {scope : Scope} {dvs : List V} {kws : List (Str × V)} {f cc D c : Addr} {fd : FuncData} {file : Str} {N ps : List Str} {k : Nat} {sp : Sp} {CX : CXT}
theorem FunS.cells {A : Around} {outer : List Env} {s : Shared} {H : Hp} (F : FunS K x qual params body scope dvs kws f fd cc D c file) (e0 : Env0 P w K mg base A outer s H) : CellsAt [("__class__", cc)] ["__class__"] [some (.ref D)] s.heap H := by
  obtain ⟨o, lo, od⟩ := F.cell
  have hb := e0.mod.kin cc o lo
  obtain ⟨hs, hn⟩ := e0.bs cc o hb
  have cellAt : s.heap.IsCell cc (some (.ref D)) := ⟨o, hs, od⟩
  refine ⟨rfl, fun y c' e => ?_, fun x y c' e1 e2 => ?_, fun i y e => ?_⟩
  · simp only [List.lookup] at e
    split at e
    · cases e; exact ⟨hn, _, cellAt⟩
    · cases e
  · simp only [List.lookup] at e1 e2
    split at e1
    · rename_i h1
      split at e2
      · rename_i h2
        rw [beq_iff_eq.mp h1, beq_iff_eq.mp h2]
      · cases e2
    · cases e1
  · cases i with
    | zero =>
      simp at e
      subst e
      refine ⟨cc, by simp [List.lookup], fun v hv => ?_⟩
      simp at hv
      subst hv
      exact ⟨_, rfl, cellAt⟩
    | succ i => simp at e
theorem FunS.ok (F : FunS K x qual params body scope dvs kws f fd cc D c file) (S : NScope N ps ["__class__"] scope) (len : ∀ vs H Q E, sp vs H Q E → vs.length = ps.length)
    (hbody : ∀ (A : Around) (outer : List Env) (s : Shared) (H : Hp) (vs : List V) (Q : VK) (E : XK), Room k (A.deeper (envF (nfS x qual params body scope cc c) f s.heap.objs.size)) → sp vs H Q E →
      ∃ t, PSsT (ncx CX P w K mg base N (nfS x qual params body scope cc c) f A outer s H E) body body t ∧ t { nx := fun _ H' => Q .non H', rt := Q } (startF N vs [some (.ref D)]) H) : FnOk P w K mg base CX (k + 1) f fd ps sp := by
  obtain ⟨oc, od, dV, kV, doc, pm, an, ct, osl, rfl, lk, _, _⟩ := F.ex
  refine ⟨len, fun A outer s H args us vs Q E hr e0 hb r hsp => ?_⟩
  have hl := len _ _ _ _ hsp
  have KX : K.In s.heap := e0.mod.kin.keeps fun b o e => (e0.bs b o e).1
  have lim : s.heap.NoLimit := e0.mod.nolimit.keeps fun b o e => (e0.bs b o e).1
  refine ks_codeAny_call_defAt (body := body) (binds := ps.zip us) hr.depth (KX _ _ lk) rfl lim (PySem.W.codeRec_of KX F.code) rfl hb S.nocell (fun ⟨n, _⟩ hy => S.par n (List.of_mem_zip hy).1) (fun h₁ hns kp => ?_) S.co S.gen S.kind
  obtain ⟨t, ht, hq⟩ := hbody A outer s H vs Q E (hr.deeper _) hsp
  have I : Inv (ncx CX P w K mg base N (nfS x qual params body scope cc c) f A outer s H E) [] (startF N vs [some (.ref D)]) H { s with heap := h₁, toks := s.toks + (ps.zip us).length } := inv_startN S hr.hd e0 hl r (F.cells e0) hns kp
  refine ks_wpAt_mono (ht.run [] _ (startF N vs [some (.ref D)]) H _ I hq) (fun fl s' hs => ?_) fun e s' hs => hs
  have fin : ∀ {σ' : L2.St} {H' : Hp} {v : V} {u : Value}, Inv (ncx CX P w K mg base N (nfS x qual params body scope cc c) f A outer s H E) [] σ' H' s' → L2.RelV v u → Q v H' → CE outer P w H s Q u s' :=
    fun {σ' H' v u} J rv q => ⟨v, H', J.os, J.bare, J.base, J.hok, rv, q⟩
  cases fl with
  | ret u =>
    obtain ⟨v, σ', H', J, rv, q⟩ := hs
    exact fin J rv q
  | next =>
    obtain ⟨σ', H', J, q⟩ := hs
    exact fin (v := V.non) (u := Value.none) J rfl q
  | brk =>
    obtain ⟨_, _, _, q⟩ := hs
    exact False.elim q
  | cont =>
    obtain ⟨_, _, _, q⟩ := hs
    exact False.elim q
end
end ML
end
section
namespace ML
open PySem L2 NdefX
open PyProof.Rows hiding wpAt
theorem boot_super : bootBuiltins "super" = some (.type "super") := by decide +kernel
theorem load_slot {X : Cx} {pins : List (Addr × Obj)} {σ : L2.St} {H : Hp} {s : Shared} {i : Nat} {x : Str} {v : V} {E : Value → Shared → Prop} {Q : Value → Shared → Prop} (I : Inv X pins σ H s) (hN : X.N[i]? = some x) (e : σ[i]? = some (some v)) (hv : Vis X.env.scope x) (hcd : (x == ("__classdict__" : Str)) = false)
    (h : ∀ u, RelV v u → Q u s) : wpAny (model X.prog X.w) X.A (loadName X.env x) Q E s := by
  obtain ⟨m, hn, hl⟩ := I.loc
  obtain ⟨u, r, l⟩ := hl i x v hN e hv
  rcases l with ⟨hk, hm⟩ | ⟨hk, c, hc, hcell⟩
  · exact wpAny_loadName_local I.ok.kind hk hn hm (h u r)
  · rcases hk with hk | hk
    · exact wpAny_loadName_cell I.ok.kind hk hc hcell (h u r)
    · exact wpAny_loadName_free I.ok.kind hk hc hcell (h u r) hcd
theorem load_blt {X : Cx} {pins : List (Addr × Obj)} {s : Shared} {σ : L2.St} {H : Hp} {x : Str} {u : Value} {E : Value → Shared → Prop} {Q : Value → Shared → Prop} (I : Inv X pins σ H s) (hg : Gl X x) (hm : X.mg x = none) (hv : bootBuiltins x = some u) (hn : x ≠ "__name__") (h : Q u s) : wpAny (model X.prog X.w) X.A (loadName X.env x) Q E s := by
  obtain ⟨mb, h1, h2⟩ := I.mod.blt
  exact PySem.W.ks_loadName_global I.ok.kind hg (Calls.loadGlobal_builtin (by rw [I.ok.glob]; exact I.mod.glob.keeps I.bk) hm (by rw [I.ok.blt]; exact h1.keeps I.bk) ((h2 x hn).trans hv) h)
def CodeM (X : Cx) (G : Gx) (W : WX) (fv : Value) (g : MF) : Prop :=
  ∀ (pins : List (Addr × Obj)) (s : Shared) (σ : L2.St) (H : Hp) (us : List Value) (vs : List V) (args : List VI) (ρ : List Addr) (h : Hi) (Q : VK), Inv X pins σ H s → Vals vs us → RVs G ρ H args vs → Ag G ρ h H →
    FinG G ρ H (RV G) Q (fun c d H' => W c d σ H') (g args h) → codeAny (model X.prog X.w) X.A (.call fv ⟨us, []⟩) (fun r s' => match r with | .ok (.ret v) => EP X pins σ Q v s' | .ok _ => False | .error e => X.xe e s') s
theorem FnP.code {X : Cx} {G : Gx} {W : WX} {k : Nat} {f : Addr} {fd : FuncData} {ps : List Str} {g : MF} (F : FnP X G k f fd ps g) (hb : Binds X.K fd ps []) (tk : Takes X W) : CodeM X G W (.ref f) g := by
  intro pins s σ H us vs args ρ h Q I r ra ag fin
  by_cases hl : args.length = ps.length
  · have hsp : spM G ps.length g vs H Q (WE W σ) := ⟨ρ, h, args, hl, ag, ra, fin⟩
    have lu : us.length = ps.length := by rw [← r.length, ← ra.length]; exact hl
    have b := hb s us I.kIn (by rw [List.append_nil]; exact lu)
    rw [List.append_nil] at b
    refine codeAny_mono (F.ok.run _ _ s H ⟨us, []⟩ us vs Q (WE W σ) (F.room.mono (by omega)) I.env0 b r hsp) fun res s' hq => ?_
    match res, hq with
    | .error e, hq => exact passAt tk σ pins H s e s' I hq
    | .ok (.ret u), hq => exact I.after hq
  · rw [F.ar args h hl] at fin
    exact fin.elim
structure SupOk (X : Cx) (G : Gx) (W : WX) (known : Nat → Bool) (f D : Addr) (slf : Str) (g : MF) : Prop where
  fn : X.env.func = some f
  at_ : ∃ (o : Obj) (fd : FuncData) (ar : Arg), X.K.lookup f = some o ∧ o.data = .func fd ∧ (fd.params.posonlyargs ++ fd.params.args).head? = some ar ∧ ar.arg = slf
  code : ∃ (c : Addr) (o : Obj) (vs : Array Value) (file : Str) (tf : Tok), X.env.code = .ref c ∧ X.K.lookup c = some o ∧ o.data = .fields vs ∧ vs[2]? = some (.str file tf) ∧ ((X.prog.main.file : Str) == file) = true
  top : (X.prog.main.scope.names.lookup ("super" : Str)).isSome = false
  cls : ∃ cd, PySem.W.clsIn X.K D = some cd
  any : PySem.W.nsIn X.K cStatics "thirdparty.any" = some none
  sub : ∀ c C, known c = true → G.ct c = some C → (∃ cd, PySem.W.clsIn X.K C = some cd) ∧ PySem.W.mroIn X.K C (.ref D) = some true ∧ ∃ f2, PySem.W.ks_superIn X.K C D "__init__" = some (some (.ref f2)) ∧ PySem.W.typeIn X.K (.ref f2) = some (.type "function") ∧ PySem.W.fnIn X.K f2 = true ∧ CodeM X G W (.ref f2) g
def sSuper (known : Nat → Bool) (i : Nat) (g : MF) (ma : MA) : MS := fun σ h => match σ[i]? with
  | some (some (.ref n)) => match h[n]? with
    | some (.ins c _) => match known c with
      | true => (ma σ h).bindS σ fun vs h1 => dropV σ (g (.ref n :: vs) h1)
      | false => .err
    | _ => .err
  | _ => .err
section
variable {G : Gx} {W : WX} {X : Cx} {body : List Stmt} {known : Nat → Bool} {f D : Addr} {slf : Str} {g : MF} {i j : Nat} {e : Expr} {es : List Expr} {ma : MA} {p0 p1 apos cpos spos : Pos}
end
section
variable {P : Program} {w : World} {K : PySem.W.Frag} {mg : Str → Option Value} {base : Heap} {x qual : Str} {params : Arguments} {body : List Stmt} {scope : Scope} {dvs : List V} {kws : List (Str × V)} {f cc D c : Addr} {fd : FuncData} {file : Str} {N ps : List Str} {k n : Nat} {G : Gx} {mb : MS}
end
end ML
end
section
namespace MB
open PySem L2
end MB
namespace ML
open PySem L2 PyProof.Rows
section
variable {X : Cx} {e : Expr} {x : Str} {p pos kp : Pos} {fv : Value} {td : TE}
end
def keysAre : List S → List (VI × VI) → Bool
  | [], [] => true
  | s :: ss, (.str t, _) :: r => decide (s = t) && keysAre ss r
  | _, _ => false
def eKwD (ks : List S) (gk : MK) (e : ME) : ME := fun σ h => (e σ (h ++ [.dic []])).bind fun x h1 => match x with
  | .ref m => match Nat.beq m h.length, h1[h.length]?, h1[m]? with
    | false, some (.dic []), some (.dic kvs) => match keysAre ks kvs with
      | true => gk [] (kvs.map (·.2)) (h1.set h.length (.dic (putAll kvs [])))
      | false => .err
    | _, _, _ => .err
  | _ => .err
section
variable {G : Gx} {ρ : List Addr} {h : Hi} {H : Hp} {W : WX} {X : Cx} {e : Expr} {x : Str} {p pos kp : Pos} {fv : Value} {ks : List S} {gk : MK} {me : ME}
end
def gSeq : List MG → List VI → Sg → Hi → RS
  | [], [], σ, h => .nx σ h
  | g :: gs, v :: vs, σ, h => (g v σ h).andThen fun σ1 h1 => gSeq gs vs σ1 h1
  | _, _, _, _ => .err
def gTupM (gs : List MG) : MG := fun v σ h => match v with
  | .tup xs => match Nat.beq xs.length gs.length with
    | true => gSeq gs xs σ h
    | false => .err
  | _ => .err
section
variable {G : Gx} {ρ : List Addr} {h : Hi} {H : Hp} {W : WX} {X : Cx} {e : Expr} {es : List Expr} {pos : Pos} {g : MG} {gs : List MG} {k n : Nat}
theorem PGs.imp' {t t' : TGs} (h : PGs X es t) (i : ∀ vs σ H Q, t' vs σ H Q → t vs σ H Q) : PGs X es t' := ⟨fun pins s σ H vs us Q I r q => h.run pins s σ H vs us Q I r (i vs σ H Q q)⟩
end
end ML
end
section
namespace ML
open PySem PySem.Spec PyProof.Rows L2 He
def lkT {α : Type} : List (Nat × α) → Nat → Option α
  | [], _ => none
  | (d, x) :: r, c => match Nat.beq d c with
    | true => some x
    | false => lkT r c
theorem lkT_cons {α : Type} {d c : Nat} {x g : α} {r : List (Nat × α)} (h : lkT ((d, x) :: r) c = some g) : (c = d ∧ g = x) ∨ lkT r c = some g := by
  unfold lkT at h
  cases q : Nat.beq d c with
  | true => rw [q] at h; exact .inl ⟨(Nat.eq_of_beq_eq_true q).symm, (Option.some.inj h).symm⟩
  | false => rw [q] at h; exact .inr h
abbrev GxOf (w : World) (K : PySem.W.Frag) (mg : Str → Option Value) (nm : Nat → Option Str) : Gx := ⟨w, K, mg, fun c => (nm c).map (ga K)⟩
theorem gx_ct {w : World} {K : PySem.W.Frag} {mg : Str → Option Value} {nm : Nat → Option Str} {c : Nat} {C : Addr} {x : Str} (h : (GxOf w K mg nm).ct c = some C) (e : nm c = some x) : C = ga K x := by
  have h' : (nm c).map (ga K) = some C := h
  rw [e] at h'
  exact (Option.some.inj h').symm
def viAll (f : VI → Value → Bool) : List VI → List Value → Bool
  | [], [] => true
  | v :: vs, u :: us => f v u && viAll f vs us
  | _, _ => false
def viB : Nat → PySem.W.Frag → VI → Value → Bool
  | 0, _, _, _ => false
  | n + 1, K, v, u => match v, u with
    | .non, .none => true
    | .bl a, .bool b => a == b
    | .int i, .int j _ => decide (i = j)
    | .str s, .str x _ => decide (x = toStr s)
    | .glo g, .ref a => eqO (PySem.W.nsIn K mainGlobals (toStr g)) (some (some (.ref a)))
    | .tup xs, .ref a => (match K.lookup a with
      | some ⟨.type c, _, .seq its _, _⟩ => decide (c = "tuple") && (decide (its.size ≤ sizeLine) && viAll (viB n K) xs its.toList)
      | _ => false)
    | _, _ => false
section
variable {w : World} {K : PySem.W.Frag} {h : Heap} {mg : Str → Option Value} {nm : Nat → Option Str}
theorem viAll_ok {f : VI → Value → Bool} (ih : ∀ v u, f v u = true → ∃ x, RelV x u ∧ ∀ ρ H, RV (GxOf w K mg nm) ρ H v x) : ∀ {vs : List VI} {us : List Value}, viAll f vs us = true → ∃ xs, Vals xs us ∧ ∀ ρ H, RVs (GxOf w K mg nm) ρ H vs xs
  | [], [], _ => ⟨[], .nil, fun _ _ => .nil⟩
  | v :: vs, u :: us, e => by
    obtain ⟨e1, e2⟩ := ba (show (f v u && viAll f vs us) = true from e)
    obtain ⟨x, r, rv⟩ := ih v u e1
    obtain ⟨xs, rs, rvs⟩ := viAll_ok ih e2
    exact ⟨x :: xs, .cons r rs, fun ρ H => .cons (rv ρ H) (rvs ρ H)⟩
  | [], _ :: _, e => nomatch e
  | _ :: _, [], e => nomatch e
theorem viB_ok (X : K.In h) (Gn : h.Ns mainGlobals mg) : ∀ (n : Nat) (v : VI) (u : Value), viB n K v u = true → ∃ x, RelV x u ∧ ∀ ρ H, RV (GxOf w K mg nm) ρ H v x
  | 0, _, _, e => nomatch e
  | n + 1, v, u, e => by
    unfold viB at e
    split at e
    · exact ⟨.non, rfl, fun _ _ => .non⟩
    · rename_i a b
      rw [eq_of_beq e]
      exact ⟨.bl b, rfl, fun _ _ => .bl b⟩
    · rename_i i j t
      rw [of_decide_eq_true e]
      exact ⟨.int j, ⟨t, rfl⟩, fun _ _ => .int j⟩
    · rename_i s x t
      have := of_decide_eq_true e
      subst this
      exact ⟨.str (toStr s), ⟨t, rfl⟩, fun _ _ => .str rfl⟩
    · rename_i g a
      exact ⟨.ref a, rfl, fun _ _ => .glo (PySem.W.mg_of X Gn (eqO_ok e))⟩
    · rename_i xs a
      split at e
      · rename_i c dd its m sl q
        obtain ⟨h1, h2⟩ := ba e
        obtain ⟨h3, h4⟩ := ba h2
        obtain ⟨ys, rs, rvs⟩ := viAll_ok (fun v u => viB_ok X Gn n v u) h4
        refine ⟨.ref a, rfl, fun ρ H => .tup (ys := ys) (.inr ⟨_, its, m, q, congrArg Value.type (of_decide_eq_true h1), rfl, of_decide_eq_true h3, rs⟩) (rvs ρ H)⟩
      · cases e
    · cases e
def fldB (K : PySem.W.Frag) (x f : Str) : Bool := (Fa.cls x).ok K && (Fa.noat x f).ok K
theorem fldOk_nil {f : S} : FldOk K (GxOf w K mg nm) [] f := fun c C h _ => nomatch h
theorem fldOk_cons {f : S} {c : Nat} {x : Str} {r : List Nat} (hn : nm c = some x) (hB : fldB K x (toStr f) = true) (t : FldOk K (GxOf w K mg nm) r f) : FldOk K (GxOf w K mg nm) (c :: r) f := fun d C h e => by
  rw [List.contains_cons] at h
  rcases Bool.or_eq_true_iff.mp h with q | q
  · have hd : d = c := by simpa using q
    subst hd
    rw [gx_ct e hn]
    obtain ⟨b1, b2⟩ := ba hB
    exact ⟨cls_ok b1, noat_ok b2⟩
  · exact t d C q e
def methB (K : PySem.W.Frag) (x m : Str) (d : PySem.W.Frag → Addr) : Bool := (Fa.cls x).ok K && (eqO (PySem.W.findIn K (.ref (ga K x)) m) (some (some (.ref (d K)))) && (PySem.W.isFn K (.ref (d K)) && PySem.W.keepIn K (.ref (d K))))
theorem methOk_nil {Y : Cx} {W : WX} {m : S} : MethOk Y (GxOf Y.w Y.K mg nm) W (lkT []) m := fun c C v h _ => nomatch h
theorem methOk_cons {Y : Cx} {W : WX} {m : S} {c : Nat} {g : MF} {x : Str} {d : PySem.W.Frag → Addr} {r : List (Nat × MF)} (hn : nm c = some x) (hB : methB Y.K x (toStr m) d = true) (cm : CallM Y (GxOf Y.w Y.K mg nm) W (.ref (d Y.K)) g)
    (t : MethOk Y (GxOf Y.w Y.K mg nm) W (lkT r) m) : MethOk Y (GxOf Y.w Y.K mg nm) W (lkT ((c, g) :: r)) m := fun c' C w h e => by
  rcases lkT_cons h with ⟨q1, q2⟩ | q
  · subst q1 q2
    rw [gx_ct e hn]
    obtain ⟨b1, b2⟩ := ba hB
    obtain ⟨b3, b4⟩ := ba b2
    obtain ⟨b5, b6⟩ := ba b4
    exact ⟨cls_ok b1, _, ⟨eqO_ok b3, b5, b6⟩, cm⟩
  · exact t c' C w q e
def spB (K : PySem.W.Frag) (x m : Str) (d : PySem.W.Frag → Addr) : Bool := PySem.W.noSeq K (ga K x) && (eqO (PySem.W.findIn K (.ref (ga K x)) m) (some (some (.ref (d K)))) && (PySem.W.fnIn K (d K) && PySem.W.isFn K (.ref (d K))))
theorem spOk_nil {Y : Cx} {A : Around} {W : WX} {m : Str} : SpOk Y A (GxOf Y.w Y.K mg nm) W (lkT []) m := ⟨fun c C v h _ => nomatch h⟩
theorem spOk_cons {Y : Cx} {A : Around} {W : WX} {m : Str} {c : Nat} {g : MF} {x : Str} {d : PySem.W.Frag → Addr} {r : List (Nat × MF)} (hn : nm c = some x) (hB : spB Y.K x m d = true) (cm : CallAt Y A (GxOf Y.w Y.K mg nm) W (.ref (d Y.K)) g)
    (t : SpOk Y A (GxOf Y.w Y.K mg nm) W (lkT r) m) : SpOk Y A (GxOf Y.w Y.K mg nm) W (lkT ((c, g) :: r)) m := ⟨fun c' C w h e => by
  rcases lkT_cons h with ⟨q1, q2⟩ | q
  · subst q1 q2
    rw [gx_ct e hn]
    obtain ⟨b1, b2⟩ := ba hB
    obtain ⟨b3, b4⟩ := ba b2
    obtain ⟨b5, b6⟩ := ba b4
    exact ⟨_, b1, eqO_ok b3, b5, b6, cm⟩
  · exact t.at_ c' C w q e⟩
inductive ClsR where
  | ty (n : String) | own (x : Str)
def ClsR.val (K : PySem.W.Frag) : ClsR → Value
  | .ty n => .type n
  | .own x => .ref (ga K x)
def ClsR.v (K : PySem.W.Frag) : ClsR → V
  | .ty n => .ty n
  | .own x => .ref (ga K x)
theorem ClsR.ok (K : PySem.W.Frag) (c : ClsR) : ClsV (c.v K) (c.val K) := by
  cases c with
  | ty n => exact .ty n
  | own x => exact .own _
theorem ClsR.all (K : PySem.W.Frag) : ∀ cs : List ClsR, Paired ClsV (cs.map (ClsR.v K)) (cs.map (ClsR.val K))
  | [] => .nil
  | c :: r => .cons (c.ok K) (ClsR.all K r)
def isT1 (K : PySem.W.Frag) (cs : List ClsR) (T : String) (o : Option Bool) : Bool := match o with
  | some b => decide (PySem.W.kitAny K (.type T) (cs.map (ClsR.val K)) = some b)
  | none => true
def isI (K : PySem.W.Frag) (nm : Nat → Option Str) (cs : List ClsR) : List (Nat × Bool) → Bool
  | [] => true
  | (c, b) :: r => (match nm c with
    | some x => (Fa.cls x).ok K && (eqO (PySem.W.findIn K (.ref (ga K x)) "__class__") (some (some (.builtin "object.__class__"))) && (decide (PySem.W.mroIn K (ga K x) (.type "object") = some true) && decide (PySem.W.kitAny K (.ref (ga K x)) (cs.map (ClsR.val K)) = some b)))
    | none => false) && isI K nm cs r
structure IsS where
  non : Option Bool
  bl : Option Bool
  int : Option Bool
  str : Option Bool
  lst : Option Bool
  tup : Option Bool
  dic : Option Bool
  ins : List (Nat × Bool)
def IsS.t (s : IsS) : IsT := ⟨s.non, s.bl, s.int, s.str, s.lst, s.tup, s.dic, lkT s.ins⟩
def isB (K : PySem.W.Frag) (nm : Nat → Option Str) (cs : List ClsR) (s : IsS) : Bool := (isT1 K cs "NoneType" s.non && (isT1 K cs "bool" s.bl && (isT1 K cs "int" s.int && (isT1 K cs "str" s.str && (isT1 K cs "list" s.lst && (isT1 K cs "tuple" s.tup && (isT1 K cs "dict" s.dic))))))) &&
  (isI K nm cs s.ins && (eqO (PySem.W.specialIn K (.builtin "object.__class__") "__get__") (some (some (.builtin "getset_descriptor.__get__"))) && decide (PySem.W.takesIn K (.builtin "object.__class__") = some true)))
theorem isT1_ok {cs : List ClsR} {T : String} {o : Option Bool} (h : isT1 K cs T o = true) : ∀ b, o = some b → PySem.W.kitAny K (.type T) (cs.map (ClsR.val K)) = some b := fun b e => by
  subst e
  exact of_decide_eq_true h
theorem isI_ok {cs : List ClsR} : ∀ {l : List (Nat × Bool)}, isI K nm cs l = true → ∀ c C b, lkT l c = some b → (GxOf w K mg nm).ct c = some C → Cls K C ∧ PySem.W.findIn K (.ref C) "__class__" = some (some (.builtin "object.__class__")) ∧ PySem.W.mroIn K C (.type "object") = some true ∧ PySem.W.kitAny K (.ref C) (cs.map (ClsR.val K)) = some b
  | [], _, c, C, b, h, _ => nomatch h
  | (d, v) :: r, hB, c, C, b, h, e => by
    obtain ⟨b1, b2⟩ := ba hB
    rcases lkT_cons h with ⟨q1, q2⟩ | q
    · subst q1 q2
      cases z : nm c with
      | none => rw [z] at b1; cases b1
      | some x =>
        rw [z] at b1
        obtain ⟨b3, b4⟩ := ba b1
        obtain ⟨b5, b6⟩ := ba b4
        obtain ⟨b7, b8⟩ := ba b6
        rw [gx_ct e z]
        exact ⟨cls_ok b3, eqO_ok b5, of_decide_eq_true b7, of_decide_eq_true b8⟩
    · exact isI_ok b2 c C b q e
theorem isOk_of {cs : List ClsR} {s : IsS} (h : isB K nm cs s = true) : IsOk K (GxOf w K mg nm) (cs.map (ClsR.val K)) s.t := by
  obtain ⟨h1, h2⟩ := ba h
  obtain ⟨a1, h1⟩ := ba h1
  obtain ⟨a2, h1⟩ := ba h1
  obtain ⟨a3, h1⟩ := ba h1
  obtain ⟨a4, h1⟩ := ba h1
  obtain ⟨a5, h1⟩ := ba h1
  obtain ⟨a6, a7⟩ := ba h1
  obtain ⟨b1, b2⟩ := ba h2
  obtain ⟨b3, b4⟩ := ba b2
  exact ⟨isT1_ok a1, isT1_ok a2, isT1_ok a3, isT1_ok a4, isT1_ok a5, isT1_ok a6, isT1_ok a7, isI_ok b1, eqO_ok b3, of_decide_eq_true b4⟩
end
end ML
end
section
namespace ML
open PySem PySem.Spec PyProof.Rows L2 He
def lkS {α : Type} : List (S × α) → S → Option α
  | [], _ => none
  | (d, x) :: r, c => match decide (d = c) with
    | true => some x
    | false => lkS r c
section
variable {w : World} {K : PySem.W.Frag} {h : Heap} {mg : Str → Option Value} {nm : Nat → Option Str}
end
structure GDef where
  at_ : PySem.W.Frag → Addr
  name : Str
  qual : Str
  params : Arguments
  body : List Stmt
  scope : Scope
  dfl : List Dv := []
  kwd : List (Str × Dv) := []
def fnG (K : PySem.W.Frag) (p : PySem.W.Frag → Addr) : FnW := match K.lookup (p K) with
  | some ⟨_, _, .func fd, _⟩ => some (fd.name, fd.qualname, fd.params, fd.body, fd.scope, fd.globals, fd.closure, fd.builtins)
  | _ => none
def GDef.val (d : GDef) : FnW := some (d.name, d.qual, d.params, .stmts d.body, d.scope, mainGlobals, [], builtinsNs)
def GDef.dvs (K : PySem.W.Frag) (d : GDef) : List V := d.dfl.map (Dv.v K)
def GDef.kws (K : PySem.W.Frag) (d : GDef) : List (Str × V) := d.kwd.map fun q => (q.1, q.2.v K)
def GDef.ok (K : PySem.W.Frag) (d : GDef) : Bool := PySem.W.keepIn K (.ref (d.at_ K)) && (match K.lookup (d.at_ K) with
  | some ⟨_, _, .func fd, _⟩ => PySem.W.codeIn K fd.code d.qual && (dflB K fd.defaults (d.dvs K) && kwdB K fd.kwdefaults (d.kws K))
  | _ => false)
theorem GDef.funD {K : PySem.W.Frag} {d : GDef} (e : fnG K d.at_ = d.val) (c : d.ok K = true) : ∃ fd, FunD K d.name d.qual d.params d.body d.scope (d.dvs K) (d.kws K) (d.at_ K) fd := by
  obtain ⟨kp, c2⟩ := ba c
  unfold fnG at e
  cases q : K.lookup (d.at_ K) with
  | none => rw [q] at c2; cases c2
  | some o =>
    obtain ⟨oc, od, dt, osl⟩ := o
    rw [q] at c2 e
    cases dt with
    | func fd =>
      obtain ⟨n1, n2, n3, n4, n5, n6, n7, n8, n9, n10, n11, n12, n13, n14, n15⟩ := fd
      have e2 : (some (n1, n2, n3, n4, n5, n6, n7, n15) : FnW) = some (d.name, d.qual, d.params, .stmts d.body, d.scope, mainGlobals, [], builtinsNs) := e
      simp only [Option.some.injEq, Prod.mk.injEq] at e2
      obtain ⟨h1, h2, h3, h4, h5, h6, h7, h8⟩ := e2
      subst h1 h2 h3 h4 h5 h6 h7 h8
      obtain ⟨k1, k2⟩ := ba (show (PySem.W.codeIn K n13 d.qual && (dflB K n8 (d.dvs K) && kwdB K n9 (d.kws K))) = true from c2)
      obtain ⟨k3, k4⟩ := ba k2
      exact ⟨_, ⟨oc, od, n8, n9, n10, n11, n12, n13, n14, osl, rfl, q, k1, dflB_ok k3, kwdB_ok k4⟩, kp⟩
    | _ => cases c2
structure SDef where
  at_ : PySem.W.Frag → Addr
  name : Str
  qual : Str
  params : Arguments
  body : List Stmt
  scope : Scope
  kwd : List (Str × Dv) := []
  cls : Str
  file : Str
abbrev FnS : Type := Option (Str × Str × Arguments × FuncBody × Scope × Addr × Addr)
def fnS (K : PySem.W.Frag) (p : PySem.W.Frag → Addr) : FnS := match K.lookup (p K) with
  | some ⟨_, _, .func fd, _⟩ => some (fd.name, fd.qualname, fd.params, fd.body, fd.scope, fd.globals, fd.builtins)
  | _ => none
def SDef.val (d : SDef) : FnS := some (d.name, d.qual, d.params, .stmts d.body, d.scope, mainGlobals, builtinsNs)
def SDef.kws (K : PySem.W.Frag) (d : SDef) : List (Str × V) := d.kwd.map fun q => (q.1, q.2.v K)
def fdOf (K : PySem.W.Frag) (p : PySem.W.Frag → Addr) : FuncData := match K.lookup (p K) with
  | some ⟨_, _, .func fd, _⟩ => fd
  | _ => PySem.W.fnX Str.empty Str.empty ⟨[], [], none, [], [], none, []⟩ [] ⟨.function, [], false, false, []⟩ [] .none .none .none .none none .none .none
def cdAd (K : PySem.W.Frag) (p : PySem.W.Frag → Addr) : Addr := match (fdOf K p).code with
  | .ref c => c
  | _ => 0
def clAd (K : PySem.W.Frag) (p : PySem.W.Frag → Addr) : Addr := match (fdOf K p).closure with
  | [(_, c)] => c
  | _ => 0
def SDef.ok (K : PySem.W.Frag) (d : SDef) : Bool := PySem.W.keepIn K (.ref (d.at_ K)) && ((match K.lookup (d.at_ K) with
  | some ⟨_, _, .func fd, _⟩ => decide (fd.closure = [(("__class__" : Str), clAd K d.at_)]) && (decide (fd.code = .ref (cdAd K d.at_)) && (dflB K fd.defaults [] && kwdB K fd.kwdefaults (d.kws K)))
  | _ => false) && (PySem.W.codeIn K (.ref (cdAd K d.at_)) d.qual && ((match K.lookup (cdAd K d.at_) with
    | some ⟨_, _, .fields vs, _⟩ => (match (vs[2]? : Option Value) with
      | some (.str f _) => decide (f = d.file)
      | _ => false)
    | _ => false) && (match K.lookup (clAd K d.at_) with
      | some ⟨_, _, .cell (some (.ref D)), _⟩ => decide (D = ga K d.cls)
      | _ => false))))
theorem SDef.funS {K : PySem.W.Frag} {d : SDef} (e : fnS K d.at_ = d.val) (c : d.ok K = true) : FunS K d.name d.qual d.params d.body d.scope [] (d.kws K) (d.at_ K) (fdOf K d.at_) (clAd K d.at_) (ga K d.cls) (cdAd K d.at_) d.file := by
  obtain ⟨kp, c⟩ := ba c
  obtain ⟨c1, c⟩ := ba c
  obtain ⟨c2, c⟩ := ba c
  obtain ⟨c3, c4⟩ := ba c
  refine ⟨?_, c2, ?_, ?_, kp⟩
  · unfold fnS at e
    unfold fdOf
    cases q : K.lookup (d.at_ K) with
    | none => rw [q] at c1; cases c1
    | some o =>
      obtain ⟨oc, od, dt, osl⟩ := o
      rw [q] at c1 e
      cases dt with
      | func fd =>
        obtain ⟨n1, n2, n3, n4, n5, n6, n7, n8, n9, n10, n11, n12, n13, n14, n15⟩ := fd
        have e2 : (some (n1, n2, n3, n4, n5, n6, n15) : FnS) = some (d.name, d.qual, d.params, .stmts d.body, d.scope, mainGlobals, builtinsNs) := e
        simp only [Option.some.injEq, Prod.mk.injEq] at e2
        obtain ⟨h1, h2, h3, h4, h5, h6, h8⟩ := e2
        subst h1 h2 h3 h4 h5 h6 h8
        obtain ⟨k1, c5⟩ := ba (show (decide (n7 = [(("__class__" : Str), clAd K d.at_)]) && (decide (n13 = .ref (cdAd K d.at_)) && (dflB K n8 [] && kwdB K n9 (d.kws K)))) = true from c1)
        obtain ⟨k2, c6⟩ := ba c5
        obtain ⟨k3, k4⟩ := ba c6
        have k1 := of_decide_eq_true k1
        have k2 := of_decide_eq_true k2
        subst k1 k2
        exact ⟨oc, od, n8, n9, n10, n11, n12, n14, osl, rfl, rfl, dflB_ok k3, kwdB_ok k4⟩
      | _ => cases c1
  · cases q : K.lookup (cdAd K d.at_) with
    | none => rw [q] at c3; cases c3
    | some o =>
      obtain ⟨oc, od, dt, osl⟩ := o
      rw [q] at c3
      cases dt with
      | fields vs =>
        dsimp only at c3
        split at c3
        · rename_i f t z
          rw [← of_decide_eq_true c3]
          exact ⟨_, vs, t, rfl, rfl, z⟩
        · cases c3
      | _ => cases c3
  · split at c4
    · rename_i D sl q
      rw [← of_decide_eq_true c4]
      exact ⟨_, q, rfl⟩
    · cases c4
def noLstB (K : PySem.W.Frag) : Bool := K.all fun p => match p.2.cls with
  | .type t => !decide (t = "list")
  | _ => true
theorem mem_lk {a : Addr} {o : Obj} : ∀ {K : List (Addr × Obj)}, K.lookup a = some o → (a, o) ∈ K
  | [], h => by cases h
  | (b, u) :: r, h => by
    rw [List.lookup_cons] at h
    cases q : a == b with
    | true =>
      rw [q] at h
      cases h
      rw [beq_iff_eq.mp q]
      exact List.mem_cons_self
    | false =>
      rw [q] at h
      exact List.mem_cons_of_mem _ (mem_lk h)
theorem noLst_ok {K : PySem.W.Frag} (h : noLstB K = true) {a : Addr} {o : Obj} (e : K.lookup a = some o) : o.cls ≠ .type "list" := fun z => by
  have m : (a, o) ∈ K := mem_lk e
  have := List.all_eq_true.mp h _ m
  dsimp only at this
  rw [z] at this
  cases this
structure MSpec where
  fn : List GDef
  sf : List SDef
  ts : List Tab
  ex : List (PySem.W.Frag → Bool)
abbrev AlM : Type := Bool × List FnW × List FnS × List (Option (List (Option (Str × Int))))
def obsM (m : MSpec) (K : PySem.W.Frag) : AlM := ((m.ex.all fun f => f K) && ((m.fn.all fun d => d.ok K) && (m.sf.all fun d => d.ok K)), m.fn.map fun d => fnG K d.at_, m.sf.map fun d => fnS K d.at_, m.ts.map fun t => dicW K (t.1 K))
def valM (m : MSpec) (w : World) : AlM := (true, m.fn.map GDef.val, m.sf.map SDef.val, m.ts.map fun t => some (keysIn w.params t.2))
def SaysM (m : MSpec) (w : World) (K : PySem.W.Frag) : Prop := obsM m K = valM m w
section
variable {m : MSpec} {w : World} {K : PySem.W.Frag}
theorem SaysM.b (c : SaysM m w K) : (m.ex.all fun f => f K) = true ∧ (m.fn.all fun d => d.ok K) = true ∧ (m.sf.all fun d => d.ok K) = true := by
  have e : ((m.ex.all fun f => f K) && ((m.fn.all fun d => d.ok K) && (m.sf.all fun d => d.ok K))) = true := congrArg (fun z : AlM => z.1) c
  obtain ⟨e1, e2⟩ := ba e
  obtain ⟨e3, e4⟩ := ba e2
  exact ⟨e1, e3, e4⟩
theorem SaysM.ex (c : SaysM m w K) (i : Nat) {f : PySem.W.Frag → Bool} (h : m.ex[i]? = some f := by rfl) : f K = true := List.all_eq_true.mp c.b.1 f (List.mem_of_getElem? h)
theorem SaysM.def_ (c : SaysM m w K) (i : Nat) {d : GDef} (h : m.fn[i]? = some d := by rfl) : FunD K d.name d.qual d.params d.body d.scope (d.dvs K) (d.kws K) (d.at_ K) (fdOf K d.at_) := by
  have e : m.fn.map (fun d => fnG K d.at_) = m.fn.map GDef.val := congrArg (fun z : AlM => z.2.1) c
  have e2 : (m.fn.map fun d => fnG K d.at_)[i]? = (m.fn.map GDef.val)[i]? := by rw [e]
  rw [List.getElem?_map, List.getElem?_map, h] at e2
  obtain ⟨fd, F⟩ := GDef.funD (Option.some.inj e2) (List.all_eq_true.mp c.b.2.1 d (List.mem_of_getElem? h))
  have : fdOf K d.at_ = fd := by
    obtain ⟨oc, od, dV, kV, doc, pm, an, cdv, ct, osl, _, lk, _⟩ := F.ex
    unfold fdOf
    rw [lk]
  rw [this]
  exact F
theorem SaysM.sup (c : SaysM m w K) (i : Nat) {d : SDef} (h : m.sf[i]? = some d := by rfl) : FunS K d.name d.qual d.params d.body d.scope [] (d.kws K) (d.at_ K) (fdOf K d.at_) (clAd K d.at_) (ga K d.cls) (cdAd K d.at_) d.file := by
  have e : m.sf.map (fun d => fnS K d.at_) = m.sf.map SDef.val := congrArg (fun z : AlM => z.2.2.1) c
  have e2 : (m.sf.map fun d => fnS K d.at_)[i]? = (m.sf.map SDef.val)[i]? := by rw [e]
  rw [List.getElem?_map, List.getElem?_map, h] at e2
  exact SDef.funS (Option.some.inj e2) (List.all_eq_true.mp c.b.2.2 d (List.mem_of_getElem? h))
end
end ML
end
section
namespace ML
open PySem PySem.Spec PyProof.Rows L2 He
abbrev Defn := PySem.W.Frag → Addr
abbrev gA (x : Str) : Defn := fun K => ga K x
abbrev mA (x m : Str) : Defn := fun K => He.ma K (ga K x) m
structure Ev (m : MSpec) (w : World) (K : PySem.W.Frag) (mg : Str → Option Value) : Prop where
  says : SaysM m w K
  hh : ∃ h : Heap, K.In h ∧ h.Ns mainGlobals mg
section
variable {m : MSpec} {w : World} {K : PySem.W.Frag} {mg : Str → Option Value}
theorem Ev.glo (e : Ev m w K mg) (i : Nat) {x : Str} (h : m.ex[i]? = some (fun K => (Fa.glo x).ok K) := by rfl) : mg x = some (.ref (ga K x)) := let ⟨_, X, G⟩ := e.hh; glo_ok X G (e.says.ex i h)
theorem Ev.free (e : Ev m w K mg) (i : Nat) {x : Str} (h : m.ex[i]? = some (fun K => (Fa.free x).ok K) := by rfl) : mg x = none := let ⟨_, X, G⟩ := e.hh; free_ok X G (e.says.ex i h)
def mkB (K : PySem.W.Frag) (x : Str) (q : PySem.W.Frag → Addr) : Bool := (Fa.mkr x).ok K && decide (He.ma K (ga K x) "__init__" = q K)
def gvB (K : PySem.W.Frag) (x : Str) (v : VI) : Bool := match PySem.W.nsIn K mainGlobals x with
  | some (some u) => viB 8 K v u
  | _ => false
end
section
variable {G : Gx} {W : WX} {X : Cx} {e a b : Expr} {es : List Expr} {pos p : Pos} {ma : MA} {x : Str} {m : MSpec} {nm : Nat → Option Str}
theorem takes0 : Takes X W0 := fun _ _ h => let ⟨_, _, _, _, _, _, _, _, _, _, _, _, _, _, _, _, w⟩ := h; w.elim
theorem xv (i : Nat) (hN : X.N[i]? = some x := by rfl) (hv : Vis X.env.scope x := by first | exact .inl rfl | exact .inr (.inl rfl) | exact .inr (.inr rfl)) (hd : (x == ("__debug__" : Str)) = false := by decide) (hcd : (x == ("__classdict__" : Str)) = false := by decide) :
    PE X (.Name x pos) (rdE G W (eV i)) := me_var hN hv hd hcd
theorem xval {v : VI} (E : Ev m X.w X.K X.mg) (i : Nat) (hg : Gl X x) (h : m.ex[i]? = some (fun K => gvB K x v) := by rfl) (hd : (x == ("__debug__" : Str)) = false := by decide) : PE X (.Name x pos) (rdE (GxOf X.w X.K X.mg nm) W (eC v)) := by
  have q := E.says.ex i h
  obtain ⟨hp, XI, Gn⟩ := E.hh
  unfold gvB at q
  split at q
  · rename_i u z
    obtain ⟨y, ry, rv⟩ := viB_ok XI Gn 8 v u q
    exact me_glob hg (PySem.W.mg_of XI Gn z) ry rv hd
  · cases q
structure DOk (P : Program) (w : World) (K : PySem.W.Frag) (mg : Str → Option Value) (base : Heap) (nm : Nat → Option Str) (k : Nat) (p : Defn) (ps : List Str) (g : MF) : Prop where
  ok : FnOk P w K mg base (L2.CX P w) k (p K) (fdOf K p) ps (spM (GxOf w K mg nm) ps.length g)
  ar : Arity ps.length g
  kp : PySem.W.keepIn K (.ref (p K)) = true
abbrev XOk (X : Cx) (nm : Nat → Option Str) (k : Nat) (p : Defn) (ps : List Str) (g : MF) : Prop := DOk X.prog X.w X.K X.mg X.base nm k p ps g
abbrev BOk (K : PySem.W.Frag) (p : Defn) (ps : List Str) : Prop := Binds K (fdOf K p) ps []
theorem DOk.fp {k k' : Nat} {q : Defn} {ps : List Str} {g : MF} (d : XOk X nm k q ps g) (hr : Room k' X.A) (h : k + 2 ≤ k' := by decide) : FnP X (GxOf X.w X.K X.mg nm) k (q X.K) (fdOf X.K q) ps g := ⟨d.ok, d.ar, hr.mono h⟩
theorem xcm {k k' : Nat} {q : Defn} {ps : List Str} {g : MF} (d : XOk X nm k q ps g) (bn : BOk X.K q ps) (hr : Room k' X.A) (tk : Takes X W) (h : k + 2 ≤ k' := by decide) : CallM X (GxOf X.w X.K X.mg nm) W (.ref (q X.K)) g := (d.fp hr h).call bn tk
theorem xca1 {k k' : Nat} {q : Defn} {ps : List Str} {g : MF} (d : XOk X nm k q ps g) (bn : BOk X.K q ps) (hr : Room k' X.A) (tk : Takes X W) (h : k + 2 ≤ k' := by decide) : CallAt X X.A.in1 (GxOf X.w X.K X.mg nm) W (.ref (q X.K)) g := (d.fp hr h).at1 bn tk
theorem xca0 {k k' : Nat} {q : Defn} {ps : List Str} {g : MF} (d : XOk X nm k q ps g) (bn : BOk X.K q ps) (hr : Room k' X.A) (tk : Takes X W) (h : k + 2 ≤ k' := by decide) : CallAt X X.A (GxOf X.w X.K X.mg nm) W (.ref (q X.K)) g := (d.fp hr h).at0 bn tk
theorem xcall {k k' : Nat} {x : Str} {ps : List Str} {g : MF} (d : XOk X nm k (gA x) ps g) (bn : BOk X.K (gA x) ps) (hr : Room k' X.A) (tk : Takes X W) (hm : X.mg x = some (.ref (ga X.K x))) (ha : PA X (e :: es) (rdA (GxOf X.w X.K X.mg nm) W ma)) (h : k + 2 ≤ k' := by decide)
    (hg : Gl X x := by rfl) (hdb : (x == ("__debug__" : Str)) = false := by decide) (he : starEach (e :: es) X.env = (false, eval e X.env) :: starEach es X.env := by rfl) (hpl : (backTo pos (starEach es X.env)).any (·.1) = false := by rfl) :
    PE X (.Call (.Name x p) (e :: es) [] pos) (rdE (GxOf X.w X.K X.mg nm) W (eCall g ma)) := me_call (xcm d bn hr tk h) hg hm d.kp ha hdb he hpl
theorem xmk {k k' c : Nat} {x : Str} {q : Defn} {ps : List Str} {g : MF} (E : Ev m X.w X.K X.mg) (d : XOk X nm k q ps g) (bn : BOk X.K q ps) (hr : Room k' X.A) (tk : Takes X W) (j : Nat) (hc : nm c = some x)
    (hj : m.ex[j]? = some (fun K => mkB K x q) := by rfl) (h : k + 2 ≤ k' := by decide) : CallM X (GxOf X.w X.K X.mg nm) W (.ref (ga X.K x)) (mkM c g) ∧ PySem.W.keepIn X.K (.ref (ga X.K x)) = true := by
  obtain ⟨h1, h2⟩ := ba (E.says.ex j hj)
  have M := mkr_ok h1
  rw [of_decide_eq_true h2] at M
  exact ⟨callM_make M (by show (nm c).map _ = _; rw [hc]; rfl) d.ok d.ar (hr.mono (show k + 1 ≤ k' by omega)) bn tk, M.kp⟩
theorem xmkc {f : MF} {x : Str} (c : CallM X G W (.ref (ga X.K x)) f ∧ PySem.W.keepIn X.K (.ref (ga X.K x)) = true) (hm : X.mg x = some (.ref (ga X.K x))) (ha : PA X (e :: es) (rdA G W ma)) (hg : Gl X x := by rfl) (hdb : (x == ("__debug__" : Str)) = false := by decide)
    (he : starEach (e :: es) X.env = (false, eval e X.env) :: starEach es X.env := by rfl) (hpl : (backTo pos (starEach es X.env)).any (·.1) = false := by rfl) : PE X (.Call (.Name x p) (e :: es) [] pos) (rdE G W (eCall f ma)) := me_call c.1 hg hm c.2 ha hdb he hpl
end
end ML
end
section
namespace ML
open PySem PySem.Spec PyProof.Rows L2 He
theorem aCons1 {a : ME} : ∀ σ h vs h1, aCons a aNil σ h = .ok vs h1 → vs.length = 1 := fun σ h vs h1 e => by
  unfold aCons at e
  cases q : a σ h with
  | ok x h2 => rw [q] at e; cases e; rfl
  | ex c n h2 => rw [q] at e; cases e
  | err => rw [q] at e; cases e
def enlOf : VI → Hi → Option Itm := fun v h => match v with
  | .ref n => match listAt n h with
    | some _ => some (.enl n)
    | none => none
  | _ => none
def iEnumM (e : ME) : MI := fun σ h => (e σ h).bind fun v h1 => ofI (enlOf v h1) h1
section
variable {G : Gx} {W : WX} {X : Cx} {e : Expr} {me : ME} {ρ : List Addr} {H : Hp} {p pos tpos : Pos} {elts : List Expr} {kk : Nat}
end
theorem hu1 {k : Nat} {A : Around} (r : Room k A) : A.units + 1 < cLine := by have := r.un; omega
theorem hu64 {k : Nat} {A : Around} (r : Room k A) : A.units + 64 < cLine := by have := r.un; omega
theorem hu65 {k : Nat} {A : Around} (r : Room k A) : A.units + 65 < cLine := by have := r.un; omega
section
variable {K : PySem.W.Frag} {x qual : Str} {params : Arguments} {body : List Stmt} {scope : Scope} {dvs : List V} {kws : List (Str × V)} {f cc D c : Addr} {fd : FuncData} {file : Str} {ps : List Str}
theorem FunS.bindsN (F : FunS K x qual params body scope [] kws f fd cc D c file)
    (h : ∀ (kV doc pm : Value) (an : Option Addr) (cdv ct : Value) (us : List Value), us.length = ps.length → bindArgs (PySem.W.fnX x qual params body scope [("__class__", cc)] .none kV doc pm an cdv ct) ⟨us, []⟩ = pure (ps.zip us)) : Binds K fd ps [] := by
  obtain ⟨oc, od, dV, kV, doc, pm, an, ct, osl, rfl, lk, hD, hK⟩ := F.ex
  rcases hD with ⟨_, rfl⟩ | ⟨e, _⟩
  · exact .all (h kV doc pm an _ ct)
  · exact absurd rfl e
end
section
variable {G : Gx} {W : WX} {X : Cx} {a b c : Expr} {pos : Pos} {ma mb mc : ME} {f g : Op2}
theorem tOf_rd {me : ME} {σ : L2.St} {H : Hp} {Q : Bool → Hp → Prop} (r : rdT G W (tOf me) σ H Q) : rdE G W me σ H fun x H' => ∃ k, x = .bl k ∧ Q k H' :=
  let ⟨_, _, _, as, ag, f⟩ := r
  rdG_go as ag f fun ρ1 H1 h1 x x' st as ag r f => by
    cases r with
    | bl b => exact ⟨b, rfl, f.ok ag rfl⟩
    | _ => exact f.elim
theorem mt_cmpR {op : CmpOp} (ho : OpR X (compareOp op) (rd2 G f)) (ha : PE X a (rdE G W ma)) (hb : PE X b (rdE G W mb)) (hm : behindInMarks op b = false) : PT X (.Compare a [op] [b] pos) (rdT G W (tOf (eBin f ma mb))) :=
  PT.imp' (pt_cmpR ho ha hb hm) fun σ H Q r => by
    obtain ⟨ρ, σi, h, as, ag, f⟩ := tOf_rd r
    exact rdG_go as ag f fun ρ1 H1 h1 x x' st as ag r f => rdG_go as ag f fun ρ2 H2 h2 y y' st2 as ag rs f => ⟨ρ2, h2, x, y, ag, r.mono st2, rs, FinO.of f⟩
end
def sPar (i j : Nat) (ma : MA) : MS := fun σ h => (ma σ h).bindS σ fun vs h1 => match vs with
  | [v, w] => .nx ((σ.set i (some v)).set j (some w)) h1
  | _ => .err
def sPar3 (i j l : Nat) (ma : MA) : MS := fun σ h => (ma σ h).bindS σ fun vs h1 => match vs with
  | [u, v, w] => .nx (((σ.set i (some u)).set j (some v)).set l (some w)) h1
  | _ => .err
section
variable {G : Gx} {W : WX} {X : Cx} {a b c : Expr} {pos : Pos} {ma : MA} {i j l : Nat} {x y z : Str} {px py pz pt : Pos} {kt : Nat} {k2 : Nat} {pt2 : Pos}
theorem ms_par (hc : X.calm = true) (hN : X.N.Nodup) (hi : X.N[i]? = some x) (hj : X.N[j]? = some y) (hij : i ≠ j) (hx : X.env.scope.names.lookup x = some .local) (hy : X.env.scope.names.lookup y = some .local) (ha : PA X [a, b] (rdA G W ma))
    (hw : swappedStores [.Tuple [.Name x px, .Name y py] kt pt] (.Tuple [a, b] k2 pt2) X.env = pure (some [x, y])) (hs : swapsWithSole [.Tuple [.Name x px, .Name y py] kt pt] (.Tuple [a, b] k2 pt2) pos.line X.env = pure false := by rfl) :
    PS X (.Assign [.Tuple [.Name x px, .Name y py] kt pt] (.Tuple [a, b] k2 pt2) pos) (rdS G W (sPar i j ma)) :=
  PS.imp' (ps_par hc hN hi hj hij hx hy ha hw hs) fun D σ H ⟨ρ, σi, h, as, ag, fin⟩ => rdS_go as ag fin fun ρ1 H1 h1 vs ys st as ag r f => by
    cases r with
    | nil => exact f.elim
    | cons r1 t =>
      cases t with
      | nil => exact f.elim
      | cons r2 t =>
        cases t with
        | nil => exact ⟨_, _, rfl, f.nx ag ((as.set r1 i).set r2 j)⟩
        | cons _ _ => exact f.elim
end
theorem vals_at {xs : List V} {us : List Value} (r : Vals xs us) (i : Nat) : (∃ x u, xs[i]? = some x ∧ us[i]? = some u ∧ RelV x u) ∨ (xs[i]? = none ∧ us[i]? = none) := by
  cases e : xs[i]? with
  | none => exact .inr ⟨rfl, by rw [List.getElem?_eq_none_iff] at e ⊢; rw [← r.length]; exact e⟩
  | some x =>
    obtain ⟨u, h1, h2⟩ := r.get e
    exact .inl ⟨x, u, rfl, h1, h2⟩
theorem rvs_at {G : Gx} {ρ : List Addr} {H : Hp} {xs : List VI} {us : List V} (r : RVs G ρ H xs us) (i : Nat) : (∃ x u, xs[i]? = some x ∧ us[i]? = some u ∧ RV G ρ H x u) ∨ (xs[i]? = none ∧ us[i]? = none) := by
  cases e : xs[i]? with
  | none => exact .inr ⟨rfl, by rw [List.getElem?_eq_none_iff] at e ⊢; rw [← r.length]; exact e⟩
  | some x =>
    obtain ⟨u, h1, h2⟩ := r.get e
    exact .inl ⟨x, u, rfl, h1, h2⟩
end ML
end
section
namespace ML
open PySem PySem.Spec PyProof.Rows L2 He
inductive TyI where
  | bt (T : String) | own (c : Nat)
def tyI (y : VI) (h : Hi) : Option TyI := match y with
  | .non => some (.bt "NoneType")
  | .bl _ => some (.bt "bool")
  | .int _ => some (.bt "int")
  | .str _ => some (.bt "str")
  | .tup _ => some (.bt "tuple")
  | .ref n => match h[n]? with
    | some (.lst _) => some (.bt "list")
    | some (.scr _) => some (.bt "list")
    | some (.dic _) => some (.bt "dict")
    | some (.ins c _) => some (.own c)
    | _ => none
  | .glo _ => none
def boolR : Res VI → Res VI
  | .ok (.bl b) h => .ok (.bl b) h
  | .ex c n h => .ex c n h
  | _ => .err
def nfI (cs : List Nat) : Option TyI → Bool
  | some (.bt _) => true
  | some (.own c) => cs.contains c
  | none => false
def eCmpU (cs : List Nat) (tbl : Nat → Option MF) (f : Op2) (a b : ME) : ME := fun σ h => (a σ h).bind fun x h1 => (b σ h1).bind fun y h2 => match insC x h2 with
  | some c => match tbl c, nfI cs (tyI y h2) with
    | some g, true => boolR (g [x, y] h2)
    | _, _ => .err
  | none => ofO (f x y h2)
structure NfOk (K : PySem.W.Frag) (G : Gx) (cs : List Nat) (tbl : Nat → Option MF) : Prop where
  bt : ∀ c C g T, tbl c = some g → G.ct c = some C → T ∈ ["NoneType", "bool", "int", "str", "tuple", "list", "dict"] → PySem.W.notFirst K C (.type T) = true
  own : ∀ c C g c' C', tbl c = some g → G.ct c = some C → cs.contains c' = true → G.ct c' = some C' → PySem.W.notFirst K C (.ref C') = true
section
variable {G : Gx} {ρ : List Addr} {h : Hi} {H : Hp} {W : WX} {X : Cx} {A : Around} {e a b c o i v : Expr} {es : List Expr} {pos p pos' apos : Pos} {me mi mo ma mb mv : ME} {mr : MA} {tbl : Nat → Option MF} {σ : L2.St} {cs : List Nat} {f : Op2}
theorem looks_at {M : Model} {hp : Heap} {a : Addr} {ob : Obj} {t : Value} (e : hp.get? a = some ob) (ec : ob.cls = t) : PySem.W.Looks M hp (typeOf (.ref a)) t := fun A Q E s k q => wpAny_typeOf_ref (k _ _ e) (by rw [ec]; exact q)
theorem tyI_ok (hG : G.K = X.K) {pins : List (Addr × Obj)} {s : Shared} (I : Inv X pins σ H s) {y : VI} {x : V} {u : Value} (ag : Ag G ρ h H) (r : RV G ρ H y x) (ru : RelV x u) {T : TyI} (e : tyI y h = some T) :
    (∃ t, T = .bt t ∧ t ∈ ["NoneType", "bool", "int", "str", "tuple", "list", "dict"] ∧ PySem.W.Looks (model X.prog X.w) s.heap (typeOf u) (.type t)) ∨ (∃ c C, T = .own c ∧ G.ct c = some C ∧ PySem.W.Looks (model X.prog X.w) s.heap (typeOf u) (.ref C)) := by
  unfold tyI at e
  cases r with
  | non => cases e; cases (show u = Value.none from ru); exact .inl ⟨_, rfl, by simp, .now⟩
  | bl q => cases e; cases (show u = Value.bool q from ru); exact .inl ⟨_, rfl, by simp, .now⟩
  | int q => cases e; obtain ⟨t, z⟩ := (show ∃ t, u = Value.int q t from ru); subst z; exact .inl ⟨_, rfl, by simp, .now⟩
  | str q => cases e; obtain ⟨t, z⟩ := (show ∃ t, u = Value.str _ t from ru); subst z; exact .inl ⟨_, rfl, by simp, .now⟩
  | glo q => cases e
  | @tup xs ys ad t rs =>
    cases e
    cases (show u = Value.ref ad from ru)
    rw [hG] at t
    obtain ⟨its, _, ⟨ob, h1, h2, _⟩, _⟩ := I.tuple t
    exact .inl ⟨_, rfl, by simp, looks_at h1 h2⟩
  | @ref n ad q =>
    cases (show u = Value.ref ad from ru)
    dsimp only at e
    cases q1 : h[n]? with
    | none => rw [q1] at e; cases e
    | some ob =>
      rw [q1] at e
      cases ob with
      | lst xs =>
        cases e
        obtain ⟨ys, hy, _⟩ := ag.at_ q1 q
        obtain ⟨⟨ob, h1, h2⟩, _⟩ := tyV_is (T := "list") I (x := .ref ad) (v := .ref ad) rfl (.inl ⟨rfl, ys, .inl (.inl hy)⟩)
        exact .inl ⟨_, rfl, by simp, looks_at h1 h2⟩
      | scr xs =>
        cases e
        obtain ⟨ob, ys, hy, _⟩ := ag.at_ q1 q
        obtain ⟨⟨ob, h1, h2⟩, _⟩ := tyV_is (T := "list") I (x := .ref ad) (v := .ref ad) rfl (.inl ⟨rfl, ys, .inl (.inr ⟨_, hy⟩)⟩)
        exact .inl ⟨_, rfl, by simp, looks_at h1 h2⟩
      | dic xs =>
        cases e
        obtain ⟨ys, hy, _⟩ := ag.at_ q1 q
        obtain ⟨⟨ob, h1, h2⟩, _⟩ := tyV_is (T := "dict") I (x := .ref ad) (v := .ref ad) rfl (.inr (.inr (.inl ⟨rfl, .inl ⟨_, hy⟩⟩)))
        exact .inl ⟨_, rfl, by simp, looks_at h1 h2⟩
      | ins c fs =>
        cases e
        obtain ⟨C, dx, gs, hc, hH, rf⟩ := insAt ag q1 q
        obtain ⟨m, hF, ox, od, J⟩ := insC_look I hH
        exact .inr ⟨c, C, rfl, hc, J.type⟩
      | xd fs => cases e
      | dnk fs => cases e
theorem boolR_fin {Q : VK} {W : Value → Option Addr → Hp → Prop} (r : Res VI) (fr : FinG G ρ H (RV G) Q W (boolR r)) : FinG G ρ H (RV G) (fun x H' => ∃ b, x = V.bl b ∧ Q x H') W r := by
  cases r with
  | ok v h' =>
    cases v with
    | bl b =>
      intro ρ' H' x st ag' rx
      cases rx
      exact ⟨b, rfl, fr ρ' H' _ st ag' (.bl b)⟩
    | _ => exact fr.elim
  | ex c n h' => exact fr
  | err => exact fr.elim
def RdU (G : Gx) (W : WX) (σ : L2.St) (cs : List Nat) (tbl : Nat → Option MF) (f : Op2) (Q : VK) (x y : V) (H2 : Hp) : Prop :=
  rd2 G f x y H2 Q ∨ ∃ ρ2 h2 xi yi cn g, Ag G ρ2 h2 H2 ∧ RV G ρ2 H2 xi x ∧ RV G ρ2 H2 yi y ∧ insC xi h2 = some cn ∧ tbl cn = some g ∧ nfI cs (tyI yi h2) = true ∧ FinG G ρ2 H2 (RV G) Q (fun c d H' => W c d σ H') (boolR (g [xi, yi] h2))
theorem cmpU_rd {Q : VK} (q : rdE G W (eCmpU cs tbl f ma mb) σ H Q) : rdE G W ma σ H fun x H1 => rdE G W mb σ H1 fun y H2 => RdU G W σ cs tbl f Q x y H2 := by
  obtain ⟨ρ, σi, h, as, ag, fin⟩ := q
  exact rdG_go as ag fin fun ρ1 H1 h1 x x' st as ag r f => rdG_go as ag f fun ρ2 H2 h2 y y' st2 as ag rs f => by
      cases q1 : insC x h2 with
      | none => rw [q1] at f; exact .inl ⟨ρ2, h2, x, y, ag, r.mono st2, rs, FinO.of f⟩
      | some cn =>
        rw [q1] at f
        dsimp only at f
        cases q2 : tbl cn with
        | none => rw [q2] at f; exact f.elim
        | some g =>
          rw [q2] at f
          cases q3 : nfI cs (tyI y h2) with
          | false => rw [q3] at f; exact f.elim
          | true => rw [q3] at f; exact .inr ⟨ρ2, h2, x, y, cn, g, ag, r.mono st2, rs, q1, q2, q3, f⟩
theorem cmpU_run {op : CmpOp} {nm : Str} (hop : ∀ a b, compareOp op a b = richCompare op a b) (hnm : (cmpInfo op).2.1 = nm) (hG : G.K = X.K) (hu : X.A.units < cLine) (sp : SpOk X X.A G W tbl nm) (nf : NfOk X.K G cs tbl) (ho : OpR X (compareOp op) (rd2 G f))
    {pins : List (Addr × Obj)} {s2 : Shared} {H2 : Hp} {x y : V} {v u : Value} {Q : VK} (I2 : Inv X pins σ H2 s2) (rx : RelV x v) (ry : RelV y u) (q : RdU G W σ cs tbl f Q x y H2) : wpAny (model X.prog X.w) X.A (compareOp op v u) (EP X pins σ Q) X.xe s2 := by
  rcases q with q | ⟨ρ2, h2, xi, yi, cn, g, ag2, r1, r2, q1, q2, q3, fi⟩
  · exact ho pins s2 σ H2 x y v u Q I2 rx ry q
  · obtain ⟨ad, C, dx, gs, ex, hc, hH⟩ := insC_ok ag2 r1 q1
    subst ex
    obtain rfl : v = Value.ref ad := rx
    obtain ⟨f', k1, k2, k3, k4, k5⟩ := sp.at_ cn C g q2 hc
    obtain ⟨m, hF, ox, od, J⟩ := insC_look I2 hH
    have ty : ∃ t, PySem.W.Looks (model X.prog X.w) s2.heap (typeOf u) t ∧ PySem.W.notFirst X.K C t = true := by
      cases q4 : tyI yi h2 with
      | none => rw [q4] at q3; cases q3
      | some T =>
        rcases tyI_ok hG I2 ag2 r2 ry q4 with ⟨t, rfl, mt, lt⟩ | ⟨c', C', rfl, hc', lt⟩
        · exact ⟨_, lt, nf.bt cn C g t q2 hc mt⟩
        · rw [q4] at q3
          exact ⟨_, lt, nf.own cn C g c' C' q2 hc q3 hc'⟩
    obtain ⟨t, lt, nt⟩ := ty
    rw [hop]
    refine PySem.W.cmp_K (op := op) (tb := t) hu hF I2.ok.mod.kin J lt nt (by rw [hnm]; exact k2) k4 ?_
    have key := boolR_fin (G := G) (ρ := ρ2) (H := H2) (Q := Q) (W := fun c d H' => W c d σ H') (g [xi, yi] h2) fi
    refine wpAny_mono (k5 pins s2 σ H2 [.ref ad, u] [.ref ad, y] [xi, yi] ρ2 h2 _ I2 (.cons rfl (.cons ry .nil)) (.cons r1 (.cons r2 .nil)) ag2 key) (fun z s3 hz => ?_) fun _ _ z => z
    obtain ⟨x', H', I', rx', b, eb, q'⟩ := hz
    subst eb
    cases (show z = Value.bool b from rx')
    exact ⟨.bl b, H', I', rfl, q'⟩
theorem me_cmpU {op : CmpOp} {nm : Str} (hop : ∀ a b, compareOp op a b = richCompare op a b) (hnm : (cmpInfo op).2.1 = nm) (hG : G.K = X.K) (hu : X.A.units < cLine) (sp : SpOk X X.A G W tbl nm) (nf : NfOk X.K G cs tbl) (ho : OpR X (compareOp op) (rd2 G f)) (ha : PE X a (rdE G W ma)) (hb : PE X b (rdE G W mb))
    (hm : behindInMarks op b = false) : PE X (.Compare a [op] [b] pos) (rdE G W (eCmpU cs tbl f ma mb)) := ⟨fun pins s σ H Q I h =>
  wpAny_Compare1 (binT ha hb I (cmpU_rd h) fun v u s2 x y H2 I2 rx ry q => cmpU_run hop hnm hG hu sp nf ho I2 rx ry q) hm⟩
theorem mt_cmpU {op : CmpOp} {nm : Str} (hop : ∀ a b, compareOp op a b = richCompare op a b) (hnm : (cmpInfo op).2.1 = nm) (hG : G.K = X.K) (hu : X.A.units < cLine) (sp : SpOk X X.A G W tbl nm) (nf : NfOk X.K G cs tbl) (ho : OpR X (compareOp op) (rd2 G f)) (ha : PE X a (rdE G W ma)) (hb : PE X b (rdE G W mb))
    (hm : behindInMarks op b = false) : PT X (.Compare a [op] [b] pos) (rdT G W (tOf (eCmpU cs tbl f ma mb))) := ⟨fun pins s σ H Q I h =>
  wpAny_isTrue_Compare1 (thn (ha.run pins s σ H _ I (cmpU_rd (tOf_rd h))) fun v s1 ⟨x, H1, I1, r1, q1⟩ => thn (hb.run pins s1 σ H1 _ I1 q1) fun u s2 ⟨y, H2, I2, r2, q2⟩ =>
    thn (cmpU_run hop hnm hG hu sp nf ho I2 r1 r2 q2) fun c s3 ⟨z, H3, I3, r3, k, e, q3⟩ => by
      subst e
      cases r3
      exact wpAny_truthy_bool ⟨H3, I3, q3⟩) hm⟩
end
def nfB1 (K : PySem.W.Frag) (nm : Nat → Option Str) (x : Str) (cs : List Nat) : Bool := (["NoneType", "bool", "int", "str", "tuple", "list", "dict"].all fun T => PySem.W.notFirst K (ga K x) (.type T)) && cs.all fun c => match nm c with
  | some y => PySem.W.notFirst K (ga K x) (.ref (ga K y))
  | none => false
section
variable {w : World} {K : PySem.W.Frag} {mg : Str → Option Value} {nm : Nat → Option Str} {cs : List Nat}
theorem nfOk_nil : NfOk K (GxOf w K mg nm) cs (lkT ([] : List (Nat × MF))) := ⟨(fun _ _ _ _ h => nomatch h), (fun _ _ _ _ _ h => nomatch h)⟩
theorem nfOk_cons {c : Nat} {g : MF} {x : Str} {r : List (Nat × MF)} (hn : nm c = some x) (hB : nfB1 K nm x cs = true) (t : NfOk K (GxOf w K mg nm) cs (lkT r)) : NfOk K (GxOf w K mg nm) cs (lkT ((c, g) :: r)) := by
  obtain ⟨b1, b2⟩ := ba hB
  refine ⟨fun c' C w T h e m => ?_, fun c' C w d D h e k e2 => ?_⟩
  · rcases lkT_cons h with ⟨q1, q2⟩ | q
    · subst q1 q2
      rw [gx_ct e hn]
      exact List.all_eq_true.mp b1 T m
    · exact t.bt c' C w T q e m
  · rcases lkT_cons h with ⟨q1, q2⟩ | q
    · subst q1 q2
      rw [gx_ct e hn]
      have z := List.all_eq_true.mp b2 d (by simpa using k)
      cases q3 : nm d with
      | none => rw [q3] at z; cases z
      | some y =>
        rw [q3] at z
        rw [gx_ct e2 q3]
        exact z
    · exact t.own c' C w d D q e k e2
end
end ML
end
section
namespace ML
open PySem PySem.Spec PyProof.Rows L2 He
def flK : List (VI × VI) → Bool
  | [] => true
  | (_, v) :: r => flI v && flK r
def allK (kb : List (VI × VI)) : List (VI × VI) → Bool
  | [] => true
  | (k, v) :: r => match getD k kb with
    | some w => eqI v w && allK kb r
    | none => false
def fEqX : Op2 := fun x y h => match x, y with
  | .ref a, .ref b => match h[a]?, h[b]? with
    | some (.dic ka), some (.dic kb) => match flK ka && flK kb with
      | true => some (.bl (Nat.beq ka.length kb.length && allK kb ka), h)
      | false => none
    | _, _ => fEq x y h
  | _, _ => fEq x y h
section
variable {G : Gx} {ρ : List Addr} {h : Hi} {H : Hp} {X : Cx} {Q : VK}
theorem flK_get {b : VI} : ∀ {kvs : List (VI × VI)} {v : VI}, flK kvs = true → getD b kvs = some v → flI v = true
  | [], _, _, e => by cases e
  | (k, u) :: r, v, f, e => by
    unfold flK at f
    obtain ⟨f1, f2⟩ := Bool.and_eq_true_iff.mp f
    unfold getD at e
    split at e
    · cases e; exact f1
    · exact flK_get f2 e
theorem hits_ok {P : Program} {w : World} {A : Around} {s : Shared} {kb : List (VI × VI)} {lb : List (Key × V)} {vb : List (Key × Value)} (rb : RKs G ρ H kb lb) (vbr : KV lb vb) (fb : flK kb = true) :
    ∀ {ka : List (VI × VI)} {la : List (Key × V)} {va : List (Key × Value)}, RKs G ρ H ka la → KV la va → flK ka = true → PySem.W.KeqHitsP P w A s vb va (allK kb ka)
  | _, _, _, .nil, k, _ => by
    cases k
    exact .nil
  | _, _, _, .cons (a := a) (k := k) (v := v) (x := x) (as := as) (ks := ks) e r t, kv, f => by
    unfold flK at f
    obtain ⟨f1, f2⟩ := Bool.and_eq_true_iff.mp f
    unfold KV at kv
    cases kv with
    | @cons p q ps qs h1 tl =>
      obtain ⟨key, val⟩ := q
      obtain ⟨h2, h3⟩ := h1
      have h2' : k = key := h2
      subst h2'
      have g := RKs.getD (b := a) (l := k) e rb
      have rv := vbr.val k
      unfold allK
      cases z : getD a kb with
      | none =>
        rw [z] at g
        have g' : valV lb k = none := g
        rw [g'] at rv
        exact .miss rv.none_of
      | some u =>
        rw [z] at g
        obtain ⟨y, g1, g2⟩ := g
        have g1' : valV lb k = some y := g1
        rw [g1'] at rv
        obtain ⟨yv, hy, ry⟩ := rv.some_of
        have fu := flK_get fb z
        dsimp only
        rw [r.eqI g2 f1 fu]
        exact .hit hy (eqAt_V h3 ry (r.flat f1) (g2.flat fu)).eqP (hits_ok rb vbr fb t tl f2)
theorem beqN (n m : Nat) : (n == m) = Nat.beq n m := by
  cases q : Nat.beq n m with
  | true => simp [Nat.eq_of_beq_eq_true q]
  | false => simp [Nat.ne_of_beq_eq_false q]
theorem mo_eqX (hG : G.K = X.K) (hu : X.A.units + 64 < cLine) : OpR X (compareOp .Eq) (rd2 G fEqX) := fun pins s σ H x y v u Q I rx ry q => by
  obtain ⟨ρ, h, xi, yi, ag, r1, r2, f⟩ := q
  have old : FinO G ρ H (RV G) Q (fEq xi yi h) → wpAny (model X.prog X.w) X.A (compareOp .Eq v u) (EP X pins σ Q) X.xe s := fun f => mo_eq hG hu pins s σ H x y v u Q I rx ry ⟨ρ, h, xi, yi, ag, r1, r2, f⟩
  unfold fEqX at f
  cases r1 with
  | @ref n a q1 =>
    cases r2 with
    | @ref m b q2 =>
      dsimp only at f
      split at f
      · rename_i ka kb z1 z2
        cases fl : flK ka && flK kb with
        | false => rw [fl] at f; exact f.elim
        | true =>
          rw [fl] at f
          obtain ⟨fa, fb⟩ := Bool.and_eq_true_iff.mp fl
          obtain ⟨la, ha, ra⟩ := ag.at_ z1 q1
          obtain ⟨lb, hb, rb⟩ := ag.at_ z2 q2
          cases (show v = Value.ref a from rx)
          cases (show u = Value.ref b from ry)
          obtain ⟨_, ya, va, kva, da⟩ := (show ObjOk X.prog X.w H s.heap a (.dK la) from I.hok a _ ha)
          obtain ⟨_, yb, vb, kvb, db⟩ := (show ObjOk X.prog X.w H s.heap b (.dK lb) from I.hok b _ hb)
          refine PySem.W.rcP_dicts (knd := mixKind X.prog X.w) (r := allK kb ka) ya yb da db (by omega) (fun _ => hits_ok rb kvb fb ra kva fa) _ _ ?_
          have e : (va.length == vb.length) = Nat.beq ka.length kb.length := by
            rw [ra.length, rb.length, kva.length, kvb.length]
            exact beqN _ _
          rw [e]
          exact ⟨.bl _, H, I, rfl, f.ok ag (.bl _)⟩
      · exact old f
    | _ => exact old (by simpa [fEqX] using f)
  | _ => exact old (by simpa [fEqX] using f)
end
end ML
end
section
namespace ML
open PySem L2
mutual
inductive RV2 (r : List Nat) : VI → VI → Prop
  | non : RV2 r .non .non
  | bl (b : Bool) : RV2 r (.bl b) (.bl b)
  | int (i : Int) : RV2 r (.int i) (.int i)
  | str (s : S) : RV2 r (.str s) (.str s)
  | glo (g : S) : RV2 r (.glo g) (.glo g)
  | ref {n m : Nat} (e : r[n]? = some m) : RV2 r (.ref n) (.ref m)
  | tup {xs ys : List VI} (t : RVs2 r xs ys) : RV2 r (.tup xs) (.tup ys)
inductive RVs2 (r : List Nat) : List VI → List VI → Prop
  | nil : RVs2 r [] []
  | cons {v x : VI} {vs xs : List VI} (h : RV2 r v x) (t : RVs2 r vs xs) : RVs2 r (v :: vs) (x :: xs)
end
structure Ex2 (r : List Nat) (h : Hi) (r' : List Nat) (h' : Hi) : Prop where
  more : ∃ q, r' = r ++ q ∧ ∀ m ∈ q, h.length ≤ m
  len : h.length ≤ h'.length
  rest : ∀ m, m ∉ r → m < h.length → h'[m]? = h[m]?
theorem Ex2.refl {r : List Nat} {h : Hi} : Ex2 r h r h := ⟨⟨[], by simp, fun _ z => by cases z⟩, Nat.le_refl _, fun _ _ _ => rfl⟩
theorem Ex2.pre {r r' : List Nat} {h h' : Hi} (e : Ex2 r h r' h') {n m : Nat} (q : r[n]? = some m) : r'[n]? = some m := by
  obtain ⟨l, rfl, _⟩ := e.more
  rw [List.getElem?_append_left (List.getElem?_eq_some_iff.mp q).1]
  exact q
theorem Ex2.trans {r r1 r2 : List Nat} {h h1 h2 : Hi} (a : Ex2 r h r1 h1) (b : Ex2 r1 h1 r2 h2) : Ex2 r h r2 h2 := by
  obtain ⟨l, rfl, hl⟩ := a.more
  obtain ⟨l2, rfl, hl2⟩ := b.more
  refine ⟨⟨l ++ l2, by simp, fun m hm => ?_⟩, Nat.le_trans a.len b.len, fun m hm hlt => ?_⟩
  · rcases List.mem_append.mp hm with z | z
    · exact hl m z
    · exact Nat.le_trans a.len (hl2 m z)
  · rw [b.rest m (fun z => ?_) (Nat.lt_of_lt_of_le hlt a.len)]
    · exact a.rest m hm hlt
    · rcases List.mem_append.mp z with z | z
      · exact hm z
      · exact absurd (hl m z) (Nat.not_le.mpr hlt)
section
variable {r r' : List Nat} {h h' : Hi}
mutual
theorem RV2.mono (e : Ex2 r h r' h') : ∀ {v x : VI}, RV2 r v x → RV2 r' v x
  | _, _, .non => .non
  | _, _, .bl b => .bl b
  | _, _, .int i => .int i
  | _, _, .str s => .str s
  | _, _, .glo g => .glo g
  | _, _, .ref q => .ref (e.pre q)
  | _, _, .tup t => .tup (RVs2.mono e t)
theorem RVs2.mono (e : Ex2 r h r' h') : ∀ {v x : List VI}, RVs2 r v x → RVs2 r' v x
  | _, _, .nil => .nil
  | _, _, .cons a t => .cons (RV2.mono e a) (RVs2.mono e t)
end
theorem RVs2.length : ∀ {v x : List VI}, RVs2 r v x → v.length = x.length
  | _, _, .nil => rfl
  | _, _, .cons _ t => by rw [List.length_cons, List.length_cons, t.length]
theorem RVs2.get : ∀ {v x : List VI} {i : Nat} {a : VI}, RVs2 r v x → v[i]? = some a → ∃ b, x[i]? = some b ∧ RV2 r a b
  | _, _, _, _, .nil, e => by simp at e
  | _, _, 0, _, .cons h _, e => by simp at e; subst e; exact ⟨_, rfl, h⟩
  | _, _, i + 1, _, .cons _ t, e => by
    obtain ⟨b, h1, h2⟩ := RVs2.get (i := i) t (by simpa using e)
    exact ⟨b, by simpa using h1, h2⟩
theorem RVs2.none {v x : List VI} {i : Nat} (t : RVs2 r v x) (e : v[i]? = none) : x[i]? = none := by
  rw [List.getElem?_eq_none_iff] at e ⊢
  rw [← t.length]
  exact e
theorem RVs2.append : ∀ {v w x y : List VI}, RVs2 r v x → RVs2 r w y → RVs2 r (v ++ w) (x ++ y)
  | _, _, _, _, .nil, k => k
  | _, _, _, _, .cons a t, k => .cons a (RVs2.append t k)
theorem RVs2.set : ∀ {v x : List VI} {a b : VI} (i : Nat), RVs2 r v x → RV2 r a b → RVs2 r (v.set i a) (x.set i b)
  | _, _, _, _, _, .nil, _ => .nil
  | _, _, _, _, 0, .cons _ t, k => .cons k t
  | _, _, _, _, i + 1, .cons a t, k => .cons a (RVs2.set i t k)
theorem RVs2.take : ∀ {v x : List VI} (n : Nat), RVs2 r v x → RVs2 r (v.take n) (x.take n)
  | _, _, 0, _ => .nil
  | _, _, _ + 1, .nil => .nil
  | _, _, n + 1, .cons a t => .cons a (RVs2.take n t)
theorem RVs2.drop : ∀ {v x : List VI} (n : Nat), RVs2 r v x → RVs2 r (v.drop n) (x.drop n)
  | _, _, 0, k => k
  | _, _, _ + 1, .nil => .nil
  | _, _, n + 1, .cons _ t => RVs2.drop n t
end
inductive RFs2 (r : List Nat) : List (S × VI) → List (S × VI) → Prop
  | nil : RFs2 r [] []
  | cons {f : S} {v x : VI} {fs gs : List (S × VI)} (h : RV2 r v x) (t : RFs2 r fs gs) : RFs2 r ((f, v) :: fs) ((f, x) :: gs)
inductive RKs2 (r : List Nat) : List (VI × VI) → List (VI × VI) → Prop
  | nil : RKs2 r [] []
  | cons {a b v x : VI} {fs gs : List (VI × VI)} (k : RV2 r a b) (h : RV2 r v x) (t : RKs2 r fs gs) : RKs2 r ((a, v) :: fs) ((b, x) :: gs)
inductive RO2 (r : List Nat) : OI → OI → Prop
  | lst {xs ys : List VI} (h : RVs2 r xs ys) : RO2 r (.lst xs) (.lst ys)
  | scr {xs ys : List VI} (h : RVs2 r xs ys) : RO2 r (.scr xs) (.scr ys)
  | dic {xs ys : List (VI × VI)} (h : RKs2 r xs ys) : RO2 r (.dic xs) (.dic ys)
  | ins {c : Nat} {xs ys : List (S × VI)} (h : RFs2 r xs ys) : RO2 r (.ins c xs) (.ins c ys)
  | xd {xs ys : List (S × VI)} (h : RFs2 r xs ys) : RO2 r (.xd xs) (.xd ys)
  | dnk {xs ys : List (VI × VI)} (h : RKs2 r xs ys) : RO2 r (.dnk xs) (.dnk ys)
section
variable {r r' : List Nat} {h h' s : Hi}
theorem RFs2.mono (e : Ex2 r h r' h') : ∀ {v x : List (S × VI)}, RFs2 r v x → RFs2 r' v x
  | _, _, .nil => .nil
  | _, _, .cons a t => .cons (a.mono e) (RFs2.mono e t)
theorem RKs2.mono (e : Ex2 r h r' h') : ∀ {v x : List (VI × VI)}, RKs2 r v x → RKs2 r' v x
  | _, _, .nil => .nil
  | _, _, .cons k a t => .cons (k.mono e) (a.mono e) (RKs2.mono e t)
theorem RO2.mono (e : Ex2 r h r' h') : ∀ {v x : OI}, RO2 r v x → RO2 r' v x
  | _, _, .lst t => .lst (t.mono e)
  | _, _, .scr t => .scr (t.mono e)
  | _, _, .dic t => .dic (t.mono e)
  | _, _, .ins t => .ins (t.mono e)
  | _, _, .xd t => .xd (t.mono e)
  | _, _, .dnk t => .dnk (t.mono e)
theorem RFs2.length : ∀ {v x : List (S × VI)}, RFs2 r v x → v.length = x.length
  | _, _, .nil => rfl
  | _, _, .cons _ t => by rw [List.length_cons, List.length_cons, t.length]
theorem RKs2.length : ∀ {v x : List (VI × VI)}, RKs2 r v x → v.length = x.length
  | _, _, .nil => rfl
  | _, _, .cons _ _ t => by rw [List.length_cons, List.length_cons, t.length]
structure Ag2 (r : List Nat) (s h : Hi) : Prop where
  nd : r.Nodup
  len : r.length = s.length
  ob : ∀ (n : Nat) (o : OI), s[n]? = some o → ∃ (m : Nat) (o' : OI), r[n]? = some m ∧ h[m]? = some o' ∧ RO2 r o o'
theorem Ag2.at_ (a : Ag2 r s h) {n m : Nat} {o : OI} (e : s[n]? = some o) (p : r[n]? = some m) : ∃ o', h[m]? = some o' ∧ RO2 r o o' := by
  obtain ⟨m', o', h1, h2, h3⟩ := a.ob n o e
  rw [p] at h1
  cases h1
  exact ⟨o', h2, h3⟩
theorem Ag2.lt (a : Ag2 r s h) {m : Nat} (hm : m ∈ r) : m < h.length := by
  obtain ⟨n, hn, e⟩ := List.mem_iff_getElem.mp hm
  have hl : n < s.length := by rw [← a.len]; exact hn
  obtain ⟨m', o', h1, h2, _⟩ := a.ob n s[n] (by simp [hl])
  have : r[n]? = some r[n] := by simp [hn]
  rw [this] at h1
  cases h1
  rw [e] at h2
  exact (List.getElem?_eq_some_iff.mp h2).1
theorem Ag2.new (a : Ag2 r s h) {o o' : OI} (k : RO2 (r ++ [h.length]) o o') : Ag2 (r ++ [h.length]) (s ++ [o]) (h ++ [o']) ∧ Ex2 r h (r ++ [h.length]) (h ++ [o']) := by
  have ext : Ex2 r h (r ++ [h.length]) (h ++ [o']) := ⟨⟨[h.length], rfl, fun m hm => by rw [List.mem_singleton] at hm; omega⟩, by simp, fun m _ hlt => List.getElem?_append_left hlt⟩
  refine ⟨⟨?_, by simp [a.len], fun n u e => ?_⟩, ext⟩
  · rw [List.nodup_append]
    refine ⟨a.nd, by simp, fun x hx y hy => ?_⟩
    rw [List.mem_singleton] at hy
    have := a.lt hx
    omega
  · by_cases hn : n < s.length
    · rw [List.getElem?_append_left hn] at e
      obtain ⟨m, u', h1, h2, h3⟩ := a.ob n u e
      refine ⟨m, u', ext.pre h1, ?_, h3.mono ext⟩
      rw [List.getElem?_append_left (List.getElem?_eq_some_iff.mp h2).1]
      exact h2
    · have hle := Nat.le_of_not_lt hn
      rw [List.getElem?_append_right hle] at e
      have hz : n - s.length = 0 := by
        have := (List.getElem?_eq_some_iff.mp e).1
        simp at this
        omega
      rw [hz] at e
      simp at e
      subst e
      have : n = r.length := by rw [a.len]; omega
      exact ⟨h.length, o', by rw [this]; simp, by simp, k⟩
theorem Ag2.idx (a : Ag2 r s h) : (r ++ [h.length])[s.length]? = some h.length := by rw [← a.len]; simp
theorem Ag2.wr (a : Ag2 r s h) {n m : Nat} {u o o' : OI} (hn : s[n]? = some u) (p : r[n]? = some m) (k : RO2 r o o') : Ag2 r (s.set n o) (h.set m o') ∧ Ex2 r h r (h.set m o') := by
  have hm : m ∈ r := List.mem_of_getElem? p
  refine ⟨⟨a.nd, by simp [a.len], fun j v e => ?_⟩, ⟨⟨[], by simp, fun _ z => by cases z⟩, by simp, fun j hj hlt => List.getElem?_set_ne (by intro z; subst z; exact hj hm)⟩⟩
  rw [List.getElem?_set] at e
  by_cases hj : n = j
  · subst hj
    rw [if_pos rfl, if_pos (List.getElem?_eq_some_iff.mp hn).1] at e
    cases e
    exact ⟨m, o', p, List.getElem?_set_self (a.lt hm), k⟩
  · rw [if_neg hj] at e
    obtain ⟨m', v', h1, h2, h3⟩ := a.ob j v e
    refine ⟨m', v', h1, ?_, h3⟩
    rw [List.getElem?_set_ne]
    · exact h2
    · intro z
      subst z
      obtain ⟨l1, e1⟩ := List.getElem?_eq_some_iff.mp p
      obtain ⟨l2, e2⟩ := List.getElem?_eq_some_iff.mp h1
      have pw := List.pairwise_iff_getElem.mp a.nd
      rcases Nat.lt_trichotomy n j with l | l | l
      · exact pw n j l1 l2 l (e1.trans e2.symm)
      · exact hj l
      · exact pw j n l2 l1 l (e2.trans e1.symm)
structure AS2 (r : List Nat) (σ σ' : Sg) : Prop where
  len : σ.length = σ'.length
  at_ : ∀ (i : Nat) (v : VI), σ[i]? = some (some v) → ∃ x : VI, σ'[i]? = some (some x) ∧ RV2 r v x
theorem AS2.mono {σ σ' : Sg} (a : AS2 r σ σ') (e : Ex2 r h r' h') : AS2 r' σ σ' := ⟨a.len, fun i v q => let ⟨x, h1, h2⟩ := a.at_ i v q; ⟨x, h1, h2.mono e⟩⟩
theorem AS2.set {σ σ' : Sg} (a : AS2 r σ σ') {v x : VI} (k : RV2 r v x) (i : Nat) : AS2 r (σ.set i (some v)) (σ'.set i (some x)) := by
  refine ⟨by simp [a.len], fun j w e => ?_⟩
  rw [List.getElem?_set] at e ⊢
  by_cases hj : i = j
  · subst hj
    rw [if_pos rfl] at e ⊢
    by_cases hl : i < σ.length
    · rw [if_pos hl] at e
      rw [if_pos (by rw [← a.len]; exact hl)]
      cases e
      exact ⟨x, rfl, k⟩
    · rw [if_neg hl] at e; cases e
  · rw [if_neg hj] at e ⊢
    exact a.at_ j w e
theorem AS2.lose {σ σ' : Sg} (a : AS2 r σ σ') (i : Nat) : AS2 r (σ.set i none) (σ'.set i none) := by
  refine ⟨by simp [a.len], fun j w e => ?_⟩
  rw [List.getElem?_set] at e ⊢
  by_cases hj : i = j
  · subst hj
    rw [if_pos rfl] at e
    by_cases hl : i < σ.length
    · rw [if_pos hl] at e; cases e
    · rw [if_neg hl] at e; cases e
  · rw [if_neg hj] at e ⊢
    exact a.at_ j w e
def L2R {α : Type} (R : List Nat → α → α → Prop) (r : List Nat) (h : Hi) (a a' : Res α) : Prop := match a with
  | .ok v s' => ∃ r' h' v', a' = .ok v' h' ∧ Ex2 r h r' h' ∧ Ag2 r' s' h' ∧ R r' v v'
  | .ex c n s' => ∃ r' h' m, a' = .ex c m h' ∧ Ex2 r h r' h' ∧ Ag2 r' s' h' ∧ r'[n]? = some m
  | .err => True
def L2O {α : Type} (R : List Nat → α → α → Prop) (r : List Nat) (h : Hi) (a a' : Option (α × Hi)) : Prop := match a with
  | some (v, s') => ∃ r' h' v', a' = some (v', h') ∧ Ex2 r h r' h' ∧ Ag2 r' s' h' ∧ R r' v v'
  | none => True
theorem L2R.bind {α β : Type} {R : List Nat → α → α → Prop} {R' : List Nat → β → β → Prop} {a a' : Res α} {k k' : α → Hi → Res β} (h1 : L2R R r h a a')
    (h2 : ∀ r1 s1 h1 x x', Ex2 r h r1 h1 → Ag2 r1 s1 h1 → R r1 x x' → L2R R' r1 h1 (k x s1) (k' x' h1)) : L2R R' r h (a.bind k) (a'.bind k') := by
  cases a with
  | err => trivial
  | ex c n s' =>
    obtain ⟨r', h', m, rfl, e, g, q⟩ := h1
    exact ⟨r', h', m, rfl, e, g, q⟩
  | ok v s' =>
    obtain ⟨r', h', v', rfl, e, g, q⟩ := h1
    have t := h2 r' s' h' v v' e g q
    show L2R R' r h (k v s') (k' v' h')
    cases z : k v s' with
    | err => trivial
    | ex c n s2 => rw [z] at t; obtain ⟨r2, h2, m, e1, e2, g2, q2⟩ := t; exact ⟨r2, h2, m, e1, e.trans e2, g2, q2⟩
    | ok w s2 => rw [z] at t; obtain ⟨r2, h2, w', e1, e2, g2, q2⟩ := t; exact ⟨r2, h2, w', e1, e.trans e2, g2, q2⟩
theorem L2R.ok {α : Type} {R : List Nat → α → α → Prop} {v v' : α} (g : Ag2 r s h) (k : R r v v') : L2R R r h (.ok v s) (.ok v' h) := ⟨r, h, v', rfl, .refl, g, k⟩
theorem L2R.ofO {α : Type} {R : List Nat → α → α → Prop} {a a' : Option (α × Hi)} (h1 : L2O R r h a a') : L2R R r h (ofO a) (ofO a') := by
  cases a with
  | none => trivial
  | some p =>
    obtain ⟨v, s'⟩ := p
    obtain ⟨r', h', v', rfl, e, g, q⟩ := h1
    exact ⟨r', h', v', rfl, e, g, q⟩
theorem L2O.ok {α : Type} {R : List Nat → α → α → Prop} {v v' : α} (g : Ag2 r s h) (k : R r v v') : L2O R r h (some (v, s)) (some (v', h)) := ⟨r, h, v', rfl, .refl, g, k⟩
theorem L2O.new {o o' : OI} (g : Ag2 r s h) (k : ∀ r', Ex2 r h r' (h ++ [o']) → RO2 r' o o') : L2O RV2 r h (some (.ref s.length, s ++ [o])) (some (.ref h.length, h ++ [o'])) := by
  have e0 : Ex2 r h (r ++ [h.length]) (h ++ [o']) := ⟨⟨[h.length], rfl, fun m hm => by rw [List.mem_singleton] at hm; omega⟩, by simp, fun m _ hlt => List.getElem?_append_left hlt⟩
  obtain ⟨g', e⟩ := g.new (k _ e0)
  exact ⟨_, _, _, rfl, e, g', .ref g.idx⟩
theorem L2R.new {o o' : OI} (g : Ag2 r s h) (k : ∀ r', Ex2 r h r' (h ++ [o']) → RO2 r' o o') : L2R RV2 r h (.ok (.ref s.length) (s ++ [o])) (.ok (.ref h.length) (h ++ [o'])) := L2R.ofO (L2O.new g k)
end
class LF (f : MF) : Prop where
  run : ∀ r s h vs vs', Ag2 r s h → RVs2 r vs vs' → L2R RV2 r h (f vs s) (f vs' h)
class LE (m : ME) : Prop where
  run : ∀ r s h σ σ', Ag2 r s h → AS2 r σ σ' → L2R RV2 r h (m σ s) (m σ' h)
class LT (m : MT) : Prop where
  run : ∀ r s h σ σ', Ag2 r s h → AS2 r σ σ' → L2R (fun _ (a b : Bool) => a = b) r h (m σ s) (m σ' h)
class LA (m : MA) : Prop where
  run : ∀ r s h σ σ', Ag2 r s h → AS2 r σ σ' → L2R RVs2 r h (m σ s) (m σ' h)
class LO (m : MO) : Prop where
  run : ∀ r s h σ σ', Ag2 r s h → AS2 r σ σ' → L2R (fun _ (a b : Option Int) => a = b) r h (m σ s) (m σ' h)
class LOp (f : Op2) : Prop where
  run : ∀ r s h x y x' y', Ag2 r s h → RV2 r x x' → RV2 r y y' → L2O RV2 r h (f x y s) (f x' y' h)
class LOc (f : OpC) : Prop where
  run : ∀ r s h vs vs', Ag2 r s h → RVs2 r vs vs' → L2O RV2 r h (f vs s) (f vs' h)
class LOm (f : OpM) : Prop where
  run : ∀ r s h x x' vs vs', Ag2 r s h → RV2 r x x' → RVs2 r vs vs' → L2O RV2 r h (f x vs s) (f x' vs' h)
class CV (v : VI) : Prop where
  self : ∀ r, RV2 r v v
class CVs (v : List VI) : Prop where
  self : ∀ r, RVs2 r v v
instance : CV .non := ⟨fun _ => .non⟩
instance {b : Bool} : CV (.bl b) := ⟨fun _ => .bl b⟩
instance {b : Int} : CV (.int b) := ⟨fun _ => .int b⟩
instance {b : S} : CV (.str b) := ⟨fun _ => .str b⟩
instance {b : S} : CV (.glo b) := ⟨fun _ => .glo b⟩
instance : CVs [] := ⟨fun _ => .nil⟩
instance {v : VI} {vs : List VI} [a : CV v] [b : CVs vs] : CVs (v :: vs) := ⟨fun r => .cons (a.self r) (b.self r)⟩
instance {vs : List VI} [b : CVs vs] : CV (.tup vs) := ⟨fun r => .tup (b.self r)⟩
section
variable {ma mb mc : ME} {ta tb : MT} {aa : MA} {f g : Op2}
instance {i : Nat} : LE (eV i) := ⟨fun r s h σ σ' g a => by
  unfold eV
  cases e : σ[i]? with
  | none => trivial
  | some o =>
    cases o with
    | none => trivial
    | some v =>
      obtain ⟨x, h1, h2⟩ := a.at_ i v e
      rw [h1]
      exact .ok g h2⟩
instance {v : VI} [c : CV v] : LE (eC v) := ⟨fun r s h σ σ' g a => .ok g (c.self r)⟩
instance : LA aNil := ⟨fun r s h σ σ' g a => .ok g .nil⟩
instance [x : LE ma] [y : LA aa] : LA (aCons ma aa) := ⟨fun r s h σ σ' g a => (x.run r s h σ σ' g a).bind fun r1 s1 h1 v v' e1 g1 q1 => (y.run _ _ _ _ _ g1 (a.mono e1)).bind fun r2 s2 h2 vs vs' e2 g2 q2 => .ok g2 (.cons (q1.mono e2) q2)⟩
instance [y : LA aa] : LE (eTup aa) := ⟨fun r s h σ σ' g a => (y.run r s h σ σ' g a).bind fun r1 s1 h1 v v' e1 g1 q1 => by
  rw [q1.length]
  cases small v'.length with
  | true => exact .ok g1 (.tup q1)
  | false => trivial⟩
instance [y : LA aa] : LE (eLst aa) := ⟨fun r s h σ σ' g a => (y.run r s h σ σ' g a).bind fun r1 s1 h1 v v' e1 g1 q1 => by
  rw [q1.length]
  cases small v'.length with
  | true => exact .new g1 fun r' e => .lst (q1.mono e)
  | false => trivial⟩
instance [x : LE ma] [y : LE mb] [o : LOp f] : LE (eBin f ma mb) := ⟨fun r s h σ σ' g a => (x.run r s h σ σ' g a).bind fun r1 s1 h1 v v' e1 g1 q1 => (y.run _ _ _ _ _ g1 (a.mono e1)).bind fun r2 s2 h2 w w' e2 g2 q2 => .ofO (o.run _ _ _ _ _ _ _ g2 (q1.mono e2) q2)⟩
instance [x : LE ma] : LT (tOf ma) := ⟨fun r s h σ σ' g a => (x.run r s h σ σ' g a).bind fun r1 s1 h1 v v' e1 g1 q1 => by
  cases q1 with
  | bl b => exact .ok g1 rfl
  | _ => trivial⟩
instance [x : LT ta] [y : LT tb] : LT (tAndM ta tb) := ⟨fun r s h σ σ' g a => (x.run r s h σ σ' g a).bind fun r1 s1 h1 v v' e1 g1 q1 => by
  subst q1
  cases v with
  | true => exact y.run _ _ _ _ _ g1 (a.mono e1)
  | false => exact .ok g1 rfl⟩
instance [x : LT ta] [y : LT tb] : LT (tOrM ta tb) := ⟨fun r s h σ σ' g a => (x.run r s h σ σ' g a).bind fun r1 s1 h1 v v' e1 g1 q1 => by
  subst q1
  cases v with
  | false => exact y.run _ _ _ _ _ g1 (a.mono e1)
  | true => exact .ok g1 rfl⟩
instance [x : LT ta] : LT (tNotM ta) := ⟨fun r s h σ σ' g a => (x.run r s h σ σ' g a).bind fun r1 s1 h1 v v' e1 g1 q1 => by
  subst q1
  exact .ok g1 rfl⟩
instance : LT tYesM := ⟨fun r s h σ σ' g a => .ok g rfl⟩
instance [x : LE ma] [y : LE mb] : LE (eAnd ma mb) := ⟨fun r s h σ σ' g a => (x.run r s h σ σ' g a).bind fun r1 s1 h1 v v' e1 g1 q1 => by
  cases q1 with
  | bl b =>
    cases b with
    | true => exact y.run _ _ _ _ _ g1 (a.mono e1)
    | false => exact .ok g1 (.bl _)
  | _ => trivial⟩
instance [x : LE ma] [y : LE mb] : LE (eOr ma mb) := ⟨fun r s h σ σ' g a => (x.run r s h σ σ' g a).bind fun r1 s1 h1 v v' e1 g1 q1 => by
  cases q1 with
  | bl b =>
    cases b with
    | false => exact y.run _ _ _ _ _ g1 (a.mono e1)
    | true => exact .ok g1 (.bl _)
  | _ => trivial⟩
instance [x : LE ma] : LE (eNot ma) := ⟨fun r s h σ σ' g a => (x.run r s h σ σ' g a).bind fun r1 s1 h1 v v' e1 g1 q1 => by
  cases q1 with
  | bl b => exact .ok g1 (.bl _)
  | _ => trivial⟩
instance [x : LT ta] [y : LE ma] [z : LE mb] : LE (eIf ta ma mb) := ⟨fun r s h σ σ' g a => (x.run r s h σ σ' g a).bind fun r1 s1 h1 v v' e1 g1 q1 => by
  subst q1
  cases v with
  | true => exact y.run _ _ _ _ _ g1 (a.mono e1)
  | false => exact z.run _ _ _ _ _ g1 (a.mono e1)⟩
instance [x : LE ma] : LE (eNeg ma) := ⟨fun r s h σ σ' g a => (x.run r s h σ σ' g a).bind fun r1 s1 h1 v v' e1 g1 q1 => by
  cases q1 with
  | int b => exact .ok g1 (.int _)
  | _ => trivial⟩
instance [x : LE ma] [y : LE mb] [z : LE mc] [o : LOp f] [p : LOp g] : LE (eChain f g ma mb mc) := ⟨fun r s h σ σ' gg a => (x.run r s h σ σ' gg a).bind fun r1 s1 h1 v v' e1 g1 q1 => (y.run _ _ _ _ _ g1 (a.mono e1)).bind fun r2 s2 h2 w w' e2 g2 q2 =>
  (L2R.ofO (o.run _ _ _ _ _ _ _ g2 (q1.mono e2) q2)).bind fun r3 s3 h3 u u' e3 g3 q3 => by
    cases q3 with
    | bl b =>
      cases b with
      | true => exact (z.run _ _ _ _ _ g3 (((a.mono e1).mono e2).mono e3)).bind fun r4 s4 h4 t t' e4 g4 q4 => .ofO (p.run _ _ _ _ _ _ _ g4 ((q2.mono e3).mono e4) q4)
      | false => exact .ok g3 (.bl _)
    | _ => trivial⟩
instance {k : MF} [x : LF k] [y : LA aa] : LE (eCall k aa) := ⟨fun r s h σ σ' g a => (y.run r s h σ σ' g a).bind fun r1 s1 h1 v v' e1 g1 q1 => x.run _ _ _ _ _ g1 q1⟩
instance {k : OpC} [x : LOc k] [y : LA aa] : LE (eCB k aa) := ⟨fun r s h σ σ' g a => (y.run r s h σ σ' g a).bind fun r1 s1 h1 v v' e1 g1 q1 => .ofO (x.run _ _ _ _ _ g1 q1)⟩
instance {k : OpM} {d : Knd} [z : LE ma] [x : LOm k] [y : LA aa] : LE (eBM d k ma aa) := ⟨fun r s h σ σ' g a => (z.run r s h σ σ' g a).bind fun r1 s1 h1 v v' e1 g1 q1 => by
  have same : kOk d v s1 = true → kOk d v' h1 = true := fun q => by
    unfold kOk at q ⊢
    cases q1 with
    | str _ => exact q
    | @ref n m p =>
      dsimp only at q ⊢
      cases z : s1[n]? with
      | none => rw [z] at q; cases q
      | some o =>
        obtain ⟨o', k1, k2⟩ := g1.at_ z p
        rw [z] at q
        rw [k1]
        cases k2 <;> exact q
    | _ => exact q
  cases q : kOk d v s1 with
  | false => trivial
  | true =>
    rw [same q]
    exact (y.run _ _ _ _ _ g1 (a.mono e1)).bind fun r2 s2 h2 w w' e2 g2 q2 => .ofO (x.run _ _ _ _ _ _ _ g2 (q1.mono e2) q2)⟩
instance : LE eErr := ⟨fun r s h σ σ' g a => trivial⟩
instance : LO oNo := ⟨fun r s h σ σ' g a => .ok g rfl⟩
instance [x : LE ma] : LO (oSome ma) := ⟨fun r s h σ σ' g a => (x.run r s h σ σ' g a).bind fun r1 s1 h1 v v' e1 g1 q1 => by
  cases q1 with
  | int b => exact .ok g1 rfl
  | _ => trivial⟩
end
end ML
end
section
namespace ML
open PySem L2
section
variable {r r' : List Nat} {h h' s : Hi}
theorem keyEq2 {a b k l : VI} (p : RV2 r a b) (q : RV2 r k l) : keyEq b l = keyEq a k := by
  cases p <;> cases q <;> rfl
theorem isKey2 {a b : VI} (p : RV2 r a b) : isKey b = isKey a := by cases p <;> rfl
theorem flI2 {a b : VI} (p : RV2 r a b) : flI b = flI a := by cases p <;> rfl
theorem eqI2 {a b k l : VI} (p : RV2 r a b) (q : RV2 r k l) : eqI b l = eqI a k := by
  cases p <;> cases q <;> rfl
def ROp2 (r : List Nat) : Option VI → Option VI → Prop
  | some a, some b => RV2 r a b
  | none, none => True
  | _, _ => False
theorem getD2 {k l : VI} (q : RV2 r k l) : ∀ {xs ys : List (VI × VI)}, RKs2 r xs ys → ROp2 r (getD k xs) (getD l ys)
  | _, _, .nil => trivial
  | _, _, .cons p v t => by
    unfold getD
    rw [keyEq2 p q]
    split
    · exact v
    · exact getD2 q t
theorem hasD2 {k l : VI} (q : RV2 r k l) : ∀ {xs ys : List (VI × VI)}, RKs2 r xs ys → hasD l ys = hasD k xs
  | _, _, .nil => rfl
  | _, _, .cons p v t => by
    unfold hasD
    rw [keyEq2 p q, hasD2 q t]
theorem repD2 {k l v w : VI} (q : RV2 r k l) (u : RV2 r v w) : ∀ {xs ys : List (VI × VI)}, RKs2 r xs ys → RKs2 r (repD k v xs) (repD l w ys)
  | _, _, .nil => .nil
  | _, _, .cons p x t => by
    unfold repD
    rw [keyEq2 p q]
    split
    · exact .cons p u (repD2 q u t)
    · exact .cons p x (repD2 q u t)
theorem RKs2.append : ∀ {v w x y : List (VI × VI)}, RKs2 r v x → RKs2 r w y → RKs2 r (v ++ w) (x ++ y)
  | _, _, _, _, .nil, k => k
  | _, _, _, _, .cons a b t, k => .cons a b (RKs2.append t k)
theorem putD2 {k l v w : VI} (q : RV2 r k l) (u : RV2 r v w) {xs ys : List (VI × VI)} (t : RKs2 r xs ys) : RKs2 r (putD k v xs) (putD l w ys) := by
  unfold putD
  rw [hasD2 q t]
  split
  · exact repD2 q u t
  · exact t.append (.cons q u .nil)
theorem putAll2 : ∀ {ps qs xs ys : List (VI × VI)}, RKs2 r ps qs → RKs2 r xs ys → RKs2 r (putAll ps xs) (putAll qs ys)
  | _, _, _, _, .nil, t => t
  | _, _, _, _, .cons k v p, t => by
    unfold putAll
    exact putAll2 p (putD2 k v t)
theorem keysOk2 : ∀ {xs ys : List (VI × VI)}, RKs2 r xs ys → keysOk ys = keysOk xs
  | _, _, .nil => rfl
  | _, _, .cons p _ t => by unfold keysOk; rw [isKey2 p, keysOk2 t]
theorem inI2 {a b : VI} (p : RV2 r a b) : ∀ {xs ys : List VI}, RVs2 r xs ys → inI b ys = inI a xs
  | _, _, .nil => rfl
  | _, _, .cons q t => by unfold inI; rw [eqI2 q p, inI2 p t]
theorem alF2 : ∀ {xs ys : List VI}, RVs2 r xs ys → alF ys = alF xs
  | _, _, .nil => rfl
  | _, _, .cons q t => by unfold alF; rw [flI2 q, alF2 t]
theorem getF2 {f : S} : ∀ {xs ys : List (S × VI)}, RFs2 r xs ys → ROp2 r (getF f xs) (getF f ys)
  | _, _, .nil => trivial
  | _, _, .cons v t => by
    unfold getF
    split
    · exact v
    · exact getF2 t
theorem setF2 {f : S} {v w : VI} (u : RV2 r v w) : ∀ {xs ys : List (S × VI)}, RFs2 r xs ys → RFs2 r (setF f v xs) (setF f w ys)
  | _, _, .nil => .cons u .nil
  | _, _, .cons x t => by
    unfold setF
    split
    · exact .cons u t
    · exact .cons x (setF2 u t)
theorem datL2 {f g : VI → Option PyData} (e : ∀ v w d, RV2 r v w → f v = some d → g w = some d) : ∀ {xs ys : List VI} {ds : List PyData}, RVs2 r xs ys → datL f xs = some ds → datL g ys = some ds
  | _, _, _, .nil, q => q
  | _, _, _, .cons (v := v) (x := x) p t, q => by
    unfold datL at q ⊢
    cases z : f v with
    | none => rw [z] at q; cases q
    | some d =>
      rw [z] at q
      rw [e _ _ _ p z]
      dsimp only at q ⊢
      cases z2 : datL f _ with
      | none => rw [z2] at q; cases q
      | some ds =>
        rw [z2] at q
        rw [datL2 e t z2]
        exact q
theorem dat2 (a : Ag2 r s h) : ∀ (n : Nat) (v w : VI) (d : PyData), RV2 r v w → dat n s v = some d → dat n h w = some d
  | 0, _, _, _, _, q => by cases q
  | n + 1, v, w, d, p, q => by
    have ih := dat2 a n
    have lft : ∀ {xs ys : List VI} {F : List PyData → PyData}, RVs2 r xs ys → (datL (dat n s) xs).map F = some d → (datL (dat n h) ys).map F = some d := by
      intro xs ys F t k
      cases z : datL (dat n s) xs with
      | none => rw [z] at k; cases k
      | some ds => rw [z] at k; rw [datL2 ih t z]; exact k
    unfold dat at q ⊢
    cases p with
    | non => exact q
    | bl b => exact q
    | int i => exact q
    | str s => exact q
    | glo g => exact q
    | tup t => exact lft t q
    | @ref i m e =>
      dsimp only at q ⊢
      cases z : s[i]? with
      | none => rw [z] at q; cases q
      | some o =>
        obtain ⟨o', k1, k2⟩ := a.at_ z e
        rw [z] at q
        rw [k1]
        cases k2 with
        | lst t => exact lft t q
        | scr t => exact lft t q
        | dic _ => cases q
        | ins _ => cases q
        | xd _ => cases q
        | dnk _ => cases q
theorem eqD2 (a : Ag2 r s h) {x y x' y' : VI} {b : Bool} (p : RV2 r x x') (q : RV2 r y y') (e : eqD s x y = some b) : eqD h x' y' = some b := by
  unfold eqD at e ⊢
  cases z : dat 66 s x with
  | none => rw [z] at e; cases e
  | some d =>
    cases z2 : dat 66 s y with
    | none => rw [z, z2] at e; cases e
    | some d2 =>
      rw [z, z2] at e
      rw [dat2 a _ _ _ _ p z, dat2 a _ _ _ _ q z2]
      exact e
theorem inDl2 (a : Ag2 r s h) {x x' : VI} {ys ys' : List VI} {b : Bool} (p : RV2 r x x') (q : RVs2 r ys ys') (e : inDl s x ys = some b) : inDl h x' ys' = some b := by
  unfold inDl at e ⊢
  cases z : dat 66 s x with
  | none => rw [z] at e; cases e
  | some d =>
    cases z2 : datL (dat 65 s) ys with
    | none => rw [z, z2] at e; cases e
    | some d2 =>
      rw [z, z2] at e
      rw [dat2 a _ _ _ _ p z, datL2 (dat2 a 65) q z2]
      exact e
theorem inM2 (a : Ag2 r s h) {x y x' y' : VI} {b : Bool} (p : RV2 r x x') (q : RV2 r y y') (e : inM x y s = some b) : inM x' y' h = some b := by
  unfold inM at e ⊢
  cases q with
  | tup t =>
    dsimp only at e ⊢
    rw [flI2 p, alF2 t, inI2 p t]
    exact e
  | @ref i m pp =>
    dsimp only at e ⊢
    cases z : s[i]? with
    | none => rw [z] at e; cases e
    | some o =>
      obtain ⟨o', k1, k2⟩ := a.at_ z pp
      rw [z] at e
      rw [k1]
      cases k2 with
      | lst t =>
        dsimp only at e ⊢
        rw [flI2 p, alF2 t, inI2 p t]
        split at e
        · exact e
        · exact inDl2 a p t e
      | scr t =>
        dsimp only at e ⊢
        rw [flI2 p, alF2 t, inI2 p t]
        split at e
        · exact e
        · exact inDl2 a p t e
      | dic t =>
        dsimp only at e ⊢
        rw [isKey2 p]
        have k := getD2 p t
        split at e
        · rw [← e]
          cases z1 : getD x _ with
          | none => rw [z1] at k; cases z2 : getD x' _ with
            | none => rfl
            | some _ => rw [z2] at k; exact k.elim
          | some _ => rw [z1] at k; cases z2 : getD x' _ with
            | none => rw [z2] at k; exact k.elim
            | some _ => rfl
        · cases e
      | ins _ => cases e
      | xd _ => cases e
      | dnk _ => cases e
  | non => cases e
  | bl _ => cases e
  | int _ => cases e
  | str _ => cases e
  | glo _ => cases e
theorem ixL2 {xs ys : List VI} (t : RVs2 r xs ys) (i : Int) : ROp2 r (ixL xs i) (ixL ys i) := by
  unfold ixL
  rw [t.length]
  cases ixI ys.length i with
  | none => trivial
  | some j =>
    dsimp only
    cases z : xs[j]? with
    | none => rw [t.none z]; trivial
    | some v => obtain ⟨b, h1, h2⟩ := t.get z; rw [h1]; exact h2
theorem dropLast2 : ∀ {xs ys : List VI}, RVs2 r xs ys → RVs2 r xs.dropLast ys.dropLast
  | _, _, .nil => .nil
  | _, _, .cons _ .nil => .nil
  | _, _, .cons a (.cons b t) => .cons a (dropLast2 (.cons b t))
theorem isEmp2 {xs ys : List VI} (t : RVs2 r xs ys) : xs.isEmpty = ys.isEmpty := by cases t <;> rfl
theorem repL2 {xs ys : List VI} (t : RVs2 r xs ys) : ∀ n, RVs2 r (repL xs n) (repL ys n)
  | 0 => .nil
  | n + 1 => t.append (repL2 t n)
theorem cutI2 {xs ys : List VI} (t : RVs2 r xs ys) (lo hi : Option Int) : RVs2 r (cutI xs lo hi) (cutI ys lo hi) := by
  unfold cutI
  rw [t.length]
  exact (t.drop _).take _
theorem keys2 : ∀ {xs ys : List (VI × VI)}, RKs2 r xs ys → RVs2 r (xs.map (·.1)) (ys.map (·.1))
  | _, _, .nil => .nil
  | _, _, .cons a _ t => .cons a (keys2 t)
theorem vals2 : ∀ {xs ys : List (VI × VI)}, RKs2 r xs ys → RVs2 r (xs.map (·.2)) (ys.map (·.2))
  | _, _, .nil => .nil
  | _, _, .cons _ a t => .cons a (vals2 t)
theorem ints2 {α : Type} (f : α → Int) : ∀ l : List α, RVs2 r (l.map fun i => VI.int (f i)) (l.map fun i => VI.int (f i))
  | [] => .nil
  | _ :: l => .cons (.int _) (ints2 f l)
theorem rgI2 (a b : Int) : RVs2 r (rgI a b) (rgI a b) := ints2 (fun i : Nat => a + (i : Int)) _
theorem Ag2.no (a : Ag2 r s h) {n m : Nat} (p : r[n]? = some m) : ∃ o o', s[n]? = some o ∧ h[m]? = some o' ∧ RO2 r o o' := by
  have hn : n < s.length := by rw [← a.len]; exact (List.getElem?_eq_some_iff.mp p).1
  have e : s[n]? = some s[n] := by simp [hn]
  obtain ⟨o', h1, h2⟩ := a.at_ e p
  exact ⟨_, o', e, h1, h2⟩
theorem L2O.wr {n m : Nat} {u o o' : OI} {v w : VI} (g : Ag2 r s h) (hn : s[n]? = some u) (p : r[n]? = some m) (k : RO2 r o o') (q : RV2 r v w) : L2O RV2 r h (some (v, s.set n o)) (some (w, h.set m o')) := by
  obtain ⟨g', e⟩ := g.wr hn p k
  exact ⟨_, _, _, rfl, e, g', q⟩
instance : LOp fEq := ⟨fun r s h x y x' y' g p q => by
  unfold fEq
  cases z : eqD s x y with
  | none => trivial
  | some b => rw [eqD2 g p q z]; exact .ok g (.bl b)⟩
instance : LOp fNe := ⟨fun r s h x y x' y' g p q => by
  unfold fNe
  cases z : eqD s x y with
  | none => trivial
  | some b => rw [eqD2 g p q z]; exact .ok g (.bl _)⟩
instance : LOp fIn := ⟨fun r s h x y x' y' g p q => by
  unfold fIn
  cases z : inM x y s with
  | none => trivial
  | some b => rw [inM2 g p q z]; exact .ok g (.bl b)⟩
instance : LOp fNotIn := ⟨fun r s h x y x' y' g p q => by
  unfold fNotIn
  cases z : inM x y s with
  | none => trivial
  | some b => rw [inM2 g p q z]; exact .ok g (.bl _)⟩
instance : LOp fAdd := ⟨fun r s h x y x' y' g p q => by
  unfold fAdd
  cases p with
  | int i =>
    cases q with
    | int j => exact .ok g (.int _)
    | _ => trivial
  | str i =>
    cases q with
    | str j =>
      dsimp only
      split
      · exact .ok g (.str _)
      · trivial
    | _ => trivial
  | tup i =>
    cases q with
    | tup j =>
      dsimp only
      rw [i.length, j.length]
      split
      · exact .ok g (.tup (i.append j))
      · trivial
    | _ => trivial
  | ref i =>
    cases q with
    | ref j =>
      obtain ⟨o, o', e1, e2, e3⟩ := g.no i
      obtain ⟨u, u', f1, f2, f3⟩ := g.no j
      dsimp only
      rw [e1, e2, f1, f2]
      cases e3 with
      | lst t =>
        cases f3 with
        | lst t2 =>
          dsimp only
          rw [t.length, t2.length]
          split
          · exact .new g fun r' e => .lst ((t.mono e).append (t2.mono e))
          · trivial
        | _ => trivial
      | _ => trivial
    | _ => trivial
  | _ => trivial⟩
instance : LOp fSub := ⟨fun r s h x y x' y' g p q => by
  unfold fSub
  cases p <;> cases q <;> first | trivial | exact .ok g (.int _)⟩
instance : LOp fMul := ⟨fun r s h x y x' y' g p q => by
  unfold fMul
  cases p with
  | int i =>
    cases q with
    | int j =>
      dsimp only
      split
      · exact .ok g (.int _)
      · trivial
    | _ => trivial
  | tup i =>
    cases q with
    | int j =>
      dsimp only
      rw [isEmp2 i, i.length]
      split
      · exact .ok g (.tup (repL2 i _))
      · trivial
    | _ => trivial
  | ref i =>
    cases q with
    | int j =>
      obtain ⟨o, o', e1, e2, e3⟩ := g.no i
      dsimp only
      rw [e1, e2]
      cases e3 with
      | lst t =>
        dsimp only
        rw [t.length]
        split
        · exact .new g fun r' e => .lst (repL2 (t.mono e) _)
        · trivial
      | _ => trivial
    | _ => trivial
  | _ => trivial⟩
instance : LOp fMod := ⟨fun r s h x y x' y' g p q => by
  unfold fMod
  cases p with
  | int i =>
    cases q with
    | int j =>
      dsimp only
      split
      · exact .ok g (.int _)
      · trivial
    | _ => trivial
  | _ => trivial⟩
instance : LOp fFdiv := ⟨fun r s h x y x' y' g p q => by
  unfold fFdiv
  cases p with
  | int i =>
    cases q with
    | int j =>
      dsimp only
      split
      · exact .ok g (.int _)
      · trivial
    | _ => trivial
  | _ => trivial⟩
instance : LOp fPow := ⟨fun r s h x y x' y' g p q => by
  unfold fPow
  cases p with
  | int i =>
    cases q with
    | int j =>
      dsimp only
      split
      · exact .ok g (.int _)
      · trivial
    | _ => trivial
  | _ => trivial⟩
instance {f : Int → Int → Bool} : LOp (fInt f) := ⟨fun r s h x y x' y' g p q => by
  unfold fInt
  cases p <;> cases q <;> first | trivial | exact .ok g (.bl _)⟩
instance : LOp fLt := inferInstanceAs (LOp (fInt _))
instance : LOp fLe := inferInstanceAs (LOp (fInt _))
instance : LOp fGt := inferInstanceAs (LOp (fInt _))
instance : LOp fGe := inferInstanceAs (LOp (fInt _))
instance : LOp fIsN := ⟨fun r s h x y x' y' g p q => by
  unfold fIsN
  cases q <;> first | trivial | (cases p <;> exact .ok g (.bl _))⟩
instance : LOp fNotN := ⟨fun r s h x y x' y' g p q => by
  unfold fNotN
  cases q <;> first | trivial | (cases p <;> exact .ok g (.bl _))⟩
theorem L2O.op {a b : Option VI} (g : Ag2 r s h) (k : ROp2 r a b) : L2O RV2 r h (match (generalizing := false) a with | some v => some (v, s) | none => none) (match (generalizing := false) b with | some v => some (v, h) | none => none) := by
  cases a with
  | none => trivial
  | some v => cases b with
    | none => exact k.elim
    | some w => exact .ok g k
instance : LOp fIx := ⟨fun r s h x y x' y' g p q => by
  unfold fIx
  cases p with
  | tup t =>
    cases q with
    | int i => exact .op g (ixL2 t i)
    | _ => trivial
  | ref i =>
    obtain ⟨o, o', e1, e2, e3⟩ := g.no i
    dsimp only
    rw [e1, e2]
    cases e3 with
    | lst t =>
      cases q with
      | int i => exact .op g (ixL2 t i)
      | _ => trivial
    | scr t =>
      cases q with
      | int i => exact .op g (ixL2 t i)
      | _ => trivial
    | dic t =>
      dsimp only
      rw [isKey2 q]
      have k := getD2 q t
      cases isKey y with
      | false => trivial
      | true =>
        cases z1 : getD y _ with
        | none => trivial
        | some v => rw [z1] at k; cases z2 : getD y' _ with
          | none => rw [z2] at k; exact k.elim
          | some w => rw [z2] at k; exact .ok g k
    | _ => trivial
  | _ => trivial⟩
instance : LOc cLen := ⟨fun r s h vs vs' g t => by
  unfold cLen
  cases t with
  | nil => trivial
  | cons p t =>
    cases t with
    | cons _ _ => cases p <;> trivial
    | nil =>
      cases p with
      | tup t => dsimp only; rw [t.length]; exact .ok g (.int _)
      | str x =>
        dsimp only
        split
        · exact .ok g (.int _)
        · trivial
      | ref i =>
        obtain ⟨o, o', e1, e2, e3⟩ := g.no i
        dsimp only
        rw [e1, e2]
        cases e3 with
        | lst t => dsimp only; rw [t.length]; exact .ok g (.int _)
        | scr t => dsimp only; rw [t.length]; exact .ok g (.int _)
        | dic t => dsimp only; rw [t.length]; exact .ok g (.int _)
        | _ => trivial
      | _ => trivial⟩
instance : LOc cInt := ⟨fun r s h vs vs' g t => by
  unfold cInt
  cases t with
  | nil => trivial
  | cons p t =>
    cases t with
    | cons _ _ => cases p <;> trivial
    | nil =>
      cases p with
      | int i => exact .ok g (.int _)
      | bl b => exact .ok g (.int _)
      | _ => trivial⟩
instance : LOc cMax := ⟨fun r s h vs vs' g t => by
  unfold cMax
  cases t with
  | nil => trivial
  | cons p t =>
    cases t with
    | nil => cases p <;> trivial
    | cons q t =>
      cases t with
      | cons _ _ => cases p <;> cases q <;> trivial
      | nil => cases p <;> cases q <;> first | trivial | exact .ok g (.int _)⟩
instance : LOc cMin := ⟨fun r s h vs vs' g t => by
  unfold cMin
  cases t with
  | nil => trivial
  | cons p t =>
    cases t with
    | nil => cases p <;> trivial
    | cons q t =>
      cases t with
      | cons _ _ => cases p <;> cases q <;> trivial
      | nil => cases p <;> cases q <;> first | trivial | exact .ok g (.int _)⟩
instance : LOc cList := ⟨fun r s h vs vs' g t => by
  unfold cList
  cases t with
  | nil => trivial
  | cons p t =>
    cases t with
    | cons _ _ => cases p <;> trivial
    | nil =>
      cases p with
      | tup t => exact .new g fun r' e => .lst (t.mono e)
      | ref i =>
        obtain ⟨o, o', e1, e2, e3⟩ := g.no i
        dsimp only
        rw [e1, e2]
        cases e3 with
        | lst t => exact .new g fun r' e => .lst (t.mono e)
        | scr t => exact .new g fun r' e => .lst (t.mono e)
        | dic t => exact .new g fun r' e => .lst ((keys2 t).mono e)
        | _ => trivial
      | _ => trivial⟩
instance : LOc cTuple := ⟨fun r s h vs vs' g t => by
  unfold cTuple
  cases t with
  | nil => trivial
  | cons p t =>
    cases t with
    | cons _ _ => cases p <;> trivial
    | nil =>
      cases p with
      | tup t => exact .ok g (.tup t)
      | ref i =>
        obtain ⟨o, o', e1, e2, e3⟩ := g.no i
        dsimp only
        rw [e1, e2]
        cases e3 with
        | lst t => exact .ok g (.tup t)
        | scr t => exact .ok g (.tup t)
        | _ => trivial
      | _ => trivial⟩
instance : LOc cDict := ⟨fun r s h vs vs' g t => by
  unfold cDict
  cases t with
  | nil => trivial
  | cons p t =>
    cases t with
    | cons _ _ => cases p <;> trivial
    | nil =>
      cases p with
      | ref i =>
        obtain ⟨o, o', e1, e2, e3⟩ := g.no i
        dsimp only
        rw [e1, e2]
        cases e3 with
        | dic t => exact .new g fun r' e => .dic (t.mono e)
        | _ => trivial
      | _ => trivial⟩
instance : LOm mAppend := ⟨fun r s h x x' vs vs' g p t => by
  unfold mAppend
  cases p with
  | ref i =>
    obtain ⟨o, o', e1, e2, e3⟩ := g.no i
    dsimp only
    rw [e1, e2]
    cases e3 with
    | lst l =>
      cases t with
      | nil => trivial
      | cons q t =>
        cases t with
        | cons _ _ => trivial
        | nil =>
          dsimp only
          rw [l.length]
          split
          · exact .wr g e1 i (.lst (l.append (.cons q .nil))) .non
          · trivial
    | _ => trivial
  | _ => trivial⟩
instance : LOm mExtend := ⟨fun r s h x x' vs vs' g p t => by
  unfold mExtend
  cases p with
  | ref i =>
    obtain ⟨o, o', e1, e2, e3⟩ := g.no i
    dsimp only
    rw [e1, e2]
    cases e3 with
    | lst l =>
      cases t with
      | nil => trivial
      | cons q t =>
        cases t with
        | cons _ _ => cases q <;> trivial
        | nil =>
          cases q with
          | ref j =>
            obtain ⟨u, u', f1, f2, f3⟩ := g.no j
            dsimp only
            rw [f1, f2]
            cases f3 with
            | lst l2 =>
              dsimp only
              rw [l.length, l2.length]
              split
              · exact .wr g e1 i (.lst (l.append l2)) .non
              · trivial
            | _ => trivial
          | _ => trivial
    | _ => trivial
  | _ => trivial⟩
instance : LOm mPop := ⟨fun r s h x x' vs vs' g p t => by
  unfold mPop
  cases p with
  | ref i =>
    obtain ⟨o, o', e1, e2, e3⟩ := g.no i
    dsimp only
    rw [e1, e2]
    cases e3 with
    | @lst xs ys l =>
      cases t with
      | cons _ _ => trivial
      | nil =>
        dsimp only
        cases z : xs[xs.length - 1]? with
        | none => trivial
        | some y =>
          obtain ⟨b, k1, k2⟩ := l.get z
          rw [← l.length, k1]
          exact .wr g e1 i (.lst (dropLast2 l)) k2
    | _ => trivial
  | _ => trivial⟩
end
end ML
end
section
namespace ML
open PySem L2
section
variable {r r' : List Nat} {h h' s : Hi}
def L2S (r : List Nat) (h : Hi) (a a' : RS) : Prop := match a with
  | .nx σ s' => ∃ r' h' σ', a' = .nx σ' h' ∧ Ex2 r h r' h' ∧ Ag2 r' s' h' ∧ AS2 r' σ σ'
  | .bk σ s' => ∃ r' h' σ', a' = .bk σ' h' ∧ Ex2 r h r' h' ∧ Ag2 r' s' h' ∧ AS2 r' σ σ'
  | .ct σ s' => ∃ r' h' σ', a' = .ct σ' h' ∧ Ex2 r h r' h' ∧ Ag2 r' s' h' ∧ AS2 r' σ σ'
  | .rt v s' => ∃ r' h' v', a' = .rt v' h' ∧ Ex2 r h r' h' ∧ Ag2 r' s' h' ∧ RV2 r' v v'
  | .ex c n σ s' => ∃ r' h' σ' m, a' = .ex c m σ' h' ∧ Ex2 r h r' h' ∧ Ag2 r' s' h' ∧ AS2 r' σ σ' ∧ r'[n]? = some m
  | .err => True
theorem L2S.ext {a a' : RS} (x : Ex2 r h r' h') (k : L2S r' h' a a') : L2S r h a a' := by
  cases a with
  | err => trivial
  | nx σ s' => obtain ⟨r2, h2, m, e1, e2, e3⟩ := k; exact ⟨r2, h2, m, e1, x.trans e2, e3⟩
  | bk σ s' => obtain ⟨r2, h2, m, e1, e2, e3⟩ := k; exact ⟨r2, h2, m, e1, x.trans e2, e3⟩
  | ct σ s' => obtain ⟨r2, h2, m, e1, e2, e3⟩ := k; exact ⟨r2, h2, m, e1, x.trans e2, e3⟩
  | rt σ s' => obtain ⟨r2, h2, m, e1, e2, e3⟩ := k; exact ⟨r2, h2, m, e1, x.trans e2, e3⟩
  | ex c n σ s' => obtain ⟨r2, h2, m, m2, e1, e2, e3⟩ := k; exact ⟨r2, h2, m, m2, e1, x.trans e2, e3⟩
theorem L2R.ext {α : Type} {R : List Nat → α → α → Prop} {a a' : Res α} (x : Ex2 r h r' h') (k : L2R R r' h' a a') : L2R R r h a a' := by
  cases a with
  | err => trivial
  | ok σ s' => obtain ⟨r2, h2, m, e1, e2, e3⟩ := k; exact ⟨r2, h2, m, e1, x.trans e2, e3⟩
  | ex c n s' => obtain ⟨r2, h2, m, e1, e2, e3⟩ := k; exact ⟨r2, h2, m, e1, x.trans e2, e3⟩
theorem L2S.nx {σ σ' : Sg} (g : Ag2 r s h) (a : AS2 r σ σ') : L2S r h (.nx σ s) (.nx σ' h) := ⟨_, _, _, rfl, .refl, g, a⟩
theorem L2R.bindS {α : Type} {R : List Nat → α → α → Prop} {a a' : Res α} {σ σ' : Sg} {k k' : α → Hi → RS} (h1 : L2R R r h a a') (as : AS2 r σ σ')
    (h2 : ∀ r1 s1 h1 x x', Ex2 r h r1 h1 → Ag2 r1 s1 h1 → R r1 x x' → L2S r1 h1 (k x s1) (k' x' h1)) : L2S r h (a.bindS σ k) (a'.bindS σ' k') := by
  cases a with
  | err => trivial
  | ex c n s' =>
    obtain ⟨r', h', m, rfl, e, g, q⟩ := h1
    exact ⟨r', h', σ', m, rfl, e, g, as.mono e, q⟩
  | ok v s' =>
    obtain ⟨r', h', v', rfl, e, g, q⟩ := h1
    exact (h2 r' s' h' v v' e g q).ext e
theorem L2S.andThen {a a' : RS} {f f' : MS} (k : L2S r h a a') (t : ∀ r1 s1 h1 σ σ', Ex2 r h r1 h1 → Ag2 r1 s1 h1 → AS2 r1 σ σ' → L2S r1 h1 (f σ s1) (f' σ' h1)) : L2S r h (a.andThen f) (a'.andThen f') := by
  cases a with
  | err => trivial
  | nx σ s' => obtain ⟨r2, h2, m, rfl, e2, e3, e4⟩ := k; exact (t _ _ _ _ _ e2 e3 e4).ext e2
  | bk σ s' => obtain ⟨r2, h2, m, rfl, e2, e3⟩ := k; exact ⟨r2, h2, m, rfl, e2, e3⟩
  | ct σ s' => obtain ⟨r2, h2, m, rfl, e2, e3⟩ := k; exact ⟨r2, h2, m, rfl, e2, e3⟩
  | rt σ s' => obtain ⟨r2, h2, m, rfl, e2, e3⟩ := k; exact ⟨r2, h2, m, rfl, e2, e3⟩
  | ex c n σ s' => obtain ⟨r2, h2, m, m2, rfl, e2, e3⟩ := k; exact ⟨r2, h2, m, m2, rfl, e2, e3⟩
theorem L2R.dropV {a a' : Res VI} {σ σ' : Sg} (k : L2R RV2 r h a a') (as : AS2 r σ σ') : L2S r h (dropV σ a) (dropV σ' a') := by
  cases a with
  | err => trivial
  | ok v s' => obtain ⟨r2, h2, m, rfl, e, g, _⟩ := k; exact ⟨r2, h2, σ', rfl, e, g, as.mono e⟩
  | ex c n s' => obtain ⟨r2, h2, m, rfl, e, g, q⟩ := k; exact ⟨r2, h2, σ', m, rfl, e, g, as.mono e, q⟩
end
class LS (m : MS) : Prop where
  run : ∀ r s h σ σ', Ag2 r s h → AS2 r σ σ' → L2S r h (m σ s) (m σ' h)
class LG (g : MG) : Prop where
  run : ∀ r s h σ σ' v v', Ag2 r s h → AS2 r σ σ' → RV2 r v v' → L2S r h (g v σ s) (g v' σ' h)
class LTb (tbl : Nat → Option MF) : Prop where
  run : ∀ c g, tbl c = some g → LF g
class CTb (tbl : Nat → Option VI) : Prop where
  run : ∀ c v, tbl c = some v → ∀ r, RV2 r v v
instance : LTb (lkT []) := ⟨fun c g e => by cases e⟩
instance {d : Nat} {x : MF} {l : List (Nat × MF)} [a : LF x] [b : LTb (lkT l)] : LTb (lkT ((d, x) :: l)) := ⟨fun c g e => by
  rcases lkT_cons e with ⟨_, rfl⟩ | q
  · exact a
  · exact b.run c g q⟩
instance : CTb (lkT []) := ⟨fun c g e => by cases e⟩
instance {d : Nat} {x : VI} {l : List (Nat × VI)} [a : CV x] [b : CTb (lkT l)] : CTb (lkT ((d, x) :: l)) := ⟨fun c g e => by
  rcases lkT_cons e with ⟨_, rfl⟩ | q
  · exact a.self
  · exact b.run c g q⟩
class CTs (tbl : S → Option VI) : Prop where
  run : ∀ c v, tbl c = some v → ∀ r, RV2 r v v
instance : CTs (lkS []) := ⟨fun c g e => by cases e⟩
instance {d : S} {x : VI} {l : List (S × VI)} [a : CV x] [b : CTs (lkS l)] : CTs (lkS ((d, x) :: l)) := ⟨fun c v e => by
  unfold lkS at e
  split at e
  · cases e; exact a.self
  · exact b.run c v e⟩
section
variable {ma mb mc : ME} {ta tb : MT} {aa ab : MA} {sa sb : MS} {ga : MG}
instance {cs : List Nat} {f : S} [x : LE ma] : LE (eFld cs f ma) := ⟨fun r s h σ σ' g a => (x.run r s h σ σ' g a).bind fun r1 s1 h1 v v' e1 g1 q1 => by
  cases q1 with
  | ref p =>
    obtain ⟨o, o', z1, z2, z3⟩ := g1.no p
    dsimp only
    rw [z1, z2]
    cases z3 with
    | @ins c xs ys t =>
      dsimp only
      have k := getF2 (f := f) t
      cases cs.contains c with
      | false => trivial
      | true =>
        cases w1 : getF f xs with
        | none => trivial
        | some v => cases w2 : getF f ys with
          | none => rw [w1, w2] at k; exact k.elim
          | some w => rw [w1, w2] at k; exact .ok g1 k
    | _ => trivial
  | _ => trivial⟩
instance {tbl : Nat → Option VI} {f : S} [c : CTb tbl] [x : LE ma] : LE (eCon tbl f ma) := ⟨fun r s h σ σ' g a => (x.run r s h σ σ' g a).bind fun r1 s1 h1 v v' e1 g1 q1 => by
  cases q1 with
  | ref p =>
    obtain ⟨o, o', z1, z2, z3⟩ := g1.no p
    dsimp only
    rw [z1, z2]
    cases z3 with
    | @ins d xs ys t =>
      dsimp only
      have k := getF2 (f := f) t
      cases w0 : tbl d with
      | none => trivial
      | some u =>
        cases w1 : getF f xs with
        | some v => trivial
        | none => cases w2 : getF f ys with
          | some _ => rw [w1, w2] at k; exact k.elim
          | none => exact .ok g1 (c.run _ _ w0 _)
    | _ => trivial
  | _ => trivial⟩
instance {tbl : Nat → Option MF} {f : S} [c : LTb tbl] [x : LE ma] [y : LA aa] : LE (eMeth tbl f ma aa) := ⟨fun r s h σ σ' g a => (x.run r s h σ σ' g a).bind fun r1 s1 h1 v v' e1 g1 q1 => by
  cases q1 with
  | ref p =>
    obtain ⟨o, o', z1, z2, z3⟩ := g1.no p
    dsimp only
    rw [z1, z2]
    cases z3 with
    | @ins d xs ys t =>
      dsimp only
      have k := getF2 (f := f) t
      cases w0 : tbl d with
      | none => trivial
      | some u =>
        cases w1 : getF f xs with
        | some v => trivial
        | none => cases w2 : getF f ys with
          | some _ => rw [w1, w2] at k; exact k.elim
          | none => exact (y.run _ _ _ _ _ g1 (a.mono e1)).bind fun r2 s2 h2 w w' e2 g2 q2 => (c.run _ _ w0).run _ _ _ _ _ g2 (.cons (.ref (e2.pre p)) q2)
    | _ => trivial
  | _ => trivial⟩
theorem L2R.okM {r : List Nat} {h : Hi} {a a' : Res VI} (k : L2R RV2 r h a a') : L2R RV2 r h (okM a) (okM a') := by
  cases a with
  | err => trivial
  | ok v s' => obtain ⟨r2, h2, m, rfl, e⟩ := k; exact ⟨r2, h2, m, rfl, e⟩
  | ex c n s' => trivial
instance {tbl : Nat → Option MF} [c : LTb tbl] [x : LE ma] : LE (eProp tbl ma) := ⟨fun r s h σ σ' g a => (x.run r s h σ σ' g a).bind fun r1 s1 h1 v v' e1 g1 q1 => by
  cases q1 with
  | ref p =>
    obtain ⟨o, o', z1, z2, z3⟩ := g1.no p
    dsimp only
    rw [z1, z2]
    cases z3 with
    | @ins d xs ys t =>
      dsimp only
      cases w0 : tbl d with
      | none => trivial
      | some u => exact ((c.run _ _ w0).run _ _ _ _ _ g1 (.cons (.ref p) .nil)).okM
    | _ => trivial
  | _ => trivial⟩
theorem mk2 {f : MF} [x : LF f] {c : Nat} {r : List Nat} {s h : Hi} {vs vs' : List VI} (g : Ag2 r s h) (q : Ex2 r h (r ++ [h.length]) (h ++ [.ins c []]) → RVs2 (r ++ [h.length]) vs vs') :
    L2R RV2 r h (match f vs (s ++ [.ins c []]) with | .ok .non h2 => .ok (.ref s.length) h2 | .ex c n h2 => .ex c n h2 | _ => .err) (match f vs' (h ++ [.ins c []]) with | .ok .non h2 => .ok (.ref h.length) h2 | .ex c n h2 => .ex c n h2 | _ => .err) := by
  obtain ⟨g', e⟩ := g.new (o := .ins c []) (o' := .ins c []) (.ins .nil)
  have k := x.run _ _ _ _ _ g' (q e)
  cases z : f vs (s ++ [.ins c []]) with
  | err => trivial
  | ex d n s2 => rw [z] at k; obtain ⟨r2, h2, m, k1, k2, k3, k4⟩ := k; rw [k1]; exact ⟨r2, h2, m, rfl, e.trans k2, k3, k4⟩
  | ok v s2 =>
    rw [z] at k
    obtain ⟨r2, h2, m, k1, k2, k3, k4⟩ := k
    rw [k1]
    cases k4 with
    | non => exact ⟨r2, h2, _, rfl, e.trans k2, k3, .ref (k2.pre g.idx)⟩
    | _ => trivial
instance {c : Nat} {f : MF} [x : LF f] : LF (mkM c f) := ⟨fun r s h vs vs' g q => mk2 g fun e => .cons (.ref g.idx) (q.mono e)⟩
class LK (k : MK) : Prop where
  run : ∀ r s h vs vs' zs zs', Ag2 r s h → RVs2 r vs vs' → RVs2 r zs zs' → L2R RV2 r h (k vs zs s) (k vs' zs' h)
class LAr (f : List VI → List VI → List VI) : Prop where
  run : ∀ r vs vs' zs zs', RVs2 r vs vs' → RVs2 r zs zs' → RVs2 r (f vs zs) (f vs' zs')
instance {f : MF} {arr : List VI → List VI → List VI} [x : LF f] [y : LAr arr] : LK (fnK f arr) := ⟨fun r s h vs vs' zs zs' g p q => x.run _ _ _ _ _ g (y.run _ _ _ _ _ p q)⟩
instance {c : Nat} {f : MF} {arr : List VI → List VI → List VI} [x : LF f] [y : LAr arr] : LK (mkK c f arr) := ⟨fun r s h vs vs' zs zs' g p q => mk2 g fun e => y.run _ _ _ _ _ (.cons (.ref g.idx) (p.mono e)) (q.mono e)⟩
instance {n m : Nat} {k : MK} [x : LK k] [y : LA aa] [z : LA ab] : LE (eCallK n m k aa ab) := ⟨fun r s h σ σ' g a => (y.run r s h σ σ' g a).bind fun r1 s1 h1 v v' e1 g1 q1 => (z.run _ _ _ _ _ g1 (a.mono e1)).bind fun r2 s2 h2 w w' e2 g2 q2 => by
  rw [q1.length, q2.length]
  split
  · exact x.run _ _ _ _ _ _ _ g2 (q1.mono e2) q2
  · trivial⟩
theorem ins2 {r : List Nat} {s h : Hi} (g : Ag2 r s h) {x y : VI} (p : RV2 r x y) : insC y h = insC x s := by
  cases p with
  | ref i =>
    obtain ⟨o, o', z1, z2, z3⟩ := g.no i
    unfold insC
    dsimp only
    rw [z1, z2]
    cases z3 <;> rfl
  | _ => rfl
instance {tbl : Nat → Option MF} [c : LTb tbl] [x : LE ma] [y : LE mb] : LE (eIxU tbl ma mb) := ⟨fun r s h σ σ' g a => (x.run r s h σ σ' g a).bind fun r1 s1 h1 v v' e1 g1 q1 => (y.run _ _ _ _ _ g1 (a.mono e1)).bind fun r2 s2 h2 w w' e2 g2 q2 => by
  rw [ins2 g2 (q1.mono e2)]
  cases z : insC v s2 with
  | none => exact .ofO (LOp.run (f := fIx) _ _ _ _ _ _ _ g2 (q1.mono e2) q2)
  | some d =>
    dsimp only
    cases w0 : tbl d with
    | none => trivial
    | some u => exact (c.run _ _ w0).run _ _ _ _ _ g2 (.cons (q1.mono e2) (.cons q2 .nil))⟩
theorem putIx2 {r : List Nat} {s h s' : Hi} (g : Ag2 r s h) {x x' y y' z z' : VI} (p : RV2 r x x') (q : RV2 r y y') (k : RV2 r z z') (e : putIx x y z s = some s') : ∃ h', putIx x' y' z' h = some h' ∧ Ex2 r h r h' ∧ Ag2 r s' h' := by
  unfold putIx at e ⊢
  cases p with
  | ref i =>
    obtain ⟨o, o', z1, z2, z3⟩ := g.no i
    dsimp only at e ⊢
    rw [z1] at e
    rw [z2]
    cases z3 with
    | lst t =>
      cases q with
      | int j =>
        dsimp only at e ⊢
        rw [← t.length]
        split at e
        · cases e
          obtain ⟨a, b⟩ := g.wr z1 i (.lst (t.set _ k))
          exact ⟨_, rfl, b, a⟩
        · cases e
      | _ => cases e
    | dic t =>
      dsimp only at e ⊢
      rw [isKey2 q, ← t.length]
      split at e
      · cases e
        obtain ⟨a, b⟩ := g.wr z1 i (.dic (putD2 q k t))
        exact ⟨_, rfl, b, a⟩
      · cases e
    | _ => cases e
  | _ => cases e
theorem nxO2 {r : List Nat} {s h : Hi} {σ σ' : Sg} (g : Ag2 r s h) (as : AS2 r σ σ') {x x' y y' z z' : VI} (p : RV2 r x x') (q : RV2 r y y') (k : RV2 r z z') : L2S r h (nxO σ (putIx x y z s)) (nxO σ' (putIx x' y' z' h)) := by
  cases e : putIx x y z s with
  | none => trivial
  | some s' => obtain ⟨h', e1, e2, e3⟩ := putIx2 g p q k e; rw [e1]; exact ⟨_, _, _, rfl, e2, e3, as.mono e2⟩
instance {tbl : Nat → Option MF} [c : LTb tbl] [x : LE ma] [y : LE mb] : LG (gIxU tbl ma mb) := ⟨fun r s h σ σ' u u' g a q => (x.run r s h σ σ' g a).bindS a fun r1 s1 h1 v v' e1 g1 q1 => (y.run _ _ _ _ _ g1 (a.mono e1)).bindS (a.mono e1) fun r2 s2 h2 w w' e2 g2 q2 => by
  rw [ins2 g2 (q1.mono e2)]
  have a2 := (a.mono e1).mono e2
  cases z : insC v s2 with
  | none => exact nxO2 g2 a2 (q1.mono e2) q2 ((q.mono e1).mono e2)
  | some d =>
    dsimp only
    cases w0 : tbl d with
    | none => trivial
    | some f => exact ((c.run _ _ w0).run _ _ _ _ _ g2 (.cons (q1.mono e2) (.cons q2 (.cons ((q.mono e1).mono e2) .nil)))).dropV a2⟩
instance [x : LE ma] [y : LE mb] : LG (gIx ma mb) := ⟨fun r s h σ σ' u u' g a q => (x.run r s h σ σ' g a).bindS a fun r1 s1 h1 v v' e1 g1 q1 => (y.run _ _ _ _ _ g1 (a.mono e1)).bindS (a.mono e1) fun r2 s2 h2 w w' e2 g2 q2 => nxO2 g2 ((a.mono e1).mono e2) (q1.mono e2) q2 ((q.mono e1).mono e2)⟩
instance {i : Nat} : LG (gNm i) := ⟨fun r s h σ σ' u u' g a q => .nx g (a.set q i)⟩
theorem fld2 {r : List Nat} {s h : Hi} {σ σ' : Sg} {cs : List Nat} {f : S} {x x' y y' : VI} (g2 : Ag2 r s h) (as : AS2 r σ σ') (p : RV2 r x x') (q : RV2 r y y') : L2S r h
    (match (generalizing := false) x with | .ref n => (match (generalizing := false) s[n]? with | some (.ins c fs) => (match (generalizing := false) cs.contains c && Nat.blt fs.length 1000 with | true => .nx σ (s.set n (.ins c (setF f y fs))) | false => .err) | _ => .err) | _ => .err)
    (match (generalizing := false) x' with | .ref n => (match (generalizing := false) h[n]? with | some (.ins c fs) => (match (generalizing := false) cs.contains c && Nat.blt fs.length 1000 with | true => .nx σ' (h.set n (.ins c (setF f y' fs))) | false => .err) | _ => .err) | _ => .err) := by
  cases p with
  | ref i =>
    obtain ⟨o, o', z1, z2, z3⟩ := g2.no i
    dsimp only
    rw [z1, z2]
    cases z3 with
    | ins t =>
      dsimp only
      rw [t.length]
      split
      · obtain ⟨a, b⟩ := g2.wr z1 i (.ins (setF2 q t))
        exact ⟨_, _, _, rfl, b, a, as.mono b⟩
      · trivial
    | _ => trivial
  | _ => trivial
instance {cs : List Nat} {f : S} [x : LE ma] [y : LE mb] : LS (sFldM cs f ma mb) := ⟨fun r s h σ σ' g a => (y.run r s h σ σ' g a).bindS a fun r1 s1 h1 v v' e1 g1 q1 => (x.run _ _ _ _ _ g1 (a.mono e1)).bindS (a.mono e1) fun r2 s2 h2 w w' e2 g2 q2 => fld2 g2 ((a.mono e1).mono e2) q2 (q1.mono e2)⟩
instance {cs : List Nat} {f : S} [x : LE ma] : LG (gFld cs f ma) := ⟨fun r s h σ σ' u u' g a q => (x.run r s h σ σ' g a).bindS a fun r2 s2 h2 w w' e2 g2 q2 => fld2 g2 (a.mono e2) q2 (q.mono e2)⟩
instance [z : LE mc] [x : LE ma] [y : LE mb] : LS (sPut ma mb mc) := ⟨fun r s h σ σ' g a => (z.run r s h σ σ' g a).bindS a fun r0 s0 h0 u u' e0 g0 q0 => (x.run _ _ _ _ _ g0 (a.mono e0)).bindS (a.mono e0) fun r1 s1 h1 v v' e1 g1 q1 => (y.run _ _ _ _ _ g1 ((a.mono e0).mono e1)).bindS ((a.mono e0).mono e1) fun r2 s2 h2 w w' e2 g2 q2 => nxO2 g2 (((a.mono e0).mono e1).mono e2) (q1.mono e2) q2 ((q0.mono e1).mono e2)⟩
instance : LS sNx := ⟨fun r s h σ σ' g a => .nx g a⟩
instance : LS sErr := ⟨fun r s h σ σ' g a => trivial⟩
instance : LT tErr := ⟨fun r s h σ σ' g a => trivial⟩
instance : LS sBk := ⟨fun r s h σ σ' g a => ⟨_, _, _, rfl, .refl, g, a⟩⟩
instance : LS sCt := ⟨fun r s h σ σ' g a => ⟨_, _, _, rfl, .refl, g, a⟩⟩
instance : LS sRetN := ⟨fun r s h σ σ' g a => ⟨_, _, _, rfl, .refl, g, .non⟩⟩
instance [x : LS sa] [y : LS sb] : LS (sSeq sa sb) := ⟨fun r s h σ σ' g a => (x.run r s h σ σ' g a).andThen fun r1 s1 h1 t t' e1 g1 q1 => y.run _ _ _ _ _ g1 q1⟩
instance [x : LE ma] : LS (sRet ma) := ⟨fun r s h σ σ' g a => (x.run r s h σ σ' g a).bindS a fun r1 s1 h1 v v' e1 g1 q1 => ⟨_, _, _, rfl, .refl, g1, q1⟩⟩
instance [x : LE ma] : LS (sDrop ma) := ⟨fun r s h σ σ' g a => (x.run r s h σ σ' g a).bindS a fun r1 s1 h1 v v' e1 g1 q1 => .nx g1 (a.mono e1)⟩
instance [x : LT ta] [y : LS sa] [z : LS sb] : LS (sIf ta sa sb) := ⟨fun r s h σ σ' g a => (x.run r s h σ σ' g a).bindS a fun r1 s1 h1 v v' e1 g1 q1 => by
  subst q1
  cases v with
  | true => exact y.run _ _ _ _ _ g1 (a.mono e1)
  | false => exact z.run _ _ _ _ _ g1 (a.mono e1)⟩
instance [x : LE ma] [y : LG ga] : LS (sAsg ma ga) := ⟨fun r s h σ σ' g a => (x.run r s h σ σ' g a).bindS a fun r1 s1 h1 v v' e1 g1 q1 => y.run _ _ _ _ _ _ _ g1 (a.mono e1) q1⟩
instance {known : Nat → Bool} {i : Nat} {f : MF} [x : LF f] [y : LA aa] : LS (sSuper known i f aa) := ⟨fun r s h σ σ' g a => by
  unfold sSuper
  cases z : σ[i]? with
  | none => trivial
  | some o =>
    cases o with
    | none => trivial
    | some v =>
      obtain ⟨w, k1, k2⟩ := a.at_ i v z
      rw [k1]
      cases k2 with
      | ref p =>
        obtain ⟨o, o', z1, z2, z3⟩ := g.no p
        dsimp only
        rw [z1, z2]
        cases z3 with
        | ins t =>
          dsimp only
          split
          · exact (y.run _ _ _ _ _ g a).bindS a fun r1 s1 h1 v v' e1 g1 q1 => (x.run _ _ _ _ _ g1 (.cons (.ref (e1.pre p)) q1)).dropV (a.mono e1)
          · trivial
        | _ => trivial
      | _ => trivial⟩
instance {i j : Nat} [y : LA aa] : LS (sPar i j aa) := ⟨fun r s h σ σ' g a => (y.run r s h σ σ' g a).bindS a fun r1 s1 h1 v v' e1 g1 q1 => by
  cases q1 with
  | nil => trivial
  | cons p t => cases t with
    | nil => trivial
    | cons q t => cases t with
      | cons _ _ => trivial
      | nil => exact .nx g1 (((a.mono e1).set p i).set q j)⟩
instance {i j l : Nat} [y : LA aa] : LS (sPar3 i j l aa) := ⟨fun r s h σ σ' g a => (y.run r s h σ σ' g a).bindS a fun r1 s1 h1 v v' e1 g1 q1 => by
  cases q1 with
  | nil => trivial
  | cons p t => cases t with
    | nil => trivial
    | cons q t => cases t with
      | nil => trivial
      | cons u t => cases t with
        | cons _ _ => trivial
        | nil => exact .nx g1 ((((a.mono e1).set p i).set q j).set u l)⟩
end
end ML
end
section
set_option maxHeartbeats 400000
namespace ML
open PySem L2
section
variable {ma mb mc : ME} {ta tb : MT} {aa ab : MA} {sa sb : MS} {ga : MG}
instance {T : IsT} [x : LE ma] : LE (eIsi T ma) := ⟨fun r s h σ σ' g a => (x.run r s h σ σ' g a).bind fun r1 s1 h1 v v' e1 g1 q1 => by
  have same : isT T v' h1 = isT T v s1 := by
    unfold isT
    cases q1 with
    | ref i =>
      obtain ⟨o, o', z1, z2, z3⟩ := g1.no i
      dsimp only
      rw [z1, z2]
      cases z3 <;> rfl
    | _ => rfl
  rw [same]
  cases isT T v s1 with
  | none => trivial
  | some b => exact .ok g1 (.bl b)⟩
instance {tbl : S → Option VI} [c : CTs tbl] [x : LE ma] : LE (eKd tbl ma) := ⟨fun r s h σ σ' g a => (x.run r s h σ σ' g a).bind fun r1 s1 h1 v v' e1 g1 q1 => by
  cases q1 with
  | str y =>
    dsimp only
    cases z : tbl y with
    | none => trivial
    | some w => exact .ok g1 (c.run _ _ z _)
  | _ => trivial⟩
instance [x : LE ma] [y : LE mb] : LE (eTupRg ma mb) := ⟨fun r s h σ σ' g a => (x.run r s h σ σ' g a).bind fun r1 s1 h1 v v' e1 g1 q1 => (y.run _ _ _ _ _ g1 (a.mono e1)).bind fun r2 s2 h2 w w' e2 g2 q2 => by
  cases q1 with
  | int i => cases q2 with
    | int j =>
      dsimp only
      split
      · exact .ok g2 (.tup (rgI2 _ _))
      · trivial
    | _ => trivial
  | _ => trivial⟩
instance [x : LE ma] [y : LE mb] : LE (eLstRg ma mb) := ⟨fun r s h σ σ' g a => (x.run r s h σ σ' g a).bind fun r1 s1 h1 v v' e1 g1 q1 => (y.run _ _ _ _ _ g1 (a.mono e1)).bind fun r2 s2 h2 w w' e2 g2 q2 => by
  cases q1 with
  | int i => cases q2 with
    | int j =>
      dsimp only
      split
      · exact .new g2 fun r' e => .lst (rgI2 _ _)
      · trivial
    | _ => trivial
  | _ => trivial⟩
instance [y : LE mb] : LE (eTupRg1 mb) := ⟨fun r s h σ σ' g a => (y.run r s h σ σ' g a).bind fun r2 s2 h2 w w' e2 g2 q2 => by
  cases q2 with
  | int j =>
    dsimp only
    split
    · exact .ok g2 (.tup (rgI2 _ _))
    · trivial
  | _ => trivial⟩
instance [y : LE mb] : LE (eLstRg1 mb) := ⟨fun r s h σ σ' g a => (y.run r s h σ σ' g a).bind fun r2 s2 h2 w w' e2 g2 q2 => by
  cases q2 with
  | int j =>
    dsimp only
    split
    · exact .new g2 fun r' e => .lst (rgI2 _ _)
    · trivial
  | _ => trivial⟩
instance {lo hi : MO} [x : LE ma] [y : LO lo] [z : LO hi] : LE (eSl ma lo hi) := ⟨fun r s h σ σ' g a => (x.run r s h σ σ' g a).bind fun r1 s1 h1 v v' e1 g1 q1 => (y.run _ _ _ _ _ g1 (a.mono e1)).bind fun r2 s2 h2 w w' e2 g2 q2 => (z.run _ _ _ _ _ g2 ((a.mono e1).mono e2)).bind fun r3 s3 h3 u u' e3 g3 q3 => by
  subst q2 q3
  have p := (q1.mono e2).mono e3
  refine .ofO ?_
  unfold sliceM
  cases p with
  | tup t => exact .ok g3 (.tup (cutI2 t _ _))
  | ref i =>
    obtain ⟨o, o', z1, z2, z3⟩ := g3.no i
    dsimp only
    rw [z1, z2]
    cases z3 with
    | lst t => exact .new g3 fun r' e => .lst ((cutI2 t _ _).mono e)
    | scr t => exact .new g3 fun r' e => .lst ((cutI2 t _ _).mono e)
    | _ => trivial
  | _ => trivial⟩
instance [x : LE ma] [y : LE mb] [z : LE mc] : LE (eGet2 ma mb mc) := ⟨fun r s h σ σ' g a => (x.run r s h σ σ' g a).bind fun r1 s1 h1 v v' e1 g1 q1 => by
  cases q1 with
  | ref p =>
    obtain ⟨o, o', z1, z2, z3⟩ := g1.no p
    dsimp only
    rw [z1, z2]
    cases z3 with
    | dic t =>
      dsimp only
      exact (y.run _ _ _ _ _ g1 (a.mono e1)).bind fun r2 s2 h2 w w' e2 g2 q2 => (z.run _ _ _ _ _ g2 ((a.mono e1).mono e2)).bind fun r3 s3 h3 u u' e3 g3 q3 => by
        obtain ⟨o, o', k1, k2, k3⟩ := g3.no (e3.pre (e2.pre p))
        rw [k1, k2, isKey2 q2]
        cases k3 with
        | @dic xs ys t =>
          cases isKey w with
          | false => trivial
          | true =>
            dsimp only
            have k := getD2 (q2.mono e3) t
            cases w1 : getD w xs with
            | none => cases w2 : getD w' ys with
              | none => exact .ok g3 q3
              | some _ => rw [w1, w2] at k; exact k.elim
            | some _ => cases w2 : getD w' ys with
              | none => rw [w1, w2] at k; exact k.elim
              | some _ => rw [w1, w2] at k; exact .ok g3 k
        | _ => cases isKey w <;> trivial
    | _ => trivial
  | _ => trivial⟩
instance : LE eDisp0 := ⟨fun r s h σ σ' g a => .new g fun r' e => .dic .nil⟩
end
end ML
end
section
set_option maxHeartbeats 400000
namespace ML
open PySem L2
inductive RI2 (r : List Nat) : Itm → Itm → Prop
  | tup {xs ys : List VI} (t : RVs2 r xs ys) : RI2 r (.tup xs) (.tup ys)
  | lst {n m : Nat} (p : r[n]? = some m) : RI2 r (.lst n) (.lst m)
  | rng (lo : Int) (k : Nat) : RI2 r (.rng lo k) (.rng lo k)
  | enl {n m : Nat} (p : r[n]? = some m) : RI2 r (.enl n) (.enl m)
  | zip {n m n' m' : Nat} (p : r[n]? = some m) (q : r[n']? = some m') : RI2 r (.zip n n') (.zip m m')
  | zlt {n m : Nat} {xs ys : List VI} (p : r[n]? = some m) (t : RVs2 r xs ys) : RI2 r (.zlt n xs) (.zlt m ys)
class LI (m : MI) : Prop where
  run : ∀ r s h σ σ', Ag2 r s h → AS2 r σ σ' → L2R RI2 r h (m σ s) (m σ' h)
section
variable {r r' : List Nat} {h h' s : Hi}
theorem RI2.mono (e : Ex2 r h r' h') {a b : Itm} (k : RI2 r a b) : RI2 r' a b := by
  cases k with
  | tup t => exact .tup (t.mono e)
  | lst p => exact .lst (e.pre p)
  | rng a b => exact .rng a b
  | enl p => exact .enl (e.pre p)
  | zip p q => exact .zip (e.pre p) (e.pre q)
  | zlt p t => exact .zlt (e.pre p) (t.mono e)
def ROs2 (r : List Nat) : Option (List VI) → Option (List VI) → Prop
  | some a, some b => RVs2 r a b
  | none, none => True
  | _, _ => False
theorem listAt2 (g : Ag2 r s h) {n m : Nat} (p : r[n]? = some m) : ROs2 r (listAt n s) (listAt m h) := by
  obtain ⟨o, o', z1, z2, z3⟩ := g.no p
  unfold listAt
  rw [z1, z2]
  cases z3 with
  | lst t => exact t
  | scr t => exact t
  | _ => trivial
theorem gt2 {xs ys : List VI} (i : Nat) (t : RVs2 r xs ys) : ROp2 r xs[i]? ys[i]? := by
  cases z : xs[i]? with
  | none => rw [t.none z]; trivial
  | some v => obtain ⟨w, h1, h2⟩ := t.get z; rw [h1]; exact h2
def ROO2 (r : List Nat) : Option (Option VI) → Option (Option VI) → Prop
  | some a, some b => ROp2 r a b
  | none, none => True
  | _, _ => False
theorem nxt2 (g : Ag2 r s h) {a b : Itm} (k : RI2 r a b) (i : Nat) : ROO2 r (a.nxt i s) (b.nxt i h) := by
  cases k with
  | tup t => exact gt2 i t
  | @lst n m p =>
    have k := listAt2 g p
    show ROO2 r (match (generalizing := false) listAt n s with | some xs => some xs[i]? | none => none) (match (generalizing := false) listAt m h with | some xs => some xs[i]? | none => none)
    cases z1 : listAt n s with
    | none => cases z2 : listAt m h with
      | none => trivial
      | some _ => rw [z1, z2] at k; exact k.elim
    | some xs => cases z2 : listAt m h with
      | none => rw [z1, z2] at k; exact k.elim
      | some ys => rw [z1, z2] at k; exact gt2 i k
  | rng lo k =>
    unfold Itm.nxt
    dsimp only
    cases Nat.blt i k with
    | true => exact RV2.int (r := r) (lo + (i : Nat))
    | false => trivial
  | @enl n m p =>
    have k := listAt2 g p
    unfold Itm.nxt
    dsimp only
    cases z1 : listAt n s with
    | none => cases z2 : listAt m h with
      | none => trivial
      | some _ => rw [z1, z2] at k; exact k.elim
    | some xs => cases z2 : listAt m h with
      | none => rw [z1, z2] at k; exact k.elim
      | some ys =>
        rw [z1, z2] at k
        have j := gt2 i k
        dsimp only
        cases y1 : xs[i]? with
        | none => cases y2 : ys[i]? with
          | none => trivial
          | some _ => rw [y1, y2] at j; exact j.elim
        | some v => cases y2 : ys[i]? with
          | none => rw [y1, y2] at j; exact j.elim
          | some w => rw [y1, y2] at j; exact RV2.tup (r := r) (.cons (.int _) (.cons j .nil))
  | @zip n m n' m' p q =>
    have k := listAt2 g p
    have k' := listAt2 g q
    unfold Itm.nxt
    dsimp only
    cases z1 : listAt n s with
    | none => cases z2 : listAt m h with
      | none => trivial
      | some _ => rw [z1, z2] at k; exact k.elim
    | some xs => cases z2 : listAt m h with
      | none => rw [z1, z2] at k; exact k.elim
      | some ys =>
        rw [z1, z2] at k
        cases u1 : listAt n' s with
        | none => cases u2 : listAt m' h with
          | none => trivial
          | some _ => rw [u1, u2] at k'; exact k'.elim
        | some xs' => cases u2 : listAt m' h with
          | none => rw [u1, u2] at k'; exact k'.elim
          | some ys' =>
            rw [u1, u2] at k'
            have j := gt2 i k
            have j' := gt2 i k'
            dsimp only
            cases y1 : xs[i]? with
            | none => cases y2 : ys[i]? with
              | none => trivial
              | some _ => rw [y1, y2] at j; exact j.elim
            | some v => cases y2 : ys[i]? with
              | none => rw [y1, y2] at j; exact j.elim
              | some w =>
                rw [y1, y2] at j
                cases x1 : xs'[i]? with
                | none => cases x2 : ys'[i]? with
                  | none => trivial
                  | some _ => rw [x1, x2] at j'; exact j'.elim
                | some v => cases x2 : ys'[i]? with
                  | none => rw [x1, x2] at j'; exact j'.elim
                  | some w =>
                    rw [x1, x2] at j'
                    exact RV2.tup (r := r) (.cons j (.cons j' .nil))
  | @zlt n m xs' ys' p t =>
    have k := listAt2 g p
    unfold Itm.nxt
    dsimp only
    cases z1 : listAt n s with
    | none => cases z2 : listAt m h with
      | none => trivial
      | some _ => rw [z1, z2] at k; exact k.elim
    | some xs => cases z2 : listAt m h with
      | none => rw [z1, z2] at k; exact k.elim
      | some ys =>
        rw [z1, z2] at k
        have k : RVs2 r xs ys := k
        have j := gt2 i k
        have j' := gt2 i t
        dsimp only
        rw [k.length, t.length]
        cases (Nat.ble i ys.length && Nat.ble i ys'.length) with
        | false => trivial
        | true =>
          dsimp only
          cases y1 : xs[i]? with
          | none => cases y2 : ys[i]? with
            | none => trivial
            | some _ => rw [y1, y2] at j; exact j.elim
          | some v => cases y2 : ys[i]? with
            | none => rw [y1, y2] at j; exact j.elim
            | some w =>
              rw [y1, y2] at j
              cases x1 : xs'[i]? with
              | none => cases x2 : ys'[i]? with
                | none => trivial
                | some _ => rw [x1, x2] at j'; exact j'.elim
              | some v => cases x2 : ys'[i]? with
                | none => rw [x1, x2] at j'; exact j'.elim
                | some w =>
                  rw [x1, x2] at j'
                  exact RV2.tup (r := r) (.cons j (.cons j' .nil))
theorem fuel2 (g : Ag2 r s h) {a b : Itm} (k : RI2 r a b) : b.fuel h = a.fuel s := by
  have one : ∀ {n m : Nat}, r[n]? = some m → (match (generalizing := false) listAt m h with | some xs => xs.length | none => 0) = (match (generalizing := false) listAt n s with | some xs => xs.length | none => 0) := by
    intro n m p
    have k := listAt2 g p
    cases z1 : listAt n s with
    | none => cases z2 : listAt m h with
      | none => rfl
      | some _ => rw [z1, z2] at k; exact k.elim
    | some xs => cases z2 : listAt m h with
      | none => rw [z1, z2] at k; exact k.elim
      | some ys => rw [z1, z2] at k; exact k.length.symm
  cases k with
  | tup t => exact t.length.symm
  | lst p => exact one p
  | rng a b => rfl
  | enl p => exact one p
  | zip p q => exact one p
  | zlt p t => exact one p
theorem turns2 {ga : MG} {body : MS} [x : LG ga] [y : LS body] : ∀ (k i : Nat) (r : List Nat) (s h : Hi) (σ σ' : Sg) (a b : Itm), Ag2 r s h → AS2 r σ σ' → RI2 r a b → L2S r h (turns a ga body k i σ s) (turns b ga body k i σ' h)
  | 0, i, r, s, h, σ, σ', a, b, g, as, q => by
    have n := nxt2 g q i
    unfold turns
    cases z1 : a.nxt i s with
    | none => trivial
    | some o => cases z2 : b.nxt i h with
      | none => rw [z1, z2] at n; exact n.elim
      | some o' =>
        rw [z1, z2] at n
        cases o with
        | some _ => trivial
        | none => cases o' with
          | some _ => exact n.elim
          | none => exact .nx g as
  | k + 1, i, r, s, h, σ, σ', a, b, g, as, q => by
    have n := nxt2 g q i
    unfold turns
    cases z1 : a.nxt i s with
    | none => trivial
    | some o => cases z2 : b.nxt i h with
      | none => rw [z1, z2] at n; exact n.elim
      | some o' =>
        rw [z1, z2] at n
        cases o with
        | none => cases o' with
          | some _ => exact n.elim
          | none => exact .nx g as
        | some v => cases o' with
          | none => exact n.elim
          | some v' =>
            refine (x.run _ _ _ _ _ _ _ g as n).andThen fun r1 s1 h1 τ τ' e1 g1 a1 => ?_
            have t := y.run _ _ _ _ _ g1 a1
            cases w : body τ s1 with
            | err => trivial
            | nx σ2 s2 =>
              rw [w] at t
              obtain ⟨r2, h2, σ2', k1, k2, k3, k4⟩ := t
              rw [k1]
              exact (turns2 k (i + 1) _ _ _ _ _ _ _ k3 k4 ((q.mono e1).mono k2)).ext k2
            | ct σ2 s2 =>
              rw [w] at t
              obtain ⟨r2, h2, σ2', k1, k2, k3, k4⟩ := t
              rw [k1]
              exact (turns2 k (i + 1) _ _ _ _ _ _ _ k3 k4 ((q.mono e1).mono k2)).ext k2
            | bk σ2 s2 => rw [w] at t; obtain ⟨r2, h2, σ2', k1, k2⟩ := t; rw [k1]; exact ⟨r2, h2, σ2', rfl, k2⟩
            | rt σ2 s2 => rw [w] at t; obtain ⟨r2, h2, σ2', k1, k2⟩ := t; rw [k1]; exact ⟨r2, h2, σ2', rfl, k2⟩
            | ex c n σ2 s2 => rw [w] at t; obtain ⟨r2, h2, σ2', m, k1, k2⟩ := t; rw [k1]; exact ⟨r2, h2, σ2', m, rfl, k2⟩
instance {mi : MI} {ga : MG} {body : MS} [z : LI mi] [x : LG ga] [y : LS body] : LS (sFor mi ga body) := ⟨fun r s h σ σ' g a => (z.run r s h σ σ' g a).bindS a fun r1 s1 h1 v v' e1 g1 q1 => by
  rw [fuel2 g1 q1]
  exact turns2 _ _ _ _ _ _ _ _ _ g1 (a.mono e1) q1⟩
instance {ma : ME} [x : LE ma] : LI (iSeq ma) := ⟨fun r s h σ σ' g a => (x.run r s h σ σ' g a).bind fun r1 s1 h1 v v' e1 g1 q1 => by
  unfold seqOf
  cases q1 with
  | tup t => exact .ok g1 (.tup t)
  | @ref n m p =>
    have k := listAt2 g1 p
    dsimp only
    cases z1 : listAt n s1 with
    | none => trivial
    | some xs => cases z2 : listAt m h1 with
      | none => rw [z1, z2] at k; exact k.elim
      | some ys => exact .ok g1 (.lst p)
  | _ => trivial⟩
instance {ma : ME} [x : LE ma] : LI (iEnumM ma) := ⟨fun r s h σ σ' g a => (x.run r s h σ σ' g a).bind fun r1 s1 h1 v v' e1 g1 q1 => by
  unfold enlOf
  cases q1 with
  | @ref n m p =>
    have k := listAt2 g1 p
    dsimp only
    cases z1 : listAt n s1 with
    | none => trivial
    | some xs => cases z2 : listAt m h1 with
      | none => rw [z1, z2] at k; exact k.elim
      | some ys => exact .ok g1 (.enl p)
  | _ => trivial⟩
instance {ma : MA} [x : LA ma] : LI (iRng ma) := ⟨fun r s h σ σ' g a => (x.run r s h σ σ' g a).bind fun r1 s1 h1 v v' e1 g1 q1 => by
  cases q1 with
  | nil => trivial
  | cons p t => cases t with
    | nil => cases p with
      | int i =>
        unfold rngOf
        dsimp only
        split
        · exact .ok g1 (.rng _ _)
        · trivial
      | _ => trivial
    | cons q t => cases t with
      | cons _ _ => cases p <;> cases q <;> trivial
      | nil => cases p with
        | int i => cases q with
          | int j =>
            unfold rngOf
            dsimp only
            split
            · exact .ok g1 (.rng _ _)
            · trivial
          | _ => trivial
        | _ => cases q <;> trivial⟩
theorem putMany2 : ∀ (is : List Nat) {xs ys : List VI} {σ σ' τ : Sg}, RVs2 r xs ys → AS2 r σ σ' → putMany is xs σ = some τ → ∃ τ', putMany is ys σ' = some τ' ∧ AS2 r τ τ'
  | [], _, _, _, _, _, .nil, a, e => by cases e; exact ⟨_, rfl, a⟩
  | _ :: is, _, _, _, _, _, .cons p t, a, e => putMany2 is t (a.set p _) e
  | [], _, _, _, _, _, .cons _ _, _, e => by cases e
  | _ :: _, _, _, _, _, _, .nil, _, e => by cases e
theorem put2 (t : Tgt) {v v' : VI} {σ σ' τ : Sg} (p : RV2 r v v') (a : AS2 r σ σ') (e : t.put v σ = some τ) : ∃ τ', t.put v' σ' = some τ' ∧ AS2 r τ τ' := by
  cases t with
  | one i => cases e; exact ⟨_, rfl, a.set p i⟩
  | many is =>
    cases p with
    | tup t => exact putMany2 is t a e
    | _ => cases e
theorem wipe2 {σ σ' : Sg} (a : AS2 r σ σ') : ∀ l : List Nat, AS2 r (wipeM σ l) (wipeM σ' l)
  | [] => a
  | i :: l => (wipe2 a l).lose i
instance {t : Tgt} : LG (gTgt t) := ⟨fun r s h σ σ' v v' g a p => by
  unfold gTgt
  cases z : t.put v σ with
  | none => trivial
  | some τ => obtain ⟨τ', e1, e2⟩ := put2 t p a z; rw [e1]; exact .nx g e2⟩
theorem turnsC2 {t : Tgt} {vs : List Nat} {tt : MT} {el : ME} [x : LT tt] [y : LE el] : ∀ (k i : Nat) (r : List Nat) (s h s' : Hi) (σ σ' : Sg) (a b : Itm) (D D' : Nat), Ag2 r s h → AS2 r σ σ' → RI2 r a b → r[D]? = some D' →
    turnsC a t vs tt el D σ k i s = some s' → ∃ r' h', turnsC b t vs tt el D' σ' k i h = some h' ∧ Ex2 r h r' h' ∧ Ag2 r' s' h'
  | 0, i, r, s, h, s', σ, σ', a, b, D, D', g, as, q, d, e => by
    have n := nxt2 g q i
    unfold turnsC at e ⊢
    cases z1 : a.nxt i s with
    | none => rw [z1] at e; cases e
    | some o =>
      rw [z1] at e n
      cases o with
      | some _ => cases e
      | none => cases z2 : b.nxt i h with
        | none => rw [z2] at n; exact n.elim
        | some o' => cases o' with
          | some _ => rw [z2] at n; exact n.elim
          | none => cases e; exact ⟨r, h, rfl, .refl, g⟩
  | k + 1, i, r, s, h, s', σ, σ', a, b, D, D', g, as, q, d, e => by
    have n := nxt2 g q i
    unfold turnsC at e ⊢
    cases z1 : a.nxt i s with
    | none => rw [z1] at e; cases e
    | some o =>
      rw [z1] at e n
      cases z2 : b.nxt i h with
      | none => rw [z2] at n; exact n.elim
      | some o' =>
        rw [z2] at n
        cases o with
        | none => cases o' with
          | some _ => exact n.elim
          | none => cases e; exact ⟨r, h, rfl, .refl, g⟩
        | some v => cases o' with
          | none => exact n.elim
          | some v' =>
            dsimp only at e ⊢
            cases z3 : t.put v (wipeM σ vs) with
            | none => rw [z3] at e; cases e
            | some τ =>
              obtain ⟨τ', w1, w2⟩ := put2 t n (wipe2 as vs) z3
              rw [z3] at e
              rw [w1]
              dsimp only at e ⊢
              have tk := x.run _ _ _ _ _ g w2
              cases z4 : tt τ s with
              | err => rw [z4] at e; cases e
              | ex _ _ _ => rw [z4] at e; cases e
              | ok c s2 =>
                rw [z4] at tk e
                obtain ⟨r2, h2, c', k1, k2, k3, k4⟩ := tk
                subst k4
                rw [k1]
                cases c with
                | false =>
                  dsimp only at e ⊢
                  obtain ⟨r3, h3, j1, j2, j3⟩ := turnsC2 k (i + 1) _ _ _ _ _ _ _ _ _ _ k3 (as.mono k2) (q.mono k2) (k2.pre d) e
                  exact ⟨r3, h3, j1, k2.trans j2, j3⟩
                | true =>
                  dsimp only at e ⊢
                  have ek := y.run _ _ _ _ _ k3 (w2.mono k2)
                  cases z5 : el τ s2 with
                  | err => rw [z5] at e; cases e
                  | ex _ _ _ => rw [z5] at e; cases e
                  | ok u s3 =>
                    rw [z5] at ek e
                    obtain ⟨r3, h3, u', m1, m2, m3, m4⟩ := ek
                    rw [m1]
                    dsimp only at e ⊢
                    obtain ⟨o, o', v1, v2, v3⟩ := m3.no (m2.pre (k2.pre d))
                    rw [v1] at e
                    rw [v2]
                    cases v3 with
                    | lst l =>
                      dsimp only at e ⊢
                      rw [l.length] at e
                      cases z6 : small _ with
                      | false => rw [z6] at e; cases e
                      | true =>
                        rw [z6] at e
                        dsimp only at e ⊢
                        obtain ⟨g4, e4⟩ := m3.wr v1 (m2.pre (k2.pre d)) (.lst (l.append (.cons m4 .nil)))
                        obtain ⟨r5, h5, j1, j2, j3⟩ := turnsC2 k (i + 1) _ _ _ _ _ _ _ _ _ _ g4 (((as.mono k2).mono m2).mono e4) (((q.mono k2).mono m2).mono e4) (e4.pre (m2.pre (k2.pre d))) e
                        exact ⟨r5, h5, j1, ((k2.trans m2).trans e4).trans j2, j3⟩
                    | _ => cases e
instance {mi : MI} {t : Tgt} {vs : List Nat} {tt : MT} {el : ME} [z : LI mi] [x : LT tt] [y : LE el] : LE (eLc mi t vs tt el) := ⟨fun r s h σ σ' g a => (z.run r s h σ σ' g a).bind fun r1 s1 h1 v v' e1 g1 q1 => by
  obtain ⟨g2, e2⟩ := g1.new (o := .lst []) (o' := .lst []) (.lst .nil)
  rw [fuel2 g1 q1]
  cases w : turnsC v t vs tt el s1.length σ (v.fuel s1) 0 (s1 ++ [.lst []]) with
  | none => trivial
  | some s2 =>
    obtain ⟨r3, h3, j1, j2, j3⟩ := turnsC2 _ _ _ _ _ _ _ _ _ _ _ _ g2 ((a.mono e1).mono e2) (q1.mono e2) g1.idx w
    rw [j1]
    exact ⟨r3, h3, _, rfl, e2.trans j2, j3, .ref (j2.pre g1.idx)⟩⟩
class LPs (ps : List (ME × ME)) : Prop where
  run : ∀ r s h σ σ', Ag2 r s h → AS2 r σ σ' → L2R RKs2 r h (aPairs ps σ s) (aPairs ps σ' h)
instance : LPs [] := ⟨fun r s h σ σ' g a => .ok g .nil⟩
instance {k v : ME} {ps : List (ME × ME)} [x : LE k] [y : LE v] [z : LPs ps] : LPs ((k, v) :: ps) := ⟨fun r s h σ σ' g a => (x.run r s h σ σ' g a).bind fun r1 s1 h1 u u' e1 g1 q1 => (y.run _ _ _ _ _ g1 (a.mono e1)).bind fun r2 s2 h2 w w' e2 g2 q2 => (z.run _ _ _ _ _ g2 ((a.mono e1).mono e2)).bind fun r3 s3 h3 l l' e3 g3 q3 => .ok g3 (.cons ((q1.mono e2).mono e3) (q2.mono e3) q3)⟩
instance {ps : List (ME × ME)} [z : LPs ps] : LE (eDisp ps) := ⟨fun r s h σ σ' g a => by
  obtain ⟨g2, e2⟩ := g.new (o := .dic []) (o' := .dic []) (.dic .nil)
  refine L2R.ext e2 ((z.run _ _ _ _ _ g2 (a.mono e2)).bind fun r1 s1 h1 u u' e1 g1 q1 => ?_)
  have d := e1.pre g.idx
  obtain ⟨o, o', v1, v2, v3⟩ := g1.no d
  rw [v1, v2]
  cases v3 with
  | dic t =>
    cases t with
    | cons _ _ _ => trivial
    | nil =>
      dsimp only
      rw [keysOk2 q1, q1.length]
      split
      · obtain ⟨g4, e4⟩ := g1.wr v1 d (.dic (putAll2 q1 .nil))
        exact ⟨_, _, _, rfl, e4, g4, .ref d⟩
      · trivial
  | _ => trivial⟩
theorem nodup_inj {r : List Nat} (nd : r.Nodup) {i j m : Nat} (p : r[i]? = some m) (q : r[j]? = some m) : i = j := by
  obtain ⟨l1, e1⟩ := List.getElem?_eq_some_iff.mp p
  obtain ⟨l2, e2⟩ := List.getElem?_eq_some_iff.mp q
  have pw := List.pairwise_iff_getElem.mp nd
  rcases Nat.lt_trichotomy i j with l | l | l
  · exact absurd (e1.trans e2.symm) (pw i j l1 l2 l)
  · exact l
  · exact absurd (e2.trans e1.symm) (pw j i l2 l1 l)
theorem beq2 (g : Ag2 r s h) {i j m n : Nat} (p : r[i]? = some m) (q : r[j]? = some n) : Nat.beq m n = Nat.beq i j := by
  by_cases e : i = j
  · subst e
    rw [p] at q
    cases q
    rw [Nat.beq_refl, Nat.beq_refl]
  · have e' : m ≠ n := fun z => e (nodup_inj g.nd p (z ▸ q))
    have f1 : Nat.beq i j = false := by
      cases z : Nat.beq i j with
      | false => rfl
      | true => exact absurd (Nat.eq_of_beq_eq_true z) e
    have f2 : Nat.beq m n = false := by
      cases z : Nat.beq m n with
      | false => rfl
      | true => exact absurd (Nat.eq_of_beq_eq_true z) e'
    rw [f1, f2]
instance {e k v : ME} [x : LE e] [y : LE k] [z : LE v] : LE (eMrg e k v) := ⟨fun r s h σ σ' g a => by
  obtain ⟨g2, e2⟩ := g.new (o := .dic []) (o' := .dic []) (.dic .nil)
  refine L2R.ext e2 ((x.run _ _ _ _ _ g2 (a.mono e2)).bind fun r1 s1 h1 u u' e1 g1 q1 => ?_)
  have d := e1.pre g.idx
  obtain ⟨o, o', v1, v2, v3⟩ := g1.no d
  cases q1 with
  | @ref i j p =>
    dsimp only
    rw [beq2 g1 p d]
    obtain ⟨w, w', u1, u2, u3⟩ := g1.no p
    rw [v1, v2, u1, u2]
    cases Nat.beq i s.length with
    | true => trivial
    | false =>
      cases v3 with
      | dic t =>
        cases t with
        | cons _ _ _ => trivial
        | nil =>
          cases u3 with
          | dic t2 =>
            dsimp only
            rw [t2.length]
            cases small _ with
            | false => trivial
            | true =>
              dsimp only
              obtain ⟨g4, e4⟩ := g1.wr v1 d (.dic (putAll2 t2 .nil))
              obtain ⟨g5, e5⟩ := g4.new (o := .dic []) (o' := .dic []) (.dic .nil)
              have e45 := e4.trans e5
              refine L2R.ext e45 ?_
              have idx := g4.idx
              have D5 := e45.pre d
              unfold mrgTail
              have l1 : ∀ o : OI, (List.set s1 s.length o).length = s1.length := fun o => List.length_set
              have l2 : ∀ o : OI, (List.set h1 h.length o).length = h1.length := fun o => List.length_set
              refine (y.run _ _ _ _ _ g5 (((a.mono e2).mono e1).mono e45)).bind fun r6 s6 h6 ky ky' e6 g6 q6 => (z.run _ _ _ _ _ g6 ((((a.mono e2).mono e1).mono e45).mono e6)).bind fun r7 s7 h7 vz vz' e7 g7 q7 => ?_
              have D7 := e7.pre (e6.pre D5)
              have C7 := e7.pre (e6.pre idx)
              obtain ⟨o1, o1', a1, a2, a3⟩ := g7.no D7
              rw [l1, l2] at C7
              obtain ⟨o2, o2', b1, b2, b3⟩ := g7.no C7
              rw [isKey2 q6, a1, a2, b1, b2]
              cases isKey ky with
              | false => trivial
              | true =>
                cases a3 with
                | dic ta =>
                  cases b3 with
                  | dic tb =>
                    cases tb with
                    | cons _ _ _ => trivial
                    | nil =>
                      dsimp only
                      rw [ta.length]
                      cases small _ with
                      | false => trivial
                      | true =>
                        obtain ⟨g8, e8⟩ := g7.wr b1 C7 (.dic (.cons (q6.mono e7) q7 .nil))
                        have nb : ∃ o, (s7.set s1.length (OI.dic [(ky, vz)]))[s.length]? = some o := by
                          have : s.length < s7.length := (List.getElem?_eq_some_iff.mp a1).1
                          exact ⟨_, List.getElem?_eq_getElem (by simpa using this)⟩
                        obtain ⟨o9, n9⟩ := nb
                        obtain ⟨g9, e9⟩ := g8.wr n9 (e8.pre D7) (.dic (((putD2 (q6.mono e7) q7 ta))))
                        exact ⟨_, _, _, rfl, e8.trans e9, g9, .ref D7⟩
                  | _ => trivial
                | _ => trivial
          | _ => trivial
      | _ => trivial
  | _ => trivial⟩
theorem keysAre2 : ∀ (ks : List S) {xs ys : List (VI × VI)}, RKs2 r xs ys → keysAre ks ys = keysAre ks xs
  | [], _, _, .nil => rfl
  | [], _, _, .cons p _ t => by cases p <;> rfl
  | _ :: _, _, _, .nil => rfl
  | k :: ks, _, _, .cons p _ t => by
    cases p with
    | str s => unfold keysAre; rw [keysAre2 ks t]
    | _ => rfl
instance {ks : List S} {gk : MK} {e : ME} [x : LE e] [y : LK gk] : LE (eKwD ks gk e) := ⟨fun r s h σ σ' g a => by
  obtain ⟨g2, e2⟩ := g.new (o := .dic []) (o' := .dic []) (.dic .nil)
  refine L2R.ext e2 ((x.run _ _ _ _ _ g2 (a.mono e2)).bind fun r1 s1 h1 u u' e1 g1 q1 => ?_)
  have d := e1.pre g.idx
  obtain ⟨o, o', v1, v2, v3⟩ := g1.no d
  cases q1 with
  | @ref i j p =>
    dsimp only
    rw [beq2 g1 p d]
    obtain ⟨w, w', u1, u2, u3⟩ := g1.no p
    rw [v1, v2, u1, u2]
    cases Nat.beq i s.length with
    | true => trivial
    | false =>
      cases v3 with
      | dic t =>
        cases t with
        | cons _ _ _ => trivial
        | nil =>
          cases u3 with
          | dic t2 =>
            dsimp only
            rw [keysAre2 ks t2]
            split
            · obtain ⟨g4, e4⟩ := g1.wr v1 d (.dic (putAll2 t2 .nil))
              exact L2R.ext e4 (y.run _ _ _ _ _ _ _ g4 .nil ((vals2 t2).mono e4))
            · trivial
          | _ => trivial
      | _ => trivial
  | _ => trivial⟩
class LGs (gs : List MG) : Prop where
  run : ∀ r s h σ σ' vs vs', Ag2 r s h → AS2 r σ σ' → RVs2 r vs vs' → L2S r h (gSeq gs vs σ s) (gSeq gs vs' σ' h)
instance : LGs [] := ⟨fun r s h σ σ' vs vs' g a t => by
  cases t with
  | nil => exact .nx g a
  | cons _ _ => trivial⟩
instance {x : MG} {gs : List MG} [p : LG x] [q : LGs gs] : LGs (x :: gs) := ⟨fun r s h σ σ' vs vs' g a t => by
  cases t with
  | nil => trivial
  | cons u t => exact (p.run _ _ _ _ _ _ _ g a u).andThen fun r1 s1 h1 τ τ' e1 g1 a1 => q.run _ _ _ _ _ _ _ g1 a1 (t.mono e1)⟩
instance {gs : List MG} [q : LGs gs] : LG (gTupM gs) := ⟨fun r s h σ σ' v v' g a p => by
  unfold gTupM
  cases p with
  | tup t =>
    dsimp only
    rw [t.length]
    split
    · exact q.run _ _ _ _ _ _ _ g a t
    · trivial
  | _ => trivial⟩
instance {i : Nat} {f : Op2} {e : ME} [x : LOp f] [y : LE e] : LS (sAug i f e) := ⟨fun r s h σ σ' g a => by
  unfold sAug
  cases z : σ[i]? with
  | none => trivial
  | some o =>
    cases o with
    | none => trivial
    | some v =>
      obtain ⟨w, k1, k2⟩ := a.at_ i v z
      rw [k1]
      refine (y.run _ _ _ _ _ g a).bindS a fun r1 s1 h1 u u' e1 g1 q1 => ?_
      have t := x.run _ _ _ _ _ _ _ g1 (k2.mono e1) q1
      cases z2 : f v u s1 with
      | none => trivial
      | some p =>
        rw [z2] at t
        obtain ⟨r2, h2, v', m1, m2, m3, m4⟩ := t
        rw [m1]
        exact ⟨r2, h2, _, rfl, m2, m3, ((a.mono e1).mono m2).set m4 i⟩⟩
theorem endB2 {a a' : RS} (k : L2S r h a a') : L2R RV2 r h (endB a) (endB a') := by
  cases a with
  | err => trivial
  | bk _ _ => trivial
  | ct _ _ => trivial
  | nx σ s => obtain ⟨r2, h2, m, rfl, e, g, _⟩ := k; exact ⟨r2, h2, _, rfl, e, g, .non⟩
  | rt v s => obtain ⟨r2, h2, m, rfl, e, g, q⟩ := k; exact ⟨r2, h2, _, rfl, e, g, q⟩
  | ex c n σ s => obtain ⟨r2, h2, m, m2, rfl, e, g, _, q⟩ := k; exact ⟨r2, h2, _, rfl, e, g, q⟩
theorem slots2 (n : Nat) : ∀ {vs vs' : List VI}, RVs2 r vs vs' → AS2 r (vs.map some ++ List.replicate n none) (vs'.map some ++ List.replicate n none) := by
  intro vs vs' t
  refine ⟨by simp [t.length], fun i v e => ?_⟩
  by_cases hi : i < vs.length
  · rw [List.getElem?_append_left (by simpa using hi), List.getElem?_map] at e
    rw [List.getElem?_append_left (by simpa [← t.length] using hi), List.getElem?_map]
    cases z : vs[i]? with
    | none => rw [z] at e; cases e
    | some u =>
      rw [z] at e
      cases e
      obtain ⟨b, h1, h2⟩ := t.get z
      rw [h1]
      exact ⟨b, rfl, h2⟩
  · rw [List.getElem?_append_right (by simpa using Nat.le_of_not_lt hi), List.getElem?_replicate] at e
    split at e <;> cases e
end
theorem lf_runB {np n : Nat} {b : MS} (x : LS b) : LF (runB np n b) := ⟨fun r s h vs vs' g t => by
  unfold runB
  rw [t.length]
  split
  · exact endB2 (x.run _ _ _ _ _ g (slots2 n t))
  · trivial⟩
theorem lift {f : MF} (x : LF f) {r : List Nat} {s h s' : Hi} {vs vs' : List VI} {v : VI} (e : f vs s = .ok v s') (g : Ag2 r s h) (t : RVs2 r vs vs') : ∃ r' h' v', f vs' h = .ok v' h' ∧ Ex2 r h r' h' ∧ Ag2 r' s' h' ∧ RV2 r' v v' := by
  have k := x.run r s h vs vs' g t
  rw [e] at k
  exact k
end ML
end
section
namespace ML
open PySem L2
theorem ty2 {r : List Nat} {s h : Hi} (g : Ag2 r s h) {x y : VI} (p : RV2 r x y) : tyI y h = tyI x s := by
  cases p with
  | ref i =>
    obtain ⟨o, o', z1, z2, z3⟩ := g.no i
    unfold tyI
    dsimp only
    rw [z1, z2]
    cases z3 <;> rfl
  | _ => rfl
theorem L2R.boolR {r : List Nat} {h : Hi} {a b : Res VI} (k : L2R RV2 r h a b) : L2R RV2 r h (boolR a) (boolR b) := by
  cases a with
  | err => trivial
  | ex c n s' =>
    obtain ⟨r', h', m, rfl, e, g, q⟩ := k
    exact ⟨r', h', m, rfl, e, g, q⟩
  | ok v s' =>
    obtain ⟨r', h', v', rfl, e, g, q⟩ := k
    cases q with
    | bl b => exact ⟨r', h', _, rfl, e, g, .bl b⟩
    | _ => trivial
section
variable {ma mb : ME} {f : Op2}
instance {cs : List Nat} {tbl : Nat → Option MF} [c : LTb tbl] [x : LE ma] [y : LE mb] [o : LOp f] : LE (eCmpU cs tbl f ma mb) := ⟨fun r s h σ σ' g a => (x.run r s h σ σ' g a).bind fun r1 s1 h1 v v' e1 g1 q1 => (y.run _ _ _ _ _ g1 (a.mono e1)).bind fun r2 s2 h2 w w' e2 g2 q2 => by
  rw [ins2 g2 (q1.mono e2), ty2 g2 q2]
  cases z : insC v s2 with
  | none => exact .ofO (o.run _ _ _ _ _ _ _ g2 (q1.mono e2) q2)
  | some d =>
    dsimp only
    cases w0 : tbl d with
    | none => trivial
    | some u =>
      cases w1 : nfI cs (tyI w s2) with
      | false => trivial
      | true => exact ((c.run _ _ w0).run _ _ _ _ _ g2 (.cons (q1.mono e2) (.cons q2 .nil))).boolR⟩
end
end ML
end
section
namespace ML
open PySem L2
section
variable {r : List Nat} {s h : Hi}
theorem flK2 : ∀ {ka kb : List (VI × VI)}, RKs2 r ka kb → flK kb = flK ka
  | _, _, .nil => rfl
  | _, _, .cons _ a t => by simp only [flK, flI2 a, flK2 t]
theorem allK2 {la lb : List (VI × VI)} (q : RKs2 r la lb) (fl : flK la = true) : ∀ {ka kb : List (VI × VI)}, RKs2 r ka kb → flK ka = true → allK lb kb = allK la ka
  | _, _, .nil, _ => rfl
  | _, _, .cons (a := a) (b := b) k p t, f => by
    unfold flK at f
    obtain ⟨f1, f2⟩ := Bool.and_eq_true_iff.mp f
    have g := getD2 k q
    simp only [allK]
    cases z : getD a la with
    | none =>
      rw [z] at g
      cases z2 : getD b lb with
      | none => rfl
      | some w => rw [z2] at g; exact g.elim
    | some u =>
      rw [z] at g
      cases z2 : getD b lb with
      | none => rw [z2] at g; exact g.elim
      | some w =>
        rw [z2] at g
        dsimp only
        rw [eqI2 p g, allK2 q fl t f2]
instance : LOp fEqX := ⟨fun r s h x y x' y' g p q => by
  have old := LOp.run (f := fEq) r s h x y x' y' g p q
  unfold fEqX
  cases p with
  | ref i =>
    cases q with
    | ref j =>
      obtain ⟨o, o', z1, z2, z3⟩ := g.no i
      obtain ⟨u, u', y1, y2, y3⟩ := g.no j
      dsimp only
      rw [z1, z2, y1, y2]
      cases z3 with
      | dic t =>
        cases y3 with
        | dic t' =>
          dsimp only
          rw [flK2 t, flK2 t']
          rename_i ka kb la lb
          cases f : flK ka && flK la with
          | false => trivial
          | true =>
            obtain ⟨f1, f2⟩ := Bool.and_eq_true_iff.mp f
            dsimp only
            rw [← t.length, ← t'.length, allK2 t' f2 t f1]
            exact .ok g (.bl _)
        | _ => exact old
      | _ => exact old
    | _ => exact old
  | _ => exact old⟩
end
end ML
end
section
namespace ML
open PySem PySem.Spec PyProof.Rows L2 He
def okI : VI → Bool
  | .non => true
  | .bl _ => true
  | .int _ => true
  | .str s => PyData.strOk (toStr s)
  | _ => false
def alO : List VI → Bool
  | [] => true
  | y :: r => match okI y with
    | true => alO r
    | false => false
def ixF (y : VI) : List VI → Nat → Option Nat
  | [], _ => none
  | x :: r, j => match eqI x y with
    | true => some j
    | false => ixF y r (j + 1)
def mIndex : OpM := fun x vs h => match x with
  | .ref n => match h[n]? with
    | some (.lst xs) => match vs with
      | [y] => match okI y && alO xs with
        | true => match ixF y xs 0 with
          | some j => some (.int (j : Nat), h)
          | none => none
        | false => none
      | _ => none
    | _ => none
  | _ => none
section
variable {G : Gx} {ρ : List Addr} {h : Hi} {H : Hp} {X : Cx}
end
section
variable {r : List Nat}
theorem okI2 {a b : VI} (p : RV2 r a b) : okI b = okI a := by cases p <;> rfl
theorem alO2 : ∀ {xs ys : List VI}, RVs2 r xs ys → alO ys = alO xs
  | _, _, .nil => rfl
  | _, _, .cons q t => by unfold alO; rw [okI2 q, alO2 t]
theorem ixF2 {a b : VI} (p : RV2 r a b) : ∀ {xs ys : List VI} (k : Nat), RVs2 r xs ys → ixF b ys k = ixF a xs k
  | _, _, _, .nil => rfl
  | _, _, _, .cons q t => by unfold ixF; rw [eqI2 q p, ixF2 p _ t]
end
instance : LOm mIndex := ⟨fun r s h x x' vs vs' g p t => by
  unfold mIndex
  cases p with
  | ref i =>
    obtain ⟨o, o', e1, e2, e3⟩ := g.no i
    dsimp only
    rw [e1, e2]
    cases e3 with
    | lst l =>
      cases t with
      | nil => trivial
      | cons q t =>
        cases t with
        | cons _ _ => trivial
        | nil =>
          dsimp only
          rw [okI2 q, alO2 l, ixF2 q 0 l]
          split
          · split
            · exact .ok g (.int _)
            · trivial
          · trivial
    | _ => trivial
  | _ => trivial⟩
end ML
end
section
namespace PySem.W
open PySem PyProof.Rows
section
variable {prog : Program} {w : World} {A A₀ : Around} {E : Value → Shared → Prop} {s : Shared} {K : Frag} {x C L f : Addr} {h₀ : Heap} {m : Str → Option Value} {ox : Obj} {od : Option Obj} {name : Str} {b tb : Value}
theorem ifBound_B {M : Model} {id : String} {args : List Value} {Q : Option Value → Shared → Prop} (X : K.In s.heap) (I : InstAt s.heap x ox C od) (hs : findIn K (.ref C) name = some (some (.builtin id))) (bd : ∀ v, bindSpecial (.builtin id) v = pure (.builtin id, [v]))
    (h : wpAny M A (call (.builtin id) (.ref x :: args)) (fun v => Q (some v)) E s) : wpAny M A (callSpecialIfBound? (.ref x) name args) Q E s := by
  simp only [callSpecialIfBound?, bindSpecialIfBound?]
  refine wpAny_holding (wpAny_bind (wpAny_bind (wpAny_bind (I.type.here ((looks_findIn X hs).here ?_)))))
  refine wpAny_bind (wpAny_askSetting (wpAny_ite ?_))
  have fin : wpAny M A (call (.builtin id) ([.ref x] ++ args) >>= fun v => pure (some v)) Q E s := wpAny_bind (wpAny_mono h (fun v s' h' => wpAny_pure h') fun _ _ h' => h')
  split
  · exact wpAny_bind (wpAny_of_eq (bd _) (wpAny_pure (by exact fin)))
  · exact wpAny_tryCatch (wpAny_bind (wpAny_of_eq (bd _) (wpAny_pure (by exact fin))))
theorem objNe_K {Q : Fin → Shared → Prop} (X : K.In s.heap) (I : InstAt s.heap x ox C od) (hu : A.units < cLine) (hs : findIn K (.ref C) "__eq__" = some (some (.ref f))) (hf : isFn K (.ref f) = true)
    (hcall : wpAny (model prog w) A (call (.ref f) [.ref x, b]) (fun v s' => ∃ c, v = .bool c ∧ Q (.done (.ret (.bool (!c)))) s') E s) :
    wpAny (model prog w) A (Builtin.«object.__ne__» ⟨[.ref x, b], []⟩) Q E s := by
  unfold Builtin.«object.__ne__»
  repeat (first
    | with_reducible refine wpAny_cRoomFor hu ?_
    | (refine wpAny_bind (m := callSpecialIfBound? (.ref x) (Str.ofString "__eq__") [b])
        (ifBound_K X I hs hf (wpAny_mono hcall (fun r s' hr => by
          obtain ⟨b, rfl, hq⟩ := hr
          repeat (first | exact hq | exact wpAny_pure hq | exact wpAny_truthy_bool hq | (refine wpAny_bind (m := truthy (.bool _)) (wpAny_truthy_bool ?_)) | wp_step)) fun _ _ e => e)))
    | wp_step)
theorem ne_K {Q : Value → Shared → Prop} (hu : A.units + 1 < cLine) (F : Fr h₀ L s.heap m) (X₀ : K.In h₀) (I : InstAt s.heap x ox C od) (hb : Looks (model prog w) s.heap (typeOf b) tb) (hn : notFirst K C tb = true)
    (hne : findIn K (.ref C) "__ne__" = some (some (.builtin "object.__ne__"))) (hsub : subIn K (.ref C) (.type "object") = some true) (hs : findIn K (.ref C) "__eq__" = some (some (.ref f))) (hf : isFn K (.ref f) = true)
    (h : wpAny (model prog w) A.in1 (call (.ref f) [.ref x, b]) (fun v s' => ∃ c, v = .bool c ∧ Q (.bool (!c)) s') E s) : wpAny (model prog w) A (richCompare .NotEq (.ref x) b) Q E s := by
  have X := X₀.keeps F.keep
  have one : wpAny (model prog w) A (tryCompare (.ref x) "__ne__" b) (fun r s' => ∃ v, r = some v ∧ Q v s') E s := by
    unfold tryCompare
    refine wpAny_bind (ifBound_B X I hne (PySem.F.slot_object_ne.bind) (wpAny_call (codeAny_call_builtin PySem.F.slot_object_ne.plain PySem.F.entry_object_ne
      (@check_slot (model prog w) _ _ s "object.__ne__" "object" "__ne__" (.ref x) [b] [] _ (by decide +kernel) (by decide +kernel) (I.type.andThen (looks_subIn X hsub)) (PySem.F.args_object_ne_2 _ _)
        (objNe_K X I (A := A.in1) (by show A.units + 1 < _; omega) hs hf (wpAny_mono h (fun v s' hv => ?_) fun _ _ e => e))))))
    obtain ⟨c, rfl, hq⟩ := hv
    refine ⟨c, rfl, ?_⟩
    first | exact wpAny_pure ⟨_, rfl, hq⟩ | exact ⟨_, rfl, wpAny_pure ⟨_, rfl, hq⟩⟩
  unfold richCompare
  simp only [oneThing_ref]
  refine wpAny_holding (wpAny_bind (wpAny_cRoomFor (by omega) ?_))
  refine wpAny_bind (I.type.here (wpAny_bind (hb.here ?_)))
  split
  · rename_i q
    have e : subIn K tb (.ref C) = some false := by
      rcases Bool.or_eq_true_iff.mp hn with e | e
      · rw [beq_iff_eq.mp e] at q; simp at q
      · exact beq_iff_eq.mp e
    refine wpAny_bind ((looks_subIn X e).here ?_)
    simp only [Bool.false_eq_true, if_false]
    refine wpAny_bind (wpAny_mono one (fun r s' z => ?_) fun _ _ e => e)
    obtain ⟨v, rfl, hq⟩ := z
    exact wpAny_pure hq
  · refine wpAny_bind (wpAny_pure ?_)
    simp only [Bool.false_eq_true, if_false]
    refine wpAny_bind (wpAny_mono one (fun r s' z => ?_) fun _ _ e => e)
    obtain ⟨v, rfl, hq⟩ := z
    exact wpAny_pure hq
end
end PySem.W
namespace ML
open PySem PySem.Spec PyProof.Rows L2 He
def negR : Res VI → Res VI
  | .ok (.bl b) h => .ok (.bl (!b)) h
  | .ex c n h => .ex c n h
  | _ => .err
def eNeU (cs : List Nat) (tbl : Nat → Option MF) (f : Op2) (a b : ME) : ME := fun σ h => (a σ h).bind fun x h1 => (b σ h1).bind fun y h2 => match insC x h2 with
  | some c => match tbl c, nfI cs (tyI y h2) with
    | some g, true => negR (g [x, y] h2)
    | _, _ => .err
  | none => ofO (f x y h2)
def neB (K : PySem.W.Frag) (C : Addr) : Bool := eqO (PySem.W.findIn K (.ref C) "__ne__") (some (some (.builtin "object.__ne__"))) && decide (PySem.W.subIn K (.ref C) (.type "object") = some true)
def NeOk (K : PySem.W.Frag) (G : Gx) (tbl : Nat → Option MF) : Prop := ∀ c C g, tbl c = some g → G.ct c = some C → neB K C = true
section
variable {G : Gx} {ρ : List Addr} {h : Hi} {H : Hp} {W : WX} {X : Cx} {A : Around} {e a b c o i v : Expr} {es : List Expr} {pos p pos' apos : Pos} {me mi mo ma mb mv : ME} {mr : MA} {tbl : Nat → Option MF} {σ : L2.St} {cs : List Nat} {f : Op2}
theorem negR_fin {Q : VK} {W : Value → Option Addr → Hp → Prop} (r : Res VI) (fr : FinG G ρ H (RV G) Q W (negR r)) : FinG G ρ H (RV G) (fun x H' => ∃ b, x = V.bl b ∧ Q (V.bl (!b)) H') W r := by
  cases r with
  | ok v h' =>
    cases v with
    | bl b =>
      intro ρ' H' x st ag' rx
      cases rx
      exact ⟨b, rfl, fr ρ' H' _ st ag' (.bl (!b))⟩
    | _ => exact fr.elim
  | ex c n h' => exact fr
  | err => exact fr.elim
def RdN (G : Gx) (W : WX) (σ : L2.St) (cs : List Nat) (tbl : Nat → Option MF) (f : Op2) (Q : VK) (x y : V) (H2 : Hp) : Prop :=
  rd2 G f x y H2 Q ∨ ∃ ρ2 h2 xi yi cn g, Ag G ρ2 h2 H2 ∧ RV G ρ2 H2 xi x ∧ RV G ρ2 H2 yi y ∧ insC xi h2 = some cn ∧ tbl cn = some g ∧ nfI cs (tyI yi h2) = true ∧ FinG G ρ2 H2 (RV G) Q (fun c d H' => W c d σ H') (negR (g [xi, yi] h2))
theorem neU_rd {Q : VK} (q : rdE G W (eNeU cs tbl f ma mb) σ H Q) : rdE G W ma σ H fun x H1 => rdE G W mb σ H1 fun y H2 => RdN G W σ cs tbl f Q x y H2 := by
  obtain ⟨ρ, σi, h, as, ag, fin⟩ := q
  exact rdG_go as ag fin fun ρ1 H1 h1 x x' st as ag r f => rdG_go as ag f fun ρ2 H2 h2 y y' st2 as ag rs f => by
      cases q1 : insC x h2 with
      | none => rw [q1] at f; exact .inl ⟨ρ2, h2, x, y, ag, r.mono st2, rs, FinO.of f⟩
      | some cn =>
        rw [q1] at f
        dsimp only at f
        cases q2 : tbl cn with
        | none => rw [q2] at f; exact f.elim
        | some g =>
          rw [q2] at f
          cases q3 : nfI cs (tyI y h2) with
          | false => rw [q3] at f; exact f.elim
          | true => rw [q3] at f; exact .inr ⟨ρ2, h2, x, y, cn, g, ag, r.mono st2, rs, q1, q2, q3, f⟩
theorem neU_run (hG : G.K = X.K) (hu : X.A.units + 1 < cLine) (sp : SpOk X X.A.in1 G W tbl "__eq__") (ne : NeOk X.K G tbl) (nf : NfOk X.K G cs tbl) (ho : OpR X (compareOp .NotEq) (rd2 G f))
    {pins : List (Addr × Obj)} {s2 : Shared} {H2 : Hp} {x y : V} {v u : Value} {Q : VK} (I2 : Inv X pins σ H2 s2) (rx : RelV x v) (ry : RelV y u) (q : RdN G W σ cs tbl f Q x y H2) : wpAny (model X.prog X.w) X.A (compareOp .NotEq v u) (EP X pins σ Q) X.xe s2 := by
  rcases q with q | ⟨ρ2, h2, xi, yi, cn, g, ag2, r1, r2, q1, q2, q3, fi⟩
  · exact ho pins s2 σ H2 x y v u Q I2 rx ry q
  · obtain ⟨ad, C, dx, gs, ex, hc, hH⟩ := insC_ok ag2 r1 q1
    subst ex
    obtain rfl : v = Value.ref ad := rx
    obtain ⟨f', k1, k2, k3, k4, k5⟩ := sp.at_ cn C g q2 hc
    obtain ⟨m, hF, ox, od, J⟩ := insC_look I2 hH
    have ty : ∃ t, PySem.W.Looks (model X.prog X.w) s2.heap (typeOf u) t ∧ PySem.W.notFirst X.K C t = true := by
      cases q4 : tyI yi h2 with
      | none => rw [q4] at q3; cases q3
      | some T =>
        rcases tyI_ok hG I2 ag2 r2 ry q4 with ⟨t, rfl, mt, lt⟩ | ⟨c', C', rfl, hc', lt⟩
        · exact ⟨_, lt, nf.bt cn C g t q2 hc mt⟩
        · rw [q4] at q3
          exact ⟨_, lt, nf.own cn C g c' C' q2 hc q3 hc'⟩
    obtain ⟨t, lt, nt⟩ := ty
    obtain ⟨n1, n2⟩ := ba (ne cn C g q2 hc)
    have key := negR_fin (G := G) (ρ := ρ2) (H := H2) (Q := Q) (W := fun c d H' => W c d σ H') (g [xi, yi] h2) fi
    show wpAny (model X.prog X.w) X.A (richCompare .NotEq (.ref ad) u) _ _ s2
    refine PySem.W.ne_K (tb := t) hu hF I2.ok.mod.kin J lt nt (eqO_ok n1) (of_decide_eq_true n2) k2 k4 ?_
    refine wpAny_mono (k5 pins s2 σ H2 [.ref ad, u] [.ref ad, y] [xi, yi] ρ2 h2 _ I2 (.cons rfl (.cons ry .nil)) (.cons r1 (.cons r2 .nil)) ag2 key) (fun z s3 hz => ?_) fun _ _ z => z
    obtain ⟨x', H', I', rx', b, eb, q'⟩ := hz
    subst eb
    cases (show z = Value.bool b from rx')
    exact ⟨b, rfl, .bl (!b), H', I', rfl, q'⟩
theorem mt_neU (hG : G.K = X.K) (hu : X.A.units + 1 < cLine) (sp : SpOk X X.A.in1 G W tbl "__eq__") (ne : NeOk X.K G tbl) (nf : NfOk X.K G cs tbl) (ho : OpR X (compareOp .NotEq) (rd2 G f)) (ha : PE X a (rdE G W ma)) (hb : PE X b (rdE G W mb))
    (hm : behindInMarks .NotEq b = false) : PT X (.Compare a [.NotEq] [b] pos) (rdT G W (tOf (eNeU cs tbl f ma mb))) := ⟨fun pins s σ H Q I h =>
  wpAny_isTrue_Compare1 (thn (ha.run pins s σ H _ I (neU_rd (tOf_rd h))) fun v s1 ⟨x, H1, I1, r1, q1⟩ => thn (hb.run pins s1 σ H1 _ I1 q1) fun u s2 ⟨y, H2, I2, r2, q2⟩ =>
    thn (neU_run hG hu sp ne nf ho I2 r1 r2 q2) fun c s3 ⟨z, H3, I3, r3, k, e, q3⟩ => by
      subst e
      cases r3
      exact wpAny_truthy_bool ⟨H3, I3, q3⟩) hm⟩
end
section
variable {w : World} {K : PySem.W.Frag} {mg : Str → Option Value} {nm : Nat → Option Str}
theorem neOk_nil : NeOk K (GxOf w K mg nm) (lkT ([] : List (Nat × MF))) := fun _ _ _ h => nomatch h
theorem neOk_cons {c : Nat} {g : MF} {x : Str} {r : List (Nat × MF)} (hn : nm c = some x) (hB : neB K (ga K x) = true) (t : NeOk K (GxOf w K mg nm) (lkT r)) : NeOk K (GxOf w K mg nm) (lkT ((c, g) :: r)) := fun c' C w h e => by
  rcases lkT_cons h with ⟨q1, q2⟩ | q
  · subst q1 q2
    rw [gx_ct e hn]
    exact hB
  · exact t c' C w q e
end
end ML
end
section
namespace ML
open PySem PySem.Spec PyProof.Rows L2 He
structure StatOk (K : PySem.W.Frag) (C : Addr) (m : Str) (p f : Addr) : Prop where
  rd : PySem.W.readsIn K C (.type "type") = true
  ga : PySem.W.specialIn K (.ref C) "__getattribute__" = some (some (.builtin "type.__getattribute__"))
  at_ : PySem.W.findCls K (.ref C) (.type "type") m = some (.get (.builtin "staticmethod.__get__") (.ref p) .none (.ref C))
  rc : ∃ rest, PySem.W.recIn K p "staticmethod" = some (.ref f :: rest)
section
variable {G : Gx} {W : WX} {X : Cx} {e : Expr} {es : List Expr} {ma : MA} {x m : Str} {C p f : Addr} {g : MF} {p0 apos pos : Pos} {pl : Sem Bool}
end
end ML
end
section
namespace PySem.W
open PySem PyProof.Rows
section
variable {prog : Program} {w : World} {A : Around} {E : Value → Shared → Prop} {s : Shared} {K : Frag} {x C f : Addr} {ox : Obj} {od : Option Obj} {name : Str}
theorem callSpecial_K {M : Model} {args : List Value} {Q : Option Value → Shared → Prop} (X : K.In s.heap) (I : InstAt s.heap x ox C od) (hs : findIn K (.ref C) name = some (some (.ref f))) (hf : isFn K (.ref f) = true)
    (h : wpAny M A (call (.ref f) (.ref x :: args)) (fun v => Q (some v)) E s) : wpAny M A (callSpecial? (.ref x) name args) Q E s := by
  unfold callSpecial?
  refine wpAny_bind ((I.type.andThen (looks_findIn X hs)).here ?_)
  dsimp only
  refine wpAny_holding (wpAny_bind ((bind_fn X _ (beq_iff_eq.mp hf)).here ?_))
  exact wpAny_bind (wpAny_mono h (fun v s' h' => wpAny_pure h') fun _ _ h' => h')
theorem lenO_K {Q : Value → Shared → Prop} (X : K.In s.heap) (I : InstAt s.heap x ox C od) (hs : findIn K (.ref C) "__len__" = some (some (.ref f))) (hf : isFn K (.ref f) = true)
    (h : wpAny (model prog w) A.in1 (call (.ref f) [.ref x]) (fun v s' => ∃ n t, v = .int n t ∧ 0 ≤ n ∧ n < 2 ^ 62 ∧ ∀ t' tk, Q (.int n t') { s' with toks := tk }) E s) : wpAny (model prog w) A (call (.builtin "len") [.ref x]) Q E s := by
  refine call_function_tree kind_len plain_len entry_len (args_len1 _) ?_
  unfold Builtin.«len»
  refine wpAny_bind (m := oneArg "len" _) (wpAny_pure ?_)
  refine wpAny_bind (m := callSpecial? (.ref x) (Str.ofString "__len__")) (callSpecial_K X I hs hf (wpAny_mono h (fun v s' hv => ?_) fun _ _ e => e))
  obtain ⟨n, t, rfl, h0, h1, q⟩ := hv
  refine wpAny_bind (wpAny_holding (wpAny_pure ?_))
  refine wpAny_bind (wpAny_letGo ?_)
  show wpAny _ _ (if (n : Int) < 0 then _ else _) _ _ _
  rw [if_neg (by omega)]
  show wpAny _ _ (if (n : Int) ≥ 2 ^ 63 then _ else _) _ _ _
  rw [if_neg (by omega)]
  exact wpAny_bind (wpAny_mkInt (wpAny_pure (q _ _)))
end
end PySem.W
namespace ML
open PySem PySem.Spec PyProof.Rows L2 He
def lenR : Res VI → Res VI
  | .ok (.int n) h => match decide (0 ≤ n) && decide (n < 2 ^ 62) with
    | true => .ok (.int n) h
    | false => .err
  | .ex c n h => .ex c n h
  | _ => .err
def eLenU (tbl : Nat → Option MF) (a : ME) : ME := fun σ h => (a σ h).bind fun x h1 => match insC x h1 with
  | some c => match tbl c with
    | some g => lenR (g [x] h1)
    | none => .err
  | none => ofO (cLen [x] h1)
section
variable {G : Gx} {ρ : List Addr} {h : Hi} {H : Hp} {W : WX} {X : Cx} {a : Expr} {pos p : Pos} {ma : ME} {tbl : Nat → Option MF} {σ : L2.St}
theorem lenR_fin {Q : VK} {W : Value → Option Addr → Hp → Prop} (r : Res VI) (fr : FinG G ρ H (RV G) Q W (lenR r)) : FinG G ρ H (RV G) (fun x H' => ∃ n, x = V.int n ∧ 0 ≤ n ∧ n < 2 ^ 62 ∧ Q (V.int n) H') W r := by
  cases r with
  | ok v h' =>
    cases v with
    | int n =>
      change FinG G ρ H (RV G) Q W (match (decide (0 ≤ n) && decide (n < 2 ^ 62)) with | true => Res.ok (VI.int n) h' | false => Res.err) at fr
      cases q : decide (0 ≤ n) && decide (n < 2 ^ 62) with
      | false => rw [q] at fr; exact fr.elim
      | true =>
        rw [q] at fr
        obtain ⟨q1, q2⟩ := Bool.and_eq_true_iff.mp q
        intro ρ' H' x st ag' rx
        cases rx
        exact ⟨n, rfl, of_decide_eq_true q1, of_decide_eq_true q2, fr ρ' H' _ st ag' (.int n)⟩
    | _ => exact fr.elim
  | ex c n h' => exact fr
  | err => exact fr.elim
theorem me_lenU (hc : CallR X (.builtin "len") (rdC G cLen)) (sp : SpOk X X.A.in1 G W tbl "__len__") (hg : Gl X "len") (hm : X.mg "len" = none) (hv : bootBuiltins "len" = some (.builtin "len")) (ha : PE X a (rdE G W ma))
    (he : starEach [a] X.env = (false, eval a X.env) :: starEach [] X.env := by rfl) (hpl : (backTo pos (starEach [] X.env)).any (·.1) = false := by rfl) : PE X (.Call (.Name "len" p) [a] [] pos) (rdE G W (eLenU tbl ma)) := by
  refine ⟨fun pins s σ H Q I ⟨ρ, σi, h, as, ag, fin⟩ => ?_⟩
  refine wpAny_Call_Name_kw (ld_blt I hg hm hv ?_ (by decide) (by decide))
  have B : rdE G W ma σ H fun y H1 => ∃ x, [y] = [x] ∧ (rdC G cLen [x] H1 Q ∨ ∃ ρ1 h1 xi cn g, Ag G ρ1 h1 H1 ∧ RV G ρ1 H1 xi x ∧ insC xi h1 = some cn ∧ tbl cn = some g ∧ FinG G ρ1 H1 (RV G) Q (fun c d H' => W c d σ H') (lenR (g [xi] h1))) :=
    rdG_go as ag fin fun ρ1 H1 h1 x x' st as1 ag1 r f => by
      cases q1 : insC x h1 with
      | none => rw [q1] at f; exact ⟨x', rfl, .inl ⟨ρ1, h1, [x], ag1, .cons r .nil, FinO.of f⟩⟩
      | some cn =>
        rw [q1] at f
        dsimp only at f
        cases q2 : tbl cn with
        | none => rw [q2] at f; exact f.elim
        | some g => rw [q2] at f; exact ⟨x', rfl, .inr ⟨ρ1, h1, x, cn, g, ag1, r, q1, q2, f⟩⟩
  have pa : PA X [a] (tCons (rdE G W ma) tNil) := pa_cons ha pa_nil he
  refine PyProof.Rows.callWith_builtin1 (thn (pa.run pos pins s σ H (fun vs H1 => ∃ x, vs = [x] ∧ (rdC G cLen [x] H1 Q ∨ ∃ ρ1 h1 xi cn g, Ag G ρ1 h1 H1 ∧ RV G ρ1 H1 xi x ∧ insC xi h1 = some cn ∧ tbl cn = some g ∧ FinG G ρ1 H1 (RV G) Q (fun c d H' => W c d σ H') (lenR (g [xi] h1)))) I ?_) fun us s1 ⟨vs, H1, I1, r1, x, ex, q1⟩ => ?_) he hpl
  · exact B
  · subst ex
    rcases q1 with q1 | ⟨ρ1, h1, xi, cn, g, ag1, rx, k1, k2, f⟩
    · exact hc pins s1 σ H1 [x] us Q I1 r1 q1
    · obtain ⟨ad, C, dx, gs, ex, hC, hH⟩ := insC_ok ag1 rx k1
      subst ex
      obtain ⟨u, rfl, ru⟩ := vals1 r1
      obtain rfl : u = Value.ref ad := ru
      obtain ⟨f', _, n2, n3, n4, n5⟩ := sp.at_ cn C g k2 hC
      obtain ⟨m, hF, ox, od, J⟩ := insC_look I1 hH
      refine PySem.W.lenO_K I1.kIn J n2 n4 ?_
      have key := lenR_fin (G := G) (ρ := ρ1) (H := H1) (Q := Q) (W := fun c d H' => W c d σ H') (g [xi] h1) f
      refine wpAny_mono (n5 pins s1 σ H1 [.ref ad] [.ref ad] [xi] ρ1 h1 _ I1 (.cons rfl .nil) (.cons rx .nil) ag1 key) (fun z s3 hz => ?_) fun _ _ z => z
      obtain ⟨x', H', I', rx', n, en, l0, l1, q'⟩ := hz
      subst en
      obtain ⟨t, rfl⟩ := (show ∃ t, z = Value.int n t from rx')
      exact ⟨n, t, rfl, l0, l1, fun t' tk => ⟨.int n, H', I'.tok tk, ⟨t', rfl⟩, q'⟩⟩
end
end ML
end
section
namespace ML
open PySem PyProof.Rows
section
variable {prog : Program} {w : World} {A : Around} {E : Value → Shared → Prop} {s : Shared}
end
end ML
namespace ML
open PySem PyProof.Rows
section
variable {prog : Program} {w : World} {A : Around} {E : Value → Shared → Prop} {s : Shared}
end
end ML
namespace ML
open PySem PySem.Spec PyProof.Rows L2 He
def insI (x : Int) : List Int → List Int
  | [] => [x]
  | y :: r => match decide (x ≤ y) with
    | true => x :: y :: r
    | false => y :: insI x r
def srtI : List Int → List Int
  | [] => []
  | x :: r => insI x (srtI r)
def intsI : List VI → Option (List Int)
  | [] => some []
  | .int i :: r => match intsI r with
    | some l => some (i :: l)
    | none => none
  | _ :: _ => none
def cSortK : OpC := fun vs h => match vs with
  | [.tup xs] => match intsI xs with
    | some l => some (.ref h.length, h ++ [.lst ((srtI l).map .int)])
    | none => none
  | [.ref n] => match h[n]? with
    | some (.lst xs) => match intsI xs with
      | some l => some (.ref h.length, h ++ [.lst ((srtI l).map .int)])
      | none => none
    | some (.scr xs) => match intsI xs with
      | some l => some (.ref h.length, h ++ [.lst ((srtI l).map .int)])
      | none => none
    | _ => none
  | _ => none
section
variable {G : Gx} {ρ : List Addr} {h : Hi} {H : Hp}
end
section
variable {G : Gx} {W : WX} {X : Cx} {e : Expr} {es : List Expr} {mr : MA} {p p2 kp pos : Pos}
end
end ML
end
section
namespace ML
open PySem PyProof.Rows
section
variable {prog : Program} {w : World} {A : Around} {E : Value → Shared → Prop} {s : Shared}
end
section
open PySem.Spec L2 He
variable {G : Gx} {W : WX} {X : Cx} {e : Expr} {es : List Expr} {mr : MA} {p p2 kp pos : Pos}
end
end ML
end
section
namespace ML
open PySem L2 NdefX
open PyProof.Rows hiding wpAt
structure SupX (X : Cx) (C : Addr) : Prop where
  cd : ∃ cd, PySem.W.clsIn X.K C = some cd
  mro : PySem.W.mroIn X.K C (.ref C) = some true
  sup : PySem.W.ks_superIn X.K C C "__init__" = some (some (.builtin "ValueError.__init__"))
  sub : PySem.W.subIn X.K (.ref C) (.type "ValueError") = some true
structure SupD (X : Cx) (f D : Addr) (slf : Str) : Prop where
  fn : X.env.func = some f
  at_ : ∃ (o : Obj) (fd : FuncData) (ar : Arg), X.K.lookup f = some o ∧ o.data = .func fd ∧ (fd.params.posonlyargs ++ fd.params.args).head? = some ar ∧ ar.arg = slf
  code : ∃ (c : Addr) (o : Obj) (vs : Array Value) (file : Str) (tf : Tok), X.env.code = .ref c ∧ X.K.lookup c = some o ∧ o.data = .fields vs ∧ vs[2]? = some (.str file tf) ∧ ((X.prog.main.file : Str) == file) = true
  top : (X.prog.main.scope.names.lookup ("super" : Str)).isSome = false
  any : PySem.W.nsIn X.K cStatics "thirdparty.any" = some none
def tSupX (X : Cx) (j i : Nat) (D : Addr) (ta : TA) : TS := fun Dn σ H => σ[j]? = some (some (.ref D)) ∧ ∃ a, σ[i]? = some (some (.ref a)) ∧ H a = some (exo a D none) ∧ OexC X.K D ∧ SupX X D ∧
  ta σ H fun vs H1 => vs.length ≤ 1000 ∧ H1 a = some (exo a D none) ∧ Dn.nx σ H1
theorem init_bw {X : Cx} {pins : List (Addr × Obj)} {σ : L2.St} {H : Hp} {s : Shared} {A : Around} {E : Value → Shared → Prop} {b a C : Addr} {us : List Value} {Q : Value → Shared → Prop} (T : OexC X.K C) (I : Inv X pins σ H s) (e : H a = some (exo a C none)) (hb : s.heap.get? b = some (PySem.W.kxs_mw "ValueError.__init__" a)) (hl : us.length ≤ sizeLine)
    (h : ∀ s', Inv X pins σ H s' → Q .none s') : wpAny (model X.prog X.w) A (call (.ref b) us) Q E s := by
  obtain ⟨nm, q, N, bs, bm, sn, sub, ab, col, dd, k0, k1, k2, k3, k5, hC, hbm⟩ := T.cls
  obtain ⟨t1, ho⟩ := exo_at I.hok e
  have hC' := I.kIn _ _ hC
  obtain ⟨hh, g, d, tk, os⟩ := s
  have fin : ∀ h', (∀ b o, b ≠ a → hh.get? b = some o → h'.get? b = some o) → h'.get? a = some ({ cls := .ref C, dict := none, data := .fields #[.ref hh.objs.size, .none, .none, .none, .bool false, .none] } : Obj) → Q .none ⟨h', g, d, tk, os⟩ := fun h' k hx => by
    have J := I.write (t' := tk) (x := a) (e := a) (o := exo a C none) (by rw [e]; exact True.intro) (.inl rfl) k ⟨_, hx⟩ (exo_ok hx)
    have eu : upd H a (exo a C none) = H := by
      funext b
      by_cases hb : b = a
      · rw [hb, upd_same, e]
      · rw [upd_ne hb]
    rw [eu] at J
    exact h _ J
  refine wpAny_call (codeAny_of_tree ?_)
  show wpAny _ A.in1 (callAny (.ref b) ⟨us, []⟩) _ _ _
  simp only [callAny]
  refine wpAny_bind (wpAny_load hb ?_)
  simp only [PySem.W.kxs_mw, show (Value.type "method-wrapper" == Value.type "method" || Value.type "method-wrapper" == Value.type "builtin_function_or_method" || Value.type "method-wrapper" == Value.type "method-wrapper") = true by decide, if_true]
  refine PySem.W.KFB.if_so (by decide) ?_
  refine wpAny_bind (PySem.W.check_bound_init F.excBase_ValueError.toExcCallFacts hC' ho rfl ?_)
  refine wpAny_bind (wpAny_pure (wpAny_pure ?_))
  refine ⟨plainId_quiet F.excBase_ValueError.init.plain _, codeAny_builtin F.excBase_ValueError.initEntry ?_⟩
  exact PySem.W.exc_init_tree (cls := .ref C) (t0 := t1) (dv := none) (c2 := .none) (c3 := .none) (b4 := .bool false) ho hl fun h' k hx _ => fin h' k hx
section
variable {X : Cx} {body : List Stmt} {f D : Addr} {slf : Str} {i j : Nat} {e : Expr} {es : List Expr} {ta : TA} {p0 p1 apos cpos spos : Pos}
theorem pst_superX (S : SupD X f D slf) (hks : Gl X "super") (hm : X.mg "super" = none) (hkc : X.env.kindOf "__class__" = some .free) (hNc : X.N[j]? = some "__class__") (hvc : Vis X.env.scope "__class__")
    (hNs : X.N[i]? = some slf) (hvs : Vis X.env.scope slf) (hcs : (slf == ("__classdict__" : Str)) = false) (ha : PA X (e :: es) ta) (hi : interactive X.env = false)
    (hst : starEach (e :: es) X.env = (false, eval e X.env) :: starEach es X.env := by rfl) (hpl : (backTo cpos (starEach es X.env)).any (·.1) = false := by rfl)
    (hsw : swapsWith (.Call (.Attribute (.Call (.Name "super" p0) [] [] p1) "__init__" apos) (e :: es) [] cpos) none spos.line X.env = pure false := by rfl)
    (ht : eval (.Call (.Attribute (.Call (.Name "super" p0) [] [] p1) "__init__" apos) (e :: es) [] cpos) X.env = (do
      let ov ← attributeBase (.Call (.Name "super" p0) [] [] p1) "__init__" X.env (eval (.Call (.Name "super" p0) [] [] p1) X.env)
      standAt apos.atName
      let (f, first) ← holding [ov] (getMethod ov "__init__" (pure false))
      callWith cpos f first (backTo cpos (starEach (e :: es) X.env)) []) := by rfl) :
    PST X body (.Expr (.Call (.Attribute (.Call (.Name "super" p0) [] [] p1) "__init__" apos) (e :: es) [] cpos) spos) (tSupX X j i D ta) := by
  refine ⟨fun pins s σ H Dn I ⟨hD, a, hxs, hH, T, SX, hta⟩ => ?_⟩
  obtain ⟨t1, hoa⟩ := exo_at I.hok hH
  have J : PySem.W.InstAt s.heap a { cls := .ref D, dict := none, data := .fields #[.ref t1, .none, .none, .none, .bool false, .none] } D none := ⟨hoa, rfl, rfl, trivial⟩
  obtain ⟨of, fd, ar, hf1, hf2, hf3, hf4⟩ := S.at_
  obtain ⟨cc, oc, vs, file, tf, hc1, hc2, hc3, hc4, hc5⟩ := S.code
  obtain ⟨cdD, hcD⟩ := SX.cd
  have KX := I.kIn
  refine ks_wpAt_Expr_any (ks_wpAt_MethodCall (args := e :: es) (pl := pure false) ?_ ht) hi hsw
  refine ks_wpAt_super_base hks hkc rfl S.fn (KX _ _ hf1) hf2 hf3 hc1 (KX _ _ hc2) hc3 hc4 hc5 S.top ?_
  refine load_blt I hks hm boot_super (by decide +kernel) ⟨rfl, ?_⟩
  refine load_slot I hNc hD hvc (by decide) fun u ru => ?_
  obtain rfl : u = Value.ref D := ru
  rw [hf4]
  refine load_slot I hNs hxs hvs hcs fun u2 ru2 => ?_
  obtain rfl : u2 = Value.ref a := ru2
  obtain ⟨hD1o, hD1, hD2⟩ : ∃ oD, s.heap.get? D = some oD ∧ oD.data = .cls cdD := by
    unfold PySem.W.clsIn at hcD
    split at hcD
    · rename_i c' d' cd' sl' ho
      cases hcD
      exact ⟨_, KX _ _ ho, rfl⟩
    · cases hcD
  have hxC : a ≠ D := PySem.W.ks_ne KX J hcD
  obtain ⟨hh, gg, dd, tt, os⟩ := s
  refine PySem.ks_wpAny_isType_cls hD1 hD2 ⟨rfl, ?_⟩
  refine PySem.ks_wpAny_call_super hD1 hD2 J.at_ J.cls (fun c' e' => ?_) (PySem.W.looks_mroIn KX SX.mro) (fun h' eq kp => ?_)
  · cases e'
  have I2 : Inv X pins σ H ⟨h', gg, dd, tt, os⟩ := Inv.kept (s := ⟨hh, gg, dd, tt, os⟩) (t' := tt) I kp
  have KX2 := I2.kIn
  have hsup := SX.sup
  unfold PySem.W.ks_superIn at hsup
  rw [hcD] at hsup
  have hmr : PySem.W.Looks (model X.prog X.w) h' (mroOf (.ref D)) cdD.mro := fun A Q E s k q => wpAny_bind ((PySem.W.looks_clsIn KX2 hcD) A _ E s k (wpAny_pure q))
  have J2 : PySem.W.InstAt h' a { cls := .ref D, dict := none, data := .fields #[.ref t1, .none, .none, .none, .bool false, .none] } D none := ⟨kp _ _ hoa, rfl, rfl, trivial⟩
  have hI : PySem.W.Looks (model X.prog X.w) h' (isInstance (.ref a) (.type "ValueError")) true := J2.type.andThen (PySem.W.looks_subIn KX2 SX.sub)
  refine PySem.W.kxs_getMethod PySem.W.kxs_ValueError eq (PySem.W.looks_opaque KX2 S.any) hmr rfl KX2 hsup hI hxC rfl ?_
  have I3 : Inv X ((h'.objs.size, PySem.W.kxs_mw "ValueError.__init__" a) :: pins) σ H ⟨h'.push (PySem.W.kxs_mw "ValueError.__init__" a), gg, dd, tt + 1, os⟩ :=
    ClX.pin_new I2 (fun _ _ z => Heap.get?_push_of_some _ z) (Nat.le_refl _) (Heap.get?_push_size h' rfl) (fun v z => nomatch z)
  generalize h'.objs.size = b at I3 ⊢
  refine thn (Q := EP X pins σ fun _ H' => Dn.nx σ H') ?_ fun v s' ⟨z, H', I', _, q⟩ => ⟨σ, H', I', q⟩
  show wpAny _ _ (callWith cpos (.ref b) [] (backTo cpos (starEach (e :: es) X.env)) []) _ _ _
  have run := ha.run cpos _ _ σ H _ I3 hta
  rw [hst] at run ⊢
  refine PySem.W.kxs_callWith (i := "ValueError.__init__") (x := a) (by show (false || (backTo cpos (starEach es X.env)).any (·.1)) = false; rw [hpl]; rfl)
    (Calls.evalArgs_plain (thn run fun us s4 ⟨vs, H4, I4, r4, hl4, ea4, q4⟩ => ?_))
  have hb4 : s4.heap.get? b = some (PySem.W.kxs_mw "ValueError.__init__" a) := ClX.pin_at I4
  refine ⟨hb4, ?_⟩
  have I5 : Inv X pins σ H4 s4 := ClX.unpin I4
  refine init_bw T I5 ea4 hb4 (by show us.length ≤ sizeLine; rw [← r4.length, sizeLine_eq]; omega) fun s5 I6 => ⟨.non, H4, I6, rfl, q4⟩
end
theorem psst_cons {X : Cx} {body : List Stmt} {st : Stmt} {rest : List Stmt} {t1 t2 : TS} (h : PST X body st t1) (h2 : PSs X rest t2) : PSsT X body (st :: rest) (fun D σ H => t1 { D with nx := fun σ' H' => t2 D σ' H' } σ H) := ⟨fun pins s σ H D I q => by
  refine ks_wpAt_execs_cons (ks_wpAt_mono (h.run pins s σ H _ I q) (fun fl s' q => ?_) fun _ _ z => z)
  cases fl with
  | next => obtain ⟨σ', H', J, q⟩ := q; exact wpAt_of_wpAny (h2.run pins s' σ' H' D J q)
  | ret u => exact q
  | brk => exact q
  | cont => exact q⟩
def spI (D : Addr) (fld : Str) : Sp := fun vs H Q _ => ∃ a y, vs = [.ref a, y] ∧ H a = some (exo a D none) ∧ ∀ dx, H dx = none → dx ≠ a → Q .non (upd (upd H dx (exd dx [(fld, y)])) a (exo a D (some dx)))
def tIni (X : Cx) (D : Addr) (m fld : Str) : TS := fun Dn σ H => tSupX X 2 0 D (tCons (tC (.str m)) tNil) { Dn with nx := fun σ' H' => tOst X.K fld (tVar 0) (tVar 1) Dn σ' H' } σ H
section
variable {P : Program} {w : World} {K : PySem.W.Frag} {mg : Str → Option Value} {base : Heap} {x qual m fld par : Str} {params : Arguments} {body : List Stmt} {scope : Scope} {dvs : List V} {kws : List (Str × V)} {f cc D c : Addr} {fd : FuncData} {file : Str} {N : List Str} {k : Nat}
theorem exFn (F : FunS K x qual params body scope dvs kws f fd cc D c file) (S : NScope ["self", par, "__class__"] ["self", par] ["__class__"] scope) (T : OexC K D) (hno : PySem.W.findIn K (.ref D) fld = some none)
    (SX : ∀ (A : Around) (outer : List Env) (s : Shared) (H : Hp) (E : XK), SupX (ncx (L2.CX P w) P w K mg base ["self", par, "__class__"] (nfS x qual params body scope cc c) f A outer s H E) D)
    (hb : ∀ (A : Around) (outer : List Env) (s : Shared) (H : Hp) (E : XK), PSsT (ncx (L2.CX P w) P w K mg base ["self", par, "__class__"] (nfS x qual params body scope cc c) f A outer s H E) body body
      (tIni (ncx (L2.CX P w) P w K mg base ["self", par, "__class__"] (nfS x qual params body scope cc c) f A outer s H E) D m fld)) : FnOk P w K mg base (L2.CX P w) (k + 1) f fd ["self", par] (spI D fld) :=
  F.ok S (fun vs H Q E ⟨a, y, e, _⟩ => by rw [e] <;> rfl) fun A outer s H vs Q E hr ⟨a, y, e, h1, h2⟩ => by
    subst e
    refine ⟨_, hb A outer s H E, rfl, a, rfl, h1, T, SX A outer s H E, ?_⟩
    refine ⟨by simp, h1, ?_⟩
    exact ⟨y, rfl, .ref a, rfl, a, D, rfl, T, hno, .inl ⟨h1, fun dx n ne => h2 dx n ne⟩⟩
end
end ML
end
section
namespace ML
open PySem PySem.Spec PyProof.Rows L2 He
inductive HdsA (X : Cx) : List ExceptHandler → List (Value × Nat × (Addr → Value → Option Addr → TS)) → Prop
  | nil : HdsA X [] []
  | cons {x n : Str} {i : Nat} {c : Value} {ts : Addr → Value → Option Addr → TS} {b₀ : Stmt} {suite : List Stmt} {np pos' : Pos} {hds : List ExceptHandler} {l : List (Value × Nat × (Addr → Value → Option Addr → TS))} (hc : Names X x c)
      (hi : X.N[i]? = some n) (hln : X.env.kindOf n = some .local)
      (hsu : ∀ (a : Addr) (oe : Obj) (cls : Value) (d : Option Addr) (pn : List (Addr × Obj)), Zc cls d oe → (∃ vs, oe.data = .fields vs) → PSs (X.suite a ((a, oe) :: pn)) (b₀ :: suite) (ts a cls d)) (r : HdsA X hds l) :
      HdsA X (.ExceptHandler (some (.Name x np)) (some n) (b₀ :: suite) pos' :: hds) ((c, i, ts) :: l)
section
variable {X : Cx} {body : List Stmt} {h₀ : ExceptHandler} {hds : List ExceptHandler} {l : List (Value × Nat × (Addr → Value → Option Addr → TS))} {pos : Pos} {tb : WX → TS} {Wout : WX}
end
def sRaise (c : Nat) (fld : S) (e : ME) : MS := fun σ h => (e σ h).bindS σ fun v h1 => .ex c h1.length σ (h1 ++ [.xd [(fld, v)]])
section
variable {G : Gx} {W : WX} {X : Cx} {e : Expr} {me : ME} {c k : Nat} {C fI : Addr} {fd : FuncData} {ps : List Str} {fld : S} {x : Str} {p pos pos' : Pos}
theorem ms_raise (hc : X.calm = true) (tk : Takes X W) (hct : G.ct c = some C) (T : OexC X.K C) (iC : PySem.W.findIn X.K (.ref C) "__init__" = some (some (.ref fI))) (tI : PySem.W.typeIn X.K (.ref fI) = some (.type "function"))
    (F1 : FnOk X.prog X.w X.K X.mg X.base (L2.CX X.prog X.w) k fI fd ps (spI C (toStr fld))) (hr : Room (k + 1) X.A) (hb : Binds X.K fd ps []) (hg : Gl X x) (hm : X.mg x = some (.ref C)) (he : PE X e (rdE G W me))
    (hdb : (x == ("__debug__" : Str)) = false := by decide) (hst : starEach [e] X.env = (false, eval e X.env) :: starEach [] X.env := by rfl) (hpl : (backTo pos (starEach [] X.env)).any (·.1) = false := by rfl) :
    PS X (.Raise (some (.Call (.Name x p) [e] [] pos)) none pos') (rdS G W (sRaise c fld me)) := by
  have hx : Passes (L2.CX X.prog X.w) X (fun _ _ _ => False) := fun pins σ H s e s' I ⟨_, _, _, _, _, _, _, _, _, _, _, _, z⟩ => z.elim
  have pa : PA X [e] (tCons (rdE G W me) tNil) := pa_cons he pa_nil hst
  refine PS.imp' (ps_raise hc tk (pmk_oex (sp := spI C (toStr fld)) T iC tI F1 hr hb .nil hx hg hm pa hdb hst hpl)) fun D σ H ⟨ρ, σi, h, as, ag, f⟩ => ?_
  refine rdS_go as ag f fun ρ1 H1 h1 v y st as1 ag1 rv f1 => ?_
  show ([y].length ≤ 1000) ∧ _
  refine ⟨by simp, fun a na => ⟨a, y, rfl, upd_same, fun dx ndx ne => ?_⟩⟩
  have n1 : H1 dx = none := by rw [upd_ne ne] at ndx; exact ndx
  refine ⟨rfl, dx, [(toStr fld, y)], upd_same, by rw [upd_ne ne, upd_same], n1, ?_⟩
  have eh : upd (del (upd (upd (upd H1 a (exo a C none)) dx (exd dx [(toStr fld, y)])) a (exo a C (some dx))) a) dx (.xd [(toStr fld, y)]) = upd H1 dx (.xd [(toStr fld, y)]) := by
    funext b
    by_cases h1 : b = dx
    · rw [h1, upd_same, upd_same]
    · rw [upd_ne h1, upd_ne h1]
      by_cases h2 : b = a
      · rw [h2, del_same, na]
      · rw [del_ne h2, upd_ne h2, upd_ne h1, upd_ne h2]
  rw [eh]
  exact f1 (ρ1 ++ [dx]) _ dx C σ (Stp.new n1) (ag1.new n1 ⟨_, upd_same, .cons rfl (rv.mono (Stp.new n1)) .nil⟩) (as1.mono (Stp.new n1)) (by rw [← ag1.len]; simp) hct
end
end ML
end
section
namespace ML
open PySem PySem.Spec PyProof.Rows L2 He
def goneS (i : Nat) : RS → RS
  | .nx σ h => .nx (σ.set i none) h
  | .bk σ h => .bk (σ.set i none) h
  | .ct σ h => .ct (σ.set i none) h
  | .rt v h => .rt v h
  | _ => .err
abbrev Hd := (Nat → Option Bool) × Nat × (Nat → Nat → MS)
def runH : List Hd → Nat → Nat → MS
  | [], c, n => fun σ h => .ex c n σ h
  | (mt, i, su) :: r, c, n => fun σ h => match mt c with
    | some true => match Nat.blt i σ.length with
      | true => goneS i (su c n (σ.set i none) h)
      | false => .err
    | some false => runH r c n σ h
    | none => .err
def sTry (body : MS) (hs : List Hd) : MS := fun σ h => match body σ h with
  | .ex c n σ' h' => runH hs c n σ' h'
  | r => r
def rdSX (G : Gx) (n : Nat) (dd : Addr) (i : Nat) (a : Addr) (W : WX) (m : MS) : TS := fun D σ H =>
  ∃ ρ σi h, ρ[n]? = some dd ∧ σ[i]? = some (some (V.ref a)) ∧ AgS G ρ H σi σ ∧ Ag G ρ h H ∧ FinS G ρ H D W (m σi h)
section
variable {G : Gx} {ρ : List Addr} {H : Hp} {W : WX} {X : Cx} {σ : L2.St} {σi : Sg} {h : Hi} {n i : Nat} {dd a : Addr} {e : Expr} {es : List Expr} {me : ME} {ma mr : MA} {pos : Pos}
def eXf (cs : List Nat) (c n : Nat) (f : S) : ME := fun _ h => match cs.contains c, h[n]? with
  | true, some (.xd fs) => match getF f fs with
    | some v => .ok v h
    | none => .err
  | _, _ => .err
end
end ML
end
section
namespace ML
open PySem PySem.Spec PyProof.Rows L2 He
def eXi (tbl : Nat → Option Bool) (c n : Nat) : ME := fun _ h => match tbl c, h[n]? with
  | some b, some (.xd _) => .ok (.bl b) h
  | _, _ => .err
section
variable {G : Gx} {ρ : List Addr} {H : Hp} {W : WX} {X : Cx} {σ : L2.St} {σi : Sg} {h : Hi} {n i : Nat} {dd a : Addr} {e : Expr} {es : List Expr} {me : ME} {ma mr : MA} {pos : Pos}
end
def tSu (G : Gx) (mt : Nat → Option Bool) (su : Nat → Nat → MS) (i : Nat) : Addr → Value → Option Addr → TS := fun a cls d D σ H => ∃ c n C dd, cls = .ref C ∧ d = some dd ∧ G.ct c = some C ∧ mt c = some true ∧ rdSX G n dd i a W0 (su c n) D σ H
inductive HdM (X : Cx) (G : Gx) : List ExceptHandler → List Hd → List (Value × Nat × (Addr → Value → Option Addr → TS)) → Prop
  | nil : HdM X G [] [] []
  | cons {x n : Str} {i : Nat} {cv : Value} {mt : Nat → Option Bool} {su : Nat → Nat → MS} {b₀ : Stmt} {suite : List Stmt} {np pos' : Pos} {hds : List ExceptHandler} {hs : List Hd} {l : List (Value × Nat × (Addr → Value → Option Addr → TS))} (hc : Names X x cv)
      (hi : X.N[i]? = some n) (hln : X.env.kindOf n = some .local) (hmt : ∀ c C b, mt c = some b → G.ct c = some C → PySem.W.exmOne X.K (.ref C) cv = some b)
      (hsu : ∀ (a : Addr) (oe : Obj) (C dd : Addr) (pn : List (Addr × Obj)) (c n : Nat), G.ct c = some C → mt c = some true → Zc (.ref C) (some dd) oe → (∃ vs, oe.data = .fields vs) → PSs (X.suite a ((a, oe) :: pn)) (b₀ :: suite) (rdSX G n dd i a W0 (su c n)))
      (r : HdM X G hds hs l) : HdM X G (.ExceptHandler (some (.Name x np)) (some n) (b₀ :: suite) pos' :: hds) ((mt, i, su) :: hs) ((cv, i, tSu G mt su i) :: l)
theorem PSs.dispatch {X : Cx} {st : List Stmt} {t : TS} (h : ∀ D σ H, t D σ H → ∃ t', PSs X st t' ∧ t' D σ H) : PSs X st t := ⟨fun pins s σ H D I q => let ⟨_, p, q'⟩ := h D σ H q; p.run pins s σ H D I q'⟩
theorem HdM.hds {X : Cx} {G : Gx} {hds : List ExceptHandler} {hs : List Hd} {l : List (Value × Nat × (Addr → Value → Option Addr → TS))} (m : HdM X G hds hs l) : HdsA X hds l := by
  induction m with
  | nil => exact .nil
  | cons hc hi hln hmt hsu r ih =>
    refine .cons hc hi hln (fun a oe cls d pn hz hf => PSs.dispatch fun D σ H ⟨c, n, C, dd, e1, e2, hct, hm, q⟩ => ?_) ih
    subst e1 e2
    exact ⟨_, hsu a oe C dd pn c n hct hm hz hf, q⟩
end ML
end
section
namespace ML
open PySem PySem.Spec PyProof.Rows L2 He
section
variable {G : Gx} {W : WX} {X : Cx} {body : List Stmt} {h₀ : ExceptHandler} {hds : List ExceptHandler} {hs : List Hd} {l : List (Value × Nat × (Addr → Value → Option Addr → TS))} {pos : Pos} {mb : MS}
end
end ML
namespace ML
open PySem PySem.Spec PyProof.Rows L2 He
end ML
end
section
namespace ML
open PySem PySem.Spec PyProof.Rows L2 He
def oexB (K : PySem.W.Frag) (C : Addr) : Bool := match K.lookup C with
  | some ⟨.type "type", _, .cls cd, sl⟩ => (match cd.mro, sl.toList with
    | .ref C' :: bm, [_, _, _, _, some (.builtin n), _] => (C' == C && n == "ValueError.__new__" && !cd.hasDel) && (cd.hasDict && PySem.HandSPX.refsVE bm)
    | _, _ => false)
  | _ => false
theorem oexB_ok {K : PySem.W.Frag} {C : Addr} (q : oexB K C = true) : ∃ nm qn N bs bm sn sub ab col dd k0 k1 k2 k3 k5, K.lookup C = some (excClassObj nm qn C N bs bm true sn sub ab col dd k0 k1 k2 k3 k5 "ValueError.__new__") ∧ PySem.HandSPX.refsVE bm = true := by
  unfold oexB at q
  split at q
  · rename_i dd cd sl ho
    split at q
    · rename_i C' bm k0 k1 k2 k3 n k5 hm hs
      simp only [Bool.and_eq_true, beq_iff_eq, Bool.not_eq_true'] at q
      obtain ⟨⟨⟨rfl, rfl⟩, hdel⟩, hdi, hr⟩ := q
      obtain ⟨nm, bs, mro, ns, qn, hd, sn, sub, ab, col, del⟩ := cd
      dsimp only at hm hdel hdi
      subst hm hdel hdi
      have hsl : sl = #[k0, k1, k2, k3, some (.builtin "ValueError.__new__"), k5] := by
        obtain ⟨l⟩ := sl
        simp only at hs
        rw [hs]
      subst hsl
      exact ⟨nm, qn, ns, bs, bm, sn, sub, ab, col, dd, k0, k1, k2, k3, k5, ho, hr⟩
    · cases q
  · cases q
def excB (K : PySem.W.Frag) (x : Str) : Bool := oexB K (ga K x) && (eqO (PySem.W.findIn K (.ref (ga K x)) "__setattr__") (some (some (.builtin "object.__setattr__"))) && (decide (PySem.W.subIn K (.ref (ga K x)) (.type "BaseException") = some true) &&
  (decide (PySem.W.typeIn K (.ref (ga K x)) = some (.type "type")) && PySem.W.keepIn K (.ref (ga K x)))))
theorem excB_ok {K : PySem.W.Frag} {x : Str} (h : excB K x = true) : OexC K (ga K x) := by
  obtain ⟨h1, h⟩ := ba h
  obtain ⟨h2, h⟩ := ba h
  obtain ⟨h3, h⟩ := ba h
  obtain ⟨h4, h5⟩ := ba h
  exact ⟨oexB_ok h1, eqO_ok h2, of_decide_eq_true h3, of_decide_eq_true h4, h5⟩
def exiB (K : PySem.W.Frag) (x fld : Str) (d : Defn) : Bool := eqO (PySem.W.findIn K (.ref (ga K x)) "__init__") (some (some (.ref (d K)))) && (decide (PySem.W.typeIn K (.ref (d K)) = some (.type "function")) && (eqO (PySem.W.findIn K (.ref (ga K x)) fld) (some none) &&
  ((PySem.W.clsIn K (ga K x)).isSome && (decide (PySem.W.mroIn K (ga K x) (.ref (ga K x)) = some true) && (eqO (PySem.W.ks_superIn K (ga K x) (ga K x) "__init__") (some (some (.builtin "ValueError.__init__"))) &&
  (decide (PySem.W.subIn K (.ref (ga K x)) (.type "ValueError") = some true) && eqO (PySem.W.nsIn K cStatics "thirdparty.any") (some none)))))))
structure ExiOk (K : PySem.W.Frag) (x fld : Str) (d : Defn) : Prop where
  ini : PySem.W.findIn K (.ref (ga K x)) "__init__" = some (some (.ref (d K)))
  ty : PySem.W.typeIn K (.ref (d K)) = some (.type "function")
  no : PySem.W.findIn K (.ref (ga K x)) fld = some none
  cd : ∃ cd, PySem.W.clsIn K (ga K x) = some cd
  mro : PySem.W.mroIn K (ga K x) (.ref (ga K x)) = some true
  sup : PySem.W.ks_superIn K (ga K x) (ga K x) "__init__" = some (some (.builtin "ValueError.__init__"))
  sub : PySem.W.subIn K (.ref (ga K x)) (.type "ValueError") = some true
  any : PySem.W.nsIn K cStatics "thirdparty.any" = some none
theorem exiB_ok {K : PySem.W.Frag} {x fld : Str} {d : Defn} (h : exiB K x fld d = true) : ExiOk K x fld d := by
  obtain ⟨h1, h⟩ := ba h
  obtain ⟨h2, h⟩ := ba h
  obtain ⟨h3, h⟩ := ba h
  obtain ⟨h4, h⟩ := ba h
  obtain ⟨h5, h⟩ := ba h
  obtain ⟨h6, h⟩ := ba h
  obtain ⟨h7, h8⟩ := ba h
  exact ⟨eqO_ok h1, of_decide_eq_true h2, eqO_ok h3, Option.isSome_iff_exists.mp h4, of_decide_eq_true h5, eqO_ok h6, of_decide_eq_true h7, eqO_ok h8⟩
theorem ExiOk.supX {X : Cx} {x fld : Str} {d : Defn} (e : ExiOk X.K x fld d) : SupX X (ga X.K x) := ⟨e.cd, e.mro, e.sup, e.sub⟩
section
variable {X : Cx} {x qual : Str} {params : Arguments} {body : List Stmt} {scope : Scope} {dvs : List V} {kws : List (Str × V)} {f cc D c : Addr} {fd : FuncData} {file sf : Str} {ar : Arg}
theorem supD_of (F : FunS X.K x qual params body scope dvs kws f fd cc D c file) (hfn : X.env.func = some f) (hcode : X.env.code = .ref c) (har : (params.posonlyargs ++ params.args).head? = some ar) (hs : ar.arg = sf)
    (hfile : ((X.prog.main.file : Str) == file) = true) (htop : (X.prog.main.scope.names.lookup ("super" : Str)).isSome = false) (any : PySem.W.nsIn X.K cStatics "thirdparty.any" = some none) : SupD X f D sf := by
  obtain ⟨oc, od, dV, kV, doc, pm, an, ct, osl, e1, e2, _, _⟩ := F.ex
  obtain ⟨o, vs, tf, e3, e4, e5⟩ := F.file
  exact ⟨hfn, ⟨_, fd, ar, e2, rfl, by rw [e1]; exact har, hs⟩, ⟨c, o, vs, file, tf, hcode, e3, e4, e5, hfile⟩, htop, any⟩
end
theorem ex_body {X : Cx} {body : List Stmt} {f D : Addr} {par fld m : Str} {j1 : Nat} {p0 p1 p2 apos cpos spos q0 q1 q2 q3 : Pos} (S : SupD X f D "self") (hks : Gl X "super") (hm : X.mg "super" = none) (hkc : X.env.kindOf "__class__" = some .free) (hNc : X.N[2]? = some ("__class__" : Str)) (hvc : Vis X.env.scope "__class__")
    (hNs : X.N[0]? = some ("self" : Str)) (hvs : Vis X.env.scope "self") (hNp : X.N[1]? = some par) (hvp : Vis X.env.scope par) (hi : interactive X.env = false)
    (hst : starEach [.Constant (.str m) j1 p2] X.env = (false, eval (.Constant (.str m) j1 p2) X.env) :: starEach [] X.env) (hpl : (backTo cpos (starEach [] X.env)).any (·.1) = false)
    (hsw : swapsWith (.Call (.Attribute (.Call (.Name "super" p0) [] [] p1) "__init__" apos) [.Constant (.str m) j1 p2] [] cpos) none spos.line X.env = pure false)
    (ht : eval (.Call (.Attribute (.Call (.Name "super" p0) [] [] p1) "__init__" apos) [.Constant (.str m) j1 p2] [] cpos) X.env = (do
      let ov ← attributeBase (.Call (.Name "super" p0) [] [] p1) "__init__" X.env (eval (.Call (.Name "super" p0) [] [] p1) X.env)
      standAt apos.atName
      let (f, first) ← holding [ov] (getMethod ov "__init__" (pure false))
      callWith cpos f first (backTo cpos (starEach [.Constant (.str m) j1 p2] X.env)) []))
    (hs2 : swapsWith (.Name par q1) (some (.Attribute (.Name "self" q0) fld q2)) q3.line X.env = pure false) (hd : (par == ("__debug__" : Str)) = false) (hcd : (par == ("__classdict__" : Str)) = false) :
    PSsT X body [.Expr (.Call (.Attribute (.Call (.Name "super" p0) [] [] p1) "__init__" apos) [.Constant (.str m) j1 p2] [] cpos) spos, .Assign [.Attribute (.Name "self" q0) fld q2] (.Name par q1) q3] (tIni X D m fld) :=
  psst_cons (t1 := tSupX X 2 0 D (tCons (tC (.str m)) tNil)) (t2 := tOst X.K fld (tVar 0) (tVar 1)) (pst_superX (j := 2) (i := 0) (slf := "self") S hks hm hkc hNc hvc hNs hvs (by decide) (pa_cons pe_str pa_nil hst) hi hst hpl hsw ht) (pss_one (ps_ost (pe_var (i := 0) hNs hvs) (pe_var (i := 1) hNp hvp hd hcd) hs2))
end ML
end
section
namespace ML
open PySem L2
theorem L2R.negR {r : List Nat} {h : Hi} {a b : Res VI} (k : L2R RV2 r h a b) : L2R RV2 r h (negR a) (negR b) := by
  cases a with
  | err => trivial
  | ex c n s' =>
    obtain ⟨r', h', m, rfl, e, g, q⟩ := k
    exact ⟨r', h', m, rfl, e, g, q⟩
  | ok v s' =>
    obtain ⟨r', h', v', rfl, e, g, q⟩ := k
    cases q with
    | bl b => exact ⟨r', h', _, rfl, e, g, .bl (!b)⟩
    | _ => trivial
instance {ma mb : ME} {f : Op2} {cs : List Nat} {tbl : Nat → Option MF} [c : LTb tbl] [x : LE ma] [y : LE mb] [o : LOp f] : LE (eNeU cs tbl f ma mb) := ⟨fun r s h σ σ' g a => (x.run r s h σ σ' g a).bind fun r1 s1 h1 v v' e1 g1 q1 => (y.run _ _ _ _ _ g1 (a.mono e1)).bind fun r2 s2 h2 w w' e2 g2 q2 => by
  rw [ins2 g2 (q1.mono e2), ty2 g2 q2]
  cases z : insC v s2 with
  | none => exact .ofO (o.run _ _ _ _ _ _ _ g2 (q1.mono e2) q2)
  | some d =>
    dsimp only
    cases w0 : tbl d with
    | none => trivial
    | some u =>
      cases w1 : nfI cs (tyI w s2) with
      | false => trivial
      | true => exact ((c.run _ _ w0).run _ _ _ _ _ g2 (.cons (q1.mono e2) (.cons q2 .nil))).negR⟩
instance {c : Nat} {f : S} {ma : ME} [x : LE ma] : LS (sRaise c f ma) := ⟨fun r s h σ σ' g a => (x.run r s h σ σ' g a).bindS a fun r1 s1 h1 v v' e1 g1 q1 => by
  have e0 : Ex2 r1 h1 (r1 ++ [h1.length]) (h1 ++ [OI.xd [(f, v')]]) := ⟨⟨[h1.length], rfl, fun m hm => by rw [List.mem_singleton] at hm; omega⟩, by simp, fun m _ hlt => List.getElem?_append_left hlt⟩
  obtain ⟨g', e⟩ := g1.new (o := OI.xd [(f, v)]) (o' := OI.xd [(f, v')]) (.xd (.cons (q1.mono e0) .nil))
  exact ⟨_, _, _, _, rfl, e, g', (a.mono e1).mono e, g1.idx⟩⟩
class LE2 (n m : Nat) (e e' : ME) : Prop where
  run : ∀ r s h σ σ', r[n]? = some m → Ag2 r s h → AS2 r σ σ' → L2R RV2 r h (e σ s) (e' σ' h)
class LA2 (n m : Nat) (e e' : MA) : Prop where
  run : ∀ r s h σ σ', r[n]? = some m → Ag2 r s h → AS2 r σ σ' → L2R RVs2 r h (e σ s) (e' σ' h)
class LS2 (n m : Nat) (e e' : MS) : Prop where
  run : ∀ r s h σ σ', r[n]? = some m → Ag2 r s h → AS2 r σ σ' → L2S r h (e σ s) (e' σ' h)
theorem Ex2.at_ {r r' : List Nat} {h h' : Hi} {n m : Nat} (e : Ex2 r h r' h') (q : r[n]? = some m) : r'[n]? = some m := e.pre q
section
variable {n m c : Nat}
instance (priority := low) {e : ME} [x : LE e] : LE2 n m e e := ⟨fun r s h σ σ' _ g a => x.run r s h σ σ' g a⟩
instance {cs : List Nat} {f : S} : LE2 n m (eXf cs c n f) (eXf cs c m f) := ⟨fun r s h σ σ' q g a => by
  unfold eXf
  obtain ⟨o, o', z1, z2, z3⟩ := g.no q
  rw [z1, z2]
  cases z3 with
  | xd t =>
    cases cs.contains c with
    | false => trivial
    | true =>
      have k := getF2 (f := f) t
      dsimp only
      rename_i xs ys
      cases w : getF f xs with
      | none => trivial
      | some v =>
        rw [w] at k
        cases w2 : getF f ys with
        | none => rw [w2] at k; exact k.elim
        | some v' => rw [w2] at k; exact .ok g k
  | _ => cases cs.contains c <;> trivial⟩
instance {t : Nat → Option Bool} : LE2 n m (eXi t c n) (eXi t c m) := ⟨fun r s h σ σ' q g a => by
  unfold eXi
  obtain ⟨o, o', z1, z2, z3⟩ := g.no q
  rw [z1, z2]
  cases t c with
  | none => trivial
  | some b => cases z3 <;> first | exact .ok g (.bl b) | trivial⟩
instance : LA2 n m aNil aNil := ⟨fun r s h σ σ' q g a => .ok g .nil⟩
instance {a a' : ME} {b b' : MA} [x : LE2 n m a a'] [y : LA2 n m b b'] : LA2 n m (aCons a b) (aCons a' b') := ⟨fun r s h σ σ' q g a => (x.run r s h σ σ' q g a).bind fun r1 s1 h1 v v' e1 g1 q1 => (y.run _ _ _ _ _ (e1.at_ q) g1 (a.mono e1)).bind fun r2 s2 h2 w w' e2 g2 q2 => .ok g2 (.cons (q1.mono e2) q2)⟩
instance {b b' : MA} [y : LA2 n m b b'] : LE2 n m (eLst b) (eLst b') := ⟨fun r s h σ σ' q g a => (y.run _ _ _ _ _ q g a).bind fun r2 s2 h2 w w' e2 g2 q2 => by
  rw [← q2.length]
  split
  · exact .new g2 fun r' e => .lst (q2.mono e)
  · trivial⟩
instance {a a' : ME} [x : LE2 n m a a'] : LS2 n m (sRet a) (sRet a') := ⟨fun r s h σ σ' q g a => (x.run r s h σ σ' q g a).bindS a fun r1 s1 h1 v v' e1 g1 q1 => ⟨_, _, _, rfl, .refl, g1, q1⟩⟩
instance : LS2 n m sNx sNx := ⟨fun r s h σ σ' q g a => .nx g a⟩
instance {a a' : ME} {b b' : MS} {j : Nat} [x : LE2 n m a a'] [y : LS2 n m b b'] : LS2 n m (sSeq (sAsg a (gNm j)) b) (sSeq (sAsg a' (gNm j)) b') := ⟨fun r s h σ σ' q g a =>
  L2S.andThen ((x.run r s h σ σ' q g a).bindS a fun r1 s1 h1 v v' e1 g1 q1 => .nx g1 ((a.mono e1).set q1 j)) fun r1 s1 h1 t t' e1 g1 a1 => y.run _ _ _ _ _ (e1.at_ q) g1 a1⟩
end
theorem goneS2 {r : List Nat} {h : Hi} {i : Nat} {a b : RS} (k : L2S r h a b) : L2S r h (goneS i a) (goneS i b) := by
  cases a with
  | err => trivial
  | nx σ s' => obtain ⟨r2, h2, m, rfl, e2, g, a⟩ := k; exact ⟨r2, h2, _, rfl, e2, g, a.lose i⟩
  | bk σ s' => obtain ⟨r2, h2, m, rfl, e2, g, a⟩ := k; exact ⟨r2, h2, _, rfl, e2, g, a.lose i⟩
  | ct σ s' => obtain ⟨r2, h2, m, rfl, e2, g, a⟩ := k; exact ⟨r2, h2, _, rfl, e2, g, a.lose i⟩
  | rt σ s' => obtain ⟨r2, h2, m, rfl, e2, g, a⟩ := k; exact ⟨r2, h2, _, rfl, e2, g, a⟩
  | ex c n σ s' => trivial
class LHs (hs : List Hd) : Prop where
  run : ∀ c n m r s h σ σ', r[n]? = some m → Ag2 r s h → AS2 r σ σ' → L2S r h (runH hs c n σ s) (runH hs c m σ' h)
instance : LHs [] := ⟨fun c n m r s h σ σ' q g a => ⟨_, _, _, _, rfl, .refl, g, a, q⟩⟩
instance {mt : Nat → Option Bool} {i : Nat} {su : Nat → Nat → MS} {hs : List Hd} [x : ∀ c n m, LS2 n m (su c n) (su c m)] [y : LHs hs] : LHs ((mt, i, su) :: hs) := ⟨fun c n m r s h σ σ' q g a => by
  unfold runH
  cases mt c with
  | none => trivial
  | some b =>
    cases b with
    | false => exact y.run _ _ _ _ _ _ _ _ q g a
    | true =>
      dsimp only
      rw [← a.len]
      split
      · exact goneS2 ((x c n m).run _ _ _ _ _ q g (a.lose i))
      · trivial⟩
instance {body : MS} {hs : List Hd} [x : LS body] [y : LHs hs] : LS (sTry body hs) := ⟨fun r s h σ σ' g a => by
  have k := x.run r s h σ σ' g a
  unfold sTry
  cases z : body σ s with
  | err => trivial
  | nx σ1 s' => rw [z] at k; obtain ⟨r2, h2, m, e1, e2, g2, a2⟩ := k; rw [e1]; exact ⟨r2, h2, _, rfl, e2, g2, a2⟩
  | bk σ1 s' => rw [z] at k; obtain ⟨r2, h2, m, e1, e2, g2, a2⟩ := k; rw [e1]; exact ⟨r2, h2, _, rfl, e2, g2, a2⟩
  | ct σ1 s' => rw [z] at k; obtain ⟨r2, h2, m, e1, e2, g2, a2⟩ := k; rw [e1]; exact ⟨r2, h2, _, rfl, e2, g2, a2⟩
  | rt v s' => rw [z] at k; obtain ⟨r2, h2, m, e1, e2, g2, a2⟩ := k; rw [e1]; exact ⟨r2, h2, _, rfl, e2, g2, a2⟩
  | ex c n σ1 s' =>
    rw [z] at k
    obtain ⟨r2, h2, σ2, m, e1, e2, g2, a2, q⟩ := k
    rw [e1]
    exact (y.run c n m r2 s' h2 σ1 σ2 q g2 a2).ext e2⟩
end ML
end
section
namespace ML
open PySem L2
theorem L2R.lenR {r : List Nat} {h : Hi} {a b : Res VI} (k : L2R RV2 r h a b) : L2R RV2 r h (lenR a) (lenR b) := by
  cases a with
  | err => trivial
  | ex c n s' =>
    obtain ⟨r', h', m, rfl, e, g, q⟩ := k
    exact ⟨r', h', m, rfl, e, g, q⟩
  | ok v s' =>
    obtain ⟨r', h', v', rfl, e, g, q⟩ := k
    cases q with
    | int n =>
      have e1 : ∀ hh, ML.lenR (.ok (.int n) hh) = (match decide (0 ≤ n) && decide (n < 2 ^ 62) with | true => Res.ok (.int n) hh | false => Res.err) := fun _ => rfl
      rw [e1, e1]
      cases decide (0 ≤ n) && decide (n < 2 ^ 62) with
      | true => exact ⟨r', h', _, rfl, e, g, .int n⟩
      | false => trivial
    | _ => trivial
instance {ma : ME} {tbl : Nat → Option MF} [c : LTb tbl] [x : LE ma] [o : LOc cLen] : LE (eLenU tbl ma) := ⟨fun r s h σ σ' g a => (x.run r s h σ σ' g a).bind fun r1 s1 h1 v v' e1 g1 q1 => by
  rw [ins2 g1 q1]
  cases z : insC v s1 with
  | none => exact .ofO (o.run _ _ _ _ _ g1 (.cons q1 .nil))
  | some d =>
    dsimp only
    cases w0 : tbl d with
    | none => trivial
    | some u => exact ((c.run _ _ w0).run _ _ _ _ _ g1 (.cons q1 .nil)).lenR⟩
end ML
end
section
namespace ML
open PySem L2 PyProof.Rows
def sFldAug (cs : List Nat) (fn : S) (f : Op2) (o e : ME) : MS := fun σ h => (o σ h).bindS σ fun x h1 => match x with
  | .ref n => match h1[n]? with
    | some (.ins c fs) => match cs.contains c, getF fn fs with
      | true, some v => (e σ h1).bindS σ fun y h2 => match f v y h2 with
        | some (z, h3) => match h3[n]? with
          | some (.ins c' fs') => match cs.contains c' && (Nat.beq c' c && Nat.blt fs'.length 1000) with
            | true => .nx σ (h3.set n (.ins c' (setF fn z fs')))
            | false => .err
          | _ => .err
        | none => .err
      | _, _ => .err
    | _ => .err
  | _ => .err
section
variable {G : Gx} {W : WX} {X : Cx} {o e : Expr} {pos pos' : Pos} {mo me : ME}
end
section
variable {r : List Nat}
theorem intsI2 : ∀ {xs ys : List VI}, RVs2 r xs ys → intsI ys = intsI xs
  | _, _, .nil => rfl
  | _, _, .cons q t => by cases q <;> unfold intsI <;> first | rw [intsI2 t] | rfl
theorem rvs2_ints (l : List Int) : RVs2 r (l.map VI.int) (l.map VI.int) := by
  induction l with
  | nil => exact .nil
  | cons a b ih => exact .cons (.int a) ih
end
instance : LOc cSortK := ⟨fun r s h vs vs' g t => by
  unfold cSortK
  cases t with
  | nil => trivial
  | cons q t =>
    cases t with
    | cons _ _ => cases q <;> trivial
    | nil =>
      cases q with
      | tup l =>
        dsimp only
        rw [intsI2 l]
        split
        · exact .new g fun r' e => .lst (rvs2_ints _)
        · trivial
      | ref i =>
        obtain ⟨o, o', e1, e2, e3⟩ := g.no i
        dsimp only
        rw [e1, e2]
        cases e3 with
        | lst l =>
          dsimp only
          rw [intsI2 l]
          split
          · exact .new g fun r' e => .lst (rvs2_ints _)
          · trivial
        | scr l =>
          dsimp only
          rw [intsI2 l]
          split
          · exact .new g fun r' e => .lst (rvs2_ints _)
          · trivial
        | _ => trivial
      | _ => trivial⟩
end ML
namespace ML
open PySem L2
instance : LOp iAdd := ⟨fun r s h x y x' y' g a b => by
  unfold iAdd
  cases a <;> cases b <;> first | exact ⟨_, _, _, rfl, .refl, g, .int _⟩ | trivial⟩
instance : LOp iSub := ⟨fun r s h x y x' y' g a b => by
  unfold iSub
  cases a <;> cases b <;> first | exact ⟨_, _, _, rfl, .refl, g, .int _⟩ | trivial⟩
instance {cs : List Nat} {fn : S} {f : Op2} {mo me : ME} [x : LE mo] [o : LOp f] [y : LE me] : LS (sFldAug cs fn f mo me) := ⟨fun r s h σ σ' g a => (x.run r s h σ σ' g a).bindS a fun r1 s1 h1 v v' e1 g1 q1 => by
  cases q1 with
  | @ref n m i =>
    obtain ⟨ob, ob', z1, z2, z3⟩ := g1.no i
    dsimp only
    rw [z1, z2]
    cases z3 with
    | @ins c fs fs' t =>
      dsimp only
      cases cs.contains c with
      | false => trivial
      | true =>
        have k := getF2 (f := fn) t
        cases w : getF fn fs with
        | none => trivial
        | some u =>
          rw [w] at k
          cases w2 : getF fn fs' with
          | none => rw [w2] at k; exact k.elim
          | some u' =>
            rw [w2] at k
            dsimp only
            refine (y.run _ _ _ _ _ g1 (a.mono e1)).bindS (a.mono e1) fun r2 s2 h2 p p' e2 g2 q2 => ?_
            have kk := o.run _ _ _ _ _ _ _ g2 (k.mono e2) q2
            cases z5 : f u p s2 with
            | none => trivial
            | some zh =>
              obtain ⟨z, s3⟩ := zh
              rw [z5] at kk
              obtain ⟨r3, h3, z', e, e3, g3, q3⟩ := kk
              rw [e]
              dsimp only
              have i3 := e3.pre (e2.pre i)
              obtain ⟨o3, o3', y1, y2, y3⟩ := g3.no i3
              rw [y1, y2]
              cases y3 with
              | ins t3 =>
                dsimp only
                rw [t3.length]
                split
                · obtain ⟨aa, b⟩ := g3.wr y1 i3 (.ins (setF2 q3 t3))
                  exact ⟨_, _, _, rfl, e3.trans b, aa, (((a.mono e1).mono e2).mono e3).mono b⟩
                · trivial
              | _ => trivial
    | _ => trivial
  | _ => trivial⟩
end ML
end
section
namespace ML
open PySem L2
def turnsD (it : Itm) (t : Tgt) (vs : List Nat) (tt : MT) (mi1 : MI) (t1 : Tgt) (vs1 : List Nat) (tt1 : MT) (el : ME) (D : Nat) (σ : Sg) : Nat → Nat → Hi → Option Hi
  | 0, i, h => match it.nxt i h with
    | some none => some h
    | _ => none
  | k + 1, i, h => match it.nxt i h with
    | some none => some h
    | some (some x) => match t.put x (wipeM σ vs) with
      | some σ2 => match tt σ2 h with
        | .ok true h2 => match mi1 σ2 h2 with
          | .ok it1 h3 => match turnsC it1 t1 vs1 tt1 el D σ2 (it1.fuel h3) 0 h3 with
            | some h4 => turnsD it t vs tt mi1 t1 vs1 tt1 el D σ k (i + 1) h4
            | none => none
          | _ => none
        | .ok false h2 => turnsD it t vs tt mi1 t1 vs1 tt1 el D σ k (i + 1) h2
        | _ => none
      | none => none
    | none => none
def eLc2 (mi : MI) (t : Tgt) (vs : List Nat) (tt : MT) (mi1 : MI) (t1 : Tgt) (vs1 : List Nat) (tt1 : MT) (el : ME) : ME := fun σ h => (mi σ h).bind fun it h1 => match turnsD it t vs tt mi1 t1 vs1 tt1 el h1.length σ (it.fuel h1) 0 (h1 ++ [.lst []]) with
  | some h2 => .ok (.ref h1.length) h2
  | none => .err
section
variable {G : Gx} {W : WX} {X : Cx} {ρ ρ1 : List Addr} {H H1 : Hp} {h : Hi} {tg iter tg1 iter1 elt c c1 : Expr} {ifs : List Expr} {scope : Scope} {own : List (Str × Nat)} {vs1 : List Nat} {pos spos py : Pos} {mi mi1 : MI} {mt mt1 : MT} {ml : ME} {t t1 : Tgt} {i : Nat} {y : Str}
end
theorem turnsD2 {t t1 : Tgt} {vs vs1 : List Nat} {tt tt1 : MT} {el : ME} {mi1 : MI} [x : LT tt] [x1 : LT tt1] [y : LE el] [z : LI mi1] : ∀ (k i : Nat) (r : List Nat) (s h s' : Hi) (σ σ' : Sg) (a b : Itm) (D D' : Nat), Ag2 r s h → AS2 r σ σ' → RI2 r a b → r[D]? = some D' →
    turnsD a t vs tt mi1 t1 vs1 tt1 el D σ k i s = some s' → ∃ r' h', turnsD b t vs tt mi1 t1 vs1 tt1 el D' σ' k i h = some h' ∧ Ex2 r h r' h' ∧ Ag2 r' s' h'
  | 0, i, r, s, h, s', σ, σ', a, b, D, D', g, as, q, d, e => by
    have n := nxt2 g q i
    unfold turnsD at e ⊢
    cases z1 : a.nxt i s with
    | none => rw [z1] at e; cases e
    | some o =>
      rw [z1] at e n
      cases o with
      | some _ => cases e
      | none => cases z2 : b.nxt i h with
        | none => rw [z2] at n; exact n.elim
        | some o' => cases o' with
          | some _ => rw [z2] at n; exact n.elim
          | none => cases e; exact ⟨r, h, rfl, .refl, g⟩
  | k + 1, i, r, s, h, s', σ, σ', a, b, D, D', g, as, q, d, e => by
    have n := nxt2 g q i
    unfold turnsD at e ⊢
    cases z1 : a.nxt i s with
    | none => rw [z1] at e; cases e
    | some o =>
      rw [z1] at e n
      cases z2 : b.nxt i h with
      | none => rw [z2] at n; exact n.elim
      | some o' =>
        rw [z2] at n
        cases o with
        | none => cases o' with
          | some _ => exact n.elim
          | none => cases e; exact ⟨r, h, rfl, .refl, g⟩
        | some v => cases o' with
          | none => exact n.elim
          | some v' =>
            dsimp only at e ⊢
            cases z3 : t.put v (wipeM σ vs) with
            | none => rw [z3] at e; cases e
            | some τ =>
              obtain ⟨τ', w1, w2⟩ := put2 t n (wipe2 as vs) z3
              rw [z3] at e
              rw [w1]
              dsimp only at e ⊢
              have tk := x.run _ _ _ _ _ g w2
              cases z4 : tt τ s with
              | err => rw [z4] at e; cases e
              | ex _ _ _ => rw [z4] at e; cases e
              | ok c s2 =>
                rw [z4] at tk e
                obtain ⟨r2, h2, c', k1, k2, k3, k4⟩ := tk
                subst k4
                rw [k1]
                cases c with
                | false =>
                  dsimp only at e ⊢
                  obtain ⟨r3, h3, j1, j2, j3⟩ := turnsD2 k (i + 1) _ _ _ _ _ _ _ _ _ _ k3 (as.mono k2) (q.mono k2) (k2.pre d) e
                  exact ⟨r3, h3, j1, k2.trans j2, j3⟩
                | true =>
                  dsimp only at e ⊢
                  have ek := z.run _ _ _ _ _ k3 (w2.mono k2)
                  cases z5 : mi1 τ s2 with
                  | err => rw [z5] at e; cases e
                  | ex _ _ _ => rw [z5] at e; cases e
                  | ok it1 s3 =>
                    rw [z5] at ek e
                    obtain ⟨r3, h3, it1', j1, j2, j3, j4⟩ := ek
                    rw [j1]
                    dsimp only at e ⊢
                    rw [fuel2 j3 j4]
                    cases z6 : turnsC it1 t1 vs1 tt1 el D τ (it1.fuel s3) 0 s3 with
                    | none => rw [z6] at e; cases e
                    | some s4 =>
                      rw [z6] at e
                      obtain ⟨r4, h4, m1, m2, m3⟩ := turnsC2 _ _ _ _ _ _ _ _ _ _ _ _ j3 ((w2.mono k2).mono j2) j4 (j2.pre (k2.pre d)) z6
                      rw [m1]
                      dsimp only at e ⊢
                      have ee := (k2.trans j2).trans m2
                      obtain ⟨r5, h5, n1, n2, n3⟩ := turnsD2 k (i + 1) _ _ _ _ _ _ _ _ _ _ m3 (as.mono ee) (q.mono ee) (ee.pre d) e
                      exact ⟨r5, h5, n1, ee.trans n2, n3⟩
instance {mi mi1 : MI} {t t1 : Tgt} {vs vs1 : List Nat} {tt tt1 : MT} {el : ME} [z : LI mi] [x : LT tt] [z1 : LI mi1] [x1 : LT tt1] [y : LE el] : LE (eLc2 mi t vs tt mi1 t1 vs1 tt1 el) := ⟨fun r s h σ σ' g a => (z.run r s h σ σ' g a).bind fun r1 s1 h1 v v' e1 g1 q1 => by
  obtain ⟨g2, e2⟩ := g1.new (o := .lst []) (o' := .lst []) (.lst .nil)
  rw [fuel2 g1 q1]
  cases w : turnsD v t vs tt mi1 t1 vs1 tt1 el s1.length σ (v.fuel s1) 0 (s1 ++ [.lst []]) with
  | none => trivial
  | some s2 =>
    obtain ⟨r3, h3, j1, j2, j3⟩ := turnsD2 _ _ _ _ _ _ _ _ _ _ _ _ g2 ((a.mono e1).mono e2) (q1.mono e2) g1.idx w
    rw [j1]
    exact ⟨r3, h3, _, rfl, e2.trans j2, j3, .ref (j2.pre g1.idx)⟩⟩
end ML
end
section
namespace ML
open PySem PySem.Spec PyProof.Rows L2 He
def pk4 {α : Type} (us ms ws ds : List α) (q : Nat × Nat) : Option α := match q.1 with
  | 0 => us[q.2]?
  | 1 => ms[q.2]?
  | 2 => ws[q.2]?
  | _ => ds[q.2]?
def arr4 {α : Type} : List (Nat × Nat) → List α → List α → List α → List α → List α
  | [], _, _, _, _ => []
  | q :: r, us, ms, ws, ds => match pk4 us ms ws ds q with
    | some x => x :: arr4 r us ms ws ds
    | none => arr4 r us ms ws ds
theorem arr4_vals {vs mz zs dz : List V} {us mv ws ds : List Value} (r1 : Vals vs us) (r2 : Vals mz mv) (r3 : Vals zs ws) (r4 : Vals dz ds) : ∀ sel : List (Nat × Nat), Vals (arr4 sel vs mz zs dz) (arr4 sel us mv ws ds)
  | [] => .nil
  | (k, i) :: r => by
    have t := arr4_vals r1 r2 r3 r4 r
    have key : (∃ x u, pk4 vs mz zs dz (k, i) = some x ∧ pk4 us mv ws ds (k, i) = some u ∧ RelV x u) ∨ (pk4 vs mz zs dz (k, i) = none ∧ pk4 us mv ws ds (k, i) = none) := by
      unfold pk4
      match k with
      | 0 => exact vals_at r1 i
      | 1 => exact vals_at r2 i
      | 2 => exact vals_at r3 i
      | k + 3 => exact vals_at r4 i
    unfold arr4
    rcases key with ⟨x, u, h1, h2, h3⟩ | ⟨h1, h2⟩
    · rw [h1, h2]; exact .cons h3 t
    · rw [h1, h2]; exact t
theorem arr4_rvs {G : Gx} {ρ : List Addr} {H : Hp} {vs mz zs dz : List VI} {us mv ws ds : List V} (r1 : RVs G ρ H vs us) (r2 : RVs G ρ H mz mv) (r3 : RVs G ρ H zs ws) (r4 : RVs G ρ H dz ds) : ∀ sel : List (Nat × Nat), RVs G ρ H (arr4 sel vs mz zs dz) (arr4 sel us mv ws ds)
  | [] => .nil
  | (k, i) :: r => by
    have t := arr4_rvs r1 r2 r3 r4 r
    have key : (∃ x u, pk4 vs mz zs dz (k, i) = some x ∧ pk4 us mv ws ds (k, i) = some u ∧ RV G ρ H x u) ∨ (pk4 vs mz zs dz (k, i) = none ∧ pk4 us mv ws ds (k, i) = none) := by
      unfold pk4
      match k with
      | 0 => exact rvs_at r1 i
      | 1 => exact rvs_at r2 i
      | 2 => exact rvs_at r3 i
      | k + 3 => exact rvs_at r4 i
    unfold arr4
    rcases key with ⟨x, u, h1, h2, h3⟩ | ⟨h1, h2⟩
    · rw [h1, h2]; exact .cons h3 t
    · rw [h1, h2]; exact t
theorem rvs_at2 {r : List Nat} {xs us : List VI} (q : RVs2 r xs us) (i : Nat) : (∃ x u, xs[i]? = some x ∧ us[i]? = some u ∧ RV2 r x u) ∨ (xs[i]? = none ∧ us[i]? = none) := by
  cases e : xs[i]? with
  | none => exact .inr ⟨rfl, q.none e⟩
  | some x =>
    obtain ⟨u, h1, h2⟩ := q.get e
    exact .inl ⟨x, u, rfl, h1, h2⟩
theorem arr42 {r : List Nat} {us ms ws ds us' ms' ws' ds' : List VI} (r1 : RVs2 r us us') (r2 : RVs2 r ms ms') (r3 : RVs2 r ws ws') (r4 : RVs2 r ds ds') : ∀ sel : List (Nat × Nat), RVs2 r (arr4 sel us ms ws ds) (arr4 sel us' ms' ws' ds')
  | [] => .nil
  | (k, i) :: q => by
    have t := arr42 r1 r2 r3 r4 q
    have key : (∃ x u, pk4 us ms ws ds (k, i) = some x ∧ pk4 us' ms' ws' ds' (k, i) = some u ∧ RV2 r x u) ∨ (pk4 us ms ws ds (k, i) = none ∧ pk4 us' ms' ws' ds' (k, i) = none) := by
      unfold pk4
      match k with
      | 0 => exact rvs_at2 r1 i
      | 1 => exact rvs_at2 r2 i
      | 2 => exact rvs_at2 r3 i
      | k + 3 => exact rvs_at2 r4 i
    unfold arr4
    rcases key with ⟨x, u, h1, h2, h3⟩ | ⟨h1, h2⟩
    · rw [h1, h2]; exact .cons h3 t
    · rw [h1, h2]; exact t
theorem xfnK {X : Cx} {W : WX} {nm : Nat → Option Str} {k k' n : Nat} {q : Defn} {ps ks : List Str} {g : MF} {arr : List VI → List VI → List VI} (d : XOk X nm k q ps g) (bn : Bnd (GxOf X.w X.K X.mg nm) X.K (fdOf X.K q) ps n ks arr) (hr : Room k' X.A) (tk : Takes X W) (h : k + 2 ≤ k' := by decide) :
    CallK X (GxOf X.w X.K X.mg nm) W (.ref (q X.K)) n ks (fnK g arr) ∧ PySem.W.keepIn X.K (.ref (q X.K)) = true := ⟨callK_fn (d.fp hr h) bn tk, d.kp⟩
def lkF : List (S × MF) → S → Option MF
  | [], _ => none
  | (k, g) :: r, s => match decide (k = s) with
    | true => some g
    | false => lkF r s
def eCallL (i : Nat) (tbl : S → Option MF) (ma : MA) : ME := fun σ h => match σ[i]? with
  | some (some (.glo x)) => match tbl x with
    | some g => (ma σ h).bind fun vs h1 => g vs h1
    | none => .err
  | _ => .err
section
variable {G : Gx} {W : WX} {X : Cx} {x : Str} {p pos : Pos} {e : Expr} {es : List Expr} {ma : MA} {i : Nat} {tbl : S → Option MF}
end
class LTf (tbl : S → Option MF) : Prop where
  run : ∀ x g, tbl x = some g → LF g
instance : LTf (lkF []) := ⟨fun _ _ h => nomatch h⟩
instance {x : S} {f : MF} {r : List (S × MF)} [a : LF f] [b : LTf (lkF r)] : LTf (lkF ((x, f) :: r)) := ⟨fun y g h => by
  unfold lkF at h
  cases q : decide (x = y) with
  | true => rw [q] at h; cases h; exact a
  | false => rw [q] at h; exact b.run y g h⟩
instance {i : Nat} {tbl : S → Option MF} {ma : MA} [c : LTf tbl] [x : LA ma] : LE (eCallL i tbl ma) := ⟨fun r s h σ σ' g a => by
  unfold eCallL
  cases z : σ[i]? with
  | none => trivial
  | some o =>
    cases o with
    | none => trivial
    | some v =>
      obtain ⟨w, k1, k2⟩ := a.at_ i v z
      rw [k1]
      cases k2 with
      | glo y =>
        dsimp only
        cases q : tbl y with
        | none => trivial
        | some f => exact (x.run r s h σ σ' g a).bind fun r1 s1 h1 vs vs' e1 g1 q1 => (c.run y f q).run _ _ _ _ _ g1 q1
      | _ => trivial⟩
end ML
end
section
set_option maxHeartbeats 400000
namespace ML
open PySem L2
section
variable {α β : Type} {σ σ1 : Sg} {h h1 : Hi}
theorem z_bind (a : α) (f : α → Hi → Res β) : Res.bind (.ok a h) f = f a h := rfl
theorem z_bindS (a : α) (f : α → Hi → RS) : Res.bindS (.ok a h) σ f = f a h := rfl
theorem z_bindX (c n : Nat) (f : α → Hi → Res β) : Res.bind (.ex c n h) f = .ex c n h := rfl
theorem z_bindSX (c n : Nat) (f : α → Hi → RS) : Res.bindS (.ex c n h) σ f = .ex c n σ h := rfl
theorem z_nx (f : MS) : RS.andThen (.nx σ h) f = f σ h := rfl
theorem z_rt (v : VI) (f : MS) : RS.andThen (.rt v h) f = .rt v h := rfl
theorem z_exx (c n : Nat) (f : MS) : RS.andThen (.ex c n σ h) f = .ex c n σ h := rfl
theorem z_endN : endB (.nx σ h) = .ok .non h := rfl
theorem z_endR (v : VI) : endB (.rt v h) = .ok v h := rfl
def slK (o : Option (Option VI)) (h : Hi) : Res VI := match o with
  | some (some v) => .ok v h
  | _ => .err
theorem z_eV (i : Nat) : eV i σ h = slK σ[i]? h := rfl
theorem z_slK (v : VI) : slK (some (some v)) h = .ok v h := rfl
theorem z_eC (v : VI) : eC v σ h = .ok v h := rfl
theorem z_aNil : aNil σ h = .ok [] h := rfl
def consK (x : VI) : List VI → Hi → Res (List VI) := fun xs h2 => .ok (x :: xs) h2
theorem z_aCons (a : ME) (r : MA) : aCons a r σ h = (a σ h).bind fun x h1 => (r σ h1).bind (consK x) := rfl
theorem z_consK (x : VI) (xs : List VI) : consK x xs h = .ok (x :: xs) h := rfl
def binK (f : Op2) (x : VI) : VI → Hi → Res VI := fun y h2 => ofO (f x y h2)
theorem z_eBin (f : Op2) (a b : ME) : eBin f a b σ h = (a σ h).bind fun x h1 => (b σ h1).bind (binK f x) := rfl
theorem z_binK (f : Op2) (x y : VI) : binK f x y h = ofO (f x y h) := rfl
theorem z_ofO (v : α) : ofO (some (v, h)) = .ok v h := rfl
def bolK : VI → Hi → Res Bool := fun v h1 => match v with
  | .bl b => .ok b h1
  | _ => .err
theorem z_tOf (e : ME) : tOf e σ h = (e σ h).bind bolK := rfl
theorem z_bolK (b : Bool) : bolK (.bl b) h = .ok b h := rfl
def andK (b : MT) (σ : Sg) : Bool → Hi → Res Bool := fun c h1 => match c with
  | true => b σ h1
  | false => .ok false h1
def orK (b : MT) (σ : Sg) : Bool → Hi → Res Bool := fun c h1 => match c with
  | true => .ok true h1
  | false => b σ h1
def notK : Bool → Hi → Res Bool := fun c h1 => .ok (!c) h1
theorem z_tAnd (a b : MT) : tAndM a b σ h = (a σ h).bind (andK b σ) := rfl
theorem z_andT (b : MT) : andK b σ true h = b σ h := rfl
theorem z_andF (b : MT) : andK b σ false h = .ok false h := rfl
theorem z_tOr (a b : MT) : tOrM a b σ h = (a σ h).bind (orK b σ) := rfl
theorem z_orT (b : MT) : orK b σ true h = .ok true h := rfl
theorem z_orF (b : MT) : orK b σ false h = b σ h := rfl
theorem z_tNot (a : MT) : tNotM a σ h = (a σ h).bind notK := rfl
theorem z_notK (c : Bool) : notK c h = .ok (!c) h := rfl
def ifK (a b : ME) (σ : Sg) : Bool → Hi → Res VI := fun c h1 => match c with
  | true => a σ h1
  | false => b σ h1
theorem z_eIf (t : MT) (a b : ME) : eIf t a b σ h = (t σ h).bind (ifK a b σ) := rfl
theorem z_ifT (a b : ME) : ifK a b σ true h = a σ h := rfl
theorem z_ifF (a b : ME) : ifK a b σ false h = b σ h := rfl
def eandK (b : ME) (σ : Sg) : VI → Hi → Res VI := fun v h1 => match v with
  | .bl true => b σ h1
  | .bl false => .ok (.bl false) h1
  | _ => .err
theorem z_eAnd (a b : ME) : eAnd a b σ h = (a σ h).bind (eandK b σ) := rfl
theorem z_eandT (b : ME) : eandK b σ (.bl true) h = b σ h := rfl
theorem z_eandF (b : ME) : eandK b σ (.bl false) h = .ok (.bl false) h := rfl
def eorK (b : ME) (σ : Sg) : VI → Hi → Res VI := fun v h1 => match v with
  | .bl true => .ok (.bl true) h1
  | .bl false => b σ h1
  | _ => .err
theorem z_eOr (a b : ME) : eOr a b σ h = (a σ h).bind (eorK b σ) := rfl
theorem z_eorT (b : ME) : eorK b σ (.bl true) h = .ok (.bl true) h := rfl
theorem z_eorF (b : ME) : eorK b σ (.bl false) h = b σ h := rfl
def enotK : VI → Hi → Res VI := fun v h1 => match v with
  | .bl b => .ok (.bl (!b)) h1
  | _ => .err
theorem z_eNot (a : ME) : eNot a σ h = (a σ h).bind enotK := rfl
theorem z_enotK (b : Bool) : enotK (.bl b) h = .ok (.bl (!b)) h := rfl
def negK : VI → Hi → Res VI := fun v h1 => match v with
  | .int i => .ok (.int (-i)) h1
  | _ => .err
theorem z_eNeg (a : ME) : eNeg a σ h = (a σ h).bind negK := rfl
theorem z_negK (i : Int) : negK (.int i) h = .ok (.int (-i)) h := rfl
theorem z_sNx : sNx σ h = .nx σ h := rfl
theorem z_sSeq (a b : MS) : sSeq a b σ h = (a σ h).andThen b := rfl
def rtK : VI → Hi → RS := fun v h1 => .rt v h1
theorem z_sRet (e : ME) : sRet e σ h = (e σ h).bindS σ rtK := rfl
theorem z_rtK (v : VI) : rtK v h = .rt v h := rfl
def dropK (σ : Sg) : VI → Hi → RS := fun _ h1 => .nx σ h1
theorem z_sDrop (e : ME) : sDrop e σ h = (e σ h).bindS σ (dropK σ) := rfl
theorem z_dropK (v : VI) : dropK σ v h = .nx σ h := rfl
def sifK (a b : MS) (σ : Sg) : Bool → Hi → RS := fun c h1 => match c with
  | true => a σ h1
  | false => b σ h1
theorem z_sIf (t : MT) (a b : MS) : sIf t a b σ h = (t σ h).bindS σ (sifK a b σ) := rfl
theorem z_sifT (a b : MS) : sifK a b σ true h = a σ h := rfl
theorem z_sifF (a b : MS) : sifK a b σ false h = b σ h := rfl
theorem z_gNm (i : Nat) (v : VI) : gNm i v σ h = .nx (σ.set i (some v)) h := rfl
theorem z_sAsg (e : ME) (g : MG) : sAsg e g σ h = (e σ h).bindS σ fun v h1 => g v σ h1 := rfl
def tgtK (o : Option Sg) (h : Hi) : RS := match o with
  | some σ' => .nx σ' h
  | none => .err
theorem z_gTgt (t : Tgt) (v : VI) : gTgt t v σ h = tgtK (t.put v σ) h := rfl
theorem z_tgtK (σ' : Sg) : tgtK (some σ') h = .nx σ' h := rfl
theorem z_put1 (i : Nat) (v : VI) : Tgt.put (.one i) v σ = some (σ.set i (some v)) := rfl
theorem z_putM (is : List Nat) (xs : List VI) : Tgt.put (.many is) (.tup xs) σ = putMany is xs σ := rfl
theorem z_pm0 : putMany [] [] σ = some σ := rfl
theorem z_pm1 (i : Nat) (is : List Nat) (x : VI) (xs : List VI) : putMany (i :: is) (x :: xs) σ = putMany is xs (σ.set i (some x)) := rfl
def tupM (gs : List MG) (σ : Sg) (xs : List VI) (h : Hi) : Bool → RS
  | true => gSeq gs xs σ h
  | false => .err
theorem z_gTupM (gs : List MG) (xs : List VI) : gTupM gs (.tup xs) σ h = tupM gs σ xs h (Nat.beq xs.length gs.length) := by
  unfold gTupM tupM
  dsimp only
  all_goals (cases Nat.beq xs.length gs.length <;> rfl)
theorem z_tupM (gs : List MG) (xs : List VI) : tupM gs σ xs h true = gSeq gs xs σ h := rfl
theorem z_gSeq0 : gSeq [] [] σ h = .nx σ h := rfl
theorem z_gSeq1 (g : MG) (gs : List MG) (v : VI) (vs : List VI) : gSeq (g :: gs) (v :: vs) σ h = (g v σ h).andThen fun σ1 h1 => gSeq gs vs σ1 h1 := rfl
def parK (i j : Nat) (σ : Sg) : List VI → Hi → RS := fun vs h1 => match vs with
  | [v, w] => .nx ((σ.set i (some v)).set j (some w)) h1
  | _ => .err
theorem z_sPar (i j : Nat) (ma : MA) : sPar i j ma σ h = (ma σ h).bindS σ (parK i j σ) := rfl
theorem z_parK (i j : Nat) (v w : VI) : parK i j σ [v, w] h = .nx ((σ.set i (some v)).set j (some w)) h := rfl
def par3K (i j l : Nat) (σ : Sg) : List VI → Hi → RS := fun vs h1 => match vs with
  | [u, v, w] => .nx (((σ.set i (some u)).set j (some v)).set l (some w)) h1
  | _ => .err
theorem z_sPar3 (i j l : Nat) (ma : MA) : sPar3 i j l ma σ h = (ma σ h).bindS σ (par3K i j l σ) := rfl
theorem z_par3K (i j l : Nat) (u v w : VI) : par3K i j l σ [u, v, w] h = .nx (((σ.set i (some u)).set j (some v)).set l (some w)) h := rfl
def callK (g : MF) : List VI → Hi → Res VI := fun vs h1 => g vs h1
theorem z_eCall (g : MF) (ma : MA) : eCall g ma σ h = (ma σ h).bind (callK g) := rfl
theorem z_callK (g : MF) (vs : List VI) : callK g vs h = g vs h := rfl
def cbK (f : OpC) : List VI → Hi → Res VI := fun vs h1 => ofO (f vs h1)
theorem z_eCB (f : OpC) (ma : MA) : eCB f ma σ h = (ma σ h).bind (cbK f) := rfl
theorem z_cbK (f : OpC) (vs : List VI) : cbK f vs h = ofO (f vs h) := rfl
def tupB (xs : List VI) (h : Hi) : Bool → Res VI
  | true => .ok (.tup xs) h
  | false => .err
def tupK : List VI → Hi → Res VI := fun xs h => tupB xs h (small xs.length)
theorem z_eTup (a : MA) : eTup a σ h = (a σ h).bind tupK := by
  unfold eTup
  refine congrArg _ (funext fun xs => funext fun h1 => ?_)
  unfold tupK tupB
  cases small xs.length <;> rfl
theorem z_tupK (xs : List VI) : tupK xs h = tupB xs h (small xs.length) := rfl
theorem z_tupB (xs : List VI) : tupB xs h true = .ok (.tup xs) h := rfl
def lstB (xs : List VI) (h : Hi) : Bool → Res VI
  | true => .ok (.ref h.length) (h ++ [.lst xs])
  | false => .err
def lstK : List VI → Hi → Res VI := fun xs h => lstB xs h (small xs.length)
theorem z_eLst (a : MA) : eLst a σ h = (a σ h).bind lstK := by
  unfold eLst
  refine congrArg _ (funext fun xs => funext fun h1 => ?_)
  unfold lstK lstB
  cases small xs.length <;> rfl
theorem z_lstK (xs : List VI) : lstK xs h = lstB xs h (small xs.length) := rfl
theorem z_lstB (xs : List VI) : lstB xs h true = .ok (.ref h.length) (h ++ [.lst xs]) := rfl
theorem z_small (n : Nat) : small n = decide (n ≤ 100000) := by
  unfold small
  cases q : Nat.ble n 100000 with
  | true => rw [Nat.ble_eq] at q; simp [q]
  | false =>
    have : ¬ n ≤ 100000 := fun z => by rw [← Nat.ble_eq] at z; rw [z] at q; cases q
    simp [this]
def fldV (o : Option VI) (h : Hi) : Bool → Res VI
  | true => match o with
    | some v => .ok v h
    | none => .err
  | false => .err
def fldO (cs : List Nat) (f : S) (h : Hi) : Option OI → Res VI
  | some (.ins c fs) => fldV (getF f fs) h (cs.contains c)
  | _ => .err
def fldK (cs : List Nat) (f : S) : VI → Hi → Res VI := fun x h => match x with
  | .ref n => fldO cs f h h[n]?
  | _ => .err
theorem z_eFld (cs : List Nat) (f : S) (e : ME) : eFld cs f e σ h = (e σ h).bind (fldK cs f) := by
  unfold eFld
  refine congrArg _ (funext fun x => funext fun h1 => ?_)
  cases x with
  | ref n =>
    show _ = fldO cs f h1 h1[n]?
    dsimp only
    cases h1[n]? with
    | none => rfl
    | some o =>
      cases o with
      | ins c fs =>
        show _ = fldV (getF f fs) h1 (cs.contains c)
        dsimp only
        cases cs.contains c <;> cases getF f fs <;> rfl
      | _ => rfl
  | _ => rfl
theorem z_fldK (cs : List Nat) (f : S) (n : Nat) : fldK cs f (.ref n) h = fldO cs f h h[n]? := rfl
theorem z_fldO (cs : List Nat) (f : S) (c : Nat) (fs : List (S × VI)) : fldO cs f h (some (.ins c fs)) = fldV (getF f fs) h (cs.contains c) := rfl
theorem z_fldV (v : VI) : fldV (some v) h true = .ok v h := rfl
def gfB (f : S) (v : VI) (r : List (S × VI)) : Bool → Option VI
  | true => some v
  | false => getF f r
theorem z_getF (f g : S) (v : VI) (r : List (S × VI)) : getF f ((g, v) :: r) = gfB f v r (decide (g = f)) := by
  unfold gfB
  rw [getF]
  all_goals (cases decide (g = f) <;> rfl)
theorem z_getF0 (f : S) : getF f [] = none := rfl
theorem z_gfT (f : S) (v : VI) (r : List (S × VI)) : gfB f v r true = some v := rfl
theorem z_gfF (f : S) (v : VI) (r : List (S × VI)) : gfB f v r false = getF f r := rfl
def sfB (f : S) (v : VI) (g : S) (x : VI) (r : List (S × VI)) : Bool → List (S × VI)
  | true => (g, v) :: r
  | false => (g, x) :: setF f v r
theorem z_setF (f g : S) (v x : VI) (r : List (S × VI)) : setF f v ((g, x) :: r) = sfB f v g x r (decide (g = f)) := by
  unfold sfB
  rw [setF]
  all_goals (cases decide (g = f) <;> rfl)
theorem z_setF0 (f : S) (v : VI) : setF f v [] = [(f, v)] := rfl
theorem z_sfT (f g : S) (v x : VI) (r : List (S × VI)) : sfB f v g x r true = (g, v) :: r := rfl
theorem z_sfF (f g : S) (v x : VI) (r : List (S × VI)) : sfB f v g x r false = (g, x) :: setF f v r := rfl
def stoB (f : S) (y : VI) (σ : Sg) (n c : Nat) (fs : List (S × VI)) (h : Hi) : Bool → RS
  | true => .nx σ (h.set n (.ins c (setF f y fs)))
  | false => .err
def stoO (cs : List Nat) (f : S) (y : VI) (σ : Sg) (n : Nat) (h : Hi) : Option OI → RS
  | some (.ins c fs) => stoB f y σ n c fs h (cs.contains c && Nat.blt fs.length 1000)
  | _ => .err
def stoK (cs : List Nat) (f : S) (y : VI) (σ : Sg) : VI → Hi → RS := fun x h => match x with
  | .ref n => stoO cs f y σ n h h[n]?
  | _ => .err
theorem sto_eq (cs : List Nat) (f : S) (y : VI) (σ : Sg) (x : VI) (h2 : Hi) : (match x with
  | .ref n => match h2[n]? with
    | some (.ins c fs) => match cs.contains c && Nat.blt fs.length 1000 with
      | true => RS.nx σ (h2.set n (.ins c (setF f y fs)))
      | false => .err
    | _ => .err
  | _ => .err) = stoK cs f y σ x h2 := by
  cases x with
  | ref n =>
    show _ = stoO cs f y σ n h2 h2[n]?
    dsimp only
    cases h2[n]? with
    | none => rfl
    | some o =>
      cases o with
      | ins c fs =>
        show _ = stoB f y σ n c fs h2 (cs.contains c && Nat.blt fs.length 1000)
        dsimp only
        cases cs.contains c && Nat.blt fs.length 1000 <;> rfl
      | _ => rfl
  | _ => rfl
theorem z_sFldM (cs : List Nat) (f : S) (o v : ME) : sFldM cs f o v σ h = (v σ h).bindS σ fun y h1 => (o σ h1).bindS σ (stoK cs f y σ) := by
  unfold sFldM
  refine congrArg _ (funext fun y => funext fun h1 => congrArg _ (funext fun x => funext fun h2 => sto_eq cs f y σ x h2))
theorem z_gFld (cs : List Nat) (f : S) (o : ME) (y : VI) : gFld cs f o y σ h = (o σ h).bindS σ (stoK cs f y σ) := by
  unfold gFld
  exact congrArg _ (funext fun x => funext fun h2 => sto_eq cs f y σ x h2)
theorem z_stoK (cs : List Nat) (f : S) (y : VI) (n : Nat) : stoK cs f y σ (.ref n) h = stoO cs f y σ n h h[n]? := rfl
theorem z_stoO (cs : List Nat) (f : S) (y : VI) (n c : Nat) (fs : List (S × VI)) : stoO cs f y σ n h (some (.ins c fs)) = stoB f y σ n c fs h (cs.contains c && Nat.blt fs.length 1000) := rfl
theorem z_stoB (f : S) (y : VI) (n c : Nat) (fs : List (S × VI)) : stoB f y σ n c fs h true = .nx σ (h.set n (.ins c (setF f y fs))) := rfl
theorem z_blt (a b : Nat) : Nat.blt a b = decide (a < b) := by
  cases q : Nat.blt a b with
  | true => rw [Nat.blt_eq] at q; simp [q]
  | false =>
    have : ¬ a < b := fun z => by rw [← Nat.blt_eq] at z; rw [z] at q; cases q
    simp [this]
theorem z_beq (a b : Nat) : Nat.beq a b = decide (a = b) := by
  cases q : Nat.beq a b with
  | true => have := Nat.eq_of_beq_eq_true q; simp [this]
  | false => have := Nat.ne_of_beq_eq_false q; simp [this]
def augB (f : S) (z : VI) (σ : Sg) (n c : Nat) (fs : List (S × VI)) (h : Hi) : Bool → RS
  | true => .nx σ (h.set n (.ins c (setF f z fs)))
  | false => .err
def augO (cs : List Nat) (fn : S) (c : Nat) (n : Nat) (z : VI) (σ : Sg) (h : Hi) : Option OI → RS
  | some (.ins c' fs') => augB fn z σ n c' fs' h (cs.contains c' && (Nat.beq c' c && Nat.blt fs'.length 1000))
  | _ => .err
def augP (cs : List Nat) (fn : S) (c : Nat) (n : Nat) (σ : Sg) : Option (VI × Hi) → RS
  | some (z, h3) => augO cs fn c n z σ h3 h3[n]?
  | none => .err
def augR (cs : List Nat) (fn : S) (f : Op2) (e : ME) (σ : Sg) (n c : Nat) (h1 : Hi) : Bool → Option VI → RS
  | true, some v => (e σ h1).bindS σ fun y h2 => augP cs fn c n σ (f v y h2)
  | _, _ => .err
def augQ (cs : List Nat) (fn : S) (f : Op2) (e : ME) (σ : Sg) (n : Nat) (h1 : Hi) : Option OI → RS
  | some (.ins c fs) => augR cs fn f e σ n c h1 (cs.contains c) (getF fn fs)
  | _ => .err
def augK (cs : List Nat) (fn : S) (f : Op2) (e : ME) (σ : Sg) : VI → Hi → RS := fun x h1 => match x with
  | .ref n => augQ cs fn f e σ n h1 h1[n]?
  | _ => .err
theorem z_sFldAug (cs : List Nat) (fn : S) (f : Op2) (o e : ME) : sFldAug cs fn f o e σ h = (o σ h).bindS σ (augK cs fn f e σ) := by
  unfold sFldAug
  refine congrArg _ (funext fun x => funext fun h1 => ?_)
  cases x with
  | ref n =>
    show _ = augQ cs fn f e σ n h1 h1[n]?
    dsimp only
    cases h1[n]? with
    | none => rfl
    | some o =>
      cases o with
      | ins c fs =>
        show _ = augR cs fn f e σ n c h1 (cs.contains c) (getF fn fs)
        dsimp only
        cases cs.contains c with
        | false => cases getF fn fs <;> rfl
        | true =>
          cases getF fn fs with
          | none => rfl
          | some v =>
            show _ = (e σ h1).bindS σ fun y h2 => augP cs fn c n σ (f v y h2)
            dsimp only
            refine congrArg _ (funext fun y => funext fun h2 => ?_)
            cases f v y h2 with
            | none => rfl
            | some p =>
              obtain ⟨z, h3⟩ := p
              show _ = augO cs fn c n z σ h3 h3[n]?
              dsimp only
              cases h3[n]? with
              | none => rfl
              | some ob =>
                cases ob with
                | ins c' fs' =>
                  show _ = augB fn z σ n c' fs' h3 _
                  dsimp only
                  cases cs.contains c' && (Nat.beq c' c && Nat.blt fs'.length 1000) <;> rfl
                | _ => rfl
      | _ => rfl
  | _ => rfl
theorem z_augK (cs : List Nat) (fn : S) (f : Op2) (e : ME) (n : Nat) : augK cs fn f e σ (.ref n) h = augQ cs fn f e σ n h h[n]? := rfl
theorem z_augQ (cs : List Nat) (fn : S) (f : Op2) (e : ME) (n c : Nat) (fs : List (S × VI)) : augQ cs fn f e σ n h (some (.ins c fs)) = augR cs fn f e σ n c h (cs.contains c) (getF fn fs) := rfl
theorem z_augR (cs : List Nat) (fn : S) (f : Op2) (e : ME) (n c : Nat) (v : VI) : augR cs fn f e σ n c h true (some v) = (e σ h).bindS σ fun y h2 => augP cs fn c n σ (f v y h2) := rfl
theorem z_augP (cs : List Nat) (fn : S) (c n : Nat) (z : VI) : augP cs fn c n σ (some (z, h)) = augO cs fn c n z σ h h[n]? := rfl
theorem z_augO (cs : List Nat) (fn : S) (c c' n : Nat) (z : VI) (fs' : List (S × VI)) : augO cs fn c n z σ h (some (.ins c' fs')) = augB fn z σ n c' fs' h (cs.contains c' && (Nat.beq c' c && Nat.blt fs'.length 1000)) := rfl
theorem z_augB (f : S) (z : VI) (n c : Nat) (fs : List (S × VI)) : augB f z σ n c fs h true = .nx σ (h.set n (.ins c (setF f z fs))) := rfl
def metB (ma : MA) (σ : Sg) (n : Nat) (h : Hi) : Option MF → Option VI → Res VI
  | some g, none => (ma σ h).bind fun vs h2 => g (.ref n :: vs) h2
  | _, _ => .err
def metO (tbl : Nat → Option MF) (m : S) (ma : MA) (σ : Sg) (n : Nat) (h : Hi) : Option OI → Res VI
  | some (.ins c fs) => metB ma σ n h (tbl c) (getF m fs)
  | _ => .err
def metK (tbl : Nat → Option MF) (m : S) (ma : MA) (σ : Sg) : VI → Hi → Res VI := fun x h => match x with
  | .ref n => metO tbl m ma σ n h h[n]?
  | _ => .err
theorem z_eMeth (tbl : Nat → Option MF) (m : S) (o : ME) (ma : MA) : eMeth tbl m o ma σ h = (o σ h).bind (metK tbl m ma σ) := by
  unfold eMeth
  refine congrArg _ (funext fun x => funext fun h1 => ?_)
  cases x with
  | ref n =>
    show _ = metO tbl m ma σ n h1 h1[n]?
    dsimp only
    cases h1[n]? with
    | none => rfl
    | some o =>
      cases o with
      | ins c fs =>
        show _ = metB ma σ n h1 (tbl c) (getF m fs)
        dsimp only
        cases tbl c <;> cases getF m fs <;> rfl
      | _ => rfl
  | _ => rfl
theorem z_metK (tbl : Nat → Option MF) (m : S) (ma : MA) (n : Nat) : metK tbl m ma σ (.ref n) h = metO tbl m ma σ n h h[n]? := rfl
theorem z_metO (tbl : Nat → Option MF) (m : S) (ma : MA) (n c : Nat) (fs : List (S × VI)) : metO tbl m ma σ n h (some (.ins c fs)) = metB ma σ n h (tbl c) (getF m fs) := rfl
theorem z_metB (ma : MA) (n : Nat) (g : MF) : metB ma σ n h (some g) none = (ma σ h).bind fun vs h2 => g (.ref n :: vs) h2 := rfl
def prpB (n : Nat) (h : Hi) : Option MF → Res VI
  | some g => okM (g [.ref n] h)
  | none => .err
def prpO (tbl : Nat → Option MF) (n : Nat) (h : Hi) : Option OI → Res VI
  | some (.ins c _) => prpB n h (tbl c)
  | _ => .err
def prpK (tbl : Nat → Option MF) : VI → Hi → Res VI := fun x h => match x with
  | .ref n => prpO tbl n h h[n]?
  | _ => .err
theorem z_eProp (tbl : Nat → Option MF) (e : ME) : eProp tbl e σ h = (e σ h).bind (prpK tbl) := by
  unfold eProp
  refine congrArg _ (funext fun x => funext fun h1 => ?_)
  cases x with
  | ref n =>
    show _ = prpO tbl n h1 h1[n]?
    dsimp only
    cases h1[n]? with
    | none => rfl
    | some o =>
      cases o with
      | ins c fs =>
        show _ = prpB n h1 (tbl c)
        dsimp only
        cases tbl c <;> rfl
      | _ => rfl
  | _ => rfl
theorem z_prpK (tbl : Nat → Option MF) (n : Nat) : prpK tbl (.ref n) h = prpO tbl n h h[n]? := rfl
theorem z_prpO (tbl : Nat → Option MF) (n c : Nat) (fs : List (S × VI)) : prpO tbl n h (some (.ins c fs)) = prpB n h (tbl c) := rfl
theorem z_prpB (n : Nat) (g : MF) : prpB n h (some g) = okM (g [.ref n] h) := rfl
theorem z_okM (v : VI) : okM (.ok v h) = .ok v h := rfl
def conB (h : Hi) : Option VI → Option VI → Res VI
  | some v, none => .ok v h
  | _, _ => .err
def conO (tbl : Nat → Option VI) (f : S) (h : Hi) : Option OI → Res VI
  | some (.ins c fs) => conB h (tbl c) (getF f fs)
  | _ => .err
def conK (tbl : Nat → Option VI) (f : S) : VI → Hi → Res VI := fun x h => match x with
  | .ref n => conO tbl f h h[n]?
  | _ => .err
theorem z_eCon (tbl : Nat → Option VI) (f : S) (e : ME) : eCon tbl f e σ h = (e σ h).bind (conK tbl f) := by
  unfold eCon
  refine congrArg _ (funext fun x => funext fun h1 => ?_)
  cases x with
  | ref n =>
    show _ = conO tbl f h1 h1[n]?
    dsimp only
    cases h1[n]? with
    | none => rfl
    | some o =>
      cases o with
      | ins c fs =>
        show _ = conB h1 (tbl c) (getF f fs)
        dsimp only
        cases tbl c <;> cases getF f fs <;> rfl
      | _ => rfl
  | _ => rfl
theorem z_conK (tbl : Nat → Option VI) (f : S) (n : Nat) : conK tbl f (.ref n) h = conO tbl f h h[n]? := rfl
theorem z_conO (tbl : Nat → Option VI) (f : S) (c : Nat) (fs : List (S × VI)) : conO tbl f h (some (.ins c fs)) = conB h (tbl c) (getF f fs) := rfl
theorem z_conB (v : VI) : conB h (some v) none = .ok v h := rfl
def ltB {γ : Type} (x : γ) (r : List (Nat × γ)) (c : Nat) : Bool → Option γ
  | true => some x
  | false => lkT r c
theorem z_lkT {γ : Type} (d c : Nat) (x : γ) (r : List (Nat × γ)) : lkT ((d, x) :: r) c = ltB x r c (decide (d = c)) := by
  rw [← z_beq]
  unfold ltB
  rw [lkT]
  all_goals (cases Nat.beq d c <;> rfl)
theorem z_lkT0 {γ : Type} (c : Nat) : lkT ([] : List (Nat × γ)) c = none := rfl
theorem z_ltT {γ : Type} (x : γ) (r : List (Nat × γ)) (c : Nat) : ltB x r c true = some x := rfl
theorem z_ltF {γ : Type} (x : γ) (r : List (Nat × γ)) (c : Nat) : ltB x r c false = lkT r c := rfl
def lsB {γ : Type} (x : γ) (r : List (S × γ)) (c : S) : Bool → Option γ
  | true => some x
  | false => lkS r c
theorem z_lkS {γ : Type} (d c : S) (x : γ) (r : List (S × γ)) : lkS ((d, x) :: r) c = lsB x r c (decide (d = c)) := by
  unfold lsB
  rw [lkS]
  all_goals (cases decide (d = c) <;> rfl)
theorem z_lkS0 {γ : Type} (c : S) : lkS ([] : List (S × γ)) c = none := rfl
theorem z_lsT {γ : Type} (x : γ) (r : List (S × γ)) (c : S) : lsB x r c true = some x := rfl
theorem z_lsF {γ : Type} (x : γ) (r : List (S × γ)) (c : S) : lsB x r c false = lkS r c := rfl
def kdB2 (h : Hi) : Option VI → Res VI
  | some w => .ok w h
  | none => .err
def kdK (tbl : S → Option VI) : VI → Hi → Res VI := fun v h => match v with
  | .str s => kdB2 h (tbl s)
  | _ => .err
theorem z_eKd (tbl : S → Option VI) (b : ME) : eKd tbl b σ h = (b σ h).bind (kdK tbl) := by
  unfold eKd
  refine congrArg _ (funext fun v => funext fun h1 => ?_)
  cases v with
  | str s =>
    show _ = kdB2 h1 (tbl s)
    dsimp only
    cases tbl s <;> rfl
  | _ => rfl
theorem z_kdK (tbl : S → Option VI) (s : S) : kdK tbl (.str s) h = kdB2 h (tbl s) := rfl
theorem z_kdB (w : VI) : kdB2 h (some w) = .ok w h := rfl
def okO (h : Hi) : Option VI → Res VI
  | some v => .ok v h
  | none => .err
def ixDB (o : Option VI) (h : Hi) : Bool → Res VI
  | true => okO h o
  | false => .err
def ixV (n : Nat) (y : VI) (h : Hi) : Option MF → Res VI
  | some g => g [.ref n, y] h
  | none => .err
def ixO (tbl : Nat → Option MF) (n : Nat) (y : VI) (h : Hi) : Option OI → Res VI
  | some (.ins c _) => ixV n y h (tbl c)
  | some (.lst xs) => match y with
    | .int i => okO h (ixL xs i)
    | _ => .err
  | some (.scr xs) => match y with
    | .int i => okO h (ixL xs i)
    | _ => .err
  | some (.dic kvs) => ixDB (getD y kvs) h (isKey y)
  | _ => .err
def ixK (tbl : Nat → Option MF) (x : VI) : VI → Hi → Res VI := fun y h => match x with
  | .tup xs => match y with
    | .int i => okO h (ixL xs i)
    | _ => .err
  | .ref n => ixO tbl n y h h[n]?
  | _ => .err
theorem z_eIxU (tbl : Nat → Option MF) (a b : ME) : eIxU tbl a b σ h = (a σ h).bind fun x h1 => (b σ h1).bind (ixK tbl x) := by
  unfold eIxU
  refine congrArg _ (funext fun x => funext fun h1 => congrArg _ (funext fun y => funext fun h2 => ?_))
  cases x with
  | tup xs =>
    show ofO (fIx (.tup xs) y h2) = _
    unfold fIx ixK
    cases y with
    | int i => dsimp only; cases ixL xs i <;> rfl
    | _ => rfl
  | ref n =>
    show (match insC (.ref n) h2 with | some c => _ | none => _) = ixO tbl n y h2 h2[n]?
    unfold insC fIx
    dsimp only
    cases h2[n]? with
    | none => rfl
    | some o =>
      cases o with
      | ins c fs => show _ = ixV n y h2 (tbl c); dsimp only; cases tbl c <;> rfl
      | lst xs => cases y with
        | int i => show _ = okO h2 (ixL xs i); dsimp only; cases ixL xs i <;> rfl
        | _ => rfl
      | scr xs => cases y with
        | int i => show _ = okO h2 (ixL xs i); dsimp only; cases ixL xs i <;> rfl
        | _ => rfl
      | dic kvs =>
        show _ = ixDB (getD y kvs) h2 (isKey y)
        dsimp only
        cases isKey y <;> cases getD y kvs <;> rfl
      | xd fs => rfl
      | dnk kvs => rfl
  | _ => rfl
theorem z_ixT (tbl : Nat → Option MF) (xs : List VI) (i : Int) : ixK tbl (.tup xs) (.int i) h = okO h (ixL xs i) := rfl
theorem z_ixR (tbl : Nat → Option MF) (n : Nat) (y : VI) : ixK tbl (.ref n) y h = ixO tbl n y h h[n]? := rfl
theorem z_ixI (tbl : Nat → Option MF) (n c : Nat) (y : VI) (fs : List (S × VI)) : ixO tbl n y h (some (.ins c fs)) = ixV n y h (tbl c) := rfl
theorem z_ixL (tbl : Nat → Option MF) (n : Nat) (i : Int) (xs : List VI) : ixO tbl n (.int i) h (some (.lst xs)) = okO h (ixL xs i) := rfl
theorem z_ixS (tbl : Nat → Option MF) (n : Nat) (i : Int) (xs : List VI) : ixO tbl n (.int i) h (some (.scr xs)) = okO h (ixL xs i) := rfl
theorem z_ixD (tbl : Nat → Option MF) (n : Nat) (y : VI) (kvs : List (VI × VI)) : ixO tbl n y h (some (.dic kvs)) = ixDB (getD y kvs) h (isKey y) := rfl
theorem z_ixDB (o : Option VI) : ixDB o h true = okO h o := rfl
theorem z_ixV (n : Nat) (y : VI) (g : MF) : ixV n y h (some g) = g [.ref n, y] h := rfl
theorem z_okO (v : VI) : okO h (some v) = .ok v h := rfl
theorem z_keyS (s : S) : isKey (.str s) = true := rfl
theorem z_keyI (s : Int) : isKey (.int s) = true := rfl
def gdB (k v : VI) (r : List (VI × VI)) : Bool → Option VI
  | true => some v
  | false => getD k r
theorem z_getD (k a v : VI) (r : List (VI × VI)) : getD k ((a, v) :: r) = gdB k v r (keyEq a k) := by
  unfold gdB
  rw [getD]
  all_goals (cases keyEq a k <;> rfl)
theorem z_getD0 (k : VI) : getD k [] = none := rfl
theorem z_gdT (k v : VI) (r : List (VI × VI)) : gdB k v r true = some v := rfl
theorem z_gdF (k v : VI) (r : List (VI × VI)) : gdB k v r false = getD k r := rfl
theorem z_keS (a b : S) : keyEq (.str a) (.str b) = decide (a = b) := rfl
theorem z_keI (a b : Int) : keyEq (.int a) (.int b) = decide (a = b) := rfl
theorem z_ixL0 (x : VI) (xs : List VI) : ixL (x :: xs) 0 = some x := by simp [ixL, ixI]
def pixL (n : Nat) (xs : List VI) (v : VI) (σ : Sg) (h : Hi) : Option Nat → RS
  | some j => .nx σ (h.set n (.lst (xs.set j v)))
  | none => .err
def pixD (n : Nat) (y v : VI) (kvs : List (VI × VI)) (σ : Sg) (h : Hi) : Bool → RS
  | true => .nx σ (h.set n (.dic (putD y v kvs)))
  | false => .err
def pixV (n : Nat) (y v : VI) (σ : Sg) (h : Hi) : Option MF → RS
  | some g => dropV σ (g [.ref n, y, v] h)
  | none => .err
def pixO (tbl : Nat → Option MF) (n : Nat) (y v : VI) (σ : Sg) (h : Hi) : Option OI → RS
  | some (.ins c _) => pixV n y v σ h (tbl c)
  | some (.lst xs) => match y with
    | .int k => pixL n xs v σ h (ixI xs.length k)
    | _ => .err
  | some (.dic kvs) => pixD n y v kvs σ h (isKey y && small (kvs.length + 1))
  | _ => .err
def pixK (tbl : Nat → Option MF) (v : VI) (σ : Sg) (x : VI) : VI → Hi → RS := fun y h => match x with
  | .ref n => pixO tbl n y v σ h h[n]?
  | _ => .err
theorem z_gIxU (tbl : Nat → Option MF) (o i : ME) (v : VI) : gIxU tbl o i v σ h = (o σ h).bindS σ fun x h1 => (i σ h1).bindS σ (pixK tbl v σ x) := by
  unfold gIxU
  refine congrArg _ (funext fun x => funext fun h1 => congrArg _ (funext fun y => funext fun h2 => ?_))
  cases x with
  | ref n =>
    show (match insC (.ref n) h2 with | some c => _ | none => _) = pixO tbl n y v σ h2 h2[n]?
    unfold insC putIx
    dsimp only
    cases h2[n]? with
    | none => rfl
    | some o =>
      cases o with
      | ins c fs => show _ = pixV n y v σ h2 (tbl c); dsimp only; cases tbl c <;> rfl
      | lst xs => cases y with
        | int i => show _ = pixL n xs v σ h2 (ixI xs.length i); dsimp only; cases ixI xs.length i <;> rfl
        | _ => rfl
      | scr xs => rfl
      | dic kvs =>
        show _ = pixD n y v kvs σ h2 (isKey y && small (kvs.length + 1))
        dsimp only
        cases isKey y && small (kvs.length + 1) <;> rfl
      | xd fs => rfl
      | dnk kvs => rfl
  | _ => rfl
theorem z_pixR (tbl : Nat → Option MF) (n : Nat) (y v : VI) : pixK tbl v σ (.ref n) y h = pixO tbl n y v σ h h[n]? := rfl
theorem z_pixI (tbl : Nat → Option MF) (n c : Nat) (y v : VI) (fs : List (S × VI)) : pixO tbl n y v σ h (some (.ins c fs)) = pixV n y v σ h (tbl c) := rfl
theorem z_pixLo (tbl : Nat → Option MF) (n : Nat) (k : Int) (v : VI) (xs : List VI) : pixO tbl n (.int k) v σ h (some (.lst xs)) = pixL n xs v σ h (ixI xs.length k) := rfl
theorem z_pixDo (tbl : Nat → Option MF) (n : Nat) (y v : VI) (kvs : List (VI × VI)) : pixO tbl n y v σ h (some (.dic kvs)) = pixD n y v kvs σ h (isKey y && small (kvs.length + 1)) := rfl
theorem z_pixL (n j : Nat) (xs : List VI) (v : VI) : pixL n xs v σ h (some j) = .nx σ (h.set n (.lst (xs.set j v))) := rfl
theorem z_pixD (n : Nat) (y v : VI) (kvs : List (VI × VI)) : pixD n y v kvs σ h true = .nx σ (h.set n (.dic (putD y v kvs))) := rfl
theorem z_pixV (n : Nat) (y v : VI) (g : MF) : pixV n y v σ h (some g) = dropV σ (g [.ref n, y, v] h) := rfl
theorem z_dropV (v : VI) : dropV σ (.ok v h) = .nx σ h := rfl
def cmpB (x y : VI) (h : Hi) : Option MF → Bool → Res VI
  | some g, true => boolR (g [x, y] h)
  | _, _ => .err
def cmpC (cs : List Nat) (tbl : Nat → Option MF) (f : Op2) (x y : VI) (h : Hi) : Option Nat → Res VI
  | some c => cmpB x y h (tbl c) (nfI cs (tyI y h))
  | none => ofO (f x y h)
def cmpK (cs : List Nat) (tbl : Nat → Option MF) (f : Op2) (x : VI) : VI → Hi → Res VI := fun y h => cmpC cs tbl f x y h (insC x h)
theorem z_eCmpU (cs : List Nat) (tbl : Nat → Option MF) (f : Op2) (a b : ME) : eCmpU cs tbl f a b σ h = (a σ h).bind fun x h1 => (b σ h1).bind (cmpK cs tbl f x) := by
  unfold eCmpU
  refine congrArg _ (funext fun x => funext fun h1 => congrArg _ (funext fun y => funext fun h2 => ?_))
  unfold cmpK cmpC
  cases insC x h2 with
  | none => rfl
  | some c => dsimp only; unfold cmpB; cases tbl c <;> cases nfI cs (tyI y h2) <;> rfl
theorem z_cmpK (cs : List Nat) (tbl : Nat → Option MF) (f : Op2) (x y : VI) : cmpK cs tbl f x y h = cmpC cs tbl f x y h (insC x h) := rfl
theorem z_cmpN (cs : List Nat) (tbl : Nat → Option MF) (f : Op2) (x y : VI) : cmpC cs tbl f x y h none = ofO (f x y h) := rfl
theorem z_cmpS (cs : List Nat) (tbl : Nat → Option MF) (f : Op2) (x y : VI) (c : Nat) : cmpC cs tbl f x y h (some c) = cmpB x y h (tbl c) (nfI cs (tyI y h)) := rfl
theorem z_cmpB (x y : VI) (g : MF) : cmpB x y h (some g) true = boolR (g [x, y] h) := rfl
theorem z_boolR (b : Bool) : boolR (.ok (.bl b) h) = .ok (.bl b) h := rfl
def neuC (cs : List Nat) (tbl : Nat → Option MF) (f : Op2) (x y : VI) (h : Hi) : Option Nat → Res VI
  | some c => match tbl c, nfI cs (tyI y h) with
    | some g, true => negR (g [x, y] h)
    | _, _ => .err
  | none => ofO (f x y h)
def neuK (cs : List Nat) (tbl : Nat → Option MF) (f : Op2) (x : VI) : VI → Hi → Res VI := fun y h => neuC cs tbl f x y h (insC x h)
theorem z_eNeU (cs : List Nat) (tbl : Nat → Option MF) (f : Op2) (a b : ME) : eNeU cs tbl f a b σ h = (a σ h).bind fun x h1 => (b σ h1).bind (neuK cs tbl f x) := by
  unfold eNeU
  refine congrArg _ (funext fun x => funext fun h1 => congrArg _ (funext fun y => funext fun h2 => ?_))
  unfold neuK neuC
  cases insC x h2 <;> rfl
theorem z_neuK (cs : List Nat) (tbl : Nat → Option MF) (f : Op2) (x y : VI) : neuK cs tbl f x y h = neuC cs tbl f x y h (insC x h) := rfl
theorem z_neuN (cs : List Nat) (tbl : Nat → Option MF) (f : Op2) (x y : VI) : neuC cs tbl f x y h none = ofO (f x y h) := rfl
def isiB (h : Hi) : Option Bool → Res VI
  | some b => .ok (.bl b) h
  | none => .err
def isiK (T : IsT) : VI → Hi → Res VI := fun v h => isiB h (isT T v h)
theorem z_eIsi (T : IsT) (e : ME) : eIsi T e σ h = (e σ h).bind (isiK T) := by
  unfold eIsi
  refine congrArg _ (funext fun v => funext fun h1 => ?_)
  unfold isiK isiB
  cases isT T v h1 <;> rfl
theorem z_isiK (T : IsT) (v : VI) : isiK T v h = isiB h (isT T v h) := rfl
theorem z_isiB (b : Bool) : isiB h (some b) = .ok (.bl b) h := rfl
def isO (T : IsT) : Option OI → Option Bool
  | some (.lst _) => T.lst
  | some (.scr _) => T.lst
  | some (.dic _) => T.dic
  | some (.ins c _) => T.ins c
  | _ => none
theorem z_isR (T : IsT) (n : Nat) : isT T (.ref n) h = isO T h[n]? := by
  unfold isT isO
  dsimp only
  all_goals
    cases h[n]? with
    | none => rfl
    | some o => cases o <;> rfl
theorem z_isN (T : IsT) : isT T .non h = T.non := rfl
theorem z_isB (T : IsT) (b : Bool) : isT T (.bl b) h = T.bl := rfl
theorem z_isI (T : IsT) (b : Int) : isT T (.int b) h = T.int := rfl
theorem z_isS (T : IsT) (b : S) : isT T (.str b) h = T.str := rfl
theorem z_isT (T : IsT) (b : List VI) : isT T (.tup b) h = T.tup := rfl
theorem z_isOl (T : IsT) (b : List VI) : isO T (some (.lst b)) = T.lst := rfl
theorem z_isOd (T : IsT) (b : List (VI × VI)) : isO T (some (.dic b)) = T.dic := rfl
theorem z_isOi (T : IsT) (c : Nat) (b : List (S × VI)) : isO T (some (.ins c b)) = T.ins c := rfl
def insO : Option OI → Option Nat
  | some (.ins c _) => some c
  | _ => none
theorem z_insR (n : Nat) : insC (.ref n) h = insO h[n]? := by
  unfold insC insO
  dsimp only
  all_goals
    cases h[n]? with
    | none => rfl
    | some o => cases o <;> rfl
theorem z_insOi (c : Nat) (b : List (S × VI)) : insO (some (.ins c b)) = some c := rfl
theorem z_insOl (b : List VI) : insO (some (.lst b)) = none := rfl
theorem z_insOs (b : List VI) : insO (some (.scr b)) = none := rfl
theorem z_insOd (b : List (VI × VI)) : insO (some (.dic b)) = none := rfl
theorem z_insI (i : Int) : insC (.int i) h = none := rfl
theorem z_insS (i : S) : insC (.str i) h = none := rfl
theorem z_insN : insC .non h = none := rfl
theorem z_insT (xs : List VI) : insC (.tup xs) h = none := rfl
theorem z_insB (b : Bool) : insC (.bl b) h = none := rfl
def lenC (tbl : Nat → Option MF) (x : VI) (h : Hi) : Option Nat → Res VI
  | some c => match tbl c with
    | some g => lenR (g [x] h)
    | none => .err
  | none => ofO (cLen [x] h)
def lenK (tbl : Nat → Option MF) : VI → Hi → Res VI := fun x h => lenC tbl x h (insC x h)
theorem z_eLenU (tbl : Nat → Option MF) (a : ME) : eLenU tbl a σ h = (a σ h).bind (lenK tbl) := by
  unfold eLenU
  refine congrArg _ (funext fun x => funext fun h1 => ?_)
  unfold lenK lenC
  cases insC x h1 <;> rfl
theorem z_lenK (tbl : Nat → Option MF) (x : VI) : lenK tbl x h = lenC tbl x h (insC x h) := rfl
theorem z_lenN (tbl : Nat → Option MF) (x : VI) : lenC tbl x h none = ofO (cLen [x] h) := rfl
theorem z_cLenT (xs : List VI) : cLen [.tup xs] h = some (.int xs.length, h) := rfl
def clO (h : Hi) : Option OI → Option (VI × Hi)
  | some (.lst xs) => some (.int xs.length, h)
  | some (.scr xs) => some (.int xs.length, h)
  | some (.dic kvs) => some (.int kvs.length, h)
  | _ => none
theorem z_cLenR (n : Nat) : cLen [.ref n] h = clO h h[n]? := by
  unfold cLen clO
  dsimp only
  all_goals
    cases h[n]? with
    | none => rfl
    | some o => cases o <;> rfl
theorem z_clL (xs : List VI) : clO h (some (.lst xs)) = some (.int xs.length, h) := rfl
theorem z_clS (xs : List VI) : clO h (some (.scr xs)) = some (.int xs.length, h) := rfl
theorem z_clD (xs : List (VI × VI)) : clO h (some (.dic xs)) = some (.int xs.length, h) := rfl
theorem z_cListT (xs : List VI) : cList [.tup xs] h = some (.ref h.length, h ++ [.lst xs]) := rfl
def cliO (h : Hi) : Option OI → Option (VI × Hi)
  | some (.lst xs) => some (.ref h.length, h ++ [.lst xs])
  | some (.scr xs) => some (.ref h.length, h ++ [.lst xs])
  | some (.dic kvs) => some (.ref h.length, h ++ [.lst (kvs.map (·.1))])
  | _ => none
theorem z_cListR (n : Nat) : cList [.ref n] h = cliO h h[n]? := by
  unfold cList cliO
  dsimp only
  all_goals
    cases h[n]? with
    | none => rfl
    | some o => cases o <;> rfl
theorem z_cliL (xs : List VI) : cliO h (some (.lst xs)) = some (.ref h.length, h ++ [.lst xs]) := rfl
theorem z_cTupT (xs : List VI) : cTuple [.tup xs] h = some (.tup xs, h) := rfl
def ctuO (h : Hi) : Option OI → Option (VI × Hi)
  | some (.lst xs) => some (.tup xs, h)
  | some (.scr xs) => some (.tup xs, h)
  | _ => none
theorem z_cTupR (n : Nat) : cTuple [.ref n] h = ctuO h h[n]? := by
  unfold cTuple ctuO
  dsimp only
  all_goals
    cases h[n]? with
    | none => rfl
    | some o => cases o <;> rfl
theorem z_ctuL (xs : List VI) : ctuO h (some (.lst xs)) = some (.tup xs, h) := rfl
def slC (x : VI) (l : Option Int) : Option Int → Hi → Res VI := fun u h => ofO (sliceM x l u h)
theorem z_eSl (e : ME) (lo hi : MO) : eSl e lo hi σ h = (e σ h).bind fun x h1 => (lo σ h1).bind fun l h2 => (hi σ h2).bind (slC x l) := rfl
theorem z_slC (x : VI) (l u : Option Int) : slC x l u h = ofO (sliceM x l u h) := rfl
theorem z_slT (xs : List VI) (l u : Option Int) : sliceM (.tup xs) l u h = some (.tup (cutI xs l u), h) := rfl
theorem z_oNo : oNo σ h = .ok none h := rfl
def osK : VI → Hi → Res (Option Int) := fun v h1 => match v with
  | .int i => .ok (some i) h1
  | _ => .err
theorem z_oSome (e : ME) : oSome e σ h = (e σ h).bind osK := rfl
theorem z_osK (i : Int) : osK (.int i) h = .ok (some i) h := rfl
def mkE (n : Nat) : Res VI → Res VI
  | .ok .non h2 => .ok (.ref n) h2
  | .ex c m h2 => .ex c m h2
  | _ => .err
theorem z_mkM (c : Nat) (g : MF) (vs : List VI) : mkM c g vs h = mkE h.length (g (.ref h.length :: vs) (h ++ [.ins c []])) := by
  unfold mkM mkE
  cases g (.ref h.length :: vs) (h ++ [.ins c []]) with
  | ok v h2 => cases v <;> rfl
  | _ => rfl
theorem z_mkE (n : Nat) : mkE n (.ok .non h) = .ok (.ref n) h := rfl
theorem z_mkK (c : Nat) (g : MF) (arr : List VI → List VI → List VI) (vs zs : List VI) : mkK c g arr vs zs h = mkE h.length (g (arr (.ref h.length :: vs) zs) (h ++ [.ins c []])) := by
  unfold mkK mkE
  cases g (arr (.ref h.length :: vs) zs) (h ++ [.ins c []]) with
  | ok v h2 => cases v <;> rfl
  | _ => rfl
theorem z_run0 (n : Nat) (b : MS) : runB 0 n b [] h = endB (b (List.replicate n none) h) := rfl
theorem z_run1 (n : Nat) (b : MS) (a0 : VI) : runB 1 n b [a0] h = endB (b (some a0 :: List.replicate n none) h) := rfl
theorem z_run2 (n : Nat) (b : MS) (a0 a1 : VI) : runB 2 n b [a0, a1] h = endB (b (some a0 :: some a1 :: List.replicate n none) h) := rfl
theorem z_run3 (n : Nat) (b : MS) (a0 a1 a2 : VI) : runB 3 n b [a0, a1, a2] h = endB (b (some a0 :: some a1 :: some a2 :: List.replicate n none) h) := rfl
theorem z_run4 (n : Nat) (b : MS) (a0 a1 a2 a3 : VI) : runB 4 n b [a0, a1, a2, a3] h = endB (b (some a0 :: some a1 :: some a2 :: some a3 :: List.replicate n none) h) := rfl
theorem z_run5 (n : Nat) (b : MS) (a0 a1 a2 a3 a4 : VI) : runB 5 n b [a0, a1, a2, a3, a4] h = endB (b (some a0 :: some a1 :: some a2 :: some a3 :: some a4 :: List.replicate n none) h) := rfl
theorem z_run6 (n : Nat) (b : MS) (a0 a1 a2 a3 a4 a5 : VI) : runB 6 n b [a0, a1, a2, a3, a4, a5] h = endB (b (some a0 :: some a1 :: some a2 :: some a3 :: some a4 :: some a5 :: List.replicate n none) h) := rfl
theorem z_rep0 : (List.replicate 0 none : Sg) = [] := rfl
theorem z_rep (n : Nat) : (List.replicate (n + 1) none : Sg) = none :: List.replicate n none := rfl
end
end ML
end
section
namespace GQ
open PySem
open Sem (wp)
def bad : GenState → GenState
  | .suspended _ l c p fs cl => .suspended (fun _ => .unsupported "") l c p fs cl
  | x => x
def isSus : GenState → Bool
  | .suspended .. => true
  | _ => false
theorem seen_bad (x : GenState) : (bad x).seen = x.seen := by cases x <;> rfl
theorem bare_bad (x : GenState) : (bad x).bare = x.bare := by cases x <;> rfl
def Cln (x : GenState) : Prop := match x with
  | .suspended _ _ _ _ fs _ => splitAtGen fs = none
  | _ => True
def PR (x y : GenState) : Prop := (x = y ∧ Cln x) ∨ (isSus y = true ∧ x = bad y)
theorem PR.seen {x y : GenState} (h : PR x y) : x.seen = y.seen := by
  rcases h with ⟨rfl, _⟩ | ⟨_, rfl⟩
  · rfl
  · exact seen_bad y
theorem PR.bare {x y : GenState} (h : PR x y) : x.bare = y.bare := by
  rcases h with ⟨rfl, _⟩ | ⟨_, rfl⟩
  · rfl
  · exact bare_bad y
structure GR (g : Nat) (st : GenState) (a b : Array GenState) : Prop where
  size : a.size = b.size
  at_ : ∀ (i : Nat) (x : GenState), a[i]? = some x → ∃ y, b[i]? = some y ∧ PR x y
  l : a[g]? = some (bad st)
  r : b[g]? = some st
variable {g : Nat} {st : GenState} {a b : Array GenState}
theorem GR.push (h : GR g st a b) (c : Code) : GR g st (a.push (.fresh c)) (b.push (.fresh c)) where
  size := by rw [Array.size_push, Array.size_push, h.size]
  at_ := fun i x e => by
    rw [Array.getElem?_push] at e
    by_cases hi : i = a.size
    · rw [if_pos hi] at e
      cases e
      exact ⟨_, by rw [Array.getElem?_push, if_pos (by rw [hi, h.size])], .inl ⟨rfl, trivial⟩⟩
    · rw [if_neg hi] at e
      obtain ⟨y, e2, r⟩ := h.at_ i x e
      exact ⟨y, by rw [Array.getElem?_push, if_neg (by rw [← h.size]; exact hi)]; exact e2, r⟩
  l := by
    have := h.l
    rw [Array.getElem?_push, if_neg]
    · exact this
    · intro z
      obtain ⟨hh, _⟩ := Array.getElem?_eq_some_iff.mp this
      omega
  r := by
    have := h.r
    rw [Array.getElem?_push, if_neg]
    · exact this
    · intro z
      obtain ⟨hh, _⟩ := Array.getElem?_eq_some_iff.mp this
      omega
theorem GR.set (h : GR g st a b) {i : Nat} {x : GenState} (hi : i ≠ g) (hx : Cln x) : GR g st (a.setIfInBounds i x) (b.setIfInBounds i x) where
  size := by rw [Array.size_setIfInBounds, Array.size_setIfInBounds, h.size]
  at_ := fun j y e => by
    rw [Array.getElem?_setIfInBounds] at e
    by_cases hj : i = j
    · rw [if_pos hj] at e
      by_cases hs : i < a.size
      · rw [if_pos hs] at e
        cases e
        exact ⟨x, by rw [Array.getElem?_setIfInBounds, if_pos hj, if_pos (by rw [← h.size]; exact hs)], .inl ⟨rfl, hx⟩⟩
      · rw [if_neg hs] at e; cases e
    · rw [if_neg hj] at e
      obtain ⟨z, e2, r⟩ := h.at_ j y e
      exact ⟨z, by rw [Array.getElem?_setIfInBounds, if_neg hj]; exact e2, r⟩
  l := by rw [Array.getElem?_setIfInBounds, if_neg hi]; exact h.l
  r := by rw [Array.getElem?_setIfInBounds, if_neg hi]; exact h.r
theorem GR.plain (h : GR g st a b) (hs : isSus st = true) {i : Nat} {x : GenState} (e : a[i]? = some x) (hx : isSus x = false) : b[i]? = some x ∧ i ≠ g := by
  obtain ⟨y, e2, r⟩ := h.at_ i x e
  refine ⟨?_, fun z => ?_⟩
  · rcases r with ⟨rfl, _⟩ | ⟨hy, rfl⟩
    · exact e2
    · cases y <;> first | (cases hy; done) | cases hx
  · subst z
    rw [h.l] at e
    cases e
    cases st <;> first | (cases hs; done) | cases hx
end GQ
end
section
namespace GQ
open PySem PySem.Spec PyProof.Rows L2 GenW
def cut (h : Heap) (n : Nat) : Heap := { h with objs := h.objs.extract 0 n }
theorem cut_size (h : Heap) (n : Nat) : (cut h n).objs.size = min n h.objs.size := by
  unfold cut
  simp
theorem cut_get {h : Heap} {n b : Nat} (hb : b < n) : (cut h n).get? b = h.get? b := by
  unfold cut Heap.get?
  dsimp only
  rw [show (h.objs.extract 0 n)[b]? = h.objs[b]? from by
    rw [Array.getElem?_extract]
    simp
    omega]
theorem cut_none {h : Heap} {n b : Nat} (hb : n ≤ b) : (cut h n).get? b = none := Heap.get?_none_of_le (by rw [cut_size]; omega)
theorem cut_some {h : Heap} {n b : Nat} {o : Obj} (e : (cut h n).get? b = some o) : b < n ∧ h.get? b = some o := by
  by_cases hb : b < n
  · exact ⟨hb, by rw [← cut_get hb]; exact e⟩
  · rw [cut_none (Nat.le_of_not_lt hb)] at e
    cases e
section
variable {X : Cx} {pins ip : List (Addr × Obj)} {σ : L2.St} {H H' : Hp} {s s' : Shared}
structure Old (X : Cx) (pins : List (Addr × Obj)) (n : Nat) : Prop where
  s0 : X.s_0.heap.objs.size ≤ n
  loc : X.env.locals < n
  cel : ∀ x c, X.env.cells.lookup x = some c → c < n
  pin : ∀ p ∈ X.pn ++ pins, p.1 < n
theorem Old.mono {n m : Nat} (o : Old X pins n) (h : n ≤ m) : Old X pins m := ⟨Nat.le_trans o.s0 h, Nat.lt_of_lt_of_le o.loc h, fun x c e => Nat.lt_of_lt_of_le (o.cel x c e) h, fun p hp => Nat.lt_of_lt_of_le (o.pin p hp) h⟩
def rbX (X : Cx) (s : Shared) (H : Hp) (n : Nat) (pn : List (Addr × Obj)) (xe : Value → Shared → Prop) : Cx := { X with s_0 := { s with heap := cut s.heap n }, H_0 := H, pn := pn, xe := xe }
def PinOk (X : Cx) (H : Hp) (s : Shared) (p : Addr × Obj) : Prop := s.heap.get? p.1 = some p.2 ∧ H p.1 = none ∧ p.1 ≠ X.env.locals ∧ p.1 ∉ X.fs ∧ ∀ v, p.2.data ≠ .cell v
structure Woke (X : Cx) (own pins : List (Addr × Obj)) (H' : Hp) (s s' : Shared) : Prop where
  os : s'.os = s.os
  bare : AllBare s'.gens
  hok : HOk X.prog X.w H' s'.heap
  bs : ∀ b o, X.base.get? b = some o → s'.heap.get? b = some o ∧ H' b = none
  funs : s'.heap.FunFrames X.base X.outer
  frf : ∀ b ∈ X.fs, H' b = none
  loc : ∀ o, s.heap.get? X.env.locals = some o → s'.heap.get? X.env.locals = some o
  free : H' X.env.locals = none
  pin : ∀ p ∈ own ++ pins, s'.heap.get? p.1 = some p.2 ∧ H' p.1 = none
theorem Woke.refl (I : Inv X pins σ H s) : Woke X X.pn pins H s s :=
  ⟨rfl, I.bare, I.hok, I.bs, I.funs, fun b hb => by
    have hx : b ∉ X.ex := fun z => I.ok.exfs b z hb
    obtain ⟨_, o, ho, _⟩ := I.ok.funs.mem hb
    exact I.base.free b o ho (I.ok.frf b hb) hx, fun _ e => e, I.free, fun p hp => ⟨(I.pin p hp).1, (I.pin p hp).2.1⟩⟩
theorem funs_cut {h base : Heap} {n : Nat} : ∀ {l : List Env}, h.FunFrames base l → (∀ b ∈ frs l, b < n) → (cut h n).FunFrames base l
  | [], _, _ => trivial
  | env :: r, ⟨hk, ⟨L, o, hf, hn, ho, hd⟩, hr⟩, hl =>
    have hL : L < n := hl L (by unfold frs; rw [List.filterMap_cons, hf]; exact List.mem_cons_self)
    ⟨hk, ⟨L, o, hf, hn, by rw [cut_get hL]; exact ho, hd⟩, funs_cut hr fun b hb => hl b (by unfold frs; rw [List.filterMap_cons, hf]; exact List.mem_cons_of_mem _ hb)⟩
theorem Woke.inv {own pn : List (Addr × Obj)} {xe : Value → Shared → Prop} (I : Inv X pins σ H s) (w : Woke X own pins H' s s') (hex : X.ex = []) (hc : X.env.cells = []) (hown : ∀ p ∈ own, p ∈ X.pn) (hpn : ∀ p ∈ pn, p ∈ own ∨ PinOk X H' s' p) : Inv (rbX X s' H' X.s_0.heap.objs.size pn xe) pins σ H' s' := by
  have noc : ∀ x c, X.env.cells.lookup x = some c → False := fun x c e => by rw [hc] at e; cases e
  have nox : ∀ b, b ∉ X.ex := fun b z => by rw [hex] at z; cases z
  have old : ∀ b ∈ frs X.outer, b < X.s_0.heap.objs.size := fun b hb => let ⟨_, o, ho, _⟩ := I.ok.funs.mem hb; Heap.lt_size ho
  have oldb : ∀ b o, X.base.get? b = some o → b < X.s_0.heap.objs.size := fun b o e => Nat.lt_of_lt_of_le (Heap.lt_size e) I.ok.bsz
  obtain ⟨m, ⟨o, es, ep, ho, r⟩, hl⟩ := id I.loc
  have ho' := w.loc o ho
  have big : X.s_0.heap.objs.size ≤ s'.heap.objs.size := Nat.le_trans I.ok.above (Nat.le_of_lt (Heap.lt_size ho'))
  have csz : (cut s'.heap X.s_0.heap.objs.size).objs.size = X.s_0.heap.objs.size := by rw [cut_size]; omega
  refine ⟨⟨I.ok.mod, I.ok.kind, I.ok.glob, I.ok.blt, ?_, I.ok.inj, I.ok.has, fun x c _ e => (noc x c e).elim, I.ok.hd, I.ok.frames, I.ok.stk, fun b z => absurd z (nox b), fun b ob e => ?_, ?_, fun b ob e => nox b, fun b z => absurd z (nox b), ?_, ?_⟩,
    rfl, w.bare, ?_, ⟨m, ⟨o, es, ep, ho', r⟩, fun i x v h1 h2 h3 => ?_⟩, fun x c e => (noc x c e).elim, w.free, fun x c e => (noc x c e).elim, fun p hp => ?_, w.hok, I.len⟩
  · show (cut s'.heap X.s_0.heap.objs.size).objs.size ≤ X.env.locals
    rw [csz]; exact I.ok.above
  · show (cut s'.heap X.s_0.heap.objs.size).get? b = some ob ∧ H' b = none
    rw [cut_get (oldb b ob e)]
    exact w.bs b ob e
  · show X.base.objs.size ≤ (cut s'.heap X.s_0.heap.objs.size).objs.size
    rw [csz]; exact I.ok.bsz
  · exact funs_cut w.funs old
  · exact w.frf
  · show Un X.fs X.ex H' H' (cut s'.heap X.s_0.heap.objs.size) s'.heap
    exact ⟨fun b ob e _ _ _ => (cut_some e).2, fun b ob e _ _ _ => ⟨ob.slots, (cut_some e).2⟩, fun b ob _ n _ => n, fun b ob e _ => ⟨ob, (cut_some e).2⟩, fun _ _ e => e, fun _ _ _ e => e, fun b ps e => ⟨#[], by rw [e]; simp⟩⟩
  · obtain ⟨u, ru, k⟩ := hl i x v h1 h2 h3
    refine ⟨u, ru, ?_⟩
    rcases k with k | ⟨_, c, e, _⟩
    · exact .inl k
    · exact (noc x c e).elim
  · have old : ∀ p ∈ own ++ pins, PinOk X H' s' p := fun p hp => by
      obtain ⟨_, _, q3, q4, q5⟩ := I.pin p ((List.mem_append.mp hp).elim (fun z => List.mem_append_left _ (hown p z)) fun z => List.mem_append_right _ z)
      exact ⟨(w.pin p hp).1, (w.pin p hp).2, q3, q4, q5⟩
    rcases List.mem_append.mp hp with z | z
    · rcases hpn p z with z | z
      · exact old p (List.mem_append_left _ z)
      · exact z
    · exact old p (List.mem_append_right _ z)
end
def CXP (P : Program) (w : World) (outer : List Env) (H : Hp) (s : Shared) (E : XK) (pn : List (Addr × Obj)) (u : Value) (s' : Shared) : Prop :=
  ∃ (a : Addr) (B : Heap) (H' : Hp) (cls : Value) (d : Option Addr), u = .ref a ∧ HandSPX.FlyingZ B outer a (Zc cls d) s'.heap ∧ HOk P w H' B ∧ UB (frs outer) H H' s.heap B s'.heap ∧ H' a = none ∧ s'.os = s.os ∧ AllBare s'.gens ∧ E cls d H' ∧ ∀ p ∈ pn, s'.heap.get? p.1 = some p.2 ∧ H' p.1 = none
theorem CXP.pins {P : Program} {w : World} {outer : List Env} {H : Hp} {s : Shared} {E : XK} {pn : List (Addr × Obj)} {u : Value} {s' : Shared} (x : CXP P w outer H s E pn u s') : ∀ p ∈ pn, s'.heap.get? p.1 = some p.2 := fun p hp =>
  let ⟨_, _, _, _, _, _, _, _, _, _, _, _, _, q⟩ := x
  (q p hp).1
end GQ
end
section
namespace ML
open PySem PySem.Spec PyProof.Rows L2 GenW GQ
structure Rb (κ : Type) where
  s : Shared
  H : Hp
  c : κ
  E : XK
  pn : List (Addr × Obj)
inductive RG (C : Type) where
  | nx (b : Bool) (σ : Sg) (c : C) (n : Nat) (h : Hi) | out (r : RS) | ex (k i : Nat) (c : C) (h : Hi) | err
inductive RC (C : Type) where
  | go (c : C) (h : Hi) | stop (r : RS) | err
abbrev CB (C : Type) := VI → C → Hi → RC C
abbrev GMS (C : Type) := CB C → Bool → Sg → C → Nat → Hi → RG C
section
variable {C : Type}
def yPl (m : MS) : GMS C := fun _ b σ c n h => match m σ h with
  | .nx σ' h' => .nx b σ' c n h'
  | .ex k i _ h' => match b with
    | true => .ex k i c h'
    | false => .err
  | _ => .err
def yNx : GMS C := fun _ b σ c n h => .nx b σ c n h
def ySeq (x y : GMS C) : GMS C := fun cb b σ c n h => match x cb b σ c n h with
  | .nx b1 σ1 c1 n1 h1 => y cb b1 σ1 c1 n1 h1
  | r => r
def yEv {α : Type} (b : Bool) (c : C) (r : Res α) (k : α → Hi → RG C) : RG C := match r with
  | .ok x h => k x h
  | .ex k i h => match b with
    | true => .ex k i c h
    | false => .err
  | .err => .err
def yAns (σ : Sg) (n : Nat) : RC C → RG C
  | .go c h => .nx false σ c n h
  | .stop r => .out r
  | .err => .err
def yYld (e : ME) : GMS C := fun cb b σ c n h => match n with
  | 0 => .err
  | n + 1 => yEv b c (e σ h) fun x h1 => yAns σ n (cb x c h1)
def yIf (t : MT) (x y : GMS C) : GMS C := fun cb b σ c n h => yEv b c (t σ h) fun v h1 => match v with
  | true => x cb b σ c n h1
  | false => y cb b σ c n h1
def yTurns (it : Itm) (g : MG) (body : GMS C) : Nat → Nat → GMS C
  | 0, i, _, b, σ, c, n, h => match it.nxt i h with
    | some none => .nx b σ c n h
    | _ => .err
  | k + 1, i, cb, b, σ, c, n, h => match it.nxt i h with
    | some none => .nx b σ c n h
    | some (some x) => match g x σ h with
      | .nx σ1 h1 => match body cb b σ1 c n h1 with
        | .nx b2 σ2 c2 n2 h2 => yTurns it g body k (i + 1) cb b2 σ2 c2 n2 h2
        | r => r
      | _ => .err
    | none => .err
def yFor (mi : MI) (g : MG) (body : GMS C) : GMS C := fun cb b σ c n h => yEv b c (mi σ h) fun it h1 => yTurns it g body (it.fuel h1) 0 cb b σ c n h1
end
def noE : XK := fun _ _ _ => False
structure Cons (G : Gx) (κ C : Type) where
  cb : CB C
  AC : List Addr → Hp → C → κ → Prop
  P : RS → List Addr → Hp → Prop
  exf : Nat → Nat → C → Hi → RS
  fin : C → Hi → RS
  CI : Rb κ → Prop
  fst : Rb κ → Prop
  E0 : XK
  acL : ∀ {ρ H ρ' H' c k}, Stp G ρ H ρ' H' → AC ρ H c k → AC ρ' H' c k
  pL : ∀ {r ρ H ρ' H'}, Stp G ρ H ρ' H' → P r ρ H → P r ρ' H'
  exE : ∀ {k i c h ρ H}, P (exf k i c h) ρ H → ∀ ρ' H' d D r, fst r → Stp G ρ H ρ' H' → Ag G ρ' h H' → AC ρ' H' c r.c → ρ'[i]? = some d → G.ct k = some D → E0 (.ref D) (some d) H'
variable {G : Gx} {κ C : Type}
def Cons.Md (Z : Cons G κ C) : Bool → Rb κ → Prop
  | true, r => r.E = Z.E0 ∧ Z.fst r
  | false, r => r.E = noE
def gxe (X : Cx) (r : Rb κ) (e : Value) (s' : Shared) : Prop :=
  wpAny (model X.prog X.w) X.A (leaving X.env e) (fun _ s'' => CXP X.prog X.w X.outer r.H { r.s with heap := cut r.s.heap X.s_0.heap.objs.size } r.E (X.pn ++ r.pn) e s'') (fun _ _ => False) s'
def gF (X : Cx) (r : Rb κ) : Cx := rbX X r.s r.H X.s_0.heap.objs.size (X.pn ++ r.pn) (gxe X r)
def AnsY {C : Type} (go : C → Hi → Prop) (stop : RS → Prop) : RC C → Prop
  | .go c h => go c h
  | .stop q => stop q
  | .err => False
def YG (X : Cx) (Z : Cons G κ C) : Protocol := fun _ _ v s kap => ∃ (r : Rb κ) (ip : List (Addr × Obj)) (σ : L2.St) (ρ : List Addr) (h : Hi) (H : Hp) (x : VI) (xv : V) (c : C), RelV xv v ∧ RV G ρ H x xv ∧ Inv (gF X r) ip σ H s ∧ Ag G ρ h H ∧ Z.AC ρ H c r.c ∧ Z.CI r ∧ (∀ p ∈ r.pn, ∀ q ∈ ip, q.1 ≠ p.1) ∧ AnsY (fun c' h' => ∀ ρ' H' k' s' pn', Stp G ρ H ρ' H' → Ag G ρ' h' H' → Z.AC ρ' H' c' k' → Woke (gF X r) X.pn ip H' s s' → (∀ p ∈ pn', PinOk X H' s' p ∧ ∀ q ∈ ip, q.1 ≠ p.1) → Z.CI ⟨s', H', k', noE, pn'⟩ → kap (.send .none) s') (fun q => Z.P q ρ H) (Z.cb x c h)
abbrev PostG (C : Type) := Bool → Sg → C → Nat → Hi → List Addr → Hp → Prop
def NxK (Z : Cons G κ C) (Post : PostG C) : RG C → List Addr → Hp → Prop
  | .nx b σ c n h, ρ, H => Post b σ c n h ρ H
  | .out r, ρ, H => Z.P r ρ H
  | .ex k i c h, ρ, H => Z.P (Z.exf k i c h) ρ H
  | .err, _, _ => False
def PostL (G : Gx) (Post : PostG C) : Prop := ∀ b σi cc n h ρ H ρ' H', Stp G ρ H ρ' H' → Post b σi cc n h ρ H → Post b σi cc n h ρ' H'
structure GSt (X : Cx) (Z : Cons G κ C) (ip : List (Addr × Obj)) (r : Rb κ) (b : Bool) (σi : Sg) (cc : C) (h : Hi) (ρ : List Addr) (σ : L2.St) (H : Hp) (s : Shared) : Prop where
  inv : Inv (gF X r) ip σ H s
  as : AgS G ρ H σi σ
  ag : Ag G ρ h H
  ac : Z.AC ρ H cc r.c
  ci : Z.CI r
  md : Z.Md b r
  sz : X.s_0.heap.objs.size ≤ r.s.heap.objs.size
  ap : ∀ p ∈ r.pn, ∀ q ∈ ip, q.1 ≠ p.1
structure GCt (X : Cx) (A : Around) (c : Code) (fs : List Frame) (gd : Bool → Bool) : Prop where
  over : A.over c fs = X.A
  split : splitAtGen fs = none
  guard : fs.any Frame.guarded = false
  gd : gd false = false
structure GK (X : Cx) (Z : Cons G κ C) (ip : List (Addr × Obj)) (A : Around) (R : GenEnd) (c : Code) (fs : List Frame) (K : Flow → Sem PySem.Fin) (J : Value → Sem PySem.Fin) (Post : PostG C) : Prop where
  ok : ∀ n s₀ s r b σi cc h ρ σ H, GSt X Z ip r b σi cc h ρ σ H s → Post b σi cc n h ρ H → Seg (model X.prog X.w) A R (YG X Z) n s₀ c (K .next) fs s
  cl : PostL G Post
  exc : ∀ n s₀ s b (r : Rb κ) e, Z.CI r → Z.Md b r → (gF X r).xe e s → Seg (model X.prog X.w) A R (YG X Z) n s₀ c (J e) fs s
theorem NxK.later {Z : Cons G κ C} {Post : PostG C} {ρ ρ' : List Addr} {H H' : Hp} (cl : PostL G Post) (st : Stp G ρ H ρ' H') : ∀ {q : RG C}, NxK Z Post q ρ H → NxK Z Post q ρ' H'
  | .nx .., f => cl _ _ _ _ _ _ _ _ _ st f
  | .out _, f => Z.pL st f
  | .ex .., f => Z.pL st f
  | .err, f => f
structure GSM (X : Cx) (Z : Cons G κ C) (st : Stmt) (g : GMS C) : Prop where
  run : ∀ (A : Around) (R : GenEnd) (n : Nat) (s₀ : Shared) (c : Code) (fs : List Frame) (K : Flow → Sem PySem.Fin) (J : Value → Sem PySem.Fin) (gd : Bool → Bool) (lv : List Value → List Value) (s : Shared) (r : Rb κ) (ip : List (Addr × Obj)) (b : Bool) (σ : L2.St) (σi : Sg) (ρ : List Addr) (h : Hi) (H : Hp) (cc : C) (Post : PostG C),
    GCt X A c fs gd → GK X Z ip A R c fs K J Post → GSt X Z ip r b σi cc h ρ σ H s → NxK Z Post (g Z.cb b σi cc n h) ρ H → Seg (model X.prog X.w) A R (YG X Z) n s₀ c ((exec st X.env).wrap K J gd lv) fs s
structure GSMs (X : Cx) (Z : Cons G κ C) (st : List Stmt) (g : GMS C) : Prop where
  run : ∀ (A : Around) (R : GenEnd) (n : Nat) (s₀ : Shared) (c : Code) (fs : List Frame) (K : Flow → Sem PySem.Fin) (J : Value → Sem PySem.Fin) (gd : Bool → Bool) (lv : List Value → List Value) (s : Shared) (r : Rb κ) (ip : List (Addr × Obj)) (b : Bool) (σ : L2.St) (σi : Sg) (ρ : List Addr) (h : Hi) (H : Hp) (cc : C) (Post : PostG C),
    GCt X A c fs gd → GK X Z ip A R c fs K J Post → GSt X Z ip r b σi cc h ρ σ H s → NxK Z Post (g Z.cb b σi cc n h) ρ H → Seg (model X.prog X.w) A R (YG X Z) n s₀ c ((execs st X.env).wrap K J gd lv) fs s
section
variable {X : Cx} {Z : Cons G κ C} {ip : List (Addr × Obj)} {r : Rb κ} {b : Bool} {σi : Sg} {cc : C} {h : Hi} {ρ : List Addr} {σ : L2.St} {H : Hp} {s : Shared} {st : Stmt} {rest : List Stmt} {ms : MS} {me : ME} {mt : MT} {g g1 g2 : GMS C} {e : Expr} {pos yp : Pos}
theorem GSt.at_ {ρ1 : List Addr} {H1 : Hp} {h1 : Hi} {s1 : Shared} (q : GSt X Z ip r b σi cc h ρ σ H s) (I : Inv (gF X r) ip σ H1 s1) (st : Stp G ρ H ρ1 H1) (a : Ag G ρ1 h1 H1) : GSt X Z ip r b σi cc h1 ρ1 σ H1 s1 :=
  ⟨I, q.as.mono st, a, Z.acL st q.ac, q.ci, q.md, q.sz, q.ap⟩
end
end ML
end
section
namespace ML
open PySem PySem.Spec PyProof.Rows L2 GenW GQ
section
variable {prog : Program} {w : World} {A : Around} {R : GenEnd} {Y : Protocol} {n : Nat} {s₀ : Shared} {c : Code} {fs : List Frame} {s : Shared} {env : Env}
end
section
variable {G : Gx} {κ C : Type} {X : Cx} {Z : Cons G κ C} {ip : List (Addr × Obj)} {r : Rb κ} {tg iter : Expr} {body : List Stmt} {pos : Pos} {mi : MI} {mg : MG} {g1 : GMS C}
end
end ML
end
section
namespace ML
open PySem PySem.Spec PyProof.Rows L2 He
def spGM (G : Gx) (np : Nat) (cs : List Nat) (g : MF) : SpG := fun vs H Q E => ∃ ρ h args, args.length = np ∧ Ag G ρ h H ∧ RVs G ρ H args vs ∧ match g args h with
  | .ex c n h' => cs.contains c = true ∧ ∀ ρ' H' d C, Stp G ρ H ρ' H' → Ag G ρ' h' H' → ρ'[n]? = some d → G.ct c = some C → E (.ref C) (some d) H'
  | _ => False
section
variable {G : Gx} {W : WX} {X : Cx} {k : Nat} {f : Addr} {fd : FuncData} {ps : List Str} {g : MF} {cs : List Nat}
end
structure DOkL (P : Program) (w : World) (K : PySem.W.Frag) (mg : Str → Option Value) (base : Heap) (nm : Nat → Option Str) (k : Nat) (p : Defn) (ps : List Str) (cs : List Nat) (g : MF) : Prop where
  ok : GFn P w K mg base k (p K) (fdOf K p) ps (spGM (GxOf w K mg nm) ps.length cs g)
  ar : Arity ps.length g
  kp : PySem.W.keepIn K (.ref (p K)) = true
section
variable {X : Cx} {k k' : Nat} {ps : List Str} {g : MF} {cs : List Nat} {nm : Nat → Option Str}
end
end ML
end
section
namespace ML
open PySem PySem.Spec PyProof.Rows L2 GenW GQ
variable {G : Gx} {κ C : Type}
def endPost (Z : Cons G κ C) : PostG C := fun _ _ c _ h ρ H => Z.P (Z.fin c h) ρ H
def REndG (X : Cx) (Z : Cons G κ C) : GenEnd := fun _ _ r s1 =>
  ((r = .ok (.ret .none) ∨ r = .ok .next) ∧ ∃ (rb : Rb κ) (σ : L2.St) (ρ : List Addr) (h : Hi) (H : Hp) (cc : C), Inv (gF X rb) [] σ H s1 ∧ Ag G ρ h H ∧ Z.AC ρ H cc rb.c ∧ Z.CI rb ∧ Z.P (Z.fin cc h) ρ H) ∨
  ∃ e : Value, r = .error e ∧ ∃ (rb : Rb κ) (b : Bool), Z.CI rb ∧ Z.Md b rb ∧ CXP X.prog X.w X.outer rb.H { rb.s with heap := cut rb.s.heap X.s_0.heap.objs.size } rb.E (X.pn ++ rb.pn) e s1
abbrev GMA := {C : Type} → GMS C
def GMadeM (P : Program) (w : World) (K : PySem.W.Frag) (mg : Str → Option Value) (base : Heap) (G : Gx) (k : Nat) (outer : List Env) (H : Hp) (s : Shared) (gm : GMA) (m : Nat) (vs : List V) (u : Value) (s' : Shared) : Prop :=
  ∃ (a : Addr) (g : Nat) (c : Code) (N : List Str) (qual : Str) (scope : Scope) (f : Addr) (cdv : Value) (go : Obj) (nm qn : Value), u = .ref a ∧ s.heap.objs.size ≤ a ∧ s'.heap.get? a = some go ∧ go.cls = .type "generator" ∧ go.data = .fields #[.int g 0, nm, qn] ∧ go.slots = #[] ∧ s'.gens[g]? = some (.fresh c) ∧ s'.os = s.os ∧ AllBare s'.gens ∧ s'.heap.NoLimit ∧ (∀ b o, s.heap.get? b = some o → s'.heap.get? b = some o) ∧ (∀ n, cellsFrom n scope.names [] = []) ∧
    ∀ (A : Around) (κ C : Type) (Z : Cons G κ C) (s2 : Shared) (c0 : κ) (ρ : List Addr) (h : Hi) (args : List VI) (cc : C) (n : Nat) (pn : List (Addr × Obj)) (H2 : Hp), Room k A → A.frames = some outer → Un (frs outer) [] H H2 s'.heap s2.heap → HOk P w H2 s2.heap → s2.os = s.os → AllBare s2.gens →
      RVs G ρ H2 args vs → Ag G ρ h H2 → Z.AC ρ H2 cc c0 → (∀ p ∈ pn, s2.heap.get? p.1 = some p.2 ∧ H2 p.1 = none ∧ s'.heap.objs.size ≤ p.1 ∧ ∀ v, p.2.data ≠ .cell v) → Z.CI ⟨s2, H2, c0, Z.E0, pn⟩ → Z.fst ⟨s2, H2, c0, Z.E0, pn⟩ → NxK Z (endPost Z) (gm Z.cb true (args.map some ++ List.replicate m none) cc n h) ρ H2 →
      Seg (model P w) A (REndG (gcxOf P w K mg base N qual scope f cdv A outer s H noE [(a, go)]) Z) (YG (gcxOf P w K mg base N qual scope f cdv A outer s H noE [(a, go)]) Z) n s2 c ((model P w).den c) [] s2
structure GFnM (P : Program) (w : World) (K : PySem.W.Frag) (mg : Str → Option Value) (base : Heap) (G : Gx) (k : Nat) (f : Addr) (fd : FuncData) (ps : List Str) (gm : GMA) (m : Nat) : Prop where
  run : ∀ (A : Around) (outer : List Env) (s : Shared) (H : Hp) (args : Args) (us : List Value) (vs : List V), Room k A → Env0 P w K mg base A outer s H → BindsTo s fd args (ps.zip us) → Vals vs us → vs.length = ps.length →
    codeAny (model P w) A (.call (.ref f) args) (fun r s' => match r with | .ok (.ret u) => GMadeM P w K mg base G k outer H s gm m vs u s' | _ => False) s
section
variable {P : Program} {w : World} {K : PySem.W.Frag} {mg : Str → Option Value} {base : Heap} {N ps : List Str} {qual : Str} {scope : Scope} {f : Addr} {A : Around} {outer : List Env} {s : Shared} {H : Hp} {pn : List (Addr × Obj)} {cdv : Value}
end
end ML
end
section
namespace GQ
open PySem PySem.Spec PyProof.Rows L2 GenW
section
variable {M : Model}
end
section
variable {P : Program} {w : World} {A : Around} {E : Value → Shared → Prop} {s : Shared}
end
end GQ
end
section
namespace ML
open PySem PySem.Spec PyProof.Rows L2 GenW GQ
def yRun {C : Type} (np m : Nat) (gm : GMS C) (cb : CB C) (vs : List VI) (cc : C) (h : Hi) : RG C := match Nat.beq vs.length np with
  | true => gm cb true (vs.map some ++ List.replicate m none) cc 1000000 h
  | false => .err
def cbFor (g : MG) (mb : MS) : CB Sg := fun x σ h => match (g x σ h).andThen mb with
  | .nx σ' h' => .go σ' h'
  | .ct σ' h' => .go σ' h'
  | .bk σ' h' => .stop (.nx σ' h')
  | .rt v h' => .stop (.rt v h')
  | _ => .err
def exY (cs : List Nat) (k i : Nat) (σ : Sg) (h : Hi) : RS := match cs.contains k with
  | true => .ex k i σ h
  | false => .err
def finY (cs : List Nat) : RG Sg → RS
  | .nx _ _ σ _ h => .nx σ h
  | .out r => r
  | .ex k i σ h => exY cs k i σ h
  | .err => .err
def sForG (cs : List Nat) (np m : Nat) (gm : GMA) (ma : MA) (g : MG) (mb : MS) : MS := fun σ h => (ma σ h).bindS σ fun vs h1 => finY cs (yRun np m gm (cbFor g mb) vs σ h1)
structure PGenM (X : Cx) (G : Gx) (k : Nat) (e : Expr) (gm : GMA) (m np : Nat) (t : TA) : Prop where
  run : ∀ (pins : List (Addr × Obj)) (s : Shared) (σ : L2.St) (H : Hp) (Q : List V → Hp → Prop), Inv X pins σ H s → (t σ H fun vs H1 => vs.length = np ∧ Q vs H1) → wpAny (model X.prog X.w) X.A (eval e X.env)
    (fun u s' => ∃ vs H1 sc, Inv X pins σ H1 sc ∧ GMadeM X.prog X.w X.K X.mg X.base G k X.stack H1 sc gm m vs u s' ∧ Q vs H1) X.xe s
section
variable {G : Gx} {W : WX} {X : Cx} {pins : List (Addr × Obj)} {σ : L2.St} {H : Hp} {s : Shared}
end
end ML
end
section
namespace ML
open PySem PySem.Spec PyProof.Rows L2 GenW GQ
def cbLst : CB (List VI) := fun x acc h => match small (acc.length + 1) with
  | true => .go (acc ++ [x]) h
  | false => .err
def finL (cs : List Nat) : RG (List VI) → Res VI
  | .nx _ _ acc _ h => .ok (.ref h.length) (h ++ [.lst acc])
  | .ex k i _ h => match cs.contains k with
    | true => .ex k i h
    | false => .err
  | _ => .err
def eListY (cs : List Nat) (np m : Nat) (gm : GMA) (ma : MA) : ME := fun σ h => (ma σ h).bind fun vs h1 => finL cs (yRun np m gm cbLst vs [] h1)
section
variable {G : Gx} {W : WX} {X : Cx} {pins : List (Addr × Obj)} {σ : L2.St} {H : Hp} {s : Shared} {Q : VK}
end
end ML
end
section
namespace ML
open PySem PySem.Spec PyProof.Rows L2 He GenW GQ
structure DOkY (P : Program) (w : World) (K : PySem.W.Frag) (mg : Str → Option Value) (base : Heap) (nm : Nat → Option Str) (k : Nat) (p : Defn) (ps : List Str) (gm : GMA) (m : Nat) : Prop where
  ok : GFnM P w K mg base (GxOf w K mg nm) k (p K) (fdOf K p) ps gm m
  kp : PySem.W.keepIn K (.ref (p K)) = true
end ML
end
section
namespace ML
open PySem PySem.Spec PyProof.Rows L2 He
def fEqZ : Op2 := fun x y h => match x, y with
  | .ref a, .ref b => match h[a]?, h[b]? with
    | some (.lst xa), some (.lst xb) => match Nat.beq xa.length xb.length with
      | true => fEqX x y h
      | false => some (.bl false, h)
    | _, _ => fEqX x y h
  | _, _ => fEqX x y h
section
variable {G : Gx} {ρ : List Addr} {h : Hi} {H : Hp} {X : Cx} {Q : VK}
end
section
variable {r : List Nat} {s h : Hi}
instance : LOp fEqZ := ⟨fun r s h x y x' y' g p q => by
  have old := LOp.run (f := fEqX) r s h x y x' y' g p q
  unfold fEqZ
  cases p with
  | ref i =>
    cases q with
    | ref j =>
      obtain ⟨o, o', z1, z2, z3⟩ := g.no i
      obtain ⟨u, u', y1, y2, y3⟩ := g.no j
      dsimp only
      rw [z1, z2, y1, y2]
      cases z3 with
      | lst t =>
        cases y3 with
        | lst t' =>
          dsimp only
          rw [← t.length, ← t'.length]
          rename_i ka kb la lb
          cases f : Nat.beq ka.length la.length with
          | true => exact old
          | false => exact .ok g (.bl _)
        | _ => exact old
      | _ => exact old
    | _ => exact old
  | _ => exact old⟩
end
end ML
end
section
namespace L2
open PySem PySem.Spec PyProof.Rows
section
variable {X : Cx}
end
end L2
namespace ML
open PySem L2
def fMulX : Op2 := fun x y h => match x, y with
  | .tup xs, .int k => match decide (k = 1) with
    | true => some (.tup xs, h)
    | false => match decide (k = 0) && !xs.isEmpty with
      | true => some (.tup [], h)
      | false => fMul x y h
  | x, y => fMul x y h
variable {X : Cx} {G : Gx}
instance : LOp fMulX := ⟨fun r s h x y x' y' g p q => by
  have fb := LOp.run (f := fMul) r s h _ _ _ _ g p q
  unfold fMulX
  cases p with
  | tup i =>
    cases q with
    | int j =>
      dsimp only
      rw [isEmp2 i]
      split
      · exact .ok g (.tup i)
      · split
        · exact .ok g (.tup .nil)
        · exact fb
    | _ => exact fb
  | _ => exact fb⟩
end ML
end
section
namespace ML
open PySem PySem.Spec PyProof.Rows L2 He
section
variable {G : Gx} {W : WX} {X : Cx} {A : Around} {ρ : List Addr} {h : Hi} {H : Hp} {σ : L2.St} {k np : Nat} {f C : Addr} {fd : FuncData} {ps : List Str} {g : MF} {e : Expr} {es : List Expr} {pos p pos' : Pos} {ma : MA} {me : ME} {i : Nat} {x : Str} {tbl : Nat → Option MF}
def eCallI (i : Nat) (tbl : Nat → Option MF) (ma : MA) : ME := fun σ h => match σ[i]? with
  | some (some x) => match insC x h with
    | some _ => (ma σ h).bind fun vs h1 => match insC x h1 with
      | some c => match tbl c with
        | some g => g (x :: vs) h1
        | none => .err
      | none => .err
    | none => .err
  | _ => .err
def sAugU (i : Nat) (tbl : Nat → Option MF) (e : ME) : MS := fun σ h => match σ[i]? with
  | some (some x) => (e σ h).bindS σ fun y h1 => match insC x h1 with
    | some c => match tbl c with
      | some g => match g [x, y] h1 with
        | .ok z h2 => .nx (σ.set i (some z)) h2
        | _ => .err
      | none => .err
    | none => .err
  | _ => .err
end
section
variable {Y : Cx} {W : WX} {nm : Nat → Option Str} {mg : Str → Option Value}
end
section
variable {X : Cx} {W : WX} {nm : Option Str}
end
section
variable {X : Cx} {W : WX} {nm : Nat → Option Str} {e : Expr} {es : List Expr} {p pos : Pos} {ma : MA}
end
section
variable {ma : MA} {me : ME}
instance {i : Nat} {tbl : Nat → Option MF} [c : LTb tbl] [x : LA ma] : LE (eCallI i tbl ma) := ⟨fun r s h σ σ' g a => by
  unfold eCallI
  cases z : σ[i]? with
  | none => trivial
  | some o =>
    cases o with
    | none => trivial
    | some v =>
      obtain ⟨w, k1, k2⟩ := a.at_ i v z
      rw [k1]
      dsimp only
      rw [ins2 g k2]
      cases z0 : insC v s with
      | none => trivial
      | some d0 =>
        dsimp only
        refine (x.run r s h σ σ' g a).bind fun r1 s1 h1 vs vs' e1 g1 q1 => ?_
        rw [ins2 g1 (k2.mono e1)]
        cases z1 : insC v s1 with
        | none => trivial
        | some d =>
          dsimp only
          cases w0 : tbl d with
          | none => trivial
          | some u => exact (c.run _ _ w0).run _ _ _ _ _ g1 (.cons (k2.mono e1) q1)⟩
instance {i : Nat} {tbl : Nat → Option MF} [c : LTb tbl] [y : LE me] : LS (sAugU i tbl me) := ⟨fun r s h σ σ' g a => by
  unfold sAugU
  cases z : σ[i]? with
  | none => trivial
  | some o =>
    cases o with
    | none => trivial
    | some v =>
      obtain ⟨w, k1, k2⟩ := a.at_ i v z
      rw [k1]
      refine (y.run _ _ _ _ _ g a).bindS a fun r1 s1 h1 u u' e1 g1 q1 => ?_
      rw [ins2 g1 (k2.mono e1)]
      cases z1 : insC v s1 with
      | none => trivial
      | some d =>
        dsimp only
        cases w0 : tbl d with
        | none => trivial
        | some f =>
          have t := (c.run _ _ w0).run _ _ _ _ _ g1 (.cons (k2.mono e1) (.cons q1 .nil))
          cases z2 : f [v, u] s1 with
          | err => simp only [z2]; trivial
          | ex _ _ _ => simp only [z2]; trivial
          | ok z h2 =>
            rw [z2] at t
            obtain ⟨r2, h2, v', m1, m2, m3, m4⟩ := t
            simp only [m1, z2]
            exact ⟨r2, h2, _, rfl, m2, m3, ((a.mono e1).mono m2).set m4 i⟩⟩
end
end ML
end
section
namespace ML
open PySem PySem.Spec PyProof.Rows L2 He
def augEK (i : Nat) (tbl : Nat → Option MF) (σ : Sg) (x y : VI) (h1 : Hi) : RS := match insC x h1 with
  | some c => match tbl c with
    | some g => (g [x, y] h1).bindS σ fun z h2 => .nx (σ.set i (some z)) h2
    | none => .err
  | none => .err
def sAugE (i : Nat) (tbl : Nat → Option MF) (e : ME) : MS := fun σ h => match σ[i]? with
  | some (some x) => (e σ h).bindS σ (augEK i tbl σ x)
  | _ => .err
section
variable {G : Gx} {W : WX} {X : Cx} {op : Operator} {tbl : Nat → Option MF} {e : Expr} {me : ME} {i : Nat} {x : Str} {pos pos' : Pos}
def onlyS (mt : Nat → Option Bool) (su : MS) (c n : Nat) (σ : Sg) (h : Hi) : RS := match mt c with
  | some true => match su σ h with
    | .ex _ _ _ _ => .err
    | r => r
  | some false => .ex c n σ h
  | none => .err
def sTryO (body : MS) (mt : Nat → Option Bool) (su : MS) : MS := fun σ h => match body σ h with
  | .ex c n σ' h' => onlyS mt su c n σ' h'
  | r => r
end
section
variable {Y : Cx} {W : WX} {nm : Nat → Option Str} {mg : Str → Option Value}
end
def gLstM (gs : List MG) : MG := fun v σ h => match v with
  | .ref n => match listAt n h with
    | some xs => match Nat.beq xs.length gs.length with
      | true => gSeq gs xs σ h
      | false => .err
    | none => .err
  | _ => .err
section
variable {G : Gx} {W : WX} {X : Cx} {es : List Expr} {gs : List MG} {k : Nat} {pos : Pos}
end
end ML
end
section
namespace ML
open PySem PySem.Spec PyProof.Rows L2 He
def reprS (i : Int) : S := (Str.ofString (toString i)).cps.toList
def cRepr : OpC := fun vs h => match vs with
  | [.int i] => match decide (i.natAbs.log2 < 1920) with
    | true => some (.str (reprS i), h)
    | false => none
  | _ => none
section
variable {G : Gx} {X : Cx}
end
instance : LOc cRepr := ⟨fun r s h vs vs' g t => by
  unfold cRepr
  cases t with
  | nil => trivial
  | cons p t =>
    cases t with
    | cons _ _ => cases p <;> trivial
    | nil =>
      cases p with
      | int i =>
        dsimp only
        cases decide (i.natAbs.log2 < 1920) with
        | false => trivial
        | true => exact .ok g (.str _)
      | _ => trivial⟩
end ML
end
section
namespace ML
open PySem PySem.Spec PyProof.Rows L2 He
def kM (n : Nat) (gk : MK) : MF := fun vs h => match Nat.beq vs.length n with
  | true => gk vs [] h
  | false => .err
instance {n : Nat} {g : MF} {arr : List VI → List VI → List VI} [x : LF g] [y : LAr arr] : LF (kM n (fnK g arr)) := ⟨fun r s h vs vs' a t => by
  unfold kM
  rw [t.length]
  cases Nat.beq vs'.length n with
  | true => exact x.run _ _ _ _ _ a (y.run _ _ _ _ _ t .nil)
  | false => trivial⟩
instance {n m : Nat} {k : OpC} {b b' : MA} [x : LOc k] [y : LA2 n m b b'] : LE2 n m (eCB k b) (eCB k b') := ⟨fun r s h σ σ' q g a => (y.run r s h σ σ' q g a).bind fun r1 s1 h1 v v' e1 g1 q1 => .ofO (x.run _ _ _ _ _ g1 q1)⟩
end ML
end
section
namespace ML
open PySem PySem.Spec PyProof.Rows L2 He
open AutoSeq1 (wpAny_loadPart')
open MeetsSeq
section
variable {prog : Program} {w : World} {A : Around} {E : Value → Shared → Prop} {s : Shared}
end
section
variable {prog : Program} {w : World} {A : Around} {E : Value → Shared → Prop} {s : Shared} {x : Addr} {o : Obj}
end
end ML
end
section
namespace ML
open PySem PySem.Spec PyProof.Rows L2 He
def pch (c : Nat) : Bool := Nat.ble 32 c && (Nat.ble c 126 && (!Nat.beq c 39 && !Nat.beq c 92))
def digS (n : Nat) : S := (Nat.toDigits 10 n).map Char.toNat
def intS : Int → S
  | .ofNat n => digS n
  | .negSucc n => 45 :: digS (n + 1)
def joinS : List S → S
  | [] => []
  | [x] => x
  | x :: y :: r => x ++ ([44, 32] ++ joinS (y :: r))
mutual
def shD : PyData → Option S
  | .none => some [78, 111, 110, 101]
  | .bool b => some (if b then [84, 114, 117, 101] else [70, 97, 108, 115, 101])
  | .int i => if i.natAbs.log2 < 1920 then some (intS i) else none
  | .str x => if x.cps.toList.all pch then some (39 :: (x.cps.toList ++ [39])) else none
  | .list xs => match shDs xs with
    | some ts => some (91 :: (joinS ts ++ [93]))
    | none => none
  | .tuple xs => match shDs xs with
    | some ts => some (40 :: (joinS ts ++ (if ts.length == 1 then [44, 41] else [41])))
    | none => none
  | .dict _ => none
def shDs : List PyData → Option (List S)
  | [] => some []
  | x :: xs => match shD x with
    | some t => match shDs xs with
      | some ts => some (t :: ts)
      | none => none
    | none => none
end
theorem toStr_app (a b : S) : toStr (a ++ b) = toStr a ++ toStr b := by
  show (⟨(a ++ b).toArray⟩ : Str) = ⟨a.toArray ++ b.toArray⟩
  simp
theorem toStr_str (s : String) : (Str.ofString s) = toStr (s.toList.map Char.toNat) := by rw [Str.ofString_eq_toList]; rfl
theorem pch_print : ∀ c < 127, pch c = true → PySem.Unicode.isPrintable c = true := by decide +kernel
theorem rch {c : Nat} (h : pch c = true) : PySem.Builtin.Str.reprChar 39 c = [c] := by
  have h0 := h
  unfold pch at h
  simp only [Bool.and_eq_true, Bool.not_eq_true'] at h
  obtain ⟨h1, h2, h3, h4⟩ := h
  have a1 := Nat.le_of_ble_eq_true h1
  have a2 := Nat.le_of_ble_eq_true h2
  have a3 : c ≠ 39 := fun z => by rw [z] at h3; cases h3
  have a4 : c ≠ 92 := fun z => by rw [z] at h4; cases h4
  have p := pch_print c (by omega) h0
  unfold PySem.Builtin.Str.reprChar
  have b1 : (c == 39) = false := beq_eq_false_iff_ne.mpr a3
  have b2 : (c == 92) = false := beq_eq_false_iff_ne.mpr a4
  have b3 : (c == 10) = false := beq_eq_false_iff_ne.mpr (by omega)
  have b4 : (c == 13) = false := beq_eq_false_iff_ne.mpr (by omega)
  have b5 : (c == 9) = false := beq_eq_false_iff_ne.mpr (by omega)
  simp only [b1, b2, b3, b4, b5, p, Bool.or_self, Bool.false_eq_true, if_false, if_true]
theorem rtext {x : Str} (h : x.cps.toList.all pch = true) : reprText x = toStr (39 :: (x.cps.toList ++ [39])) := by
  have q : reprQuote x = 39 := by
    unfold reprQuote
    have n : x.cps.contains 39 = false := by
      rw [← Array.contains_toList]
      rw [Bool.eq_false_iff]
      intro z
      have := List.all_eq_true.mp h 39 (by simpa using z)
      cases this
    rw [n]
    rfl
  unfold reprText
  rw [q, ← Array.foldl_toList]
  have go : ∀ (l : List Nat) (acc : Array Nat), l.all pch = true → l.foldl (fun out c => out ++ (PySem.Builtin.Str.reprChar 39 c).toArray) acc = (acc.toList ++ l).toArray := by
    intro l
    induction l with
    | nil => intro acc _; simp
    | cons c l ih =>
      intro acc ha
      rw [List.all_cons, Bool.and_eq_true] at ha
      rw [List.foldl_cons, rch ha.1, ih _ ha.2]
      simp
  rw [go _ _ h]
  unfold toStr
  simp
theorem textFrom_join : ∀ (ts : List S) (k : Nat) (acc : Str), textFrom k acc (ts.map toStr) = acc ++ toStr (if k > 0 then (ts.flatMap fun t => [44, 32] ++ t) else joinS ts)
  | [], k, acc => by
    show acc = _
    have e : toStr ([] : S) = ⟨#[]⟩ := rfl
    split
    · show acc = acc ++ toStr []; rw [e]; show acc = ⟨acc.cps ++ #[]⟩; simp
    · show acc = acc ++ toStr []; rw [e]; show acc = ⟨acc.cps ++ #[]⟩; simp
  | t :: r, k, acc => by
    show textFrom (k + 1) (acc ++ (if k > 0 then ", " else "" : String) ++ toStr t) (r.map toStr) = _
    rw [textFrom_join r (k + 1), if_pos (Nat.succ_pos k)]
    have fl : ∀ (x : S) (r : List S), x ++ (r.flatMap fun t => [44, 32] ++ t) = joinS (x :: r) := by
      intro x r
      induction r generalizing x with
      | nil => simp [joinS]
      | cons y r ih => rw [List.flatMap_cons, joinS, ← ih y]; simp
    by_cases hk : k > 0
    · rw [if_pos hk, if_pos hk]
      have c : (Str.ofString ", ") = toStr [44, 32] := toStr_str _
      show (acc ++ Str.ofString ", " ++ toStr t) ++ _ = _
      rw [c, List.flatMap_cons]
      simp only [toStr_app]
      show (⟨_⟩ : Str) = ⟨_⟩
      congr 1
      show (acc.cps ++ _ ++ _) ++ _ = acc.cps ++ ((_ ++ _) ++ _)
      simp only [Array.append_assoc]
    · rw [if_neg hk, if_neg hk, ← fl]
      have c : (Str.ofString "") = toStr [] := toStr_str _
      show (acc ++ Str.ofString "" ++ toStr t) ++ _ = _
      rw [c]
      simp only [toStr_app]
      show (⟨_⟩ : Str) = ⟨_⟩
      congr 1
      show (acc.cps ++ (#[] : Array Nat) ++ _) ++ _ = acc.cps ++ (_ ++ _)
      simp only [Array.append_assoc, Array.append_empty, Array.empty_append]
theorem join_join : ∀ ts : List S, Str.join ", " (ts.map toStr) = toStr (joinS ts)
  | [] => rfl
  | [x] => rfl
  | x :: y :: r => by
    show toStr x ++ Str.ofString ", " ++ Str.join ", " ((y :: r).map toStr) = _
    rw [join_join (y :: r), toStr_str]
    show _ = toStr (x ++ ([44, 32] ++ joinS (y :: r)))
    simp only [toStr_app]
    show (⟨_⟩ : Str) = ⟨_⟩
    congr 1
    show (_ ++ _) ++ _ = _ ++ (_ ++ _)
    simp only [Array.append_assoc]
    rfl
theorem list_text (ts : List S) : listText (ts.map toStr) = toStr (91 :: (joinS ts ++ [93])) := by
  unfold listText
  rw [textFrom_join]
  show Str.ofString "[" ++ _ ++ Str.ofString "]" = _
  rw [if_neg (by decide), toStr_str, toStr_str, ← toStr_app, ← toStr_app]
  rfl
theorem tuple_text (ts : List S) : tupleText (ts.map toStr) = toStr (40 :: (joinS ts ++ (if ts.length == 1 then [44, 41] else [41]))) := by
  unfold tupleText
  rw [join_join, List.length_map]
  have e : (Str.ofString (if ts.length == 1 then ",)" else ")")) = toStr (if ts.length == 1 then [44, 41] else [41]) := by
    split
    · rw [toStr_str]; rfl
    · rw [toStr_str]; rfl
  show Str.ofString "(" ++ _ ++ Str.ofString _ = _
  rw [e, toStr_str, ← toStr_app, ← toStr_app]
  rfl
theorem int_text (i : Int) : (Str.ofString (toString i)) = toStr (intS i) := by
  rw [toStr_str]
  congr 1
  cases i with
  | ofNat n =>
    show (toString (Int.ofNat n)).toList.map Char.toNat = digS n
    have : toString (Int.ofNat n) = Nat.repr n := rfl
    rw [this, Nat.repr]
    unfold digS
    simp
  | negSucc n =>
    have : toString (Int.negSucc n) = "-" ++ Nat.repr (n + 1) := rfl
    rw [this, Nat.repr]
    show _ = 45 :: digS (n + 1)
    unfold digS
    simp
mutual
theorem shD_ok : ∀ (d : PyData) (s : S), shD d = some s → d.shown = toStr s ∧ d.showable = true
  | .none, s, e => by
    cases e
    refine ⟨?_, rfl⟩
    show Str.ofString "None" = _
    rw [toStr_str]; rfl
  | .bool b, s, e => by
    cases e
    refine ⟨?_, rfl⟩
    simp only [PyData.shown]
    cases b
    · exact toStr_str "False"
    · exact toStr_str "True"
  | .int i, s, e => by
    unfold shD at e
    split at e
    · cases e
      rename_i q
      refine ⟨?_, ?_⟩
      · show Str.ofString (toString i) = _
        exact int_text i
      · simp only [PyData.showable, decide_eq_true_eq]; exact q
    · cases e
  | .str x, s, e => by
    unfold shD at e
    split at e
    · cases e
      rename_i q
      exact ⟨rtext q, rfl⟩
    · cases e
  | .list xs, s, e => by
    unfold shD at e
    cases q : shDs xs with
    | none => rw [q] at e; cases e
    | some ts =>
      rw [q] at e
      cases e
      obtain ⟨h1, h2⟩ := shDs_ok xs ts q
      refine ⟨?_, by simp only [PyData.showable]; exact h2⟩
      simp only [PyData.shown]
      rw [h1]
      exact list_text ts
  | .tuple xs, s, e => by
    unfold shD at e
    cases q : shDs xs with
    | none => rw [q] at e; cases e
    | some ts =>
      rw [q] at e
      cases e
      obtain ⟨h1, h2⟩ := shDs_ok xs ts q
      refine ⟨?_, by simp only [PyData.showable]; exact h2⟩
      simp only [PyData.shown]
      rw [h1]
      exact tuple_text ts
  | .dict _, s, e => by cases e
theorem shDs_ok : ∀ (ds : List PyData) (ts : List S), shDs ds = some ts → PyData.shownAll ds = ts.map toStr ∧ PyData.showableAll ds = true
  | [], ts, e => by cases e; exact ⟨rfl, rfl⟩
  | d :: ds, ts, e => by
    unfold shDs at e
    cases q : shD d with
    | none => rw [q] at e; cases e
    | some t =>
      rw [q] at e
      cases q2 : shDs ds with
      | none => rw [q2] at e; cases e
      | some us =>
        rw [q2] at e
        cases e
        obtain ⟨h1, h2⟩ := shD_ok d t q
        obtain ⟨h3, h4⟩ := shDs_ok ds us q2
        refine ⟨?_, ?_⟩
        · simp only [PyData.shownAll, List.map_cons]
          rw [h1, h3]
        · simp only [PyData.showableAll, h2, h4, Bool.and_self]
end
def cRepD : OpC := fun vs h => match vs with
  | [v] => match dat 12 h v with
    | some d => match shD d with
      | some s => match Nat.ble d.depth 20 && small s.length with
        | true => some (.str s, h)
        | false => none
      | none => none
    | none => none
  | _ => none
section
variable {G : Gx} {X : Cx}
end
end ML
end
section
namespace ML
open PySem PySem.Spec PyProof.Rows L2 He
structure FnOkG (P : Program) (w : World) (K : PySem.W.Frag) (mg : Str → Option Value) (base : Heap) (k : Nat) (f : Addr) (fd : FuncData) (ps : List Str) (sp : Sp) : Prop where
  gl : ∀ vs H Q E, sp vs H Q E → vs.length = ps.length
  go : ∀ (B : Around) (out : List Env) (t : Shared) (H : Hp) (a : Args) (us : List Value) (vs : List V) (Q : VK) (E : XK), B.guards = some [] → Room k B → Env0 P w K mg base B out t H → BindsTo t fd a (ps.zip us) → Vals vs us → sp vs H Q E →
    codeAny (model P w) B (.call (.ref f) a) (CR (L2.CX P w) out P w H t Q E) t
section
variable {G : Gx} {W : WX} {X : Cx} {k np : Nat} {f : Addr} {fd : FuncData} {ps : List Str} {g : MF} {P : Program} {w : World} {K : PySem.W.Frag} {mg : Str → Option Value} {base : Heap}
end
structure DOkG (P : Program) (w : World) (K : PySem.W.Frag) (mg : Str → Option Value) (base : Heap) (nm : Nat → Option Str) (k : Nat) (p : Defn) (ps : List Str) (g : MF) : Prop where
  ok : FnOkG P w K mg base k (p K) (fdOf K p) ps (spM (GxOf w K mg nm) ps.length g)
  ar : Arity ps.length g
  kp : PySem.W.keepIn K (.ref (p K)) = true
section
variable {G : Gx} {W : WX} {X : Cx} {e : Expr} {es : List Expr} {pos p : Pos} {ma : MA} {nm : Nat → Option Str}
end
section
variable {P : Program} {w : World} {K : PySem.W.Frag} {mg mb : Str → Option Value} {k : Nat} {fa a : Addr} {fd : FuncData} {x : Str} {sp : Sp} {s1 : Shared} {vs : List Value} {ns : List Int}
end
end ML
end
section
namespace PySem
open Sem (wp)
open AutoSeq1 (wpAny_loadPart')
section
variable {prog : Program} {w : World} {A : Around} {E : Value → Shared → Prop} {s : Shared}
end
end PySem
namespace L2
open PySem PySem.Spec PyProof.Rows
end L2
namespace ML
open PySem PySem.Spec PyProof.Rows L2 He
def enumV (xs : List VI) : List VI := xs.mapIdx fun i x => .tup [.int (i : Nat), x]
def enuOf : VI → Hi → Option Itm := fun v h => match v with
  | .tup xs => some (.tup (enumV xs))
  | v => enlOf v h
def iEnumU (e : ME) : MI := fun σ h => (e σ h).bind fun v h1 => ofI (enuOf v h1) h1
section
variable {G : Gx} {W : WX} {X : Cx} {e : Expr} {me : ME} {ρ : List Addr} {H : Hp} {p pos tpos : Pos} {elts : List Expr} {kk : Nat}
end
end ML
namespace ML
open PySem PySem.Spec PyProof.Rows L2 He
theorem enumV_r2 {r : List Nat} {xs ys : List VI} (t : RVs2 r xs ys) : RVs2 r (enumV xs) (enumV ys) := by
  have go : ∀ (xs ys : List VI) (k : Nat), RVs2 r xs ys → RVs2 r (xs.mapIdx fun i x => .tup [.int ((i + k : Nat)), x]) (ys.mapIdx fun i x => .tup [.int ((i + k : Nat)), x]) := by
    intro xs
    induction xs with
    | nil => intro ys k t; cases t; exact .nil
    | cons x xs ih =>
      intro ys k t
      cases t with
      | @cons _ y _ ys' p q =>
        simp only [List.mapIdx_cons]
        refine .cons (.tup (.cons (.int _) (.cons p .nil))) ?_
        have := ih ys' (k + 1) q
        simpa [Nat.add_assoc, Nat.add_comm 1 k] using this
  have := go xs ys 0 t
  simpa [enumV] using this
instance {ma : ME} [x : LE ma] : LI (iEnumU ma) := ⟨fun r s h σ σ' g a => (x.run r s h σ σ' g a).bind fun r1 s1 h1 v v' e1 g1 q1 => by
  unfold enuOf
  cases q1 with
  | @ref n m p =>
    have k := listAt2 g1 p
    unfold enlOf
    dsimp only
    cases z1 : listAt n s1 with
    | none => trivial
    | some xs => cases z2 : listAt m h1 with
      | none => rw [z1, z2] at k; exact k.elim
      | some ys => exact .ok g1 (.enl p)
  | tup t => exact .ok g1 (.tup (enumV_r2 t))
  | _ => trivial⟩
end ML
end
section
namespace ML
open PySem L2
def kdInK (neg : Bool) (tbl : S → Option VI) : VI → Hi → Res VI := fun v h1 => match v with
  | .str s => match tbl s with
    | some _ => .ok (.bl (!neg)) h1
    | none => .err
  | _ => .err
def eKdIn (neg : Bool) (tbl : S → Option VI) (b : ME) : ME := fun σ h => (b σ h).bind (kdInK neg tbl)
section
variable {G : Gx} {W : WX} {X : Cx} {b : Expr} {pos p : Pos} {mb : ME}
end
end ML
end
section
namespace ML
open PySem L2
instance {neg : Bool} {tbl : S → Option VI} {ma : ME} [x : LE ma] : LE (eKdIn neg tbl ma) := ⟨fun r s h σ σ' g a => (x.run r s h σ σ' g a).bind fun r1 s1 h1 v v' e1 g1 q1 => by
  cases q1 with
  | str y =>
    dsimp only [kdInK]
    cases z : tbl y with
    | none => trivial
    | some w => exact .ok g1 (.bl _)
  | _ => trivial⟩
end ML
end
section
namespace HT
open PySem PySem.Spec PyProof.Rows L2
theorem pick_rev (xs : Array Value) : ((List.range xs.size).filterMap fun (m : Nat) => xs[(((xs.size : Int) - 1) + (m : Int) * (-1)).toNat]?).toArray = xs.toList.reverse.toArray := by
  have e : (List.range xs.size).map (fun (m : Nat) => xs[(((xs.size : Int) - 1) + (m : Int) * (-1)).toNat]?) = xs.toList.reverse.map some := by
    apply List.ext_getElem
    · simp
    · intro i h1 h2
      have hi : i < xs.size := by simpa using h1
      have q : (((xs.size : Int) - 1) + (i : Int) * (-1)).toNat = xs.size - 1 - i := by omega
      have l : xs.size - 1 - i < xs.size := by omega
      simp only [List.getElem_map, List.getElem_range, List.getElem_reverse, Array.length_toList, Array.getElem_toList, q]
      exact Array.getElem?_eq_getElem l
  have f : (List.range xs.size).filterMap (fun (m : Nat) => xs[(((xs.size : Int) - 1) + (m : Int) * (-1)).toNat]?) = xs.toList.reverse := by
    have a : (List.range xs.size).filterMap (fun (m : Nat) => xs[(((xs.size : Int) - 1) + (m : Int) * (-1)).toNat]?) = ((List.range xs.size).map (fun (m : Nat) => xs[(((xs.size : Int) - 1) + (m : Int) * (-1)).toNat]?)).filterMap id := by
      rw [List.filterMap_map]; rfl
    rw [a, e, List.filterMap_map]
    simp
  rw [f]
section
variable {prog : Program} {w : World} {A : Around} {E : Value → Shared → Prop} {s : Shared}
theorem sliceApplied_rev {sl : Addr} {vl vu vs : Value} {n : Nat} {Q : Int × Int × Nat → Shared → Prop} (hs : s.heap.IsSliceOf sl vl vu vs) (pl : IsPart vl none) (pu : IsPart vu none) (ps : IsPart vs (some (-1)))
    (h : Q ((n : Int) - 1, -1, n) s) : wpAny (model prog w) A (Builtin.Slice.sliceApplied (.ref sl) (pure (n : Int))) Q E s := by
  obtain ⟨os, hos, hcs, hds⟩ := id hs
  unfold Builtin.Slice.sliceApplied Builtin.Slice.sliceFields
  refine wpAny_bind (wpAny_bind (wpAny_field hos hds (x := vl) rfl (wpAny_bind (wpAny_field hos hds (x := vu) rfl (wpAny_bind (wpAny_field hos hds (x := vs) rfl (wpAny_pure ?_)))))))
  refine wpAny_bind (slicePart_ ps ?_)
  show wpAny _ _ (if ((-1 : Int) == 0) = true then _ else _) _ _ s
  rw [if_neg (by decide)]
  refine wpAny_bind (slicePart_ pl (wpAny_bind (slicePart_ pu (wpAny_bind (wpAny_pure ?_)))))
  have pc : Builtin.Slice.slicePlaces ((n : Int) - 1) (-1) (-1) = n := by
    unfold Builtin.Slice.slicePlaces
    rw [if_neg (by decide)]
    by_cases q : (n : Int) - 1 > -1
    · rw [if_pos q]
      have : ((n : Int) - 1 - -1 - 1) / (- -1) + 1 = n := by
        rw [show (- -1 : Int) = 1 by rfl, Int.ediv_one]; omega
      rw [this]; rfl
    · rw [if_neg q]; omega
  show wpAny _ _ (pure ((n : Int) - 1, (-1 : Int), Builtin.Slice.slicePlaces ((n : Int) - 1) (-1) (-1))) _ _ s
  rw [pc]
  exact wpAny_pure h
theorem getItem_tuple_rev {t sl : Addr} {items : Array Value} {vl vu vs : Value} {Q : Value → Shared → Prop} (ht : IsTup s.heap t items) (hs : s.heap.IsSliceOf sl vl vu vs) (pl : IsPart vl none) (pu : IsPart vu none) (ps : IsPart vs (some (-1)))
    (h : Q (.ref s.heap.objs.size) { s with heap := s.heap.push { cls := .type "tuple", data := .seq items.toList.reverse.toArray } })
    (hsz : items.size ≤ sizeLine) : wpAny (model prog w) A (getItem (.ref t) (.ref sl)) Q E s := by
  have htake : sizeOk (.seq items.toList.reverse.toArray) := by
    show items.toList.reverse.toArray.size ≤ sizeLine
    rw [List.size_toArray, List.length_reverse, Array.length_toList]
    exact hsz
  obtain ⟨os, hos, hcs, hds⟩ := id hs
  have hTs : s.TypeIs (.ref sl) "slice" := ⟨os, hos, hcs⟩
  unfold getItem
  try with_reducible refine wpAny_holding ?_
  first | refine wpAny_bind (wpAny_pure ?_) | skip
  refine wpAny_bind (wpAny_sequenceKey ht.typeIs (by decide) ?_)
  refine wpAny_bind (wpAny_callSpecial?_slot (name := Str.ofString "__getitem__") ht.typeIs PyProof.Rows.slot_tuple_getitem
    (wpAny_call_entry PyProof.Rows.slot_tuple_getitem ht.typeIs entry_tuple_getitem ?_ (args_tuple_getitem _ _)))
  show wpAny _ _ (Builtin.Tuple.tupleItemsOf (.ref t) >>= _) _ _ s
  refine wpAny_bind (tupleItemsOf_ ht ?_)
  refine wpAny_bind (wpAny_typeOf hTs ?_)
  rw [if_pos (by decide)]
  refine wpAny_bind (sliceApplied_rev (n := items.size) hs pl pu ps ?_)
  have hno : ¬ ((((items.size : Int) - 1) == 0 && (-1 : Int) == 1 && items.size == items.size) = true) := by
    intro q
    rw [Bool.and_eq_true, Bool.and_eq_true] at q
    exact absurd q.1.2 (by decide)
  show wpAny _ _ (if (((items.size : Int) - 1) == 0 && (-1 : Int) == 1 && items.size == items.size) = true then _ else _) _ _ s
  rw [if_neg hno, pick_rev]
  first
    | exact wpAny_bind (m := Builtin.Tuple.tupleExact _) (wpAny_newObj_type (wpAny_pure ⟨_, rfl, wpAny_pure h⟩) htake)
    | exact wpAny_bind (m := Builtin.Tuple.tupleExact _) (wpAny_newObj_type (wpAny_bind (wpAny_pure (wpAny_pure ⟨_, rfl, wpAny_pure h⟩))) htake)
    | exact wpAny_bind (wpAny_bind (m := Builtin.Tuple.tupleExact _) (wpAny_newObj_type (wpAny_pure (wpAny_pure ⟨_, rfl, wpAny_pure h⟩)) htake))
    | exact wpAny_bind (wpAny_bind (m := Builtin.Tuple.tupleExact _) (wpAny_newObj_type (wpAny_pure ⟨_, rfl, wpAny_pure h⟩) htake))
end
end HT
namespace L2
open PySem PySem.Spec PyProof.Rows
section
variable {X : Cx}
def tRevA (K : PySem.W.Frag) (te : TE) : TE := fun σ H Q => te σ H fun x H1 => ∃ a xs, x = .ref a ∧ ((SqL K H1 a xs ∧ ∀ p, H1 p = none → Q (.ref p) (upd H1 p (.lst xs.reverse))) ∨ (SqT K H1 a xs ∧ ∀ p, H1 p = none → Q (.ref p) (upd H1 p (.tup xs.reverse))))
theorem pe_revA {e : Expr} {te : TE} {k : Nat} {p1 p2 p3 pos : Pos} (he : PE X e te) : PE X (.Subscript e (.Slice none none (some (.UnaryOp .USub (.Constant (.int 1) k p1) p2)) p3) pos) (tRevA X.K te) := by
  refine ⟨fun pins s σ H Q I h => ?_⟩
  refine Subscript_ (thn (he.run pins s σ H _ I h) fun v s1 ⟨x, H1, I1, r1, q1⟩ => ?_)
  obtain ⟨a, xs, ex, q⟩ := q1
  subst ex
  cases r1
  have hst : PO X (some (.UnaryOp .USub (.Constant (.int 1) k p1) p2)) (tPart (tUn (rU fun i => .int (-i)) (tC (.int 1)))) := po_some (pe_un un_neg pe_int)
  refine wpAny_Slice (thn (po_none.run pins s1 σ H1 (fun o H2 => o = none ∧ H2 = H1) I1 ⟨rfl, rfl⟩) fun vl s2 ⟨l, H2, I2, pl, el, e2⟩ => ?_)
  subst el e2
  refine thn (po_none.run pins s2 σ H2 (fun o H3 => o = none ∧ H3 = H2) I2 ⟨rfl, rfl⟩) fun vu s3 ⟨u, H3, I3, pu, eu, e3⟩ => ?_
  subst eu e3
  refine thn (hst.run pins s3 σ H3 (fun o H4 => o = some (-1) ∧ H4 = H3) I3 ⟨1, rfl, -1, rfl, rfl, rfl⟩) fun vs s4 ⟨o, H4, I4, ps, eo, e4⟩ => ?_
  subst eo e4
  have I5 : Inv X pins σ H4 { s4 with heap := s4.heap.push { cls := .type "slice", data := .fields #[vl, vu, vs] } } := I4.kept (t' := s4.toks) fun b ob q => Heap.get?_push_of_some _ q
  show wpAny (model X.prog X.w) X.A (subscriptTail e (.Slice none none (some (.UnaryOp .USub (.Constant (.int 1) k p1) p2)) p3) (.ref a) (.ref s4.heap.objs.size)) (EP X pins σ Q) X.xe { s4 with heap := s4.heap.push { cls := .type "slice", data := .fields #[vl, vu, vs] } }
  rcases q with ⟨hx, q⟩ | ⟨hx, q⟩
  · obtain ⟨its, r, ht, hz⟩ := I5.list hx
    have hlen := r.length
    refine tail_any (ops := [.ref a, .ref s4.heap.objs.size]) ht.isList.typeIs (PySem.slot_list_getitem.lookup) ?_ (by with_unfolding_all rfl)
    refine wpAny_getItem_list_slice ht.isList (Heap.IsSliceOf.new _ vl vu vs) pl pu ps (by decide) ?_ (by rw [List.size_toArray]; omega)
    rw [PySem.W.krv_pick]
    refine ⟨.ref _, _, I5.laid (t' := s4.toks) (o := .lst xs.reverse) (fun b ob q => Heap.get?_push_of_some _ q) (Nat.le_refl _) ?_, rfl, q _ (I5.hok.fresh (Nat.le_refl _))⟩
    exact ⟨by rw [List.length_reverse]; exact hz, _, 0, r.reverse, Heap.get?_push_size _ rfl⟩
  · obtain ⟨its, r, ht, hz⟩ := I5.tuple hx
    have hlen := r.length
    refine tail_any (ops := [.ref a, .ref s4.heap.objs.size]) ht.typeIs (PyProof.Rows.slot_tuple_getitem.lookup) ?_ (by with_unfolding_all rfl)
    refine HT.getItem_tuple_rev ht (Heap.IsSliceOf.new _ vl vu vs) pl pu ps ?_ (by rw [List.size_toArray]; omega)
    refine ⟨.ref _, _, I5.laid (t' := s4.toks) (o := .tup xs.reverse) (fun b ob q => Heap.get?_push_of_some _ q) (Nat.le_refl _) ?_, rfl, q _ (I5.hok.fresh (Nat.le_refl _))⟩
    exact ⟨by rw [List.length_reverse]; exact hz, _, r.reverse, IsTup.new _ _⟩
end
end L2
namespace ML
open PySem L2
section
variable {G : Gx} {W : WX} {X : Cx} {e : Expr} {me : ME} {ρ : List Addr} {H : Hp}
theorem RVs.reverse : ∀ {xs : List VI} {ys : List V}, RVs G ρ H xs ys → RVs G ρ H xs.reverse ys.reverse
  | _, _, .nil => .nil
  | _, _, .cons h t => by
    rw [List.reverse_cons, List.reverse_cons]
    exact (RVs.reverse t).append (.cons h .nil)
def revM (x : VI) (h : Hi) : Option (VI × Hi) := match x with
  | .tup xs => some (.tup xs.reverse, h)
  | .ref n => match h[n]? with
    | some (.lst xs) => some (.ref h.length, h ++ [.lst xs.reverse])
    | some (.scr xs) => some (.ref h.length, h ++ [.lst xs.reverse])
    | _ => none
  | _ => none
def eRev (e : ME) : ME := fun σ h => (e σ h).bind fun x h1 => ofO (revM x h1)
theorem me_rev {k : Nat} {p1 p2 p3 pos : Pos} (hG : G.K = X.K) (he : PE X e (rdE G W me)) : PE X (.Subscript e (.Slice none none (some (.UnaryOp .USub (.Constant (.int 1) k p1) p2)) p3) pos) (rdE G W (eRev me)) :=
  PE.imp' (pe_revA he) fun σ H Q ⟨ρ, σi, h, as, ag, f⟩ => rdG_go as ag f fun ρ1 H1 h1 x x' st as ag r f => by
    have fi := FinO.of f
    unfold revM at fi
    cases r with
    | @tup xs ys a t1 s1 =>
      exact ⟨a, ys, rfl, .inr ⟨hG ▸ t1, fun p hp => fi ρ1 _ _ (Stp.more hp) (ag.more hp) (.tup (.inl (.inl upd_same)) (s1.reverse.mono (Stp.more hp)))⟩⟩
    | @ref n a e =>
      dsimp only at fi
      cases q1 : h1[n]? with
      | none => rw [q1] at fi; exact fi.elim
      | some ob =>
        rw [q1] at fi
        cases ob with
        | lst xs =>
          obtain ⟨ys, hy, rs⟩ := ag.at_ q1 e
          exact ⟨a, ys, rfl, .inl ⟨.inl (.inl hy), fun p hp => FinO.new fi ag hp ⟨_, upd_same, rs.reverse.mono (Stp.new hp)⟩⟩⟩
        | scr xs =>
          obtain ⟨ob, ys, hy, rs⟩ := ag.at_ q1 e
          exact ⟨a, ys, rfl, .inl ⟨.inl (.inr ⟨_, hy⟩), fun p hp => FinO.new fi ag hp ⟨_, upd_same, rs.reverse.mono (Stp.new hp)⟩⟩⟩
        | _ => exact fi.elim
    | _ => exact fi.elim
end
theorem z_eRev (e : ME) (σ : Sg) (h : Hi) : eRev e σ h = (e σ h).bind fun x h1 => ofO (revM x h1) := rfl
end ML
end
section
namespace ML
open PySem L2
theorem RVs2.reverse {r : List Nat} : ∀ {v x : List VI}, RVs2 r v x → RVs2 r v.reverse x.reverse
  | _, _, .nil => .nil
  | _, _, .cons a t => by
    rw [List.reverse_cons, List.reverse_cons]
    exact (RVs2.reverse t).append (.cons a .nil)
instance {ma : ME} [x : LE ma] : LE (eRev ma) := ⟨fun r s h σ σ' g a => (x.run r s h σ σ' g a).bind fun r1 s1 h1 v v' e1 g1 q1 => by
  refine .ofO ?_
  unfold revM
  cases q1 with
  | tup t => exact .ok g1 (.tup t.reverse)
  | ref i =>
    obtain ⟨o, o', z1, z2, z3⟩ := g1.no i
    dsimp only
    rw [z1, z2]
    cases z3 with
    | lst t => exact .new g1 fun r' e => .lst (t.reverse.mono e)
    | scr t => exact .new g1 fun r' e => .lst (t.reverse.mono e)
    | _ => trivial
  | _ => trivial⟩
end ML
end
section
namespace ML
open PySem L2
instance {i : Nat} {tbl : Nat → Option MF} {me : ME} [c : LTb tbl] [y : LE me] : LS (sAugE i tbl me) := ⟨fun r s h σ σ' g a => by
  unfold sAugE
  cases z : σ[i]? with
  | none => trivial
  | some o =>
    cases o with
    | none => trivial
    | some v =>
      obtain ⟨w, k1, k2⟩ := a.at_ i v z
      rw [k1]
      refine (y.run _ _ _ _ _ g a).bindS a fun r1 s1 h1 u u' e1 g1 q1 => ?_
      unfold augEK
      rw [ins2 g1 (k2.mono e1)]
      cases z1 : insC v s1 with
      | none => trivial
      | some d =>
        dsimp only
        cases w0 : tbl d with
        | none => trivial
        | some f => exact ((c.run _ _ w0).run _ _ _ _ _ g1 (.cons (k2.mono e1) (.cons q1 .nil))).bindS (a.mono e1) fun r2 s2 h2 z z' e2 g2 q2 => ⟨r2, h2, _, rfl, .refl, g2, ((a.mono e1).mono e2).set q2 i⟩⟩
instance {body su : MS} {mt : Nat → Option Bool} [x : LS body] [y : LS su] : LS (sTryO body mt su) := ⟨fun r s h σ σ' g a => by
  have k := x.run r s h σ σ' g a
  unfold sTryO
  cases z : body σ s with
  | err => trivial
  | nx σ1 s' => rw [z] at k; obtain ⟨r2, h2, m, e1, e2, g2, a2⟩ := k; rw [e1]; exact ⟨r2, h2, _, rfl, e2, g2, a2⟩
  | bk σ1 s' => rw [z] at k; obtain ⟨r2, h2, m, e1, e2, g2, a2⟩ := k; rw [e1]; exact ⟨r2, h2, _, rfl, e2, g2, a2⟩
  | ct σ1 s' => rw [z] at k; obtain ⟨r2, h2, m, e1, e2, g2, a2⟩ := k; rw [e1]; exact ⟨r2, h2, _, rfl, e2, g2, a2⟩
  | rt v s' => rw [z] at k; obtain ⟨r2, h2, m, e1, e2, g2, a2⟩ := k; rw [e1]; exact ⟨r2, h2, _, rfl, e2, g2, a2⟩
  | ex c n σ1 s' =>
    rw [z] at k
    obtain ⟨r2, h2, σ2, m, e1, e2, g2, a2, q⟩ := k
    rw [e1]
    refine L2S.ext e2 ?_
    show L2S r2 h2 (onlyS mt su c n σ1 s') (onlyS mt su c m σ2 h2)
    unfold onlyS
    cases w : mt c with
    | none => trivial
    | some b =>
      cases b with
      | false => exact ⟨r2, h2, σ2, m, rfl, .refl, g2, a2, q⟩
      | true =>
        have t := y.run r2 s' h2 σ1 σ2 g2 a2
        dsimp only
        cases z2 : su σ1 s' with
        | err => trivial
        | ex _ _ _ _ => trivial
        | nx σ3 s3 => rw [z2] at t; obtain ⟨r3, h3, m, e1, e2, g2, a2⟩ := t; rw [e1]; exact ⟨r3, h3, _, rfl, e2, g2, a2⟩
        | bk σ3 s3 => rw [z2] at t; obtain ⟨r3, h3, m, e1, e2, g2, a2⟩ := t; rw [e1]; exact ⟨r3, h3, _, rfl, e2, g2, a2⟩
        | ct σ3 s3 => rw [z2] at t; obtain ⟨r3, h3, m, e1, e2, g2, a2⟩ := t; rw [e1]; exact ⟨r3, h3, _, rfl, e2, g2, a2⟩
        | rt v s3 => rw [z2] at t; obtain ⟨r3, h3, m, e1, e2, g2, a2⟩ := t; rw [e1]; exact ⟨r3, h3, _, rfl, e2, g2, a2⟩⟩
instance {gs : List MG} [q : LGs gs] : LG (gLstM gs) := ⟨fun r s h σ σ' v v' g a p => by
  unfold gLstM
  cases p with
  | @ref n m t =>
    dsimp only
    have k := listAt2 g t
    cases z1 : listAt n s with
    | none => trivial
    | some xs =>
      cases z2 : listAt m h with
      | none => rw [z1, z2] at k; cases k
      | some ys =>
        rw [z1, z2] at k
        have k : RVs2 r xs ys := k
        dsimp only
        rw [k.length]
        split
        · exact q.run _ _ _ _ _ _ _ g a k
        · trivial
  | _ => trivial⟩
end ML
end
section
namespace ML
open PySem L2
instance : LOc cRepD := ⟨fun r s h vs vs' g t => by
  unfold cRepD
  cases t with
  | nil => trivial
  | cons p t =>
    cases t with
    | cons _ _ => trivial
    | nil =>
      dsimp only
      rename_i v w
      cases z : dat 12 s v with
      | none => trivial
      | some d =>
        rw [dat2 g _ _ _ _ p z]
        dsimp only
        cases shD d with
        | none => trivial
        | some x =>
          dsimp only
          cases Nat.ble d.depth 20 && small x.length with
          | false => trivial
          | true => exact .ok g (.str _)⟩
end ML
end
section
namespace ML
open PySem PySem.Spec PyProof.Rows L2 He
def sameRef : VI → VI → Bool
  | .ref m, .ref n => Nat.beq m n
  | _, _ => false
def bltI : Option TyI → Option String
  | some (.bt "NoneType") => some "NoneType"
  | some (.bt "int") => some "int"
  | some (.bt "str") => some "str"
  | some (.bt "list") => some "list"
  | some (.bt "tuple") => some "tuple"
  | _ => none
def eqRefU (cs : List Nat) (tbl : Nat → Option MF) (c : Nat) (y x : VI) (h : Hi) : Res VI := match sameRef y x with
  | true => .ok (.bl true) h
  | false => match insC y h with
    | some c' => match tbl c', nfI cs (tyI x h) with
      | some g, true => boolR (g [y, x] h)
      | _, _ => .err
    | none => match bltI (tyI y h), tbl c with
      | some _, some g => boolR (g [x, y] h)
      | _, _ => .err
def inTurnsU (cs : List Nat) (tbl : Nat → Option MF) (n : Nat) (c : Nat) (x : VI) : Nat → Nat → Hi → Res VI
  | 0, i, h => match listAt n h with
    | some ys => match Nat.ble ys.length i with
      | true => .ok (.bl false) h
      | false => .err
    | none => .err
  | k + 1, i, h => match listAt n h with
    | none => .err
    | some ys => match ys[i]? with
      | none => .ok (.bl false) h
      | some y => match insC x h with
        | some d => match Nat.beq d c with
          | true => (eqRefU cs tbl c y x h).bind fun v h' => match v with
            | .bl true => .ok (.bl true) h'
            | .bl false => inTurnsU cs tbl n c x k (i + 1) h'
            | _ => .err
          | false => .err
        | none => .err
def eInU (neg : Bool) (cs : List Nat) (tbl : Nat → Option MF) (f : Op2) (a b : ME) : ME := fun σ h => (a σ h).bind fun x h1 => (b σ h1).bind fun y h2 => match insC x h2 with
  | some c => match y with
    | .ref n => match listAt n h2 with
      | some ys => (inTurnsU cs tbl n c x ys.length 0 h2).bind fun v h3 => match v with
        | .bl b => .ok (.bl (neg != b)) h3
        | _ => .err
      | none => .err
    | _ => .err
  | none => ofO (f x y h2)
section
variable {G : Gx} {ρ : List Addr} {h : Hi} {H : Hp} {W : WX} {X : Cx} {A : Around} {a b : Expr} {pos : Pos} {ma mb : ME} {tbl : Nat → Option MF} {σ : L2.St} {cs : List Nat} {f : Op2} {neg : Bool}
end
section
variable {w : World} {K : PySem.W.Frag} {mg : Str → Option Value} {nm : Nat → Option Str}
end
theorem same2 {r : List Nat} (nd : r.Nodup) {x y x' y' : VI} (p : RV2 r x x') (q : RV2 r y y') : sameRef x' y' = sameRef x y := by
  cases p with
  | @ref n m e =>
    cases q with
    | @ref n' m' e' =>
      show Nat.beq m m' = Nat.beq n n'
      by_cases z : n = n'
      · subst z
        rw [e] at e'
        cases e'
        rw [Nat.beq_refl, Nat.beq_refl]
      · have z' : m ≠ m' := fun w => z ((List.getElem?_inj (List.getElem?_eq_some_iff.mp e).1 nd).mp (by rw [e, e', w]))
        rw [Bool.eq_false_iff.mpr (fun w => z (Nat.eq_of_beq_eq_true w)), Bool.eq_false_iff.mpr (fun w => z' (Nat.eq_of_beq_eq_true w))]
    | _ => rfl
  | _ => cases q <;> rfl
section
variable {r : List Nat} {s h : Hi} {cs : List Nat} {tbl : Nat → Option MF}
theorem eqRef2 [c : LTb tbl] {d : Nat} (g : Ag2 r s h) {x y x' y' : VI} (p : RV2 r x x') (q : RV2 r y y') : L2R RV2 r h (eqRefU cs tbl d x y s) (eqRefU cs tbl d x' y' h) := by
  unfold eqRefU
  rw [same2 g.nd p q, ins2 g p, ty2 g p, ty2 g q]
  cases sameRef x y with
  | true => exact .ok g (.bl true)
  | false =>
    dsimp only
    cases insC x s with
    | some c' =>
      dsimp only
      cases w0 : tbl c' with
      | none => trivial
      | some u =>
        cases nfI cs (tyI y s) with
        | false => trivial
        | true => exact ((c.run _ _ w0).run _ _ _ _ _ g (.cons p (.cons q .nil))).boolR
    | none =>
      dsimp only
      cases bltI (tyI x s) with
      | none => trivial
      | some T =>
        cases w0 : tbl d with
        | none => trivial
        | some u => exact ((c.run _ _ w0).run _ _ _ _ _ g (.cons q (.cons p .nil))).boolR
theorem inTurns2 [c : LTb tbl] {d n n' : Nat} {x x' : VI} : ∀ (k i : Nat) {r : List Nat} {s h : Hi}, Ag2 r s h → RV2 r x x' → r[n]? = some n' → L2R RV2 r h (inTurnsU cs tbl n d x k i s) (inTurnsU cs tbl n' d x' k i h)
  | 0, i, r, s, h, g, p, e => by
    unfold inTurnsU
    have k := listAt2 g e
    cases z1 : listAt n s with
    | none => trivial
    | some xs =>
      cases z2 : listAt n' h with
      | none => rw [z1, z2] at k; cases k
      | some ys =>
        rw [z1, z2] at k
        have k : RVs2 r xs ys := k
        dsimp only
        rw [k.length]
        cases Nat.ble ys.length i with
        | true => exact .ok g (.bl false)
        | false => trivial
  | j + 1, i, r, s, h, g, p, e => by
    unfold inTurnsU
    have k := listAt2 g e
    cases z1 : listAt n s with
    | none => trivial
    | some xs =>
      cases z2 : listAt n' h with
      | none => rw [z1, z2] at k; cases k
      | some ys =>
        rw [z1, z2] at k
        have k : RVs2 r xs ys := k
        dsimp only
        cases z3 : xs[i]? with
        | none =>
          have : ys[i]? = none := by
            have := k.length
            rw [List.getElem?_eq_none_iff] at z3 ⊢
            omega
          rw [this]
          exact .ok g (.bl false)
        | some y =>
          obtain ⟨y', hy, py⟩ := k.get z3
          rw [hy]
          dsimp only
          rw [ins2 g p]
          cases insC x s with
          | none => trivial
          | some d' =>
            dsimp only
            cases Nat.beq d' d with
            | false => trivial
            | true =>
              refine (eqRef2 g py p).bind fun r1 s1 h1 v v' e1 g1 q1 => ?_
              cases q1 with
              | bl b =>
                cases b with
                | true => exact .ok g1 (.bl true)
                | false => exact inTurns2 j (i + 1) g1 (p.mono e1) (e1.pre e)
              | _ => trivial
end
instance {neg : Bool} {cs : List Nat} {tbl : Nat → Option MF} {f : Op2} {ma mb : ME} [c : LTb tbl] [x : LE ma] [y : LE mb] [o : LOp f] : LE (eInU neg cs tbl f ma mb) := ⟨fun r s h σ σ' g a => (x.run r s h σ σ' g a).bind fun r1 s1 h1 v v' e1 g1 q1 => (y.run _ _ _ _ _ g1 (a.mono e1)).bind fun r2 s2 h2 w w' e2 g2 q2 => by
  rw [ins2 g2 (q1.mono e2)]
  cases z : insC v s2 with
  | none => exact .ofO (o.run _ _ _ _ _ _ _ g2 (q1.mono e2) q2)
  | some d =>
    cases q2 with
    | @ref n n' e =>
      dsimp only
      have k := listAt2 g2 e
      cases z1 : listAt n s2 with
      | none => trivial
      | some xs =>
        cases z2 : listAt n' h2 with
        | none => rw [z1, z2] at k; cases k
        | some ys =>
          rw [z1, z2] at k
          have k : RVs2 r2 xs ys := k
          dsimp only
          rw [← k.length]
          refine (inTurns2 xs.length 0 g2 (q1.mono e2) e).bind fun r3 s3 h3 v3 v3' e3 g3 q3 => ?_
          cases q3 with
          | bl b => exact .ok g3 (.bl _)
          | _ => trivial
    | _ => trivial⟩
end ML
end
section
namespace PySem.W
open PySem PyProof.Rows
section
variable {prog : Program} {w : World} {A : Around} {E : Value → Shared → Prop} {s : Shared} {K : Frag} {x C f : Addr} {ox : Obj} {od : Option Obj} {name : Str}
theorem contO_K {M : Model} {y : Value} {Q : Bool → Shared → Prop} (X : K.In s.heap) (I : InstAt s.heap x ox C od) (hs : findIn K (.ref C) "__contains__" = some (some (.ref f))) (hf : isFn K (.ref f) = true)
    (h : wpAny M A (call (.ref f) [.ref x, y]) (fun v s' => ∃ b, v = .bool b ∧ Q b s') E s) : wpAny M A (contains (.ref x) y) Q E s := by
  unfold contains
  refine wpAny_holding ?_
  rw [show stdlibNamesSay? (.ref x) y = none from rfl]
  refine wpAny_bind ((I.type.andThen (looks_findIn X hs)).here ?_)
  show wpAny M A (if (some (Value.ref f) == some Value.none) = true then _ else _) Q E s
  rw [if_neg (by simp)]
  refine wpAny_bind ?_
  simp only [callSpecialUnlessNone?]
  refine wpAny_bind ((I.type.andThen (looks_findIn X hs)).here ?_)
  dsimp only
  refine wpAny_holding (wpAny_bind ((bind_fn X _ (beq_iff_eq.mp hf)).here ?_))
  rw [show (Value.ref f == Value.none) = false from by simp]
  refine wpAny_bind (wpAny_mono h (fun v s' hv => ?_) fun _ _ e => e)
  obtain ⟨b, rfl, q⟩ := hv
  exact wpAny_pure (wpAny_truthy_bool q)
end
end PySem.W
namespace ML
open PySem PySem.Spec PyProof.Rows L2 He
def ctR (neg : Bool) : Res VI → Res VI
  | .ok (.bl b) h => .ok (.bl (neg != b)) h
  | .ex c n h => .ex c n h
  | _ => .err
def eCtU (neg : Bool) (tbl : Nat → Option MF) (f : Op2) (a b : ME) : ME := fun σ h => (a σ h).bind fun x h1 => (b σ h1).bind fun y h2 => match insC y h2 with
  | some c => match tbl c with
    | some g => ctR neg (g [y, x] h2)
    | none => .err
  | none => ofO (f x y h2)
section
variable {G : Gx} {ρ : List Addr} {h : Hi} {H : Hp} {W : WX} {X : Cx} {A : Around} {a b : Expr} {pos : Pos} {ma mb : ME} {tbl : Nat → Option MF} {σ : L2.St} {f : Op2} {neg : Bool}
theorem ctR_fin {Q : VK} {W : Value → Option Addr → Hp → Prop} (r : Res VI) (fr : FinG G ρ H (RV G) Q W (ctR neg r)) : FinG G ρ H (RV G) (fun x H' => ∃ b, x = V.bl b ∧ Q (V.bl (neg != b)) H') W r := by
  cases r with
  | ok v h' =>
    cases v with
    | bl b =>
      intro ρ' H' x st ag' rx
      cases rx
      exact ⟨b, rfl, fr ρ' H' _ st ag' (.bl _)⟩
    | _ => exact fr.elim
  | ex c n h' => exact fr
  | err => exact fr.elim
def RdC (G : Gx) (W : WX) (σ : L2.St) (neg : Bool) (tbl : Nat → Option MF) (f : Op2) (Q : VK) (x y : V) (H2 : Hp) : Prop :=
  rd2 G f x y H2 Q ∨ ∃ ρ2 h2 xi yi c g, Ag G ρ2 h2 H2 ∧ RV G ρ2 H2 xi x ∧ RV G ρ2 H2 yi y ∧ insC yi h2 = some c ∧ tbl c = some g ∧ FinG G ρ2 H2 (RV G) Q (fun c d H' => W c d σ H') (ctR neg (g [yi, xi] h2))
theorem ctU_rd {Q : VK} (q : rdE G W (eCtU neg tbl f ma mb) σ H Q) : rdE G W ma σ H fun x H1 => rdE G W mb σ H1 fun y H2 => RdC G W σ neg tbl f Q x y H2 := by
  obtain ⟨ρ, σi, h, as, ag, fin⟩ := q
  exact rdG_go as ag fin fun ρ1 H1 h1 x x' st as ag r f => rdG_go as ag f fun ρ2 H2 h2 y y' st2 as ag rs f => by
      cases q1 : insC y h2 with
      | none => rw [q1] at f; exact .inl ⟨ρ2, h2, x, y, ag, r.mono st2, rs, FinO.of f⟩
      | some cn =>
        rw [q1] at f
        dsimp only at f
        cases q2 : tbl cn with
        | none => rw [q2] at f; exact f.elim
        | some g => rw [q2] at f; exact .inr ⟨ρ2, h2, x, y, cn, g, ag, r.mono st2, rs, q1, q2, f⟩
theorem ctU_run {op : CmpOp} (hop : (op = .In ∧ neg = false) ∨ (op = .NotIn ∧ neg = true)) (sp : SpOk X X.A G W tbl "__contains__") (ho : OpR X (compareOp op) (rd2 G f))
    {pins : List (Addr × Obj)} {s2 : Shared} {H2 : Hp} {x y : V} {v u : Value} {Q : VK} (I2 : Inv X pins σ H2 s2) (rx : RelV x v) (ry : RelV y u) (q : RdC G W σ neg tbl f Q x y H2) : wpAny (model X.prog X.w) X.A (compareOp op v u) (EP X pins σ Q) X.xe s2 := by
  rcases q with q | ⟨ρ2, h2, xi, yi, cn, g, ag2, r1, r2, q1, q2, fi⟩
  · exact ho pins s2 σ H2 x y v u Q I2 rx ry q
  · obtain ⟨ad, C, dx, gs, ex, hc, hH⟩ := insC_ok ag2 r2 q1
    subst ex
    obtain rfl : u = Value.ref ad := ry
    obtain ⟨f', k1, k2, k3, k4, k5⟩ := sp.at_ cn C g q2 hc
    obtain ⟨m, hF, ox, od, J⟩ := insC_look I2 hH
    have key := ctR_fin (G := G) (ρ := ρ2) (H := H2) (Q := Q) (W := fun c d H' => W c d σ H') (g [yi, xi] h2) fi
    have run : wpAny (model X.prog X.w) X.A (contains (.ref ad) v) (fun b s' => ∃ H', Inv X pins σ H' s' ∧ Q (V.bl (neg != b)) H') X.xe s2 := by
      refine PySem.W.contO_K I2.kIn J k2 k4 ?_
      refine wpAny_mono (k5 pins s2 σ H2 [.ref ad, v] [.ref ad, x] [yi, xi] ρ2 h2 _ I2 (.cons rfl (.cons rx .nil)) (.cons r2 (.cons r1 .nil)) ag2 key) (fun z s3 hz => ?_) fun _ _ z => z
      obtain ⟨x', H', I', rx', b, eb, q'⟩ := hz
      subst eb
      cases (show z = Value.bool b from rx')
      exact ⟨b, rfl, H', I', q'⟩
    rcases hop with ⟨rfl, rfl⟩ | ⟨rfl, rfl⟩
    · show wpAny _ _ (do return Value.bool (← contains (.ref ad) v)) _ _ _
      refine wpAny_bind (wpAny_mono run (fun b s' hv => ?_) fun _ _ e => e)
      obtain ⟨H', I', q⟩ := hv
      exact wpAny_pure ⟨.bl b, H', I', rfl, by simpa using q⟩
    · show wpAny _ _ (do return Value.bool (!(← contains (.ref ad) v))) _ _ _
      refine wpAny_bind (wpAny_mono run (fun b s' hv => ?_) fun _ _ e => e)
      obtain ⟨H', I', q⟩ := hv
      exact wpAny_pure ⟨.bl (!b), H', I', rfl, by simpa using q⟩
theorem me_ctU {op : CmpOp} (hop : (op = .In ∧ neg = false) ∨ (op = .NotIn ∧ neg = true)) (sp : SpOk X X.A G W tbl "__contains__") (ho : OpR X (compareOp op) (rd2 G f)) (ha : PE X a (rdE G W ma)) (hb : PE X b (rdE G W mb))
    (hm : behindInMarks op b = false) : PE X (.Compare a [op] [b] pos) (rdE G W (eCtU neg tbl f ma mb)) := ⟨fun pins s σ H Q I h =>
  wpAny_Compare1 (binT ha hb I (ctU_rd h) fun v u s2 x y H2 I2 rx ry q => ctU_run hop sp ho I2 rx ry q) hm⟩
theorem mt_ctU {op : CmpOp} (hop : (op = .In ∧ neg = false) ∨ (op = .NotIn ∧ neg = true)) (sp : SpOk X X.A G W tbl "__contains__") (ho : OpR X (compareOp op) (rd2 G f)) (ha : PE X a (rdE G W ma)) (hb : PE X b (rdE G W mb))
    (hm : behindInMarks op b = false) : PT X (.Compare a [op] [b] pos) (rdT G W (tOf (eCtU neg tbl f ma mb))) := ⟨fun pins s σ H Q I h =>
  wpAny_isTrue_Compare1 (thn (ha.run pins s σ H _ I (ctU_rd (tOf_rd h))) fun v s1 ⟨x, H1, I1, r1, q1⟩ => thn (hb.run pins s1 σ H1 _ I1 q1) fun u s2 ⟨y, H2, I2, r2, q2⟩ =>
    thn (ctU_run hop sp ho I2 r1 r2 q2) fun c s3 ⟨z, H3, I3, r3, k, e, q3⟩ => by
      subst e
      cases r3
      exact wpAny_truthy_bool ⟨H3, I3, q3⟩) hm⟩
end
theorem L2R.ctR {neg : Bool} {r : List Nat} {h : Hi} {a b : Res VI} (k : L2R RV2 r h a b) : L2R RV2 r h (ctR neg a) (ctR neg b) := by
  cases a with
  | err => trivial
  | ex c n s' =>
    obtain ⟨r', h', m, rfl, e, g, q⟩ := k
    exact ⟨r', h', m, rfl, e, g, q⟩
  | ok v s' =>
    obtain ⟨r', h', v', rfl, e, g, q⟩ := k
    cases q with
    | bl b => exact ⟨r', h', _, rfl, e, g, .bl _⟩
    | _ => trivial
instance {ma mb : ME} {f : Op2} {neg : Bool} {tbl : Nat → Option MF} [c : LTb tbl] [x : LE ma] [y : LE mb] [o : LOp f] : LE (eCtU neg tbl f ma mb) := ⟨fun r s h σ σ' g a => (x.run r s h σ σ' g a).bind fun r1 s1 h1 v v' e1 g1 q1 => (y.run _ _ _ _ _ g1 (a.mono e1)).bind fun r2 s2 h2 w w' e2 g2 q2 => by
  rw [ins2 g2 q2]
  cases z : insC w s2 with
  | none => exact .ofO (o.run _ _ _ _ _ _ _ g2 (q1.mono e2) q2)
  | some d =>
    dsimp only
    cases w0 : tbl d with
    | none => trivial
    | some u => exact ((c.run _ _ w0).run _ _ _ _ _ g2 (.cons q2 (.cons (q1.mono e2) .nil))).ctR⟩
end ML
end
section
namespace ML
open PySem L2 He
def kdInK2 (neg : Bool) (tbl : S → Option VI) (ab : List S) : VI → Hi → Res VI := fun v h1 => match v with
  | .str s => match tbl s with
    | some _ => .ok (.bl (!neg)) h1
    | none => match ab.any fun z => decide (z = s) with
      | true => .ok (.bl neg) h1
      | false => .err
  | _ => .err
def eKdIn2 (neg : Bool) (tbl : S → Option VI) (ab : List S) (b : ME) : ME := fun σ h => (b σ h).bind (kdInK2 neg tbl ab)
section
variable {G : Gx} {W : WX} {X : Cx} {b : Expr} {pos p : Pos} {mb : ME}
end
instance {neg : Bool} {tbl : S → Option VI} {ab : List S} {ma : ME} [x : LE ma] : LE (eKdIn2 neg tbl ab ma) := ⟨fun r s h σ σ' g a => (x.run r s h σ σ' g a).bind fun r1 s1 h1 v v' e1 g1 q1 => by
  cases q1 with
  | str y =>
    dsimp only [kdInK2]
    cases z : tbl y with
    | none =>
      dsimp only
      cases z2 : ab.any fun u => decide (u = y) with
      | true => exact .ok g1 (.bl _)
      | false => trivial
    | some w => exact .ok g1 (.bl _)
  | _ => trivial⟩
end ML
end
section
namespace ML
open PySem PySem.Spec PyProof.Rows L2
section
variable {prog : Program} {w : World} {A : Around} {E : Value → Shared → Prop} {s : Shared}
end
def putSl (x v : VI) (h : Hi) : Option Hi := match x with
  | .ref n => match v with
    | .ref m => match h[n]? with
      | some (.lst xs) => match h[m]? with
        | some (.lst ys) => match !Nat.beq n m && small (xs.length + ys.length) with
          | true => some (h.set n (.lst ys))
          | false => none
        | _ => none
      | _ => none
    | _ => none
  | _ => none
def gSlA (o : ME) : MG := fun v σ h => (o σ h).bindS σ fun x h1 => nxO σ (putSl x v h1)
section
variable {G : Gx} {W : WX} {X : Cx} {o : Expr} {pos p2 : Pos} {mo : ME}
end
end ML
end
section
namespace ML
open PySem PySem.Spec PyProof.Rows L2 He
def restO (us : List Value) : Obj := { cls := .type "tuple", data := .seq us.toArray }
def withRest (s : Shared) (us : List Value) : Shared := { s with heap := s.heap.push (restO us) }
def BindsR (fd : FuncData) (ps : List Str) (m : Nat) (s : Shared) (us : List Value) : Prop :=
  ∀ (M : Model) (A : Around) (E : Value → Shared → Prop) (Q : List (Str × Value) → Shared → Prop), Q (ps.zip (us.take m ++ [.ref s.heap.objs.size])) (withRest s (us.drop m)) → wpAny M A (bindArgs fd ⟨us, []⟩) Q E s
section
variable {P : Program} {w : World} {K : PySem.W.Frag} {mg : Str → Option Value} {base : Heap} {B : Around} {out : List Env} {s : Shared} {H H2 : Hp} {us : List Value} {xs : List V} {fs : List Addr} {a : Addr} {o : HO}
structure FnOkR (P : Program) (w : World) (K : PySem.W.Frag) (mg : Str → Option Value) (base : Heap) (k : Nat) (f : Addr) (fd : FuncData) (ps : List Str) (sp : Sp) : Prop where
  go : ∀ (B : Around) (out : List Env) (t : Shared) (H : Hp) (m : Nat) (us : List Value) (vs : List V) (Q : VK) (E : XK), Room k B → Env0 P w K mg base B out t H → BindsR fd ps m t us → Vals vs us → us.length ≤ sizeLine → m ≤ us.length → ps.length = m + 1 →
    sp (vs.take m ++ [.ref t.heap.objs.size]) (upd H t.heap.objs.size (.tup (vs.drop m))) Q E → codeAny (model P w) B (.call (.ref f) ⟨us, []⟩) (CR (L2.CX P w) out P w H t Q E) t
end
section
variable {G : Gx} {W : WX} {X : Cx} {k np : Nat} {f : Addr} {fd : FuncData} {ps : List Str} {g : MF} {P : Program} {w : World} {K : PySem.W.Frag} {mg : Str → Option Value} {base : Heap}
def restM (m : Nat) (g : MF) : MF := fun args h => match Nat.ble m args.length && Nat.ble args.length 100000 with
  | true => g (args.take m ++ [.tup (args.drop m)]) h
  | false => .err
end
section
variable {K : PySem.W.Frag} {x qual : Str} {body : List Stmt} {scope : Scope} {kws : List (Str × V)} {f : Addr} {fd : FuncData}
end
end ML
end
section
namespace ML
open PySem PySem.Spec PyProof.Rows L2 He
def starV (x : VI) (h : Hi) : Option (List VI) := match x with
  | .tup xs => some xs
  | .ref n => listAt n h
  | _ => none
def starK (mr : MA) (σ : Sg) (x : VI) (h : Hi) : Res (List VI) := match starV x h with
  | some xs => (mr σ h).bind fun ys h2 => .ok (xs ++ ys) h2
  | none => .err
def aStar (me : ME) (mr : MA) : MA := fun σ h => (me σ h).bind (starK mr σ)
section
variable {G : Gx} {W : WX} {X : Cx} {e : Expr} {es : List Expr} {p : Pos} {me : ME} {mr : MA}
variable {f : Addr} {g : MF} {x : Str} {pos : Pos} {ma : MA} {sp_ : Pos}
end
end ML
end
section
namespace ML
open PySem PySem.Spec PyProof.Rows L2 He
def RunM (X : Cx) (G : Gx) (W : WX) (fa : Addr) (f : MF) : Prop :=
  ∀ (pins : List (Addr × Obj)) (s : Shared) (σ : L2.St) (H : Hp) (us : List Value) (vs : List V) (args : List VI) (ρ : List Addr) (h : Hi) (Q : VK), Inv X pins σ H s → Vals vs us → RVs G ρ H args vs → Ag G ρ h H →
    FinG G ρ H (RV G) Q (fun c d H' => W c d σ H') (f args h) →
      codeAny (model X.prog X.w) X.A (.call (.ref fa) ⟨us, []⟩) (fun r s' => match r with | .ok (.ret v) => EP X pins σ Q v s' | .ok _ => False | .error e => X.xe e s') s
section
variable {G : Gx} {W : WX} {X : Cx} {k np m : Nat} {f : Addr} {fd : FuncData} {ps : List Str} {g : MF}
theorem RunM.call (r : RunM X G W f g) : CallM X G W (.ref f) g := fun pins s σ H us vs args ρ h Q I rv ra ag fin => wpAny_call (r pins s σ H us vs args ρ h Q I rv ra ag fin)
variable {o e : Expr} {mo : ME} {i : Nat} {y : Str} {p ep apos pos : Pos}
end
end ML
end
section
namespace ML
open PySem PySem.Spec PyProof.Rows L2 He
structure DOkR (P : Program) (w : World) (K : PySem.W.Frag) (mg : Str → Option Value) (base : Heap) (nm : Nat → Option Str) (k : Nat) (p : Defn) (ps : List Str) (m : Nat) (g : MF) : Prop where
  ok : FnOkR P w K mg base k (p K) (fdOf K p) ps (spM (GxOf w K mg nm) ps.length g)
  bn : ∀ (s : Shared) (us : List Value), K.In s.heap → m ≤ us.length → us.length ≤ sizeLine → BindsR (fdOf K p) ps m s us
  pl : ps.length = m + 1
  kp : PySem.W.keepIn K (.ref (p K)) = true
section
variable {G : Gx} {W : WX} {X : Cx} {nm : Nat → Option Str} {k k' m : Nat} {q : Defn} {ps : List Str} {g : MF}
end
def pairsV : List VI → Option (List (VI × VI))
  | [] => some []
  | .tup [a, b] :: r => match isKey a with
    | true => match pairsV r with
      | some l => some ((a, b) :: l)
      | none => none
    | false => none
  | _ => none
def cDictP : OpC := fun vs h => match vs with
  | [.ref n] => match h[n]? with
    | some (.lst xs) => match pairsV xs with
      | some kvs => some (.ref h.length, h ++ [.dic (putAll kvs [])])
      | none => none
    | some (.dic kvs) => some (.ref h.length, h ++ [.dic kvs])
    | _ => none
  | _ => none
section
variable {G : Gx} {X : Cx}
end
end ML
end
section
namespace ML
open PySem PySem.Spec PyProof.Rows L2 He
def mClear : OpM := fun x vs h => match x with
  | .ref n => match h[n]? with
    | some (.lst _) => match vs with
      | [] => some (.non, h.set n (.lst []))
      | _ => none
    | _ => none
  | _ => none
section
variable {G : Gx} {ρ : List Addr} {h : Hi} {H : Hp} {W : WX} {X : Cx}
end
end ML
end
section
namespace ML
open PySem L2
theorem putSl2 {r : List Nat} {s h s' : Hi} (g : Ag2 r s h) {x x' z z' : VI} (p : RV2 r x x') (k : RV2 r z z') (e : putSl x z s = some s') : ∃ h', putSl x' z' h = some h' ∧ Ex2 r h r h' ∧ Ag2 r s' h' := by
  unfold putSl at e ⊢
  cases p with
  | @ref n a i =>
    cases k with
    | @ref m b j =>
      obtain ⟨o, o', z1, z2, z3⟩ := g.no i
      obtain ⟨u, u', y1, y2, y3⟩ := g.no j
      dsimp only at e ⊢
      rw [z1] at e
      rw [z2]
      cases z3 with
      | lst t =>
        dsimp only at e ⊢
        rw [y1] at e
        rw [y2]
        cases y3 with
        | lst t2 =>
          dsimp only at e ⊢
          rw [← t.length, ← t2.length]
          cases q : !Nat.beq n m && small (_ + _) with
          | false => rw [q] at e; cases e
          | true =>
            rw [q] at e
            cases e
            obtain ⟨q4, q5⟩ := Bool.and_eq_true_iff.mp q
            have hnm : n ≠ m := fun z => by subst z; simp at q4
            have hab : a ≠ b := fun z => by
              subst z
              obtain ⟨i1, j1⟩ := List.getElem?_eq_some_iff.mp i
              obtain ⟨i2, j2⟩ := List.getElem?_eq_some_iff.mp j
              have pw := List.pairwise_iff_getElem.mp g.nd
              rcases Nat.lt_trichotomy n m with l | l | l
              · exact pw n m i1 i2 l (j1.trans j2.symm)
              · exact hnm l
              · exact pw m n i2 i1 l (j2.trans j1.symm)
            have hb : Nat.beq a b = false := Bool.eq_false_iff.mpr fun z => hab (Nat.eq_of_beq_eq_true z)
            rw [hb, q5]
            obtain ⟨c1, c2⟩ := g.wr z1 i (.lst t2)
            exact ⟨_, rfl, c2, c1⟩
        | _ => cases e
      | _ => cases e
    | _ => cases e
  | _ => cases e
instance {ma : ME} [x : LE ma] : LG (gSlA ma) := ⟨fun r s h σ σ' u u' g a q => (x.run r s h σ σ' g a).bindS a fun r1 s1 h1 v v' e1 g1 q1 => by
  cases e : putSl v u s1 with
  | none => trivial
  | some s' => obtain ⟨h', z1, z2, z3⟩ := putSl2 g1 q1 (q.mono e1) e; rw [z1]; exact ⟨_, _, _, rfl, z2, z3, (a.mono e1).mono z2⟩⟩
end ML
end
section
namespace ML
open PySem L2
theorem rvs2_take {r : List Nat} : ∀ {a b : List VI} (m : Nat), RVs2 r a b → RVs2 r (a.take m) (b.take m)
  | _, _, 0, _ => .nil
  | _, _, _ + 1, .nil => .nil
  | _, _, m + 1, .cons a t => .cons a (rvs2_take m t)
theorem rvs2_drop {r : List Nat} : ∀ {a b : List VI} (m : Nat), RVs2 r a b → RVs2 r (a.drop m) (b.drop m)
  | _, _, 0, t => t
  | _, _, _ + 1, .nil => .nil
  | _, _, m + 1, .cons _ t => rvs2_drop m t
theorem rvs2_app {r : List Nat} : ∀ {a b c d : List VI}, RVs2 r a b → RVs2 r c d → RVs2 r (a ++ c) (b ++ d)
  | _, _, _, _, .nil, k => k
  | _, _, _, _, .cons h t, k => .cons h (rvs2_app t k)
instance {m : Nat} {g : MF} [x : LF g] : LF (restM m g) := ⟨fun r s h vs vs' g2 k => by
  unfold restM
  rw [← k.length]
  cases (Nat.ble m vs.length && Nat.ble vs.length 100000) with
  | false => trivial
  | true => exact x.run r s h _ _ g2 (rvs2_app (rvs2_take m k) (.cons (.tup (rvs2_drop m k)) .nil))⟩
instance {me : ME} {mr : MA} [x : LE me] [y : LA mr] : LA (aStar me mr) := ⟨fun r s h σ σ' g a => (x.run r s h σ σ' g a).bind fun r1 s1 h1 v v' e1 g1 q1 => by
  unfold starK starV
  cases q1 with
  | tup t =>
    dsimp only
    exact (y.run _ _ _ _ _ g1 (a.mono e1)).bind fun r2 s2 h2 ws ws' e2 g2 q2 => .ok g2 (rvs2_app (t.mono e2) q2)
  | @ref n m p =>
    dsimp only
    have k := listAt2 g1 p
    cases z1 : listAt n s1 with
    | none => trivial
    | some xs =>
      rw [z1] at k
      cases z2 : listAt m h1 with
      | none => rw [z2] at k; exact k.elim
      | some ys =>
        rw [z2] at k
        dsimp only
        exact (y.run _ _ _ _ _ g1 (a.mono e1)).bind fun r2 s2 h2 ws ws' e2 g2 q2 => .ok g2 (rvs2_app (RVs2.mono e2 k) q2)
  | _ => trivial⟩
end ML
end
section
namespace ML
open PySem L2
theorem pairsV2 {r : List Nat} : ∀ {xs ys : List VI}, RVs2 r xs ys → match pairsV xs, pairsV ys with
    | some a, some b => RKs2 r a b
    | none, none => True
    | _, _ => False
  | _, _, .nil => .nil
  | x :: xs, y :: ys, .cons p t => by
    have ih := pairsV2 t
    cases p with
    | tup q =>
      cases q with
      | nil => unfold pairsV; trivial
      | cons q1 q =>
        cases q with
        | nil => unfold pairsV; trivial
        | cons q2 q =>
          cases q with
          | cons _ _ => unfold pairsV; trivial
          | nil =>
            unfold pairsV
            rw [← isKey2 q1]
            generalize isKey _ = kk
            cases kk with
            | false => trivial
            | true =>
              dsimp only
              cases z1 : pairsV xs with
              | none =>
                cases z2 : pairsV ys with
                | none => trivial
                | some _ => rw [z1, z2] at ih; exact ih.elim
              | some a =>
                cases z2 : pairsV ys with
                | none => rw [z1, z2] at ih; exact ih.elim
                | some b => rw [z1, z2] at ih; exact .cons q1 q2 ih
    | _ => unfold pairsV; trivial
instance : LOc cDictP := ⟨fun r s h vs vs' g t => by
  unfold cDictP
  cases t with
  | nil => trivial
  | cons p t =>
    cases t with
    | cons _ _ => cases p <;> trivial
    | nil =>
      cases p with
      | ref i =>
        obtain ⟨o, o', e1, e2, e3⟩ := g.no i
        dsimp only
        rw [e1, e2]
        cases e3 with
        | dic t => exact .new g fun r' e => .dic (t.mono e)
        | @lst xs ys t =>
          have q := pairsV2 t
          dsimp only
          cases z1 : pairsV xs with
          | none => trivial
          | some a =>
            cases z2 : pairsV ys with
            | none => rw [z1, z2] at q; exact q.elim
            | some b =>
              rw [z1, z2] at q
              exact .new g fun r' e => .dic (putAll2 (q.mono e) .nil)
        | _ => trivial
      | _ => trivial⟩
end ML
end
section
namespace ML
open PySem L2
instance : LOm mClear := ⟨fun r s h x x' vs vs' g p t => by
  unfold mClear
  cases p with
  | ref i =>
    obtain ⟨o, o', e1, e2, e3⟩ := g.no i
    dsimp only
    rw [e1, e2]
    cases e3 with
    | @lst xs ys l =>
      cases t with
      | cons _ _ => trivial
      | nil => exact .wr g e1 i (.lst .nil) .non
    | _ => trivial
  | _ => trivial⟩
end ML
end
section
namespace ML
open PySem L2
structure CRel (C : Type) where
  R : List Nat → C → C → Prop
  mono : ∀ {r r' : List Nat} {h h' : Hi} {c c' : C}, Ex2 r h r' h' → R r c c' → R r' c c'
variable {C : Type}
def L2C (Q : CRel C) (r : List Nat) (h : Hi) (a a' : RC C) : Prop := match a with
  | .go c s' => ∃ r' h' c', a' = .go c' h' ∧ Ex2 r h r' h' ∧ Ag2 r' s' h' ∧ Q.R r' c c'
  | .stop q => ∃ q', a' = .stop q' ∧ L2S r h q q'
  | .err => True
def L2G (Q : CRel C) (r : List Nat) (h : Hi) (a a' : RG C) : Prop := match a with
  | .nx b σ c n s' => ∃ r' h' σ' c', a' = .nx b σ' c' n h' ∧ Ex2 r h r' h' ∧ Ag2 r' s' h' ∧ AS2 r' σ σ' ∧ Q.R r' c c'
  | .out q => ∃ q', a' = .out q' ∧ L2S r h q q'
  | .ex k i c s' => ∃ r' h' c' m, a' = .ex k m c' h' ∧ Ex2 r h r' h' ∧ Ag2 r' s' h' ∧ Q.R r' c c' ∧ r'[i]? = some m
  | .err => True
theorem L2G.ext {Q : CRel C} {r r' : List Nat} {h h' : Hi} {a a' : RG C} (x : Ex2 r h r' h') (k : L2G Q r' h' a a') : L2G Q r h a a' := by
  cases a with
  | err => trivial
  | nx b σ c n s' => obtain ⟨r2, h2, m, c', e1, e2, e3⟩ := k; exact ⟨r2, h2, m, c', e1, x.trans e2, e3⟩
  | out q => obtain ⟨q', e1, e2⟩ := k; exact ⟨q', e1, e2.ext x⟩
  | ex k i c s' => obtain ⟨r2, h2, c', m, e1, e2, e3⟩ := k; exact ⟨r2, h2, c', m, e1, x.trans e2, e3⟩
def LCb (Q : CRel C) (cb cb' : CB C) : Prop := ∀ r s h x x' c c', Ag2 r s h → RV2 r x x' → Q.R r c c' → L2C Q r h (cb x c s) (cb' x' c' h)
def RunG (Q : CRel C) (cb cb' : CB C) (g : GMS C) : Prop := ∀ r s h σ σ' c c' b n, Ag2 r s h → AS2 r σ σ' → Q.R r c c' → L2G Q r h (g cb b σ c n s) (g cb' b σ' c' n h)
class LY (g : GMA) : Prop where
  run : ∀ {C : Type} (Q : CRel C) (cb cb' : CB C), LCb Q cb cb' → RunG Q cb cb' g
theorem L2R.yEv {α : Type} {R : List Nat → α → α → Prop} {Q : CRel C} {r : List Nat} {h : Hi} {a a' : Res α} {k k' : α → Hi → RG C} {b : Bool} {c c' : C} (h1 : L2R R r h a a') (hc : Q.R r c c')
    (h2 : ∀ r1 s1 h1 x x', Ex2 r h r1 h1 → Ag2 r1 s1 h1 → R r1 x x' → L2G Q r1 h1 (k x s1) (k' x' h1)) : L2G Q r h (yEv b c a k) (yEv b c' a' k') := by
  cases a with
  | err => trivial
  | ex k n s' =>
    obtain ⟨r', h', m, rfl, e, g, q⟩ := h1
    cases b with
    | true => exact ⟨r', h', c', m, rfl, e, g, Q.mono e hc, q⟩
    | false => trivial
  | ok v s' =>
    obtain ⟨r', h', v', rfl, e, g, q⟩ := h1
    exact (h2 r' s' h' v v' e g q).ext e
instance : LY (fun {C} => yNx (C := C)) := ⟨fun Q cb cb' _ r s h σ σ' c c' b n g a q => ⟨_, _, _, _, rfl, .refl, g, a, q⟩⟩
instance {m : MS} [x : LS m] : LY (fun {C} => yPl (C := C) m) := ⟨fun Q cb cb' _ r s h σ σ' c c' b n g a q => by
  have t := x.run _ _ _ _ _ g a
  unfold yPl
  cases e : m σ s with
  | nx σ2 s2 => rw [e] at t; obtain ⟨r2, h2, σ2', k1, k2, k3, k4⟩ := t; rw [k1]; exact ⟨r2, h2, σ2', c', rfl, k2, k3, k4, Q.mono k2 q⟩
  | ex k i σ2 s2 =>
    rw [e] at t
    obtain ⟨r2, h2, σ2', m', k1, k2, k3, k4, k5⟩ := t
    rw [k1]
    cases b with
    | true => exact ⟨r2, h2, c', m', rfl, k2, k3, Q.mono k2 q, k5⟩
    | false => trivial
  | rt _ _ => trivial
  | bk _ _ => trivial
  | ct _ _ => trivial
  | err => trivial⟩
instance {x y : GMA} [a : LY x] [b : LY y] : LY (fun {C} => ySeq (C := C) x y) := ⟨fun Q cb cb' hc r s h σ σ' c c' bb n g as q => by
  have t := a.run Q cb cb' hc r s h σ σ' c c' bb n g as q
  unfold ySeq
  cases w : x cb bb σ c n s with
  | err => trivial
  | nx b2 σ2 c2 n2 s2 => rw [w] at t; obtain ⟨r2, h2, m, c2', k1, e2, e3, e4, e5⟩ := t; rw [k1]; exact (b.run Q cb cb' hc _ _ _ _ _ _ _ _ _ e3 e4 e5).ext e2
  | out q => rw [w] at t; obtain ⟨q', k1, e2⟩ := t; rw [k1]; exact ⟨q', rfl, e2⟩
  | ex k i c2 s2 => rw [w] at t; obtain ⟨r2, h2, c2', m, k1, e2⟩ := t; rw [k1]; exact ⟨r2, h2, c2', m, rfl, e2⟩⟩
instance {e : ME} [x : LE e] : LY (fun {C} => yYld (C := C) e) := ⟨fun Q cb cb' hc r s h σ σ' c c' b n g a q => by
  cases n with
  | zero => trivial
  | succ n =>
    refine (x.run _ _ _ _ _ g a).yEv q fun r1 s1 h1 v v' e1 g1 rv => ?_
    have t := hc _ _ _ _ _ _ _ g1 rv (Q.mono e1 q)
    cases z : cb v c s1 with
    | go c2 s2 => rw [z] at t; obtain ⟨r2, h2, c2', k1, k2, k3, k4⟩ := t; rw [k1]; exact ⟨r2, h2, σ', c2', rfl, k2, k3, (a.mono e1).mono k2, k4⟩
    | stop q => rw [z] at t; obtain ⟨q', k1, k2⟩ := t; rw [k1]; exact ⟨q', rfl, k2⟩
    | err => trivial⟩
instance {t : MT} {x y : GMA} [z : LT t] [a : LY x] [b : LY y] : LY (fun {C} => yIf (C := C) t x y) := ⟨fun Q cb cb' hc r s h σ σ' c c' bb n g as q =>
  (z.run _ _ _ _ _ g as).yEv q fun r1 s1 h1 v v' e1 g1 rv => by
    subst rv
    cases v with
    | true => exact a.run Q cb cb' hc _ _ _ _ _ _ _ _ _ g1 (as.mono e1) (Q.mono e1 q)
    | false => exact b.run Q cb cb' hc _ _ _ _ _ _ _ _ _ g1 (as.mono e1) (Q.mono e1 q)⟩
theorem yTurns2 {Q : CRel C} {cb cb' : CB C} {ga : MG} {body : GMS C} [x : LG ga] (y : RunG Q cb cb' body) : ∀ (k i : Nat) (r : List Nat) (s h : Hi) (σ σ' : Sg) (a b : Itm) (c c' : C) (bb : Bool) (n : Nat), Ag2 r s h → AS2 r σ σ' → RI2 r a b → Q.R r c c' → L2G Q r h (yTurns a ga body k i cb bb σ c n s) (yTurns b ga body k i cb' bb σ' c' n h)
  | 0, i, r, s, h, σ, σ', a, b, c, c', bb, n, g, as, q, hc => by
    have n := nxt2 g q i
    unfold yTurns
    cases z1 : a.nxt i s with
    | none => trivial
    | some o => cases z2 : b.nxt i h with
      | none => rw [z1, z2] at n; exact n.elim
      | some o' =>
        rw [z1, z2] at n
        cases o with
        | some _ => trivial
        | none => cases o' with
          | some _ => exact n.elim
          | none => exact ⟨_, _, _, _, rfl, .refl, g, as, hc⟩
  | k + 1, i, r, s, h, σ, σ', a, b, c, c', bb, m, g, as, q, hc => by
    have n := nxt2 g q i
    unfold yTurns
    cases z1 : a.nxt i s with
    | none => trivial
    | some o => cases z2 : b.nxt i h with
      | none => rw [z1, z2] at n; exact n.elim
      | some o' =>
        rw [z1, z2] at n
        cases o with
        | none => cases o' with
          | some _ => exact n.elim
          | none => exact ⟨_, _, _, _, rfl, .refl, g, as, hc⟩
        | some v => cases o' with
          | none => exact n.elim
          | some v' =>
            dsimp only
            have t := x.run _ _ _ _ _ _ _ g as n
            cases w : ga v σ s with
            | nx σ2 s2 =>
              rw [w] at t
              obtain ⟨r2, h2, σ2', k1, k2, k3, k4⟩ := t
              rw [k1]
              dsimp only
              have u := y _ _ _ _ _ _ _ bb m k3 k4 (Q.mono k2 hc)
              refine L2G.ext k2 ?_
              cases w2 : body cb bb σ2 c m s2 with
              | nx b3 σ3 c3 n3 s3 =>
                rw [w2] at u
                obtain ⟨r3, h3, σ3', c3', j1, j2, j3, j4, j5⟩ := u
                rw [j1]
                exact (yTurns2 y k (i + 1) _ _ _ _ _ _ _ _ _ _ _ j3 j4 ((q.mono k2).mono j2) j5).ext j2
              | out q => rw [w2] at u; obtain ⟨q', j1, j2⟩ := u; rw [j1]; exact ⟨q', rfl, j2⟩
              | ex kk ii c3 s3 => rw [w2] at u; obtain ⟨r3, h3, c3', m3, j1, j2⟩ := u; rw [j1]; exact ⟨r3, h3, c3', m3, rfl, j2⟩
              | err => trivial
            | rt _ _ => trivial
            | bk _ _ => trivial
            | ct _ _ => trivial
            | ex _ _ _ _ => trivial
            | err => trivial
instance {mi : MI} {ga : MG} {body : GMA} [z : LI mi] [x : LG ga] [y : LY body] : LY (fun {C} => yFor (C := C) mi ga body) := ⟨fun Q cb cb' hc r s h σ σ' c c' bb n g as q =>
  (z.run _ _ _ _ _ g as).yEv q fun r1 s1 h1 v v' e1 g1 rv => by
    rw [fuel2 g1 rv]
    exact yTurns2 (y.run Q cb cb' hc) _ _ _ _ _ _ _ _ _ _ _ _ _ g1 (as.mono e1) rv (Q.mono e1 q)⟩
theorem yRun2 {Q : CRel C} {cb cb' : CB C} (gm : GMA) [y : LY gm] (hcb : LCb Q cb cb') {np m : Nat} {r : List Nat} {s h : Hi} {vs vs' : List VI} {c c' : C} (g : Ag2 r s h) (t : RVs2 r vs vs') (q : Q.R r c c') : L2G Q r h (yRun np m gm cb vs c s) (yRun np m gm cb' vs' c' h) := by
  unfold yRun
  rw [t.length]
  cases Nat.beq vs'.length np with
  | false => trivial
  | true => exact y.run Q cb cb' hcb _ _ _ _ _ _ _ _ _ g (slots2 m t) q
def qSg : CRel Sg := ⟨AS2, fun e a => a.mono e⟩
def qLs : CRel (List VI) := ⟨RVs2, fun e a => a.mono e⟩
instance {cs : List Nat} {np m : Nat} {gm : GMA} {ma : MA} {ga : MG} {mb : MS} [y : LY gm] [a : LA ma] [x : LG ga] [b : LS mb] : LS (sForG cs np m gm ma ga mb) := ⟨fun r s h σ σ' g as => (a.run r s h σ σ' g as).bindS as fun r1 s1 h1 v v' e1 g1 t1 => by
  have hcb : LCb qSg (cbFor ga mb) (cbFor ga mb) := fun r s h x x' c c' g rx rc => by
    unfold cbFor
    have t := (LG.run (g := ga) r s h c c' x x' g rc rx).andThen (f := mb) (f' := mb) fun r1 s1 h1 σ σ' e1 g1 a1 => b.run _ _ _ _ _ g1 a1
    cases w : (ga x c s).andThen mb with
    | nx σ2 s2 => rw [w] at t; obtain ⟨r2, h2, σ2', k1, k2⟩ := t; rw [k1]; exact ⟨r2, h2, σ2', rfl, k2⟩
    | ct σ2 s2 => rw [w] at t; obtain ⟨r2, h2, σ2', k1, k2⟩ := t; rw [k1]; exact ⟨r2, h2, σ2', rfl, k2⟩
    | bk σ2 s2 => rw [w] at t; obtain ⟨r2, h2, σ2', k1, k2⟩ := t; rw [k1]; exact ⟨_, rfl, r2, h2, σ2', rfl, k2⟩
    | rt σ2 s2 => rw [w] at t; obtain ⟨r2, h2, σ2', k1, k2⟩ := t; rw [k1]; exact ⟨_, rfl, r2, h2, σ2', rfl, k2⟩
    | ex _ _ _ _ => trivial
    | err => trivial
  have t := yRun2 gm (np := np) (m := m) hcb g1 t1 (show qSg.R r1 σ σ' from as.mono e1)
  cases w : yRun np m gm (cbFor ga mb) v σ s1 with
  | nx b σ2 c2 n2 s2 => rw [w] at t; obtain ⟨r2, h2, σ2', c2', k1, k2, k3, k4, k5⟩ := t; rw [k1]; exact ⟨r2, h2, c2', rfl, k2, k3, k5⟩
  | out q => rw [w] at t; obtain ⟨q', k1, k2⟩ := t; rw [k1]; exact k2
  | ex k i c2 s2 =>
    rw [w] at t
    obtain ⟨r2, h2, c2', m2, k1, k2, k3, k4, k5⟩ := t
    rw [k1]
    unfold finY exY
    dsimp only
    cases cs.contains k with
    | true => exact ⟨r2, h2, c2', m2, rfl, k2, k3, k4, k5⟩
    | false => trivial
  | err => trivial⟩
instance {cs : List Nat} {np m : Nat} {gm : GMA} {ma : MA} [y : LY gm] [a : LA ma] : LE (eListY cs np m gm ma) := ⟨fun r s h σ σ' g as => (a.run r s h σ σ' g as).bind fun r1 s1 h1 v v' e1 g1 t1 => by
  have hcb : LCb qLs cbLst cbLst := fun r s h x x' c c' g rx rc => by
    unfold cbLst
    rw [RVs2.length (show RVs2 r c c' from rc)]
    cases small (c'.length + 1) with
    | true => exact ⟨r, h, _, rfl, .refl, g, RVs2.append (show RVs2 r c c' from rc) (.cons rx .nil)⟩
    | false => trivial
  have t := yRun2 gm (np := np) (m := m) hcb g1 t1 (show qLs.R r1 [] [] from .nil)
  cases w : yRun np m gm cbLst v [] s1 with
  | nx b σ2 c2 n2 s2 =>
    rw [w] at t
    obtain ⟨r2, h2, σ2', c2', k1, k2, k3, k4, k5⟩ := t
    rw [k1]
    unfold finL
    dsimp only
    have k5' : RVs2 r2 c2 c2' := k5
    obtain ⟨g4, e4⟩ := k3.new (o := .lst c2) (o' := .lst c2') (.lst (k5'.mono (show Ex2 r2 h2 (r2 ++ [h2.length]) h2 from ⟨⟨[h2.length], rfl, fun m hm => by rw [List.mem_singleton] at hm; omega⟩, Nat.le_refl _, fun _ _ _ => rfl⟩)))
    exact ⟨_, _, .ref h2.length, rfl, k2.trans e4, g4, .ref (by rw [← k3.len]; simp)⟩
  | out q => trivial
  | ex k i c2 s2 =>
    rw [w] at t
    obtain ⟨r2, h2, c2', m2, k1, k2, k3, k4, k5⟩ := t
    rw [k1]
    unfold finL
    dsimp only
    cases cs.contains k with
    | true => exact ⟨r2, h2, m2, rfl, k2, k3, k5⟩
    | false => trivial
  | err => trivial⟩
end ML
end
section
namespace ML
open PySem PySem.Spec PyProof.Rows L2 GenW GQ
def cbLc (t : Tgt) (vs : List Nat) (el : ME) (D : Nat) (σ : Sg) : CB Unit := fun x _ h => match t.put x (wipeM σ vs) with
  | some σ2 => match el σ2 h with
    | .ok y h3 => match h3[D]? with
      | some (.lst acc) => match small (acc.length + 1) with
        | true => .go () (h3.set D (.lst (acc ++ [y])))
        | false => .err
      | _ => .err
    | _ => .err
  | none => .err
def finC (D : Nat) : RG Unit → Res VI
  | .nx _ _ _ _ h => .ok (.ref D) h
  | _ => .err
def eLcY (np m : Nat) (gm : GMA) (ma : MA) (t : Tgt) (vs : List Nat) (el : ME) : ME := fun σ h => (ma σ h).bind fun as h1 => finC h1.length (yRun np m gm (cbLc t vs el h1.length σ) as () (h1 ++ [.lst []]))
section
variable {G : Gx} {W : WX} {X : Cx} {pins : List (Addr × Obj)} {σ : L2.St} {H : Hp} {s : Shared} {Q : VK}
end
end ML
end
section
namespace GQ
open PySem PySem.Spec PySem.W
section
variable {prog : Program} {w : World} {K : Frag} {h₀ : Heap} {L : Addr} {m : Str → Option Value} {A : Around} {E : Value → Shared → Prop} {s : Shared} {x C f f' : Addr} {ox : Obj} {od : Option Obj}
theorem binT_any {op : Operator} {b : Value} {T : String} {fo ro rc : Option Value} {Q : Value → Shared → Prop} (X : K.In s.heap) (I : InstAt s.heap x ox C od) (L2 : Looks (model prog w) s.heap (typeOf b) (.type T)) (hc : selfFirst K C = true)
    (hs : findIn K (.ref C) (PySem.dunder op.info.2) = some (some (.ref f))) (hf : isFn K (.ref f) = true) (hr : findIn K (.ref C) (dunderR op.info.2) = some rc) (hp : rc = none ∨ ∃ g : Addr, rc = some (.ref g))
    (h1 : findIn K (.type T) (PySem.dunder op.info.2) = some fo) (h2 : findIn K (.type T) (dunderR op.info.2) = some ro) (hsub : subIn K (.type T) (.ref C) = some false)
    (h : wpAny (model prog w) A (call (.ref f) [.ref x, b]) (PySem.W.CmpBack Q) E s) : wpAny (model prog w) A (binaryOp op (.ref x) b) Q E s := by
  obtain ⟨cd, rest, hcd, hm⟩ := ksp_first hc
  rcases hi : op.info with ⟨sym, nm'⟩
  rw [hi] at hs hr h1 h2
  dsimp only at hs hr h1 h2
  have one := ksp_try X I hs hf h
  obtain ⟨hh, g, d, tt, os⟩ := s
  have L1 : Looks (model prog w) hh (typeOf (.ref x)) (.ref C) := I.type
  have L3 : Looks (model prog w) hh (fillsNumberSlot (.ref C) nm') true := fills_K X hcd hm hs
  have L4 : Looks (model prog w) hh (fillsNumberSlot (.type T) nm') ((fo.isSome && !isSeqSlot fo) || (ro.isSome && !isSeqSlot ro)) := ksp_fillsT X h1 h2
  have L5 : Looks (model prog w) hh (isSubtype (.type T) (.ref C)) false := looks_subIn X hsub
  have L6 : Looks (model prog w) hh (numberSlotInPython (.ref C) nm') true := ksp_inPy X hs hr hp
  have L7 : Looks (model prog w) hh (numberSlotInPython (.type T) nm') false := Looks.of_pure rfl
  have L8 : Looks (model prog w) hh (typeLookup (.type T) (dunderR nm')) ro := looks_findIn X h2
  generalize ((fo.isSome && !isSeqSlot fo) || (ro.isSome && !isSeqSlot ro)) = right at L4
  have hne : (Value.ref C == Value.type T) = false := Bool.eq_false_iff.mpr fun q => by cases beq_iff_eq.mp q
  simp only [binaryOp, hi]
  refine wpAny_holding (wpAny_bind ?_)
  unfold binaryOp1
  refine wpAny_bind (L1.at (wpAny_bind (L2.at (wpAny_bind (L3.at ?_)))))
  simp only [hne, Bool.false_eq_true, if_false]
  cases right with
  | false =>
    ksp_lk
    refine wpAny_mono one (fun r s' hr' => ?_) fun _ _ e => e
    obtain ⟨v, rfl, hq⟩ := hr'
    ksp_lk
    exact hq
  | true =>
    ksp_lk
    refine wpAny_mono one (fun r s' hr' => ?_) fun _ _ e => e
    obtain ⟨v, rfl, hq⟩ := hr'
    ksp_lk
    exact hq
theorem binS {op : Operator} {y : Addr} {Q : Value → Shared → Prop} (X : K.In s.heap) (I : InstAt s.heap x ox C od) (L2 : Looks (model prog w) s.heap (typeOf (.ref y)) (.ref C)) (hc : selfFirst K C = true)
    (hs : findIn K (.ref C) (PySem.dunder op.info.2) = some (some (.ref f))) (hf : isFn K (.ref f) = true)
    (h : wpAny (model prog w) A (call (.ref f) [.ref x, .ref y]) (PySem.W.CmpBack Q) E s) : wpAny (model prog w) A (binaryOp op (.ref x) (.ref y)) Q E s := by
  obtain ⟨cd, rest, hcd, hm⟩ := ksp_first hc
  rcases hi : op.info with ⟨sym, nm'⟩
  rw [hi] at hs
  dsimp only at hs
  have one := ksp_try X I hs hf h
  obtain ⟨hh, g, d, tt, os⟩ := s
  have L1 : Looks (model prog w) hh (typeOf (.ref x)) (.ref C) := I.type
  have L3 : Looks (model prog w) hh (fillsNumberSlot (.ref C) nm') true := fills_K X hcd hm hs
  have hne : (Value.ref C == Value.ref C) = true := beq_self_eq_true _
  simp only [binaryOp, hi]
  refine wpAny_holding (wpAny_bind ?_)
  unfold binaryOp1
  refine wpAny_bind (L1.at (wpAny_bind (L2.at (wpAny_bind (L3.at ?_)))))
  simp only [hne, if_true]
  ksp_lk
  refine wpAny_mono one (fun r s' hr' => ?_) fun _ _ e => e
  obtain ⟨v, rfl, hq⟩ := hr'
  ksp_lk
  exact hq
def IntNo (prog : Program) (w : World) (nm : String) : Prop := ∀ (A : Around) (E : Value → Shared → Prop) (s : Shared) (i : Int) (t : Tok) (y : Addr) (o : Obj) (Q : Option Value → Shared → Prop), s.heap.get? y = some o → (∀ v, o.data ≠ .prim v) → Q none s → wpAny (model prog w) A (tryMethod (.int i t) (PySem.dunder nm) (.ref y)) Q E s
theorem binR {op : Operator} {i : Int} {t : Tok} {fo ro : Option Value} {Q : Value → Shared → Prop} (X : K.In s.heap) (I : InstAt s.heap x ox C od) (hd : ∀ v, ox.data ≠ .prim v) (hn : IntNo prog w op.info.2) (hc : selfFirst K C = true)
    (hs : findIn K (.ref C) (PySem.dunder op.info.2) = some (some (.ref f))) (hr : findIn K (.ref C) (dunderR op.info.2) = some (some (.ref f'))) (hf : isFn K (.ref f') = true)
    (h1 : findIn K (.type "int") (PySem.dunder op.info.2) = some fo) (h2 : findIn K (.type "int") (dunderR op.info.2) = some ro) (hsl : ((fo.isSome && !isSeqSlot fo) || (ro.isSome && !isSeqSlot ro)) = true) (hsub : subIn K (.ref C) (.type "int") = some false)
    (h : wpAny (model prog w) A (call (.ref f') [.ref x, .int i t]) (PySem.W.CmpBack Q) E s) : wpAny (model prog w) A (binaryOp op (.int i t) (.ref x)) Q E s := by
  obtain ⟨cd, rest, hcd, hm⟩ := ksp_first hc
  rcases hi : op.info with ⟨sym, nm'⟩
  rw [hi] at hs hr h1 h2 hn
  dsimp only at hs hr h1 h2 hn
  have one := ksp_try X I hr hf h
  obtain ⟨hh, g, d, tt, os⟩ := s
  have L1 : Looks (model prog w) hh (typeOf (.ref x)) (.ref C) := I.type
  have L2 : Looks (model prog w) hh (typeOf (.int i t)) (.type "int") := .now
  have L3 : Looks (model prog w) hh (fillsNumberSlot (.ref C) nm') true := fills_K X hcd hm hs
  have L4 : Looks (model prog w) hh (fillsNumberSlot (.type "int") nm') true := by rw [← hsl]; exact ksp_fillsT X h1 h2
  have L5 : Looks (model prog w) hh (isSubtype (.ref C) (.type "int")) false := looks_subIn X hsub
  have L7 : Looks (model prog w) hh (numberSlotInPython (.type "int") nm') false := Looks.of_pure rfl
  have hne : (Value.type "int" == Value.ref C) = false := Bool.eq_false_iff.mpr fun q => by cases beq_iff_eq.mp q
  simp only [binaryOp, hi]
  refine wpAny_holding (wpAny_bind ?_)
  unfold binaryOp1
  refine wpAny_bind (L2.at (wpAny_bind (L1.at (wpAny_bind (L4.at ?_)))))
  simp only [hne, Bool.false_eq_true, if_false]
  ksp_lk
  refine hn _ _ _ i t x ox _ I.at_ hd ?_
  ksp_lk
  refine wpAny_mono one (fun r s' hr' => ?_) fun _ _ e => e
  obtain ⟨v, rfl, hq⟩ := hr'
  ksp_lk
  exact hq
end
end GQ
namespace GQ
open PySem PySem.Spec PyProof.Rows
section
variable {prog : Program} {w : World}
end
end GQ
namespace ML
open PySem PySem.Spec PyProof.Rows L2 He
def eBinU (tF tR : Nat → Option MF) (f : Op2) (a b : ME) : ME := fun σ h => (a σ h).bind fun x h1 => (b σ h1).bind fun y h2 => match insC x h2 with
  | some c => match tF c, tyI y h2 with
    | some g, some (.bt _) => g [x, y] h2
    | some g, some (.own c') => match Nat.beq c c' with
      | true => g [x, y] h2
      | false => .err
    | _, _ => .err
  | none => match insC y h2 with
    | some c => match tR c, x with
      | some g, .int _ => g [y, x] h2
      | _, _ => .err
    | none => ofO (f x y h2)
structure BiOk (X : Cx) (G : Gx) (W : WX) (nm : String) (tF tR : Nat → Option MF) : Prop where
  fw : ∀ c C g, tF c = some g → G.ct c = some C → ∃ f, PySem.W.selfFirst X.K C = true ∧ PySem.W.findIn X.K (.ref C) (PySem.dunder nm) = some (some (.ref f)) ∧ PySem.W.isFn X.K (.ref f) = true ∧ (∃ rc, PySem.W.findIn X.K (.ref C) (dunderR nm) = some rc ∧ (rc = none ∨ ∃ g : Addr, rc = some (.ref g))) ∧
    (∀ T ∈ ["NoneType", "bool", "int", "str", "tuple", "list", "dict"], (∃ fo, PySem.W.findIn X.K (.type T) (PySem.dunder nm) = some fo) ∧ (∃ ro, PySem.W.findIn X.K (.type T) (dunderR nm) = some ro) ∧ PySem.W.subIn X.K (.type T) (.ref C) = some false) ∧ CallAt X X.A G W (.ref f) g
  rv : ∀ c C g, tR c = some g → G.ct c = some C → GQ.IntNo X.prog X.w nm ∧ ∃ f f' fo ro, PySem.W.selfFirst X.K C = true ∧ PySem.W.findIn X.K (.ref C) (PySem.dunder nm) = some (some (.ref f)) ∧ PySem.W.findIn X.K (.ref C) (dunderR nm) = some (some (.ref f')) ∧ PySem.W.isFn X.K (.ref f') = true ∧
    PySem.W.findIn X.K (.type "int") (PySem.dunder nm) = some fo ∧ PySem.W.findIn X.K (.type "int") (dunderR nm) = some ro ∧ ((fo.isSome && !isSeqSlot fo) || (ro.isSome && !isSeqSlot ro)) = true ∧ PySem.W.subIn X.K (.ref C) (.type "int") = some false ∧ CallAt X X.A G W (.ref f') g
section
variable {G : Gx} {ρ : List Addr} {h : Hi} {H : Hp} {W : WX} {X : Cx} {a b : Expr} {pos : Pos} {ma mb : ME} {tF tR : Nat → Option MF} {σ : L2.St} {f : Op2}
def RdB (G : Gx) (W : WX) (σ : L2.St) (tF tR : Nat → Option MF) (f : Op2) (Q : VK) (x y : V) (H2 : Hp) : Prop :=
  rd2 G f x y H2 Q ∨ (∃ ρ2 h2 xi yi cn g T, Ag G ρ2 h2 H2 ∧ RV G ρ2 H2 xi x ∧ RV G ρ2 H2 yi y ∧ insC xi h2 = some cn ∧ tF cn = some g ∧ tyI yi h2 = some T ∧ ((∃ t, T = .bt t) ∨ T = .own cn) ∧ FinG G ρ2 H2 (RV G) Q (fun c d H' => W c d σ H') (g [xi, yi] h2)) ∨
  ∃ ρ2 h2 i yi cn g, Ag G ρ2 h2 H2 ∧ x = V.int i ∧ RV G ρ2 H2 yi y ∧ insC yi h2 = some cn ∧ tR cn = some g ∧ FinG G ρ2 H2 (RV G) Q (fun c d H' => W c d σ H') (g [yi, .int i] h2)
theorem binU_rd {Q : VK} (q : rdE G W (eBinU tF tR f ma mb) σ H Q) : rdE G W ma σ H fun x H1 => rdE G W mb σ H1 fun y H2 => RdB G W σ tF tR f Q x y H2 := by
  obtain ⟨ρ, σi, h, as, ag, fin⟩ := q
  exact rdG_go as ag fin fun ρ1 H1 h1 x x' st as ag r f => rdG_go as ag f fun ρ2 H2 h2 y y' st2 as ag rs f => by
      cases q1 : insC x h2 with
      | some cn =>
        rw [q1] at f
        dsimp only at f
        cases q2 : tF cn with
        | none => rw [q2] at f; exact f.elim
        | some g =>
          rw [q2] at f
          cases q3 : tyI y h2 with
          | none => rw [q3] at f; exact f.elim
          | some T =>
            rw [q3] at f
            cases T with
            | bt t => exact .inr (.inl ⟨ρ2, h2, x, y, cn, g, _, ag, r.mono st2, rs, q1, q2, q3, .inl ⟨t, rfl⟩, f⟩)
            | own c' =>
              dsimp only at f
              cases q4 : Nat.beq cn c' with
              | false => rw [q4] at f; exact f.elim
              | true =>
                rw [q4] at f
                have e : cn = c' := Nat.eq_of_beq_eq_true q4
                exact .inr (.inl ⟨ρ2, h2, x, y, cn, g, _, ag, r.mono st2, rs, q1, q2, q3, .inr (by rw [e]), f⟩)
      | none =>
        rw [q1] at f
        dsimp only at f
        cases q2 : insC y h2 with
        | none => rw [q2] at f; exact .inl ⟨ρ2, h2, x, y, ag, r.mono st2, rs, FinO.of f⟩
        | some cn =>
          rw [q2] at f
          dsimp only at f
          cases q3 : tR cn with
          | none => rw [q3] at f; exact f.elim
          | some g =>
            rw [q3] at f
            cases r with
            | int i => exact .inr (.inr ⟨ρ2, h2, i, y, cn, g, ag, rfl, rs, q2, q3, f⟩)
            | _ => exact f.elim
theorem back_EP {pins : List (Addr × Obj)} {Q : VK} {z : Value} {s : Shared} (hz : EP X pins σ Q z s) : PySem.W.CmpBack (EP X pins σ Q) z s := by
  have nz : z ≠ .notImplemented := by
    obtain ⟨x', H', I', rx', q'⟩ := hz
    intro e
    subst e
    cases x' <;> first | (cases rx'; done) | (obtain ⟨_, h⟩ := rx'; cases h)
  unfold PySem.W.CmpBack
  split
  · exact absurd rfl nz
  · exact hz
theorem binU_run {op : Operator} {nm : String} (hnm : op.info.2 = nm) (hG : G.K = X.K) (bi : BiOk X G W nm tF tR) (ho : OpR X (binaryOp op) (rd2 G f))
    {pins : List (Addr × Obj)} {s2 : Shared} {H2 : Hp} {x y : V} {v u : Value} {Q : VK} (I2 : Inv X pins σ H2 s2) (rx : RelV x v) (ry : RelV y u) (q : RdB G W σ tF tR f Q x y H2) : wpAny (model X.prog X.w) X.A (binaryOp op v u) (EP X pins σ Q) X.xe s2 := by
  subst hnm
  rcases q with q | ⟨ρ2, h2, xi, yi, cn, g, T, ag2, r1, r2, q1, q2, q3, q4, fi⟩ | ⟨ρ2, h2, i, yi, cn, g, ag2, ex, r2, q1, q2, fi⟩
  · exact ho pins s2 σ H2 x y v u Q I2 rx ry q
  · obtain ⟨ad, C, dx, gs, ex, hc, hH⟩ := insC_ok ag2 r1 q1
    subst ex
    obtain rfl : v = Value.ref ad := rx
    obtain ⟨f', k1, k2, k3, ⟨rc, k4, k5⟩, k6, k7⟩ := bi.fw cn C g q2 hc
    obtain ⟨m, hF, ox, od, J⟩ := insC_look I2 hH
    have call := wpAny_mono (k7 pins s2 σ H2 [.ref ad, u] [.ref ad, y] [xi, yi] ρ2 h2 _ I2 (.cons rfl (.cons ry .nil)) (.cons r1 (.cons r2 .nil)) ag2 fi) (fun z s3 hz => back_EP hz) fun _ _ z => z
    rcases tyI_ok hG I2 ag2 r2 ry q3 with ⟨t, rfl, mt, lt⟩ | ⟨c', C', rfl, hc', lt⟩
    · obtain ⟨⟨fo, h1⟩, ⟨ro, h2'⟩, h3⟩ := k6 t mt
      exact GQ.binT_any I2.kIn J lt k1 k2 k3 k4 k5 h1 h2' h3 call
    · rcases q4 with ⟨t, e⟩ | e
      · cases e
      · cases e
        rw [hc] at hc'
        cases hc'
        obtain ⟨ad2, rfl⟩ : ∃ ad2, u = Value.ref ad2 := by
          unfold tyI at q3
          cases r2 with
          | ref _ => exact ⟨_, ry⟩
          | _ => cases q3
        exact GQ.binS I2.kIn J lt k1 k2 k3 call
  · subst ex
    obtain ⟨t, rfl⟩ := (show ∃ t, v = Value.int i t from rx)
    obtain ⟨ad, C, dx, gs, ex, hc, hH⟩ := insC_ok ag2 r2 q1
    subst ex
    obtain rfl : u = Value.ref ad := ry
    obtain ⟨k0, f1, f', fo, ro, k1, k2, k3, k4, k5, k6, k7, k8, k9⟩ := bi.rv cn C g q2 hc
    obtain ⟨mA, O, _, _, _, _⟩ := ins_get I2.hok hH
    obtain ⟨od, J, _⟩ := O.look
    have call := wpAny_mono (k9 pins s2 σ H2 [.ref ad, .int i t] [.ref ad, .int i] [yi, .int i] ρ2 h2 _ I2 (.cons rfl (.cons ⟨t, rfl⟩ .nil)) (.cons r2 (.cons (.int i) .nil)) ag2 fi) (fun z s3 hz => back_EP hz) fun _ _ z => z
    exact GQ.binR I2.kIn J (fun v z => by cases z) k0 k1 k2 k3 k4 k5 k6 k7 k8 call
theorem me_binU {op : Operator} {nm : String} (hnm : op.info.2 = nm) (hG : G.K = X.K) (bi : BiOk X G W nm tF tR) (ho : OpR X (binaryOp op) (rd2 G f)) (ha : PE X a (rdE G W ma)) (hb : PE X b (rdE G W mb)) : PE X (.BinOp a op b pos) (rdE G W (eBinU tF tR f ma mb)) := ⟨fun pins s σ H Q I h =>
  wpAny_BinOp (binT ha hb I (binU_rd h) fun v u s2 x y H2 I2 rx ry q => binU_run hnm hG bi ho I2 rx ry q)⟩
end
end ML
namespace ML
open PySem PySem.Spec PyProof.Rows L2 He
def biB (K : PySem.W.Frag) (x f r : Str) (d : PySem.W.Frag → Addr) : Bool := PySem.W.selfFirst K (ga K x) && (eqO (PySem.W.findIn K (.ref (ga K x)) f) (some (some (.ref (d K)))) && (PySem.W.isFn K (.ref (d K)) && ((match PySem.W.findIn K (.ref (ga K x)) r with
  | some none => true
  | some (some (.ref _)) => true
  | _ => false) && ["NoneType", "bool", "int", "str", "tuple", "list", "dict"].all fun T => (PySem.W.findIn K (.type T) f).isSome && ((PySem.W.findIn K (.type T) r).isSome && (match PySem.W.subIn K (.type T) (.ref (ga K x)) with
  | some false => true
  | _ => false)))))
section
variable {Y : Cx} {W : WX} {nm : Nat → Option Str} {mg : Str → Option Value} {n : String}
theorem fw_of {x f r : Str} {d : PySem.W.Frag → Addr} (hf : PySem.dunder n = f) (hr : dunderR n = r) (hB : biB Y.K x f r d = true) : ∃ q, PySem.W.selfFirst Y.K (ga Y.K x) = true ∧ PySem.W.findIn Y.K (.ref (ga Y.K x)) (PySem.dunder n) = some (some (.ref q)) ∧ q = d Y.K ∧ PySem.W.isFn Y.K (.ref q) = true ∧ (∃ rc, PySem.W.findIn Y.K (.ref (ga Y.K x)) (dunderR n) = some rc ∧ (rc = none ∨ ∃ g : Addr, rc = some (.ref g))) ∧
    (∀ T ∈ ["NoneType", "bool", "int", "str", "tuple", "list", "dict"], (∃ fo, PySem.W.findIn Y.K (.type T) (PySem.dunder n) = some fo) ∧ (∃ ro, PySem.W.findIn Y.K (.type T) (dunderR n) = some ro) ∧ PySem.W.subIn Y.K (.type T) (.ref (ga Y.K x)) = some false) := by
  subst hf hr
  obtain ⟨b1, b⟩ := ba hB
  obtain ⟨b2, b⟩ := ba b
  obtain ⟨b3, b⟩ := ba b
  obtain ⟨b4, b5⟩ := ba b
  refine ⟨_, b1, eqO_ok b2, rfl, b3, ?_, fun T hT => ?_⟩
  · split at b4
    · rename_i e; exact ⟨_, e, .inl rfl⟩
    · rename_i e; exact ⟨_, e, .inr ⟨_, rfl⟩⟩
    · cases b4
  · have z := List.all_eq_true.mp b5 T hT
    obtain ⟨z1, z⟩ := ba z
    obtain ⟨z2, z3⟩ := ba z
    refine ⟨Option.isSome_iff_exists.mp z1, Option.isSome_iff_exists.mp z2, ?_⟩
    split at z3
    · rename_i e; exact e
    · cases z3
theorem biOk1 {c : Nat} {g : MF} {x f r : Str} {d : PySem.W.Frag → Addr} (hf : PySem.dunder n = f) (hr : dunderR n = r) (hn : nm c = some x) (hB : biB Y.K x f r d = true) (cm : CallAt Y Y.A (GxOf Y.w Y.K mg nm) W (.ref (d Y.K)) g) : BiOk Y (GxOf Y.w Y.K mg nm) W n (lkT [(c, g)]) (lkT []) := ⟨(fun c' C w h e => by
  rcases lkT_cons h with ⟨q1, q2⟩ | q
  · subst q1 q2
    rw [gx_ct e hn]
    obtain ⟨q, a1, a2, a3, a4, a5, a6⟩ := fw_of hf hr hB
    exact ⟨q, a1, a2, a4, a5, a6, by rw [a3]; exact cm⟩
  · cases q), (fun c' C w h e => nomatch h)⟩
end
end ML
end
section
namespace ML
open PySem L2
def qLc (σ σ' : Sg) (d d' : Nat) : CRel Unit := ⟨fun r _ _ => AS2 r σ σ' ∧ r[d]? = some d', fun e a => ⟨a.1.mono e, e.pre a.2⟩⟩
instance {np m : Nat} {gm : GMA} {ma : MA} {t : Tgt} {vs : List Nat} {el : ME} [y : LY gm] [a : LA ma] [x : LE el] : LE (eLcY np m gm ma t vs el) := ⟨fun r s h σ σ' g as => (a.run r s h σ σ' g as).bind fun r1 s1 h1 v v' e1 g1 t1 => by
  obtain ⟨g2, e2⟩ := g1.new (o := .lst []) (o' := .lst []) (.lst .nil)
  have hcb : LCb (qLc σ σ' s1.length h1.length) (cbLc t vs el s1.length σ) (cbLc t vs el h1.length σ') := fun r s h w w' c c' g rx rc => by
    obtain ⟨as3, d3⟩ : AS2 r σ σ' ∧ r[s1.length]? = some h1.length := rc
    unfold cbLc
    cases z3 : t.put w (wipeM σ vs) with
    | none => trivial
    | some τ =>
      obtain ⟨τ', w1, w2⟩ := put2 t rx (wipe2 as3 vs) z3
      rw [w1]
      dsimp only
      have ek := x.run _ _ _ _ _ g w2
      cases z5 : el τ s with
      | err => trivial
      | ex _ _ _ => trivial
      | ok u s3 =>
        rw [z5] at ek
        obtain ⟨r3, h3, u', m1, m2, m3, m4⟩ := ek
        rw [m1]
        dsimp only
        obtain ⟨o, o', v1, v2, v3⟩ := m3.no (m2.pre d3)
        rw [v1, v2]
        cases v3 with
        | lst l =>
          dsimp only
          rw [l.length]
          cases z6 : small _ with
          | false => trivial
          | true =>
            dsimp only
            obtain ⟨g4, e4⟩ := m3.wr v1 (m2.pre d3) (.lst (l.append (.cons m4 .nil)))
            exact ⟨_, _, (), rfl, m2.trans e4, g4, (as3.mono m2).mono e4, e4.pre (m2.pre d3)⟩
        | _ => trivial
  have tt := yRun2 gm (np := np) (m := m) hcb g2 (t1.mono e2) (show (qLc σ σ' s1.length h1.length).R _ () () from ⟨(as.mono e1).mono e2, g1.idx⟩)
  cases w : yRun np m gm (cbLc t vs el s1.length σ) v () (s1 ++ [.lst []]) with
  | nx b σ2 c2 n2 s2 =>
    rw [w] at tt
    obtain ⟨r2, h2, σ2', c2', k1, k2, k3, k4, k5⟩ := tt
    rw [k1]
    exact ⟨_, _, .ref h1.length, rfl, e2.trans k2, k3, .ref (k2.pre g1.idx)⟩
  | out q => trivial
  | ex k i c2 s2 => trivial
  | err => trivial⟩
instance {tF tR : Nat → Option MF} {f : Op2} {ma mb : ME} [c : LTb tF] [d : LTb tR] [x : LE ma] [y : LE mb] [o : LOp f] : LE (eBinU tF tR f ma mb) := ⟨fun r s h σ σ' g a => (x.run r s h σ σ' g a).bind fun r1 s1 h1 v v' e1 g1 q1 => (y.run _ _ _ _ _ g1 (a.mono e1)).bind fun r2 s2 h2 w w' e2 g2 q2 => by
  have q1' := q1.mono e2
  rw [ins2 g2 q1', ty2 g2 q2]
  cases z : insC v s2 with
  | some k =>
    dsimp only
    cases w0 : tF k with
    | none => trivial
    | some u =>
      have run := (c.run _ _ w0).run _ _ _ _ _ g2 (.cons q1' (.cons q2 .nil))
      cases w1 : tyI w s2 with
      | none => trivial
      | some T =>
        cases T with
        | bt t => exact run
        | own k' =>
          dsimp only
          cases Nat.beq k k' with
          | true => exact run
          | false => trivial
  | none =>
    dsimp only
    rw [ins2 g2 q2]
    cases z2 : insC w s2 with
    | none => exact .ofO (o.run _ _ _ _ _ _ _ g2 q1' q2)
    | some k =>
      dsimp only
      cases w0 : tR k with
      | none => trivial
      | some u =>
        cases q1' with
        | int i => exact (d.run _ _ w0).run _ _ _ _ _ g2 (.cons q2 (.cons (.int i) .nil))
        | _ => trivial⟩
end ML
end
section
namespace ML
open PySem L2
section
variable {n m : Nat} {a a' b b' : ME}
instance [x : LE2 n m a a'] [y : LE2 n m b b'] : LE2 n m (eAnd a b) (eAnd a' b') := ⟨fun r s h σ σ' q g p => (x.run r s h σ σ' q g p).bind fun r1 s1 h1 v v' e1 g1 q1 => by
  cases q1 with
  | bl b =>
    cases b with
    | true => exact y.run _ _ _ _ _ (e1.at_ q) g1 (p.mono e1)
    | false => exact .ok g1 (.bl _)
  | _ => trivial⟩
instance [x : LE2 n m a a'] : LE2 n m (eNot a) (eNot a') := ⟨fun r s h σ σ' q g p => (x.run r s h σ σ' q g p).bind fun r1 s1 h1 v v' e1 g1 q1 => by
  cases q1 with
  | bl b => exact .ok g1 (.bl _)
  | _ => trivial⟩
end
end ML
end
section
namespace GQ
open PySem PySem.Spec PyProof.Rows L2 GenW ML
section
variable {M : Model} {A : Around} {E : Value → Shared → Prop} {s : Shared} {env : Env}
end
section
variable {X : Cx} {pins : List (Addr × Obj)} {σ : L2.St} {H : Hp} {sc s : Shared} {W : WX} {C : Addr} {ce : Env} {u : Value} {m : Str → Option Value}
end
end GQ
namespace ML
open PySem PySem.Spec PyProof.Rows L2 GenW GQ
section
variable {G : Gx} {W : WX} {X : Cx} {pins : List (Addr × Obj)} {σ : L2.St} {H : Hp} {s : Shared} {Q : VK}
end
end ML
end
section
namespace ML
open PySem PySem.Spec PyProof.Rows L2 GenW GQ
def sWith (tE tX : Nat → Option MF) (e : ME) (mb : MS) : MS := fun σ h => (e σ h).bindS σ fun x h1 => match insC x h1 with
  | some c => match tE c, tX c with
    | some ge, some gx => match ge [x] h1 with
      | .ok _ h2 => match mb σ h2 with
        | .nx σ' h3 => match gx [x, .non, .non, .non] h3 with
          | .ok _ h4 => .nx σ' h4
          | _ => .err
        | _ => .err
      | _ => .err
    | _, _ => .err
  | none => .err
section
variable {G : Gx} {W : WX} {X : Cx} {me : ME} {mb : MS} {tE tX : Nat → Option MF} {ctx : Expr} {body : List Stmt} {pos : Pos}
end
open He in
def wiB (K : PySem.W.Frag) (x : Str) (d d' : PySem.W.Frag → Addr) : Bool := eqO (PySem.W.findIn K (.ref (ga K x)) "__enter__") (some (some (.ref (d K)))) && (PySem.W.isFn K (.ref (d K)) && (eqO (PySem.W.findIn K (.ref (ga K x)) "__exit__") (some (some (.ref (d' K)))) && PySem.W.isFn K (.ref (d' K))))
section
open He
variable {Y : Cx} {nm : Nat → Option Str} {mg : Str → Option Value}
end
end ML
end
section
namespace ML
open PySem L2
instance {tE tX : Nat → Option MF} {me : ME} {mb : MS} [c : LTb tE] [d : LTb tX] [x : LE me] [y : LS mb] : LS (sWith tE tX me mb) := ⟨fun r s h σ σ' g a => (x.run r s h σ σ' g a).bindS a fun r1 s1 h1 v v' e1 g1 q1 => by
  have a1 := a.mono e1
  rw [ins2 g1 q1]
  cases z : insC v s1 with
  | none => trivial
  | some k =>
    dsimp only
    cases w0 : tE k with
    | none => trivial
    | some ge =>
      cases w1 : tX k with
      | none => trivial
      | some gx =>
        dsimp only
        have t1 := (c.run _ _ w0).run _ _ _ _ _ g1 (.cons q1 .nil)
        cases w2 : ge [v] s1 with
        | err => trivial
        | ex _ _ _ => trivial
        | ok v2 s2 =>
          rw [w2] at t1
          obtain ⟨r2, h2, v2', j1, j2, j3, j4⟩ := t1
          rw [j1]
          dsimp only
          have t2 := y.run _ _ _ _ _ j3 (a1.mono j2)
          cases w3 : mb σ s2 with
          | nx σ3 s3 =>
            rw [w3] at t2
            obtain ⟨r3, h3, σ3', k1, k2, k3, k4⟩ := t2
            rw [k1]
            dsimp only
            have t3 := (d.run _ _ w1).run _ _ _ _ _ k3 (.cons ((q1.mono j2).mono k2) (.cons .non (.cons .non (.cons .non .nil))))
            cases w4 : gx [v, .non, .non, .non] s3 with
            | err => trivial
            | ex _ _ _ => trivial
            | ok v4 s4 =>
              rw [w4] at t3
              obtain ⟨r4, h4, v4', l1, l2, l3, l4⟩ := t3
              rw [l1]
              exact ⟨r4, h4, _, rfl, (j2.trans k2).trans l2, l3, k4.mono l2⟩
          | _ => trivial⟩
theorem whl2 {t : MT} {b : MS} [x : LT t] [y : LS b] : ∀ n, LS (whl t b n)
  | 0 => ⟨fun _ _ _ _ _ _ _ => trivial⟩
  | n + 1 => ⟨fun r s h σ σ' g a => (x.run r s h σ σ' g a).bindS a fun r1 s1 h1 v v' e1 g1 q1 => by
    subst q1
    cases v with
    | false => exact ⟨r1, h1, _, rfl, .refl, g1, a.mono e1⟩
    | true =>
      have t := y.run _ _ _ _ _ g1 (a.mono e1)
      dsimp only
      cases w : b σ s1 with
      | nx σ2 s2 =>
        rw [w] at t
        obtain ⟨r2, h2, σ2', k1, k2, k3, k4⟩ := t
        rw [k1]
        exact ((whl2 n).run _ _ _ _ _ k3 k4).ext k2
      | ct σ2 s2 =>
        rw [w] at t
        obtain ⟨r2, h2, σ2', k1, k2, k3, k4⟩ := t
        rw [k1]
        exact ((whl2 n).run _ _ _ _ _ k3 k4).ext k2
      | bk σ2 s2 =>
        rw [w] at t
        obtain ⟨r2, h2, σ2', k1, k2, k3, k4⟩ := t
        rw [k1]
        exact ⟨r2, h2, σ2', rfl, k2, k3, k4⟩
      | rt u s2 =>
        rw [w] at t
        obtain ⟨r2, h2, u', k1, k2, k3, k4⟩ := t
        rw [k1]
        exact ⟨r2, h2, u', rfl, k2, k3, k4⟩
      | ex c m σ2 s2 =>
        rw [w] at t
        obtain ⟨r2, h2, σ2', m', k1, k2, k3, k4, k5⟩ := t
        rw [k1]
        exact ⟨r2, h2, σ2', m', rfl, k2, k3, k4, k5⟩
      | err => trivial⟩
instance {t : MT} {b : MS} {n : Nat} [x : LT t] [y : LS b] : LS (sWhile (fun _ _ => n) t b) := ⟨fun r s h σ σ' g a => (whl2 n).run r s h σ σ' g a⟩
end ML
end
section
namespace ML
open PySem L2 PySem.Spec PyProof.Rows
def getN (n : NestedKey) : List (VI × VI) → Option VI
  | [] => none
  | (a, v) :: r => match decide (nkD a = some n) with
    | true => some v
    | false => getN n r
def hasN (n : NestedKey) (d : List (VI × VI)) : Bool := (getN n d).isSome
def repN (n : NestedKey) (v : VI) : List (VI × VI) → List (VI × VI)
  | [] => []
  | (a, x) :: r => match decide (nkD a = some n) with
    | true => (a, v) :: repN n v r
    | false => (a, x) :: repN n v r
def putN (k : VI) (n : NestedKey) (v : VI) (d : List (VI × VI)) : List (VI × VI) := match hasN n d with
  | true => repN n v d
  | false => d ++ [(k, v)]
theorem repN_length (n : NestedKey) (v : VI) : ∀ d, (repN n v d).length = d.length
  | [] => rfl
  | (a, x) :: r => by
    unfold repN
    cases decide (nkD a = some n) <;> simp [repN_length n v r]
theorem putN_length (k : VI) (n : NestedKey) (v : VI) (d : List (VI × VI)) : (putN k n v d).length ≤ d.length + 1 := by
  unfold putN
  cases hasN n d <;> simp [repN_length]
section
variable {G : Gx} {ρ : List Addr} {H : Hp}
theorem atKey_pos {p : NestedKey × Addr × Value} {r : List (NestedKey × Addr × Value)} {n : NestedKey} (e : p.1 = n) : atKey (p :: r) n = some p.2 := by simp [atKey, List.find?_cons, e]
theorem atKey_neg {p : NestedKey × Addr × Value} {r : List (NestedKey × Addr × Value)} {n : NestedKey} (e : ¬ p.1 = n) : atKey (p :: r) n = atKey r n := by simp [atKey, List.find?_cons, e]
theorem RNs.get {n : NestedKey} : ∀ {kvs : List (VI × VI)} {xs : List (NestedKey × Addr × Value)}, RNs G ρ H kvs xs → match getN n kvs with
    | some v => ∃ p x, atKey xs n = some p ∧ RV G ρ H v x ∧ RelV x p.2
    | none => atKey xs n = none
  | _, _, .nil => rfl
  | _, _, .cons (k := k) (n := m) (b := b) (u := u) (as := as) (xs := xs) e hk h r t => by
    unfold getN
    rw [e]
    by_cases q : m = n
    · rw [decide_eq_true (congrArg some q)]
      exact ⟨(b, u), _, atKey_pos q, h, r⟩
    · rw [decide_eq_false (fun z => q (Option.some.inj z))]
      have ih := RNs.get (n := n) t
      rw [atKey_neg (p := (m, b, u)) q]
      exact ih
theorem RNs.has {n : NestedKey} {kvs : List (VI × VI)} {xs : List (NestedKey × Addr × Value)} (r : RNs G ρ H kvs xs) : hasN n kvs = (atKey xs n).isSome := by
  have g := r.get (n := n)
  unfold hasN
  cases q : getN n kvs with
  | none => rw [q] at g; rw [show atKey xs n = none from g]; rfl
  | some v => rw [q] at g; obtain ⟨p, x, hp, _⟩ := g; rw [hp]; rfl
theorem RNs.rep {n : NestedKey} {v : VI} {x : V} {u : Value} (rv : RV G ρ H v x) (ru : RelV x u) : ∀ {kvs : List (VI × VI)} {xs : List (NestedKey × Addr × Value)}, RNs G ρ H kvs xs → RNs G ρ H (repN n v kvs) (xs.map (putAt n u))
  | _, _, .nil => .nil
  | _, _, .cons (k := k) (n := m) (b := b) (u := u') e hk h r t => by
    unfold repN
    rw [List.map_cons, e]
    unfold putAt
    by_cases q : m = n
    · rw [decide_eq_true (congrArg some q), if_pos (show (m, b, u').1 = n from q)]
      exact .cons e hk rv ru (RNs.rep rv ru t)
    · rw [decide_eq_false (fun z => q (Option.some.inj z)), if_neg (show ¬ (m, b, u').1 = n from q)]
      exact .cons e hk h r (RNs.rep rv ru t)
theorem RNs.snoc {n : NestedKey} {k v : VI} {b : Addr} {x : V} {u : Value} (e : nkD k = some n) (hk : RV G ρ H k (.ref b)) (rv : RV G ρ H v x) (ru : RelV x u) : ∀ {kvs : List (VI × VI)} {xs : List (NestedKey × Addr × Value)}, RNs G ρ H kvs xs → RNs G ρ H (kvs ++ [(k, v)]) (xs ++ [(n, b, u)])
  | _, _, .nil => .cons e hk rv ru .nil
  | _, _, .cons e' hk' h r t => .cons e' hk' h r (RNs.snoc e hk rv ru t)
theorem RNs.put {n : NestedKey} {k v : VI} {b : Addr} {x : V} {u : Value} (e : nkD k = some n) (hk : RV G ρ H k (.ref b)) (rv : RV G ρ H v x) (ru : RelV x u) {kvs : List (VI × VI)} {xs : List (NestedKey × Addr × Value)} (r : RNs G ρ H kvs xs) : RNs G ρ H (putN k n v kvs) (storedH xs n b u) := by
  unfold putN storedH
  rw [r.has]
  cases (atKey xs n).isSome with
  | true => rw [if_pos rfl]; exact r.rep rv ru
  | false => rw [if_neg Bool.false_ne_true]; exact r.snoc e hk rv ru
end
section
variable {G : Gx} {ρ : List Addr} {H : Hp} {X : Cx} {pins : List (Addr × Obj)} {σ : L2.St} {s : Shared}
theorem nks_is {f : VI → Option NestedKey} {h : Heap} (ih : ∀ v x u n, RV G ρ H v x → RelV x u → f v = some n → NestedIs h n u) : ∀ {vs : List VI} {xs : List V} {us : List Value} {ns : List NestedKey}, RVs G ρ H vs xs → Vals xs us → nksOf f vs = some ns → NestedAll h ns us
  | [], _, _, _, .nil, .nil, e => by cases e; exact .nil
  | v :: vs, _, _, _, .cons r t, .cons r2 t2, e => by
    unfold nksOf at e
    cases q : f v with
    | none => rw [q] at e; cases e
    | some k =>
      rw [q] at e
      dsimp only at e
      cases q2 : nksOf f vs with
      | none => rw [q2] at e; cases e
      | some ks =>
        rw [q2] at e
        cases e
        exact .cons (ih _ _ _ _ r r2 q) (nks_is ih t t2 q2)
theorem nkl_is {v : VI} {x : V} {u : Value} {n : NestedKey} {h : Heap} (r : RV G ρ H v x) (ru : RelV x u) (e : nkLf v = some n) : NestedIs h n u := by
  cases r with
  | non => cases e; cases (show u = Value.none from ru); exact .none
  | bl b => cases e; cases (show u = Value.bool b from ru); exact .bool rfl
  | int i => cases e; obtain ⟨t, q⟩ := (show ∃ t, u = Value.int i t from ru); subst q; exact .int i t
  | str q => cases e; subst q; obtain ⟨t, q⟩ := (show ∃ t, u = Value.str _ t from ru); subst q; exact .text _ t
  | glo q => cases e
  | ref q => cases e
  | tup t rs => cases e
theorem nk_is (hG : G.K = X.K) (I : Inv X pins σ H s) : ∀ (f : Nat) (v : VI) (x : V) (u : Value) (n : NestedKey), RV G ρ H v x → RelV x u → nkOf f v = some n → NestedIs s.heap n u
  | 0, _, _, _, _, r, ru, e => nkl_is r ru e
  | f + 1, v, x, u, n, r, ru, e => by
    cases r with
    | @tup xs ys a t rs =>
      have e' : (nksOf (nkOf f) xs).map NestedKey.tup = some n := e
      cases q : nksOf (nkOf f) xs with
      | none => rw [q] at e'; cases e'
      | some ks =>
        rw [q] at e'
        cases e'
        rw [hG] at t
        obtain ⟨its, rv, ht, _⟩ := I.tuple t
        cases (show u = Value.ref a from ru)
        obtain ⟨o, h1, h2, m, h3⟩ := ht
        exact .tup h1 h2 h3 (nks_is (fun v x u n => nk_is hG I f v x u n) rs (by simpa using rv) q)
    | non => exact nkl_is (G := G) (ρ := ρ) (H := H) .non ru e
    | bl b => exact nkl_is (G := G) (ρ := ρ) (H := H) (.bl b) ru e
    | int i => exact nkl_is (G := G) (ρ := ρ) (H := H) (.int i) ru e
    | str q => exact nkl_is (G := G) (ρ := ρ) (H := H) (.str q) ru e
    | glo q => cases e
    | ref q => cases e
theorem nks_depth {f : VI → Option NestedKey} {m : Nat} (ih : ∀ v n, f v = some n → n.depth ≤ m) : ∀ {vs : List VI} {ns : List NestedKey}, nksOf f vs = some ns → NestedKey.depthAll ns ≤ m
  | [], _, e => by cases e; exact Nat.zero_le _
  | v :: vs, _, e => by
    unfold nksOf at e
    cases q : f v with
    | none => rw [q] at e; cases e
    | some k =>
      rw [q] at e
      dsimp only at e
      cases q2 : nksOf f vs with
      | none => rw [q2] at e; cases e
      | some ks =>
        rw [q2] at e
        cases e
        show max _ _ ≤ m
        exact Nat.max_le.mpr ⟨ih _ _ q, nks_depth ih q2⟩
theorem nkl_depth {v : VI} {n : NestedKey} (e : nkLf v = some n) : n.depth = 0 := by
  cases v with
  | non => cases e; rfl
  | bl b => cases e; rfl
  | int i => cases e; rfl
  | str q => cases e; rfl
  | _ => cases e
theorem nk_depth : ∀ (f : Nat) (v : VI) (n : NestedKey), nkOf f v = some n → n.depth ≤ f
  | 0, v, n, e => Nat.le_of_eq (nkl_depth e)
  | f + 1, v, n, e => by
    cases v with
    | tup xs =>
      have e' : (nksOf (nkOf f) xs).map NestedKey.tup = some n := e
      cases q : nksOf (nkOf f) xs with
      | none => rw [q] at e'; cases e'
      | some ks =>
        rw [q] at e'
        cases e'
        exact Nat.succ_le_succ (nks_depth (fun v n => nk_depth f v n) q)
    | non => exact Nat.le_trans (Nat.le_of_eq (nkl_depth (v := .non) e)) (Nat.zero_le _)
    | bl b => exact Nat.le_trans (Nat.le_of_eq (nkl_depth (v := .bl b) e)) (Nat.zero_le _)
    | int i => exact Nat.le_trans (Nat.le_of_eq (nkl_depth (v := .int i) e)) (Nat.zero_le _)
    | str q => exact Nat.le_trans (Nat.le_of_eq (nkl_depth (v := .str q) e)) (Nat.zero_le _)
    | glo q => cases e
    | ref q => cases e
theorem nkD_is (hG : G.K = X.K) (I : Inv X pins σ H s) {v : VI} {b : Addr} {n : NestedKey} (r : RV G ρ H v (.ref b)) (e : nkD v = some n) : (nestedKind X.prog X.w).is s.heap n b := by
  cases r with
  | @tup xs ys a t rs => exact ⟨nk_is hG I 8 (.tup xs) (.ref b) (.ref b) n (.tup t rs) rfl e, nk_depth 8 (.tup xs) n e⟩
  | glo q => cases e
  | ref q => cases e
theorem nkD_ref {v : VI} {x : V} {n : NestedKey} (r : RV G ρ H v x) (e : nkD v = some n) : ∃ b, x = .ref b := by
  cases r with
  | tup t rs => exact ⟨_, rfl⟩
  | glo q => exact ⟨_, rfl⟩
  | ref q => exact ⟨_, rfl⟩
  | _ => cases e
theorem ndt_of (hG : G.K = X.K) (hw : G.w = X.w) (I : Inv X pins σ H s) {a : Addr} {kvs : List (VI × VI)} {xs : List (NestedKey × Addr × Value)} (e : H a = some (.ext (NDt G.w a xs))) (r : RNs G ρ H kvs xs) :
    xs.length ≤ sizeLine ∧ (a == sysModules) = false ∧ s.heap.DictOfH (nestedKind X.prog X.w) a xs := by
  obtain ⟨⟨z, y, ⟨o, es, ep, h1, h2, h3, h4⟩, h5⟩, _⟩ := (show ObjOk X.prog X.w H s.heap a (.ext (NDt G.w a xs)) from I.hok a _ e)
  refine ⟨z, y, o, es, ep, h1, h2, h3, by rw [h4, hw]; rfl, ?_, h5⟩
  have all : ∀ {l : List (VI × VI)} {m : List (NestedKey × Addr × Value)}, RNs G ρ H l m → ∀ x ∈ m, (nestedKind X.prog X.w).is s.heap x.1 x.2.1 := by
    intro l m q
    induction q with
    | nil => intro x hx; exact nomatch hx
    | cons e hk h r t ih =>
      intro x hx
      rcases List.mem_cons.mp hx with z | hx
      · subst z
        exact nkD_is hG I hk e
      · exact ih x hx
  exact all r
theorem ndt_obj {P : Program} {w : World} {h : Heap} {a : Addr} {xs : List (NestedKey × Addr × Value)} (z : xs.length ≤ sizeLine) (y : (a == sysModules) = false) (d : h.DictOfH (nestedKind P w) a xs) : ObjOk P w H h a (.ext (NDt w a xs)) := by
  obtain ⟨o, es, ep, h1, h2, h3, h4, _, h5⟩ := d
  refine ⟨⟨z, y, ⟨o, es, ep, h1, h2, h3, h4⟩, h5⟩, ⟨o, h1⟩, fun g1 g2 q k => ?_⟩
  obtain ⟨z, y, ⟨o, es, ep, h1, h2, h3, h4⟩, h5⟩ := q
  exact ⟨z, y, ⟨o, es, ep, k _ h1, h2, h3, h4⟩, h5⟩
end
def fInN (neg : Bool) : Op2 := fun y x h => match x with
  | .ref n => match h[n]? with
    | some (.dnk kvs) => match nkD y with
      | some k => some (.bl (if neg then !hasN k kvs else hasN k kvs), h)
      | none => none
    | _ => none
  | _ => none
def fGetN : Op2 := fun x y h => match x with
  | .ref n => match h[n]? with
    | some (.dnk kvs) => match nkD y with
      | some k => match getN k kvs with
        | some v => some (v, h)
        | none => none
      | none => none
    | _ => none
  | _ => none
section
variable {G : Gx} {ρ : List Addr} {h : Hi} {H : Hp} {W : WX} {X : Cx} {a b o i v : Expr} {es : List Expr} {pos p pos' apos cpos : Pos} {ma mb mo mi : ME}
theorem roomN {A : Around} (hu : A.units + 65 < cLine) : (nestedKind X.prog X.w).room A.in1 := by
  show A.units + 1 + 8 < cLine
  omega
theorem mo_inN (hG : G.K = X.K) (hw : G.w = X.w) (hu : X.A.units + 65 < cLine) : OpR X (compareOp .In) (rd2 G (fInN false)) := by
  intro pins s σ H x y v u Q I rx ry ⟨ρ, h, xi, yi, ag, r1, r2, f⟩
  unfold fInN at f
  cases r2 with
  | @ref n ad e =>
    dsimp only at f
    cases q1 : h[n]? with
    | none => rw [q1] at f; exact f.elim
    | some ob =>
      rw [q1] at f
      cases ob with
      | dnk kvs =>
        obtain ⟨xs, hy, rs⟩ := ag.at_ q1 e
        obtain ⟨z, hd, dd⟩ := ndt_of hG hw I hy rs
        dsimp only at f
        cases q2 : nkD xi with
        | none => rw [q2] at f; exact f.elim
        | some k =>
          rw [q2] at f
          obtain ⟨bd, rfl⟩ := nkD_ref r1 q2
          cases (show v = Value.ref bd from rx)
          cases (show u = Value.ref ad from ry)
          exact wpAny_in_heap (roomN hu) (nkD_is hG I r1 q2) hd dd ⟨.bl (hasN k kvs), H, I.tok _, by rw [rs.has]; rfl, f.ok ag (.bl _)⟩
      | _ => exact f.elim
  | _ => exact f.elim
theorem mo_notInN (hG : G.K = X.K) (hw : G.w = X.w) (hu : X.A.units + 65 < cLine) : OpR X (compareOp .NotIn) (rd2 G (fInN true)) := by
  intro pins s σ H x y v u Q I rx ry ⟨ρ, h, xi, yi, ag, r1, r2, f⟩
  unfold fInN at f
  cases r2 with
  | @ref n ad e =>
    dsimp only at f
    cases q1 : h[n]? with
    | none => rw [q1] at f; exact f.elim
    | some ob =>
      rw [q1] at f
      cases ob with
      | dnk kvs =>
        obtain ⟨xs, hy, rs⟩ := ag.at_ q1 e
        obtain ⟨z, hd, dd⟩ := ndt_of hG hw I hy rs
        dsimp only at f
        cases q2 : nkD xi with
        | none => rw [q2] at f; exact f.elim
        | some k =>
          rw [q2] at f
          obtain ⟨bd, rfl⟩ := nkD_ref r1 q2
          cases (show v = Value.ref bd from rx)
          cases (show u = Value.ref ad from ry)
          exact wpAny_notIn_heap (roomN hu) (nkD_is hG I r1 q2) hd dd ⟨.bl (!hasN k kvs), H, I.tok _, by rw [rs.has]; rfl, f.ok ag (.bl _)⟩
      | _ => exact f.elim
  | _ => exact f.elim
def putIxN (o i v : VI) (h : Hi) : Option Hi := match o with
  | .ref n => match h[n]? with
    | some (.dnk kvs) => match nkD i with
      | some k => match small (kvs.length + 1) with
        | true => some (h.set n (.dnk (putN i k v kvs)))
        | false => none
      | none => none
    | _ => none
  | _ => none
def gPutN (o i : ME) : MG := fun v σ h => (o σ h).bindS σ fun x h1 => (i σ h1).bindS σ fun y h2 => nxO σ (putIxN x y v h2)
def eDispN0 : ME := fun _ h => .ok (.ref h.length) (h ++ [.dnk []])
theorem ndt_empty {P : Program} {w : World} (h : Heap) (hb : sysModules < h.objs.size) : ObjOk P w H (h.push { cls := .type "dict", data := .dict #[] }) h.objs.size (.ext (NDt w h.objs.size [])) :=
  ndt_obj (Nat.zero_le _) (beq_eq_false_iff_ne.mpr (Ne.symm (Nat.ne_of_lt hb))) (Heap.DictOfH.new h)
def eDispN (k v : ME) : ME := fun σ h => (k σ (h ++ [.dnk []])).bind fun x h1 => (v σ h1).bind fun y h2 => match h2[h.length]?, nkD x with
  | some (.dnk []), some n => .ok (.ref h.length) (h2.set h.length (.dnk [(x, y)]))
  | _, _ => .err
end
end ML
end
section
namespace ML
open PySem L2 PySem.Spec PyProof.Rows
def keysN : List (VI × VI) → List VI
  | [] => []
  | (a, _) :: r => a :: keysN r
def cListN : OpC := fun vs h => match vs with
  | [.ref n] => match h[n]? with
    | some (.dnk kvs) => some (.ref h.length, h ++ [.lst (keysN kvs)])
    | _ => none
  | _ => none
def cLenN : OpC := fun vs h => match vs with
  | [.ref n] => match h[n]? with
    | some (.dnk kvs) => some (.int kvs.length, h)
    | _ => none
  | _ => none
section
variable {G : Gx} {ρ : List Addr} {h : Hi} {H : Hp} {W : WX} {X : Cx} {e a b c o i v : Expr} {es : List Expr} {pos p p2 pos' apos cpos : Pos} {me ma mb mo mi : ME} {T : IsT}
theorem RNs.keys : ∀ {kvs : List (VI × VI)} {xs : List (NestedKey × Addr × Value)}, RNs G ρ H kvs xs → RVs G ρ H (keysN kvs) (xs.map fun x => V.ref x.2.1)
  | _, _, .nil => .nil
  | _, _, .cons e hk h r t => .cons hk (RNs.keys t)
theorem vals_keys : ∀ (xs : List (NestedKey × Addr × Value)) (vs : List Value), vs.length = xs.length → (∀ (j : Nat) (v : Value), vs[j]? = some v → ∃ y, xs[j]? = some y ∧ v = .ref y.2.1) → Vals (xs.map fun x => V.ref x.2.1) vs
  | [], [], _, _ => .nil
  | x :: xs, v :: vs, hl, k => by
    obtain ⟨y, h1, h2⟩ := k 0 v rfl
    cases h1
    exact .cons h2 (vals_keys xs vs (by simpa using hl) fun j v e => k (j + 1) v e)
  | [], _ :: _, hl, _ => by cases hl
  | _ :: _, [], hl, _ => by cases hl
theorem list_laid {pins : List (Addr × Obj)} {σ : L2.St} {s : Shared} {Q : VK} (hG : G.K = X.K) (hw : G.w = X.w) (I : Inv X pins σ H s) (ag : Ag G ρ h H) {n : Nat} {ad : Addr} {kvs : List (VI × VI)} (q1 : h[n]? = some (.dnk kvs)) (e : ρ[n]? = some ad)
    {es : Array DictEntry} {xs : List (NestedKey × Addr × Value)} (rs : RNs G ρ H kvs xs) (hz : xs.length ≤ sizeLine) (hs : es.size = xs.length) (he : ∀ i (hi : i < es.size), ∃ y, xs[i]? = some y ∧ es[i].key = .ref y.2.1)
    (fi : FinO G ρ H (RV G) Q (some (.ref h.length, h ++ [.lst (keysN kvs)]))) {s0 : Shared} (i0 : ∀ b o, s.heap.get? b = some o → s0.heap.get? b = some o) (z0 : s.heap.objs.size ≤ s0.heap.objs.size) (o0 : s0 = { s with heap := s0.heap, toks := s0.toks }) {h' : Heap} {tk : Nat} {acc : Array Value} {c' : Nat}
    (k : ∀ b o, s0.heap.get? b = some o → h'.get? b = some o) (hl : h'.get? s0.heap.objs.size = some { cls := .type "list", dict := none, data := .seq acc c', slots := #[] }) (ha : ItemsOf (fun i v => ∃ hi : i < es.size, v = es[i].key) acc es.size) :
    EP X pins σ Q (.ref s0.heap.objs.size) { s0 with heap := h', toks := tk } := by
  have hn : H s0.heap.objs.size = none := I.hok.fresh z0
  have rv : Vals (xs.map fun x => V.ref x.2.1) acc.toList := vals_keys xs acc.toList (by rw [Array.length_toList, ha.1, hs]) fun j v q => by
    obtain ⟨hi, ev⟩ := ha.2 j v (by rw [← Array.getElem?_toList]; exact q)
    obtain ⟨y, h1, h2⟩ := he j hi
    exact ⟨y, h1, by rw [ev]; exact h2⟩
  rw [o0]
  refine ⟨.ref s0.heap.objs.size, _, I.laid (t' := tk) (fun b u q => k b u (i0 b u q)) z0 (show ObjOk X.prog X.w _ h' s0.heap.objs.size (.lst (xs.map fun x => V.ref x.2.1)) from ⟨by rw [List.length_map]; exact hz, acc.toList, c', rv, by simpa using hl⟩), rfl, ?_⟩
  exact FinO.new fi ag hn ⟨_, upd_same, (RNs.keys rs).mono (Stp.new hn)⟩
theorem mc_listN (hG : G.K = X.K) (hw : G.w = X.w) (hc : X.calm = true) : CallR X (.type "list") (rdC G cListN) := by
  intro pins s σ H xs us Q I r ⟨ρ, h, args, ag, ra, fi⟩
  unfold cListN at fi
  cases ra with
  | nil => exact fi.elim
  | cons rx t =>
    cases t with
    | cons _ _ => cases rx <;> exact fi.elim
    | nil =>
      cases rx with
      | @ref n ad e =>
        dsimp only at fi
        cases q1 : h[n]? with
        | none => rw [q1] at fi; exact fi.elim
        | some ob =>
          rw [q1] at fi
          cases ob with
          | dnk kvs =>
            obtain ⟨ks, hy, rs⟩ := ag.at_ q1 e
            obtain ⟨z, hd, dd⟩ := ndt_of hG hw I hy rs
            obtain ⟨es, ep, hr, hs, he⟩ := dd.raw
            obtain ⟨u, eu, ru⟩ := vals1 r
            subst eu
            cases (show u = Value.ref ad from ru)
            refine PySem.W.kdl_call (KdlSrc.rawDict hd) (I.ok.hd hc) hr (by rw [hs]; exact z) fun h' tk acc c' k hl ha => ?_
            exact list_laid hG hw I ag q1 e rs z hs (fun i hi => let ⟨y, h1, h2, _⟩ := he i hi; ⟨y, h1, h2⟩) fi (s0 := s) (fun _ _ z => z) (Nat.le_refl _) rfl k hl ha
          | _ => exact fi.elim
      | _ => exact fi.elim
def eKeysN (o : ME) : ME := fun σ h => (o σ h).bind fun x h1 => ofO (cListN [x] h1)
def eClearN (o : ME) : ME := fun σ h => (o σ h).bind fun x h1 => match x with
  | .ref n => match h1[n]? with
    | some (.dnk _) => .ok .non (h1.set n (.dnk []))
    | _ => .err
  | _ => .err
def eIsiN (T : IsT) (e : ME) : ME := fun σ h => (e σ h).bind fun v h1 => match v with
  | .ref n => match h1[n]? with
    | some (.dnk _) => match T.dic with
      | some b => .ok (.bl b) h1
      | none => .err
    | _ => .err
  | _ => .err
end
end ML
end
section
namespace ML
open PySem L2 PySem.Spec PyProof.Rows
def turnsN (it : Itm) (t : Tgt) (vs : List Nat) (tt : MT) (ek ev : ME) (D : Nat) (σ : Sg) : Nat → Nat → Hi → Option Hi
  | 0, i, h => match it.nxt i h with
    | some none => some h
    | _ => none
  | k + 1, i, h => match it.nxt i h with
    | some none => some h
    | some (some x) => match t.put x (wipeM σ vs) with
      | some σ2 => match tt σ2 h with
        | .ok true h2 => match ek σ2 h2 with
          | .ok y h3 => match ev σ2 h3 with
            | .ok z h4 => match h4[D]?, nkD y with
              | some (.dnk acc), some n => match small (acc.length + 1) with
                | true => turnsN it t vs tt ek ev D σ k (i + 1) (h4.set D (.dnk (putN y n z acc)))
                | false => none
              | _, _ => none
            | _ => none
          | _ => none
        | .ok false h2 => turnsN it t vs tt ek ev D σ k (i + 1) h2
        | _ => none
      | none => none
    | none => none
def eDcN (mi : MI) (t : Tgt) (vs : List Nat) (tt : MT) (ek ev : ME) : ME := fun σ h => (mi σ h).bind fun it h1 => match turnsN it t vs tt ek ev h1.length σ (it.fuel h1) 0 (h1 ++ [.dnk []]) with
  | some h2 => .ok (.ref h1.length) h2
  | none => .err
abbrev tDcN (w : World) (wi : TI) (g : TG) (tt : TT) (tk tv : TE) (vs : List Nat) (SN : Hp → V → NestedKey → Prop) : TE := fun σ H Q => wi σ H fun J Ha => ∀ D, Ha D = none → ∃ W : Nat → Nat → Hp → Prop, (∃ m, W 0 m (upd Ha D (.ext (NDt w D [])))) ∧ ∀ i m Hb, W i m Hb →
  (J.stop i Hb ∧ Q (.ref D) Hb) ∨ (J.go i Hb ∧ ∃ Nx : Hp → Prop, (∀ Hc, Nx Hc → ∃ m', m' < m ∧ W (i + 1) m' Hc) ∧ ∀ x Hc, J.yld i Hb x Hc → g x (wipe σ vs) Hc fun τ Hd => wipe τ vs = wipe σ vs ∧ tt τ Hd fun b He =>
    if b = true then tk τ He fun y Hf => tv τ Hf fun z Hg => ∃ (xs : List (NestedKey × Addr × Value)) (n : NestedKey) (bd : Addr), y = .ref bd ∧ SN Hg y n ∧ Hg D = some (.ext (NDt w D xs)) ∧ xs.length < sizeLine ∧ (∀ x ∈ xs, ∃ y', SN Hg y' x.1 ∧ y' = .ref x.2.1) ∧ ∀ u, RelV z u → Nx (upd Hg D (.ext (NDt w D (storedH xs n bd u)))) else Nx He)
section
variable {X : Cx} {G : Gx}
def SNk (G : Gx) (H : Hp) (y : V) (n : NestedKey) : Prop := ∃ ρ v, RV G ρ H v y ∧ nkD v = some n
theorem snk_is {pins : List (Addr × Obj)} {σ : L2.St} {H : Hp} {s : Shared} (hG : G.K = X.K) (I : Inv X pins σ H s) {bd : Addr} {n : NestedKey} (k : SNk G H (.ref bd) n) : (nestedKind X.prog X.w).is s.heap n bd := by
  obtain ⟨ρ, v, r, e⟩ := k
  exact nkD_is hG I r e
theorem dn_set {pins : List (Addr × Obj)} {σ : L2.St} {H : Hp} {s : Shared} {E : Value → Shared → Prop} {D : Addr} {xs : List (NestedKey × Addr × Value)} {n : NestedKey} {bd : Addr} {u : Value} {Q : Unit → Shared → Prop} (hG : G.K = X.K) (hu : X.A.units + 65 < cLine) (I : Inv X pins σ H s)
    (hD : H D = some (.ext (NDt X.w D xs))) (hz : xs.length < sizeLine) (hk : SNk G H (.ref bd) n) (all : ∀ x ∈ xs, ∃ y', SNk G H y' x.1 ∧ y' = .ref x.2.1) (h : ∀ s', Inv X pins σ (upd H D (.ext (NDt X.w D (storedH xs n bd u)))) s' → Q () s') : wpAny (model X.prog X.w) X.A (dictSet D (.ref bd) u) Q E s := by
  obtain ⟨⟨z, y, ⟨o, es, ep, h1, h2, h3, h4⟩, h5⟩, _⟩ := (show ObjOk X.prog X.w H s.heap D (.ext (NDt X.w D xs)) from I.hok D _ hD)
  have dd : s.heap.DictOfH (nestedKind X.prog X.w) D xs := ⟨o, es, ep, h1, h2, h3, h4, fun x hx => (by obtain ⟨y', k, e⟩ := all x hx; subst e; exact snk_is hG I k), h5⟩
  refine wpAny_dictSet_heap (hsz := Nat.le_of_lt hz) (by show X.A.units + 8 < cLine; omega) (snk_is hG I hk) dd fun h' dd' hs => h _ ?_
  obtain ⟨o', _, _, hq, _⟩ := id dd'
  exact d_write I (by rw [hD]; exact True.intro) hs ⟨o', hq⟩ (ndt_obj (Nat.le_trans (storedH_length xs n bd u) hz) y dd')
theorem dn_core {pins : List (Addr × Obj)} {s : Shared} {σ : L2.St} {H : Hp} {Q : VK} {kx vx tg iter : Expr} {ifs : List Expr} {scope : Scope} {own : List (Str × Nat)} {pos pos' : Pos} {wi : TI} {g : TG} {tt : TT} {tk tv : TE} {use : Option (Value → Sem Unit)} {Qf : Value → Shared → Prop}
    (hG : G.K = X.K) (hu : X.A.units + 65 < cLine) (calm : X.calm = true) (nd : X.N.Nodup) (I : Inv X pins σ H s) (hi : PI X tg iter wi) (ok : BlkOk X.N X.env.scope scope own)
    (hg : ∀ (t : Shared) (L : Hp) (C : Addr) (cl : List (Str × Addr)) (qs : List Addr), PG (X.blk t L scope (compEnvC scope cl C X.env) qs) tg g) (ht : ∀ (t : Shared) (L : Hp) (C : Addr) (cl : List (Str × Addr)) (qs : List Addr), PTs (X.blk t L scope (compEnvC scope cl C X.env) qs) ifs tt)
    (hk : ∀ (t : Shared) (L : Hp) (C : Addr) (cl : List (Str × Addr)) (qs : List Addr), PE (X.blk t L scope (compEnvC scope cl C X.env) qs) kx tk)
    (he : ∀ (t : Shared) (L : Hp) (C : Addr) (cl : List (Str × Addr)) (qs : List Addr), PE (X.blk t L scope (compEnvC scope cl C X.env) qs) vx tv) (hs : ∀ x, foldedSetIterable iter X.env x = pure x)
    (h : tDcN X.w wi g tt tk tv (own.map (·.2)) (SNk G) σ H Q)
    (post : ∀ D C t m L, Inv X pins σ L t → Q (.ref D) L → t.heap.Ns C m → FpOk X pins L C → compPost (model X.prog X.w) X.A X.xe use Qf (.ref D) C (.ok .next) t) :
    wpAny (model X.prog X.w) X.A (comprehension (.DictComp kx vx [⟨tg, iter, ifs, 0⟩] scope pos) scope X.env pos' newDict false (eval iter X.env) use) Qf X.xe s := by
  have frees : ∀ y ∈ scope.names, y.2 = .free → ∃ c, X.env.cells.lookup y.1 = some c := fun y hy e => (ok.free y hy e).elim (fun k => I.ok.has _ (.inl k)) (fun k => I.ok.has _ (.inr k))
  refine wpAny_comprehension_free (use := use) rfl hs (closure_ok frees) ok.kind (fun y hy e => (by rw [ok.uniq y hy, e])) (thn (hi.run pins s σ H _ I h) fun xv ta hx => thn hx fun itv tb ⟨it, qs, tn, J, Lb, e, Ib, T, stb, fb, q⟩ => ?_)
  subst e
  refine wpAny_newObj_type (newEnv_comp ?_)
  generalize hD : tb.heap.objs.size = D
  obtain ⟨W, ⟨m0, w0⟩, turn⟩ := q D (Ib.hok.fresh (Nat.le_of_eq hD))
  generalize htc : ({ tb with heap := tb.heap.push { cls := .type "dict", data := .dict #[] } } : Shared) = tc
  have Ic : Inv X pins σ (upd Lb D (.ext (NDt X.w D []))) tc := by
    rw [← htc, ← hD]
    exact Ib.laid (t' := tb.toks) (fun b o e => Heap.get?_push_of_some _ e) (Nat.le_refl _) (ndt_empty tb.heap Ib.big)
  have hpc : tc.heap = tb.heap.push { cls := .type "dict", data := .dict #[] } := by rw [← htc]
  have szs : ∀ b ∈ qs, b < tb.heap.objs.size := fun b hb => let ⟨o, e, _⟩ := T.obj _ _ stb b hb; Heap.lt_size e
  have fc : ∀ b ∈ qs, FpOk X pins (upd Lb D (.ext (NDt X.w D []))) b ∧ b < tc.heap.objs.size := fun b hb => by
    have lt := szs b hb
    exact ⟨⟨by rw [upd_ne (by rw [← hD]; exact Nat.ne_of_lt lt)]; exact (fb b hb).1, (fb b hb).2⟩, by rw [hpc, Heap.size_push]; exact Nat.lt_succ_of_lt lt⟩
  have stc : tn 0 tc.heap := T.keep _ _ _ stb fun b _ o e => (by rw [hpc]; exact Heap.get?_push_of_some _ e)
  have Id := block_start Ic ok nd fc
  generalize hcs : cellsFrom (tc.heap.objs.size + 1) scope.names (cloFrom X.env.cells scope.names []) = cs at Id ⊢
  have pg := hg tc (upd Lb D (.ext (NDt X.w D []))) tc.heap.objs.size cs qs
  have pt := ht tc (upd Lb D (.ext (NDt X.w D []))) tc.heap.objs.size cs qs
  have pk := hk tc (upd Lb D (.ext (NDt X.w D []))) tc.heap.objs.size cs qs
  have pv := he tc (upd Lb D (.ext (NDt X.w D []))) tc.heap.objs.size cs qs
  show codeAny _ _ (.compStart (.DictComp kx vx [⟨tg, iter, ifs, 0⟩] scope pos) 0 (.ref it) (.ref D) (compEnvC scope cs tc.heap.objs.size X.env)) (compPost (model X.prog X.w) X.A X.xe use Qf (.ref D) tc.heap.objs.size) { tc with heap := pushCells (tc.heap.push { cls := .type "dict", data := .dict #[] }) scope.names }
  have nq : ∀ b ∈ qs, (upd Lb D (.ext (NDt X.w D []))) b = none := fun b hb => (fc b hb).1.1
  generalize hce : compEnvC scope cs tc.heap.objs.size X.env = ce at Id pg pt pk pv ⊢
  have cL : ce.locals = tc.heap.objs.size := by subst hce; rfl
  generalize hLc : upd Lb D (.ext (NDt X.w D [])) = Lc at Ic Id pg pt pk pv w0 nq fc
  generalize htd : ({ tc with heap := pushCells (tc.heap.push { cls := .type "dict", data := .dict #[] }) scope.names } : Shared) = td at Id ⊢
  have std : tn 0 td.heap := T.keep _ _ _ stc fun b _ o e => (by rw [← htd]; exact pushCells_keeps _ _ _ _ (Heap.get?_push_of_some _ e))
  have stay : ∀ {τ : L2.St} {L : Hp} {t : Shared}, Inv (X.blk tc Lc scope ce qs) [] τ L t → (∀ b ∈ qs, L b = none) → ∀ b ∈ qs, FpOk (X.blk tc Lc scope ce qs) [] L b := fun {τ L t} J' hn b hb =>
    ⟨hn b hb, (J'.ok.exf b hb).1, J'.ok.exfs b hb, .inl hb, (fun x c e => (J'.ok.exf b hb).2 x c e), fun p hp => absurd (show p ∈ ([] : List (Addr × Obj)) ++ [] from hp) (by simp)⟩
  have loop : codeAny (model X.prog X.w) X.A (.compLoop (.DictComp kx vx [⟨tg, iter, ifs, 0⟩] scope pos) 0 (.ref it) (.ref D) ce) (compPost (model X.prog X.w) X.A X.xe use Qf (.ref D) tc.heap.objs.size) td := by
    refine compLoop_anyD (fun n t => ∃ i L, Inv (X.blk tc Lc scope ce qs) [] (wipe σ (own.map (·.2))) L t ∧ tn i t.heap ∧ (∀ b ∈ qs, L b = none) ∧ W i n L) ?_ m0 ⟨0, Lc, Id, std, nq, w0⟩
    rintro n te ⟨i, Le, Ie, ste, ne, we⟩
    rcases turn i n Le we with ⟨stop, qq⟩ | ⟨go, Nx, hNx, step⟩
    · refine thnF (T.done (X.blk tc Lc scope ce qs) rfl rfl rfl calm i [] te _ Le (fun _ _ => False) Ie (stay Ie ne) ste stop) fun r tf ⟨hr, If⟩ => ?_
      subst hr
      have Ig : Inv X pins σ Le tf := Ic.call' (ch := qs) If.os If.base If.hok If.bare fun b hb => let z := (fc b hb).1; ⟨z.2.2.2.1, z.2.1, z.2.2.2.2.1, z.2.2.2.2.2⟩
      have nC : Le tc.heap.objs.size = none := by rw [← cL]; exact If.free
      obtain ⟨m, hn, _⟩ := If.loc
      exact post D tc.heap.objs.size tf m Le Ig qq (by rw [← cL]; exact hn) (Ic.fpOk (Nat.le_refl _) nC)
    · refine thnF (T.item (X.blk tc Lc scope ce qs) rfl rfl rfl calm i [] te _ Le (fun _ _ => False) Ie (stay Ie ne) ste go) fun r tf ⟨u, hr, hf⟩ => ?_
      subst hr
      refine thnF hf fun _ tg' ⟨x, Lg, Ig, rg, yg, stg, ng⟩ => ?_
      refine thnF (pg.run _ tg' _ Lg x u _ (Ig.pinned (stay Ig ng) (T.obj _ _ stg)) rg (step x Lg yg)) fun _ th ⟨τ, Lh, Ih, hw, qh⟩ => ?_
      refine thnF (pt.run _ th τ Lh _ Ih qh) fun b ti ⟨Li, Ii, qi⟩ => ?_
      have fin : ∀ {t : Shared} {L : Hp}, Inv (X.blk tc Lc scope ce qs) ([] ++ pinsAt qs tg'.heap) τ L t → Nx L → ∃ m, m < n ∧ ∃ i L, Inv (X.blk tc Lc scope ce qs) [] (wipe σ (own.map (·.2))) L t ∧ tn i t.heap ∧ (∀ b ∈ qs, L b = none) ∧ W i m L := fun {t L} J' nx => by
        obtain ⟨m', hm, w'⟩ := hNx L nx
        have pin' : ∀ b ∈ qs, ∀ o, tg'.heap.get? b = some o → t.heap.get? b = some o ∧ L b = none := fun b hb o e => let z := J'.pin (b, o) (List.mem_append_right _ (List.mem_append_right _ (mem_pinsAt hb e))); ⟨z.1, z.2.1⟩
        refine ⟨m', hm, i + 1, L, (J'.unpinned (pins := [])).weak (by rw [← hw, wipe_length]) (fun j v e => (wipe_some (by rw [← hw] at e; exact e)).1), T.keep _ _ _ stg (fun b hb o e => (pin' b hb o e).1), fun b hb => ?_, w'⟩
        obtain ⟨o, e, _⟩ := T.obj _ _ stg b hb
        exact (pin' b hb o e).2
      cases b with
      | false =>
        rw [if_neg Bool.false_ne_true] at qi ⊢
        exact fin Ii qi
      | true =>
        rw [if_pos rfl] at qi ⊢
        refine thnF (pk.run _ ti τ Li _ Ii qi) fun z tj ⟨yk, Lj, Ij, rj, qj⟩ => thnF (pv.run _ tj τ Lj _ Ij qj) fun z2 tl ⟨yv, Ll, Il, rl, xs, n, bd, ek, sk, hDl, hzl, all, nx⟩ => ?_
        subst ek
        cases (show z = Value.ref bd from rj)
        exact dn_set (X := X.blk tc Lc scope ce qs) hG hu Il hDl hzl sk all fun tm Im => fin Im (nx _ rl)
  exact codeAny_compStart_dict loop (T.self X.A 0 _ _ _ std loop)
theorem dcn_rd {W : WX} {mi : MI} {t : Tgt} {mt : MT} {mk mv : ME} (hG : G.K = X.K) (hw : G.w = X.w) (vs : List Nat) (hsl : ∀ j ∈ t.slots, j ∈ vs) {tt : TT} (htt : ∀ σ H Q, rdT G W0 mt σ H Q → tt σ H Q) : ∀ σ H Q, rdE G W (eDcN mi t vs mt mk mv) σ H Q → tDcN X.w (rdI G W mi) (t.tg X.K) tt (rdE G W0 mk) (rdE G W0 mv) vs (SNk G) σ H Q := fun σ H Q ⟨ρ, σi, h, as, ag, fin⟩ =>
  rdI_goE as ag fin fun ρ1 H1 h1 it J st as1 ag1 io fi D hD => by
    rw [← hw]
    have st0 : Stp G ρ1 H1 (ρ1 ++ [D]) (upd H1 D (.ext (NDt G.w D []))) := Stp.new hD
    have ag0 : Ag G (ρ1 ++ [D]) (h1 ++ [.dnk []]) (upd H1 D (.ext (NDt G.w D []))) := ag1.new hD ⟨[], upd_same, .nil⟩
    have hx : (ρ1 ++ [D])[h1.length]? = some D := by rw [← ag1.len]; simp
    cases e0 : turnsN it t vs mt mk mv h1.length σi (it.fuel h1) 0 (h1 ++ [.dnk []]) with
    | none => rw [e0] at fi; exact fi.elim
    | some hf =>
      rw [e0] at fi
      refine ⟨fun i m L => ∃ ρ2 h2, Stp G (ρ1 ++ [D]) (upd H1 D (.ext (NDt G.w D []))) ρ2 L ∧ Ag G ρ2 h2 L ∧ turnsN it t vs mt mk mv h1.length σi m i h2 = some hf, ⟨_, ρ1 ++ [D], _, .refl, ag0, e0⟩, ?_⟩
      rintro i m H2 ⟨ρ2, h2, st2, ag2, f2⟩
      have ok := io i ρ2 h2 H2 (st0.trans st2) ag2
      have as2 : AgS G ρ2 H2 σi σ := as1.mono (st0.trans st2)
      have fin' : ∀ {h}, hf = h → Ag G ρ2 h H2 → Q (.ref D) H2 := fun {h} e a => by
        subst e
        exact fi ρ2 H2 _ (st0.trans st2) a (.ref (st2.pre _ _ hx))
      cases q : it.nxt i h2 with
      | none => cases m <;> (unfold turnsN at f2; rw [q] at f2; cases f2)
      | some o =>
        rw [q] at ok
        cases o with
        | none => exact .inl ⟨ok, by cases m <;> (unfold turnsN at f2; rw [q] at f2; exact fin' (Option.some.inj f2).symm ag2)⟩
        | some v =>
          cases m with
          | zero => unfold turnsN at f2; rw [q] at f2; cases f2
          | succ k =>
            unfold turnsN at f2
            rw [q] at f2
            dsimp only at f2
            obtain ⟨go, yl⟩ := ok
            refine .inr ⟨go, fun L => ∃ ρ2 h2, Stp G (ρ1 ++ [D]) (upd H1 D (.ext (NDt G.w D []))) ρ2 L ∧ Ag G ρ2 h2 L ∧ turnsN it t vs mt mk mv h1.length σi k (i + 1) h2 = some hf, fun L w => ⟨k, Nat.lt_succ_self k, w⟩, fun x H3 y => ?_⟩
            obtain ⟨st3, ag3, rv⟩ := yl x H3 y
            cases e1 : t.put v (wipeM σi vs) with
            | none => rw [e1] at f2; cases f2
            | some σ4 =>
              rw [e1] at f2
              dsimp only at f2
              refine tgt_put hG ((as2.mono st3).wipe vs) rv e1 fun σ5 as5 hj hl => ⟨(wipe_eq vs hl (fun j hn => hj j fun z => hn (hsl j z))).trans (wipe_eq vs (L2.wipe_length σ vs) fun j hn => L2.wipe_out hn), htt _ _ _ ⟨ρ2, σ4, h2, as5, ag3, ?_⟩⟩
              cases e2 : mt σ4 h2 with
              | err => rw [e2] at f2; cases f2
              | ex c n h' => rw [e2] at f2; cases f2
              | ok b h4 =>
                rw [e2] at f2
                intro ρ6 H6 b' st6 ag6 eb
                subst eb
                cases b with
                | false =>
                  rw [if_neg Bool.false_ne_true]
                  exact ⟨ρ6, h4, (st2.trans st3).trans st6, ag6, f2⟩
                | true =>
                  rw [if_pos rfl]
                  dsimp only at f2
                  refine ⟨ρ6, σ4, h4, as5.mono st6, ag6, ?_⟩
                  cases e3 : mk σ4 h4 with
                  | err => rw [e3] at f2; cases f2
                  | ex c n h' => rw [e3] at f2; cases f2
                  | ok z h5 =>
                    rw [e3] at f2
                    dsimp only at f2
                    intro ρ7 H7 z' st7 ag7 rz
                    refine ⟨ρ7, σ4, h5, (as5.mono st6).mono st7, ag7, ?_⟩
                    cases e4 : mv σ4 h5 with
                    | err => rw [e4] at f2; cases f2
                    | ex c n h' => rw [e4] at f2; cases f2
                    | ok z2 h6 =>
                      rw [e4] at f2
                      dsimp only at f2
                      intro ρ8 H8 z2' st8 ag8 rz2
                      cases e5 : h6[h1.length]? with
                      | none => rw [e5] at f2; cases f2
                      | some ob =>
                        rw [e5] at f2
                        cases ob with
                        | dnk acc =>
                          cases e6 : nkD z with
                          | none => rw [e6] at f2; cases f2
                          | some n =>
                            rw [e6] at f2
                            dsimp only at f2
                            cases e7 : small (acc.length + 1) with
                            | false => rw [e7] at f2; cases f2
                            | true =>
                              rw [e7] at f2
                              have stA := (((st2.trans st3).trans st6).trans st7).trans st8
                              have hD7 := stA.pre _ _ hx
                              obtain ⟨ys, hy, rs⟩ := ag8.at_ e5 hD7
                              have rz8 := rz.mono st8
                              obtain ⟨bd, eb⟩ := nkD_ref rz8 e6
                              subst eb
                              refine ⟨ys, n, bd, rfl, ⟨ρ8, z, rz8, e6⟩, hy, by rw [← rs.length]; exact small_lt e7, ?_, fun u ru => ?_⟩
                              · have allK : ∀ {l : List (VI × VI)} {m : List (NestedKey × Addr × Value)}, RNs G ρ8 H8 l m → ∀ x ∈ m, ∃ y', SNk G H8 y' x.1 ∧ y' = .ref x.2.1 := by
                                  intro l m q
                                  induction q with
                                  | nil => intro x hx; exact nomatch hx
                                  | cons e hk h r t ih =>
                                    intro x hx
                                    rcases List.mem_cons.mp hx with z | hx
                                    · subst z
                                      exact ⟨_, ⟨_, _, hk, e⟩, rfl⟩
                                    · exact ih x hx
                                exact allK rs
                              · have stW : Stp G ρ8 H8 ρ8 (upd H8 D (.ext (NDt G.w D (storedH ys n bd u)))) := Stp.wr ag8 e5 hD7
                                exact ⟨ρ8, _, stA.trans stW, ag8.wr (u' := .dnk (putN z n z2 acc)) e5 hD7 ⟨_, upd_same, RNs.put e6 (rz8.mono stW) (rz2.mono stW) ru (rs.mono stW)⟩, f2⟩
                        | _ => cases f2
theorem pe_dcN {kx vx tg iter : Expr} {ifs : List Expr} {scope : Scope} {own : List (Str × Nat)} {pos : Pos} {wi : TI} {g : TG} {tt : TT} {tk tv : TE} (hG : G.K = X.K) (hu : X.A.units + 65 < cLine) (calm : X.calm = true) (nd : X.N.Nodup) (hi : PI X tg iter wi) (ok : BlkOk X.N X.env.scope scope own)
    (hg : ∀ (t : Shared) (L : Hp) (C : Addr) (cl : List (Str × Addr)) (qs : List Addr), PG (X.blk t L scope (compEnvC scope cl C X.env) qs) tg g) (ht : ∀ (t : Shared) (L : Hp) (C : Addr) (cl : List (Str × Addr)) (qs : List Addr), PTs (X.blk t L scope (compEnvC scope cl C X.env) qs) ifs tt)
    (hk : ∀ (t : Shared) (L : Hp) (C : Addr) (cl : List (Str × Addr)) (qs : List Addr), PE (X.blk t L scope (compEnvC scope cl C X.env) qs) kx tk)
    (he : ∀ (t : Shared) (L : Hp) (C : Addr) (cl : List (Str × Addr)) (qs : List Addr), PE (X.blk t L scope (compEnvC scope cl C X.env) qs) vx tv) (hs : ∀ x, foldedSetIterable iter X.env x = pure x := by intro _; rfl) :
    PE X (.DictComp kx vx [⟨tg, iter, ifs, 0⟩] scope pos) (tDcN X.w wi g tt tk tv (own.map (·.2)) (SNk G)) := by
  refine ⟨fun pins s σ H Q I h => ?_⟩
  rw [arm_eval_DictComp]
  exact dn_core hG hu calm nd I hi ok hg ht hk he hs h fun D C t m L J q hn f => ⟨m, hn, fun g sb => ⟨.ref D, L, J.turned (t' := t.toks) (fun b o hb e => (sb.2 b hb).trans e) f.1 f.2.1 f.2.2.2.1 f.2.2.2.2.1 f.2.2.2.2.2, rfl, q⟩⟩
theorem me_dcN0 {kx vx tg iter : Expr} {scope : Scope} {own : List (Str × Nat)} {pos : Pos} {W : WX} {mi : MI} {t : Tgt} {mk mv : ME} (hG : G.K = X.K) (hw : G.w = X.w) (hu : X.A.units + 65 < cLine) (calm : X.calm = true) (nd : X.N.Nodup) (hi : PI X tg iter (rdI G W mi)) (ok : BlkOk X.N X.env.scope scope own) (hsl : ∀ j ∈ t.slots, j ∈ own.map (·.2))
    (hg : ∀ (s : Shared) (L : Hp) (C : Addr) (cl : List (Str × Addr)) (qs : List Addr), PG (X.blk s L scope (compEnvC scope cl C X.env) qs) tg (t.tg X.K))
    (hk : ∀ (s : Shared) (L : Hp) (C : Addr) (cl : List (Str × Addr)) (qs : List Addr), PE (X.blk s L scope (compEnvC scope cl C X.env) qs) kx (rdE G W0 mk))
    (he : ∀ (s : Shared) (L : Hp) (C : Addr) (cl : List (Str × Addr)) (qs : List Addr), PE (X.blk s L scope (compEnvC scope cl C X.env) qs) vx (rdE G W0 mv)) (hs : ∀ x, foldedSetIterable iter X.env x = pure x := by intro _; rfl) :
    PE X (.DictComp kx vx [⟨tg, iter, [], 0⟩] scope pos) (rdE G W (eDcN mi t (own.map (·.2)) tYesM mk mv)) :=
  PE.imp' (pe_dcN hG hu calm nd hi ok hg (fun _ _ _ _ _ => pts_nil) hk he hs) (dcn_rd hG hw _ hsl yes_rd)
end
end ML
end
section
namespace ML
open PySem L2
section
variable {r r' : List Nat} {h h' s : Hi}
theorem nks2 {f : VI → Option NestedKey} (ih : ∀ v w, RV2 r v w → f w = f v) : ∀ {vs ws : List VI}, RVs2 r vs ws → nksOf f ws = nksOf f vs
  | _, _, .nil => rfl
  | _, _, .cons a t => by unfold nksOf; rw [ih _ _ a, nks2 ih t]
theorem nk2 : ∀ (f : Nat) (v w : VI), RV2 r v w → nkOf f w = nkOf f v
  | 0, v, w, a => by cases a <;> rfl
  | f + 1, v, w, a => by
    cases a with
    | tup t => show (nksOf (nkOf f) _).map _ = (nksOf (nkOf f) _).map _; rw [nks2 (fun v w a => nk2 f v w a) t]
    | _ => rfl
theorem nkD2 {v w : VI} (a : RV2 r v w) : nkD w = nkD v := by
  have k := nk2 8 v w a
  cases a with
  | tup t => exact k
  | _ => rfl
theorem getN2 (n : NestedKey) : ∀ {d d' : List (VI × VI)}, RKs2 r d d' → ROp2 r (getN n d) (getN n d')
  | _, _, .nil => trivial
  | _, _, .cons (a := a) (b := b) k v t => by
    unfold getN
    rw [nkD2 k]
    cases decide (nkD a = some n) with
    | true => exact v
    | false => exact getN2 n t
theorem hasN2 (n : NestedKey) {d d' : List (VI × VI)} (t : RKs2 r d d') : hasN n d' = hasN n d := by
  have k := getN2 n t
  unfold hasN
  cases z : getN n d with
  | none => cases z2 : getN n d' with
    | none => rfl
    | some _ => rw [z, z2] at k; exact k.elim
  | some _ => cases z2 : getN n d' with
    | none => rw [z, z2] at k; exact k.elim
    | some _ => rfl
theorem repN2 (n : NestedKey) {v w : VI} (p : RV2 r v w) : ∀ {d d' : List (VI × VI)}, RKs2 r d d' → RKs2 r (repN n v d) (repN n w d')
  | _, _, .nil => .nil
  | _, _, .cons (a := a) (b := b) k u t => by
    unfold repN
    rw [nkD2 k]
    cases decide (nkD a = some n) with
    | true => exact .cons k p (repN2 n p t)
    | false => exact .cons k u (repN2 n p t)
theorem snocN2 {a b v w : VI} (k : RV2 r a b) (p : RV2 r v w) : ∀ {d d' : List (VI × VI)}, RKs2 r d d' → RKs2 r (d ++ [(a, v)]) (d' ++ [(b, w)])
  | _, _, .nil => .cons k p .nil
  | _, _, .cons k' u t => .cons k' u (snocN2 k p t)
theorem putN2 (n : NestedKey) {a b v w : VI} (k : RV2 r a b) (p : RV2 r v w) {d d' : List (VI × VI)} (t : RKs2 r d d') : RKs2 r (putN a n v d) (putN b n w d') := by
  unfold putN
  rw [hasN2 n t]
  cases hasN n d with
  | true => exact repN2 n p t
  | false => exact snocN2 k p t
theorem keysN2 : ∀ {d d' : List (VI × VI)}, RKs2 r d d' → RVs2 r (keysN d) (keysN d')
  | _, _, .nil => .nil
  | _, _, .cons k _ t => .cons k (keysN2 t)
end
instance {neg : Bool} : LOp (fInN neg) := ⟨fun r s h x y x' y' g p q => by
  unfold fInN
  rw [nkD2 p]
  cases q with
  | @ref n m i =>
    obtain ⟨o, o', z1, z2, z3⟩ := g.no i
    dsimp only
    rw [z1, z2]
    cases z3 with
    | dnk t =>
      dsimp only
      cases nkD x with
      | none => trivial
      | some k => dsimp only; rw [hasN2 k t]; exact .ok g (.bl _)
    | _ => trivial
  | _ => trivial⟩
instance : LOp fGetN := ⟨fun r s h x y x' y' g p q => by
  unfold fGetN
  rw [nkD2 q]
  cases p with
  | @ref n m i =>
    obtain ⟨o, o', z1, z2, z3⟩ := g.no i
    dsimp only
    rw [z1, z2]
    cases z3 with
    | dnk t =>
      dsimp only
      cases nkD y with
      | none => trivial
      | some k =>
        have j := getN2 k t
        dsimp only
        cases y1 : getN k _ with
        | none => trivial
        | some v => cases y2 : getN k _ with
          | none => rw [y1, y2] at j; exact j.elim
          | some w => rw [y1, y2] at j; exact .ok g j
    | _ => trivial
  | _ => trivial⟩
theorem putIxN2 {r : List Nat} {s h s' : Hi} (g : Ag2 r s h) {x x' y y' z z' : VI} (p : RV2 r x x') (q : RV2 r y y') (k : RV2 r z z') (e : putIxN x y z s = some s') : ∃ h', putIxN x' y' z' h = some h' ∧ Ex2 r h r h' ∧ Ag2 r s' h' := by
  unfold putIxN at e ⊢
  rw [nkD2 q]
  cases p with
  | @ref n a i =>
    obtain ⟨o, o', z1, z2, z3⟩ := g.no i
    dsimp only at e ⊢
    rw [z1] at e
    rw [z2]
    cases z3 with
    | dnk t =>
      dsimp only at e ⊢
      cases w : nkD y with
      | none => rw [w] at e; cases e
      | some n =>
        rw [w] at e
        dsimp only at e ⊢
        rw [← t.length]
        cases w2 : small _ with
        | false => rw [w2] at e; cases e
        | true =>
          rw [w2] at e
          cases e
          obtain ⟨c1, c2⟩ := g.wr z1 i (.dnk (putN2 n q k t))
          exact ⟨_, rfl, c2, c1⟩
    | _ => cases e
  | _ => cases e
instance {mo mi : ME} [x : LE mo] [y : LE mi] : LG (gPutN mo mi) := ⟨fun r s h σ σ' u u' g a q => (x.run r s h σ σ' g a).bindS a fun r1 s1 h1 v v' e1 g1 q1 => (y.run _ _ _ _ _ g1 (a.mono e1)).bindS (a.mono e1) fun r2 s2 h2 w w' e2 g2 q2 => by
  cases e : putIxN v w u s2 with
  | none => trivial
  | some s' => obtain ⟨h', z1, z2, z3⟩ := putIxN2 g2 (q1.mono e2) q2 ((q.mono e1).mono e2) e; rw [z1]; exact ⟨_, _, _, rfl, z2, z3, ((a.mono e1).mono e2).mono z2⟩⟩
instance : LE eDispN0 := ⟨fun r s h σ σ' g a => .new g fun r' e => .dnk .nil⟩
instance {mk mv : ME} [x : LE mk] [y : LE mv] : LE (eDispN mk mv) := ⟨fun r s h σ σ' g a => by
  obtain ⟨g0, e0⟩ := g.new (o := .dnk []) (o' := .dnk []) (.dnk .nil)
  have t := (x.run _ _ _ _ _ g0 (a.mono e0)).bind (R' := RV2) (k := fun x h1 => (mv σ h1).bind fun y h2 => match h2[s.length]?, nkD x with
    | some (.dnk []), some n => .ok (.ref s.length) (h2.set s.length (.dnk [(x, y)]))
    | _, _ => .err) (k' := fun x h1 => (mv σ' h1).bind fun y h2 => match h2[h.length]?, nkD x with
    | some (.dnk []), some n => .ok (.ref h.length) (h2.set h.length (.dnk [(x, y)]))
    | _, _ => .err) fun r1 s1 h1 v v' e1 g1 q1 => (y.run _ _ _ _ _ g1 ((a.mono e0).mono e1)).bind fun r2 s2 h2 w w' e2 g2 q2 => by
      have i := e2.pre (e1.pre g.idx)
      obtain ⟨o, o', z1, z2, z3⟩ := g2.no i
      rw [z1, z2, nkD2 q1]
      cases z3 with
      | dnk t =>
        cases t with
        | nil =>
          cases nkD v with
          | none => trivial
          | some n =>
            obtain ⟨c1, c2⟩ := g2.wr z1 i (.dnk (.cons (q1.mono e2) q2 .nil))
            exact ⟨_, _, _, rfl, c2, c1, .ref (c2.pre i)⟩
        | cons _ _ _ => trivial
      | _ => trivial
  exact t.ext e0⟩
instance : LOc cListN := ⟨fun r s h vs vs' g q => by
  unfold cListN
  cases q with
  | nil => trivial
  | cons a t => cases t with
    | cons _ _ => cases a <;> trivial
    | nil => cases a with
      | @ref n m i =>
        obtain ⟨o, o', z1, z2, z3⟩ := g.no i
        dsimp only
        rw [z1, z2]
        cases z3 with
        | dnk t => exact .new g fun r' e => .lst ((keysN2 t).mono e)
        | _ => trivial
      | _ => trivial⟩
instance : LOc cLenN := ⟨fun r s h vs vs' g q => by
  unfold cLenN
  cases q with
  | nil => trivial
  | cons a t => cases t with
    | cons _ _ => cases a <;> trivial
    | nil => cases a with
      | @ref n m i =>
        obtain ⟨o, o', z1, z2, z3⟩ := g.no i
        dsimp only
        rw [z1, z2]
        cases z3 with
        | dnk t => dsimp only; rw [t.length]; exact .ok g (.int _)
        | _ => trivial
      | _ => trivial⟩
instance {mo : ME} [x : LE mo] : LE (eKeysN mo) := ⟨fun r s h σ σ' g a => (x.run r s h σ σ' g a).bind fun r1 s1 h1 v v' e1 g1 q1 => .ofO (LOc.run _ _ _ _ _ g1 (.cons q1 .nil))⟩
instance {mo : ME} [x : LE mo] : LE (eClearN mo) := ⟨fun r s h σ σ' g a => (x.run r s h σ σ' g a).bind fun r1 s1 h1 v v' e1 g1 q1 => by
  cases q1 with
  | @ref n m i =>
    obtain ⟨o, o', z1, z2, z3⟩ := g1.no i
    dsimp only
    rw [z1, z2]
    cases z3 with
    | dnk t =>
      obtain ⟨c1, c2⟩ := g1.wr z1 i (.dnk .nil)
      exact ⟨_, _, _, rfl, c2, c1, .non⟩
    | _ => trivial
  | _ => trivial⟩
instance {mo : ME} {T : IsT} [x : LE mo] : LE (eIsiN T mo) := ⟨fun r s h σ σ' g a => (x.run r s h σ σ' g a).bind fun r1 s1 h1 v v' e1 g1 q1 => by
  cases q1 with
  | @ref n m i =>
    obtain ⟨o, o', z1, z2, z3⟩ := g1.no i
    dsimp only
    rw [z1, z2]
    cases z3 with
    | dnk t =>
      dsimp only
      cases T.dic with
      | none => trivial
      | some b => exact .ok g1 (.bl b)
    | _ => trivial
  | _ => trivial⟩
theorem turnsN2 {t : Tgt} {vs : List Nat} {tt : MT} {ek ev : ME} [x : LT tt] [y : LE ek] [z : LE ev] : ∀ (k i : Nat) (r : List Nat) (s h s' : Hi) (σ σ' : Sg) (a b : Itm) (D D' : Nat), Ag2 r s h → AS2 r σ σ' → RI2 r a b → r[D]? = some D' →
    turnsN a t vs tt ek ev D σ k i s = some s' → ∃ r' h', turnsN b t vs tt ek ev D' σ' k i h = some h' ∧ Ex2 r h r' h' ∧ Ag2 r' s' h'
  | 0, i, r, s, h, s', σ, σ', a, b, D, D', g, as, q, d, e => by
    have n := nxt2 g q i
    unfold turnsN at e ⊢
    cases z1 : a.nxt i s with
    | none => rw [z1] at e; cases e
    | some o =>
      rw [z1] at e n
      cases o with
      | some _ => cases e
      | none => cases z2 : b.nxt i h with
        | none => rw [z2] at n; exact n.elim
        | some o' => cases o' with
          | some _ => rw [z2] at n; exact n.elim
          | none => cases e; exact ⟨r, h, rfl, .refl, g⟩
  | k + 1, i, r, s, h, s', σ, σ', a, b, D, D', g, as, q, d, e => by
    have n := nxt2 g q i
    unfold turnsN at e ⊢
    cases z1 : a.nxt i s with
    | none => rw [z1] at e; cases e
    | some o =>
      rw [z1] at e n
      cases z2 : b.nxt i h with
      | none => rw [z2] at n; exact n.elim
      | some o' =>
        rw [z2] at n
        cases o with
        | none => cases o' with
          | some _ => exact n.elim
          | none => cases e; exact ⟨r, h, rfl, .refl, g⟩
        | some v => cases o' with
          | none => exact n.elim
          | some v' =>
            dsimp only at e ⊢
            cases z3 : t.put v (wipeM σ vs) with
            | none => rw [z3] at e; cases e
            | some τ =>
              obtain ⟨τ', w1, w2⟩ := put2 t n (wipe2 as vs) z3
              rw [z3] at e
              rw [w1]
              dsimp only at e ⊢
              have tk := x.run _ _ _ _ _ g w2
              cases z4 : tt τ s with
              | err => rw [z4] at e; cases e
              | ex _ _ _ => rw [z4] at e; cases e
              | ok c s2 =>
                rw [z4] at tk e
                obtain ⟨r2, h2, c', k1, k2, k3, k4⟩ := tk
                subst k4
                rw [k1]
                cases c with
                | false =>
                  dsimp only at e ⊢
                  obtain ⟨r3, h3, j1, j2, j3⟩ := turnsN2 k (i + 1) _ _ _ _ _ _ _ _ _ _ k3 (as.mono k2) (q.mono k2) (k2.pre d) e
                  exact ⟨r3, h3, j1, k2.trans j2, j3⟩
                | true =>
                  dsimp only at e ⊢
                  have ek' := y.run _ _ _ _ _ k3 (w2.mono k2)
                  cases z5 : ek τ s2 with
                  | err => rw [z5] at e; cases e
                  | ex _ _ _ => rw [z5] at e; cases e
                  | ok u s3 =>
                    rw [z5] at ek' e
                    obtain ⟨r3, h3, u', m1, m2, m3, m4⟩ := ek'
                    rw [m1]
                    dsimp only at e ⊢
                    have ev' := z.run _ _ _ _ _ m3 ((w2.mono k2).mono m2)
                    cases z7 : ev τ s3 with
                    | err => rw [z7] at e; cases e
                    | ex _ _ _ => rw [z7] at e; cases e
                    | ok u2 s4 =>
                      rw [z7] at ev' e
                      obtain ⟨r4, h4, u2', l1, l2, l3, l4⟩ := ev'
                      rw [l1]
                      dsimp only at e ⊢
                      have d4 := l2.pre (m2.pre (k2.pre d))
                      obtain ⟨o, o', v1, v2, v3⟩ := l3.no d4
                      rw [v1] at e
                      rw [v2, nkD2 m4]
                      cases v3 with
                      | dnk l =>
                        cases z8 : nkD u with
                        | none => rw [z8] at e; cases e
                        | some nk =>
                          rw [z8] at e
                          dsimp only at e ⊢
                          rw [l.length] at e
                          cases z6 : small _ with
                          | false => rw [z6] at e; cases e
                          | true =>
                            rw [z6] at e
                            dsimp only at e ⊢
                            obtain ⟨g4, e4⟩ := l3.wr v1 d4 (.dnk (putN2 nk (m4.mono l2) l4 l))
                            obtain ⟨r5, h5, j1, j2, j3⟩ := turnsN2 k (i + 1) _ _ _ _ _ _ _ _ _ _ g4 ((((as.mono k2).mono m2).mono l2).mono e4) ((((q.mono k2).mono m2).mono l2).mono e4) (e4.pre d4) e
                            exact ⟨r5, h5, j1, (((k2.trans m2).trans l2).trans e4).trans j2, j3⟩
                      | _ => cases e
instance {mi : MI} {t : Tgt} {vs : List Nat} {tt : MT} {ek ev : ME} [z : LI mi] [x : LT tt] [y : LE ek] [y2 : LE ev] : LE (eDcN mi t vs tt ek ev) := ⟨fun r s h σ σ' g a => (z.run r s h σ σ' g a).bind fun r1 s1 h1 v v' e1 g1 q1 => by
  obtain ⟨g2, e2⟩ := g1.new (o := .dnk []) (o' := .dnk []) (.dnk .nil)
  rw [fuel2 g1 q1]
  cases w : turnsN v t vs tt ek ev s1.length σ (v.fuel s1) 0 (s1 ++ [.dnk []]) with
  | none => trivial
  | some s2 =>
    obtain ⟨r3, h3, j1, j2, j3⟩ := turnsN2 _ _ _ _ _ _ _ _ _ _ _ _ g2 ((a.mono e1).mono e2) (q1.mono e2) g1.idx w
    rw [j1]
    exact ⟨r3, h3, _, rfl, e2.trans j2, j3, .ref (j2.pre g1.idx)⟩⟩
end ML
end
section
namespace ML
open PySem PySem.Spec PySem.Calls PyProof.Rows PyProof.V L2 He
inductive HitsH {K : Type} [DecidableEq K] (prog : Program) (w : World) (A : Around) (s : Shared) (kb : List (K × Addr × Value)) : List (K × Addr × Value) → Bool → Prop
  | nil : HitsH prog w A s kb [] true
  | miss {k : K} {c : Addr} {v : Value} {r : List (K × Addr × Value)} : atKey kb k = none → HitsH prog w A s kb ((k, c, v) :: r) false
  | hit {k : K} {c : Addr} {v : Value} {y : Addr × Value} {r : List (K × Addr × Value)} {e b : Bool} : atKey kb k = some y → SeqAt.EqP prog w A s v y.2 e → HitsH prog w A s kb r b → HitsH prog w A s kb ((k, c, v) :: r) (e && b)
section
variable {prog : Program} {w : World} {K : Type} [DecidableEq K] {knd : HeapKind prog w K} {A : Around} {E : Value → Shared → Prop} {s : Shared}
theorem HitsH.inv {kb : List (K × Addr × Value)} {k : K} {c : Addr} {v : Value} {r : List (K × Addr × Value)} {b : Bool} (h : HitsH prog w A s kb ((k, c, v) :: r) b) :
    (atKey kb k = none ∧ b = false) ∨ ∃ y e b', atKey kb k = some y ∧ SeqAt.EqP prog w A s v y.2 e ∧ HitsH prog w A s kb r b' ∧ b = (e && b') := by
  cases h with
  | miss hn => exact .inl ⟨hn, rfl⟩
  | hit hy he hr => exact .inr ⟨_, _, _, hy, he, hr, rfl⟩
theorem samePairsH {nm : String} {a b : Addr} {ka kb : List (K × Addr × Value)} {r : Bool} {Q : Bool → Shared → Prop} (hu : knd.room A) (ha : (a == sysModules) = false) (hb : (b == sysModules) = false)
    (da : s.heap.DictOfH knd a ka) (db : s.heap.DictOfH knd b kb) (hits : ka.length = kb.length → HitsH prog w A s kb ka r) (h : Q (ka.length == kb.length && r) s) :
    wpAny (model prog w) A (Builtin.Dict.samePairs nm a b) Q E s := by
  obtain ⟨oa, es, ep, hoa, _, hda, hea, hia, _⟩ := da
  obtain ⟨ob, es', ep', hob, _, hdb, heb, hib, hnb⟩ := db
  have hla : ka.length = es.size := (size_of_entries hea).symm
  have hlb : kb.length = es'.size := (size_of_entries heb).symm
  rw [hla, hlb] at h
  unfold Builtin.Dict.samePairs Builtin.Dict.showsAll
  rw [if_neg (show ¬ (a == sysModules) = true by rw [ha]; exact Bool.false_ne_true), if_neg (show ¬ (b == sysModules) = true by rw [hb]; exact Bool.false_ne_true)]
  refine wpAny_bind (wpAny_pure (wpAny_bind (wpAny_pure ?_)))
  refine wpAny_bind (wpAny_dictEntries hoa hda ?_)
  dsimp only
  refine wpAny_bind (wpAny_dictEntries hob hdb ?_)
  by_cases hsz : es.size = es'.size
  case neg =>
    rw [if_pos (by simpa using hsz)]
    have hbf : (es.size == es'.size) = false := by simpa using hsz
    rw [hbf, Bool.false_and] at h
    exact wpAny_bind (wpAny_rule (wpAny_pure h))
  case pos =>
    have h' : Q r s := by simpa [hsz] using h
    have hits' := hits (by rw [hla, hlb]; exact hsz)
    rw [if_neg (by rw [hsz]; simp)]
    refine wpAny_bind (wpAny_dictEpoch hoa hda ?_)
    refine wpAny_bind ?_
    rw [Std.Legacy.Range.forIn_eq_forIn_range']
    simp only [Std.Legacy.Range.size, Nat.sub_zero, Nat.add_sub_cancel, Nat.div_one]
    refine wpAny_forIn_list _
      (fun rest q s' => s' = s ∧ q = (none, ()) ∧ ∃ i, rest = List.range' i (es.size - i) ∧ i ≤ es.size ∧ HitsH prog w A s kb (ka.drop i) r)
      _ ?_ ?_ _ _ ⟨rfl, rfl, 0, by simp, Nat.zero_le _, hits'⟩
    · rintro x rest q s' ⟨rfl, rfl, i, hr, hi, hpre⟩
      have hlt : i < es.size := by
        rcases Nat.lt_or_ge i es.size with h | h
        · exact h
        · rw [Nat.sub_eq_zero_of_le h] at hr; simp at hr
      obtain ⟨rfl, hrest⟩ : x = i ∧ rest = List.range' (i + 1) (es.size - (i + 1)) := by
        have e : es.size - i = (es.size - (i + 1)) + 1 := by omega
        rw [e, List.range'_succ] at hr
        injection hr with h1 h2
        exact ⟨h1, h2⟩
      refine wpAny_bind (wpAny_dictEntries hoa hda ?_)
      rw [Array.getElem?_eq_getElem hlt]
      have hlt' : x < ka.length := by rw [hla]; exact hlt
      obtain ⟨k, c, v, hkv⟩ : ∃ k c v, ka[x] = (k, c, v) := ⟨_, _, _, rfl⟩
      have hdrop : ka.drop x = (k, c, v) :: ka.drop (x + 1) := by rw [← hkv]; exact List.drop_eq_getElem_cons hlt'
      have hent : es[x] = entryOfKey knd (k, c, v) := by
        have := entry_at hea x
        rw [Array.getElem?_eq_getElem hlt, List.getElem?_eq_getElem hlt', hkv] at this
        simpa using this
      have hkey : knd.is s'.heap k c := hia (k, c, v) (by rw [← hkv]; exact List.getElem_mem hlt')
      rw [hdrop] at hpre
      show wpAny _ _ (holding [es[x].key, es[x].val] _ >>= _) _ _ _
      rw [hent]
      refine wpAny_bind (wpAny_holding (wpAny_bind ?_))
      refine wpAny_dictFind_heap (k := k) (a := c) (xs := kb) hu hkey hob hdb heb hib hnb (fun hno => ?_) (fun j p hj => ?_)
      · have hn : atKey kb k = none := atKey_none_of_get hno
        rcases hpre.inv with ⟨_, er⟩ | ⟨y, _, _, hy, _⟩
        · rw [er] at h'
          refine wpAny_pure ?_
          show wpAny _ _ (if (!false) = true then _ else _) _ _ _
          rw [if_pos (by decide)]
          exact wpAny_pure (wpAny_pure h')
        · rw [hn] at hy; exact nomatch hy
      · have hv' : atKey kb k = some p := atKey_of_get hnb hj
        have hjl : j < es'.size := by rw [← hlb]; exact (List.getElem?_eq_some_iff.mp hj).1
        have hej : es'[j] = entryOfKey knd (k, p) := by
          have := entry_at heb j
          rw [Array.getElem?_eq_getElem hjl, hj] at this
          simpa using this
        refine wpAny_bind (wpAny_dictEntries hob hdb ?_)
        rw [Array.getElem?_eq_getElem hjl]
        rcases hpre.inv with ⟨hn, _⟩ | ⟨y, e, b', hy, he, hrr, er⟩
        · rw [hv'] at hn; exact nomatch hn
        · have ey : p = y := Option.some.inj (hv'.symm.trans hy)
          subst ey
          rw [hej]
          refine wpAny_holding (he _ _ ?_)
          cases e with
          | false =>
            rw [er, Bool.false_and] at h'
            show wpAny _ _ (if (!false) = true then _ else _) _ _ _
            rw [if_pos (by decide)]
            exact wpAny_pure (wpAny_pure h')
          | true =>
            rw [Bool.true_and] at er
            rw [← er] at hrr
            show wpAny _ _ (if (!true) = true then _ else _) _ _ _
            rw [if_neg (by decide)]
            refine wpAny_bind (wpAny_dictEpoch hoa hda ?_)
            rw [if_neg (by simp)]
            exact wpAny_pure ⟨rfl, rfl, x + 1, hrest, hlt, hrr⟩
    · rintro q s' ⟨rfl, rfl, i, hr, hi, hpre⟩
      have hin : i = es.size := by
        rcases Nat.lt_or_ge i es.size with h | h
        · have e : es.size - i = (es.size - (i + 1)) + 1 := by omega
          rw [e, List.range'_succ] at hr; exact nomatch hr
        · exact Nat.le_antisymm hi h
      refine wpAny_pure ?_
      rw [hin, ← hla, List.drop_length] at hpre
      cases hpre
      exact h'
theorem rc_dictsH {a b : Addr} {ka kb : List (K × Addr × Value)} {r : Bool} (hr : knd.room A.in1) (ha : (a == sysModules) = false) (hb : (b == sysModules) = false)
    (da : s.heap.DictOfH knd a ka) (db : s.heap.DictOfH knd b kb) (hu : A.units < cLine) (hits : ka.length = kb.length → HitsH prog w A.in1 s kb ka r) (E Q : Value → Shared → Prop) (h : Q (.bool (ka.length == kb.length && r)) s) : wpAny (model prog w) A (richCompare .Eq (.ref a) (.ref b)) Q E s := by
  refine wpAny_richCompare_same_room (op := .Eq) da.typeIs db.typeIs PySem.F.slot_dict_eq (wpAny_call_entry PySem.F.slot_dict_eq da.typeIs PySem.F.entry_dict_eq ?_ (PySem.F.args_dict_eq_2 _ _)) hu
  show wpAny _ _ (Builtin.Dict.dictSlotArgs "__eq__" ⟨[.ref a, .ref b], []⟩ >>= _) _ _ s
  refine wpAny_bind ?_
  unfold Builtin.Dict.dictSlotArgs
  refine wpAny_bind (wpAny_notOrdered_dict da.typeIs ?_)
  show wpAny _ _ (pure (Value.ref a, Value.ref b)) _ _ s
  refine wpAny_pure ?_
  refine wpAny_bind (wpAny_isInstance (T := "dict") db.typeIs PySem.F.sub_dict_dict ?_)
  simp only [Bool.not_true, Bool.false_eq_true, if_false]
  refine wpAny_bind (wpAny_pure (wpAny_bind (wpAny_pure ?_)))
  refine wpAny_bind (samePairsH hr ha hb da db hits ?_)
  refine wpAny_pure ⟨_, rfl, ?_, ?_⟩
  · exact fun x => nomatch x
  · simpa using h
end
def allN (kb : List (VI × VI)) : List (VI × VI) → Bool
  | [] => true
  | (k, v) :: r => match nkD k with
    | some n => match getN n kb with
      | some w => eqI v w && allN kb r
      | none => false
    | none => false
def fEqN : Op2 := fun x y h => match x, y with
  | .ref a, .ref b => match h[a]?, h[b]? with
    | some (.dnk ka), some (.dnk kb) => match flK ka && flK kb with
      | true => some (.bl (Nat.beq ka.length kb.length && allN kb ka), h)
      | false => none
    | _, _ => none
  | _, _ => none
section
variable {G : Gx} {ρ : List Addr} {h : Hi} {H : Hp} {X : Cx} {Q : VK}
theorem flK_getN {n : NestedKey} : ∀ {kvs : List (VI × VI)} {v : VI}, flK kvs = true → getN n kvs = some v → flI v = true
  | [], _, _, e => by cases e
  | (k, u) :: r, v, f, e => by
    unfold flK at f
    obtain ⟨f1, f2⟩ := Bool.and_eq_true_iff.mp f
    unfold getN at e
    split at e
    · cases e; exact f1
    · exact flK_getN f2 e
theorem hits_N {P : Program} {w : World} {A : Around} {s : Shared} {kb : List (VI × VI)} {lb : List (NestedKey × Addr × Value)} (rb : RNs G ρ H kb lb) (fb : flK kb = true) :
    ∀ {ka : List (VI × VI)} {la : List (NestedKey × Addr × Value)}, RNs G ρ H ka la → flK ka = true → HitsH P w A s lb la (allN kb ka)
  | _, _, .nil, _ => .nil
  | _, _, .cons (k := k) (v := v) (n := n) (x := x) e hk rv ru t, f => by
    unfold flK at f
    obtain ⟨f1, f2⟩ := Bool.and_eq_true_iff.mp f
    have g := rb.get (n := n)
    unfold allN
    rw [e]
    dsimp only
    cases z : getN n kb with
    | none =>
      rw [z] at g
      exact .miss g
    | some u2 =>
      rw [z] at g
      obtain ⟨p, y, hp, g2, ry⟩ := g
      have fu := flK_getN fb z
      dsimp only
      rw [rv.eqI g2 f1 fu]
      exact .hit hp (eqAt_V ru ry (rv.flat f1) (g2.flat fu)).eqP (hits_N rb fb t f2)
theorem mo_eqN (hG : G.K = X.K) (hw : G.w = X.w) (hu : X.A.units + 65 < cLine) : OpR X (compareOp .Eq) (rd2 G fEqN) := fun pins s σ H x y v u Q I rx ry q => by
  obtain ⟨ρ, h, xi, yi, ag, r1, r2, f⟩ := q
  unfold fEqN at f
  cases r1 with
  | @ref n a q1 =>
    cases r2 with
    | @ref m b q2 =>
      dsimp only at f
      split at f
      · rename_i ka kb z1 z2
        cases fl : flK ka && flK kb with
        | false => rw [fl] at f; exact f.elim
        | true =>
          rw [fl] at f
          obtain ⟨fa, fb⟩ := Bool.and_eq_true_iff.mp fl
          obtain ⟨la, ha, ra⟩ := ag.at_ z1 q1
          obtain ⟨lb, hb, rb⟩ := ag.at_ z2 q2
          cases (show v = Value.ref a from rx)
          cases (show u = Value.ref b from ry)
          obtain ⟨_, ya, da⟩ := ndt_of hG hw I ha ra
          obtain ⟨_, yb, db⟩ := ndt_of hG hw I hb rb
          refine rc_dictsH (knd := nestedKind X.prog X.w) (r := allN kb ka) (roomN hu) ya yb da db (by omega) (fun _ => hits_N rb fb ra fa) _ _ ?_
          have e : (la.length == lb.length) = Nat.beq ka.length kb.length := by
            rw [ra.length, rb.length]
            exact beqN _ _
          rw [e]
          exact ⟨.bl _, H, I, rfl, f.ok ag (.bl _)⟩
      · exact f.elim
    | _ => exact f.elim
  | _ => exact f.elim
end
end ML
end
section
namespace ML
open PySem L2
section
variable {r : List Nat}
theorem flKN2 : ∀ {ka kb : List (VI × VI)}, RKs2 r ka kb → flK kb = flK ka
  | _, _, .nil => rfl
  | _, _, .cons _ a t => by simp only [flK, flI2 a, flKN2 t]
theorem allN2 {la lb : List (VI × VI)} (q : RKs2 r la lb) (fl : flK la = true) : ∀ {ka kb : List (VI × VI)}, RKs2 r ka kb → flK ka = true → allN lb kb = allN la ka
  | _, _, .nil, _ => rfl
  | _, _, .cons (a := a) (b := b) k p t, f => by
    unfold flK at f
    obtain ⟨f1, f2⟩ := Bool.and_eq_true_iff.mp f
    simp only [allN]
    rw [nkD2 k]
    cases nkD a with
    | none => rfl
    | some n =>
      dsimp only
      have g := getN2 n q
      cases z : getN n la with
      | none => cases z2 : getN n lb with
        | none => rfl
        | some _ => rw [z, z2] at g; exact g.elim
      | some u => cases z2 : getN n lb with
        | none => rw [z, z2] at g; exact g.elim
        | some u' =>
          rw [z, z2] at g
          dsimp only
          rw [eqI2 p g, allN2 q fl t f2]
instance : LOp fEqN := ⟨fun r s h x y x' y' g p q => by
  unfold fEqN
  cases p with
  | ref i =>
    cases q with
    | ref j =>
      obtain ⟨o, o', z1, z2, z3⟩ := g.no i
      obtain ⟨u, u', y1, y2, y3⟩ := g.no j
      dsimp only
      rw [z1, z2, y1, y2]
      cases z3 with
      | dnk t =>
        cases y3 with
        | dnk t' =>
          dsimp only
          rw [flKN2 t, flKN2 t']
          rename_i ka kb la lb
          cases f : flK ka && flK la with
          | false => trivial
          | true =>
            obtain ⟨f1, f2⟩ := Bool.and_eq_true_iff.mp f
            dsimp only
            rw [← t.length, ← t'.length, allN2 t' f2 t f1]
            exact .ok g (.bl _)
        | _ => trivial
      | _ => trivial
    | _ => trivial
  | _ => trivial⟩
end
end ML
end
section
namespace ML
open PySem L2
def whlW (i : Nat) (a : ME) (f : Op2) (b : ME) (body : MS) : Nat → MS
  | 0 => fun _ _ => .err
  | n + 1 => fun σ h => (a σ h).bindS σ fun x h1 => (b (σ.set i (some x)) h1).bindS (σ.set i (some x)) fun y h2 => match f x y h2 with
    | some (.bl true, h3) => match body (σ.set i (some x)) h3 with
      | .nx σ4 h4 => whlW i a f b body n σ4 h4
      | .ct σ4 h4 => whlW i a f b body n σ4 h4
      | .bk σ4 h4 => .nx σ4 h4
      | r => r
    | some (.bl false, h3) => .nx (σ.set i (some x)) h3
    | _ => .err
def sWhileW (n i : Nat) (a : ME) (f : Op2) (b : ME) (body : MS) : MS := fun σ h => whlW i a f b body n σ h
section
variable {G : Gx} {W : WX} {X : Cx} {a b : Expr} {body : List Stmt} {pos pos' p cpos : Pos} {ma mb : ME} {ms : MS} {f : Op2}
end
def mInsert : OpM := fun x vs h => match x with
  | .ref n => match h[n]? with
    | some (.lst xs) => match vs with
      | [.int i, y] => match small (xs.length + 1) && (decide (0 ≤ i) && decide (i < 2 ^ 62)) with
        | true => some (.non, h.set n (.lst (xs.take i.toNat ++ [y] ++ xs.drop i.toNat)))
        | false => none
      | _ => none
    | _ => none
  | _ => none
def mPopAt : OpM := fun x vs h => match x with
  | .ref n => match h[n]? with
    | some (.lst xs) => match vs with
      | [.int i] => match decide (0 ≤ i) && decide (i < 2 ^ 62) with
        | true => match xs[i.toNat]? with
          | some y => some (y, h.set n (.lst (xs.eraseIdx i.toNat)))
          | none => none
        | false => none
      | _ => none
    | _ => none
  | _ => none
theorem RVs.erase {G : Gx} {ρ : List Addr} {H : Hp} : ∀ {v : List VI} {x : List V} (i : Nat), RVs G ρ H v x → RVs G ρ H (v.eraseIdx i) (x.eraseIdx i)
  | _, _, _, .nil => .nil
  | _, _, 0, .cons _ t => t
  | _, _, i + 1, .cons r t => .cons r (RVs.erase i t)
section
variable {G : Gx} {X : Cx}
end
end ML
end
section
namespace ML
open PySem L2
theorem whlW2 {i : Nat} {a b : ME} {f : Op2} {ms : MS} [x : LE a] [y : LE b] [o : LOp f] [z : LS ms] : ∀ n, LS (whlW i a f b ms n)
  | 0 => ⟨fun _ _ _ _ _ _ _ => trivial⟩
  | n + 1 => ⟨fun r s h σ σ' g as => (x.run r s h σ σ' g as).bindS as fun r1 s1 h1 v v' e1 g1 q1 => (y.run _ _ _ _ _ g1 ((as.mono e1).set q1 i)).bindS ((as.mono e1).set q1 i) fun r2 s2 h2 w w' e2 g2 q2 => by
    have as2 := ((as.mono e1).set q1 i).mono e2
    have t := o.run _ _ _ _ _ _ _ g2 (q1.mono e2) q2
    cases u : f v w s2 with
    | none => trivial
    | some p =>
      obtain ⟨pv, s3⟩ := p
      rw [u] at t
      obtain ⟨r3, h3, pv', k1, k2, k3, k4⟩ := t
      rw [k1]
      cases k4 with
      | bl c =>
        cases c with
        | false => exact ⟨r3, h3, _, rfl, k2, k3, as2.mono k2⟩
        | true =>
          have t := z.run _ _ _ _ _ k3 (as2.mono k2)
          dsimp only
          cases w5 : ms (σ.set i (some v)) s3 with
          | nx σ2 s4 =>
            rw [w5] at t
            obtain ⟨r4, h4, σ4', l1, l2, l3, l4⟩ := t
            rw [l1]
            exact ((whlW2 n).run _ _ _ _ _ l3 l4).ext (k2.trans l2)
          | ct σ2 s4 =>
            rw [w5] at t
            obtain ⟨r4, h4, σ4', l1, l2, l3, l4⟩ := t
            rw [l1]
            exact ((whlW2 n).run _ _ _ _ _ l3 l4).ext (k2.trans l2)
          | bk σ2 s4 =>
            rw [w5] at t
            obtain ⟨r4, h4, σ4', l1, l2, l3, l4⟩ := t
            rw [l1]
            exact ⟨r4, h4, σ4', rfl, k2.trans l2, l3, l4⟩
          | rt u4 s4 =>
            rw [w5] at t
            obtain ⟨r4, h4, u', l1, l2, l3, l4⟩ := t
            rw [l1]
            exact ⟨r4, h4, u', rfl, k2.trans l2, l3, l4⟩
          | ex c5 m5 σ5 s5 =>
            rw [w5] at t
            obtain ⟨r4, h4, σ4', m4, l1, l2, l3, l4, l5⟩ := t
            rw [l1]
            exact ⟨r4, h4, σ4', m4, rfl, k2.trans l2, l3, l4, l5⟩
          | err => trivial
      | _ => trivial⟩
instance {n i : Nat} {a b : ME} {f : Op2} {ms : MS} [x : LE a] [y : LE b] [o : LOp f] [z : LS ms] : LS (sWhileW n i a f b ms) := ⟨(whlW2 n).run⟩
theorem erase2 {r : List Nat} : ∀ {v x : List VI} (i : Nat), RVs2 r v x → RVs2 r (v.eraseIdx i) (x.eraseIdx i)
  | _, _, _, .nil => .nil
  | _, _, 0, .cons _ t => t
  | _, _, i + 1, .cons a t => .cons a (erase2 i t)
instance : LOm mInsert := ⟨fun r s h x x' vs vs' g p q => by
  unfold mInsert
  cases p with
  | @ref n m i =>
    obtain ⟨o, o', z1, z2, z3⟩ := g.no i
    dsimp only
    rw [z1, z2]
    cases z3 with
    | lst t =>
      dsimp only
      cases q with
      | nil => trivial
      | cons a q2 => cases q2 with
        | nil => cases a <;> trivial
        | cons b q3 => cases q3 with
          | cons _ _ => cases a <;> trivial
          | nil => cases a with
            | int k =>
              dsimp only
              rw [← t.length]
              cases small (_ + 1) && (decide (0 ≤ k) && decide (k < 2 ^ 62)) with
              | false => trivial
              | true => exact .wr g z1 i (.lst (((t.take k.toNat).append (.cons b .nil)).append (t.drop k.toNat))) .non
            | _ => trivial
    | _ => trivial
  | _ => trivial⟩
instance : LOm mPopAt := ⟨fun r s h x x' vs vs' g p q => by
  unfold mPopAt
  cases p with
  | @ref n m i =>
    obtain ⟨o, o', z1, z2, z3⟩ := g.no i
    dsimp only
    rw [z1, z2]
    cases z3 with
    | @lst xs ys t =>
      dsimp only
      cases q with
      | nil => trivial
      | cons a q2 => cases q2 with
        | cons _ _ => cases a <;> trivial
        | nil => cases a with
          | int k =>
            dsimp only
            cases decide (0 ≤ k) && decide (k < 2 ^ 62) with
            | false => trivial
            | true =>
              dsimp only
              cases u : xs[k.toNat]? with
              | none => trivial
              | some y =>
                obtain ⟨w, u2, u3⟩ := t.get u
                rw [u2]
                exact .wr g z1 i (.lst (erase2 k.toNat t)) u3
          | _ => trivial
    | _ => trivial
  | _ => trivial⟩
end ML
end
section
namespace ML
open PySem L2
def fNo : Op2 := fun _ _ _ => none
theorem mo_no {X : Cx} {G : Gx} {g : Value → Value → Sem Value} : OpR X g (rd2 G fNo) := fun _ _ _ _ _ _ _ _ _ _ _ _ ⟨_, _, _, _, _, _, _, q⟩ => q.elim
instance : LOp fNo := ⟨fun _ _ _ _ _ _ _ _ _ _ => trivial⟩
end ML
end
section
set_option maxHeartbeats 0
namespace Lw
open PySem PySem.Spec PyProof.Rows L2 He ML
abbrev P : Program := PySem.Challenge.pw_epochrooms_k59_tables_counted
def top (i : Nat) : Stmt := PySem.Challenge.pw_epochrooms_k59_tables_counted.main.body.getD i (.Pass ⟨0, 0, 0, 0⟩)
def clsBody (s : Stmt) : List Stmt := match s with
  | .ClassDef _ _ _ b _ _ _ _ _ _ _ => b
  | _ => []
def clsAt (i j : Nat) : Stmt := (clsBody (top i)).getD j (.Pass ⟨0, 0, 0, 0⟩)
def nm (c : Nat) : Option Str := match c with
  | 31 => some "Table"
  | 19 => some "NoTable"
  | _ => none
def s_rows : S := [114, 111, 119, 115]
theorem t_rows : ("rows" : Str) = toStr s_rows := by decide +kernel
def s_inside : S := [105, 110, 115, 105, 100, 101]
theorem t_inside : ("inside" : Str) = toStr s_inside := by decide +kernel
def s_out : S := [111, 117, 116]
theorem t_out : ("out" : Str) = toStr s_out := by decide +kernel
def s_unsafe : S := [117, 110, 115, 97, 102, 101]
theorem t_unsafe : ("unsafe" : Str) = toStr s_unsafe := by decide +kernel
def s_states : S := [115, 116, 97, 116, 101, 115]
theorem t_states : ("states" : Str) = toStr s_states := by decide +kernel
def s_known : S := [107, 110, 111, 119, 110]
theorem t_known : ("known" : Str) = toStr s_known := by decide +kernel
def s_more : S := [109, 111, 114, 101]
theorem t_more : ("more" : Str) = toStr s_more := by decide +kernel
def s_listed : S := [108, 105, 115, 116, 101, 100]
theorem t_listed : ("listed" : Str) = toStr s_listed := by decide +kernel
def se_bd_is_plain_R0_2_ : List (Nat × Nat) := [(0, 0), (0, 1)]
def ar_bd_is_plain_R0_2_ (us ws : List VI) : List VI := arr4 se_bd_is_plain_R0_2_ us [] ws [(.int 1)]
def se_bd_is_plain_R1_2_ : List (Nat × Nat) := [(0, 0), (0, 1)]
def ar_bd_is_plain_R1_2_ (us ws : List VI) : List VI := arr4 se_bd_is_plain_R1_2_ us [] ws [(.int 1)]
def se_bd_is_plain_R2_2_ : List (Nat × Nat) := [(0, 0), (0, 1)]
def ar_bd_is_plain_R2_2_ (us ws : List VI) : List VI := arr4 se_bd_is_plain_R2_2_ us [] ws [(.int 1)]
def se_bd_is_plain_R3_2_ : List (Nat × Nat) := [(0, 0), (0, 1)]
def ar_bd_is_plain_R3_2_ (us ws : List VI) : List VI := arr4 se_bd_is_plain_R3_2_ us [] ws [(.int 1)]
def se_bd_is_plain_R4_2_ : List (Nat × Nat) := [(0, 0), (0, 1)]
def ar_bd_is_plain_R4_2_ (us ws : List VI) : List VI := arr4 se_bd_is_plain_R4_2_ us [] ws [(.int 1)]
def se_bd_is_plain_R5_2_ : List (Nat × Nat) := [(0, 0), (0, 1)]
def ar_bd_is_plain_R5_2_ (us ws : List VI) : List VI := arr4 se_bd_is_plain_R5_2_ us [] ws [(.int 1)]
def se_bd_is_plain_R6_2_ : List (Nat × Nat) := [(0, 0), (0, 1)]
def ar_bd_is_plain_R6_2_ (us ws : List VI) : List VI := arr4 se_bd_is_plain_R6_2_ us [] ws [(.int 1)]
def se_bd_is_plain_R7_2_ : List (Nat × Nat) := [(0, 0), (0, 1)]
def ar_bd_is_plain_R7_2_ (us ws : List VI) : List VI := arr4 se_bd_is_plain_R7_2_ us [] ws [(.int 1)]
def se_bd_is_plain_R8_2_ : List (Nat × Nat) := [(0, 0), (0, 1)]
def ar_bd_is_plain_R8_2_ (us ws : List VI) : List VI := arr4 se_bd_is_plain_R8_2_ us [] ws [(.int 1)]
def se_bd_is_plain_R9_1_ : List (Nat × Nat) := [(0, 0), (3, 0)]
def ar_bd_is_plain_R9_1_ (us ws : List VI) : List VI := arr4 se_bd_is_plain_R9_1_ us [] ws [(.int 1)]
def i_list_tuple : IsS := ⟨(some false), (some false), (some false), (some false), (some true), (some true), (some false), [(31, false)]⟩
def i_tuple : IsS := ⟨(some false), (some false), (some false), (some false), (some false), (some true), (some false), [(31, false)]⟩
def i_int_str_bool : IsS := ⟨(some false), (some true), (some true), (some true), (some false), (some false), (some false), [(31, false)]⟩
def i_Table : IsS := ⟨(some false), (some false), (some false), (some false), (some false), (some false), (some false), [(31, true)]⟩
def m_TableD_lenD : MS := (sRet (eCB cLen (aCons (eFld [31] s_rows (eV 0)) aNil)))
def f_TableD_lenD : MF := runB 1 0 m_TableD_lenD
abbrev gx1 : Nat → Option MF := lkT [(31, f_TableD_lenD)]
def m__law_take : MS := (sSeq (sIf (tOf (eBin fGt (eBin fIx (eV 0) (eC (.int 0))) (eC (.int 0)))) (sSeq (sAsg (eBin fMod (eCB cInt (aCons (eBin fIx (eV 0) (eC (.int 0))) aNil)) (eV 1)) (gNm 2)) (sSeq (sAsg (eBin fFdiv (eBin fIx (eV 0) (eC (.int 0))) (eV 1)) (gIx (eV 0) (eC (.int 0)))) (sSeq (sRet (eV 2)) sNx))) sNx) (sSeq (sAsg (eBin fMod (eCB cInt (aCons (eBin fAdd (eBin fMul (eBin fIx (eV 0) (eC (.int 1))) (eC (.int 48271))) (eC (.int 11))) aNil)) (eC (.int 2147483647))) (gIx (eV 0) (eC (.int 1)))) (sSeq (sRet (eBin fMod (eBin fFdiv (eBin fMod (eCB cInt (aCons (eBin fMul (eBin fIx (eV 0) (eC (.int 1))) (eBin fIx (eV 0) (eC (.int 1)))) aNil)) (eC (.int 2147483629))) (eC (.int 64))) (eV 1))) sNx)))
def f__law_take : MF := runB 2 1 m__law_take
def m__law_one : MS := (sRet (eBin fIx (eV 1) (eCall f__law_take (aCons (eV 0) (aCons (eLenU Lw.gx1 (eV 1)) aNil)))))
def f__law_one : MF := runB 2 0 m__law_one
def m__law_state : MS := (sSeq (sAsg (eTup (aCons (eCall f__law_take (aCons (eV 0) (aCons (eC (.int 2)) aNil))) (aCons (eCall f__law_one (aCons (eV 0) (aCons (eLst (aCons (eC .non) (aCons (eC (.str s_out)) (aCons (eC (.str s_inside)) aNil)))) aNil))) aNil))) (gNm 1)) (sSeq (sAsg (eLst (aCons (eTup aNil) (aCons (eV 1) (aCons (eTup (aCons (eCall f__law_take (aCons (eV 0) (aCons (eC (.int 3)) aNil))) aNil)) (aCons (eTup (aCons (eV 1) (aCons (eTup aNil) aNil))) (aCons (eTup (aCons (eC (.str s_unsafe)) (aCons (eC (.int 0)) (aCons (eC (.int 1)) aNil)))) (aCons (eTup (aCons (eV 1) (aCons (eV 1) (aCons (eTup (aCons (eV 1) aNil)) aNil)))) aNil))))))) (gNm 2)) (sSeq (sRet (eCall f__law_one (aCons (eV 0) (aCons (eBin fAdd (eV 2) (eLst (aCons (eTup (aCons (eC (.bl true)) aNil)) (aCons (eTup (aCons (eC (.bl false)) (aCons (eC (.int 1)) aNil))) (aCons (eTup (aCons (eTup (aCons (eC (.bl true)) (aCons (eC .non) aNil))) (aCons (eTup aNil) aNil))) aNil))))) aNil)))) sNx)))
def f__law_state : MF := runB 1 2 m__law_state
def m__law_unlike : MS := (sSeq (sAsg (eLst aNil) (gNm 1)) (sSeq (sFor (iSeq (eV 0)) (gNm 2) (sIf (tOf (eBin fNotIn (eV 2) (eV 1))) (sDrop (eBM .lst mAppend (eV 1) (aCons (eV 2) aNil))) sNx)) (sSeq (sRet (eV 1)) sNx)))
def f__law_unlike : MF := runB 1 2 m__law_unlike
def m_is_plain_R0 : MS := sErr
def f_is_plain_R0 : MF := runB 2 1 m_is_plain_R0
def m_is_plain_R1 : MS := (sSeq (sIf (tOrM (tNotM (tOf (eIsi i_tuple.t (eV 0)))) (tOf (eBin fGt (eV 1) (eC (.int 8))))) (sRet (eC (.bl false))) sNx) (sSeq (sFor (iSeq (eV 0)) (gNm 2) (sIf (tOf (eIsi i_tuple.t (eV 2))) (sIf (tNotM (tOf (eCallK 2 0 (fnK f_is_plain_R0 ar_bd_is_plain_R0_2_) (aCons (eV 2) (aCons (eBin fAdd (eV 1) (eC (.int 1))) aNil)) aNil))) (sRet (eC (.bl false))) sNx) (sIf (tAndM (tOf (eBin fNotN (eV 2) (eC .non))) (tNotM (tOf (eIsi i_int_str_bool.t (eV 2))))) (sRet (eC (.bl false))) sNx))) (sSeq (sRet (eC (.bl true))) sNx)))
def f_is_plain_R1 : MF := runB 2 1 m_is_plain_R1
def m_is_plain_R2 : MS := (sSeq (sIf (tOrM (tNotM (tOf (eIsi i_tuple.t (eV 0)))) (tOf (eBin fGt (eV 1) (eC (.int 8))))) (sRet (eC (.bl false))) sNx) (sSeq (sFor (iSeq (eV 0)) (gNm 2) (sIf (tOf (eIsi i_tuple.t (eV 2))) (sIf (tNotM (tOf (eCallK 2 0 (fnK f_is_plain_R1 ar_bd_is_plain_R1_2_) (aCons (eV 2) (aCons (eBin fAdd (eV 1) (eC (.int 1))) aNil)) aNil))) (sRet (eC (.bl false))) sNx) (sIf (tAndM (tOf (eBin fNotN (eV 2) (eC .non))) (tNotM (tOf (eIsi i_int_str_bool.t (eV 2))))) (sRet (eC (.bl false))) sNx))) (sSeq (sRet (eC (.bl true))) sNx)))
def f_is_plain_R2 : MF := runB 2 1 m_is_plain_R2
def m_is_plain_R3 : MS := (sSeq (sIf (tOrM (tNotM (tOf (eIsi i_tuple.t (eV 0)))) (tOf (eBin fGt (eV 1) (eC (.int 8))))) (sRet (eC (.bl false))) sNx) (sSeq (sFor (iSeq (eV 0)) (gNm 2) (sIf (tOf (eIsi i_tuple.t (eV 2))) (sIf (tNotM (tOf (eCallK 2 0 (fnK f_is_plain_R2 ar_bd_is_plain_R2_2_) (aCons (eV 2) (aCons (eBin fAdd (eV 1) (eC (.int 1))) aNil)) aNil))) (sRet (eC (.bl false))) sNx) (sIf (tAndM (tOf (eBin fNotN (eV 2) (eC .non))) (tNotM (tOf (eIsi i_int_str_bool.t (eV 2))))) (sRet (eC (.bl false))) sNx))) (sSeq (sRet (eC (.bl true))) sNx)))
def f_is_plain_R3 : MF := runB 2 1 m_is_plain_R3
def m_is_plain_R4 : MS := (sSeq (sIf (tOrM (tNotM (tOf (eIsi i_tuple.t (eV 0)))) (tOf (eBin fGt (eV 1) (eC (.int 8))))) (sRet (eC (.bl false))) sNx) (sSeq (sFor (iSeq (eV 0)) (gNm 2) (sIf (tOf (eIsi i_tuple.t (eV 2))) (sIf (tNotM (tOf (eCallK 2 0 (fnK f_is_plain_R3 ar_bd_is_plain_R3_2_) (aCons (eV 2) (aCons (eBin fAdd (eV 1) (eC (.int 1))) aNil)) aNil))) (sRet (eC (.bl false))) sNx) (sIf (tAndM (tOf (eBin fNotN (eV 2) (eC .non))) (tNotM (tOf (eIsi i_int_str_bool.t (eV 2))))) (sRet (eC (.bl false))) sNx))) (sSeq (sRet (eC (.bl true))) sNx)))
def f_is_plain_R4 : MF := runB 2 1 m_is_plain_R4
def m_is_plain_R5 : MS := (sSeq (sIf (tOrM (tNotM (tOf (eIsi i_tuple.t (eV 0)))) (tOf (eBin fGt (eV 1) (eC (.int 8))))) (sRet (eC (.bl false))) sNx) (sSeq (sFor (iSeq (eV 0)) (gNm 2) (sIf (tOf (eIsi i_tuple.t (eV 2))) (sIf (tNotM (tOf (eCallK 2 0 (fnK f_is_plain_R4 ar_bd_is_plain_R4_2_) (aCons (eV 2) (aCons (eBin fAdd (eV 1) (eC (.int 1))) aNil)) aNil))) (sRet (eC (.bl false))) sNx) (sIf (tAndM (tOf (eBin fNotN (eV 2) (eC .non))) (tNotM (tOf (eIsi i_int_str_bool.t (eV 2))))) (sRet (eC (.bl false))) sNx))) (sSeq (sRet (eC (.bl true))) sNx)))
def f_is_plain_R5 : MF := runB 2 1 m_is_plain_R5
def m_is_plain_R6 : MS := (sSeq (sIf (tOrM (tNotM (tOf (eIsi i_tuple.t (eV 0)))) (tOf (eBin fGt (eV 1) (eC (.int 8))))) (sRet (eC (.bl false))) sNx) (sSeq (sFor (iSeq (eV 0)) (gNm 2) (sIf (tOf (eIsi i_tuple.t (eV 2))) (sIf (tNotM (tOf (eCallK 2 0 (fnK f_is_plain_R5 ar_bd_is_plain_R5_2_) (aCons (eV 2) (aCons (eBin fAdd (eV 1) (eC (.int 1))) aNil)) aNil))) (sRet (eC (.bl false))) sNx) (sIf (tAndM (tOf (eBin fNotN (eV 2) (eC .non))) (tNotM (tOf (eIsi i_int_str_bool.t (eV 2))))) (sRet (eC (.bl false))) sNx))) (sSeq (sRet (eC (.bl true))) sNx)))
def f_is_plain_R6 : MF := runB 2 1 m_is_plain_R6
def m_is_plain_R7 : MS := (sSeq (sIf (tOrM (tNotM (tOf (eIsi i_tuple.t (eV 0)))) (tOf (eBin fGt (eV 1) (eC (.int 8))))) (sRet (eC (.bl false))) sNx) (sSeq (sFor (iSeq (eV 0)) (gNm 2) (sIf (tOf (eIsi i_tuple.t (eV 2))) (sIf (tNotM (tOf (eCallK 2 0 (fnK f_is_plain_R6 ar_bd_is_plain_R6_2_) (aCons (eV 2) (aCons (eBin fAdd (eV 1) (eC (.int 1))) aNil)) aNil))) (sRet (eC (.bl false))) sNx) (sIf (tAndM (tOf (eBin fNotN (eV 2) (eC .non))) (tNotM (tOf (eIsi i_int_str_bool.t (eV 2))))) (sRet (eC (.bl false))) sNx))) (sSeq (sRet (eC (.bl true))) sNx)))
def f_is_plain_R7 : MF := runB 2 1 m_is_plain_R7
def m_is_plain_R8 : MS := (sSeq (sIf (tOrM (tNotM (tOf (eIsi i_tuple.t (eV 0)))) (tOf (eBin fGt (eV 1) (eC (.int 8))))) (sRet (eC (.bl false))) sNx) (sSeq (sFor (iSeq (eV 0)) (gNm 2) (sIf (tOf (eIsi i_tuple.t (eV 2))) (sIf (tNotM (tOf (eCallK 2 0 (fnK f_is_plain_R7 ar_bd_is_plain_R7_2_) (aCons (eV 2) (aCons (eBin fAdd (eV 1) (eC (.int 1))) aNil)) aNil))) (sRet (eC (.bl false))) sNx) (sIf (tAndM (tOf (eBin fNotN (eV 2) (eC .non))) (tNotM (tOf (eIsi i_int_str_bool.t (eV 2))))) (sRet (eC (.bl false))) sNx))) (sSeq (sRet (eC (.bl true))) sNx)))
def f_is_plain_R8 : MF := runB 2 1 m_is_plain_R8
def m_is_plain_R9 : MS := (sSeq (sIf (tOrM (tNotM (tOf (eIsi i_tuple.t (eV 0)))) (tOf (eBin fGt (eV 1) (eC (.int 8))))) (sRet (eC (.bl false))) sNx) (sSeq (sFor (iSeq (eV 0)) (gNm 2) (sIf (tOf (eIsi i_tuple.t (eV 2))) (sIf (tNotM (tOf (eCallK 2 0 (fnK f_is_plain_R8 ar_bd_is_plain_R8_2_) (aCons (eV 2) (aCons (eBin fAdd (eV 1) (eC (.int 1))) aNil)) aNil))) (sRet (eC (.bl false))) sNx) (sIf (tAndM (tOf (eBin fNotN (eV 2) (eC .non))) (tNotM (tOf (eIsi i_int_str_bool.t (eV 2))))) (sRet (eC (.bl false))) sNx))) (sSeq (sRet (eC (.bl true))) sNx)))
def f_is_plain_R9 : MF := runB 2 1 m_is_plain_R9
def m_TableD_initD : MS := (sSeq (sIf (tOrM (tNotM (tOf (eIsi i_list_tuple.t (eV 1)))) (tOf (eBin fNe (eLc (iSeq (eV 1)) (.one 2) [2] (tNotM (tOf (eCallK 1 0 (fnK f_is_plain_R9 ar_bd_is_plain_R9_1_) (aCons (eV 2) aNil) aNil))) (eV 2)) (eLst aNil)))) (sRaise 19 s_states (eV 1)) sNx) (sSeq (sFldM [31] s_known (eV 0) (eDcN (iSeq (eV 1)) (.one 2) [2] tYesM (eV 2) (eC (.bl true)))) (sSeq (sFldM [31] s_rows (eV 0) (eCB cListN (aCons (eFld [31] s_known (eV 0)) aNil))) sNx)))
def f_TableD_initD : MF := runB 2 1 m_TableD_initD
def m_Table_listed : MS := (sRet (eCB cList (aCons (eFld [31] s_rows (eV 0)) aNil)))
def f_Table_listed : MF := runB 1 0 m_Table_listed
def m_TableD_eqD : MS := (sRet (eAnd (eIsi i_Table.t (eV 1)) (eBin fEqN (eFld [31] s_known (eV 0)) (eFld [31] s_known (eV 1)))))
def f_TableD_eqD : MF := runB 2 0 m_TableD_eqD
def m_TableD_containsD : MS := (sRet (eAnd (eCallK 1 0 (fnK f_is_plain_R9 ar_bd_is_plain_R9_1_) (aCons (eV 1) aNil) aNil) (eBin (fInN false) (eV 1) (eFld [31] s_known (eV 0)))))
def f_TableD_containsD : MF := runB 2 0 m_TableD_containsD
def m_TableD_andD : MS := (sSeq (sIf (tNotM (tOf (eIsi i_Table.t (eV 1)))) sErr sNx) (sSeq (sRet (eCall (mkM 31 f_TableD_initD) (aCons (eLc (iSeq (eFld [31] s_rows (eV 0))) (.one 2) [2] (tOf (eBin (fInN false) (eV 2) (eFld [31] s_known (eV 1)))) (eV 2)) aNil))) sNx))
def f_TableD_andD : MF := runB 2 1 m_TableD_andD
def m_TableD_subD : MS := (sSeq (sIf (tNotM (tOf (eIsi i_Table.t (eV 1)))) sErr sNx) (sSeq (sRet (eCall (mkM 31 f_TableD_initD) (aCons (eLc (iSeq (eFld [31] s_rows (eV 0))) (.one 2) [2] (tOf (eBin (fInN true) (eV 2) (eFld [31] s_known (eV 1)))) (eV 2)) aNil))) sNx))
def f_TableD_subD : MF := runB 2 1 m_TableD_subD
def m_TableD_orD : MS := (sSeq (sIf (tNotM (tOf (eIsi i_Table.t (eV 1)))) sErr sNx) (sSeq (sRet (eCall (mkM 31 f_TableD_initD) (aCons (eBin fAdd (eFld [31] s_rows (eV 0)) (eFld [31] s_rows (eV 1))) aNil))) sNx))
def f_TableD_orD : MF := runB 2 0 m_TableD_orD
def m__law_mixed : MS := (sSeq (sAsg (eLc (iSeq (eV 2)) (.one 5) [5] (tOf (eBin fIn (eV 5) (eV 3))) (eV 5)) (gNm 4)) (sSeq (sAsg (eLc (iSeq (eV 2)) (.one 5) [5] (tOf (eBin fNotIn (eV 5) (eV 3))) (eV 5)) (gNm 6)) (sSeq (sIf (tOrM (tOf (eNeU [31] (lkT [(31, f_TableD_eqD)]) fNe (eMeth (lkT [(31, f_Table_listed)]) s_listed (eBinU (lkT [(31, f_TableD_andD)]) (lkT []) fNo (eV 0) (eV 1)) aNil) (eV 4))) (tOf (eNeU [31] (lkT [(31, f_TableD_eqD)]) fNe (eMeth (lkT [(31, f_Table_listed)]) s_listed (eBinU (lkT [(31, f_TableD_subD)]) (lkT []) fSub (eV 0) (eV 1)) aNil) (eV 6)))) (sRet (eC (.bl false))) sNx) (sSeq (sIf (tOrM (tOf (eNeU [31] (lkT [(31, f_TableD_eqD)]) fNe (eMeth (lkT [(31, f_Table_listed)]) s_listed (eBinU (lkT [(31, f_TableD_orD)]) (lkT []) fNo (eV 0) (eV 1)) aNil) (eCall f__law_unlike (aCons (eBin fAdd (eV 2) (eV 3)) aNil)))) (tOf (eBin fNe (eLenU Lw.gx1 (eBinU (lkT [(31, f_TableD_orD)]) (lkT []) fNo (eV 0) (eV 1))) (eBin fSub (eBin fAdd (eLenU Lw.gx1 (eV 2)) (eLenU Lw.gx1 (eV 3))) (eLenU Lw.gx1 (eV 4)))))) (sRet (eC (.bl false))) sNx) (sSeq (sRet (eBin fEqX (eCmpU [31] (lkT [(31, f_TableD_eqD)]) fEqX (eV 0) (eV 1)) (eAnd (eBin fEqX (eLenU Lw.gx1 (eV 4)) (eLenU Lw.gx1 (eV 2))) (eBin fEqX (eLenU Lw.gx1 (eV 4)) (eLenU Lw.gx1 (eV 3)))))) sNx)))))
def f__law_mixed : MF := runB 4 3 m__law_mixed
def m__law_right : MS := (sSeq (sAsg (eLc (iRng (aCons (eCall f__law_take (aCons (eV 0) (aCons (eC (.int 10)) aNil))) aNil)) (.one 2) [2] tYesM (eCall f__law_state (aCons (eV 0) aNil))) (gNm 1)) (sSeq (sAsg (eLc (iRng (aCons (eCall f__law_take (aCons (eV 0) (aCons (eC (.int 10)) aNil))) aNil)) (.one 2) [2] tYesM (eCall f__law_state (aCons (eV 0) aNil))) (gNm 3)) (sSeq (sPar 4 5 (aCons (eCall f__law_unlike (aCons (eV 1) aNil)) (aCons (eCall f__law_unlike (aCons (eV 3) aNil)) aNil))) (sSeq (sPar 6 7 (aCons (eCall (mkM 31 f_TableD_initD) (aCons (eV 1) aNil)) (aCons (eCall (mkM 31 f_TableD_initD) (aCons (eCB cTuple (aCons (eV 3) aNil)) aNil)) aNil))) (sSeq (sDrop (eBM .lst mAppend (eV 1) (aCons (eTup (aCons (eC (.str s_more)) aNil)) aNil))) (sSeq (sIf (tOrM (tOf (eNeU [31] (lkT [(31, f_TableD_eqD)]) fNe (eMeth (lkT [(31, f_Table_listed)]) s_listed (eV 6) aNil) (eV 4))) (tOrM (tOf (eNeU [31] (lkT [(31, f_TableD_eqD)]) fNe (eMeth (lkT [(31, f_Table_listed)]) s_listed (eV 7) aNil) (eV 5))) (tOf (eBin fNe (eLenU Lw.gx1 (eV 6)) (eLenU Lw.gx1 (eV 4)))))) (sRet (eC (.bl false))) sNx) (sSeq (sFor (iSeq (eBin fAdd (eBin fAdd (eV 4) (eV 5)) (eLst (aCons (eTup (aCons (eC (.str s_more)) aNil)) aNil)))) (gNm 8) (sIf (tOrM (tOf (eBin fNe (eCtU false (lkT [(31, f_TableD_containsD)]) fIn (eV 8) (eV 6)) (eBin fIn (eV 8) (eV 4)))) (tOf (eCtU false (lkT [(31, f_TableD_containsD)]) fIn (eCB cList (aCons (eV 8) aNil)) (eV 6)))) (sRet (eC (.bl false))) sNx)) (sSeq (sIf (tOrM (tNotM (tOf (eCall f__law_mixed (aCons (eV 6) (aCons (eV 7) (aCons (eV 4) (aCons (eV 5) aNil))))))) (tNotM (tOf (eCall f__law_mixed (aCons (eV 7) (aCons (eV 6) (aCons (eV 5) (aCons (eV 4) aNil)))))))) (sRet (eC (.bl false))) sNx) (sSeq (sAsg (eMeth (lkT [(31, f_Table_listed)]) s_listed (eV 6) aNil) (gNm 9)) (sSeq (sDrop (eBM .lst mAppend (eV 9) (aCons (eTup (aCons (eC (.str s_more)) aNil)) aNil))) (sSeq (sIf (tOrM (tOf (eNeU [31] (lkT [(31, f_TableD_eqD)]) fNe (eMeth (lkT [(31, f_Table_listed)]) s_listed (eV 6) aNil) (eV 4))) (tOrM (tOf (eNeU [31] (lkT [(31, f_TableD_eqD)]) fNe (eV 6) (eCall (mkM 31 f_TableD_initD) (aCons (eRev (eV 4)) aNil)))) (tOf (eCmpU [31] (lkT [(31, f_TableD_eqD)]) fEqX (eV 6) (eV 4))))) (sRet (eC (.bl false))) sNx) (sSeq (sRet (eAnd (eCall f__law_mixed (aCons (eV 6) (aCons (eV 6) (aCons (eV 4) (aCons (eV 4) aNil))))) (eCmpU [31] (lkT [(31, f_TableD_eqD)]) fEqX (eMeth (lkT [(31, f_Table_listed)]) s_listed (eV 7) aNil) (eV 5)))) sNx))))))))))))
def f__law_right : MF := runB 1 9 m__law_right
def m__law_pool : MS := (sSeq (sAsg (eC (.int 0)) (gNm 2)) (sSeq (sIf (tOf (eBin fLt (eV 1) (eLenU Lw.gx1 (eV 0)))) (sAsg (eBin fIx (eV 0) (eV 1)) (gNm 2)) sNx) (sSeq (sAsg (eCB cMax (aCons (eV 2) (aCons (eBin fSub (eNeg (eC (.int 1))) (eV 2)) aNil))) (gNm 3)) (sSeq (sAsg (eCB cInt (aCons (eBin fAdd (eBin fAdd (eBin fMod (eCB cInt (aCons (eV 3) aNil)) (eC (.int 2147483629))) (eBin fMul (eC (.int 7919)) (eV 1))) (eC (.int 104729))) aNil)) (gNm 4)) (sSeq (sRet (eLst (aCons (eBin fMul (eV 3) (eCB cInt (aCons (eBin fGe (eV 3) (eBin fPow (eC (.int 10)) (eC (.int 18)))) aNil))) (aCons (eBin fMod (eBin fMul (eV 4) (eC (.int 48271))) (eC (.int 2147483647))) aNil)))) sNx)))))
def f__law_pool : MF := runB 2 3 m__law_pool
def m_law : MS := (sSeq (sFor (iRng (aCons (eCB cMax (aCons (eC (.int 1)) (aCons (eCB cMin (aCons (eC (.int 12)) (aCons (eLenU Lw.gx1 (eV 0)) aNil))) aNil))) aNil)) (gNm 1) (sIf (tNotM (tOf (eCall f__law_right (aCons (eCall f__law_pool (aCons (eV 0) (aCons (eV 1) aNil))) aNil)))) (sRet (eC (.bl false))) sNx)) (sSeq (sRet (eC (.bl true))) sNx))
def f_law : MF := runB 1 1 m_law
abbrev st_TableD_lenD : Stmt := clsAt 6 3
abbrev a_TableD_lenD : Defn := mA "Table" "__len__"
abbrev st__law_take : Stmt := top 9
abbrev a__law_take : Defn := gA "_law_take"
abbrev st__law_one : Stmt := top 10
abbrev a__law_one : Defn := gA "_law_one"
abbrev st__law_state : Stmt := top 11
abbrev a__law_state : Defn := gA "_law_state"
abbrev st__law_unlike : Stmt := top 12
abbrev a__law_unlike : Defn := gA "_law_unlike"
abbrev st_is_plain_R0 : Stmt := top 5
abbrev a_is_plain_R0 : Defn := gA "is_plain"
abbrev st_is_plain_R1 : Stmt := top 5
abbrev a_is_plain_R1 : Defn := gA "is_plain"
abbrev st_is_plain_R2 : Stmt := top 5
abbrev a_is_plain_R2 : Defn := gA "is_plain"
abbrev st_is_plain_R3 : Stmt := top 5
abbrev a_is_plain_R3 : Defn := gA "is_plain"
abbrev st_is_plain_R4 : Stmt := top 5
abbrev a_is_plain_R4 : Defn := gA "is_plain"
abbrev st_is_plain_R5 : Stmt := top 5
abbrev a_is_plain_R5 : Defn := gA "is_plain"
abbrev st_is_plain_R6 : Stmt := top 5
abbrev a_is_plain_R6 : Defn := gA "is_plain"
abbrev st_is_plain_R7 : Stmt := top 5
abbrev a_is_plain_R7 : Defn := gA "is_plain"
abbrev st_is_plain_R8 : Stmt := top 5
abbrev a_is_plain_R8 : Defn := gA "is_plain"
abbrev st_is_plain_R9 : Stmt := top 5
abbrev a_is_plain_R9 : Defn := gA "is_plain"
abbrev st_NoTableD_initD : Stmt := clsAt 2 0
abbrev a_NoTableD_initD : Defn := mA "NoTable" "__init__"
abbrev st_TableD_initD : Stmt := clsAt 6 0
abbrev a_TableD_initD : Defn := mA "Table" "__init__"
abbrev st_Table_listed : Stmt := clsAt 6 1
abbrev a_Table_listed : Defn := mA "Table" "listed"
abbrev st_TableD_eqD : Stmt := clsAt 6 5
abbrev a_TableD_eqD : Defn := mA "Table" "__eq__"
abbrev st_TableD_containsD : Stmt := clsAt 6 4
abbrev a_TableD_containsD : Defn := mA "Table" "__contains__"
abbrev st_TableD_andD : Stmt := clsAt 6 6
abbrev a_TableD_andD : Defn := mA "Table" "__and__"
abbrev st_TableD_subD : Stmt := clsAt 6 8
abbrev a_TableD_subD : Defn := mA "Table" "__sub__"
abbrev st_TableD_orD : Stmt := clsAt 6 7
abbrev a_TableD_orD : Defn := mA "Table" "__or__"
abbrev st__law_mixed : Stmt := top 13
abbrev a__law_mixed : Defn := gA "_law_mixed"
abbrev st__law_right : Stmt := top 14
abbrev a__law_right : Defn := gA "_law_right"
abbrev st__law_pool : Stmt := top 8
abbrev a__law_pool : Defn := gA "_law_pool"
abbrev st_law : Stmt := top 15
abbrev a_law : Defn := gA "law"
def gd_TableD_lenD : GDef := ⟨a_TableD_lenD, "__len__", "Table.__len__", defArgs st_TableD_lenD, defBody st_TableD_lenD, defScope st_TableD_lenD, [], []⟩
def gd__law_take : GDef := ⟨a__law_take, "_law_take", "_law_take", defArgs st__law_take, defBody st__law_take, defScope st__law_take, [], []⟩
def gd__law_one : GDef := ⟨a__law_one, "_law_one", "_law_one", defArgs st__law_one, defBody st__law_one, defScope st__law_one, [], []⟩
def gd__law_state : GDef := ⟨a__law_state, "_law_state", "_law_state", defArgs st__law_state, defBody st__law_state, defScope st__law_state, [], []⟩
def gd__law_unlike : GDef := ⟨a__law_unlike, "_law_unlike", "_law_unlike", defArgs st__law_unlike, defBody st__law_unlike, defScope st__law_unlike, [], []⟩
def gd_is_plain_R0 : GDef := ⟨a_is_plain_R0, "is_plain", "is_plain", defArgs st_is_plain_R0, defBody st_is_plain_R0, defScope st_is_plain_R0, [(.int 1)], []⟩
def gd_is_plain_R1 : GDef := ⟨a_is_plain_R1, "is_plain", "is_plain", defArgs st_is_plain_R1, defBody st_is_plain_R1, defScope st_is_plain_R1, [(.int 1)], []⟩
def gd_is_plain_R2 : GDef := ⟨a_is_plain_R2, "is_plain", "is_plain", defArgs st_is_plain_R2, defBody st_is_plain_R2, defScope st_is_plain_R2, [(.int 1)], []⟩
def gd_is_plain_R3 : GDef := ⟨a_is_plain_R3, "is_plain", "is_plain", defArgs st_is_plain_R3, defBody st_is_plain_R3, defScope st_is_plain_R3, [(.int 1)], []⟩
def gd_is_plain_R4 : GDef := ⟨a_is_plain_R4, "is_plain", "is_plain", defArgs st_is_plain_R4, defBody st_is_plain_R4, defScope st_is_plain_R4, [(.int 1)], []⟩
def gd_is_plain_R5 : GDef := ⟨a_is_plain_R5, "is_plain", "is_plain", defArgs st_is_plain_R5, defBody st_is_plain_R5, defScope st_is_plain_R5, [(.int 1)], []⟩
def gd_is_plain_R6 : GDef := ⟨a_is_plain_R6, "is_plain", "is_plain", defArgs st_is_plain_R6, defBody st_is_plain_R6, defScope st_is_plain_R6, [(.int 1)], []⟩
def gd_is_plain_R7 : GDef := ⟨a_is_plain_R7, "is_plain", "is_plain", defArgs st_is_plain_R7, defBody st_is_plain_R7, defScope st_is_plain_R7, [(.int 1)], []⟩
def gd_is_plain_R8 : GDef := ⟨a_is_plain_R8, "is_plain", "is_plain", defArgs st_is_plain_R8, defBody st_is_plain_R8, defScope st_is_plain_R8, [(.int 1)], []⟩
def gd_is_plain_R9 : GDef := ⟨a_is_plain_R9, "is_plain", "is_plain", defArgs st_is_plain_R9, defBody st_is_plain_R9, defScope st_is_plain_R9, [(.int 1)], []⟩
def gd_TableD_initD : GDef := ⟨a_TableD_initD, "__init__", "Table.__init__", defArgs st_TableD_initD, defBody st_TableD_initD, defScope st_TableD_initD, [], []⟩
def gd_Table_listed : GDef := ⟨a_Table_listed, "listed", "Table.listed", defArgs st_Table_listed, defBody st_Table_listed, defScope st_Table_listed, [], []⟩
def gd_TableD_eqD : GDef := ⟨a_TableD_eqD, "__eq__", "Table.__eq__", defArgs st_TableD_eqD, defBody st_TableD_eqD, defScope st_TableD_eqD, [], []⟩
def gd_TableD_containsD : GDef := ⟨a_TableD_containsD, "__contains__", "Table.__contains__", defArgs st_TableD_containsD, defBody st_TableD_containsD, defScope st_TableD_containsD, [], []⟩
def gd_TableD_andD : GDef := ⟨a_TableD_andD, "__and__", "Table.__and__", defArgs st_TableD_andD, defBody st_TableD_andD, defScope st_TableD_andD, [], []⟩
def gd_TableD_subD : GDef := ⟨a_TableD_subD, "__sub__", "Table.__sub__", defArgs st_TableD_subD, defBody st_TableD_subD, defScope st_TableD_subD, [], []⟩
def gd_TableD_orD : GDef := ⟨a_TableD_orD, "__or__", "Table.__or__", defArgs st_TableD_orD, defBody st_TableD_orD, defScope st_TableD_orD, [], []⟩
def gd__law_mixed : GDef := ⟨a__law_mixed, "_law_mixed", "_law_mixed", defArgs st__law_mixed, defBody st__law_mixed, defScope st__law_mixed, [], []⟩
def gd__law_right : GDef := ⟨a__law_right, "_law_right", "_law_right", defArgs st__law_right, defBody st__law_right, defScope st__law_right, [], []⟩
def gd__law_pool : GDef := ⟨a__law_pool, "_law_pool", "_law_pool", defArgs st__law_pool, defBody st__law_pool, defScope st__law_pool, [], []⟩
def gd_law : GDef := ⟨a_law, "law", "law", defArgs st_law, defBody st_law, defScope st_law, [], []⟩
def sd_NoTableD_initD : SDef := ⟨a_NoTableD_initD, "__init__", "NoTable.__init__", defArgs st_NoTableD_initD, defBody st_NoTableD_initD, defScope st_NoTableD_initD, [], "NoTable", P.main.file⟩
def fnL : List GDef := [gd_TableD_lenD, gd__law_take, gd__law_one, gd__law_state, gd__law_unlike, gd_is_plain_R0, gd_is_plain_R1, gd_is_plain_R2, gd_is_plain_R3, gd_is_plain_R4, gd_is_plain_R5, gd_is_plain_R6, gd_is_plain_R7, gd_is_plain_R8, gd_is_plain_R9, gd_TableD_initD, gd_Table_listed, gd_TableD_eqD, gd_TableD_containsD, gd_TableD_andD, gd_TableD_subD, gd_TableD_orD, gd__law_mixed, gd__law_right, gd__law_pool, gd_law]
def sfL : List SDef := [sd_NoTableD_initD]
def tsL : List Tab := []
def exL : List (PySem.W.Frag → Bool) := [fun K => fldB K "Table" (toStr s_rows),
  fun K => (Fa.free "len").ok K,
  fun K => spB K "Table" "__len__" a_TableD_lenD,
  fun K => (Fa.free "min").ok K,
  fun K => (Fa.free "max").ok K,
  fun K => (Fa.free "range").ok K,
  fun K => (Fa.free "int").ok K,
  fun K => (Fa.glo "_law_take").ok K,
  fun K => (Fa.glo "_law_one").ok K,
  fun K => (Fa.glo "_law_state").ok K,
  fun K => (Fa.glo "_law_unlike").ok K,
  fun K => (Fa.free "list").ok K,
  fun K => (Fa.free "tuple").ok K,
  fun K => isB K nm [.ty "list", .ty "tuple"] i_list_tuple,
  fun K => (Fa.free "isinstance").ok K,
  fun K => isB K nm [.ty "tuple"] i_tuple,
  fun K => gvB K "DEEPEST" (.int 8),
  fun K => (Fa.glo "is_plain").ok K,
  fun K => (Fa.free "str").ok K,
  fun K => (Fa.free "bool").ok K,
  fun K => isB K nm [.ty "int", .ty "str", .ty "bool"] i_int_str_bool,
  fun K => excB K "NoTable",
  fun K => exiB K "NoTable" "states" a_NoTableD_initD,
  fun K => (Fa.glo "NoTable").ok K,
  fun K => fldB K "Table" (toStr s_known),
  fun K => mkB K "Table" a_TableD_initD,
  fun K => (Fa.glo "Table").ok K,
  fun K => methB K "Table" (toStr s_listed) a_Table_listed,
  fun K => isB K nm [.own "Table"] i_Table,
  fun K => spB K "Table" "__eq__" a_TableD_eqD,
  fun K => nfB1 K nm "Table" [31],
  fun K => neB K (ga K "Table"),
  fun K => spB K "Table" "__contains__" a_TableD_containsD,
  fun K => biB K "Table" "__and__" "__rand__" a_TableD_andD,
  fun K => biB K "Table" "__sub__" "__rsub__" a_TableD_subD,
  fun K => biB K "Table" "__or__" "__ror__" a_TableD_orD,
  fun K => (Fa.glo "_law_mixed").ok K,
  fun K => (Fa.glo "_law_pool").ok K,
  fun K => (Fa.glo "_law_right").ok K,
  fun K => (Fa.free "super").ok K,
  fun K => (Fa.glo "law").ok K,
  noLstB]
def spec : MSpec := ⟨fnL, sfL, tsL, exL⟩
section
variable {w : World} {K : PySem.W.Frag} {mg : Str → Option Value} {base : Heap}
theorem bn_TableD_lenD (E : Ev spec w K mg) : BOk K a_TableD_lenD ["self"] := FunD.bindsN (E.says.def_ 0 (d := gd_TableD_lenD)) fun _ _ _ _ _ _ us hl => match us, hl with | [_], _ => rfl
theorem sc_TableD_lenD : FnScope ["self"] ["self"] (defScope st_TableD_lenD) := ⟨rfl, rfl, rfl, by decide +kernel, rfl, by decide +kernel, by decide +kernel⟩
theorem ok_TableD_lenD (E : Ev spec w K mg) : DOk P w K mg base nm 1 a_TableD_lenD ["self"] f_TableD_lenD := by
  obtain ⟨hX, XI, Gn⟩ := E.hh
  have sc := sc_TableD_lenD
  refine ⟨fn_M (N := ["self"]) (E.says.def_ 0 (d := gd_TableD_lenD)) sc rfl (fun cdv A outer s H Ex hr tk hp => ?_), arity_runB, (E.says.def_ 0 (d := gd_TableD_lenD)).kp⟩
  exact (ms_one (ms_ret (me_cb (mc_len rfl) rfl (E.free 1) boot_len (ma_cons (me_fld t_rows (fldOk_cons rfl (E.says.ex 0) fldOk_nil) (xv 0) rfl) ma_nil))))
theorem bn__law_take (E : Ev spec w K mg) : BOk K a__law_take ["_law_pool_here", "_law_many"] := FunD.bindsN (E.says.def_ 1 (d := gd__law_take)) fun _ _ _ _ _ _ us hl => match us, hl with | [_, _], _ => rfl
theorem sc__law_take : FnScope ["_law_pool_here", "_law_many", "_law_found"] ["_law_pool_here", "_law_many"] (defScope st__law_take) := ⟨rfl, rfl, rfl, by decide +kernel, rfl, by decide +kernel, by decide +kernel⟩
theorem ok__law_take (E : Ev spec w K mg) : DOk P w K mg base nm 1 a__law_take ["_law_pool_here", "_law_many"] f__law_take := by
  obtain ⟨hX, XI, Gn⟩ := E.hh
  have sc := sc__law_take
  refine ⟨fn_M (N := ["_law_pool_here", "_law_many", "_law_found"]) (E.says.def_ 1 (d := gd__law_take)) sc rfl (fun cdv A outer s H Ex hr tk hp => ?_), arity_runB, (E.says.def_ 1 (d := gd__law_take)).kp⟩
  exact (ms_cons (ms_if (mt_cmpR mo_gt (me_ix rfl (hu1 hr) (xv 0) me_int (by intro _ _; rfl)) me_int rfl) (ms_cons (ms_set (i := 2) sc.nd rfl (by first | exact .inl rfl | exact .inr rfl) (me_bin mo_mod (me_cty mc_int rfl (E.free 6) boot_int (ma_cons (me_ix rfl (hu1 hr) (xv 0) me_int (by intro _ _; rfl)) ma_nil)) (xv 1))) (ms_cons (ms_asg (me_bin mo_fdiv (me_ix rfl (hu1 hr) (xv 0) me_int (by intro _ _; rfl)) (xv 1)) (mg_ix (hu1 hr) (xv 0) me_int) (onlyNx_ix _ _)) (ms_cons (ms_ret (xv 2)) ms_nil))) ms_nil) (ms_cons (ms_asg (me_bin mo_mod (me_cty mc_int rfl (E.free 6) boot_int (ma_cons (me_bin (mo_add rfl) (me_bin (mo_mul rfl) (me_ix rfl (hu1 hr) (xv 0) me_int (by intro _ _; rfl)) me_int) me_int) ma_nil)) me_int) (mg_ix (hu1 hr) (xv 0) me_int) (onlyNx_ix _ _)) (ms_cons (ms_ret (me_bin mo_mod (me_bin mo_fdiv (me_bin mo_mod (me_cty mc_int rfl (E.free 6) boot_int (ma_cons (me_bin (mo_mul rfl) (me_ix rfl (hu1 hr) (xv 0) me_int (by intro _ _; rfl)) (me_ix rfl (hu1 hr) (xv 0) me_int (by intro _ _; rfl))) ma_nil)) me_int) me_int) (xv 1))) ms_nil)))
theorem bn__law_one (E : Ev spec w K mg) : BOk K a__law_one ["_law_pool_here", "_law_some"] := FunD.bindsN (E.says.def_ 2 (d := gd__law_one)) fun _ _ _ _ _ _ us hl => match us, hl with | [_, _], _ => rfl
theorem sc__law_one : FnScope ["_law_pool_here", "_law_some"] ["_law_pool_here", "_law_some"] (defScope st__law_one) := ⟨rfl, rfl, rfl, by decide +kernel, rfl, by decide +kernel, by decide +kernel⟩
local macro_rules | `(tactic| push_cast [$E:term, $hr:term, $tk:term, 0]) => `(tactic| exact spOk_cons rfl (($E).says.ex 2) (xca1 (ok_TableD_lenD ($E)) (bn_TableD_lenD ($E)) ($hr) ($tk)) spOk_nil)
theorem ok__law_one (E : Ev spec w K mg) : DOk P w K mg base nm 4 a__law_one ["_law_pool_here", "_law_some"] f__law_one := by
  obtain ⟨hX, XI, Gn⟩ := E.hh
  have sc := sc__law_one
  refine ⟨fn_M (N := ["_law_pool_here", "_law_some"]) (E.says.def_ 2 (d := gd__law_one)) sc rfl (fun cdv A outer s H Ex hr tk hp => ?_), arity_runB, (E.says.def_ 2 (d := gd__law_one)).kp⟩
  exact (ms_one (ms_ret (me_ix rfl (hu1 hr) (xv 1) (xcall (ok__law_take E) (bn__law_take E) hr tk (E.glo 7) (ma_cons (xv 0) (ma_cons (me_lenU (mc_len rfl) (by push_cast [E, hr, tk, 0]) rfl (E.free 1) boot_len (xv 1)) ma_nil))) (by intro _ _; rfl))))
theorem bn__law_state (E : Ev spec w K mg) : BOk K a__law_state ["_law_pool_here"] := FunD.bindsN (E.says.def_ 3 (d := gd__law_state)) fun _ _ _ _ _ _ us hl => match us, hl with | [_], _ => rfl
theorem sc__law_state : FnScope ["_law_pool_here", "_law_inner", "_law_some"] ["_law_pool_here"] (defScope st__law_state) := ⟨rfl, rfl, rfl, by decide +kernel, rfl, by decide +kernel, by decide +kernel⟩
theorem ok__law_state (E : Ev spec w K mg) : DOk P w K mg base nm 7 a__law_state ["_law_pool_here"] f__law_state := by
  obtain ⟨hX, XI, Gn⟩ := E.hh
  have sc := sc__law_state
  refine ⟨fn_M (N := ["_law_pool_here", "_law_inner", "_law_some"]) (E.says.def_ 3 (d := gd__law_state)) sc rfl (fun cdv A outer s H Ex hr tk hp => ?_), arity_runB, (E.says.def_ 3 (d := gd__law_state)).kp⟩
  exact (ms_cons (ms_set (i := 1) sc.nd rfl (by first | exact .inl rfl | exact .inr rfl) (me_tup (ma_cons (xcall (ok__law_take E) (bn__law_take E) hr tk (E.glo 7) (ma_cons (xv 0) (ma_cons me_int ma_nil))) (ma_cons (xcall (ok__law_one E) (bn__law_one E) hr tk (E.glo 8) (ma_cons (xv 0) (ma_cons (me_lst (ma_cons me_non (ma_cons (me_str t_out) (ma_cons (me_str t_inside) ma_nil)))) ma_nil))) ma_nil)))) (ms_cons (ms_set (i := 2) sc.nd rfl (by first | exact .inl rfl | exact .inr rfl) (me_lst (ma_cons (me_tup ma_nil) (ma_cons (xv 1) (ma_cons (me_tup (ma_cons (xcall (ok__law_take E) (bn__law_take E) hr tk (E.glo 7) (ma_cons (xv 0) (ma_cons me_int ma_nil))) ma_nil)) (ma_cons (me_tup (ma_cons (xv 1) (ma_cons (me_tup ma_nil) ma_nil))) (ma_cons (me_tup (ma_cons (me_str t_unsafe) (ma_cons me_int (ma_cons me_int ma_nil)))) (ma_cons (me_tup (ma_cons (xv 1) (ma_cons (xv 1) (ma_cons (me_tup (ma_cons (xv 1) ma_nil)) ma_nil)))) ma_nil)))))))) (ms_cons (ms_ret (xcall (ok__law_one E) (bn__law_one E) hr tk (E.glo 8) (ma_cons (xv 0) (ma_cons (me_bin (mo_add rfl) (xv 2) (me_lst (ma_cons (me_tup (ma_cons me_bl ma_nil)) (ma_cons (me_tup (ma_cons me_bl (ma_cons me_int ma_nil))) (ma_cons (me_tup (ma_cons (me_tup (ma_cons me_bl (ma_cons me_non ma_nil))) (ma_cons (me_tup ma_nil) ma_nil))) ma_nil))))) ma_nil)))) ms_nil)))
theorem bn__law_unlike (E : Ev spec w K mg) : BOk K a__law_unlike ["_law_states"] := FunD.bindsN (E.says.def_ 4 (d := gd__law_unlike)) fun _ _ _ _ _ _ us hl => match us, hl with | [_], _ => rfl
theorem sc__law_unlike : FnScope ["_law_states", "_law_found", "_law_state_here"] ["_law_states"] (defScope st__law_unlike) := ⟨rfl, rfl, rfl, by decide +kernel, rfl, by decide +kernel, by decide +kernel⟩
theorem ok__law_unlike (E : Ev spec w K mg) : DOk P w K mg base nm 1 a__law_unlike ["_law_states"] f__law_unlike := by
  obtain ⟨hX, XI, Gn⟩ := E.hh
  have sc := sc__law_unlike
  refine ⟨fn_M (N := ["_law_states", "_law_found", "_law_state_here"]) (E.says.def_ 4 (d := gd__law_unlike)) sc rfl (fun cdv A outer s H Ex hr tk hp => ?_), arity_runB, (E.says.def_ 4 (d := gd__law_unlike)).kp⟩
  exact (ms_cons (ms_set (i := 1) sc.nd rfl (by first | exact .inl rfl | exact .inr rfl) (me_lst ma_nil)) (ms_cons (ms_for hp rfl (mi_seq rfl (xv 0)) (mg_name sc.nd rfl (by first | exact .inl rfl | exact .inr rfl)) (onlyNx_name _) (ms_one (ms_if (mt_cmpR (mo_notIn rfl (hu65 hr)) (xv 2) (xv 1) rfl) (ms_one (ms_expr (me_bm (k := .lst) rfl PySem.F.plainAttrs_list PySem.F.slot_list_append PySem.F.type_list_append mm_append (xv 1) (ma_cons (xv 2) ma_nil)))) ms_nil))) (ms_cons (ms_ret (xv 1)) ms_nil)))
theorem bd_is_plain_R0_2_ (E : Ev spec w K mg) : Bnd (GxOf w K mg nm) K (fdOf K a_is_plain_R0) ["value", "deep"] 2 [] ar_bd_is_plain_R0_2_ := by
  obtain ⟨its, kb⟩ := FunD.kbindsD (ps := ["value", "deep"]) (E.says.def_ 5 (d := gd_is_plain_R0)) 2 [] (fun us ds ws => arr4 se_bd_is_plain_R0_2_ us [] ws ds) (fun h => nomatch h)
    (fun r1 r4 r3 => arr4_vals r1 .nil r3 r4 _)
    (fun T kV doc pm an cdv ct us its ws l1 l4 l3 => match us, l1, its, l4, ws, l3 with
      | [u0, u1], _, [d0], _, [], _ => ⟨_, rfl, rfl⟩)
  exact ⟨_, _, kb, fun ρ H args zargs vs zs r1 r2 l1 l2 => arr4_rvs r1 .nil r2 (.cons (.int _) .nil) _⟩
theorem sc_is_plain_R0 : FnScope ["value", "deep", "part"] ["value", "deep"] (defScope st_is_plain_R0) := ⟨rfl, rfl, rfl, by decide +kernel, rfl, by decide +kernel, by decide +kernel⟩
theorem ok_is_plain_R0 (E : Ev spec w K mg) : DOk P w K mg base nm 1 a_is_plain_R0 ["value", "deep"] f_is_plain_R0 := by
  obtain ⟨hX, XI, Gn⟩ := E.hh
  have sc := sc_is_plain_R0
  refine ⟨fn_M (N := ["value", "deep", "part"]) (E.says.def_ 5 (d := gd_is_plain_R0)) sc rfl (fun cdv A outer s H Ex hr tk hp => ?_), arity_runB, (E.says.def_ 5 (d := gd_is_plain_R0)).kp⟩
  exact mss_err
theorem bd_is_plain_R1_2_ (E : Ev spec w K mg) : Bnd (GxOf w K mg nm) K (fdOf K a_is_plain_R1) ["value", "deep"] 2 [] ar_bd_is_plain_R1_2_ := by
  obtain ⟨its, kb⟩ := FunD.kbindsD (ps := ["value", "deep"]) (E.says.def_ 6 (d := gd_is_plain_R1)) 2 [] (fun us ds ws => arr4 se_bd_is_plain_R1_2_ us [] ws ds) (fun h => nomatch h)
    (fun r1 r4 r3 => arr4_vals r1 .nil r3 r4 _)
    (fun T kV doc pm an cdv ct us its ws l1 l4 l3 => match us, l1, its, l4, ws, l3 with
      | [u0, u1], _, [d0], _, [], _ => ⟨_, rfl, rfl⟩)
  exact ⟨_, _, kb, fun ρ H args zargs vs zs r1 r2 l1 l2 => arr4_rvs r1 .nil r2 (.cons (.int _) .nil) _⟩
theorem sc_is_plain_R1 : FnScope ["value", "deep", "part"] ["value", "deep"] (defScope st_is_plain_R1) := ⟨rfl, rfl, rfl, by decide +kernel, rfl, by decide +kernel, by decide +kernel⟩
theorem ok_is_plain_R1 (E : Ev spec w K mg) : DOk P w K mg base nm 4 a_is_plain_R1 ["value", "deep"] f_is_plain_R1 := by
  obtain ⟨hX, XI, Gn⟩ := E.hh
  have sc := sc_is_plain_R1
  refine ⟨fn_M (N := ["value", "deep", "part"]) (E.says.def_ 6 (d := gd_is_plain_R1)) sc rfl (fun cdv A outer s H Ex hr tk hp => ?_), arity_runB, (E.says.def_ 6 (d := gd_is_plain_R1)).kp⟩
  exact (ms_cons (ms_if (PW.pt (mw_or (mt_not (mt_val (me_isi rfl (isOk_of (cs := [.ty "tuple"]) (E.says.ex 15)) rfl (E.free 14) (xv 0) (pe_ty rfl (E.free 12) boot_tuple) (ClsR.ok _ (.ty "tuple"))))) (mw_or1 (mt_cmpR mo_gt (xv 1) (xval E 16 rfl) rfl)))) (ms_one (ms_ret me_bl)) ms_nil) (ms_cons (ms_for hp rfl (mi_seq rfl (xv 0)) (mg_name sc.nd rfl (by first | exact .inl rfl | exact .inr rfl)) (onlyNx_name _) (ms_one (ms_if (mt_val (me_isi rfl (isOk_of (cs := [.ty "tuple"]) (E.says.ex 15)) rfl (E.free 14) (xv 2) (pe_ty rfl (E.free 12) boot_tuple) (ClsR.ok _ (.ty "tuple")))) (ms_one (ms_if (mt_not (mt_val (me_callK (xfnK (ok_is_plain_R0 E) (bd_is_plain_R0_2_ E) (by exact hr) tk).1 rfl (E.glo 17) (xfnK (ok_is_plain_R0 E) (bd_is_plain_R0_2_ E) (by exact hr) tk).2 (ma_cons (xv 2) (ma_cons (me_bin (mo_add rfl) (xv 1) me_int) ma_nil)) mk_nil))) (ms_one (ms_ret me_bl)) ms_nil)) (ms_one (ms_if (PW.pt (mw_and (mt_cmpR mo_notN (xv 2) me_non rfl) (mw_and1 (mt_not (mt_val (me_isiT rfl (isOk_of (E.says.ex 20)) rfl (E.free 14) (xv 2) (pa_c1 (pe_ty rfl (E.free 6) boot_int) (pa_c1 (pe_ty rfl (E.free 18) boot_str) (pa_c1 (pe_ty rfl (E.free 19) boot_bool) pa_c0))) (ClsR.all _ [.ty "int", .ty "str", .ty "bool"]) rfl)))))) (ms_one (ms_ret me_bl)) ms_nil))))) (ms_cons (ms_ret me_bl) ms_nil)))
theorem bd_is_plain_R2_2_ (E : Ev spec w K mg) : Bnd (GxOf w K mg nm) K (fdOf K a_is_plain_R2) ["value", "deep"] 2 [] ar_bd_is_plain_R2_2_ := by
  obtain ⟨its, kb⟩ := FunD.kbindsD (ps := ["value", "deep"]) (E.says.def_ 7 (d := gd_is_plain_R2)) 2 [] (fun us ds ws => arr4 se_bd_is_plain_R2_2_ us [] ws ds) (fun h => nomatch h)
    (fun r1 r4 r3 => arr4_vals r1 .nil r3 r4 _)
    (fun T kV doc pm an cdv ct us its ws l1 l4 l3 => match us, l1, its, l4, ws, l3 with
      | [u0, u1], _, [d0], _, [], _ => ⟨_, rfl, rfl⟩)
  exact ⟨_, _, kb, fun ρ H args zargs vs zs r1 r2 l1 l2 => arr4_rvs r1 .nil r2 (.cons (.int _) .nil) _⟩
theorem sc_is_plain_R2 : FnScope ["value", "deep", "part"] ["value", "deep"] (defScope st_is_plain_R2) := ⟨rfl, rfl, rfl, by decide +kernel, rfl, by decide +kernel, by decide +kernel⟩
theorem ok_is_plain_R2 (E : Ev spec w K mg) : DOk P w K mg base nm 7 a_is_plain_R2 ["value", "deep"] f_is_plain_R2 := by
  obtain ⟨hX, XI, Gn⟩ := E.hh
  have sc := sc_is_plain_R2
  refine ⟨fn_M (N := ["value", "deep", "part"]) (E.says.def_ 7 (d := gd_is_plain_R2)) sc rfl (fun cdv A outer s H Ex hr tk hp => ?_), arity_runB, (E.says.def_ 7 (d := gd_is_plain_R2)).kp⟩
  exact (ms_cons (ms_if (PW.pt (mw_or (mt_not (mt_val (me_isi rfl (isOk_of (cs := [.ty "tuple"]) (E.says.ex 15)) rfl (E.free 14) (xv 0) (pe_ty rfl (E.free 12) boot_tuple) (ClsR.ok _ (.ty "tuple"))))) (mw_or1 (mt_cmpR mo_gt (xv 1) (xval E 16 rfl) rfl)))) (ms_one (ms_ret me_bl)) ms_nil) (ms_cons (ms_for hp rfl (mi_seq rfl (xv 0)) (mg_name sc.nd rfl (by first | exact .inl rfl | exact .inr rfl)) (onlyNx_name _) (ms_one (ms_if (mt_val (me_isi rfl (isOk_of (cs := [.ty "tuple"]) (E.says.ex 15)) rfl (E.free 14) (xv 2) (pe_ty rfl (E.free 12) boot_tuple) (ClsR.ok _ (.ty "tuple")))) (ms_one (ms_if (mt_not (mt_val (me_callK (xfnK (ok_is_plain_R1 E) (bd_is_plain_R1_2_ E) (by exact hr) tk).1 rfl (E.glo 17) (xfnK (ok_is_plain_R1 E) (bd_is_plain_R1_2_ E) (by exact hr) tk).2 (ma_cons (xv 2) (ma_cons (me_bin (mo_add rfl) (xv 1) me_int) ma_nil)) mk_nil))) (ms_one (ms_ret me_bl)) ms_nil)) (ms_one (ms_if (PW.pt (mw_and (mt_cmpR mo_notN (xv 2) me_non rfl) (mw_and1 (mt_not (mt_val (me_isiT rfl (isOk_of (E.says.ex 20)) rfl (E.free 14) (xv 2) (pa_c1 (pe_ty rfl (E.free 6) boot_int) (pa_c1 (pe_ty rfl (E.free 18) boot_str) (pa_c1 (pe_ty rfl (E.free 19) boot_bool) pa_c0))) (ClsR.all _ [.ty "int", .ty "str", .ty "bool"]) rfl)))))) (ms_one (ms_ret me_bl)) ms_nil))))) (ms_cons (ms_ret me_bl) ms_nil)))
theorem bd_is_plain_R3_2_ (E : Ev spec w K mg) : Bnd (GxOf w K mg nm) K (fdOf K a_is_plain_R3) ["value", "deep"] 2 [] ar_bd_is_plain_R3_2_ := by
  obtain ⟨its, kb⟩ := FunD.kbindsD (ps := ["value", "deep"]) (E.says.def_ 8 (d := gd_is_plain_R3)) 2 [] (fun us ds ws => arr4 se_bd_is_plain_R3_2_ us [] ws ds) (fun h => nomatch h)
    (fun r1 r4 r3 => arr4_vals r1 .nil r3 r4 _)
    (fun T kV doc pm an cdv ct us its ws l1 l4 l3 => match us, l1, its, l4, ws, l3 with
      | [u0, u1], _, [d0], _, [], _ => ⟨_, rfl, rfl⟩)
  exact ⟨_, _, kb, fun ρ H args zargs vs zs r1 r2 l1 l2 => arr4_rvs r1 .nil r2 (.cons (.int _) .nil) _⟩
theorem sc_is_plain_R3 : FnScope ["value", "deep", "part"] ["value", "deep"] (defScope st_is_plain_R3) := ⟨rfl, rfl, rfl, by decide +kernel, rfl, by decide +kernel, by decide +kernel⟩
theorem ok_is_plain_R3 (E : Ev spec w K mg) : DOk P w K mg base nm 10 a_is_plain_R3 ["value", "deep"] f_is_plain_R3 := by
  obtain ⟨hX, XI, Gn⟩ := E.hh
  have sc := sc_is_plain_R3
  refine ⟨fn_M (N := ["value", "deep", "part"]) (E.says.def_ 8 (d := gd_is_plain_R3)) sc rfl (fun cdv A outer s H Ex hr tk hp => ?_), arity_runB, (E.says.def_ 8 (d := gd_is_plain_R3)).kp⟩
  exact (ms_cons (ms_if (PW.pt (mw_or (mt_not (mt_val (me_isi rfl (isOk_of (cs := [.ty "tuple"]) (E.says.ex 15)) rfl (E.free 14) (xv 0) (pe_ty rfl (E.free 12) boot_tuple) (ClsR.ok _ (.ty "tuple"))))) (mw_or1 (mt_cmpR mo_gt (xv 1) (xval E 16 rfl) rfl)))) (ms_one (ms_ret me_bl)) ms_nil) (ms_cons (ms_for hp rfl (mi_seq rfl (xv 0)) (mg_name sc.nd rfl (by first | exact .inl rfl | exact .inr rfl)) (onlyNx_name _) (ms_one (ms_if (mt_val (me_isi rfl (isOk_of (cs := [.ty "tuple"]) (E.says.ex 15)) rfl (E.free 14) (xv 2) (pe_ty rfl (E.free 12) boot_tuple) (ClsR.ok _ (.ty "tuple")))) (ms_one (ms_if (mt_not (mt_val (me_callK (xfnK (ok_is_plain_R2 E) (bd_is_plain_R2_2_ E) (by exact hr) tk).1 rfl (E.glo 17) (xfnK (ok_is_plain_R2 E) (bd_is_plain_R2_2_ E) (by exact hr) tk).2 (ma_cons (xv 2) (ma_cons (me_bin (mo_add rfl) (xv 1) me_int) ma_nil)) mk_nil))) (ms_one (ms_ret me_bl)) ms_nil)) (ms_one (ms_if (PW.pt (mw_and (mt_cmpR mo_notN (xv 2) me_non rfl) (mw_and1 (mt_not (mt_val (me_isiT rfl (isOk_of (E.says.ex 20)) rfl (E.free 14) (xv 2) (pa_c1 (pe_ty rfl (E.free 6) boot_int) (pa_c1 (pe_ty rfl (E.free 18) boot_str) (pa_c1 (pe_ty rfl (E.free 19) boot_bool) pa_c0))) (ClsR.all _ [.ty "int", .ty "str", .ty "bool"]) rfl)))))) (ms_one (ms_ret me_bl)) ms_nil))))) (ms_cons (ms_ret me_bl) ms_nil)))
theorem bd_is_plain_R4_2_ (E : Ev spec w K mg) : Bnd (GxOf w K mg nm) K (fdOf K a_is_plain_R4) ["value", "deep"] 2 [] ar_bd_is_plain_R4_2_ := by
  obtain ⟨its, kb⟩ := FunD.kbindsD (ps := ["value", "deep"]) (E.says.def_ 9 (d := gd_is_plain_R4)) 2 [] (fun us ds ws => arr4 se_bd_is_plain_R4_2_ us [] ws ds) (fun h => nomatch h)
    (fun r1 r4 r3 => arr4_vals r1 .nil r3 r4 _)
    (fun T kV doc pm an cdv ct us its ws l1 l4 l3 => match us, l1, its, l4, ws, l3 with
      | [u0, u1], _, [d0], _, [], _ => ⟨_, rfl, rfl⟩)
  exact ⟨_, _, kb, fun ρ H args zargs vs zs r1 r2 l1 l2 => arr4_rvs r1 .nil r2 (.cons (.int _) .nil) _⟩
theorem sc_is_plain_R4 : FnScope ["value", "deep", "part"] ["value", "deep"] (defScope st_is_plain_R4) := ⟨rfl, rfl, rfl, by decide +kernel, rfl, by decide +kernel, by decide +kernel⟩
theorem ok_is_plain_R4 (E : Ev spec w K mg) : DOk P w K mg base nm 13 a_is_plain_R4 ["value", "deep"] f_is_plain_R4 := by
  obtain ⟨hX, XI, Gn⟩ := E.hh
  have sc := sc_is_plain_R4
  refine ⟨fn_M (N := ["value", "deep", "part"]) (E.says.def_ 9 (d := gd_is_plain_R4)) sc rfl (fun cdv A outer s H Ex hr tk hp => ?_), arity_runB, (E.says.def_ 9 (d := gd_is_plain_R4)).kp⟩
  exact (ms_cons (ms_if (PW.pt (mw_or (mt_not (mt_val (me_isi rfl (isOk_of (cs := [.ty "tuple"]) (E.says.ex 15)) rfl (E.free 14) (xv 0) (pe_ty rfl (E.free 12) boot_tuple) (ClsR.ok _ (.ty "tuple"))))) (mw_or1 (mt_cmpR mo_gt (xv 1) (xval E 16 rfl) rfl)))) (ms_one (ms_ret me_bl)) ms_nil) (ms_cons (ms_for hp rfl (mi_seq rfl (xv 0)) (mg_name sc.nd rfl (by first | exact .inl rfl | exact .inr rfl)) (onlyNx_name _) (ms_one (ms_if (mt_val (me_isi rfl (isOk_of (cs := [.ty "tuple"]) (E.says.ex 15)) rfl (E.free 14) (xv 2) (pe_ty rfl (E.free 12) boot_tuple) (ClsR.ok _ (.ty "tuple")))) (ms_one (ms_if (mt_not (mt_val (me_callK (xfnK (ok_is_plain_R3 E) (bd_is_plain_R3_2_ E) (by exact hr) tk).1 rfl (E.glo 17) (xfnK (ok_is_plain_R3 E) (bd_is_plain_R3_2_ E) (by exact hr) tk).2 (ma_cons (xv 2) (ma_cons (me_bin (mo_add rfl) (xv 1) me_int) ma_nil)) mk_nil))) (ms_one (ms_ret me_bl)) ms_nil)) (ms_one (ms_if (PW.pt (mw_and (mt_cmpR mo_notN (xv 2) me_non rfl) (mw_and1 (mt_not (mt_val (me_isiT rfl (isOk_of (E.says.ex 20)) rfl (E.free 14) (xv 2) (pa_c1 (pe_ty rfl (E.free 6) boot_int) (pa_c1 (pe_ty rfl (E.free 18) boot_str) (pa_c1 (pe_ty rfl (E.free 19) boot_bool) pa_c0))) (ClsR.all _ [.ty "int", .ty "str", .ty "bool"]) rfl)))))) (ms_one (ms_ret me_bl)) ms_nil))))) (ms_cons (ms_ret me_bl) ms_nil)))
theorem bd_is_plain_R5_2_ (E : Ev spec w K mg) : Bnd (GxOf w K mg nm) K (fdOf K a_is_plain_R5) ["value", "deep"] 2 [] ar_bd_is_plain_R5_2_ := by
  obtain ⟨its, kb⟩ := FunD.kbindsD (ps := ["value", "deep"]) (E.says.def_ 10 (d := gd_is_plain_R5)) 2 [] (fun us ds ws => arr4 se_bd_is_plain_R5_2_ us [] ws ds) (fun h => nomatch h)
    (fun r1 r4 r3 => arr4_vals r1 .nil r3 r4 _)
    (fun T kV doc pm an cdv ct us its ws l1 l4 l3 => match us, l1, its, l4, ws, l3 with
      | [u0, u1], _, [d0], _, [], _ => ⟨_, rfl, rfl⟩)
  exact ⟨_, _, kb, fun ρ H args zargs vs zs r1 r2 l1 l2 => arr4_rvs r1 .nil r2 (.cons (.int _) .nil) _⟩
theorem sc_is_plain_R5 : FnScope ["value", "deep", "part"] ["value", "deep"] (defScope st_is_plain_R5) := ⟨rfl, rfl, rfl, by decide +kernel, rfl, by decide +kernel, by decide +kernel⟩
theorem ok_is_plain_R5 (E : Ev spec w K mg) : DOk P w K mg base nm 16 a_is_plain_R5 ["value", "deep"] f_is_plain_R5 := by
  obtain ⟨hX, XI, Gn⟩ := E.hh
  have sc := sc_is_plain_R5
  refine ⟨fn_M (N := ["value", "deep", "part"]) (E.says.def_ 10 (d := gd_is_plain_R5)) sc rfl (fun cdv A outer s H Ex hr tk hp => ?_), arity_runB, (E.says.def_ 10 (d := gd_is_plain_R5)).kp⟩
  exact (ms_cons (ms_if (PW.pt (mw_or (mt_not (mt_val (me_isi rfl (isOk_of (cs := [.ty "tuple"]) (E.says.ex 15)) rfl (E.free 14) (xv 0) (pe_ty rfl (E.free 12) boot_tuple) (ClsR.ok _ (.ty "tuple"))))) (mw_or1 (mt_cmpR mo_gt (xv 1) (xval E 16 rfl) rfl)))) (ms_one (ms_ret me_bl)) ms_nil) (ms_cons (ms_for hp rfl (mi_seq rfl (xv 0)) (mg_name sc.nd rfl (by first | exact .inl rfl | exact .inr rfl)) (onlyNx_name _) (ms_one (ms_if (mt_val (me_isi rfl (isOk_of (cs := [.ty "tuple"]) (E.says.ex 15)) rfl (E.free 14) (xv 2) (pe_ty rfl (E.free 12) boot_tuple) (ClsR.ok _ (.ty "tuple")))) (ms_one (ms_if (mt_not (mt_val (me_callK (xfnK (ok_is_plain_R4 E) (bd_is_plain_R4_2_ E) (by exact hr) tk).1 rfl (E.glo 17) (xfnK (ok_is_plain_R4 E) (bd_is_plain_R4_2_ E) (by exact hr) tk).2 (ma_cons (xv 2) (ma_cons (me_bin (mo_add rfl) (xv 1) me_int) ma_nil)) mk_nil))) (ms_one (ms_ret me_bl)) ms_nil)) (ms_one (ms_if (PW.pt (mw_and (mt_cmpR mo_notN (xv 2) me_non rfl) (mw_and1 (mt_not (mt_val (me_isiT rfl (isOk_of (E.says.ex 20)) rfl (E.free 14) (xv 2) (pa_c1 (pe_ty rfl (E.free 6) boot_int) (pa_c1 (pe_ty rfl (E.free 18) boot_str) (pa_c1 (pe_ty rfl (E.free 19) boot_bool) pa_c0))) (ClsR.all _ [.ty "int", .ty "str", .ty "bool"]) rfl)))))) (ms_one (ms_ret me_bl)) ms_nil))))) (ms_cons (ms_ret me_bl) ms_nil)))
theorem bd_is_plain_R6_2_ (E : Ev spec w K mg) : Bnd (GxOf w K mg nm) K (fdOf K a_is_plain_R6) ["value", "deep"] 2 [] ar_bd_is_plain_R6_2_ := by
  obtain ⟨its, kb⟩ := FunD.kbindsD (ps := ["value", "deep"]) (E.says.def_ 11 (d := gd_is_plain_R6)) 2 [] (fun us ds ws => arr4 se_bd_is_plain_R6_2_ us [] ws ds) (fun h => nomatch h)
    (fun r1 r4 r3 => arr4_vals r1 .nil r3 r4 _)
    (fun T kV doc pm an cdv ct us its ws l1 l4 l3 => match us, l1, its, l4, ws, l3 with
      | [u0, u1], _, [d0], _, [], _ => ⟨_, rfl, rfl⟩)
  exact ⟨_, _, kb, fun ρ H args zargs vs zs r1 r2 l1 l2 => arr4_rvs r1 .nil r2 (.cons (.int _) .nil) _⟩
theorem sc_is_plain_R6 : FnScope ["value", "deep", "part"] ["value", "deep"] (defScope st_is_plain_R6) := ⟨rfl, rfl, rfl, by decide +kernel, rfl, by decide +kernel, by decide +kernel⟩
theorem ok_is_plain_R6 (E : Ev spec w K mg) : DOk P w K mg base nm 19 a_is_plain_R6 ["value", "deep"] f_is_plain_R6 := by
  obtain ⟨hX, XI, Gn⟩ := E.hh
  have sc := sc_is_plain_R6
  refine ⟨fn_M (N := ["value", "deep", "part"]) (E.says.def_ 11 (d := gd_is_plain_R6)) sc rfl (fun cdv A outer s H Ex hr tk hp => ?_), arity_runB, (E.says.def_ 11 (d := gd_is_plain_R6)).kp⟩
  exact (ms_cons (ms_if (PW.pt (mw_or (mt_not (mt_val (me_isi rfl (isOk_of (cs := [.ty "tuple"]) (E.says.ex 15)) rfl (E.free 14) (xv 0) (pe_ty rfl (E.free 12) boot_tuple) (ClsR.ok _ (.ty "tuple"))))) (mw_or1 (mt_cmpR mo_gt (xv 1) (xval E 16 rfl) rfl)))) (ms_one (ms_ret me_bl)) ms_nil) (ms_cons (ms_for hp rfl (mi_seq rfl (xv 0)) (mg_name sc.nd rfl (by first | exact .inl rfl | exact .inr rfl)) (onlyNx_name _) (ms_one (ms_if (mt_val (me_isi rfl (isOk_of (cs := [.ty "tuple"]) (E.says.ex 15)) rfl (E.free 14) (xv 2) (pe_ty rfl (E.free 12) boot_tuple) (ClsR.ok _ (.ty "tuple")))) (ms_one (ms_if (mt_not (mt_val (me_callK (xfnK (ok_is_plain_R5 E) (bd_is_plain_R5_2_ E) (by exact hr) tk).1 rfl (E.glo 17) (xfnK (ok_is_plain_R5 E) (bd_is_plain_R5_2_ E) (by exact hr) tk).2 (ma_cons (xv 2) (ma_cons (me_bin (mo_add rfl) (xv 1) me_int) ma_nil)) mk_nil))) (ms_one (ms_ret me_bl)) ms_nil)) (ms_one (ms_if (PW.pt (mw_and (mt_cmpR mo_notN (xv 2) me_non rfl) (mw_and1 (mt_not (mt_val (me_isiT rfl (isOk_of (E.says.ex 20)) rfl (E.free 14) (xv 2) (pa_c1 (pe_ty rfl (E.free 6) boot_int) (pa_c1 (pe_ty rfl (E.free 18) boot_str) (pa_c1 (pe_ty rfl (E.free 19) boot_bool) pa_c0))) (ClsR.all _ [.ty "int", .ty "str", .ty "bool"]) rfl)))))) (ms_one (ms_ret me_bl)) ms_nil))))) (ms_cons (ms_ret me_bl) ms_nil)))
theorem bd_is_plain_R7_2_ (E : Ev spec w K mg) : Bnd (GxOf w K mg nm) K (fdOf K a_is_plain_R7) ["value", "deep"] 2 [] ar_bd_is_plain_R7_2_ := by
  obtain ⟨its, kb⟩ := FunD.kbindsD (ps := ["value", "deep"]) (E.says.def_ 12 (d := gd_is_plain_R7)) 2 [] (fun us ds ws => arr4 se_bd_is_plain_R7_2_ us [] ws ds) (fun h => nomatch h)
    (fun r1 r4 r3 => arr4_vals r1 .nil r3 r4 _)
    (fun T kV doc pm an cdv ct us its ws l1 l4 l3 => match us, l1, its, l4, ws, l3 with
      | [u0, u1], _, [d0], _, [], _ => ⟨_, rfl, rfl⟩)
  exact ⟨_, _, kb, fun ρ H args zargs vs zs r1 r2 l1 l2 => arr4_rvs r1 .nil r2 (.cons (.int _) .nil) _⟩
theorem sc_is_plain_R7 : FnScope ["value", "deep", "part"] ["value", "deep"] (defScope st_is_plain_R7) := ⟨rfl, rfl, rfl, by decide +kernel, rfl, by decide +kernel, by decide +kernel⟩
theorem ok_is_plain_R7 (E : Ev spec w K mg) : DOk P w K mg base nm 22 a_is_plain_R7 ["value", "deep"] f_is_plain_R7 := by
  obtain ⟨hX, XI, Gn⟩ := E.hh
  have sc := sc_is_plain_R7
  refine ⟨fn_M (N := ["value", "deep", "part"]) (E.says.def_ 12 (d := gd_is_plain_R7)) sc rfl (fun cdv A outer s H Ex hr tk hp => ?_), arity_runB, (E.says.def_ 12 (d := gd_is_plain_R7)).kp⟩
  exact (ms_cons (ms_if (PW.pt (mw_or (mt_not (mt_val (me_isi rfl (isOk_of (cs := [.ty "tuple"]) (E.says.ex 15)) rfl (E.free 14) (xv 0) (pe_ty rfl (E.free 12) boot_tuple) (ClsR.ok _ (.ty "tuple"))))) (mw_or1 (mt_cmpR mo_gt (xv 1) (xval E 16 rfl) rfl)))) (ms_one (ms_ret me_bl)) ms_nil) (ms_cons (ms_for hp rfl (mi_seq rfl (xv 0)) (mg_name sc.nd rfl (by first | exact .inl rfl | exact .inr rfl)) (onlyNx_name _) (ms_one (ms_if (mt_val (me_isi rfl (isOk_of (cs := [.ty "tuple"]) (E.says.ex 15)) rfl (E.free 14) (xv 2) (pe_ty rfl (E.free 12) boot_tuple) (ClsR.ok _ (.ty "tuple")))) (ms_one (ms_if (mt_not (mt_val (me_callK (xfnK (ok_is_plain_R6 E) (bd_is_plain_R6_2_ E) (by exact hr) tk).1 rfl (E.glo 17) (xfnK (ok_is_plain_R6 E) (bd_is_plain_R6_2_ E) (by exact hr) tk).2 (ma_cons (xv 2) (ma_cons (me_bin (mo_add rfl) (xv 1) me_int) ma_nil)) mk_nil))) (ms_one (ms_ret me_bl)) ms_nil)) (ms_one (ms_if (PW.pt (mw_and (mt_cmpR mo_notN (xv 2) me_non rfl) (mw_and1 (mt_not (mt_val (me_isiT rfl (isOk_of (E.says.ex 20)) rfl (E.free 14) (xv 2) (pa_c1 (pe_ty rfl (E.free 6) boot_int) (pa_c1 (pe_ty rfl (E.free 18) boot_str) (pa_c1 (pe_ty rfl (E.free 19) boot_bool) pa_c0))) (ClsR.all _ [.ty "int", .ty "str", .ty "bool"]) rfl)))))) (ms_one (ms_ret me_bl)) ms_nil))))) (ms_cons (ms_ret me_bl) ms_nil)))
theorem bd_is_plain_R8_2_ (E : Ev spec w K mg) : Bnd (GxOf w K mg nm) K (fdOf K a_is_plain_R8) ["value", "deep"] 2 [] ar_bd_is_plain_R8_2_ := by
  obtain ⟨its, kb⟩ := FunD.kbindsD (ps := ["value", "deep"]) (E.says.def_ 13 (d := gd_is_plain_R8)) 2 [] (fun us ds ws => arr4 se_bd_is_plain_R8_2_ us [] ws ds) (fun h => nomatch h)
    (fun r1 r4 r3 => arr4_vals r1 .nil r3 r4 _)
    (fun T kV doc pm an cdv ct us its ws l1 l4 l3 => match us, l1, its, l4, ws, l3 with
      | [u0, u1], _, [d0], _, [], _ => ⟨_, rfl, rfl⟩)
  exact ⟨_, _, kb, fun ρ H args zargs vs zs r1 r2 l1 l2 => arr4_rvs r1 .nil r2 (.cons (.int _) .nil) _⟩
theorem sc_is_plain_R8 : FnScope ["value", "deep", "part"] ["value", "deep"] (defScope st_is_plain_R8) := ⟨rfl, rfl, rfl, by decide +kernel, rfl, by decide +kernel, by decide +kernel⟩
theorem ok_is_plain_R8 (E : Ev spec w K mg) : DOk P w K mg base nm 25 a_is_plain_R8 ["value", "deep"] f_is_plain_R8 := by
  obtain ⟨hX, XI, Gn⟩ := E.hh
  have sc := sc_is_plain_R8
  refine ⟨fn_M (N := ["value", "deep", "part"]) (E.says.def_ 13 (d := gd_is_plain_R8)) sc rfl (fun cdv A outer s H Ex hr tk hp => ?_), arity_runB, (E.says.def_ 13 (d := gd_is_plain_R8)).kp⟩
  exact (ms_cons (ms_if (PW.pt (mw_or (mt_not (mt_val (me_isi rfl (isOk_of (cs := [.ty "tuple"]) (E.says.ex 15)) rfl (E.free 14) (xv 0) (pe_ty rfl (E.free 12) boot_tuple) (ClsR.ok _ (.ty "tuple"))))) (mw_or1 (mt_cmpR mo_gt (xv 1) (xval E 16 rfl) rfl)))) (ms_one (ms_ret me_bl)) ms_nil) (ms_cons (ms_for hp rfl (mi_seq rfl (xv 0)) (mg_name sc.nd rfl (by first | exact .inl rfl | exact .inr rfl)) (onlyNx_name _) (ms_one (ms_if (mt_val (me_isi rfl (isOk_of (cs := [.ty "tuple"]) (E.says.ex 15)) rfl (E.free 14) (xv 2) (pe_ty rfl (E.free 12) boot_tuple) (ClsR.ok _ (.ty "tuple")))) (ms_one (ms_if (mt_not (mt_val (me_callK (xfnK (ok_is_plain_R7 E) (bd_is_plain_R7_2_ E) (by exact hr) tk).1 rfl (E.glo 17) (xfnK (ok_is_plain_R7 E) (bd_is_plain_R7_2_ E) (by exact hr) tk).2 (ma_cons (xv 2) (ma_cons (me_bin (mo_add rfl) (xv 1) me_int) ma_nil)) mk_nil))) (ms_one (ms_ret me_bl)) ms_nil)) (ms_one (ms_if (PW.pt (mw_and (mt_cmpR mo_notN (xv 2) me_non rfl) (mw_and1 (mt_not (mt_val (me_isiT rfl (isOk_of (E.says.ex 20)) rfl (E.free 14) (xv 2) (pa_c1 (pe_ty rfl (E.free 6) boot_int) (pa_c1 (pe_ty rfl (E.free 18) boot_str) (pa_c1 (pe_ty rfl (E.free 19) boot_bool) pa_c0))) (ClsR.all _ [.ty "int", .ty "str", .ty "bool"]) rfl)))))) (ms_one (ms_ret me_bl)) ms_nil))))) (ms_cons (ms_ret me_bl) ms_nil)))
theorem bd_is_plain_R9_1_ (E : Ev spec w K mg) : Bnd (GxOf w K mg nm) K (fdOf K a_is_plain_R9) ["value", "deep"] 1 [] ar_bd_is_plain_R9_1_ := by
  obtain ⟨its, kb⟩ := FunD.kbindsD (ps := ["value", "deep"]) (E.says.def_ 14 (d := gd_is_plain_R9)) 1 [] (fun us ds ws => arr4 se_bd_is_plain_R9_1_ us [] ws ds) (fun h => nomatch h)
    (fun r1 r4 r3 => arr4_vals r1 .nil r3 r4 _)
    (fun T kV doc pm an cdv ct us its ws l1 l4 l3 => match us, l1, its, l4, ws, l3 with
      | [u0], _, [d0], _, [], _ => ⟨_, rfl, rfl⟩)
  exact ⟨_, _, kb, fun ρ H args zargs vs zs r1 r2 l1 l2 => arr4_rvs r1 .nil r2 (.cons (.int _) .nil) _⟩
theorem sc_is_plain_R9 : FnScope ["value", "deep", "part"] ["value", "deep"] (defScope st_is_plain_R9) := ⟨rfl, rfl, rfl, by decide +kernel, rfl, by decide +kernel, by decide +kernel⟩
theorem ok_is_plain_R9 (E : Ev spec w K mg) : DOk P w K mg base nm 28 a_is_plain_R9 ["value", "deep"] f_is_plain_R9 := by
  obtain ⟨hX, XI, Gn⟩ := E.hh
  have sc := sc_is_plain_R9
  refine ⟨fn_M (N := ["value", "deep", "part"]) (E.says.def_ 14 (d := gd_is_plain_R9)) sc rfl (fun cdv A outer s H Ex hr tk hp => ?_), arity_runB, (E.says.def_ 14 (d := gd_is_plain_R9)).kp⟩
  exact (ms_cons (ms_if (PW.pt (mw_or (mt_not (mt_val (me_isi rfl (isOk_of (cs := [.ty "tuple"]) (E.says.ex 15)) rfl (E.free 14) (xv 0) (pe_ty rfl (E.free 12) boot_tuple) (ClsR.ok _ (.ty "tuple"))))) (mw_or1 (mt_cmpR mo_gt (xv 1) (xval E 16 rfl) rfl)))) (ms_one (ms_ret me_bl)) ms_nil) (ms_cons (ms_for hp rfl (mi_seq rfl (xv 0)) (mg_name sc.nd rfl (by first | exact .inl rfl | exact .inr rfl)) (onlyNx_name _) (ms_one (ms_if (mt_val (me_isi rfl (isOk_of (cs := [.ty "tuple"]) (E.says.ex 15)) rfl (E.free 14) (xv 2) (pe_ty rfl (E.free 12) boot_tuple) (ClsR.ok _ (.ty "tuple")))) (ms_one (ms_if (mt_not (mt_val (me_callK (xfnK (ok_is_plain_R8 E) (bd_is_plain_R8_2_ E) (by exact hr) tk).1 rfl (E.glo 17) (xfnK (ok_is_plain_R8 E) (bd_is_plain_R8_2_ E) (by exact hr) tk).2 (ma_cons (xv 2) (ma_cons (me_bin (mo_add rfl) (xv 1) me_int) ma_nil)) mk_nil))) (ms_one (ms_ret me_bl)) ms_nil)) (ms_one (ms_if (PW.pt (mw_and (mt_cmpR mo_notN (xv 2) me_non rfl) (mw_and1 (mt_not (mt_val (me_isiT rfl (isOk_of (E.says.ex 20)) rfl (E.free 14) (xv 2) (pa_c1 (pe_ty rfl (E.free 6) boot_int) (pa_c1 (pe_ty rfl (E.free 18) boot_str) (pa_c1 (pe_ty rfl (E.free 19) boot_bool) pa_c0))) (ClsR.all _ [.ty "int", .ty "str", .ty "bool"]) rfl)))))) (ms_one (ms_ret me_bl)) ms_nil))))) (ms_cons (ms_ret me_bl) ms_nil)))
theorem bn_NoTableD_initD (E : Ev spec w K mg) : BOk K a_NoTableD_initD ["self", "states"] := FunS.bindsN (E.says.sup 0 (d := sd_NoTableD_initD)) fun _ _ _ _ _ _ us hl => match us, hl with | [_, _], _ => rfl
theorem sc_NoTableD_initD : NdefX.NScope ["self", "states", "__class__"] ["self", "states"] ["__class__"] (defScope st_NoTableD_initD) := NdefX.nscope_by (by decide +kernel)
theorem ix_NoTableD_initD (E : Ev spec w K mg) : FnOk P w K mg base (L2.CX P w) 1 (a_NoTableD_initD K) (fdOf K a_NoTableD_initD) ["self", "states"] (spI (ga K "NoTable") (toStr s_states)) := by
  rw [← t_states]
  refine exFn (k := 0) (m := "values are no states of a table") (E.says.sup 0 (d := sd_NoTableD_initD)) sc_NoTableD_initD (excB_ok (E.says.ex 21)) (exiB_ok (E.says.ex 22)).no (fun _ _ _ _ _ => (exiB_ok (E.says.ex 22)).supX) (fun A outer s H Ex => ?_)
  exact ex_body (supD_of (E.says.sup 0 (d := sd_NoTableD_initD)) rfl rfl (by rfl) rfl (by kernel_rfl) (by kernel_rfl) (exiB_ok (E.says.ex 22)).any) rfl (E.free 39) rfl rfl (.inr (.inr rfl)) rfl (by first | exact .inl rfl | exact .inr (.inl rfl)) rfl (by first | exact .inl rfl | exact .inr (.inl rfl)) rfl rfl rfl rfl rfl rfl (by decide) (by decide)
theorem bn_TableD_initD (E : Ev spec w K mg) : BOk K a_TableD_initD ["self", "states"] := FunD.bindsN (E.says.def_ 15 (d := gd_TableD_initD)) fun _ _ _ _ _ _ us hl => match us, hl with | [_, _], _ => rfl
theorem sc_TableD_initD : FnScope ["self", "states", "state"] ["self", "states"] (defScope st_TableD_initD) := ⟨rfl, rfl, rfl, by decide +kernel, rfl, by decide +kernel, by decide +kernel⟩
theorem ok_TableD_initD (E : Ev spec w K mg) : DOk P w K mg base nm 31 a_TableD_initD ["self", "states"] f_TableD_initD := by
  obtain ⟨hX, XI, Gn⟩ := E.hh
  have sc := sc_TableD_initD
  refine ⟨fn_M (N := ["self", "states", "state"]) (E.says.def_ 15 (d := gd_TableD_initD)) sc rfl (fun cdv A outer s H Ex hr tk hp => ?_), arity_runB, (E.says.def_ 15 (d := gd_TableD_initD)).kp⟩
  exact (ms_cons (ms_if (PW.pt (mw_or (mt_not (mt_val (me_isiT rfl (isOk_of (E.says.ex 13)) rfl (E.free 14) (xv 1) (pa_c1 (pe_ty rfl (E.free 11) boot_list) (pa_c1 (pe_ty rfl (E.free 12) boot_tuple) pa_c0)) (ClsR.all _ [.ty "list", .ty "tuple"]) rfl))) (mw_or1 (mt_cmpR (mo_ne rfl (hu64 hr)) (me_lc1 (t := .one 2) (own := [(("state" : Str), 2)]) rfl rfl sc.nd (mi_seq rfl (xv 1)) (blkOk_by (by kernel_rfl)) (by decide) (fun _ _ _ _ _ => (pg_name sc.nd rfl (by first | exact .inl rfl | exact .inr rfl))) (fun _ _ _ _ _ => (mt_not (mt_val (me_callK (xfnK (ok_is_plain_R9 E) (bd_is_plain_R9_1_ E) (by exact hr) takes0).1 rfl (E.glo 17) (xfnK (ok_is_plain_R9 E) (bd_is_plain_R9_1_ E) (by exact hr) takes0).2 (ma_cons (xv 2) ma_nil) mk_nil)))) (fun _ _ _ _ _ => (xv 2))) (me_lst ma_nil) rfl)))) (ms_one (ms_raise (c := 19) (fld := s_states) rfl tk rfl (excB_ok (E.says.ex 21)) (exiB_ok (E.says.ex 22)).ini (exiB_ok (E.says.ex 22)).ty (ix_NoTableD_initD E) (hr.mono (by decide)) (bn_NoTableD_initD E) rfl (E.glo 23) (xv 1))) ms_nil) (ms_cons (ms_fld t_known (fldOk_cons rfl (E.says.ex 24) fldOk_nil) (xv 0) (me_dcN0 (t := .one 2) (own := [(("state" : Str), 2)]) rfl rfl (hu65 hr) rfl sc.nd (mi_seq rfl (xv 1)) (blkOk_by (by kernel_rfl)) (by decide) (fun _ _ _ _ _ => (pg_name sc.nd rfl (by first | exact .inl rfl | exact .inr rfl))) (fun _ _ _ _ _ => (xv 2)) (fun _ _ _ _ _ => me_bl)) rfl) (ms_cons (ms_fld t_rows (fldOk_cons rfl (E.says.ex 0) fldOk_nil) (xv 0) (me_cty (mc_listN rfl rfl rfl) rfl (E.free 11) boot_list (ma_cons (me_fld t_known (fldOk_cons rfl (E.says.ex 24) fldOk_nil) (xv 0) rfl) ma_nil)) rfl) ms_nil)))
theorem bn_Table_listed (E : Ev spec w K mg) : BOk K a_Table_listed ["self"] := FunD.bindsN (E.says.def_ 16 (d := gd_Table_listed)) fun _ _ _ _ _ _ us hl => match us, hl with | [_], _ => rfl
theorem sc_Table_listed : FnScope ["self"] ["self"] (defScope st_Table_listed) := ⟨rfl, rfl, rfl, by decide +kernel, rfl, by decide +kernel, by decide +kernel⟩
theorem ok_Table_listed (E : Ev spec w K mg) : DOk P w K mg base nm 1 a_Table_listed ["self"] f_Table_listed := by
  obtain ⟨hX, XI, Gn⟩ := E.hh
  have sc := sc_Table_listed
  refine ⟨fn_M (N := ["self"]) (E.says.def_ 16 (d := gd_Table_listed)) sc rfl (fun cdv A outer s H Ex hr tk hp => ?_), arity_runB, (E.says.def_ 16 (d := gd_Table_listed)).kp⟩
  exact (ms_one (ms_ret (me_cty (mc_list rfl rfl) rfl (E.free 11) boot_list (ma_cons (me_fld t_rows (fldOk_cons rfl (E.says.ex 0) fldOk_nil) (xv 0) rfl) ma_nil))))
theorem bn_TableD_eqD (E : Ev spec w K mg) : BOk K a_TableD_eqD ["self", "other"] := FunD.bindsN (E.says.def_ 17 (d := gd_TableD_eqD)) fun _ _ _ _ _ _ us hl => match us, hl with | [_, _], _ => rfl
theorem sc_TableD_eqD : FnScope ["self", "other"] ["self", "other"] (defScope st_TableD_eqD) := ⟨rfl, rfl, rfl, by decide +kernel, rfl, by decide +kernel, by decide +kernel⟩
theorem ok_TableD_eqD (E : Ev spec w K mg) : DOk P w K mg base nm 1 a_TableD_eqD ["self", "other"] f_TableD_eqD := by
  obtain ⟨hX, XI, Gn⟩ := E.hh
  have sc := sc_TableD_eqD
  refine ⟨fn_M (N := ["self", "other"]) (E.says.def_ 17 (d := gd_TableD_eqD)) sc rfl (fun cdv A outer s H Ex hr tk hp => ?_), arity_runB, (E.says.def_ 17 (d := gd_TableD_eqD)).kp⟩
  exact (ms_one (ms_ret (me_and (me_isi rfl (isOk_of (cs := [.own "Table"]) (E.says.ex 28)) rfl (E.free 14) (xv 1) (pe_cl rfl (E.glo 26)) (ClsR.ok _ (.own "Table"))) (me_one (me_cmp (mo_eqN rfl rfl (hu65 hr)) (me_fld t_known (fldOk_cons rfl (E.says.ex 24) fldOk_nil) (xv 0) rfl) (me_fld t_known (fldOk_cons rfl (E.says.ex 24) fldOk_nil) (xv 1) rfl) rfl)))))
theorem bn_TableD_containsD (E : Ev spec w K mg) : BOk K a_TableD_containsD ["self", "value"] := FunD.bindsN (E.says.def_ 18 (d := gd_TableD_containsD)) fun _ _ _ _ _ _ us hl => match us, hl with | [_, _], _ => rfl
theorem sc_TableD_containsD : FnScope ["self", "value"] ["self", "value"] (defScope st_TableD_containsD) := ⟨rfl, rfl, rfl, by decide +kernel, rfl, by decide +kernel, by decide +kernel⟩
theorem ok_TableD_containsD (E : Ev spec w K mg) : DOk P w K mg base nm 31 a_TableD_containsD ["self", "value"] f_TableD_containsD := by
  obtain ⟨hX, XI, Gn⟩ := E.hh
  have sc := sc_TableD_containsD
  refine ⟨fn_M (N := ["self", "value"]) (E.says.def_ 18 (d := gd_TableD_containsD)) sc rfl (fun cdv A outer s H Ex hr tk hp => ?_), arity_runB, (E.says.def_ 18 (d := gd_TableD_containsD)).kp⟩
  exact (ms_one (ms_ret (me_and (me_callK (xfnK (ok_is_plain_R9 E) (bd_is_plain_R9_1_ E) (by exact hr) tk).1 rfl (E.glo 17) (xfnK (ok_is_plain_R9 E) (bd_is_plain_R9_1_ E) (by exact hr) tk).2 (ma_cons (xv 1) ma_nil) mk_nil) (me_one (me_cmp (mo_inN rfl rfl (hu65 hr)) (xv 1) (me_fld t_known (fldOk_cons rfl (E.says.ex 24) fldOk_nil) (xv 0) rfl) rfl)))))
theorem bn_TableD_andD (E : Ev spec w K mg) : BOk K a_TableD_andD ["self", "other"] := FunD.bindsN (E.says.def_ 19 (d := gd_TableD_andD)) fun _ _ _ _ _ _ us hl => match us, hl with | [_, _], _ => rfl
theorem sc_TableD_andD : FnScope ["self", "other", "state"] ["self", "other"] (defScope st_TableD_andD) := ⟨rfl, rfl, rfl, by decide +kernel, rfl, by decide +kernel, by decide +kernel⟩
theorem ok_TableD_andD (E : Ev spec w K mg) : DOk P w K mg base nm 34 a_TableD_andD ["self", "other"] f_TableD_andD := by
  obtain ⟨hX, XI, Gn⟩ := E.hh
  have sc := sc_TableD_andD
  refine ⟨fn_M (N := ["self", "other", "state"]) (E.says.def_ 19 (d := gd_TableD_andD)) sc rfl (fun cdv A outer s H Ex hr tk hp => ?_), arity_runB, (E.says.def_ 19 (d := gd_TableD_andD)).kp⟩
  exact (ms_cons (ms_if (mt_not (mt_val (me_isi rfl (isOk_of (cs := [.own "Table"]) (E.says.ex 28)) rfl (E.free 14) (xv 1) (pe_cl rfl (E.glo 26)) (ClsR.ok _ (.own "Table"))))) (ms_one ms_err) ms_nil) (ms_cons (ms_ret (xmkc (xmk (c := 31) E (ok_TableD_initD E) (bn_TableD_initD E) (by exact hr) tk 25 rfl) (E.glo 26) (ma_cons (me_lc1 (t := .one 2) (own := [(("state" : Str), 2)]) rfl rfl sc.nd (mi_seq rfl (me_fld t_rows (fldOk_cons rfl (E.says.ex 0) fldOk_nil) (xv 0) rfl)) (blkOk_by (by kernel_rfl)) (by decide) (fun _ _ _ _ _ => (pg_name sc.nd rfl (by first | exact .inl rfl | exact .inr rfl))) (fun _ _ _ _ _ => (mt_cmpR (mo_inN rfl rfl (hu65 hr)) (xv 2) (me_fld t_known (fldOk_cons rfl (E.says.ex 24) fldOk_nil) (xv 1) rfl) rfl)) (fun _ _ _ _ _ => (xv 2))) ma_nil))) ms_nil))
theorem bn_TableD_subD (E : Ev spec w K mg) : BOk K a_TableD_subD ["self", "other"] := FunD.bindsN (E.says.def_ 20 (d := gd_TableD_subD)) fun _ _ _ _ _ _ us hl => match us, hl with | [_, _], _ => rfl
theorem sc_TableD_subD : FnScope ["self", "other", "state"] ["self", "other"] (defScope st_TableD_subD) := ⟨rfl, rfl, rfl, by decide +kernel, rfl, by decide +kernel, by decide +kernel⟩
theorem ok_TableD_subD (E : Ev spec w K mg) : DOk P w K mg base nm 34 a_TableD_subD ["self", "other"] f_TableD_subD := by
  obtain ⟨hX, XI, Gn⟩ := E.hh
  have sc := sc_TableD_subD
  refine ⟨fn_M (N := ["self", "other", "state"]) (E.says.def_ 20 (d := gd_TableD_subD)) sc rfl (fun cdv A outer s H Ex hr tk hp => ?_), arity_runB, (E.says.def_ 20 (d := gd_TableD_subD)).kp⟩
  exact (ms_cons (ms_if (mt_not (mt_val (me_isi rfl (isOk_of (cs := [.own "Table"]) (E.says.ex 28)) rfl (E.free 14) (xv 1) (pe_cl rfl (E.glo 26)) (ClsR.ok _ (.own "Table"))))) (ms_one ms_err) ms_nil) (ms_cons (ms_ret (xmkc (xmk (c := 31) E (ok_TableD_initD E) (bn_TableD_initD E) (by exact hr) tk 25 rfl) (E.glo 26) (ma_cons (me_lc1 (t := .one 2) (own := [(("state" : Str), 2)]) rfl rfl sc.nd (mi_seq rfl (me_fld t_rows (fldOk_cons rfl (E.says.ex 0) fldOk_nil) (xv 0) rfl)) (blkOk_by (by kernel_rfl)) (by decide) (fun _ _ _ _ _ => (pg_name sc.nd rfl (by first | exact .inl rfl | exact .inr rfl))) (fun _ _ _ _ _ => (mt_cmpR (mo_notInN rfl rfl (hu65 hr)) (xv 2) (me_fld t_known (fldOk_cons rfl (E.says.ex 24) fldOk_nil) (xv 1) rfl) rfl)) (fun _ _ _ _ _ => (xv 2))) ma_nil))) ms_nil))
theorem bn_TableD_orD (E : Ev spec w K mg) : BOk K a_TableD_orD ["self", "other"] := FunD.bindsN (E.says.def_ 21 (d := gd_TableD_orD)) fun _ _ _ _ _ _ us hl => match us, hl with | [_, _], _ => rfl
theorem sc_TableD_orD : FnScope ["self", "other"] ["self", "other"] (defScope st_TableD_orD) := ⟨rfl, rfl, rfl, by decide +kernel, rfl, by decide +kernel, by decide +kernel⟩
theorem ok_TableD_orD (E : Ev spec w K mg) : DOk P w K mg base nm 34 a_TableD_orD ["self", "other"] f_TableD_orD := by
  obtain ⟨hX, XI, Gn⟩ := E.hh
  have sc := sc_TableD_orD
  refine ⟨fn_M (N := ["self", "other"]) (E.says.def_ 21 (d := gd_TableD_orD)) sc rfl (fun cdv A outer s H Ex hr tk hp => ?_), arity_runB, (E.says.def_ 21 (d := gd_TableD_orD)).kp⟩
  exact (ms_cons (ms_if (mt_not (mt_val (me_isi rfl (isOk_of (cs := [.own "Table"]) (E.says.ex 28)) rfl (E.free 14) (xv 1) (pe_cl rfl (E.glo 26)) (ClsR.ok _ (.own "Table"))))) (ms_one ms_err) ms_nil) (ms_cons (ms_ret (xmkc (xmk (c := 31) E (ok_TableD_initD E) (bn_TableD_initD E) (by exact hr) tk 25 rfl) (E.glo 26) (ma_cons (me_bin (mo_add rfl) (me_fld t_rows (fldOk_cons rfl (E.says.ex 0) fldOk_nil) (xv 0) rfl) (me_fld t_rows (fldOk_cons rfl (E.says.ex 0) fldOk_nil) (xv 1) rfl)) ma_nil))) ms_nil))
theorem bn__law_mixed (E : Ev spec w K mg) : BOk K a__law_mixed ["_law_one_here", "_law_other", "_law_mine", "_law_rest"] := FunD.bindsN (E.says.def_ 22 (d := gd__law_mixed)) fun _ _ _ _ _ _ us hl => match us, hl with | [_, _, _, _], _ => rfl
theorem sc__law_mixed : FnScope ["_law_one_here", "_law_other", "_law_mine", "_law_rest", "_law_both", "_law_state_here", "_law_alone"] ["_law_one_here", "_law_other", "_law_mine", "_law_rest"] (defScope st__law_mixed) := ⟨rfl, rfl, rfl, by decide +kernel, rfl, by decide +kernel, by decide +kernel⟩
local macro_rules | `(tactic| push_cast [$E:term, $hr:term, $tk:term, 1]) => `(tactic| exact methOk_cons rfl (($E).says.ex 27) (xcm (ok_Table_listed ($E)) (bn_Table_listed ($E)) ($hr) ($tk)) methOk_nil)
theorem ok__law_mixed (E : Ev spec w K mg) : DOk P w K mg base nm 37 a__law_mixed ["_law_one_here", "_law_other", "_law_mine", "_law_rest"] f__law_mixed := by
  obtain ⟨hX, XI, Gn⟩ := E.hh
  have sc := sc__law_mixed
  refine ⟨fn_M (N := ["_law_one_here", "_law_other", "_law_mine", "_law_rest", "_law_both", "_law_state_here", "_law_alone"]) (E.says.def_ 22 (d := gd__law_mixed)) sc rfl (fun cdv A outer s H Ex hr tk hp => ?_), arity_runB, (E.says.def_ 22 (d := gd__law_mixed)).kp⟩
  exact (ms_cons (ms_setLc1 (t := .one 5) (own := [(("_law_state_here" : Str), 5)]) (i := 4) rfl rfl sc.nd rfl rfl (sw_true (by rfl) (by rfl) (by rfl) (by rfl)) (mi_seq rfl (xv 2)) (blkOk_by (by kernel_rfl)) (by decide) (fun _ _ _ _ _ => (pg_name sc.nd rfl (by first | exact .inl rfl | exact .inr rfl))) (fun _ _ _ _ _ => (mt_cmpR (mo_in rfl (hu65 hr)) (xv 5) (xv 3) rfl)) (fun _ _ _ _ _ => (xv 5))) (ms_cons (ms_setLc1 (t := .one 5) (own := [(("_law_state_here" : Str), 5)]) (i := 6) rfl rfl sc.nd rfl rfl (sw_true (by rfl) (by rfl) (by rfl) (by rfl)) (mi_seq rfl (xv 2)) (blkOk_by (by kernel_rfl)) (by decide) (fun _ _ _ _ _ => (pg_name sc.nd rfl (by first | exact .inl rfl | exact .inr rfl))) (fun _ _ _ _ _ => (mt_cmpR (mo_notIn rfl (hu65 hr)) (xv 5) (xv 3) rfl)) (fun _ _ _ _ _ => (xv 5))) (ms_cons (ms_if (PW.pt (mw_or (mt_neU rfl (hu1 hr) (spOk_cons rfl (E.says.ex 29) (xca1 (ok_TableD_eqD E) (bn_TableD_eqD E) hr tk) spOk_nil) (neOk_cons rfl (E.says.ex 31) neOk_nil) (nfOk_cons rfl (E.says.ex 30) nfOk_nil) (mo_ne rfl (hu64 hr)) (me_meth0 t_listed (by push_cast [E, hr, tk, 1]) (me_binU (nm := "and") rfl rfl (biOk1 (n := "and") (f := "__and__") (r := "__rand__") (by kernel_rfl) (by kernel_rfl) rfl (E.says.ex 33) (xca0 (ok_TableD_andD E) (bn_TableD_andD E) hr tk)) mo_no (xv 0) (xv 1))) (xv 4) rfl) (mw_or1 (mt_neU rfl (hu1 hr) (spOk_cons rfl (E.says.ex 29) (xca1 (ok_TableD_eqD E) (bn_TableD_eqD E) hr tk) spOk_nil) (neOk_cons rfl (E.says.ex 31) neOk_nil) (nfOk_cons rfl (E.says.ex 30) nfOk_nil) (mo_ne rfl (hu64 hr)) (me_meth0 t_listed (by push_cast [E, hr, tk, 1]) (me_binU (nm := "sub") rfl rfl (biOk1 (n := "sub") (f := "__sub__") (r := "__rsub__") (by kernel_rfl) (by kernel_rfl) rfl (E.says.ex 34) (xca0 (ok_TableD_subD E) (bn_TableD_subD E) hr tk)) mo_sub (xv 0) (xv 1))) (xv 6) rfl)))) (ms_one (ms_ret me_bl)) ms_nil) (ms_cons (ms_if (PW.pt (mw_or (mt_neU rfl (hu1 hr) (spOk_cons rfl (E.says.ex 29) (xca1 (ok_TableD_eqD E) (bn_TableD_eqD E) hr tk) spOk_nil) (neOk_cons rfl (E.says.ex 31) neOk_nil) (nfOk_cons rfl (E.says.ex 30) nfOk_nil) (mo_ne rfl (hu64 hr)) (me_meth0 t_listed (by push_cast [E, hr, tk, 1]) (me_binU (nm := "or") rfl rfl (biOk1 (n := "or") (f := "__or__") (r := "__ror__") (by kernel_rfl) (by kernel_rfl) rfl (E.says.ex 35) (xca0 (ok_TableD_orD E) (bn_TableD_orD E) hr tk)) mo_no (xv 0) (xv 1))) (xcall (ok__law_unlike E) (bn__law_unlike E) hr tk (E.glo 10) (ma_cons (me_bin (mo_add rfl) (xv 2) (xv 3)) ma_nil)) rfl) (mw_or1 (mt_cmpR (mo_ne rfl (hu64 hr)) (me_lenU (mc_len rfl) (by push_cast [E, hr, tk, 0]) rfl (E.free 1) boot_len (me_binU (nm := "or") rfl rfl (biOk1 (n := "or") (f := "__or__") (r := "__ror__") (by kernel_rfl) (by kernel_rfl) rfl (E.says.ex 35) (xca0 (ok_TableD_orD E) (bn_TableD_orD E) hr tk)) mo_no (xv 0) (xv 1))) (me_bin mo_sub (me_bin (mo_add rfl) (me_lenU (mc_len rfl) (by push_cast [E, hr, tk, 0]) rfl (E.free 1) boot_len (xv 2)) (me_lenU (mc_len rfl) (by push_cast [E, hr, tk, 0]) rfl (E.free 1) boot_len (xv 3))) (me_lenU (mc_len rfl) (by push_cast [E, hr, tk, 0]) rfl (E.free 1) boot_len (xv 4))) rfl)))) (ms_one (ms_ret me_bl)) ms_nil) (ms_cons (ms_ret (me_cmp (mo_eqX rfl (hu64 hr)) (me_cmpU (nm := "__eq__") (fun _ _ => rfl) rfl rfl (Nat.lt_of_succ_lt (hu1 hr)) (spOk_cons rfl (E.says.ex 29) (xca0 (ok_TableD_eqD E) (bn_TableD_eqD E) hr tk) spOk_nil) (nfOk_cons rfl (E.says.ex 30) nfOk_nil) (mo_eqX rfl (hu64 hr)) (xv 0) (xv 1) rfl) (me_and (me_cmp (mo_eqX rfl (hu64 hr)) (me_lenU (mc_len rfl) (by push_cast [E, hr, tk, 0]) rfl (E.free 1) boot_len (xv 4)) (me_lenU (mc_len rfl) (by push_cast [E, hr, tk, 0]) rfl (E.free 1) boot_len (xv 2)) rfl) (me_one (me_cmp (mo_eqX rfl (hu64 hr)) (me_lenU (mc_len rfl) (by push_cast [E, hr, tk, 0]) rfl (E.free 1) boot_len (xv 4)) (me_lenU (mc_len rfl) (by push_cast [E, hr, tk, 0]) rfl (E.free 1) boot_len (xv 3)) rfl))) rfl)) ms_nil)))))
theorem bn__law_right (E : Ev spec w K mg) : BOk K a__law_right ["_law_pool_here"] := FunD.bindsN (E.says.def_ 23 (d := gd__law_right)) fun _ _ _ _ _ _ us hl => match us, hl with | [_], _ => rfl
theorem sc__law_right : FnScope ["_law_pool_here", "_law_first", "_law_at", "_law_second", "_law_mine", "_law_rest", "_law_one_here", "_law_other", "_law_state_here", "_law_told"] ["_law_pool_here"] (defScope st__law_right) := ⟨rfl, rfl, rfl, by decide +kernel, rfl, by decide +kernel, by decide +kernel⟩
theorem ok__law_right (E : Ev spec w K mg) : DOk P w K mg base nm 40 a__law_right ["_law_pool_here"] f__law_right := by
  obtain ⟨hX, XI, Gn⟩ := E.hh
  have sc := sc__law_right
  refine ⟨fn_M (N := ["_law_pool_here", "_law_first", "_law_at", "_law_second", "_law_mine", "_law_rest", "_law_one_here", "_law_other", "_law_state_here", "_law_told"]) (E.says.def_ 23 (d := gd__law_right)) sc rfl (fun cdv A outer s H Ex hr tk hp => ?_), arity_runB, (E.says.def_ 23 (d := gd__law_right)).kp⟩
  exact (ms_cons (ms_setLc0 (t := .one 2) (own := [(("_law_at" : Str), 2)]) (i := 1) rfl rfl sc.nd rfl rfl (sw_true (by rfl) (by rfl) (by rfl) (by rfl)) (mi_rng1 rfl (E.free 5) (ma_cons (xcall (ok__law_take E) (bn__law_take E) hr tk (E.glo 7) (ma_cons (xv 0) (ma_cons me_int ma_nil))) ma_nil) rfl aCons1) (blkOk_by (by kernel_rfl)) (by decide) (fun _ _ _ _ _ => (pg_name sc.nd rfl (by first | exact .inl rfl | exact .inr rfl))) (fun _ _ _ _ _ => (xcall (ok__law_state E) (bn__law_state E) hr takes0 (E.glo 9) (ma_cons (xv 0) ma_nil)))) (ms_cons (ms_setLc0 (t := .one 2) (own := [(("_law_at" : Str), 2)]) (i := 3) rfl rfl sc.nd rfl rfl (sw_true (by rfl) (by rfl) (by rfl) (by rfl)) (mi_rng1 rfl (E.free 5) (ma_cons (xcall (ok__law_take E) (bn__law_take E) hr tk (E.glo 7) (ma_cons (xv 0) (ma_cons me_int ma_nil))) ma_nil) rfl aCons1) (blkOk_by (by kernel_rfl)) (by decide) (fun _ _ _ _ _ => (pg_name sc.nd rfl (by first | exact .inl rfl | exact .inr rfl))) (fun _ _ _ _ _ => (xcall (ok__law_state E) (bn__law_state E) hr takes0 (E.glo 9) (ma_cons (xv 0) ma_nil)))) (ms_cons (ms_par (i := 4) (j := 5) rfl sc.nd rfl rfl (by decide) rfl rfl (ma_cons (xcall (ok__law_unlike E) (bn__law_unlike E) hr tk (E.glo 10) (ma_cons (xv 1) ma_nil)) (ma_cons (xcall (ok__law_unlike E) (bn__law_unlike E) hr tk (E.glo 10) (ma_cons (xv 3) ma_nil)) ma_nil)) rfl) (ms_cons (ms_par (i := 6) (j := 7) rfl sc.nd rfl rfl (by decide) rfl rfl (ma_cons (xmkc (xmk (c := 31) E (ok_TableD_initD E) (bn_TableD_initD E) (by exact hr) tk 25 rfl) (E.glo 26) (ma_cons (xv 1) ma_nil)) (ma_cons (xmkc (xmk (c := 31) E (ok_TableD_initD E) (bn_TableD_initD E) (by exact hr) tk 25 rfl) (E.glo 26) (ma_cons (me_cty (mc_tuple rfl) rfl (E.free 12) boot_tuple (ma_cons (xv 3) ma_nil)) ma_nil)) ma_nil)) rfl) (ms_cons (ms_expr (me_bm (k := .lst) rfl PySem.F.plainAttrs_list PySem.F.slot_list_append PySem.F.type_list_append mm_append (xv 1) (ma_cons (me_tup (ma_cons (me_str t_more) ma_nil)) ma_nil))) (ms_cons (ms_if (PW.pt (mw_or (mt_neU rfl (hu1 hr) (spOk_cons rfl (E.says.ex 29) (xca1 (ok_TableD_eqD E) (bn_TableD_eqD E) hr tk) spOk_nil) (neOk_cons rfl (E.says.ex 31) neOk_nil) (nfOk_cons rfl (E.says.ex 30) nfOk_nil) (mo_ne rfl (hu64 hr)) (me_meth0 t_listed (by push_cast [E, hr, tk, 1]) (xv 6)) (xv 4) rfl) (mw_or (mt_neU rfl (hu1 hr) (spOk_cons rfl (E.says.ex 29) (xca1 (ok_TableD_eqD E) (bn_TableD_eqD E) hr tk) spOk_nil) (neOk_cons rfl (E.says.ex 31) neOk_nil) (nfOk_cons rfl (E.says.ex 30) nfOk_nil) (mo_ne rfl (hu64 hr)) (me_meth0 t_listed (by push_cast [E, hr, tk, 1]) (xv 7)) (xv 5) rfl) (mw_or1 (mt_cmpR (mo_ne rfl (hu64 hr)) (me_lenU (mc_len rfl) (by push_cast [E, hr, tk, 0]) rfl (E.free 1) boot_len (xv 6)) (me_lenU (mc_len rfl) (by push_cast [E, hr, tk, 0]) rfl (E.free 1) boot_len (xv 4)) rfl))))) (ms_one (ms_ret me_bl)) ms_nil) (ms_cons (ms_for hp rfl (mi_seq rfl (me_bin (mo_add rfl) (me_bin (mo_add rfl) (xv 4) (xv 5)) (me_lst (ma_cons (me_tup (ma_cons (me_str t_more) ma_nil)) ma_nil)))) (mg_name sc.nd rfl (by first | exact .inl rfl | exact .inr rfl)) (onlyNx_name _) (ms_one (ms_if (PW.pt (mw_or (mt_cmpR (mo_ne rfl (hu64 hr)) (me_ctU (.inl ⟨rfl, rfl⟩) (spOk_cons rfl (E.says.ex 32) (xca0 (ok_TableD_containsD E) (bn_TableD_containsD E) hr tk) spOk_nil) (mo_in rfl (hu65 hr)) (xv 8) (xv 6) rfl) (me_cmp (mo_in rfl (hu65 hr)) (xv 8) (xv 4) rfl) rfl) (mw_or1 (mt_ctU (.inl ⟨rfl, rfl⟩) (spOk_cons rfl (E.says.ex 32) (xca0 (ok_TableD_containsD E) (bn_TableD_containsD E) hr tk) spOk_nil) (mo_in rfl (hu65 hr)) (me_cty (mc_list rfl rfl) rfl (E.free 11) boot_list (ma_cons (xv 8) ma_nil)) (xv 6) rfl)))) (ms_one (ms_ret me_bl)) ms_nil))) (ms_cons (ms_if (PW.pt (mw_or (mt_not (mt_val (xcall (ok__law_mixed E) (bn__law_mixed E) hr tk (E.glo 36) (ma_cons (xv 6) (ma_cons (xv 7) (ma_cons (xv 4) (ma_cons (xv 5) ma_nil))))))) (mw_or1 (mt_not (mt_val (xcall (ok__law_mixed E) (bn__law_mixed E) hr tk (E.glo 36) (ma_cons (xv 7) (ma_cons (xv 6) (ma_cons (xv 5) (ma_cons (xv 4) ma_nil)))))))))) (ms_one (ms_ret me_bl)) ms_nil) (ms_cons (ms_set (i := 9) sc.nd rfl (by first | exact .inl rfl | exact .inr rfl) (me_meth0 t_listed (by push_cast [E, hr, tk, 1]) (xv 6))) (ms_cons (ms_expr (me_bm (k := .lst) rfl PySem.F.plainAttrs_list PySem.F.slot_list_append PySem.F.type_list_append mm_append (xv 9) (ma_cons (me_tup (ma_cons (me_str t_more) ma_nil)) ma_nil))) (ms_cons (ms_if (PW.pt (mw_or (mt_neU rfl (hu1 hr) (spOk_cons rfl (E.says.ex 29) (xca1 (ok_TableD_eqD E) (bn_TableD_eqD E) hr tk) spOk_nil) (neOk_cons rfl (E.says.ex 31) neOk_nil) (nfOk_cons rfl (E.says.ex 30) nfOk_nil) (mo_ne rfl (hu64 hr)) (me_meth0 t_listed (by push_cast [E, hr, tk, 1]) (xv 6)) (xv 4) rfl) (mw_or (mt_neU rfl (hu1 hr) (spOk_cons rfl (E.says.ex 29) (xca1 (ok_TableD_eqD E) (bn_TableD_eqD E) hr tk) spOk_nil) (neOk_cons rfl (E.says.ex 31) neOk_nil) (nfOk_cons rfl (E.says.ex 30) nfOk_nil) (mo_ne rfl (hu64 hr)) (xv 6) (xmkc (xmk (c := 31) E (ok_TableD_initD E) (bn_TableD_initD E) (by exact hr) tk 25 rfl) (E.glo 26) (ma_cons (me_rev rfl (xv 4)) ma_nil)) rfl) (mw_or1 (mt_cmpU (nm := "__eq__") (fun _ _ => rfl) rfl rfl (Nat.lt_of_succ_lt (hu1 hr)) (spOk_cons rfl (E.says.ex 29) (xca0 (ok_TableD_eqD E) (bn_TableD_eqD E) hr tk) spOk_nil) (nfOk_cons rfl (E.says.ex 30) nfOk_nil) (mo_eqX rfl (hu64 hr)) (xv 6) (xv 4) rfl))))) (ms_one (ms_ret me_bl)) ms_nil) (ms_cons (ms_ret (me_and (xcall (ok__law_mixed E) (bn__law_mixed E) hr tk (E.glo 36) (ma_cons (xv 6) (ma_cons (xv 6) (ma_cons (xv 4) (ma_cons (xv 4) ma_nil))))) (me_one (me_cmpU (nm := "__eq__") (fun _ _ => rfl) rfl rfl (Nat.lt_of_succ_lt (hu1 hr)) (spOk_cons rfl (E.says.ex 29) (xca0 (ok_TableD_eqD E) (bn_TableD_eqD E) hr tk) spOk_nil) (nfOk_cons rfl (E.says.ex 30) nfOk_nil) (mo_eqX rfl (hu64 hr)) (me_meth0 t_listed (by push_cast [E, hr, tk, 1]) (xv 7)) (xv 5) rfl)))) ms_nil))))))))))))
theorem bn__law_pool (E : Ev spec w K mg) : BOk K a__law_pool ["_law_script", "_law_k"] := FunD.bindsN (E.says.def_ 24 (d := gd__law_pool)) fun _ _ _ _ _ _ us hl => match us, hl with | [_, _], _ => rfl
theorem sc__law_pool : FnScope ["_law_script", "_law_k", "_law_cell", "_law_size", "_law_seed"] ["_law_script", "_law_k"] (defScope st__law_pool) := ⟨rfl, rfl, rfl, by decide +kernel, rfl, by decide +kernel, by decide +kernel⟩
theorem ok__law_pool (E : Ev spec w K mg) : DOk P w K mg base nm 4 a__law_pool ["_law_script", "_law_k"] f__law_pool := by
  obtain ⟨hX, XI, Gn⟩ := E.hh
  have sc := sc__law_pool
  refine ⟨fn_M (N := ["_law_script", "_law_k", "_law_cell", "_law_size", "_law_seed"]) (E.says.def_ 24 (d := gd__law_pool)) sc rfl (fun cdv A outer s H Ex hr tk hp => ?_), arity_runB, (E.says.def_ 24 (d := gd__law_pool)).kp⟩
  exact (ms_cons (ms_set (i := 2) sc.nd rfl (by first | exact .inl rfl | exact .inr rfl) me_int) (ms_cons (ms_if (mt_cmpR mo_lt (xv 1) (me_lenU (mc_len rfl) (by push_cast [E, hr, tk, 0]) rfl (E.free 1) boot_len (xv 0)) rfl) (ms_one (ms_set (i := 2) sc.nd rfl (by first | exact .inl rfl | exact .inr rfl) (me_ix rfl (hu1 hr) (xv 0) (xv 1) (by intro _ _; rfl)))) ms_nil) (ms_cons (ms_set (i := 3) sc.nd rfl (by first | exact .inl rfl | exact .inr rfl) (me_cb (mc_max rfl) rfl (E.free 4) boot_max (ma_cons (xv 2) (ma_cons (me_bin mo_sub (me_neg me_int) (xv 2)) ma_nil)))) (ms_cons (ms_set (i := 4) sc.nd rfl (by first | exact .inl rfl | exact .inr rfl) (me_cty mc_int rfl (E.free 6) boot_int (ma_cons (me_bin (mo_add rfl) (me_bin (mo_add rfl) (me_bin mo_mod (me_cty mc_int rfl (E.free 6) boot_int (ma_cons (xv 3) ma_nil)) me_int) (me_bin (mo_mul rfl) me_int (xv 1))) me_int) ma_nil))) (ms_cons (ms_ret (me_lst (ma_cons (me_bin (mo_mul rfl) (xv 3) (me_cty mc_int rfl (E.free 6) boot_int (ma_cons (me_cmp mo_ge (xv 3) (me_bin mo_pow me_int me_int) rfl) ma_nil))) (ma_cons (me_bin mo_mod (me_bin (mo_mul rfl) (xv 4) me_int) me_int) ma_nil)))) ms_nil)))))
theorem sc_law : FnScope ["_law_script", "_law_k"] ["_law_script"] (defScope st_law) := ⟨rfl, rfl, rfl, by decide +kernel, rfl, by decide +kernel, by decide +kernel⟩
theorem ok_law (E : Ev spec w K mg) : DOk P w K mg base nm 43 a_law ["_law_script"] f_law := by
  obtain ⟨hX, XI, Gn⟩ := E.hh
  have sc := sc_law
  refine ⟨fn_M (N := ["_law_script", "_law_k"]) (E.says.def_ 25 (d := gd_law)) sc rfl (fun cdv A outer s H Ex hr tk hp => ?_), arity_runB, (E.says.def_ 25 (d := gd_law)).kp⟩
  exact (ms_cons (ms_for hp rfl (mi_rng1 rfl (E.free 5) (ma_cons (me_cb (mc_max rfl) rfl (E.free 4) boot_max (ma_cons me_int (ma_cons (me_cb (mc_min rfl) rfl (E.free 3) boot_min (ma_cons me_int (ma_cons (me_lenU (mc_len rfl) (by push_cast [E, hr, tk, 0]) rfl (E.free 1) boot_len (xv 0)) ma_nil))) ma_nil))) ma_nil) rfl aCons1) (mg_name sc.nd rfl (by first | exact .inl rfl | exact .inr rfl)) (onlyNx_name _) (ms_one (ms_if (mt_not (mt_val (xcall (ok__law_right E) (bn__law_right E) hr tk (E.glo 38) (ma_cons (xcall (ok__law_pool E) (bn__law_pool E) hr tk (E.glo 37) (ma_cons (xv 0) (ma_cons (xv 1) ma_nil))) ma_nil)))) (ms_one (ms_ret me_bl)) ms_nil))) (ms_cons (ms_ret me_bl) ms_nil))
end
end Lw
end
section
set_option synthInstance.maxHeartbeats 0
set_option synthInstance.maxSize 1000000
namespace Lw
open PySem L2 ML
instance : LAr ar_bd_is_plain_R0_2_ := ⟨fun r vs vs' zs zs' a b => arr42 a (CVs.self r) b (CVs.self r) _⟩
instance : LAr ar_bd_is_plain_R1_2_ := ⟨fun r vs vs' zs zs' a b => arr42 a (CVs.self r) b (CVs.self r) _⟩
instance : LAr ar_bd_is_plain_R2_2_ := ⟨fun r vs vs' zs zs' a b => arr42 a (CVs.self r) b (CVs.self r) _⟩
instance : LAr ar_bd_is_plain_R3_2_ := ⟨fun r vs vs' zs zs' a b => arr42 a (CVs.self r) b (CVs.self r) _⟩
instance : LAr ar_bd_is_plain_R4_2_ := ⟨fun r vs vs' zs zs' a b => arr42 a (CVs.self r) b (CVs.self r) _⟩
instance : LAr ar_bd_is_plain_R5_2_ := ⟨fun r vs vs' zs zs' a b => arr42 a (CVs.self r) b (CVs.self r) _⟩
instance : LAr ar_bd_is_plain_R6_2_ := ⟨fun r vs vs' zs zs' a b => arr42 a (CVs.self r) b (CVs.self r) _⟩
instance : LAr ar_bd_is_plain_R7_2_ := ⟨fun r vs vs' zs zs' a b => arr42 a (CVs.self r) b (CVs.self r) _⟩
instance : LAr ar_bd_is_plain_R8_2_ := ⟨fun r vs vs' zs zs' a b => arr42 a (CVs.self r) b (CVs.self r) _⟩
instance : LAr ar_bd_is_plain_R9_1_ := ⟨fun r vs vs' zs zs' a b => arr42 a (CVs.self r) b (CVs.self r) _⟩
instance : LF f_TableD_lenD := lf_runB (by unfold m_TableD_lenD; infer_instance)
instance : LF f__law_take := lf_runB (by unfold m__law_take; infer_instance)
instance : LF f__law_one := lf_runB (by unfold m__law_one; infer_instance)
instance : LF f__law_state := lf_runB (by unfold m__law_state; infer_instance)
instance : LF f__law_unlike := lf_runB (by unfold m__law_unlike; infer_instance)
instance : LF f_is_plain_R0 := lf_runB (by unfold m_is_plain_R0; infer_instance)
instance : LF f_is_plain_R1 := lf_runB (by unfold m_is_plain_R1; infer_instance)
instance : LF f_is_plain_R2 := lf_runB (by unfold m_is_plain_R2; infer_instance)
instance : LF f_is_plain_R3 := lf_runB (by unfold m_is_plain_R3; infer_instance)
instance : LF f_is_plain_R4 := lf_runB (by unfold m_is_plain_R4; infer_instance)
instance : LF f_is_plain_R5 := lf_runB (by unfold m_is_plain_R5; infer_instance)
instance : LF f_is_plain_R6 := lf_runB (by unfold m_is_plain_R6; infer_instance)
instance : LF f_is_plain_R7 := lf_runB (by unfold m_is_plain_R7; infer_instance)
instance : LF f_is_plain_R8 := lf_runB (by unfold m_is_plain_R8; infer_instance)
instance : LF f_is_plain_R9 := lf_runB (by unfold m_is_plain_R9; infer_instance)
instance : LF f_TableD_initD := lf_runB (by unfold m_TableD_initD; infer_instance)
instance : LF f_Table_listed := lf_runB (by unfold m_Table_listed; infer_instance)
instance : LF f_TableD_eqD := lf_runB (by unfold m_TableD_eqD; infer_instance)
instance : LF f_TableD_containsD := lf_runB (by unfold m_TableD_containsD; infer_instance)
instance : LF f_TableD_andD := lf_runB (by unfold m_TableD_andD; infer_instance)
instance : LF f_TableD_subD := lf_runB (by unfold m_TableD_subD; infer_instance)
instance : LF f_TableD_orD := lf_runB (by unfold m_TableD_orD; infer_instance)
instance : LF f__law_mixed := lf_runB (by unfold m__law_mixed; infer_instance)
instance : LF f__law_right := lf_runB (by unfold m__law_right; infer_instance)
instance : LF f__law_pool := lf_runB (by unfold m__law_pool; infer_instance)
instance : LF f_law := lf_runB (by unfold m_law; infer_instance)
end Lw
end
section
namespace ML
open PySem PySem.Spec PyProof.Rows L2 He
theorem ints_rv {G : Gx} {ρ : List Addr} {H : Hp} : ∀ ns : List Int, RVs G ρ H (ns.map VI.int) (ns.map V.int)
  | [] => .nil
  | n :: ns => .cons (.int n) (ints_rv ns)
theorem scr_ag {G : Gx} {K : PySem.W.Frag} {H : Hp} {a : Addr} {ns : List Int} (nl : noLstB K = true) (hO : Only H) (hS : SqL K H a (ns.map V.int)) : Ag G [a] [.scr (ns.map VI.int)] H := by
  refine ⟨by simp, rfl, fun n o e => ?_⟩
  cases n with
  | succ n => simp at e
  | zero =>
    cases e
    refine ⟨a, rfl, ?_⟩
    rcases hS with (h | ⟨ob, h⟩) | ⟨o, its, n, h, hc, _⟩
    · rcases hO a with z | ⟨o, xs, z⟩
      · rw [z] at h; cases h
      · rw [z] at h; cases h
    · exact ⟨ob, _, h, ints_rv ns⟩
    · exact absurd hc (noLst_ok nl h)
theorem law_sp {G : Gx} {K : PySem.W.Frag} {H : Hp} {a : Addr} {ns : List Int} {g : MF} {h' : Hi} (nl : noLstB K = true) (hO : Only H) (hS : SqL K H a (ns.map V.int)) (e : g [.ref 0] [.scr (ns.map VI.int)] = .ok (.bl true) h') :
    spM G 1 g [.ref a] H (fun v _ => v = .bl true) fun _ _ _ => False := by
  refine ⟨[a], [.scr (ns.map VI.int)], [.ref 0], rfl, scr_ag nl hO hS, .cons (.ref rfl) .nil, ?_⟩
  rw [e]
  intro ρ' H' x _ _ r
  cases r
  rfl
theorem fn_cx0 {P : Program} {w : World} {K : PySem.W.Frag} {mg : Str → Option Value} {base : Heap} {k : Nat} {f : Addr} {fd : FuncData} {ps : List Str} {sp : Sp} (F : FnOk P w K mg base (L2.CX P w) k f fd ps sp) :
    FnOk P w K mg base CX0 k f fd ps fun vs H Q _ => sp vs H Q fun _ _ _ => False :=
  ⟨fun vs H Q E h => F.len vs H Q _ h, fun A outer s H args us vs Q E hr e0 hb hv h => codeAny_mono (F.run A outer s H args us vs Q (fun _ _ _ => False) hr e0 hb hv h) fun r s' q => by
    cases r with
    | ok f => cases f <;> exact q
    | error e =>
      obtain ⟨_, _, _, _, _, _, _, _, _, _, _, _, z⟩ := q
      exact z.elim⟩
end ML
end
section
namespace ML
open PySem PySem.Spec PyProof.Rows L2 He
def obsLG (as : List Addr) (m : MSpec) (g : Addr → Option Obj) : AlM := obsM m (frG g as)
def hookL (as : List Addr) (m : MSpec) : PySem.W.Hook where
  α := AlM
  obs := fun s => obsLG as m s.heap.get?
  val := fun w => valM m w
  says := fun w h => ∃ K : PySem.W.Frag, K.In h ∧ SaysM m w K
  of := fun _ _ e => ⟨_, frG_in, e⟩
  keeps := fun _ _ _ ⟨K, hK, c⟩ k => ⟨K, PySem.W.Frag.In.keeps hK k, c⟩
theorem obsLG_eq {as : List Addr} {m : MSpec} {g : Addr → Option Obj} {s : Shared} (h : ∀ a, g a = s.heap.get? a) : obsLG as m g = (hookL as m).obs s := by
  have e : g = s.heap.get? := funext h
  rw [e] <;> rfl
end ML
end
section
noncomputable section
namespace MHP
open PySem PySem.W PySem.Calls PyProof.Rows HandSHeadRun
section
variable (st : SharedT → Thread → Option (SharedT × Thread)) (n0 : Nat) (ann : Option Value)
def segF (b : Nat) : Nat → SharedT → Thread → Option (Flow × SharedT × Code × Pos)
  | 0, _, _ => none
  | m + 1, s, t => match endAt b t with
    | some f => some (f, s, t.code, t.pos)
    | none => match stepOk n0 ann t with
      | false => none
      | true => match st s t with
        | some (s', t') => frS s' fun s' => segF b m s' t'
        | none => none
def topF : Nat → SharedT → Thread → Option (SharedT × Thread)
  | 0, s, t => some (s, t)
  | m + 1, s, t => match through t with
    | true => none
    | false => match stepOk n0 ann t with
      | false => none
      | true => match st s t with
        | some (s', t') => frS s' fun s' => topF m s' t'
        | none => none
end
section
variable {tb : String → Option Builtin} {p : Program} {w : World} {n0 : Nat} {ann : Option Value} {b : Nat}
theorem segF_ok : ∀ {m : Nat} {s s' : SharedT} {t : Thread} {f : Flow} {c : Code} {q : Pos}, segF (stepT (denote tb) p w) n0 ann b m s t = some (f, s', c, q) → segRun tb p w n0 ann b m s.abs t = some (f, s'.abs, c, q)
  | 0, _, _, _, _, _, _, h => by cases h
  | m + 1, s, s', t, f, c, q, h => by
    unfold segF at h
    unfold segRun
    cases he : endAt b t with
    | some x => rw [he] at h; cases h; rfl
    | none =>
      rw [he] at h
      cases hk : stepOk n0 ann t with
      | false => rw [hk] at h; cases h
      | true =>
        rw [hk] at h
        cases hs : stepT (denote tb) p w s t with
        | none => rw [hs] at h; cases h
        | some r =>
          obtain ⟨s2, t2⟩ := r
          rw [hs] at h
          dsimp only at h
          rw [frS_eq] at h
          rw [stepT_spec hs]
          exact segF_ok h
theorem topF_ok : ∀ {m : Nat} {s s' : SharedT} {t t' : Thread}, topF (stepT (denote tb) p w) n0 ann m s t = some (s', t') → topGo tb p w n0 ann m s.abs t = some (s'.abs, t')
  | 0, _, _, _, _, h => by cases h; rfl
  | m + 1, s, s', t, t', h => by
    unfold topF at h
    unfold topGo
    cases he : through t with
    | true => rw [he] at h; cases h
    | false =>
      rw [he] at h
      cases hk : stepOk n0 ann t with
      | false => rw [hk] at h; cases h
      | true =>
        rw [hk] at h
        cases hs : stepT (denote tb) p w s t with
        | none => rw [hs] at h; cases h
        | some r =>
          obtain ⟨s2, t2⟩ := r
          rw [hs] at h
          dsimp only at h
          rw [frS_eq] at h
          rw [stepT_spec hs]
          exact topF_ok h
end
def preF (st : SharedT → Thread → Option (SharedT × Thread)) (n0 : Nat) (ann : Option Value) (k : Nat) (p : Program) (w : World) (os : OsState) : Option (SharedT × Thread) := match putAll (boot_heap w.params).objs.toList .nil 0 with
  | some (t, n) => topF st n0 ann k (bootT w os (t, n)) (topStub p)
  | none => none
theorem preF_ok {tb : String → Option Builtin} {n0 k : Nat} {ann : Option Value} {p : Program} {w : World} {os : OsState} {s : SharedT} {t : Thread} (h : preF (stepT (denote tb) p w) n0 ann k p w os = some (s, t)) :
    topGo tb p w n0 ann k ⟨boot_heap w.params, #[], boot_drawn, boot_toks, os⟩ (topStub p) = some (s.abs, t) := by
  unfold preF at h
  cases e : putAll (boot_heap w.params).objs.toList .nil 0 with
  | none => rw [e] at h; cases h
  | some r =>
    obtain ⟨T, n⟩ := r
    rw [e] at h
    have q := topF_ok h
    have eh := putAll_heap e
    have eb : (bootT w os (T, n)).abs = ⟨boot_heap w.params, #[], boot_drawn, boot_toks, os⟩ := by
      show (⟨absHeap T n (boot_heap w.params).life, #[], boot_drawn, boot_toks, os⟩ : Shared) = _
      rw [eh]
    rw [eb] at q
    exact q
theorem fin_ok {p : Program} {w : World} {n0 m : Nat} {ann : Option Value} {s s' : SharedT} {t : Thread} (h : goF (stepQ (denQ tabQ) p w) n0 ann m s t = some s') : topRun treeTable p w n0 ann m s.abs t = some s'.abs :=
  goF_ok (by rw [stepQ_eq, denQ_eq, tabQ_eq]; exact h)
theorem seg_ok {p : Program} {w : World} {n0 m : Nat} {ann : Option Value} {s s' : SharedT} {t : Thread} {c : Code} {q : Pos} (h : segF (stepQ (denQ tabQ) p w) n0 ann 1 m s t = some (.next, s', c, q)) : segRun treeTable p w n0 ann 1 m s.abs t = some (.next, s'.abs, c, q) :=
  segF_ok (by rw [stepQ_eq, denQ_eq, tabQ_eq]; exact h)
theorem left_pc {p q : Program} {loose : List Str} {Xt : Shared → Bool} {α : Type} {Yf : Shared → α} {Ya : World → α} {N k0 M1 m0 : Nat} {ann : Option Value} {A Z : World → OsState → SharedT} {th : Thread}
    (e : opening p = plainProg p.main.scope.names) (hN : Nat.ble 600 N = true) (f : ∀ s, fenceModules? p s = some s) (le : Nat.ble (k0 + M1) N = true)
    (hm : ∀ w : World, (boot_heap w.params).objs.size = m0) (ha : ∀ w : World, bootAnn w = ann)
    (pre : ∀ (w : World) (os : OsState), preF (stepQ (denQ tabQ) p w) m0 ann k0 p w os = some (A w os, th))
    (rest : ∀ (w : World) (os : OsState), topRun treeTable p w m0 ann M1 (A w os).abs th = some (Z w os).abs)
    (l1 : ∀ (w : World) (os : OsState), looksF p (boot_heap w.params) (Z w os).abs = true)
    (l2 : ∀ (w : World) (os : OsState), seenQ q loose (importedModules p.main.body) Xt (Z w os).abs = openGood q loose)
    (l3 : ∀ (w : World) (os : OsState), Yf (Z w os).abs = Ya w) : LeftO p q loose Xt Yf Ya N true := fun w => by
  obtain ⟨⟨h, gs, d, k, os⟩, a, a'⟩ := Option.map_eq_some_iff.mp (boot_open e hN f w)
  obtain ⟨rfl, rfl, rfl, rfl⟩ : h = boot_heap w.params ∧ gs = Array.mk [] ∧ d = boot_drawn ∧ k = boot_toks := by simpa using a'
  have pr := pre w os
  rw [← stepQ_eq, ← denQ_eq, ← tabQ_eq] at pr
  have r0 := go_top (preF_ok pr) (rest w os)
  rw [← hm w, ← ha w] at r0
  have r := topRun_mono (N - (k0 + M1)) _ _ _ _ r0
  rw [show k0 + M1 + (N - (k0 + M1)) = N by have := Nat.le_of_ble_eq_true le; omega] at r
  have l1' : (staticsOk (importedModules p.main.body) (boot_heap w.params) (Z w os).abs.heap && namesBound p (Z w os).abs.heap && gensDone (Z w os).abs && laidKept (boot_heap w.params) (Z w os).abs.heap) = true := l1 w os
  have t : topFrom treeTable p w N ⟨boot_heap w.params, Array.mk [], boot_drawn, boot_toks, os⟩ = some (Z w os).abs := by
    unfold topFrom
    dsimp only
    rw [boot_ns]
    show (topRun treeTable p w (boot_heap w.params).objs.size (bootAnn w) N ⟨boot_heap w.params, #[], boot_drawn, boot_toks, os⟩ (topStub p)).bind _ = _
    rw [r]
    show (match staticsOk (importedModules p.main.body) (boot_heap w.params) (Z w os).abs.heap && namesBound p (Z w os).abs.heap && gensDone (Z w os).abs && laidKept (boot_heap w.params) (Z w os).abs.heap with | true => some (Z w os).abs | false => none) = _
    rw [l1']
  have l2' := l2 w os
  rw [← seenQ_eq] at l2'
  unfold openEnds
  rw [a]
  show (topFrom treeTable p w N _).map _ = _
  rw [t]
  exact congrArg some (Prod.ext l2' (l3 w os))
theorem head_left {r : OpenRow} {q : Program} {H : Hook} {N : Nat} {loose : List PySem.Str} {d : DefRec} {kwd : List (PySem.Str × PySem.Expr)}
    (left : LeftO r.prog q loose (fun s => xlAt q [] s && recOk r.toRowW.records s) H.obs H.val N true)
    (hdef : defOf q r.name = some (d, kwd)) (hp : r.prog.theDef r.name = some (d.params, d.body, d.scope)) (hk : kwWritten? d.params.kwonlyargs d.params.kw_defaults = some kwd)
    (hwr : (!r.writes || r.records.isEmpty) = true) (k1 : r.wellSaid = true) (ok : (chainsOk q && opensWell r.prog && (frees r.toRowW && r.within.isEmpty)) = true) (hb : r.prog.bare) (hw : r.toRowW.promised)
    (call : WalkO q loose (XL q []) H.says r.toRowW d kwd fun f vs => PySem.call f vs) : r.Holds :=
  holds_open (r := r) (q := q) (loose := loose) (XP := XL q []) (YP := H.says) (d := d) (kwd := kwd) left H.of H.keeps (fun s z => xl_of s (Bool.and_eq_true_iff.mp z).1) XL.keeps hdef hp hk (fun s z => recFacts_of (Bool.and_eq_true_iff.mp z).2) hwr k1 ok hb hw call
def tS (p : Program) (i : Nat) : Stmt := p.main.body.getD i (.Pass ⟨0, 0, 0, 0⟩)
def cS (p : Program) (i j : Nat) : Stmt := (match tS p i with
  | .ClassDef _ _ _ b _ _ _ _ _ _ _ => b
  | _ => []).getD j (.Pass ⟨0, 0, 0, 0⟩)
def sub (l : List Stmt) (a n : Nat) : List Stmt := (l.drop a).take n
end MHP
end
section
set_option maxHeartbeats 0
namespace Lw
open PySem PySem.Spec PyProof.Rows PySem.W L2 He MHP HandSHeadRun
abbrev Rr : OpenRow := OpenLaw.row PySem.Challenge.rw_epochrooms_k59_tables_counted
abbrev PP : Program := PySem.Challenge.pw_epochrooms_k59_tables_counted
abbrev zA (i : Nat) := defArgs (tS PP i)
abbrev zAC (i j : Nat) := defArgs (cS PP i j)
abbrev zB (i : Nat) := defBody (tS PP i)
abbrev zBC (i j : Nat) := defBody (cS PP i j)
abbrev zS (i : Nat) := defScope (tS PP i)
abbrev zSC (i j : Nat) := defScope (cS PP i j)
abbrev zo (x : String) : Str := .ofString x
abbrev zi (n : Int) : Value := .int n 0
abbrev N := @BT.node
abbrev Z := BT.nil
abbrev zhK (P : Params) (x : String) := PyData.keyHash P (.ofString x)
abbrev zsK (x : String) (n : Nat) : Value := .str (.ofString x) n
abbrev zt (l : List Value) : Obj := ⟨.type "tuple", none, .seq l.toArray 0, #[]⟩
abbrev zc (l : List Value) : Obj := ⟨.type "code", none, .fields l.toArray, #[]⟩
abbrev zf (f : FuncData) : Obj := ⟨.type "function", none, .func f, #[]⟩
abbrev zm (x y : String) (a b c d e f : Nat) (q : String) (n r : Nat) : Obj := zf ⟨.ofString x, .ofString y, zAC a b, .stmts (zBC c d), zSC e f, 3, [], .none, .none, .none, zsK q n, none, .ref r, .none, 0⟩
abbrev zn (l : List Value) : Obj := ⟨.none, none, .fields l.toArray, #[]⟩
def B11 : Obj := zt []
def B12 : Obj := zn []
def B13 : Obj := zc [(zsK "<module>" 182), (zsK "<module>" 183), (zsK "/claim/cut.py" 184), (zi 1), (zi 0), (zi 0), (zi 0), (zi 0), (.ref 11), (.bool false), (zi 181), (.ref 12), .none, .none, .none, .none, (zi 185), (zi 1), (zsK "/claim/cut.py" 186)]
def B14 : Obj := ⟨(.type "frame"), none, .plain, #[(some (.ref 13)), (some (.ref 3)), (some (.ref 3)), none, (some (zsK "__main__" 164)), none, (some (.ref 0))]⟩
def C3 (P : Params) : Obj := ⟨(.type "dict"), none, (.dict #[⟨(zhK P "__name__"), (zsK "__name__" 165), (zsK "law_epochrooms_k59_tables_counted" 334)⟩, ⟨(zhK P "__doc__"), (zsK "__doc__" 166), .none⟩, ⟨(zhK P "__package__"), (zsK "__package__" 167), .none⟩, ⟨(zhK P "__loader__"), (zsK "__loader__" 168), (.builtin "__main__.__loader__#opaque")⟩, ⟨(zhK P "__spec__"), (zsK "__spec__" 169), .none⟩, ⟨(zhK P "__annotations__"), (zsK "__annotations__" 170), (.ref 6)⟩, ⟨(zhK P "__builtins__"), (zsK "__builtins__" 171), (.ref 4)⟩, ⟨(zhK P "__file__"), (zsK "__file__" 173), (zsK "/claim/cut.py" 172)⟩, ⟨(zhK P "__cached__"), (zsK "__cached__" 174), .none⟩, ⟨(zhK P "RoomsError"), (zsK "RoomsError" 206), (.ref 24)⟩, ⟨(zhK P "NoTable"), (zsK "NoTable" 233), (.ref 46)⟩, ⟨(zhK P "DEEPEST"), (zsK "DEEPEST" 237), (.int 8 236)⟩, ⟨(zhK P "is_plain"), (zsK "is_plain" 247), (.ref 56)⟩, ⟨(zhK P "Table"), (zsK "Table" 333), (.ref 123)⟩, ⟨(zhK P "_law_pool"), (zsK "_law_pool" 346), (.ref 134)⟩, ⟨(zhK P "_law_take"), (zsK "_law_take" 355), (.ref 141)⟩, ⟨(zhK P "_law_one"), (zsK "_law_one" 363), (.ref 148)⟩, ⟨(zhK P "_law_state"), (zsK "_law_state" 372), (.ref 155)⟩, ⟨(zhK P "_law_unlike"), (zsK "_law_unlike" 381), (.ref 162)⟩, ⟨(zhK P "_law_mixed"), (zsK "_law_mixed" 387), (.ref 167)⟩, ⟨(zhK P "_law_right"), (zsK "_law_right" 393), (.ref 172)⟩, ⟨(zhK P "law"), (zsK "law" 401), (.ref 179)⟩] 22), #[]⟩
def C12 : Obj := zn [(zi 2), (zi 0), (.ref 20), (zi 4), (zi 0), (.ref 34), (zi 11), (zi 0), (.ref 55), (zi 21), (zi 0), (.ref 62), (zi 59), (zi 0), (.ref 133), (zi 66), (zi 0), (.ref 140), (zi 73), (zi 0), (.ref 147), (zi 75), (zi 0), (.ref 154), (zi 79), (zi 0), (.ref 161), (zi 85), (zi 0), (.ref 166), (zi 93), (zi 0), (.ref 171), (zi 111), (zi 0), (.ref 178)]
def C15 : Obj := zt [(.type "ValueError")]
def C16 : Obj := ⟨(.type "builtin_function_or_method"), none, (.fields #[(.builtin "type.__prepare__"), (.type "type")]), #[]⟩
def C17 (P : Params) : Obj := ⟨(.type "dict"), none, (.dict #[⟨(zhK P "__module__"), (zsK "__module__" 196), (zsK "epochrooms.errors" 187)⟩, ⟨(zhK P "__qualname__"), (zsK "__qualname__" 198), (zsK "RoomsError" 197)⟩, ⟨(zhK P "__firstlineno__"), (zsK "__firstlineno__" 200), (.int 2 199)⟩, ⟨(zhK P "__static_attributes__"), (zsK "__static_attributes__" 201), (.ref 22)⟩] 4), #[]⟩
def C18 : Obj := zt []
def C19 : Obj := zn []
def C20 : Obj := zc [(zsK "RoomsError" 191), (zsK "RoomsError" 192), (zsK "/claim/cut.py" 193), (zi 2), (zi 0), (zi 0), (zi 0), (zi 0), (.ref 18), (.bool false), (zi 181), (.ref 19), .none, .none, .none, .none, (zi 194), (zi 2), (zsK "/claim/cut.py" 195)]
def C21 : Obj := ⟨(.type "frame"), none, .plain, #[(some (.ref 20)), (some (.ref 3)), (some (.ref 17)), none, (some (zsK "epochrooms.errors" 187)), none, (some (.ref 0))]⟩
def C22 : Obj := zt []
def C23 (P : Params) : Obj := ⟨(.type "dict"), none, (.dict #[⟨(zhK P "__module__"), (zsK "__module__" 196), (zsK "epochrooms.errors" 187)⟩, ⟨(zhK P "__firstlineno__"), (zsK "__firstlineno__" 200), (.int 2 199)⟩, ⟨(zhK P "__static_attributes__"), (zsK "__static_attributes__" 201), (.ref 22)⟩, ⟨(zhK P "__weakref__"), (zsK "__weakref__" 203), (.ref 25)⟩, ⟨(zhK P "__doc__"), (zsK "__doc__" 204), .none⟩] 3), #[]⟩
def C24 : Obj := ⟨(.type "type"), none, (.cls ⟨(zo "RoomsError"), [(.type "ValueError")], [(.ref 24), (.type "ValueError"), (.type "Exception"), (.type "BaseException"), (.type "object")], 23, (zo "RoomsError"), true, [], [(.ref 46)], false, none, false⟩), #[(some (.ref 15)), none, (some (zsK "RoomsError" 189)), (some (zsK "RoomsError" 197)), (some (.builtin "ValueError.__new__")), (some (.bool true))]⟩
def C25 : Obj := ⟨(.type "getset_descriptor"), none, (.fields #[(zsK "__weakref__" 202), (.ref 24), (.builtin "ExceptionGroup.__weakref__"), .none]), #[]⟩
def C26 : Obj := ⟨(.type "super"), none, (.fields #[(.ref 24), (.ref 24), (.ref 24)]), #[]⟩
def C27 : Obj := ⟨(.type "builtin_function_or_method"), none, (.fields #[(.builtin "object.__init_subclass__"), (.ref 24)]), #[]⟩
def C28 : Obj := zt [(.ref 24)]
def C29 : Obj := ⟨(.type "builtin_function_or_method"), none, (.fields #[(.builtin "type.__prepare__"), (.type "type")]), #[]⟩
def C30 (P : Params) : Obj := ⟨(.type "dict"), none, (.dict #[⟨(zhK P "__module__"), (zsK "__module__" 214), (zsK "epochrooms.errors" 187)⟩, ⟨(zhK P "__qualname__"), (zsK "__qualname__" 216), (zsK "NoTable" 215)⟩, ⟨(zhK P "__firstlineno__"), (zsK "__firstlineno__" 218), (.int 4 217)⟩, ⟨(zhK P "__init__"), (zsK "__init__" 227), (.ref 43)⟩, ⟨(zhK P "__static_attributes__"), (zsK "__static_attributes__" 229), (.ref 44)⟩, ⟨(zhK P "__classcell__"), (zsK "__classcell__" 230), (.ref 31)⟩] 6), #[]⟩
def C31 : Obj := ⟨(.type "cell"), none, (.cell (some (.ref 46))), #[]⟩
def C32 : Obj := zt []
def C33 : Obj := zn [(zi 6), (zi 4), (.ref 42)]
def C34 : Obj := zc [(zsK "NoTable" 209), (zsK "NoTable" 210), (zsK "/claim/cut.py" 211), (zi 4), (zi 0), (zi 0), (zi 0), (zi 0), (.ref 32), (.bool false), (zi 181), (.ref 33), .none, .none, .none, .none, (zi 212), (zi 4), (zsK "/claim/cut.py" 213)]
def C35 : Obj := ⟨(.type "frame"), none, .plain, #[(some (.ref 34)), (some (.ref 3)), (some (.ref 30)), none, (some (zsK "epochrooms.errors" 187)), none, (some (.ref 0))]⟩
def C36 : Obj := zt [(.ref 31)]
def C37 : Obj := zt [(zsK "__class__" 222)]
def C38 : Obj := zn []
def C39 : Obj := zt [(zsK "self" 223), (zsK "states" 224)]
def C40 : Obj := zt []
def C41 : Obj := ⟨.none, none, (.func ⟨(zo "__init__"), (zo "NoTable.__init__"), (zAC 2 0), (.stmts (zBC 2 0)), (zSC 2 0), 0, [], .none, .none, .none, .none, none, .none, .none, 0⟩), #[]⟩
def C42 : Obj := zc [(zsK "__init__" 219), (zsK "NoTable.__init__" 220), (zsK "/claim/cut.py" 221), (zi 6), (zi 2), (zi 0), (zi 0), (zi 3), (.ref 37), (.bool true), (zi 181), (.ref 38), .none, (.ref 39), (.ref 40), (.ref 41), (zi 225), (zi 6), (zsK "/claim/cut.py" 226)]
def C43 : Obj := zf ⟨(zo "__init__"), (zo "NoTable.__init__"), (zAC 2 0), (.stmts (zBC 2 0)), (zSC 2 0), 3, [((zo "__class__"), 31)], .none, .none, .none, (zsK "epochrooms.errors" 187), none, (.ref 42), (.ref 36), 0⟩
def C44 : Obj := zt [(zsK "states" 228)]
def C45 (P : Params) : Obj := ⟨(.type "dict"), none, (.dict #[⟨(zhK P "__module__"), (zsK "__module__" 214), (zsK "epochrooms.errors" 187)⟩, ⟨(zhK P "__firstlineno__"), (zsK "__firstlineno__" 218), (.int 4 217)⟩, ⟨(zhK P "__init__"), (zsK "__init__" 227), (.ref 43)⟩, ⟨(zhK P "__static_attributes__"), (zsK "__static_attributes__" 229), (.ref 44)⟩, ⟨(zhK P "__doc__"), (zsK "__doc__" 231), .none⟩] 3), #[]⟩
def C46 : Obj := ⟨(.type "type"), none, (.cls ⟨(zo "NoTable"), [(.ref 24)], [(.ref 46), (.ref 24), (.type "ValueError"), (.type "Exception"), (.type "BaseException"), (.type "object")], 45, (zo "NoTable"), true, [], [], false, none, false⟩), #[(some (.ref 28)), none, (some (zsK "NoTable" 207)), (some (zsK "NoTable" 215)), (some (.builtin "ValueError.__new__")), (some (.bool true))]⟩
def C47 : Obj := ⟨(.type "super"), none, (.fields #[(.ref 46), (.ref 46), (.ref 46)]), #[]⟩
def C48 : Obj := ⟨(.type "builtin_function_or_method"), none, (.fields #[(.builtin "object.__init_subclass__"), (.ref 46)]), #[]⟩
def C49 : Obj := zt [(.int 1 238)]
def C50 : Obj := zt []
def C51 : Obj := zn []
def C52 : Obj := zt [(zsK "value" 242), (zsK "deep" 243), (zsK "part" 244)]
def C53 : Obj := zt []
def C54 : Obj := ⟨.none, none, (.func ⟨(zo "is_plain"), (zo "is_plain"), (zA 5), (.stmts (zB 5)), (zS 5), 0, [], .none, .none, .none, .none, none, .none, .none, 0⟩), #[]⟩
def C55 : Obj := zc [(zsK "is_plain" 239), (zsK "is_plain" 240), (zsK "/claim/cut.py" 241), (zi 11), (zi 2), (zi 0), (zi 0), (zi 3), (.ref 50), (.bool true), (zi 181), (.ref 51), .none, (.ref 52), (.ref 53), (.ref 54), (zi 245), (zi 11), (zsK "/claim/cut.py" 246)]
def C56 : Obj := zf ⟨(zo "is_plain"), (zo "is_plain"), (zA 5), (.stmts (zB 5)), (zS 5), 3, [], (.ref 49), .none, .none, (zsK "epochrooms.tables" 234), none, (.ref 55), .none, 0⟩
def C57 : Obj := zt []
def C58 : Obj := ⟨(.type "builtin_function_or_method"), none, (.fields #[(.builtin "type.__prepare__"), (.type "type")]), #[]⟩
def C59 (P : Params) : Obj := ⟨(.type "dict"), none, (.dict #[⟨(zhK P "__module__"), (zsK "__module__" 255), (zsK "epochrooms.tables" 234)⟩, ⟨(zhK P "__qualname__"), (zsK "__qualname__" 257), (zsK "Table" 256)⟩, ⟨(zhK P "__firstlineno__"), (zsK "__firstlineno__" 259), (.int 21 258)⟩, ⟨(zhK P "__init__"), (zsK "__init__" 265), (.ref 68)⟩, ⟨(zhK P "listed"), (zsK "listed" 272), (.ref 75)⟩, ⟨(zhK P "__iter__"), (zsK "__iter__" 279), (.ref 82)⟩, ⟨(zhK P "__len__"), (zsK "__len__" 286), (.ref 89)⟩, ⟨(zhK P "__contains__"), (zsK "__contains__" 294), (.ref 96)⟩, ⟨(zhK P "__eq__"), (zsK "__eq__" 302), (.ref 103)⟩, ⟨(zhK P "__and__"), (zsK "__and__" 308), (.ref 108)⟩, ⟨(zhK P "__or__"), (zsK "__or__" 316), (.ref 115)⟩, ⟨(zhK P "__sub__"), (zsK "__sub__" 322), (.ref 120)⟩, ⟨(zhK P "__static_attributes__"), (zsK "__static_attributes__" 325), (.ref 121)⟩] 13), #[]⟩
def C60 : Obj := zt []
def C61 : Obj := zn [(zi 23), (zi 4), (.ref 67), (zi 29), (zi 4), (.ref 74), (zi 32), (zi 4), (.ref 81), (zi 35), (zi 4), (.ref 88), (zi 38), (zi 4), (.ref 95), (zi 41), (zi 4), (.ref 102), (zi 44), (zi 4), (.ref 107), (zi 49), (zi 4), (.ref 114), (zi 54), (zi 4), (.ref 119)]
def C62 : Obj := zc [(zsK "Table" 250), (zsK "Table" 251), (zsK "/claim/cut.py" 252), (zi 21), (zi 0), (zi 0), (zi 0), (zi 0), (.ref 60), (.bool false), (zi 181), (.ref 61), .none, .none, .none, .none, (zi 253), (zi 21), (zsK "/claim/cut.py" 254)]
def C63 : Obj := ⟨(.type "frame"), none, .plain, #[(some (.ref 62)), (some (.ref 3)), (some (.ref 59)), none, (some (zsK "epochrooms.tables" 234)), none, (some (.ref 0))]⟩
def C64 : Obj := zt []
def C65 : Obj := zn []
def C66 : Obj := ⟨.none, none, (.func ⟨(zo "__init__"), (zo "Table.__init__"), (zAC 6 0), (.stmts (zBC 6 0)), (zSC 6 0), 0, [], .none, .none, .none, .none, none, .none, .none, 0⟩), #[]⟩
def C67 : Obj := zc [(zsK "__init__" 260), (zsK "Table.__init__" 261), (zsK "/claim/cut.py" 262), (zi 23), (zi 2), (zi 0), (zi 0), (zi 3), (.ref 64), (.bool true), (zi 181), (.ref 65), .none, .none, .none, (.ref 66), (zi 263), (zi 23), (zsK "/claim/cut.py" 264)]
def C68 : Obj := zm "__init__" "Table.__init__" 6 0 6 0 6 0 "epochrooms.tables" 234 67
def C69 : Obj := zt []
def C70 : Obj := zn []
def C71 : Obj := zt [(zsK "self" 269)]
def C72 : Obj := zt []
def C73 : Obj := ⟨.none, none, (.func ⟨(zo "listed"), (zo "Table.listed"), (zAC 6 1), (.stmts (zBC 6 1)), (zSC 6 1), 0, [], .none, .none, .none, .none, none, .none, .none, 0⟩), #[]⟩
def C74 : Obj := zc [(zsK "listed" 266), (zsK "Table.listed" 267), (zsK "/claim/cut.py" 268), (zi 29), (zi 1), (zi 0), (zi 0), (zi 3), (.ref 69), (.bool true), (zi 181), (.ref 70), .none, (.ref 71), (.ref 72), (.ref 73), (zi 270), (zi 29), (zsK "/claim/cut.py" 271)]
def C75 : Obj := zm "listed" "Table.listed" 6 1 6 1 6 1 "epochrooms.tables" 234 74
def C76 : Obj := zt []
def C77 : Obj := zn []
def C78 : Obj := zt [(zsK "self" 276)]
def C79 : Obj := zt []
def C80 : Obj := ⟨.none, none, (.func ⟨(zo "__iter__"), (zo "Table.__iter__"), (zAC 6 2), (.stmts (zBC 6 2)), (zSC 6 2), 0, [], .none, .none, .none, .none, none, .none, .none, 0⟩), #[]⟩
def C81 : Obj := zc [(zsK "__iter__" 273), (zsK "Table.__iter__" 274), (zsK "/claim/cut.py" 275), (zi 32), (zi 1), (zi 0), (zi 0), (zi 3), (.ref 76), (.bool true), (zi 181), (.ref 77), .none, (.ref 78), (.ref 79), (.ref 80), (zi 277), (zi 32), (zsK "/claim/cut.py" 278)]
def C82 : Obj := zm "__iter__" "Table.__iter__" 6 2 6 2 6 2 "epochrooms.tables" 234 81
def C83 : Obj := zt []
def C84 : Obj := zn []
def C85 : Obj := zt [(zsK "self" 283)]
def C86 : Obj := zt []
def C87 : Obj := ⟨.none, none, (.func ⟨(zo "__len__"), (zo "Table.__len__"), (zAC 6 3), (.stmts (zBC 6 3)), (zSC 6 3), 0, [], .none, .none, .none, .none, none, .none, .none, 0⟩), #[]⟩
def C88 : Obj := zc [(zsK "__len__" 280), (zsK "Table.__len__" 281), (zsK "/claim/cut.py" 282), (zi 35), (zi 1), (zi 0), (zi 0), (zi 3), (.ref 83), (.bool true), (zi 181), (.ref 84), .none, (.ref 85), (.ref 86), (.ref 87), (zi 284), (zi 35), (zsK "/claim/cut.py" 285)]
def C89 : Obj := zm "__len__" "Table.__len__" 6 3 6 3 6 3 "epochrooms.tables" 234 88
def C90 : Obj := zt []
def C91 : Obj := zn []
def C92 : Obj := zt [(zsK "self" 290), (zsK "value" 291)]
def C93 : Obj := zt []
def C94 : Obj := ⟨.none, none, (.func ⟨(zo "__contains__"), (zo "Table.__contains__"), (zAC 6 4), (.stmts (zBC 6 4)), (zSC 6 4), 0, [], .none, .none, .none, .none, none, .none, .none, 0⟩), #[]⟩
def C95 : Obj := zc [(zsK "__contains__" 287), (zsK "Table.__contains__" 288), (zsK "/claim/cut.py" 289), (zi 38), (zi 2), (zi 0), (zi 0), (zi 3), (.ref 90), (.bool true), (zi 181), (.ref 91), .none, (.ref 92), (.ref 93), (.ref 94), (zi 292), (zi 38), (zsK "/claim/cut.py" 293)]
def C96 : Obj := zm "__contains__" "Table.__contains__" 6 4 6 4 6 4 "epochrooms.tables" 234 95
def C97 : Obj := zt []
def C98 : Obj := zn []
def C99 : Obj := zt [(zsK "self" 298), (zsK "other" 299)]
def C100 : Obj := zt []
def C101 : Obj := ⟨.none, none, (.func ⟨(zo "__eq__"), (zo "Table.__eq__"), (zAC 6 5), (.stmts (zBC 6 5)), (zSC 6 5), 0, [], .none, .none, .none, .none, none, .none, .none, 0⟩), #[]⟩
def C102 : Obj := zc [(zsK "__eq__" 295), (zsK "Table.__eq__" 296), (zsK "/claim/cut.py" 297), (zi 41), (zi 2), (zi 0), (zi 0), (zi 3), (.ref 97), (.bool true), (zi 181), (.ref 98), .none, (.ref 99), (.ref 100), (.ref 101), (zi 300), (zi 41), (zsK "/claim/cut.py" 301)]
def C103 : Obj := zm "__eq__" "Table.__eq__" 6 5 6 5 6 5 "epochrooms.tables" 234 102
def C104 : Obj := zt []
def C105 : Obj := zn []
def C106 : Obj := ⟨.none, none, (.func ⟨(zo "__and__"), (zo "Table.__and__"), (zAC 6 6), (.stmts (zBC 6 6)), (zSC 6 8), 0, [], .none, .none, .none, .none, none, .none, .none, 0⟩), #[]⟩
def C107 : Obj := zc [(zsK "__and__" 303), (zsK "Table.__and__" 304), (zsK "/claim/cut.py" 305), (zi 44), (zi 2), (zi 0), (zi 0), (zi 3), (.ref 104), (.bool true), (zi 181), (.ref 105), .none, .none, .none, (.ref 106), (zi 306), (zi 44), (zsK "/claim/cut.py" 307)]
def C108 : Obj := zm "__and__" "Table.__and__" 6 6 6 6 6 8 "epochrooms.tables" 234 107
def C109 : Obj := zt []
def C110 : Obj := zn []
def C111 : Obj := zt [(zsK "self" 312), (zsK "other" 313)]
def C112 : Obj := zt []
def C113 : Obj := ⟨.none, none, (.func ⟨(zo "__or__"), (zo "Table.__or__"), (zAC 6 7), (.stmts (zBC 6 7)), (zSC 6 7), 0, [], .none, .none, .none, .none, none, .none, .none, 0⟩), #[]⟩
def C114 : Obj := zc [(zsK "__or__" 309), (zsK "Table.__or__" 310), (zsK "/claim/cut.py" 311), (zi 49), (zi 2), (zi 0), (zi 0), (zi 3), (.ref 109), (.bool true), (zi 181), (.ref 110), .none, (.ref 111), (.ref 112), (.ref 113), (zi 314), (zi 49), (zsK "/claim/cut.py" 315)]
def C115 : Obj := zm "__or__" "Table.__or__" 6 7 6 7 6 7 "epochrooms.tables" 234 114
def C116 : Obj := zt []
def C117 : Obj := zn []
def C118 : Obj := ⟨.none, none, (.func ⟨(zo "__sub__"), (zo "Table.__sub__"), (zAC 6 8), (.stmts (zBC 6 8)), (zSC 6 8), 0, [], .none, .none, .none, .none, none, .none, .none, 0⟩), #[]⟩
def C119 : Obj := zc [(zsK "__sub__" 317), (zsK "Table.__sub__" 318), (zsK "/claim/cut.py" 319), (zi 54), (zi 2), (zi 0), (zi 0), (zi 3), (.ref 116), (.bool true), (zi 181), (.ref 117), .none, .none, .none, (.ref 118), (zi 320), (zi 54), (zsK "/claim/cut.py" 321)]
def C120 : Obj := zm "__sub__" "Table.__sub__" 6 8 6 8 6 8 "epochrooms.tables" 234 119
def C121 : Obj := zt [(zsK "known" 323), (zsK "rows" 324)]
def C122 (P : Params) : Obj := ⟨(.type "dict"), none, (.dict #[⟨(zhK P "__module__"), (zsK "__module__" 255), (zsK "epochrooms.tables" 234)⟩, ⟨(zhK P "__firstlineno__"), (zsK "__firstlineno__" 259), (.int 21 258)⟩, ⟨(zhK P "__init__"), (zsK "__init__" 265), (.ref 68)⟩, ⟨(zhK P "listed"), (zsK "listed" 272), (.ref 75)⟩, ⟨(zhK P "__iter__"), (zsK "__iter__" 279), (.ref 82)⟩, ⟨(zhK P "__len__"), (zsK "__len__" 286), (.ref 89)⟩, ⟨(zhK P "__contains__"), (zsK "__contains__" 294), (.ref 96)⟩, ⟨(zhK P "__eq__"), (zsK "__eq__" 302), (.ref 103)⟩, ⟨(zhK P "__and__"), (zsK "__and__" 308), (.ref 108)⟩, ⟨(zhK P "__or__"), (zsK "__or__" 316), (.ref 115)⟩, ⟨(zhK P "__sub__"), (zsK "__sub__" 322), (.ref 120)⟩, ⟨(zhK P "__static_attributes__"), (zsK "__static_attributes__" 325), (.ref 121)⟩, ⟨(zhK P "__dict__"), (zsK "__dict__" 327), (.ref 124)⟩, ⟨(zhK P "__weakref__"), (zsK "__weakref__" 329), (.ref 125)⟩, ⟨(zhK P "__doc__"), (zsK "__doc__" 330), .none⟩, ⟨(zhK P "__hash__"), (zsK "__hash__" 331), .none⟩] 5), #[]⟩
def C123 : Obj := ⟨(.type "type"), none, (.cls ⟨(zo "Table"), [(.type "object")], [(.ref 123), (.type "object")], 122, (zo "Table"), true, [], [], false, none, false⟩), #[none, none, (some (zsK "Table" 248)), (some (zsK "Table" 256)), (some (.builtin "object.__new__")), (some (.bool true))]⟩
def C124 : Obj := ⟨(.type "getset_descriptor"), none, (.fields #[(zsK "__dict__" 326), (.ref 123), (.builtin "function.__dict__"), (.builtin "function.__dict__#set")]), #[]⟩
def C125 : Obj := ⟨(.type "getset_descriptor"), none, (.fields #[(zsK "__weakref__" 328), (.ref 123), (.builtin "ExceptionGroup.__weakref__"), .none]), #[]⟩
def C126 : Obj := ⟨(.type "super"), none, (.fields #[(.ref 123), (.ref 123), (.ref 123)]), #[]⟩
def C127 : Obj := ⟨(.type "builtin_function_or_method"), none, (.fields #[(.builtin "object.__init_subclass__"), (.ref 123)]), #[]⟩
def C128 : Obj := zt []
def C129 : Obj := zn []
def C130 : Obj := zt [(zsK "_law_script" 339), (zsK "_law_k" 340), (zsK "_law_cell" 341), (zsK "_law_size" 342), (zsK "_law_seed" 343)]
def C131 : Obj := zt []
def C132 : Obj := ⟨.none, none, (.func ⟨(zo "_law_pool"), (zo "_law_pool"), (zA 8), (.stmts (zB 8)), (zS 8), 0, [], .none, .none, .none, .none, none, .none, .none, 0⟩), #[]⟩
def C133 : Obj := zc [(zsK "_law_pool" 336), (zsK "_law_pool" 337), (zsK "/claim/cut.py" 338), (zi 59), (zi 2), (zi 0), (zi 0), (zi 3), (.ref 128), (.bool true), (zi 181), (.ref 129), .none, (.ref 130), (.ref 131), (.ref 132), (zi 344), (zi 59), (zsK "/claim/cut.py" 345)]
def C134 : Obj := zf ⟨(zo "_law_pool"), (zo "_law_pool"), (zA 8), (.stmts (zB 8)), (zS 8), 3, [], .none, .none, .none, (zsK "law_epochrooms_k59_tables_counted" 334), none, (.ref 133), .none, 0⟩
def C135 : Obj := zt []
def C136 : Obj := zn []
def C137 : Obj := zt [(zsK "_law_pool_here" 350), (zsK "_law_many" 351), (zsK "_law_found" 352)]
def C138 : Obj := zt []
def C139 : Obj := ⟨.none, none, (.func ⟨(zo "_law_take"), (zo "_law_take"), (zA 9), (.stmts (zB 9)), (zS 9), 0, [], .none, .none, .none, .none, none, .none, .none, 0⟩), #[]⟩
def C140 : Obj := zc [(zsK "_law_take" 347), (zsK "_law_take" 348), (zsK "/claim/cut.py" 349), (zi 66), (zi 2), (zi 0), (zi 0), (zi 3), (.ref 135), (.bool true), (zi 181), (.ref 136), .none, (.ref 137), (.ref 138), (.ref 139), (zi 353), (zi 66), (zsK "/claim/cut.py" 354)]
def C141 : Obj := zf ⟨(zo "_law_take"), (zo "_law_take"), (zA 9), (.stmts (zB 9)), (zS 9), 3, [], .none, .none, .none, (zsK "law_epochrooms_k59_tables_counted" 334), none, (.ref 140), .none, 0⟩
def C142 : Obj := zt []
def C143 : Obj := zn []
def C144 : Obj := zt [(zsK "_law_pool_here" 359), (zsK "_law_some" 360)]
def C145 : Obj := zt []
def C146 : Obj := ⟨.none, none, (.func ⟨(zo "_law_one"), (zo "_law_one"), (zA 10), (.stmts (zB 10)), (zS 10), 0, [], .none, .none, .none, .none, none, .none, .none, 0⟩), #[]⟩
def C147 : Obj := zc [(zsK "_law_one" 356), (zsK "_law_one" 357), (zsK "/claim/cut.py" 358), (zi 73), (zi 2), (zi 0), (zi 0), (zi 3), (.ref 142), (.bool true), (zi 181), (.ref 143), .none, (.ref 144), (.ref 145), (.ref 146), (zi 361), (zi 73), (zsK "/claim/cut.py" 362)]
def C148 : Obj := zf ⟨(zo "_law_one"), (zo "_law_one"), (zA 10), (.stmts (zB 10)), (zS 10), 3, [], .none, .none, .none, (zsK "law_epochrooms_k59_tables_counted" 334), none, (.ref 147), .none, 0⟩
def C149 : Obj := zt []
def C150 : Obj := zn []
def C151 : Obj := zt [(zsK "_law_pool_here" 367), (zsK "_law_inner" 368), (zsK "_law_some" 369)]
def C152 : Obj := zt []
def C153 : Obj := ⟨.none, none, (.func ⟨(zo "_law_state"), (zo "_law_state"), (zA 11), (.stmts (zB 11)), (zS 11), 0, [], .none, .none, .none, .none, none, .none, .none, 0⟩), #[]⟩
def C154 : Obj := zc [(zsK "_law_state" 364), (zsK "_law_state" 365), (zsK "/claim/cut.py" 366), (zi 75), (zi 1), (zi 0), (zi 0), (zi 3), (.ref 149), (.bool true), (zi 181), (.ref 150), .none, (.ref 151), (.ref 152), (.ref 153), (zi 370), (zi 75), (zsK "/claim/cut.py" 371)]
def C155 : Obj := zf ⟨(zo "_law_state"), (zo "_law_state"), (zA 11), (.stmts (zB 11)), (zS 11), 3, [], .none, .none, .none, (zsK "law_epochrooms_k59_tables_counted" 334), none, (.ref 154), .none, 0⟩
def C156 : Obj := zt []
def C157 : Obj := zn []
def C158 : Obj := zt [(zsK "_law_states" 376), (zsK "_law_found" 377), (zsK "_law_state_here" 378)]
def C159 : Obj := zt []
def C160 : Obj := ⟨.none, none, (.func ⟨(zo "_law_unlike"), (zo "_law_unlike"), (zA 12), (.stmts (zB 12)), (zS 12), 0, [], .none, .none, .none, .none, none, .none, .none, 0⟩), #[]⟩
def C161 : Obj := zc [(zsK "_law_unlike" 373), (zsK "_law_unlike" 374), (zsK "/claim/cut.py" 375), (zi 79), (zi 1), (zi 0), (zi 0), (zi 3), (.ref 156), (.bool true), (zi 181), (.ref 157), .none, (.ref 158), (.ref 159), (.ref 160), (zi 379), (zi 79), (zsK "/claim/cut.py" 380)]
def C162 : Obj := zf ⟨(zo "_law_unlike"), (zo "_law_unlike"), (zA 12), (.stmts (zB 12)), (zS 12), 3, [], .none, .none, .none, (zsK "law_epochrooms_k59_tables_counted" 334), none, (.ref 161), .none, 0⟩
def C163 : Obj := zt []
def C164 : Obj := zn []
def C165 : Obj := ⟨.none, none, (.func ⟨(zo "_law_mixed"), (zo "_law_mixed"), (zA 13), (.stmts (zB 13)), (zS 13), 0, [], .none, .none, .none, .none, none, .none, .none, 0⟩), #[]⟩
def C166 : Obj := zc [(zsK "_law_mixed" 382), (zsK "_law_mixed" 383), (zsK "/claim/cut.py" 384), (zi 85), (zi 4), (zi 0), (zi 0), (zi 3), (.ref 163), (.bool true), (zi 181), (.ref 164), .none, .none, .none, (.ref 165), (zi 385), (zi 85), (zsK "/claim/cut.py" 386)]
def C167 : Obj := zf ⟨(zo "_law_mixed"), (zo "_law_mixed"), (zA 13), (.stmts (zB 13)), (zS 13), 3, [], .none, .none, .none, (zsK "law_epochrooms_k59_tables_counted" 334), none, (.ref 166), .none, 0⟩
def C168 : Obj := zt []
def C169 : Obj := zn []
def C170 : Obj := ⟨.none, none, (.func ⟨(zo "_law_right"), (zo "_law_right"), (zA 14), (.stmts (zB 14)), (zS 14), 0, [], .none, .none, .none, .none, none, .none, .none, 0⟩), #[]⟩
def C171 : Obj := zc [(zsK "_law_right" 388), (zsK "_law_right" 389), (zsK "/claim/cut.py" 390), (zi 93), (zi 1), (zi 0), (zi 0), (zi 3), (.ref 168), (.bool true), (zi 181), (.ref 169), .none, .none, .none, (.ref 170), (zi 391), (zi 93), (zsK "/claim/cut.py" 392)]
def C172 : Obj := zf ⟨(zo "_law_right"), (zo "_law_right"), (zA 14), (.stmts (zB 14)), (zS 14), 3, [], .none, .none, .none, (zsK "law_epochrooms_k59_tables_counted" 334), none, (.ref 171), .none, 0⟩
def C173 : Obj := zt []
def C174 : Obj := zn []
def C175 : Obj := zt [(zsK "_law_script" 397), (zsK "_law_k" 398)]
def C176 : Obj := zt []
def C177 : Obj := ⟨.none, none, (.func ⟨(zo "law"), (zo "law"), (zA 15), (.stmts (zB 15)), (zS 15), 0, [], .none, .none, .none, .none, none, .none, .none, 0⟩), #[]⟩
def C178 : Obj := zc [(zsK "law" 394), (zsK "law" 395), (zsK "/claim/cut.py" 396), (zi 111), (zi 1), (zi 0), (zi 0), (zi 3), (.ref 173), (.bool true), (zi 181), (.ref 174), .none, (.ref 175), (.ref 176), (.ref 177), (zi 399), (zi 111), (zsK "/claim/cut.py" 400)]
def C179 : Obj := zf ⟨(zo "law"), (zo "law"), (zA 15), (.stmts (zB 15)), (zS 15), 3, [], .none, .none, .none, (zsK "law_epochrooms_k59_tables_counted" 334), none, (.ref 178), .none, 0⟩
noncomputable def zTA (P : Params) : BT := (N (boot_o_0 P) (N (boot_o_1 P) (N (boot_o_3 P) (N (boot_o_7 P) Z Z) (N B11 Z Z)) (N (boot_o_5 P) (N (boot_o_9 P) Z Z) (N B13 Z Z))) (N (boot_o_2 P) (N (boot_o_4 P) (N (boot_o_8 P) Z Z) (N B12 Z Z)) (N (boot_o_6 P) (N (boot_o_10 P) Z Z) (N B14 Z Z))))
noncomputable def zStA (w : World) (os : OsState) : SharedT := ⟨zTA w.params, 15, ⟨[], [], [], 0, [], [], false, #[], [], 0, false, false, false, 0, [2000, 10, 10], false, 0, true, [], [], 0, false⟩, #[], ⟨0, 0, 0, 0⟩, 187, os⟩
noncomputable def zT15 (P : Params) : BT := (N (boot_o_0 P) (N (boot_o_1 P) (N (C3 P) (N (boot_o_7 P) (N C15 (N C31 (N C63 (N C127 Z Z) Z) (N C95 (N C159 Z Z) Z)) (N C47 (N C79 (N C143 Z Z) Z) (N C111 (N C175 Z Z) Z))) (N (C23 P) (N C39 (N C71 (N C135 Z Z) Z) (N C103 (N C167 Z Z) Z)) (N C55 (N C87 (N C151 Z Z) Z) (N C119 Z Z)))) (N B11 (N C19 (N C35 (N C67 (N C131 Z Z) Z) (N C99 (N C163 Z Z) Z)) (N C51 (N C83 (N C147 Z Z) Z) (N C115 (N C179 Z Z) Z))) (N C27 (N C43 (N C75 (N C139 Z Z) Z) (N C107 (N C171 Z Z) Z)) (N (C59 P) (N C91 (N C155 Z Z) Z) (N C123 Z Z))))) (N (boot_o_5 P) (N (boot_o_9 P) (N (C17 P) (N C33 (N C65 (N C129 Z Z) Z) (N C97 (N C161 Z Z) Z)) (N C49 (N C81 (N C145 Z Z) Z) (N C113 (N C177 Z Z) Z))) (N C25 (N C41 (N C73 (N C137 Z Z) Z) (N C105 (N C169 Z Z) Z)) (N C57 (N C89 (N C153 Z Z) Z) (N C121 Z Z)))) (N B13 (N C21 (N C37 (N C69 (N C133 Z Z) Z) (N C101 (N C165 Z Z) Z)) (N C53 (N C85 (N C149 Z Z) Z) (N C117 Z Z))) (N C29 (N (C45 P) (N C77 (N C141 Z Z) Z) (N C109 (N C173 Z Z) Z)) (N C61 (N C93 (N C157 Z Z) Z) (N C125 Z Z)))))) (N (boot_o_2 P) (N (boot_o_4 P) (N (boot_o_8 P) (N C16 (N C32 (N C64 (N C128 Z Z) Z) (N C96 (N C160 Z Z) Z)) (N C48 (N C80 (N C144 Z Z) Z) (N C112 (N C176 Z Z) Z))) (N C24 (N C40 (N C72 (N C136 Z Z) Z) (N C104 (N C168 Z Z) Z)) (N C56 (N C88 (N C152 Z Z) Z) (N C120 Z Z)))) (N C12 (N C20 (N C36 (N C68 (N C132 Z Z) Z) (N C100 (N C164 Z Z) Z)) (N C52 (N C84 (N C148 Z Z) Z) (N C116 Z Z))) (N C28 (N C44 (N C76 (N C140 Z Z) Z) (N C108 (N C172 Z Z) Z)) (N C60 (N C92 (N C156 Z Z) Z) (N C124 Z Z))))) (N (boot_o_6 P) (N (boot_o_10 P) (N C18 (N C34 (N C66 (N C130 Z Z) Z) (N C98 (N C162 Z Z) Z)) (N C50 (N C82 (N C146 Z Z) Z) (N C114 (N C178 Z Z) Z))) (N C26 (N C42 (N C74 (N C138 Z Z) Z) (N C106 (N C170 Z Z) Z)) (N C58 (N C90 (N C154 Z Z) Z) (N (C122 P) Z Z)))) (N B14 (N C22 (N C38 (N C70 (N C134 Z Z) Z) (N C102 (N C166 Z Z) Z)) (N C54 (N C86 (N C150 Z Z) Z) (N C118 Z Z))) (N (C30 P) (N C46 (N C78 (N C142 Z Z) Z) (N C110 (N C174 Z Z) Z)) (N C62 (N C94 (N C158 Z Z) Z) (N C126 Z Z)))))))
noncomputable def zSt15 (w : World) (os : OsState) : SharedT := ⟨zT15 w.params, 180, ⟨[], [], [], 0, [], [], false, #[], [], 0, false, false, false, 0, [2000, 10, 10], false, 0, true, [], [], 0, false⟩, #[], ⟨0, 0, 0, 0⟩, 402, os⟩
def envT : Env := { scope := PP.main.scope, locals := mainNs, globals := mainNs, cells := [], code := (.ref 13), frame := some 14 }
def qT : Pos := ⟨0, 0, 0, 0⟩
def annT : Option Value := (some (.ref 6))
abbrev bodyT : List Stmt := behindTheImports PP
abbrev codeT : Code := .body bodyT envT
noncomputable def thT : Thread := ⟨denote treeTable codeT, codeT, ⟨0, 0, 0, 0⟩, [topFrame qT]⟩
noncomputable def thQ : Thread := ⟨denQ tabQ codeT, codeT, ⟨0, 0, 0, 0⟩, [topFrame qT]⟩
open ML
def lo0 : List Str := ["RoomsError", "NoTable", "DEEPEST", "is_plain", "Table", "_law_pool", "_law_take", "_law_one", "_law_state", "_law_unlike", "_law_mixed", "_law_right"]
def loA : List Str := lo0
def adL : List Addr := [2, 3, 6, 4, 24, 46, 56, 123, 134, 141, 148, 155, 162, 167, 172, 179, 0, 23, 45, 55, 49, 122, 133, 140, 147, 154, 161, 166, 171, 178, 22, 25, 43, 44, 50, 51, 52, 53, 54, 68, 75, 82, 89, 96, 103, 108, 115, 120, 121, 124, 125, 128, 129, 130, 131, 132, 135, 136, 137, 138, 139, 142, 143, 144, 145, 146, 149, 150, 151, 152, 153, 156, 157, 158, 159, 160, 163, 164, 165, 168, 169, 170, 173, 174, 175, 176, 177, 42, 31, 67, 74, 81, 88, 95, 102, 107, 114, 119, 37, 38, 39, 40, 41, 64, 65, 66, 69, 70, 71, 72, 73, 76, 77, 78, 79, 80, 83, 84, 85, 86, 87, 90, 91, 92, 93, 94, 97, 98, 99, 100, 101, 104, 105, 106, 109, 110, 111, 112, 113, 116, 117, 118]
abbrev hk : Hook := hookL adL spec
def ob (s : SharedT) : AlM := obsLG adL spec (getT s)
theorem ob_eq (s : SharedT) : ob s = hk.obs s.abs := obsLG_eq (getT_eq s)
abbrev qV : Program := view PP [15]
theorem look1 (w : World) (os : OsState) : looksF PP (boot_heap w.params) (zSt15 w os).abs = true := by kernel_rfl
theorem look2 (w : World) (os : OsState) : seenQ qV loA (importedModules PP.main.body) (fun s => xlAt qV [] s && recOk Rr.toRowW.records s) (zSt15 w os).abs = openGood qV loA := by kernel_rfl
theorem look3a (w : World) (os : OsState) : ob (zSt15 w os) = hk.val w := by kernel_rfl
abbrev TLeft : Prop := LeftO PP qV loA (fun s => xlAt qV [] s && recOk Rr.toRowW.records s) hk.obs hk.val 1939 true
abbrev TFacts : Prop := ∀ {w : World} {K : PySem.W.Frag} {h : Heap} {mg : Str → Option Value} {f : Addr} (X : K.In h) (Gn : h.Ns mainGlobals mg) (hfa : mg ("law" : Str) = some (.ref f)) (c : SaysM spec w K), ∃ fd : FuncData, (∀ (s : Shared) (v : Value), BindsTo s fd ⟨[v], []⟩ [("_law_script", v)]) ∧ ∀ base : Heap, K.In base → base.Ns mainGlobals mg → FnOk P w K mg base CX0 43 f fd ["_law_script"] (fun vs H Q _ => spM (GxOf w K mg nm) 1 f_law vs H Q fun _ _ _ => False)
abbrev TPure : Prop := ∀ (ns : List Int) (hl : ns.length ≤ 63), ∃ h', f_law [.ref 0] [.scr (ns.map VI.int)] = .ok (.bl true) h'
end Lw
end
section
set_option maxHeartbeats 0
open PySem PySem.W PySem.Calls PyProof.Rows
theorem Lw.fin_row (hleft : Lw.TLeft) (hfacts : Lw.TFacts) (hpure : Lw.TPure) : PySem.Challenge.rw_epochrooms_k59_tables_counted.Holds := by
  refine Lw.pre_row fun said => ?_
  refine MHP.head_left (r := OpenLaw.row PySem.Challenge.rw_epochrooms_k59_tables_counted) (q := view (OpenLaw.row PySem.Challenge.rw_epochrooms_k59_tables_counted).prog [15]) (H := Lw.hk) (loose := Lw.loA) (d := HandSHeadRun.topDef (OpenLaw.row PySem.Challenge.rw_epochrooms_k59_tables_counted).prog 15) (kwd := []) hleft
    (by kernel_rfl) (by kernel_rfl) (by kernel_rfl) (by rfl) (by first | assumption | decide +kernel) (by decide +kernel) ⟨rfl, rfl, rfl, rfl, rfl, by decide +kernel⟩ ?hw ?hc
  case hw => w_witness2
  case hc =>
    refine L2.walk_ofE (l := PySem.Challenge.rw_epochrooms_k59_tables_counted) (n := 63) (k := 43) (x := "_law_script") (CX := L2.CX0) rfl (by decide) (by kernel_rfl) ⟨rfl, by decide, by decide⟩ ?F (fun _ _ _ _ z => z)
    intro w mg fa h Y G hmg0
    obtain ⟨K, KX, c⟩ := Y
    have hmg : mg ("law" : PySem.Str) = some (.ref fa) := by
      have e : (HandSHeadRun.topDef (OpenLaw.row PySem.Challenge.rw_epochrooms_k59_tables_counted).prog 15).name = ("law" : PySem.Str) := by kernel_rfl
      rw [← e]
      exact hmg0
    obtain ⟨fd, hb, hF⟩ := hfacts KX G hmg c
    exact ⟨K, fd, _, KX, hb, fun H a ns hl hO hS => by
      obtain ⟨h', e⟩ := hpure ns hl
      exact ML.law_sp (c.ex 41 (f := ML.noLstB) rfl) hO hS e, hF⟩
end
section
set_option maxHeartbeats 0
namespace Lw
open PySem PySem.Spec PyProof.Rows PySem.W L2 He MHP HandSHeadRun
theorem th_eq : thQ = thT := by
  unfold thQ thT
  rw [← denQ_eq, ← tabQ_eq]
theorem preQ (w : World) (os : OsState) : preF (stepQ (denQ tabQ) PP w) 11 annT 12 PP w os = some (zStA w os, thQ) := by kernel_rfl
theorem preT (w : World) (os : OsState) : preF (stepQ (denQ tabQ) PP w) 11 annT 12 PP w os = some (zStA w os, thT) := by
  rw [← th_eq]
  exact preQ w os
theorem sizeT (w : World) : (boot_heap w.params).objs.size = 11 := by kernel_rfl
theorem annT_ok (w : World) : bootAnn w = annT := by kernel_rfl
theorem blockT (w : World) (os : OsState) : segRun treeTable PP w 11 annT 1 1 (zStA w os).abs (blockOf bodyT envT codeT ⟨0, 0, 0, 0⟩ [topFrame qT]) = some (.next, (zStA w os).abs, codeT, ⟨0, 0, 0, 0⟩) := by kernel_rfl
theorem seg15 (w : World) : ∀ os : OsState, segF (stepQ (denQ tabQ) PP (w)) 11 annT 1 1225 (zStA (w) os) (piecesOf (sub bodyT 0 16) envT codeT ⟨0, 0, 0, 0⟩ [topFrame qT]) = some (.next, zSt15 (w) os, codeT, ⟨111, 0, 115, 15⟩) := by
  intro os
  kernel_rfl
theorem finT (w : World) (os : OsState) : goF (stepQ (denQ tabQ) PP w) 11 annT 2 (zSt15 w os) (restOf [] envT codeT ⟨111, 0, 115, 15⟩ [topFrame qT]) = some (zSt15 w os) := by kernel_rfl
theorem bodyT_eq : bodyT = (sub bodyT 0 16 ++ []) := by kernel_rfl
theorem restT (w : World) (os : OsState) : topRun treeTable PP w 11 annT (1 + (1225 + (2))) (zStA w os).abs thT = some (zSt15 w os).abs := by
  have z : topRun treeTable PP w 11 annT (1225 + (2)) (zStA w os).abs (restOf (sub bodyT 0 16 ++ []) envT codeT ⟨0, 0, 0, 0⟩ [topFrame qT]) = some (zSt15 w os).abs := piece_app (seg_ok (seg15 w os)) (fin_ok (finT w os))
  rw [← bodyT_eq] at z
  exact piece_block (blockT w os) z
end Lw
end
section
namespace ML
open PySem L2
theorem str_eqv (a b : S) : PyData.eqv (.str (toStr a)) (.str (toStr b)) = decide (a = b) := by
  by_cases h : a = b
  · subst h
    rw [decide_eq_true rfl]
    simp [PyData.eqv]
  · rw [decide_eq_false h]
    have : toStr a ≠ toStr b := fun z => h (toStr_inj z)
    simp [PyData.eqv, this]
def sok (s : S) : Bool := SeqAt.shaped (.str (toStr s))
theorem w_eqS {a b : S} (ha : sok a = true) (hb : sok b = true) (h : Hi) : fEq (.str a) (.str b) h = some (.bl (decide (a = b)), h) := by
  have e : eqD h (.str a) (.str b) = some (PyData.eqv (.str (toStr a)) (.str (toStr b))) := by
    show (match sok a && sok b with | true => some (PyData.eqv (.str (toStr a)) (.str (toStr b))) | false => none) = _
    rw [ha, hb]
    rfl
  simp [fEq, e, str_eqv]
theorem w_neS {a b : S} (ha : sok a = true) (hb : sok b = true) (h : Hi) : fNe (.str a) (.str b) h = some (.bl (!decide (a = b)), h) := by
  have e : eqD h (.str a) (.str b) = some (PyData.eqv (.str (toStr a)) (.str (toStr b))) := by
    show (match sok a && sok b with | true => some (PyData.eqv (.str (toStr a)) (.str (toStr b))) | false => none) = _
    rw [ha, hb]
    rfl
  simp [fNe, e, str_eqv]
theorem beqI (a b : Int) : (a == b) = decide (a = b) := by
  by_cases h : a = b <;> simp [h]
theorem w_eqI (a b : Int) (h : Hi) : fEq (.int a) (.int b) h = some (.bl (decide (a = b)), h) := by
  have e : eqD h (.int a) (.int b) = some (a == b) := by kernel_rfl
  simp only [fEq, e, beqI]
theorem w_neI (a b : Int) (h : Hi) : fNe (.int a) (.int b) h = some (.bl (!decide (a = b)), h) := by
  have e : eqD h (.int a) (.int b) = some (a == b) := by kernel_rfl
  simp only [fNe, e, beqI]
theorem w_eqIN (a : Int) (h : Hi) : fEq (.int a) .non h = some (.bl false, h) := by kernel_rfl
theorem w_eqNI (a : Int) (h : Hi) : fEq .non (.int a) h = some (.bl false, h) := by kernel_rfl
theorem w_eqX_II (a b : Int) (h : Hi) : fEqX (.int a) (.int b) h = some (.bl (decide (a = b)), h) := w_eqI a b h
theorem w_eqX_IN (a : Int) (h : Hi) : fEqX (.int a) .non h = some (.bl false, h) := w_eqIN a h
theorem w_eqX_NI (a : Int) (h : Hi) : fEqX .non (.int a) h = some (.bl false, h) := w_eqNI a h
theorem w_isN_I (a : Int) (h : Hi) : fIsN (.int a) .non h = some (.bl false, h) := rfl
theorem w_isN_N (h : Hi) : fIsN .non .non h = some (.bl true, h) := rfl
theorem w_addI (a b : Int) (h : Hi) : fAdd (.int a) (.int b) h = some (.int (a + b), h) := rfl
theorem w_subI (a b : Int) (h : Hi) : fSub (.int a) (.int b) h = some (.int (a - b), h) := rfl
theorem w_ltI (a b : Int) (h : Hi) : fLt (.int a) (.int b) h = some (.bl (decide (a < b)), h) := rfl
theorem w_modI {a b : Int} (k : 0 < b) (h : Hi) : fMod (.int a) (.int b) h = some (.int (a % b), h) := by simp [fMod, k]
theorem w_neIN (a : Int) (h : Hi) : fNe (.int a) .non h = some (.bl true, h) := by kernel_rfl
end ML
end
section
namespace ML
open PySem L2
theorem turnsC_fm {it : Itm} {t : Tgt} {vs : List Nat} {tt : MT} {el : ME} {σ : Sg} {xs : List VI} {h1 : Hi} {τ : VI → Sg} {p : VI → Bool} {f : VI → VI}
    (hn : ∀ i acc, it.nxt i (h1 ++ [.lst acc]) = some xs[i]?) (hput : ∀ x ∈ xs, t.put x (wipeM σ vs) = some (τ x)) (htt : ∀ x ∈ xs, ∀ acc, tt (τ x) (h1 ++ [.lst acc]) = .ok (p x) (h1 ++ [.lst acc]))
    (hel : ∀ x ∈ xs, p x = true → ∀ acc, el (τ x) (h1 ++ [.lst acc]) = .ok (f x) (h1 ++ [.lst acc])) (sm : xs.length ≤ 100000) : ∀ k i acc, i + k = xs.length → acc.length ≤ i →
    turnsC it t vs tt el h1.length σ k i (h1 ++ [.lst acc]) = some (h1 ++ [.lst (acc ++ ((xs.drop i).filter p).map f)])
  | 0, i, acc, e, _ => by
    have : xs.length ≤ i := by omega
    unfold turnsC
    rw [hn, List.getElem?_eq_none_iff.mpr this, List.drop_of_length_le this]
    simp
  | k + 1, i, acc, e, ha => by
    have hi : i < xs.length := by omega
    unfold turnsC
    rw [hn, List.getElem?_eq_getElem hi]
    have hm := List.getElem_mem hi
    dsimp only
    rw [hput _ hm]
    dsimp only
    rw [htt _ hm]
    have hd : xs.drop i = xs[i] :: xs.drop (i + 1) := List.drop_eq_getElem_cons hi
    rw [hd]
    cases q : p xs[i] with
    | false =>
      dsimp only
      rw [turnsC_fm hn hput htt hel sm k (i + 1) acc (by omega) (by omega), List.filter_cons_of_neg (by simp [q])]
    | true =>
      dsimp only
      rw [hel _ hm q]
      have e1 : (h1 ++ [OI.lst acc])[h1.length]? = some (.lst acc) := by simp
      dsimp only
      rw [e1]
      dsimp only
      have e2 : small (acc.length + 1) = true := by rw [z_small]; simp; omega
      rw [e2]
      dsimp only
      have e3 : (h1 ++ [OI.lst acc]).set h1.length (.lst (acc ++ [f xs[i]])) = h1 ++ [.lst (acc ++ [f xs[i]])] := by simp
      rw [e3, turnsC_fm hn hput htt hel sm k (i + 1) _ (by omega) (by simp; omega), List.filter_cons_of_pos (by simp [q])]
      simp
theorem lc_fm {mi : MI} {it : Itm} {t : Tgt} {vs : List Nat} {tt : MT} {el : ME} {σ : Sg} {xs : List VI} {h h1 : Hi} (τ : VI → Sg) (p : VI → Bool) (f : VI → VI) (hmi : mi σ h = .ok it h1) (hfu : it.fuel h1 = xs.length)
    (hn : ∀ i acc, it.nxt i (h1 ++ [.lst acc]) = some xs[i]?) (hput : ∀ x ∈ xs, t.put x (wipeM σ vs) = some (τ x)) (htt : ∀ x ∈ xs, ∀ acc, tt (τ x) (h1 ++ [.lst acc]) = .ok (p x) (h1 ++ [.lst acc]))
    (hel : ∀ x ∈ xs, p x = true → ∀ acc, el (τ x) (h1 ++ [.lst acc]) = .ok (f x) (h1 ++ [.lst acc])) (sm : xs.length ≤ 100000) :
    eLc mi t vs tt el σ h = .ok (.ref h1.length) (h1 ++ [.lst ((xs.filter p).map f)]) := by
  unfold eLc
  rw [hmi]
  show (match turnsC it t vs tt el h1.length σ (it.fuel h1) 0 (h1 ++ [.lst []]) with | some h2 => Res.ok (VI.ref h1.length) h2 | none => .err) = _
  rw [hfu, turnsC_fm hn hput htt hel sm xs.length 0 [] (by omega) (by simp)]
  simp
theorem nxt_tup (xs : List VI) (i : Nat) (h : Hi) : (Itm.tup xs).nxt i h = some xs[i]? := rfl
theorem nxt_lst {n : Nat} {xs : List VI} {h : Hi} (e : h[n]? = some (.lst xs)) (i : Nat) : (Itm.lst n).nxt i h = some xs[i]? := by simp [Itm.nxt, listAt, e]
theorem fuel_tup (xs : List VI) (h : Hi) : (Itm.tup xs).fuel h = xs.length := rfl
theorem fuel_lst {n : Nat} {xs : List VI} {h : Hi} (e : h[n]? = some (.lst xs)) : (Itm.lst n).fuel h = xs.length := by simp [Itm.fuel, listAt, e]
theorem seq_tup (xs : List VI) (h : Hi) : seqOf (.tup xs) h = some (.tup xs) := rfl
theorem seq_lst {n : Nat} {xs : List VI} {h : Hi} (e : h[n]? = some (.lst xs)) : seqOf (.ref n) h = some (.lst n) := by simp [seqOf, listAt, e]
theorem iSeq_l {e : ME} {σ : Sg} {h h1 : Hi} {n : Nat} {xs : List VI} (q : e σ h = .ok (.ref n) h1) (k : h1[n]? = some (.lst xs)) : iSeq e σ h = .ok (.lst n) h1 := by
  show (e σ h).bind _ = _
  rw [q]
  show ofI (seqOf (.ref n) h1) h1 = _
  rw [seq_lst k]; rfl
theorem at_app {h q : Hi} {m : Nat} {o : OI} (e : h[m]? = some o) : (h ++ q)[m]? = some o := by rw [List.getElem?_append_left (List.getElem?_eq_some_iff.mp e).1]; exact e
theorem fAdd_l {h : Hi} {a b : Nat} {xs ys : List VI} (e1 : h[a]? = some (.lst xs)) (e2 : h[b]? = some (.lst ys)) (sm : xs.length + ys.length ≤ 100000) : fAdd (.ref a) (.ref b) h = some (.ref h.length, h ++ [.lst (xs ++ ys)]) := by
  have s : small (xs.length + ys.length) = true := by rw [z_small]; simp; omega
  simp only [fAdd, e1, e2, s]
end ML
namespace ML
open PySem L2
end ML
end
section
namespace ML
open PySem L2
mutual
def pdV : VI → PyData
  | .bl b => .bool b
  | .int i => .int i
  | .str s => .str (toStr s)
  | .tup xs => .tuple (pdVs xs)
  | _ => .none
def pdVs : List VI → List PyData
  | [] => []
  | x :: xs => pdV x :: pdVs xs
end
mutual
def plV : Nat → VI → Bool
  | _, .non => true
  | _, .bl _ => true
  | _, .int _ => true
  | _, .str s => sok s
  | 0, .tup _ => false
  | n + 1, .tup xs => plVs n xs
  | _, _ => false
def plVs : Nat → List VI → Bool
  | _, [] => true
  | n, x :: xs => plV n x && plVs n xs
end
theorem sok_ok {s : S} (h : sok s = true) : PyData.canLay0 (.str (toStr s)) = true := by
  unfold sok at h
  exact SeqAt.canLay_of_shaped h
mutual
theorem dat_pd : ∀ (n m : Nat) (v : VI) (h : Hi), plV n v = true → n < m → dat m h v = some (pdV v)
  | n, 0, _, _, _, l => absurd l (Nat.not_lt_zero _)
  | _, m + 1, .non, _, _, _ => rfl
  | _, m + 1, .bl _, _, _, _ => rfl
  | _, m + 1, .int _, _, _, _ => rfl
  | _, m + 1, .str _, _, _, _ => rfl
  | 0, m + 1, .tup _, _, e, _ => by cases e
  | n + 1, m + 1, .tup xs, h, e, l => by
    have := datL_pd n m xs h (by simpa [plV] using e) (by omega)
    simp [dat, this, pdV]
  | 0, m + 1, .glo _, _, e, _ => by cases e
  | n + 1, m + 1, .glo _, _, e, _ => by cases e
  | 0, m + 1, .ref _, _, e, _ => by cases e
  | n + 1, m + 1, .ref _, _, e, _ => by cases e
theorem datL_pd : ∀ (n m : Nat) (xs : List VI) (h : Hi), plVs n xs = true → n < m → datL (dat m h) xs = some (pdVs xs)
  | _, _, [], _, _, _ => rfl
  | n, m, x :: xs, h, e, l => by
    simp only [plVs, Bool.and_eq_true] at e
    simp [datL, dat_pd n m x h e.1 l, datL_pd n m xs h e.2 l, pdVs]
end
mutual
theorem lay_pd : ∀ (n : Nat) (v : VI), plV n v = true → PyData.canLay0 (pdV v) = true ∧ PyData.depth (pdV v) ≤ n
  | _, .non, _ => ⟨rfl, Nat.zero_le _⟩
  | _, .bl _, _ => ⟨rfl, Nat.zero_le _⟩
  | _, .int _, _ => ⟨rfl, Nat.zero_le _⟩
  | n, .str s, e => ⟨sok_ok (by simpa [plV] using e), Nat.zero_le _⟩
  | 0, .tup _, e => by cases e
  | n + 1, .tup xs, e => by
    have := lays_pd n xs (by simpa [plV] using e)
    refine ⟨by simp [pdV, PyData.canLay0, this.1], ?_⟩
    simp only [pdV, PyData.depth]
    omega
  | 0, .glo _, e => by cases e
  | n + 1, .glo _, e => by cases e
  | 0, .ref _, e => by cases e
  | n + 1, .ref _, e => by cases e
theorem lays_pd : ∀ (n : Nat) (xs : List VI), plVs n xs = true → PyData.canLayAll0 (pdVs xs) = true ∧ PyData.depthAll (pdVs xs) ≤ n
  | _, [], _ => ⟨rfl, Nat.zero_le _⟩
  | n, x :: xs, e => by
    simp only [plVs, Bool.and_eq_true] at e
    have h1 := lay_pd n x e.1
    have h2 := lays_pd n xs e.2
    refine ⟨by simp [pdVs, PyData.canLayAll0, h1.1, h2.1], ?_⟩
    simp only [pdVs, PyData.depthAll]
    omega
end
theorem shaped_pd {n : Nat} {v : VI} (e : plV n v = true) (l : n ≤ 64) : SeqAt.shaped (pdV v) = true := by
  have := lay_pd n v e
  simp [SeqAt.shaped, this.1]; omega
mutual
theorem eqv_self : ∀ (v : VI), PyData.eqv (pdV v) (pdV v) = true
  | .non => by simp [pdV, PyData.eqv]
  | .bl _ => by simp [pdV, PyData.eqv]
  | .int _ => by simp [pdV, PyData.eqv]
  | .str s => by simp [pdV, PyData.eqv]
  | .tup xs => by simp [pdV, PyData.eqv, eqvs_self xs]
  | .glo _ => by simp [pdV, PyData.eqv]
  | .ref _ => by simp [pdV, PyData.eqv]
theorem eqvs_self : ∀ (xs : List VI), PyData.eqvAll (pdVs xs) (pdVs xs) = true
  | [] => by simp [pdVs, PyData.eqvAll]
  | x :: xs => by simp [pdVs, PyData.eqvAll, eqv_self x, eqvs_self xs]
end
mutual
def nbV : VI → Bool
  | .bl _ => false
  | .glo _ => false
  | .ref _ => false
  | .tup xs => nbVs xs
  | _ => true
def nbVs : List VI → Bool
  | [] => true
  | x :: xs => nbV x && nbVs xs
end
mutual
theorem eqv_inj : ∀ (v w : VI), nbV v = true → nbV w = true → PyData.eqv (pdV v) (pdV w) = true → v = w
  | .non, w, _, hw, e => by cases w <;> simp [pdV, PyData.eqv, nbV] at e hw ⊢
  | .bl _, _, hv, _, _ => by cases hv
  | .int i, w, _, hw, e => by
    cases w <;> simp [pdV, PyData.eqv, nbV] at e hw ⊢
    exact e
  | .str s, w, _, hw, e => by
    cases w <;> simp [pdV, PyData.eqv, nbV] at e hw ⊢
    exact toStr_inj e
  | .tup xs, w, hv, hw, e => by
    cases w with
    | tup ys =>
      simp only [pdV, PyData.eqv, nbV] at e hw hv
      rw [eqvs_inj xs ys hv hw e]
    | _ => simp [pdV, PyData.eqv, nbV] at e hw
  | .glo _, _, hv, _, _ => by cases hv
  | .ref _, _, hv, _, _ => by cases hv
theorem eqvs_inj : ∀ (xs ys : List VI), nbVs xs = true → nbVs ys = true → PyData.eqvAll (pdVs xs) (pdVs ys) = true → xs = ys
  | [], [], _, _, _ => rfl
  | [], y :: ys, _, _, e => by simp [pdVs, PyData.eqvAll] at e
  | x :: xs, [], _, _, e => by simp [pdVs, PyData.eqvAll] at e
  | x :: xs, y :: ys, hv, hw, e => by
    simp only [pdVs, PyData.eqvAll, Bool.and_eq_true, nbVs] at e hv hw
    rw [eqv_inj x y hv.1 hw.1 e.1, eqvs_inj xs ys hv.2 hw.2 e.2]
end
theorem inDl_pl {n : Nat} {v : VI} {ys : List VI} (hv : plV n v = true) (hy : plVs n ys = true) (l : n ≤ 60) (h : Hi) : inDl h v ys = some ((pdVs ys).any fun z => PyData.eqv z (pdV v)) := by
  unfold inDl
  rw [dat_pd n 66 v h hv (by omega), datL_pd n 65 ys h hy (by omega)]
  dsimp only
  have h1 := lays_pd n ys hy
  have h2 : SeqAt.shaped (.list (pdVs ys)) = true := by
    have h3 := h1.2
    simp [SeqAt.shaped, PyData.canLay0, h1.1, PyData.depth]
    omega
  rw [shaped_pd hv (by omega), h2]
  rfl
theorem fIn_tl {n m : Nat} {xs ys : List VI} {h : Hi} (hm : h[m]? = some (.lst ys)) (hv : plV n (.tup xs) = true) (hy : plVs n ys = true) (l : n ≤ 60) : fIn (.tup xs) (.ref m) h = some (.bl ((pdVs ys).any fun z => PyData.eqv z (pdV (.tup xs))), h) := by
  have e : inM (.tup xs) (.ref m) h = some ((pdVs ys).any fun z => PyData.eqv z (pdV (.tup xs))) := by
    simp only [inM, hm, flI, Bool.false_and]
    exact inDl_pl hv hy l h
  unfold fIn
  rw [e]
end ML
end
section
set_option maxHeartbeats 400000
namespace ML
open PySem L2
mutual
def flatV : VI → Bool
  | .ref _ => false
  | .tup xs => flatVs xs
  | _ => true
def flatVs : List VI → Bool
  | [] => true
  | x :: xs => flatV x && flatVs xs
end
def flatF : List (S × VI) → Bool
  | [] => true
  | (_, v) :: r => flatV v && flatF r
def flatK : List (VI × VI) → Bool
  | [] => true
  | (k, v) :: r => flatV k && (flatV v && flatK r)
def flatO : OI → Bool
  | .lst xs => flatVs xs
  | .scr xs => flatVs xs
  | .dic kvs => flatK kvs
  | .ins _ fs => flatF fs
  | .xd fs => flatF fs
  | .dnk kvs => flatK kvs
section
variable {r : List Nat}
mutual
theorem RV2.flat : ∀ {v w : VI}, RV2 r v w → flatV v = true → w = v
  | _, _, .non, _ => rfl
  | _, _, .bl _, _ => rfl
  | _, _, .int _, _ => rfl
  | _, _, .str _, _ => rfl
  | _, _, .glo _, _ => rfl
  | _, _, .ref _, e => by simp [flatV] at e
  | _, _, .tup t, e => by rw [RVs2.flat t (by simpa [flatV] using e)]
theorem RVs2.flat : ∀ {v w : List VI}, RVs2 r v w → flatVs v = true → w = v
  | _, _, .nil, _ => rfl
  | _, _, .cons a t, e => by
    simp only [flatVs, Bool.and_eq_true] at e
    rw [RV2.flat a e.1, RVs2.flat t e.2]
end
mutual
theorem RV2.self : ∀ (v : VI), flatV v = true → RV2 r v v
  | .non, _ => .non
  | .bl b, _ => .bl b
  | .int b, _ => .int b
  | .str b, _ => .str b
  | .glo b, _ => .glo b
  | .ref n, e => by simp [flatV] at e
  | .tup xs, e => .tup (RVs2.self xs (by simpa [flatV] using e))
theorem RVs2.self : ∀ (v : List VI), flatVs v = true → RVs2 r v v
  | [], _ => .nil
  | x :: xs, e => by
    simp only [flatVs, Bool.and_eq_true] at e
    exact .cons (RV2.self x e.1) (RVs2.self xs e.2)
end
theorem RFs2.flat : ∀ {v w : List (S × VI)}, RFs2 r v w → flatF v = true → w = v
  | _, _, .nil, _ => rfl
  | _, _, .cons a t, e => by
    simp only [flatF, Bool.and_eq_true] at e
    rw [a.flat e.1, RFs2.flat t e.2]
theorem RKs2.flat : ∀ {v w : List (VI × VI)}, RKs2 r v w → flatK v = true → w = v
  | _, _, .nil, _ => rfl
  | _, _, .cons a b t, e => by
    simp only [flatK, Bool.and_eq_true] at e
    rw [a.flat e.1, b.flat e.2.1, RKs2.flat t e.2.2]
theorem RFs2.self : ∀ (v : List (S × VI)), flatF v = true → RFs2 r v v
  | [], _ => .nil
  | (f, x) :: xs, e => by
    simp only [flatF, Bool.and_eq_true] at e
    exact .cons (RV2.self x e.1) (RFs2.self xs e.2)
theorem RKs2.self : ∀ (v : List (VI × VI)), flatK v = true → RKs2 r v v
  | [], _ => .nil
  | (f, x) :: xs, e => by
    simp only [flatK, Bool.and_eq_true] at e
    exact .cons (RV2.self f e.1) (RV2.self x e.2.1) (RKs2.self xs e.2.2)
theorem RO2.flat {o o' : OI} (k : RO2 r o o') (e : flatO o = true) : o' = o := by
  cases k with
  | lst t => rw [t.flat e]
  | scr t => rw [t.flat e]
  | dic t => rw [t.flat e]
  | ins t => rw [t.flat e]
  | xd t => rw [t.flat e]
  | dnk t => rw [t.flat e]
theorem RO2.self (o : OI) (e : flatO o = true) : RO2 r o o := by
  cases o with
  | lst t => exact .lst (.self _ e)
  | scr t => exact .scr (.self _ e)
  | dic t => exact .dic (.self _ e)
  | ins c t => exact .ins (.self _ e)
  | xd t => exact .xd (.self _ e)
  | dnk t => exact .dnk (.self _ e)
end
theorem Ag2.of {r : List Nat} {s h : Hi} (nd : r.Nodup) (len : r.length = s.length) (k : ∀ (n : Nat) (o : OI), s[n]? = some o → ∃ (m : Nat) (o' : OI), r[n]? = some m ∧ h[m]? = some o' ∧ RO2 r o o') : Ag2 r s h := ⟨nd, len, k⟩
theorem Ag2.one {p : Nat} {o o' : OI} {h : Hi} (e : h[p]? = some o') (k : RO2 [p] o o') : Ag2 [p] [o] h := ⟨by simp, rfl, fun n u q => by
  cases n with
  | zero => cases q; exact ⟨p, o', rfl, e, k⟩
  | succ n => simp at q⟩
theorem Ag2.two {p p2 : Nat} {o o' u u' : OI} {h : Hi} (ne : p ≠ p2) (e : h[p]? = some o') (k : RO2 [p, p2] o o') (e2 : h[p2]? = some u') (k2 : RO2 [p, p2] u u') : Ag2 [p, p2] [o, u] h := ⟨by simp [ne], rfl, fun n w q => by
  match n with
  | 0 => cases q; exact ⟨p, o', rfl, e, k⟩
  | 1 => cases q; exact ⟨p2, u', rfl, e2, k2⟩
  | n + 2 => simp at q⟩
structure Fr (ps : List Nat) (h h' : Hi) : Prop where
  len : h.length ≤ h'.length
  at_ : ∀ (m : Nat) (o : OI), m ∉ ps → h[m]? = some o → h'[m]? = some o
theorem Fr.refl {ps : List Nat} {h : Hi} : Fr ps h h := ⟨Nat.le_refl _, fun _ _ _ e => e⟩
theorem Fr.trans {ps : List Nat} {h h1 h2 : Hi} (a : Fr ps h h1) (b : Fr ps h1 h2) : Fr ps h h2 := ⟨Nat.le_trans a.len b.len, fun m o n e => b.at_ m o n (a.at_ m o n e)⟩
theorem Fr.weak {ps qs : List Nat} {h h1 : Hi} (a : Fr ps h h1) (k : ∀ m ∈ ps, m ∈ qs) : Fr qs h h1 := ⟨a.len, fun m o n e => a.at_ m o (fun z => n (k m z)) e⟩
theorem Fr.app {ps : List Nat} {h q : Hi} : Fr ps h (h ++ q) := ⟨by simp, fun m o _ e => by rw [List.getElem?_append_left (List.getElem?_eq_some_iff.mp e).1]; exact e⟩
theorem lift_fr {f : MF} [x : LF f] {r : List Nat} {s h s' : Hi} {vs vs' : List VI} {v : VI} (chg : List Nat) (e : f vs s = .ok v s') (g : Ag2 r s h) (t : RVs2 r vs vs')
    (hc : ∀ (i : Nat) (o : OI), i ∉ chg → s[i]? = some o → s'[i]? = some o ∧ flatO o = true) :
    ∃ r' h' v', f vs' h = .ok v' h' ∧ Ex2 r h r' h' ∧ Ag2 r' s' h' ∧ RV2 r' v v' ∧ Fr (chg.filterMap (r[·]?)) h h' := by
  obtain ⟨r', h', v', e1, e2, e3, e4⟩ := lift x e g t
  refine ⟨r', h', v', e1, e2, e3, e4, e2.len, fun m o hn hm => ?_⟩
  by_cases hr : m ∈ r
  · obtain ⟨i, hi⟩ := List.mem_iff_getElem?.mp hr
    have hi' : i ∉ chg := fun z => hn (List.mem_filterMap.mpr ⟨i, z, hi⟩)
    obtain ⟨u, u', k1, k2, k3⟩ := g.no hi
    rw [hm] at k2
    cases k2
    obtain ⟨k4, k5⟩ := hc i u hi' k1
    have := k3.flat k5
    subst this
    obtain ⟨w', z1, z2⟩ := e3.at_ k4 (e2.pre hi)
    rw [z1, z2.flat k5]
  · rw [e2.rest m hr (List.getElem?_eq_some_iff.mp hm).1]
    exact hm
theorem Ex2.fresh {r r' : List Nat} {h h' : Hi} (e : Ex2 r h r' h') {n m : Nat} (q : r'[n]? = some m) (l : r.length ≤ n) : h.length ≤ m := by
  obtain ⟨z, rfl, k⟩ := e.more
  rw [List.getElem?_append_right l] at q
  exact k m (List.mem_of_getElem? q)
end ML
end
section
set_option maxHeartbeats 400000
namespace ML
open PySem L2
section
variable {α β : Type} {σ σ1 : Sg} {h h1 : Hi}
@[simp] theorem x_bind (a : α) (f : α → Hi → Res β) : Res.bind (.ok a h) f = f a h := rfl
@[simp] theorem x_bindS (a : α) (f : α → Hi → RS) : Res.bindS (.ok a h) σ f = f a h := rfl
@[simp] theorem x_nx (f : MS) : RS.andThen (.nx σ h) f = f σ h := rfl
@[simp] theorem x_rt (v : VI) (f : MS) : RS.andThen (.rt v h) f = .rt v h := rfl
@[simp] theorem x_endN : endB (.nx σ h) = .ok .non h := rfl
@[simp] theorem x_endR (v : VI) : endB (.rt v h) = .ok v h := rfl
@[simp] theorem x_eV (i : Nat) : eV i σ h = match σ[i]? with
  | some (some v) => .ok v h
  | _ => .err := rfl
@[simp] theorem x_eC (v : VI) : eC v σ h = .ok v h := rfl
@[simp] theorem x_aNil : aNil σ h = .ok [] h := rfl
@[simp] theorem x_aCons (a : ME) (r : MA) : aCons a r σ h = (a σ h).bind fun x h1 => (r σ h1).bind fun xs h2 => .ok (x :: xs) h2 := rfl
@[simp] theorem x_eBin (f : Op2) (a b : ME) : eBin f a b σ h = (a σ h).bind fun x h1 => (b σ h1).bind fun y h2 => ofO (f x y h2) := rfl
@[simp] theorem x_ofO (v : α) : ofO (some (v, h)) = .ok v h := rfl
@[simp] theorem x_tOf (e : ME) : tOf e σ h = (e σ h).bind fun v h1 => match v with
  | .bl b => .ok b h1
  | _ => .err := rfl
@[simp] theorem x_tAnd (a b : MT) : tAndM a b σ h = (a σ h).bind fun c h1 => match c with
  | true => b σ h1
  | false => .ok false h1 := rfl
@[simp] theorem x_tOr (a b : MT) : tOrM a b σ h = (a σ h).bind fun c h1 => match c with
  | true => .ok true h1
  | false => b σ h1 := rfl
@[simp] theorem x_tNot (a : MT) : tNotM a σ h = (a σ h).bind fun c h1 => .ok (!c) h1 := rfl
@[simp] theorem x_eIf (t : MT) (a b : ME) : eIf t a b σ h = (t σ h).bind fun c h1 => match c with
  | true => a σ h1
  | false => b σ h1 := rfl
@[simp] theorem x_sNx : sNx σ h = .nx σ h := rfl
@[simp] theorem x_sSeq (a b : MS) : sSeq a b σ h = (a σ h).andThen b := rfl
@[simp] theorem x_sRet (e : ME) : sRet e σ h = (e σ h).bindS σ fun v h1 => .rt v h1 := rfl
@[simp] theorem x_sDrop (e : ME) : sDrop e σ h = (e σ h).bindS σ fun _ h1 => .nx σ h1 := rfl
@[simp] theorem x_sIf (t : MT) (a b : MS) : sIf t a b σ h = (t σ h).bindS σ fun c h1 => match c with
  | true => a σ h1
  | false => b σ h1 := rfl
@[simp] theorem x_gNm (i : Nat) (v : VI) : gNm i v σ h = .nx (σ.set i (some v)) h := rfl
@[simp] theorem x_sAsg (e : ME) (g : MG) : sAsg e g σ h = (e σ h).bindS σ fun v h1 => g v σ h1 := rfl
@[simp] theorem x_eCall (g : MF) (ma : MA) : eCall g ma σ h = (ma σ h).bind fun vs h1 => g vs h1 := rfl
@[simp] theorem x_eCB (f : OpC) (ma : MA) : eCB f ma σ h = (ma σ h).bind fun vs h1 => ofO (f vs h1) := rfl
@[simp] theorem x_sFor (mi : MI) (g : MG) (b : MS) : sFor mi g b σ h = (mi σ h).bindS σ fun it h1 => turns it g b (it.fuel h1) 0 σ h1 := rfl
@[simp] theorem x_iSeq (e : ME) : iSeq e σ h = (e σ h).bind fun v h1 => ofI (seqOf v h1) h1 := rfl
@[simp] theorem x_iRng (a : MA) : iRng a σ h = (a σ h).bind fun vs h1 => ofI (rngOf vs) h1 := rfl
@[simp] theorem x_ofI (it : Itm) : ofI (some it) h = .ok it h := rfl
@[simp] theorem x_dropV (v : VI) : dropV σ (.ok v h) = .nx σ h := rfl
@[simp] theorem x_nxO : nxO σ (some h) = .nx σ h := rfl
@[simp] theorem x_okM (v : VI) : okM (.ok v h) = .ok v h := rfl
end
@[simp] theorem x_run0 (n : Nat) (b : MS) (h : Hi) : runB 0 n b [] h = endB (b (List.replicate n none) h) := rfl
@[simp] theorem x_run1 (n : Nat) (b : MS) (a0 : VI) (h : Hi) : runB 1 n b [a0] h = endB (b (some a0 :: List.replicate n none) h) := rfl
@[simp] theorem x_run2 (n : Nat) (b : MS) (a0 a1 : VI) (h : Hi) : runB 2 n b [a0, a1] h = endB (b (some a0 :: some a1 :: List.replicate n none) h) := rfl
@[simp] theorem x_run3 (n : Nat) (b : MS) (a0 a1 a2 : VI) (h : Hi) : runB 3 n b [a0, a1, a2] h = endB (b (some a0 :: some a1 :: some a2 :: List.replicate n none) h) := rfl
@[simp] theorem x_run4 (n : Nat) (b : MS) (a0 a1 a2 a3 : VI) (h : Hi) : runB 4 n b [a0, a1, a2, a3] h = endB (b (some a0 :: some a1 :: some a2 :: some a3 :: List.replicate n none) h) := rfl
@[simp] theorem x_run5 (n : Nat) (b : MS) (a0 a1 a2 a3 a4 : VI) (h : Hi) : runB 5 n b [a0, a1, a2, a3, a4] h = endB (b (some a0 :: some a1 :: some a2 :: some a3 :: some a4 :: List.replicate n none) h) := rfl
@[simp] theorem x_run6 (n : Nat) (b : MS) (a0 a1 a2 a3 a4 a5 : VI) (h : Hi) : runB 6 n b [a0, a1, a2, a3, a4, a5] h = endB (b (some a0 :: some a1 :: some a2 :: some a3 :: some a4 :: some a5 :: List.replicate n none) h) := rfl
@[simp] theorem x_run7 (n : Nat) (b : MS) (a0 a1 a2 a3 a4 a5 a6 : VI) (h : Hi) : runB 7 n b [a0, a1, a2, a3, a4, a5, a6] h = endB (b (some a0 :: some a1 :: some a2 :: some a3 :: some a4 :: some a5 :: some a6 :: List.replicate n none) h) := rfl
@[simp] theorem x_run8 (n : Nat) (b : MS) (a0 a1 a2 a3 a4 a5 a6 a7 : VI) (h : Hi) : runB 8 n b [a0, a1, a2, a3, a4, a5, a6, a7] h = endB (b (some a0 :: some a1 :: some a2 :: some a3 :: some a4 :: some a5 :: some a6 :: some a7 :: List.replicate n none) h) := rfl
@[simp] theorem x_run9 (n : Nat) (b : MS) (a0 a1 a2 a3 a4 a5 a6 a7 a8 : VI) (h : Hi) : runB 9 n b [a0, a1, a2, a3, a4, a5, a6, a7, a8] h = endB (b (some a0 :: some a1 :: some a2 :: some a3 :: some a4 :: some a5 :: some a6 :: some a7 :: some a8 :: List.replicate n none) h) := rfl
@[simp] theorem x_rep0 : (List.replicate 0 none : Sg) = [] := rfl
@[simp] theorem x_rep1 : (List.replicate 1 none : Sg) = [none] := rfl
@[simp] theorem x_rep2 : (List.replicate 2 none : Sg) = [none, none] := rfl
@[simp] theorem x_rep3 : (List.replicate 3 none : Sg) = [none, none, none] := rfl
@[simp] theorem x_rep4 : (List.replicate 4 none : Sg) = [none, none, none, none] := rfl
@[simp] theorem x_rep5 : (List.replicate 5 none : Sg) = [none, none, none, none, none] := rfl
theorem turns_inv {it : Itm} {g : MG} {body : MS} (n : Nat) (I : Nat → Sg → Hi → Prop)
    (step : ∀ i σ h, i < n → I i σ h → ∃ x σ1 h1 σ2 h2, it.nxt i h = some (some x) ∧ g x σ h = .nx σ1 h1 ∧ body σ1 h1 = .nx σ2 h2 ∧ I (i + 1) σ2 h2)
    (fin : ∀ σ h, I n σ h → it.nxt n h = some none) : ∀ k i σ h, i + k = n → I i σ h → ∃ σ2 h2, turns it g body k i σ h = .nx σ2 h2 ∧ I n σ2 h2
  | 0, i, σ, h, e, q => by
    have : i = n := by omega
    subst this
    refine ⟨σ, h, ?_, q⟩
    unfold turns
    rw [fin σ h q]
  | k + 1, i, σ, h, e, q => by
    obtain ⟨x, σ1, h1, σ2, h2, a, b, c, q2⟩ := step i σ h (by omega) q
    obtain ⟨σ3, h3, r, q3⟩ := turns_inv n I step fin k (i + 1) σ2 h2 (by omega) q2
    refine ⟨σ3, h3, ?_, q3⟩
    unfold turns
    simp only [a, b, c, x_nx]
    exact r
end ML
end
section
set_option maxHeartbeats 400000
namespace ML
open PySem L2
section
variable {r : List Nat}
mutual
theorem RV2.fn : ∀ {v x y : VI}, RV2 r v x → RV2 r v y → y = x
  | _, _, _, .non, .non => rfl
  | _, _, _, .bl _, .bl _ => rfl
  | _, _, _, .int _, .int _ => rfl
  | _, _, _, .str _, .str _ => rfl
  | _, _, _, .glo _, .glo _ => rfl
  | _, _, _, .ref e, .ref e' => by rw [e] at e'; cases e'; rfl
  | _, _, _, .tup t, .tup t' => by rw [RVs2.fn t t']
theorem RVs2.fn : ∀ {v x y : List VI}, RVs2 r v x → RVs2 r v y → y = x
  | _, _, _, .nil, .nil => rfl
  | _, _, _, .cons a t, .cons a' t' => by rw [RV2.fn a a', RVs2.fn t t']
end
theorem RFs2.fn : ∀ {v x y : List (S × VI)}, RFs2 r v x → RFs2 r v y → y = x
  | _, _, _, .nil, .nil => rfl
  | _, _, _, .cons a t, .cons a' t' => by rw [RV2.fn a a', RFs2.fn t t']
theorem RKs2.fn : ∀ {v x y : List (VI × VI)}, RKs2 r v x → RKs2 r v y → y = x
  | _, _, _, .nil, .nil => rfl
  | _, _, _, .cons k a t, .cons k' a' t' => by rw [RV2.fn k k', RV2.fn a a', RKs2.fn t t']
theorem RO2.fn {o x y : OI} (a : RO2 r o x) (b : RO2 r o y) : y = x := by
  cases a with
  | lst t => cases b with | lst t' => rw [t.fn t']
  | scr t => cases b with | scr t' => rw [t.fn t']
  | dic t => cases b with | dic t' => rw [t.fn t']
  | ins t => cases b with | ins t' => rw [t.fn t']
  | xd t => cases b with | xd t' => rw [t.fn t']
  | dnk t => cases b with | dnk t' => rw [t.fn t']
end
end ML
end
section
namespace Lw
open PySem L2 ML
structure PoolOk (a b : Int) : Prop where
  a0 : 0 ≤ a
  b0 : 0 ≤ b
  b1 : b < 2147483647
theorem take_s {a b m : Int} (k : PoolOk a b) (m0 : 0 < m) (m1 : m < 1073741824) : ∃ v a' b', f__law_take [.ref 0, .int m] [.lst [.int a, .int b]] = .ok (.int v) [.lst [.int a', .int b']] ∧ 0 ≤ v ∧ v < m ∧ PoolOk a' b' := by
  obtain ⟨a0, b0, b1⟩ := k
  by_cases h : 0 < a
  · refine ⟨a % m, a / m, b, ?_, Int.emod_nonneg _ (by omega), Int.emod_lt_of_pos _ m0, ⟨Int.ediv_nonneg a0 (by omega), b0, b1⟩⟩
    simp [f__law_take, m__law_take, runB, endB, sSeq, sIf, sAsg, sRet, sNx, gNm, gIx, gIxU, nxO, putIx, tOf, eBin, eCB, aCons, aNil, cInt, eIxU, eV, eC, insC, fIx, ixL, ixI, fGt, fInt, fMod, fFdiv, ofO, Res.bind, Res.bindS, RS.andThen, h, m0, m1]
  · refine ⟨((b * 48271 + 11) % 2147483647 * ((b * 48271 + 11) % 2147483647) % 2147483629 / 64) % m, a, (b * 48271 + 11) % 2147483647, ?_, Int.emod_nonneg _ (by omega), Int.emod_lt_of_pos _ m0, ⟨a0, Int.emod_nonneg _ (by omega), Int.emod_lt_of_pos _ (by omega)⟩⟩
    have bn : bnd ((b * 48271 + 11) % 2147483647) = true := by
      have h1 := Int.emod_nonneg (b * 48271 + 11) (show (2147483647 : Int) ≠ 0 by omega)
      have h2 := Int.emod_lt_of_pos (b * 48271 + 11) (show (0 : Int) < 2147483647 by omega)
      simp only [bnd, Bool.and_eq_true, decide_eq_true_eq]
      omega
    have bn2 : bnd 48271 = true := by decide
    simp [f__law_take, m__law_take, runB, endB, sSeq, sIf, sAsg, sRet, sNx, gNm, gIx, gIxU, nxO, putIx, tOf, eBin, eCB, aCons, aNil, cInt, eIxU, eV, eC, insC, fIx, ixL, ixI, fGt, fInt, fMod, fFdiv, fMul, fAdd, ofO, Res.bind, Res.bindS, RS.andThen, h, m0, m1, bn, bn2]
def PoolAt (h : Hi) (p : Nat) : Prop := ∃ a b, h[p]? = some (.lst [.int a, .int b]) ∧ PoolOk a b
theorem take_g {h : Hi} {p : Nat} {m : Int} (P : PoolAt h p) (m0 : 0 < m) (m1 : m < 1073741824) : ∃ v h', f__law_take [.ref p, .int m] h = .ok (.int v) h' ∧ 0 ≤ v ∧ v < m ∧ PoolAt h' p ∧ Fr [p] h h' := by
  obtain ⟨a, b, e, k⟩ := P
  obtain ⟨v, a', b', e1, v0, v1, k'⟩ := take_s k m0 m1
  obtain ⟨r', h', v', f1, f2, f3, f4, f5⟩ := lift_fr (r := [p]) (vs' := [.ref p, .int m]) [0] e1 (.one e (.self _ rfl)) (.cons (.ref rfl) (.cons (.int _) .nil)) (fun i o hi ho => by
    cases i with
    | zero => exact absurd (List.mem_singleton.mpr rfl) hi
    | succ i => simp at ho)
  cases f4
  obtain ⟨o', g1, g2⟩ := f3.at_ (n := 0) rfl (f2.pre (n := 0) rfl)
  cases g2.flat rfl
  exact ⟨v, h', f1, v0, v1, ⟨a', b', g1, k'⟩, f5⟩
end Lw
end
section
namespace ML
open PySem L2
theorem dat_lst {n m k : Nat} {h : Hi} {xs : List VI} (e : h[n]? = some (.lst xs)) (px : plVs k xs = true) (l : k < m) : dat (m + 1) h (.ref n) = some (.list (pdVs xs)) := by
  simp [dat, e, datL_pd k m xs h px l]
mutual
theorem pl_up : ∀ {n m : Nat} {v : VI}, plV n v = true → n ≤ m → plV m v = true
  | _, _, .non, _, _ => by unfold plV; rfl
  | _, _, .bl _, _, _ => by unfold plV; rfl
  | _, _, .int _, _, _ => by unfold plV; rfl
  | _, _, .str s, e, _ => by simpa [plV] using e
  | 0, _, .tup _, e, _ => by cases e
  | n + 1, 0, .tup _, _, l => absurd l (by omega)
  | n + 1, m + 1, .tup xs, e, l => by
    simp only [plV] at e ⊢
    exact pls_up e (by omega)
  | 0, _, .glo _, e, _ => by cases e
  | n + 1, _, .glo _, e, _ => by cases e
  | 0, _, .ref _, e, _ => by cases e
  | n + 1, _, .ref _, e, _ => by cases e
theorem pls_up : ∀ {n m : Nat} {vs : List VI}, plVs n vs = true → n ≤ m → plVs m vs = true
  | _, _, [], _, _ => rfl
  | n, m, v :: vs, e, l => by
    simp only [plVs, Bool.and_eq_true] at e ⊢
    exact ⟨pl_up e.1 l, pls_up e.2 l⟩
end
theorem pls_of {n : Nat} : ∀ {vs : List VI}, (∀ v ∈ vs, plV n v = true) → plVs n vs = true
  | [], _ => rfl
  | v :: vs, h => by
    have := pls_of (vs := vs) (fun x hx => h x (List.mem_cons_of_mem _ hx))
    simp [plVs, h v (by simp), this]
theorem eqD_same {n m k : Nat} {h : Hi} {xs : List VI} (e1 : h[n]? = some (.lst xs)) (e2 : h[m]? = some (.lst xs)) (px : plVs k xs = true) (l : k < 60) : eqD h (.ref n) (.ref m) = some true := by
  unfold eqD
  rw [dat_lst e1 px (by omega), dat_lst e2 px (by omega)]
  have a := lays_pd k xs px
  have s1 : SeqAt.shaped (.list (pdVs xs)) = true := by
    simp [SeqAt.shaped, PyData.canLay0, PyData.depth, a.1]; omega
  dsimp only
  rw [s1]
  have : PyData.eqv (.list (pdVs xs)) (.list (pdVs xs)) = true := by
    have := eqv_self (.tup xs)
    simpa [pdV, PyData.eqv] using this
  rw [this]
  rfl
theorem fNe_same {n m k : Nat} {h : Hi} {xs : List VI} (e1 : h[n]? = some (.lst xs)) (e2 : h[m]? = some (.lst xs)) (px : plVs k xs = true) (l : k < 60) : fNe (.ref n) (.ref m) h = some (.bl false, h) := by
  unfold fNe
  rw [eqD_same e1 e2 px l]
  rfl
theorem fEq_same {n m k : Nat} {h : Hi} {xs : List VI} (e1 : h[n]? = some (.lst xs)) (e2 : h[m]? = some (.lst xs)) (px : plVs k xs = true) (l : k < 60) : fEq (.ref n) (.ref m) h = some (.bl true, h) := by
  unfold fEq
  rw [eqD_same e1 e2 px l]
theorem fEqX_same {n m k : Nat} {h : Hi} {xs : List VI} (e1 : h[n]? = some (.lst xs)) (e2 : h[m]? = some (.lst xs)) (px : plVs k xs = true) (l : k < 60) : fEqX (.ref n) (.ref m) h = some (.bl true, h) := by
  unfold fEqX
  dsimp only
  rw [e1, e2]
  exact fEq_same e1 e2 px l
mutual
def kyV : VI → NestedKey
  | .bl b => .num (if b then 1 else 0)
  | .int i => .num i
  | .str s => .text (toStr s)
  | .tup xs => .tup (kyVs xs)
  | _ => .none
def kyVs : List VI → List NestedKey
  | [] => []
  | x :: xs => kyV x :: kyVs xs
end
theorem kyLf {v : VI} {a : NestedKey} (h : nkLf v = some a) : a = kyV v := by
  cases v <;> first | (cases h; simp [kyV]; done) | cases h
theorem kys_of {f : VI → Option NestedKey} : ∀ {xs : List VI} {as : List NestedKey}, (∀ x ∈ xs, ∀ a, f x = some a → a = kyV x) → nksOf f xs = some as → as = kyVs xs
  | [], as, _, h => by cases h; rfl
  | x :: xs, as, k, h => by
    unfold nksOf at h
    cases q : f x with
    | none => rw [q] at h; cases h
    | some a =>
      rw [q] at h
      cases q2 : nksOf f xs with
      | none => rw [q2] at h; cases h
      | some bs =>
        rw [q2] at h
        cases h
        simp only [kyVs]
        rw [← k x (by simp) a q, ← kys_of (fun y hy => k y (by simp [hy])) q2]
theorem kyOf : ∀ (f : Nat) (v : VI) (a : NestedKey), nkOf f v = some a → a = kyV v
  | 0, v, a, h => kyLf h
  | f + 1, .tup xs, a, h => by
    have h : (nksOf (nkOf f) xs).map NestedKey.tup = some a := h
    cases q : nksOf (nkOf f) xs with
    | none => rw [q] at h; cases h
    | some as =>
      rw [q] at h
      cases h
      simp only [kyV]
      rw [← kys_of (fun x _ a e => kyOf f x a e) q]
  | f + 1, .non, a, h => kyLf h
  | f + 1, .bl _, a, h => kyLf h
  | f + 1, .int _, a, h => kyLf h
  | f + 1, .str _, a, h => kyLf h
  | f + 1, .glo _, a, h => kyLf h
  | f + 1, .ref _, a, h => kyLf h
theorem kyD {v : VI} {a : NestedKey} (h : nkD v = some a) : a = kyV v := by
  cases v with
  | tup xs => exact kyOf 8 (.tup xs) a h
  | _ => cases h
mutual
theorem eqv_ky : ∀ (n m : Nat) (v w : VI), plV n v = true → plV m w = true → PyData.eqv (pdV v) (pdV w) = decide (kyV v = kyV w)
  | n, m, .non, w, pv, pw => by
    cases w <;> first | (simp [pdV, PyData.eqv, kyV]; done) | (cases m <;> cases pw)
  | n, m, .bl b, w, pv, pw => by
    cases w <;> first | (simp [pdV, PyData.eqv, kyV]; done) | (cases m <;> cases pw; done) | skip
    · rename_i c; cases b <;> cases c <;> simp [pdV, PyData.eqv, kyV]
    · rename_i c; cases b <;> simp only [pdV, PyData.eqv, kyV, NestedKey.num.injEq] <;> first | rfl | exact (Bool.eq_iff_iff.mpr (by simp))
  | n, m, .int i, w, pv, pw => by
    cases w <;> first | (simp [pdV, PyData.eqv, kyV]; done) | (cases m <;> cases pw; done) | skip
    all_goals (simp only [pdV, PyData.eqv, kyV, NestedKey.num.injEq]; exact (Bool.eq_iff_iff.mpr (by simp)))
  | n, m, .str s, w, pv, pw => by
    cases w <;> first | (simp [pdV, PyData.eqv, kyV]; done) | (cases m <;> cases pw; done) | skip
    simp only [pdV, PyData.eqv, kyV, NestedKey.text.injEq]
    exact (Bool.eq_iff_iff.mpr (by simp))
  | n, m, .tup xs, w, pv, pw => by
    cases w with
    | tup ys =>
      match n, m, pv, pw with
      | n + 1, m + 1, pv, pw =>
        simp only [pdV, PyData.eqv, kyV, NestedKey.tup.injEq]
        exact eqvs_ky n m xs ys pv pw
    | _ => first | (simp [pdV, PyData.eqv, kyV]; done) | (cases m <;> cases pw)
  | n, m, .glo _, w, pv, pw => by cases n <;> cases pv
  | n, m, .ref _, w, pv, pw => by cases n <;> cases pv
theorem eqvs_ky : ∀ (n m : Nat) (xs ys : List VI), plVs n xs = true → plVs m ys = true → PyData.eqvAll (pdVs xs) (pdVs ys) = decide (kyVs xs = kyVs ys)
  | n, m, [], ys, pv, pw => by cases ys <;> simp [pdVs, kyVs, PyData.eqvAll]
  | n, m, x :: xs, [], pv, pw => by simp [pdVs, kyVs, PyData.eqvAll]
  | n, m, x :: xs, y :: ys, pv, pw => by
    simp only [plVs, Bool.and_eq_true] at pv pw
    simp only [pdVs, kyVs, PyData.eqvAll, eqv_ky n m x y pv.1 pw.1, eqvs_ky n m xs ys pv.2 pw.2, List.cons.injEq, Bool.decide_and]
end
theorem Fr.get {ps : List Nat} {h h' : Hi} (F : Fr ps h h') {m : Nat} {o : OI} (e : h[m]? = some o) (n : m ∉ ps) : h'[m]? = some o := F.at_ m o n e
theorem at_lt {h : Hi} {m : Nat} {o : OI} (e : h[m]? = some o) : m < h.length := (List.getElem?_eq_some_iff.mp e).1
theorem Fr.set {h : Hi} {n : Nat} {o : OI} : Fr [n] h (h.set n o) := ⟨by simp, fun m u hn e => by
  rw [List.getElem?_set_ne (by simpa using fun z => hn (by simp [z]))]; exact e⟩
theorem Fr.setNew {h : Hi} {n : Nat} {o : OI} (l : h.length ≤ n) {h2 : Hi} (F : Fr [] h h2) : Fr [] h (h2.set n o) := ⟨by simpa using F.len, fun m u _ e => by
  have := at_lt e
  rw [List.getElem?_set_ne (by omega)]; exact F.at_ m u (by simp) e⟩
theorem Fr.made {h h' : Hi} {o : OI} (F : Fr [h.length] (h ++ [o]) h') : Fr [] h h' := ⟨by have := F.len; simp at this; omega, fun m u _ e => F.at_ m u (by simp; have := at_lt e; omega) (at_app e)⟩
theorem Fr.nil {ps : List Nat} {h h1 : Hi} (a : Fr [] h h1) : Fr ps h h1 := a.weak (by simp)
mutual
theorem nk_pl : ∀ (n m : Nat) (v : VI), plV n v = true → n ≤ m → ∃ k, nkOf m v = some k
  | _, 0, .non, _, _ => ⟨_, rfl⟩
  | _, 0, .bl _, _, _ => ⟨_, rfl⟩
  | _, 0, .int _, _, _ => ⟨_, rfl⟩
  | _, 0, .str _, _, _ => ⟨_, rfl⟩
  | _, _ + 1, .non, _, _ => ⟨_, rfl⟩
  | _, _ + 1, .bl _, _, _ => ⟨_, rfl⟩
  | _, _ + 1, .int _, _, _ => ⟨_, rfl⟩
  | _, _ + 1, .str _, _, _ => ⟨_, rfl⟩
  | 0, _, .tup _, e, _ => by cases e
  | n + 1, 0, .tup _, _, l => by omega
  | n + 1, m + 1, .tup xs, e, l => by
    obtain ⟨ks, q⟩ := nks_pl n m xs e (by omega)
    exact ⟨.tup ks, by show (nksOf (nkOf m) xs).map NestedKey.tup = _; rw [q]; rfl⟩
  | 0, _, .glo _, e, _ => by cases e
  | _ + 1, _, .glo _, e, _ => by cases e
  | 0, _, .ref _, e, _ => by cases e
  | _ + 1, _, .ref _, e, _ => by cases e
theorem nks_pl : ∀ (n m : Nat) (xs : List VI), plVs n xs = true → n ≤ m → ∃ ks, nksOf (nkOf m) xs = some ks
  | _, _, [], _, _ => ⟨[], rfl⟩
  | n, m, x :: xs, e, l => by
    simp only [plVs, Bool.and_eq_true] at e
    obtain ⟨k, q⟩ := nk_pl n m x e.1 l
    obtain ⟨ks, q2⟩ := nks_pl n m xs e.2 l
    exact ⟨k :: ks, by unfold nksOf; rw [q, q2]⟩
end
end ML
end
section
namespace Lw
open PySem L2 ML
def plnT (g : MF) (ar : List VI → List VI → List VI) : MS := (sIf (tOf (eIsi i_tuple.t (eV 2))) (sIf (tNotM (tOf (eCallK 2 0 (fnK g ar) (aCons (eV 2) (aCons (eBin fAdd (eV 1) (eC (.int 1))) aNil)) aNil))) (sRet (eC (.bl false))) sNx) (sIf (tAndM (tOf (eBin fNotN (eV 2) (eC .non))) (tNotM (tOf (eIsi i_int_str_bool.t (eV 2))))) (sRet (eC (.bl false))) sNx))
def plnM (g : MF) (ar : List VI → List VI → List VI) : MS := (sSeq (sIf (tOrM (tNotM (tOf (eIsi i_tuple.t (eV 0)))) (tOf (eBin fGt (eV 1) (eC (.int 8))))) (sRet (eC (.bl false))) sNx) (sSeq (sFor (iSeq (eV 0)) (gNm 2) (plnT g ar)) (sSeq (sRet (eC (.bl true))) sNx)))
theorem plR_1 : m_is_plain_R1 = plnM f_is_plain_R0 ar_bd_is_plain_R0_2_ := rfl
theorem plR_2 : m_is_plain_R2 = plnM f_is_plain_R1 ar_bd_is_plain_R1_2_ := rfl
theorem plR_3 : m_is_plain_R3 = plnM f_is_plain_R2 ar_bd_is_plain_R2_2_ := rfl
theorem plR_4 : m_is_plain_R4 = plnM f_is_plain_R3 ar_bd_is_plain_R3_2_ := rfl
theorem plR_5 : m_is_plain_R5 = plnM f_is_plain_R4 ar_bd_is_plain_R4_2_ := rfl
theorem plR_6 : m_is_plain_R6 = plnM f_is_plain_R5 ar_bd_is_plain_R5_2_ := rfl
theorem plR_7 : m_is_plain_R7 = plnM f_is_plain_R6 ar_bd_is_plain_R6_2_ := rfl
theorem plR_8 : m_is_plain_R8 = plnM f_is_plain_R7 ar_bd_is_plain_R7_2_ := rfl
theorem plR_9 : m_is_plain_R9 = plnM f_is_plain_R8 ar_bd_is_plain_R8_2_ := rfl
end Lw
end
local macro_rules | `(tactic| simp? [$l,*]) => `(tactic| simp (decide := true) only [ML.z_bind, ML.z_bindS, ML.z_bindX, ML.z_bindSX, ML.z_nx, ML.z_rt, ML.z_exx, ML.z_endN, ML.z_endR, ML.z_eV, ML.z_slK, ML.z_eC, ML.z_aNil, ML.z_aCons, ML.z_consK, ML.z_eBin, ML.z_binK, ML.z_ofO, ML.z_tOf, ML.z_bolK, ML.z_tAnd, ML.z_andT, ML.z_andF, ML.z_tOr, ML.z_orT, ML.z_orF, ML.z_tNot, ML.z_notK, ML.z_eIf, ML.z_ifT, ML.z_ifF, ML.z_eAnd, ML.z_eandT, ML.z_eandF, ML.z_eOr, ML.z_eorT, ML.z_eorF, ML.z_eNot, ML.z_enotK, ML.z_eNeg, ML.z_negK, ML.z_sNx, ML.z_sSeq, ML.z_sRet, ML.z_rtK, ML.z_sDrop, ML.z_dropK, ML.z_sIf, ML.z_sifT, ML.z_sifF, ML.z_gNm, ML.z_sAsg, ML.z_gTgt, ML.z_tgtK, ML.z_put1, ML.z_putM, ML.z_pm0, ML.z_pm1, ML.z_gTupM, ML.z_tupM, ML.z_gSeq0, ML.z_gSeq1, ML.z_sPar, ML.z_parK, ML.z_sPar3, ML.z_par3K, ML.z_eCall, ML.z_callK, ML.z_eCB, ML.z_cbK, ML.z_eTup, ML.z_tupK, ML.z_tupB, ML.z_eLst, ML.z_lstK, ML.z_lstB, ML.z_small, ML.z_eFld, ML.z_fldK, ML.z_fldO, ML.z_fldV, ML.z_getF, ML.z_getF0, ML.z_gfT, ML.z_gfF, ML.z_setF, ML.z_setF0, ML.z_sfT, ML.z_sfF, ML.z_sFldM, ML.z_gFld, ML.z_stoK, ML.z_stoO, ML.z_stoB, ML.z_blt, ML.z_beq, ML.z_sFldAug, ML.z_augK, ML.z_augQ, ML.z_augR, ML.z_augP, ML.z_augO, ML.z_augB, ML.z_eMeth, ML.z_metK, ML.z_metO, ML.z_metB, ML.z_eProp, ML.z_prpK, ML.z_prpO, ML.z_prpB, ML.z_okM, ML.z_eCon, ML.z_conK, ML.z_conO, ML.z_conB, ML.z_lkT, ML.z_lkT0, ML.z_ltT, ML.z_ltF, ML.z_lkS, ML.z_lkS0, ML.z_lsT, ML.z_lsF, ML.z_eKd, ML.z_kdK, ML.z_kdB, ML.z_eIxU, ML.z_ixT, ML.z_ixR, ML.z_ixI, ML.z_ixL, ML.z_ixS, ML.z_ixD, ML.z_ixDB, ML.z_ixV, ML.z_okO, ML.z_keyS, ML.z_keyI, ML.z_getD, ML.z_getD0, ML.z_gdT, ML.z_gdF, ML.z_keS, ML.z_keI, ML.z_ixL0, ML.z_gIxU, ML.z_pixR, ML.z_pixI, ML.z_pixLo, ML.z_pixDo, ML.z_pixL, ML.z_pixD, ML.z_pixV, ML.z_dropV, ML.z_eCmpU, ML.z_cmpK, ML.z_cmpN, ML.z_cmpS, ML.z_cmpB, ML.z_boolR, ML.z_eNeU, ML.z_neuK, ML.z_neuN, ML.z_eIsi, ML.z_isiK, ML.z_isiB, ML.z_isR, ML.z_isN, ML.z_isB, ML.z_isI, ML.z_isS, ML.z_isT, ML.z_isOl, ML.z_isOd, ML.z_isOi, ML.z_insR, ML.z_insOi, ML.z_insOl, ML.z_insOs, ML.z_insOd, ML.z_insI, ML.z_insS, ML.z_insN, ML.z_insT, ML.z_insB, ML.z_eLenU, ML.z_lenK, ML.z_lenN, ML.z_cLenT, ML.z_cLenR, ML.z_clL, ML.z_clS, ML.z_clD, ML.z_cListT, ML.z_cListR, ML.z_cliL, ML.z_cTupT, ML.z_cTupR, ML.z_ctuL, ML.z_eSl, ML.z_slC, ML.z_slT, ML.z_oNo, ML.z_oSome, ML.z_osK, ML.z_mkM, ML.z_mkE, ML.z_mkK, ML.z_run0, ML.z_run1, ML.z_run2, ML.z_run3, ML.z_run4, ML.z_run5, ML.z_run6, ML.z_rep0, ML.z_rep, List.getElem?_cons_zero, List.getElem?_cons_succ, List.set_cons_zero, List.set_cons_succ, List.contains_cons, List.contains_nil, Bool.or_false, Bool.false_or, Bool.or_true, Bool.true_or, Bool.and_true, Bool.true_and, Bool.and_false, Bool.false_and, Bool.not_true, Bool.not_false, List.length_cons, List.length_nil, decide_true, decide_false, Bool.or_self, Bool.and_self, List.cons_append, List.nil_append, Nat.zero_add, Nat.reduceBEq, Nat.reduceEqDiff, Nat.reduceLeDiff, Nat.reduceLT, Nat.reduceAdd, Nat.reduceSub, beq_self_eq_true, eq_self, if_true, if_false, Bool.false_eq_true, reduceIte, $l,*])
section
namespace Lw
open PySem L2 ML
def okP (f : VI → Bool) : VI → Bool
  | .tup xs => f (.tup xs)
  | .non => true
  | .bl _ => true
  | .int _ => true
  | .str _ => true
  | _ => false
def isPl : Nat → VI → Bool
  | 0, _ => false
  | n + 1, .tup xs => xs.all (okP (isPl n))
  | _, _ => false
theorem plVs_mem {n : Nat} : ∀ {xs : List VI} {v : VI}, plVs n xs = true → v ∈ xs → plV n v = true
  | x :: xs, v, e, hv => by
    simp only [plVs, Bool.and_eq_true] at e
    rcases List.mem_cons.mp hv with rfl | hv
    · exact e.1
    · exact plVs_mem e.2 hv
theorem isPl_of : ∀ (k n : Nat) (xs : List VI), plV n (.tup xs) = true → n ≤ k → isPl k (.tup xs) = true
  | 0, 0, _, e, _ => by cases e
  | 0, _ + 1, _, _, l => by omega
  | k + 1, 0, _, e, _ => by cases e
  | k + 1, n + 1, xs, e, l => by
    have e : plVs n xs = true := e
    show xs.all (okP (isPl k)) = true
    refine List.all_eq_true.mpr fun v hv => ?_
    have pv : plV n v = true := plVs_mem e hv
    cases v with
    | tup ys => exact isPl_of k n ys pv (by omega)
    | glo _ => cases n <;> cases pv
    | ref _ => cases n <;> cases pv
    | _ => rfl
mutual
theorem plV_up : ∀ {n : Nat} {v : VI}, plV n v = true → plV (n + 1) v = true
  | _, .non, _ => rfl
  | _, .bl _, _ => rfl
  | _, .int _, _ => rfl
  | n, .str s, e => by cases n <;> exact e
  | 0, .tup _, e => by cases e
  | n + 1, .tup xs, e => plVs_up (n := n) (xs := xs) e
  | n, .glo _, e => by cases n <;> cases e
  | n, .ref _, e => by cases n <;> cases e
theorem plVs_up : ∀ {n : Nat} {xs : List VI}, plVs n xs = true → plVs (n + 1) xs = true
  | _, [], _ => rfl
  | n, x :: xs, e => by
    simp only [plVs, Bool.and_eq_true] at e ⊢
    exact ⟨plV_up e.1, plVs_up e.2⟩
end
section
variable {g : MF} {ar : List VI → List VI → List VI} {k m : Nat} {d : Int} {h : Hi}
def PlG (g : MF) (ar : List VI → List VI → List VI) (k : Nat) (d : Int) : Prop := (∀ a b, ar [a, b] [] = [a, b]) ∧ ∀ (m : Nat) (v : VI) (h : Hi), plV m v = true → g [v, .int d] h = .ok (.bl (isPl k v)) h
theorem plTurn (G : PlG g ar k (d + 1)) {xs : List VI} {v : VI} (pv : plV m v = true) : plnT g ar [some (.tup xs), some (.int d), some v] h = match okP (isPl k) v with
    | true => .nx [some (.tup xs), some (.int d), some v] h
    | false => .rt (.bl false) h := by
  obtain ⟨ga, gg⟩ := G
  cases v with
  | tup ys =>
    have ca : eCallK 2 0 (fnK g ar) (aCons (eV 2) (aCons (eBin fAdd (eV 1) (eC (.int 1))) aNil)) aNil [some (.tup xs), some (.int d), some (.tup ys)] h = .ok (.bl (isPl k (.tup ys))) h := by
      show g (ar [.tup ys, .int (d + 1)] []) h = _
      rw [ga, gg m _ h pv]
    have it : (i_tuple.t).tup = some true := rfl
    unfold plnT
    simp? [it, ca]
    show _ = match isPl k (.tup ys) with
      | true => RS.nx [some (.tup xs), some (.int d), some (.tup ys)] h
      | false => RS.rt (VI.bl false) h
    cases isPl k (.tup ys) <;> rfl
  | non => rfl
  | bl _ => rfl
  | int _ => rfl
  | str _ => rfl
  | glo _ => cases m <;> cases pv
  | ref _ => cases m <;> cases pv
theorem plLoop (G : PlG g ar k (d + 1)) {xs : List VI} (pv : ∀ v ∈ xs, plV m v = true) : ∀ (l : List VI) (i : Nat) (x : Option VI), xs.drop i = l → match l.all (okP (isPl k)) with
    | true => ∃ y, turns (.tup xs) (gNm 2) (plnT g ar) l.length i [some (.tup xs), some (.int d), x] h = .nx [some (.tup xs), some (.int d), y] h
    | false => turns (.tup xs) (gNm 2) (plnT g ar) l.length i [some (.tup xs), some (.int d), x] h = .rt (.bl false) h
  | [], i, x, hd => by
    have nx : (Itm.tup xs).nxt i h = some none := by
      rw [nxt_tup, show xs[i]? = none from List.getElem?_eq_none_iff.mpr (by have := congrArg List.length hd; simp at this; omega)]
    refine ⟨x, ?_⟩
    show turns _ _ _ 0 i _ h = _
    unfold turns
    rw [nx]
  | v :: l, i, x, hd => by
    have hi : xs[i]? = some v := by
      have := congrArg (fun q : List VI => q[0]?) hd
      simpa using this
    have hd' : xs.drop (i + 1) = l := by
      have := congrArg List.tail hd
      simpa using this
    have nx : (Itm.tup xs).nxt i h = some (some v) := by rw [nxt_tup, hi]
    have t := plTurn (h := h) (xs := xs) G (pv v (List.mem_of_getElem? hi))
    have ih := plLoop G pv l (i + 1) (some v) hd'
    have gn : gNm 2 v [some (.tup xs), some (.int d), x] h = .nx [some (.tup xs), some (.int d), some v] h := rfl
    have un : turns (.tup xs) (gNm 2) (plnT g ar) (v :: l).length i [some (.tup xs), some (.int d), x] h = match plnT g ar [some (.tup xs), some (.int d), some v] h with
        | .nx σ2 h2 => turns (.tup xs) (gNm 2) (plnT g ar) l.length (i + 1) σ2 h2
        | .ct σ2 h2 => turns (.tup xs) (gNm 2) (plnT g ar) l.length (i + 1) σ2 h2
        | .bk σ2 h2 => .nx σ2 h2
        | r => r := by
      show turns _ _ _ (l.length + 1) i _ h = _
      rw [turns, nx]
      dsimp only
      rw [gn]
      rfl
    rw [un, t]
    simp only [List.all_cons]
    cases okP (isPl k) v with
    | true => exact ih
    | false => rfl
theorem plain_g (G : PlG g ar k (d + 1)) (d8 : d ≤ 8) {v : VI} (pv : plV m v = true) : endB (plnM g ar [some v, some (.int d), none] h) = .ok (.bl (isPl (k + 1) v)) h := by
  have it : (i_tuple.t).tup = some true := rfl
  have d9 : decide (d > 8) = false := decide_eq_false (by omega)
  cases v with
  | tup xs =>
    have sq := seq_tup xs h
    have fu := fuel_tup xs h
    have px : ∀ v ∈ xs, plV m v = true := fun v hv => by
      cases m with
      | zero => cases pv
      | succ m => exact plV_up (plVs_mem pv hv)
    have L := plLoop (h := h) G px xs 0 none rfl
    have gt : fGt (.int d) (.int 8) h = some (.bl false, h) := by
      show some (VI.bl (decide (d > 8)), h) = _
      rw [d9]
    show _ = Res.ok (VI.bl (xs.all (okP (isPl k)))) h
    cases z : xs.all (okP (isPl k)) with
    | true =>
      rw [z] at L
      obtain ⟨y, e⟩ := L
      unfold plnM
      simp? [it, gt, sFor, iSeq, ofI, sq, fu, e]
    | false =>
      rw [z] at L
      unfold plnM
      simp? [it, gt, sFor, iSeq, ofI, sq, fu, L]
  | non => rfl
  | bl _ => rfl
  | int _ => rfl
  | str _ => rfl
  | glo _ => cases m <;> cases pv
  | ref _ => cases m <;> cases pv
end
theorem plain_1 {m : Nat} {v : VI} {h : Hi} (pv : plV m v = true) : f_is_plain_R1 [v, .int 9] h = .ok (.bl (isPl 0 v)) h := by
  show endB (m_is_plain_R1 _ h) = _
  rw [plR_1]
  have it : (i_tuple.t).tup = some true := rfl
  have gt : fGt (.int 9) (.int 8) h = some (.bl true, h) := rfl
  cases v with
  | tup xs => unfold plnM; simp? [it, gt]; rfl
  | glo _ => cases m <;> cases pv
  | ref _ => cases m <;> cases pv
  | _ => rfl
theorem plain_2 {m : Nat} {v : VI} {h : Hi} (pv : plV m v = true) : f_is_plain_R2 [v, .int 8] h = .ok (.bl (isPl 1 v)) h := by
  show endB (m_is_plain_R2 _ h) = _
  rw [plR_2]
  exact plain_g (d := 8) ⟨fun _ _ => rfl, fun _ _ _ pv => plain_1 pv⟩ (by omega) pv
theorem plain_3 {m : Nat} {v : VI} {h : Hi} (pv : plV m v = true) : f_is_plain_R3 [v, .int 7] h = .ok (.bl (isPl 2 v)) h := by
  show endB (m_is_plain_R3 _ h) = _
  rw [plR_3]
  exact plain_g (d := 7) ⟨fun _ _ => rfl, fun _ _ _ pv => plain_2 pv⟩ (by omega) pv
theorem plain_4 {m : Nat} {v : VI} {h : Hi} (pv : plV m v = true) : f_is_plain_R4 [v, .int 6] h = .ok (.bl (isPl 3 v)) h := by
  show endB (m_is_plain_R4 _ h) = _
  rw [plR_4]
  exact plain_g (d := 6) ⟨fun _ _ => rfl, fun _ _ _ pv => plain_3 pv⟩ (by omega) pv
theorem plain_5 {m : Nat} {v : VI} {h : Hi} (pv : plV m v = true) : f_is_plain_R5 [v, .int 5] h = .ok (.bl (isPl 4 v)) h := by
  show endB (m_is_plain_R5 _ h) = _
  rw [plR_5]
  exact plain_g (d := 5) ⟨fun _ _ => rfl, fun _ _ _ pv => plain_4 pv⟩ (by omega) pv
theorem plain_6 {m : Nat} {v : VI} {h : Hi} (pv : plV m v = true) : f_is_plain_R6 [v, .int 4] h = .ok (.bl (isPl 5 v)) h := by
  show endB (m_is_plain_R6 _ h) = _
  rw [plR_6]
  exact plain_g (d := 4) ⟨fun _ _ => rfl, fun _ _ _ pv => plain_5 pv⟩ (by omega) pv
theorem plain_7 {m : Nat} {v : VI} {h : Hi} (pv : plV m v = true) : f_is_plain_R7 [v, .int 3] h = .ok (.bl (isPl 6 v)) h := by
  show endB (m_is_plain_R7 _ h) = _
  rw [plR_7]
  exact plain_g (d := 3) ⟨fun _ _ => rfl, fun _ _ _ pv => plain_6 pv⟩ (by omega) pv
theorem plain_8 {m : Nat} {v : VI} {h : Hi} (pv : plV m v = true) : f_is_plain_R8 [v, .int 2] h = .ok (.bl (isPl 7 v)) h := by
  show endB (m_is_plain_R8 _ h) = _
  rw [plR_8]
  exact plain_g (d := 2) ⟨fun _ _ => rfl, fun _ _ _ pv => plain_7 pv⟩ (by omega) pv
theorem plain_9 {m : Nat} {v : VI} {h : Hi} (pv : plV m v = true) : f_is_plain_R9 [v, .int 1] h = .ok (.bl (isPl 8 v)) h := by
  show endB (m_is_plain_R9 _ h) = _
  rw [plR_9]
  exact plain_g (d := 1) ⟨fun _ _ => rfl, fun _ _ _ pv => plain_8 pv⟩ (by omega) pv
theorem plain_q {m : Nat} {v : VI} {h : Hi} {σ : Sg} {i : Nat} (e : σ[i]? = some (some v)) (pv : plV m v = true) : eCallK 1 0 (fnK f_is_plain_R9 ar_bd_is_plain_R9_1_) (aCons (eV i) aNil) aNil σ h = .ok (.bl (isPl 8 v)) h := by
  rw [← plain_9 pv]
  show (aCons (eV i) aNil σ h).bind _ = _
  simp only [z_aCons, z_eV, e, z_slK, z_bind, z_aNil, z_consK]
  rfl
end Lw
end
local macro_rules | `(tactic| dsimp? [$l,*]) => `(tactic| simp (decide := true) only [ML.z_bind, ML.z_bindS, ML.z_bindX, ML.z_bindSX, ML.z_nx, ML.z_rt, ML.z_exx, ML.z_endN, ML.z_endR, ML.z_eV, ML.z_slK, ML.z_eC, ML.z_aNil, ML.z_aCons, ML.z_consK, ML.z_eBin, ML.z_binK, ML.z_ofO, ML.z_tOf, ML.z_bolK, ML.z_tAnd, ML.z_andT, ML.z_andF, ML.z_tOr, ML.z_orT, ML.z_orF, ML.z_tNot, ML.z_notK, ML.z_eIf, ML.z_ifT, ML.z_ifF, ML.z_eAnd, ML.z_eandT, ML.z_eandF, ML.z_eOr, ML.z_eorT, ML.z_eorF, ML.z_eNot, ML.z_enotK, ML.z_eNeg, ML.z_negK, ML.z_sNx, ML.z_sSeq, ML.z_sRet, ML.z_rtK, ML.z_sDrop, ML.z_dropK, ML.z_sIf, ML.z_sifT, ML.z_sifF, ML.z_gNm, ML.z_sAsg, ML.z_gTgt, ML.z_tgtK, ML.z_put1, ML.z_putM, ML.z_pm0, ML.z_pm1, ML.z_gTupM, ML.z_tupM, ML.z_gSeq0, ML.z_gSeq1, ML.z_sPar, ML.z_parK, ML.z_sPar3, ML.z_par3K, ML.z_eCall, ML.z_callK, ML.z_eCB, ML.z_cbK, ML.z_eTup, ML.z_tupK, ML.z_tupB, ML.z_eLst, ML.z_lstK, ML.z_lstB, ML.z_small, ML.z_eFld, ML.z_fldK, ML.z_fldO, ML.z_fldV, ML.z_getF, ML.z_getF0, ML.z_gfT, ML.z_gfF, ML.z_setF, ML.z_setF0, ML.z_sfT, ML.z_sfF, ML.z_sFldM, ML.z_gFld, ML.z_stoK, ML.z_stoO, ML.z_stoB, ML.z_blt, ML.z_beq, ML.z_sFldAug, ML.z_augK, ML.z_augQ, ML.z_augR, ML.z_augP, ML.z_augO, ML.z_augB, ML.z_eMeth, ML.z_metK, ML.z_metO, ML.z_metB, ML.z_eProp, ML.z_prpK, ML.z_prpO, ML.z_prpB, ML.z_okM, ML.z_eCon, ML.z_conK, ML.z_conO, ML.z_conB, ML.z_lkT, ML.z_lkT0, ML.z_ltT, ML.z_ltF, ML.z_lkS, ML.z_lkS0, ML.z_lsT, ML.z_lsF, ML.z_eKd, ML.z_kdK, ML.z_kdB, ML.z_eIxU, ML.z_ixT, ML.z_ixR, ML.z_ixI, ML.z_ixL, ML.z_ixS, ML.z_ixD, ML.z_ixDB, ML.z_ixV, ML.z_okO, ML.z_keyS, ML.z_keyI, ML.z_getD, ML.z_getD0, ML.z_gdT, ML.z_gdF, ML.z_keS, ML.z_keI, ML.z_ixL0, ML.z_gIxU, ML.z_pixR, ML.z_pixI, ML.z_pixLo, ML.z_pixDo, ML.z_pixL, ML.z_pixD, ML.z_pixV, ML.z_dropV, ML.z_eCmpU, ML.z_cmpK, ML.z_cmpN, ML.z_cmpS, ML.z_cmpB, ML.z_boolR, ML.z_eNeU, ML.z_neuK, ML.z_neuN, ML.z_eIsi, ML.z_isiK, ML.z_isiB, ML.z_isR, ML.z_isN, ML.z_isB, ML.z_isI, ML.z_isS, ML.z_isT, ML.z_isOl, ML.z_isOd, ML.z_isOi, ML.z_insR, ML.z_insOi, ML.z_insOl, ML.z_insOs, ML.z_insOd, ML.z_insI, ML.z_insS, ML.z_insN, ML.z_insT, ML.z_insB, ML.z_eLenU, ML.z_lenK, ML.z_lenN, ML.z_cLenT, ML.z_cLenR, ML.z_clL, ML.z_clS, ML.z_clD, ML.z_cListT, ML.z_cListR, ML.z_cliL, ML.z_cTupT, ML.z_cTupR, ML.z_ctuL, ML.z_eSl, ML.z_slC, ML.z_slT, ML.z_oNo, ML.z_oSome, ML.z_osK, ML.z_mkM, ML.z_mkE, ML.z_mkK, ML.z_run0, ML.z_run1, ML.z_run2, ML.z_run3, ML.z_run4, ML.z_run5, ML.z_run6, ML.z_rep0, ML.z_rep, List.getElem?_cons_zero, List.getElem?_cons_succ, List.set_cons_zero, List.set_cons_succ, List.contains_cons, List.contains_nil, Bool.or_false, Bool.false_or, Bool.or_true, Bool.true_or, Bool.and_true, Bool.true_and, Bool.and_false, Bool.false_and, Bool.not_true, Bool.not_false, List.length_cons, List.length_nil, decide_true, decide_false, Bool.or_self, Bool.and_self, List.cons_append, List.nil_append, Nat.zero_add, Nat.reduceBEq, Nat.reduceEqDiff, Nat.reduceLeDiff, Nat.reduceLT, Nat.reduceAdd, Nat.reduceSub, beq_self_eq_true, eq_self, if_true, if_false, Bool.false_eq_true, reduceIte, ML.w_eqS, ML.w_neS, ML.w_eqI, ML.w_neI, ML.w_eqIN, ML.w_eqNI, ML.w_eqX_II, ML.w_eqX_IN, ML.w_eqX_NI, ML.w_isN_I, ML.w_isN_N, ML.w_addI, ML.w_subI, ML.w_ltI, ML.w_modI, ML.w_neIN, $l,*])
section
namespace Lw
open PySem L2 ML
def PlX (v : VI) : Prop := ∃ n xs, v = .tup xs ∧ n ≤ 8 ∧ plV n v = true
theorem PlX.isPl {v : VI} (p : PlX v) : isPl 8 v = true := by
  obtain ⟨n, xs, rfl, l, e⟩ := p
  exact isPl_of 8 n xs e l
theorem PlX.key {v : VI} (p : PlX v) : nkD v = some (kyV v) := by
  obtain ⟨n, xs, rfl, l, e⟩ := p
  obtain ⟨k, q⟩ := nk_pl n 8 (.tup xs) e l
  have q' : nkD (.tup xs) = some k := q
  rw [q', kyD q']
theorem hasN_rep {k n : NestedKey} {v : VI} : ∀ {d : List (VI × VI)}, hasN k (repN n v d) = hasN k d
  | [] => rfl
  | (a, x) :: d => by
    have ih := hasN_rep (k := k) (n := n) (v := v) (d := d)
    unfold hasN at ih ⊢
    unfold repN
    cases decide (nkD a = some n) <;> (simp only [getN]; cases decide (nkD a = some k) <;> first | rfl | exact ih)
theorem hasN_app {k : NestedKey} {x v : VI} {n : NestedKey} (e : nkD x = some n) : ∀ {d : List (VI × VI)}, hasN k (d ++ [(x, v)]) = (hasN k d || decide (n = k))
  | [] => by
    unfold hasN
    simp only [List.nil_append, getN, e]
    by_cases q : n = k
    · rw [decide_eq_true (congrArg some q), decide_eq_true q]; rfl
    · rw [decide_eq_false (fun z => q (Option.some.inj z)), decide_eq_false q]; rfl
  | (a, w) :: d => by
    have ih := hasN_app (k := k) (v := v) e (d := d)
    unfold hasN at ih ⊢
    simp only [List.cons_append, getN]
    cases decide (nkD a = some k) with
    | true => rfl
    | false => exact ih
theorem hasN_put {k n : NestedKey} {x v : VI} {d : List (VI × VI)} (e : nkD x = some n) : hasN k (putN x n v d) = (hasN k d || decide (n = k)) := by
  unfold putN
  cases q : hasN n d with
  | true =>
    dsimp only
    rw [hasN_rep]
    by_cases z : n = k
    · subst z; rw [q]; simp
    · simp [z]
  | false => exact hasN_app e
theorem keysN_rep {n : NestedKey} {v : VI} : ∀ {d : List (VI × VI)}, keysN (repN n v d) = keysN d
  | [] => rfl
  | (a, x) :: d => by
    unfold repN
    cases decide (nkD a = some n) <;> simp only [keysN, keysN_rep (d := d)]
theorem keysN_app {p : VI × VI} : ∀ {d : List (VI × VI)}, keysN (d ++ [p]) = keysN d ++ [p.1]
  | [] => by obtain ⟨a, b⟩ := p; rfl
  | (a, x) :: d => by simp only [List.cons_append, keysN, keysN_app (d := d)]
theorem keysN_put {n : NestedKey} {x v : VI} {d : List (VI × VI)} : ∀ y ∈ keysN (putN x n v d), y ∈ keysN d ∨ y = x := by
  intro y hy
  unfold putN at hy
  cases q : hasN n d with
  | true => rw [q] at hy; dsimp only at hy; rw [keysN_rep] at hy; exact .inl hy
  | false =>
    rw [q] at hy
    dsimp only at hy
    rw [keysN_app] at hy
    rcases List.mem_append.mp hy with z | z
    · exact .inl z
    · exact .inr (by simpa using z)
def addK (acc : List (VI × VI)) (x : VI) : List (VI × VI) := putN x (kyV x) (.bl true) acc
def foldK (acc : List (VI × VI)) (xs : List VI) : List (VI × VI) := xs.foldl addK acc
def anyK (k : NestedKey) (xs : List VI) : Bool := xs.any fun x => decide (kyV x = k)
theorem has_fold {k : NestedKey} : ∀ {xs : List VI} {acc : List (VI × VI)}, (∀ v ∈ xs, PlX v) → hasN k (foldK acc xs) = (hasN k acc || anyK k xs)
  | [], acc, _ => by simp [foldK, anyK]
  | x :: xs, acc, P => by
    have ih := has_fold (k := k) (xs := xs) (acc := addK acc x) (fun v hv => P v (by simp [hv]))
    show hasN k (foldK (addK acc x) xs) = _
    rw [ih]
    unfold addK
    rw [hasN_put (P x (by simp)).key]
    simp [anyK, Bool.or_assoc]
theorem len_fold : ∀ {xs : List VI} {acc : List (VI × VI)}, (foldK acc xs).length ≤ acc.length + xs.length
  | [], acc => by simp [foldK]
  | x :: xs, acc => by
    have ih := len_fold (xs := xs) (acc := addK acc x)
    have p := putN_length x (kyV x) (.bl true) acc
    show (foldK (addK acc x) xs).length ≤ _
    unfold addK at ih ⊢
    simp only [List.length_cons]
    omega
theorem any_keys {k : NestedKey} : ∀ {d : List (VI × VI)}, (∀ y ∈ keysN d, PlX y) → anyK k (keysN d) = hasN k d
  | [], _ => rfl
  | (a, x) :: d, P => by
    have ih := any_keys (k := k) (d := d) (fun y hy => P y (by simp [keysN, hy]))
    have pa := (P a (by simp [keysN])).key
    unfold hasN at ih ⊢
    unfold anyK at ih ⊢
    simp only [keysN, List.any_cons, getN, pa]
    by_cases q : kyV a = k
    · rw [decide_eq_true q, decide_eq_true (congrArg some q)]; rfl
    · rw [decide_eq_false q, decide_eq_false (fun z => q (Option.some.inj z))]
      simpa using ih
theorem bb_get (h L : Hi) (i : Nat) : (h ++ L)[h.length + i]? = L[i]? := by rw [List.getElem?_append_right (by omega)]; congr 1; omega
theorem bb_get0 (h L : Hi) : (h ++ L)[h.length]? = L[0]? := bb_get h L 0
theorem bb_set (h L : Hi) (i : Nat) (o : OI) : (h ++ L).set (h.length + i) o = h ++ L.set i o := by
  rw [List.set_append_right _ _ (by omega)]
  congr 2
  omega
theorem bb_set0 (h L : Hi) (o : OI) : (h ++ L).set h.length o = h ++ L.set 0 o := bb_set h L 0 o
theorem bb_app (h L M : Hi) : (h ++ L) ++ M = h ++ (L ++ M) := List.append_assoc ..
theorem bb_len (h L : Hi) : (h ++ L).length = h.length + L.length := List.length_append
theorem bb_fr (h L : Hi) : Fr [] h (h ++ L) := .app
inductive SeqV (h : Hi) : VI → List VI → Prop
  | tup (xs : List VI) : SeqV h (.tup xs) xs
  | lst {n : Nat} {xs : List VI} (e : h[n]? = some (.lst xs)) : SeqV h (.ref n) xs
theorem SeqV.fr {h h' : Hi} {sv : VI} {xs : List VI} (S : SeqV h sv xs) (F : Fr [] h h') : SeqV h' sv xs := by
  cases S with
  | tup _ => exact .tup _
  | lst e => exact .lst (F.get e (by simp))
theorem SeqV.it {h : Hi} {sv : VI} {xs : List VI} (S : SeqV h sv xs) : ∃ it, seqOf sv h = some it ∧ it.fuel h = xs.length ∧ ∀ (q : Hi) (i : Nat), it.nxt i (h ++ q) = some xs[i]? := by
  cases S with
  | tup _ => exact ⟨_, seq_tup _ _, fuel_tup _ _, fun q i => nxt_tup _ _ _⟩
  | lst e => exact ⟨_, seq_lst e, fuel_lst e, fun q i => nxt_lst (at_app e) i⟩
theorem turnsN_m {it : Itm} {t : Tgt} {vs : List Nat} {ek ev : ME} {σ : Sg} {xs : List VI} {h1 : Hi} (τ : VI → Sg) (P : ∀ v ∈ xs, PlX v) (hn : ∀ i q, it.nxt i (h1 ++ q) = some xs[i]?) (hput : ∀ x ∈ xs, t.put x (wipeM σ vs) = some (τ x))
    (hek : ∀ x ∈ xs, ∀ g, ek (τ x) g = .ok x g) (hev : ∀ x ∈ xs, ∀ g, ev (τ x) g = .ok (.bl true) g) :
    ∀ (k i : Nat) (acc : List (VI × VI)), k + i = xs.length → acc.length + xs.length ≤ i + 100000 → turnsN it t vs tYesM ek ev h1.length σ k i (h1 ++ [.dnk acc]) = some (h1 ++ [.dnk (foldK acc (xs.drop i))])
  | 0, i, acc, e, _ => by
    unfold turnsN
    rw [hn, List.getElem?_eq_none_iff.mpr (by omega), List.drop_eq_nil_iff.mpr (by omega)]
    rfl
  | k + 1, i, acc, e, sm => by
    have hi : i < xs.length := by omega
    unfold turnsN
    rw [hn, List.getElem?_eq_getElem hi]
    have hm := List.getElem_mem hi
    dsimp only
    rw [hput _ hm]
    dsimp only
    show (match ek (τ xs[i]) (h1 ++ [.dnk acc]) with | .ok y h3 => _ | _ => none) = _
    rw [hek _ hm]
    dsimp only
    rw [hev _ hm]
    dsimp only
    have e1 : (h1 ++ [OI.dnk acc])[h1.length]? = some (.dnk acc) := by simp
    rw [e1, (P _ hm).key]
    dsimp only
    have e2 : small (acc.length + 1) = true := by rw [z_small]; simp; omega
    rw [e2]
    dsimp only
    have e3 : (h1 ++ [OI.dnk acc]).set h1.length (.dnk (putN xs[i] (kyV xs[i]) (.bl true) acc)) = h1 ++ [.dnk (addK acc xs[i])] := by simp [addK]
    have p := putN_length xs[i] (kyV xs[i]) (.bl true) acc
    rw [e3, turnsN_m τ P hn hput hek hev k (i + 1) _ (by omega) (by unfold addK; omega)]
    rw [show xs.drop i = xs[i] :: xs.drop (i + 1) from List.drop_eq_getElem_cons hi]
    rfl
theorem dcn_m {mi : MI} {it : Itm} {t : Tgt} {vs : List Nat} {ek ev : ME} {σ : Sg} {xs : List VI} {h h1 : Hi} (τ : VI → Sg) (P : ∀ v ∈ xs, PlX v) (hmi : mi σ h = .ok it h1) (hfu : it.fuel h1 = xs.length) (hn : ∀ i q, it.nxt i (h1 ++ q) = some xs[i]?) (hput : ∀ x ∈ xs, t.put x (wipeM σ vs) = some (τ x))
    (hek : ∀ x ∈ xs, ∀ g, ek (τ x) g = .ok x g) (hev : ∀ x ∈ xs, ∀ g, ev (τ x) g = .ok (.bl true) g) (sm : xs.length ≤ 100000) : eDcN mi t vs tYesM ek ev σ h = .ok (.ref h1.length) (h1 ++ [.dnk (foldK [] xs)]) := by
  unfold eDcN
  rw [hmi]
  show (match turnsN it t vs tYesM ek ev h1.length σ (it.fuel h1) 0 (h1 ++ [.dnk []]) with | some h2 => Res.ok (VI.ref h1.length) h2 | none => .err) = _
  rw [hfu, turnsN_m τ P hn hput hek hev xs.length 0 [] (by omega) (by simp; omega)]
  rfl
structure TabAt (h : Hi) (t : Nat) (kvs : List (VI × VI)) : Prop where
  ex : ∃ kn rw_, h[t]? = some (.ins 31 [(s_known, .ref kn), (s_rows, .ref rw_)]) ∧ h[kn]? = some (.dnk kvs) ∧ h[rw_]? = some (.lst (keysN kvs))
theorem TabAt.fr {h h' : Hi} {t : Nat} {kvs : List (VI × VI)} (T : TabAt h t kvs) (F : Fr [] h h') : TabAt h' t kvs := by
  obtain ⟨kn, rw_, a, b, c⟩ := T.ex
  exact ⟨kn, rw_, F.get a (by simp), F.get b (by simp), F.get c (by simp)⟩
theorem table_g {h : Hi} {sv : VI} {xs : List VI} (S : SeqV h sv xs) (P : ∀ v ∈ xs, PlX v) (sm : xs.length ≤ 5000) :
    ∃ h', mkM 31 f_TableD_initD [sv] h = .ok (.ref h.length) h' ∧ TabAt h' h.length (foldK [] xs) ∧ Fr [] h h' ∧ h'.length = h.length + 5 ∧ h'[h.length]? = some (.ins 31 [(s_known, .ref (h.length + 3)), (s_rows, .ref (h.length + 4))]) := by
  let L5 : Hi := [.ins 31 [(s_known, .ref (h.length + 3)), (s_rows, .ref (h.length + 4))], .lst [], .lst [], .dnk (foldK [] xs), .lst (keysN (foldK [] xs))]
  have isl : ∀ g, SeqV g sv xs → isT i_list_tuple.t sv g = some true := fun g Sg => by
    cases Sg with
    | tup _ => rfl
    | lst e => rw [z_isR, e]; rfl
  have i1 := isl _ (S.fr (bb_fr h [.ins 31 []]))
  have sm0 : small 0 = true := rfl
  have lc : eLc (iSeq (eV 1)) (.one 2) [2] (tNotM (tOf (eCallK 1 0 (fnK f_is_plain_R9 ar_bd_is_plain_R9_1_) (aCons (eV 2) aNil) aNil))) (eV 2) [some (.ref h.length), some sv, none] (h ++ [.ins 31 []]) = .ok (.ref (h.length + 1)) (h ++ [.ins 31 [], .lst []]) := by
    obtain ⟨it, q1, q2, q3⟩ := (S.fr (bb_fr h [.ins 31 []])).it
    have := lc_fm (mi := iSeq (eV 1)) (it := it) (t := .one 2) (vs := [2]) (tt := tNotM (tOf (eCallK 1 0 (fnK f_is_plain_R9 ar_bd_is_plain_R9_1_) (aCons (eV 2) aNil) aNil))) (el := eV 2) (σ := [some (.ref h.length), some sv, none]) (xs := xs) (h := h ++ [.ins 31 []]) (h1 := h ++ [.ins 31 []])
      (fun v => [some (.ref h.length), some sv, some v]) (fun _ => false) (fun v => v) (by simp? [iSeq, ofI, q1]) q2 (fun i acc => q3 [.lst acc] i) (fun v _ => rfl) (fun v hv acc => by
        obtain ⟨m, _, _, _, pv⟩ := P v hv
        have pq := plain_q (h := h ++ [.ins 31 []] ++ [.lst acc]) (σ := [some (.ref h.length), some sv, some v]) (i := 2) rfl pv
        rw [(P v hv).isPl] at pq
        simp? [pq]) (fun v hv e => by cases e) (by omega)
    rw [this, bb_len, List.filter_eq_nil_iff.mpr (by simp), bb_app]
    rfl
  have ne : fNe (.ref (h.length + 1)) (.ref (h.length + 2)) (h ++ [.ins 31 [], .lst [], .lst []]) = some (.bl false, h ++ [.ins 31 [], .lst [], .lst []]) := fNe_same (k := 0) (xs := []) (bb_get h _ 1) (bb_get h _ 2) rfl (by omega)
  have dc : eDcN (iSeq (eV 1)) (.one 2) [2] tYesM (eV 2) (eC (.bl true)) [some (.ref h.length), some sv, none] (h ++ [.ins 31 [], .lst [], .lst []]) = .ok (.ref (h.length + 3)) (h ++ [.ins 31 [], .lst [], .lst [], .dnk (foldK [] xs)]) := by
    obtain ⟨it, q1, q2, q3⟩ := (S.fr (bb_fr h [.ins 31 [], .lst [], .lst []])).it
    have := dcn_m (mi := iSeq (eV 1)) (it := it) (t := .one 2) (vs := [2]) (ek := eV 2) (ev := eC (.bl true)) (σ := [some (.ref h.length), some sv, none]) (xs := xs) (h := h ++ [.ins 31 [], .lst [], .lst []]) (h1 := h ++ [.ins 31 [], .lst [], .lst []])
      (fun v => [some (.ref h.length), some sv, some v]) P (by simp? [iSeq, ofI, q1]) q2 (fun i q => q3 q i) (fun v _ => rfl) (fun v hv g => by simp? []) (fun v hv g => rfl) (by omega)
    rw [this, bb_len, bb_app]
    rfl
  have lf := len_fold (xs := xs) (acc := [])
  have cl : ∀ g : Hi, g[h.length + 3]? = some (.dnk (foldK [] xs)) → cListN [.ref (h.length + 3)] g = some (.ref g.length, g ++ [.lst (keysN (foldK [] xs))]) := fun g hg => by
    simp only [cListN, hg]
  have cl1 := cl (h ++ [.ins 31 [(s_known, .ref (h.length + 3))], .lst [], .lst [], .dnk (foldK [] xs)]) (bb_get h _ 3)
  rw [bb_len, bb_app] at cl1
  simp only [List.length_cons, List.length_nil, Nat.zero_add, Nat.reduceAdd, List.cons_append, List.nil_append] at cl1
  refine ⟨h ++ L5, ?_, ⟨_, _, bb_get0 h L5, bb_get h L5 3, bb_get h L5 4⟩, bb_fr h L5, bb_len h L5, bb_get0 h L5⟩
  rw [z_mkM]
  unfold f_TableD_initD m_TableD_initD
  dsimp? [i1, lc, sm0, ne, dc, bb_get0, bb_set0, bb_get, bb_set, bb_app, bb_len, cl1]
  rfl
end Lw
end
section
namespace Lw
open PySem L2 ML
def uqA (acc : List VI) (x : VI) : List VI := if anyK (kyV x) acc then acc else acc ++ [x]
theorem uqA_pos {acc : List VI} {x : VI} (z : anyK (kyV x) acc = true) : uqA acc x = acc := if_pos z
theorem uqA_neg {acc : List VI} {x : VI} (z : anyK (kyV x) acc = false) : uqA acc x = acc ++ [x] := if_neg (by simp [z])
def uq (xs : List VI) : List VI := xs.foldl uqA []
theorem keysN_put2 {n : NestedKey} {x v : VI} {d : List (VI × VI)} : keysN (putN x n v d) = if hasN n d then keysN d else keysN d ++ [x] := by
  unfold putN
  cases hasN n d with
  | true => simp [keysN_rep]
  | false => simp [keysN_app]
theorem keys_foldA : ∀ {xs : List VI} {d : List (VI × VI)}, (∀ y ∈ keysN d, PlX y) → (∀ v ∈ xs, PlX v) → keysN (foldK d xs) = xs.foldl uqA (keysN d)
  | [], d, _, _ => rfl
  | x :: xs, d, Pd, P => by
    have e : keysN (addK d x) = uqA (keysN d) x := by
      unfold addK uqA
      rw [keysN_put2, any_keys Pd]
    have Pd' : ∀ y ∈ keysN (addK d x), PlX y := fun y hy => by
      rcases keysN_put y hy with z | rfl
      · exact Pd y z
      · exact P _ (by simp)
    have ih := keys_foldA (xs := xs) Pd' (fun v hv => P v (by simp [hv]))
    show keysN (foldK (addK d x) xs) = _
    rw [ih, e]
    rfl
theorem keys_uq {xs : List VI} (P : ∀ v ∈ xs, PlX v) : keysN (foldK [] xs) = uq xs := keys_foldA (d := []) (by simp [keysN]) P
theorem uqA_mem {acc : List VI} {x y : VI} (h : y ∈ uqA acc x) : y ∈ acc ∨ y = x := by
  unfold uqA at h
  split at h
  · exact .inl h
  · simpa using h
theorem uqF_mem : ∀ {xs acc : List VI} {y : VI}, y ∈ xs.foldl uqA acc → y ∈ acc ∨ y ∈ xs
  | [], _, _, h => .inl h
  | x :: xs, acc, y, h => by
    rcases uqF_mem (xs := xs) (acc := uqA acc x) h with z | z
    · rcases uqA_mem z with z | rfl
      · exact .inl z
      · exact .inr (by simp)
    · exact .inr (by simp [z])
theorem anyK_app {k : NestedKey} {a b : List VI} : anyK k (a ++ b) = (anyK k a || anyK k b) := by simp [anyK]
theorem anyK_mem {k : NestedKey} {a : List VI} : anyK k a = true ↔ k ∈ a.map kyV := by
  unfold anyK
  simp only [List.any_eq_true, List.mem_map, decide_eq_true_eq]
def Nd (xs : List VI) : Prop := (xs.map kyV).Nodup
theorem nd_uqA {acc : List VI} {x : VI} (h : Nd acc) : Nd (uqA acc x) := by
  unfold uqA
  by_cases q : anyK (kyV x) acc = true
  · rw [if_pos q]; exact h
  · rw [if_neg q]
    unfold Nd
    rw [List.map_append, List.nodup_append]
    refine ⟨h, by simp, fun a ha b hb e => ?_⟩
    have : b = kyV x := by simpa using hb
    subst this
    subst e
    exact q (anyK_mem.mpr ha)
theorem nd_uqF : ∀ {xs acc : List VI}, Nd acc → Nd (xs.foldl uqA acc)
  | [], _, h => h
  | x :: xs, acc, h => nd_uqF (xs := xs) (nd_uqA h)
theorem nd_uq {xs : List VI} : Nd (uq xs) := nd_uqF (acc := []) (by simp [Nd])
theorem uqF_nd : ∀ {xs acc : List VI}, Nd (acc ++ xs) → xs.foldl uqA acc = acc ++ xs
  | [], acc, _ => by simp
  | x :: xs, acc, h => by
    have q : anyK (kyV x) acc = false := by
      cases z : anyK (kyV x) acc with
      | false => rfl
      | true =>
        have m := anyK_mem.mp z
        unfold Nd at h
        rw [List.map_append, List.nodup_append] at h
        exact absurd rfl (h.2.2 _ m _ (by simp))
    have e : uqA acc x = acc ++ [x] := by unfold uqA; rw [q]; rfl
    show xs.foldl uqA (uqA acc x) = _
    rw [e, uqF_nd (by rw [List.append_assoc]; exact h), List.append_assoc]
    rfl
theorem uq_nd {xs : List VI} (h : Nd xs) : uq xs = xs := uqF_nd (acc := []) (by simpa using h)
theorem nd_filter {p : VI → Bool} {xs : List VI} (h : Nd xs) : Nd (xs.filter p) := List.Nodup.sublist (List.Sublist.map _ List.filter_sublist) h
def both (A B : List VI) : List VI := A.filter fun x => anyK (kyV x) B
def alone (A B : List VI) : List VI := A.filter fun x => !anyK (kyV x) B
theorem nd_of_filter_aux : ∀ {xs acc : List VI}, Nd acc → Nd xs → xs.foldl uqA acc = acc ++ alone xs acc
  | [], acc, _, _ => by simp [alone]
  | x :: xs, acc, ha, h => by
    have hx : Nd xs := by unfold Nd at h ⊢; rw [List.map_cons, List.nodup_cons] at h; exact h.2
    have hxn : kyV x ∉ xs.map kyV := by unfold Nd at h; rw [List.map_cons, List.nodup_cons] at h; exact h.1
    have ih := nd_of_filter_aux (acc := uqA acc x) (nd_uqA ha) hx
    show xs.foldl uqA (uqA acc x) = _
    rw [ih]
    have same : alone xs (uqA acc x) = alone xs acc := by
      unfold alone
      refine List.filter_congr fun y hy => ?_
      unfold uqA
      by_cases q : anyK (kyV x) acc = true
      · rw [if_pos q]
      · rw [if_neg q, anyK_app]
        have ne : kyV x ≠ kyV y := fun z => hxn (by rw [z]; exact List.mem_map_of_mem hy)
        simp [anyK, ne]
    rw [same]
    unfold uqA
    by_cases q : anyK (kyV x) acc = true
    · rw [if_pos q]
      unfold alone
      rw [List.filter_cons_of_neg (by simp [q])]
    · rw [if_neg q]
      unfold alone
      rw [List.filter_cons_of_pos (by simp [q])]
      simp
theorem uq_app {A B : List VI} (a : Nd A) (b : Nd B) : uq (A ++ B) = A ++ alone B A := by
  unfold uq
  rw [List.foldl_append]
  have e : A.foldl uqA [] = A := uq_nd a
  rw [e, nd_of_filter_aux a b]
theorem cnt_le : ∀ (A B : List NestedKey), A.Nodup → A.countP (fun x => decide (x ∈ B)) ≤ B.countP fun x => decide (x ∈ A)
  | [], B, _ => by simp
  | a :: A, B, h => by
    obtain ⟨h1, h2⟩ := List.nodup_cons.mp h
    by_cases m : a ∈ B
    · have pm := List.perm_cons_erase m
      have ih := cnt_le A (B.erase a) h2
      rw [List.countP_cons_of_pos (by simpa using m), pm.countP_eq]
      rw [List.countP_cons_of_pos (by simp)]
      have c1 : A.countP (fun x => decide (x ∈ B)) = A.countP fun x => decide (x ∈ B.erase a) := by
        refine List.countP_congr fun x hx => ?_
        have ne : x ≠ a := fun z => h1 (z ▸ hx)
        simp [List.mem_erase_of_ne ne]
      have c2 : (B.erase a).countP (fun x => decide (x ∈ A)) ≤ (B.erase a).countP fun x => decide (x ∈ a :: A) := List.countP_mono_left fun x _ hx => by
        simp only [decide_eq_true_eq] at hx ⊢
        simp [hx]
      rw [c1]
      omega
    · rw [List.countP_cons_of_neg (by simpa using m)]
      refine Nat.le_trans (cnt_le A B h2) (List.countP_mono_left fun x _ hx => ?_)
      simp only [decide_eq_true_eq] at hx ⊢
      simp [hx]
theorem both_cnt (A B : List VI) : (both A B).length = (A.map kyV).countP fun x => decide (x ∈ B.map kyV) := by
  unfold both
  rw [List.countP_map, ← List.countP_eq_length_filter]
  refine List.countP_congr fun x _ => ?_
  simp only [Function.comp, decide_eq_true_eq]
  exact anyK_mem
theorem both_sym {A B : List VI} (a : Nd A) (b : Nd B) : (both A B).length = (both B A).length := by
  rw [both_cnt, both_cnt]
  exact Nat.le_antisymm (cnt_le _ _ a) (cnt_le _ _ b)
theorem both_alone (A B : List VI) : (both A B).length + (alone A B).length = A.length := by
  unfold both alone
  have := List.length_eq_countP_add_countP (l := A) (p := fun x => anyK (kyV x) B)
  rw [this, ← List.countP_eq_length_filter, ← List.countP_eq_length_filter]
  congr 1
  refine List.countP_congr fun x _ => by simp
theorem uq_len {A B : List VI} (a : Nd A) (b : Nd B) : (uq (A ++ B)).length + (both A B).length = A.length + B.length := by
  rw [uq_app a b, List.length_append, both_sym a b]
  have := both_alone B A
  omega
theorem both_le (A B : List VI) : (both A B).length ≤ A.length := List.length_filter_le _ _
theorem all_both {A B : List VI} : (A.all fun x => anyK (kyV x) B) = true ↔ (both A B).length = A.length := by
  unfold both
  rw [List.all_eq_true]
  constructor
  · intro h; rw [List.filter_eq_self.mpr h]
  · intro h; exact List.filter_eq_self.mp (List.filter_sublist.eq_of_length h)
theorem both_rev {A : List VI} (B : List VI) : (both A.reverse B).length = (both A B).length := by
  unfold both
  rw [← List.countP_eq_length_filter, ← List.countP_eq_length_filter, List.countP_reverse]
theorem nd_rev {A : List VI} (a : Nd A) : Nd A.reverse := by
  unfold Nd at a ⊢
  rw [List.map_reverse]
  exact List.pairwise_reverse.mpr (List.Pairwise.imp (fun h => Ne.symm h) a)
theorem both_self {A : List VI} : both A A = A := by
  unfold both
  exact List.filter_eq_self.mpr fun x hx => anyK_mem.mpr (List.mem_map_of_mem hx)
end Lw
end
section
namespace Lw
open PySem L2 ML
theorem max_nn (x : Int) : 0 ≤ (if -1 - x > x then -1 - x else x) := by split <;> omega
theorem pool_g {h : Hi} {ns : List Int} {k : Nat} (hs : h[0]? = some (.scr (ns.map VI.int))) (k1 : k ≤ 100) : ∃ h' p, f__law_pool [.ref 0, .int k] h = .ok (.ref p) h' ∧ PoolAt h' p ∧ Fr [] h h' ∧ h.length ≤ p := by
  -- the cell
  have cell : ∃ x : Int, (sIf (tOf (eBin fLt (eV 1) (eLenU Lw.gx1 (eV 0)))) (sAsg (eBin fIx (eV 0) (eV 1)) (gNm 2)) sNx) [some (.ref 0), some (.int k), some (.int 0), none, none] h = .nx [some (.ref 0), some (.int k), some (.int x), none, none] h := by
    have cl : cLen [.ref 0] h = some (.int ns.length, h) := by simp [cLen, hs]
    by_cases q : k < ns.length
    · refine ⟨ns[k], ?_⟩
      have ix : ixL (ns.map VI.int) k = some (.int ns[k]) := by
        have e : ixI ns.length (k : Int) = some k := by simp [ixI, q]
        simp [ixL, e, q]
      simp [cl, fLt, fInt, q, eLenU, insC, hs, fIx, ix]
    · refine ⟨0, ?_⟩
      simp [cl, fLt, fInt, eLenU, insC, hs, q]
  obtain ⟨x, ce⟩ := cell
  obtain ⟨z, hz⟩ : ∃ z : Int, z = (if -1 - x > x then -1 - x else x) := ⟨_, rfl⟩
  have z0 : 0 ≤ z := by rw [hz]; exact max_nn x
  have mx : ∀ h : Hi, cMax [.int x, .int (-1 - x)] h = some (.int z, h) := fun h => by simp [cMax, hz]
  have ci : ∀ (i : Int) (h : Hi), cInt [.int i] h = some (.int i, h) := fun _ _ => rfl
  have cb : ∀ (b : Bool) (h : Hi), cInt [.bl b] h = some (.int (if b then 1 else 0), h) := fun _ _ => rfl
  have m1 := Int.emod_nonneg z (show (2147483629 : Int) ≠ 0 by omega)
  have m2 := Int.emod_lt_of_pos z (show (0 : Int) < 2147483629 by omega)
  obtain ⟨s, es⟩ : ∃ s : Int, s = z % 2147483629 + 7919 * k + 104729 := ⟨_, rfl⟩
  have s0 : 0 ≤ s := by omega
  have b1 : bnd 7919 = true := by decide
  have b2 : bnd 48271 = true := by decide
  obtain ⟨j, ej, j0, jb⟩ : ∃ j : Int, j = (if decide (1000000000000000000 ≤ z) = true then 1 else 0) ∧ 0 ≤ j ∧ bnd j = true := ⟨_, rfl, by split <;> omega, by split <;> rfl⟩
  have pw : ∀ h : Hi, fPow (.int 10) (.int 18) h = some (.int 1000000000000000000, h) := fun h => by kernel_rfl
  have s2 : small 2 = true := rfl
  refine ⟨h ++ [.lst [.int (z * j), .int (s * 48271 % 2147483647)]], h.length, ?_, ⟨z * j, s * 48271 % 2147483647, by simp, Int.mul_nonneg z0 j0, Int.emod_nonneg _ (by omega), Int.emod_lt_of_pos _ (by omega)⟩, .app, Nat.le_refl _⟩
  unfold f__law_pool m__law_pool
  rw [x_run2, x_rep3, x_sSeq, x_sAsg, x_eC]
  simp only [x_bindS, x_gNm, x_nx, List.set_cons_succ, List.set_cons_zero]
  rw [x_sSeq, ce, x_nx]
  have md : ∀ h : Hi, fMod (.int z) (.int 2147483629) h = some (.int (z % 2147483629), h) := fun h => by simp [fMod]
  have ml : ∀ h : Hi, fMul (.int 7919) (.int k) h = some (.int (7919 * k), h) := fun h => by simp [fMul, b1]
  have ml2 : ∀ h : Hi, fMul (.int z) (.int j) h = some (.int (z * j), h) := fun h => by simp [fMul, jb]
  have ml3 : ∀ h : Hi, fMul (.int s) (.int 48271) h = some (.int (s * 48271), h) := fun h => by simp [fMul, b2]
  have md2 : ∀ h : Hi, fMod (.int (s * 48271)) (.int 2147483647) h = some (.int (s * 48271 % 2147483647), h) := fun h => by simp [fMod]
  have ge : ∀ h : Hi, fGe (.int z) (.int 1000000000000000000) h = some (.bl (decide (1000000000000000000 ≤ z)), h) := fun h => rfl
  have ng : ∀ (σ : Sg) (h : Hi), eNeg (eC (.int 1)) σ h = .ok (.int (-1)) h := fun _ _ => rfl
  have sb : ∀ (h : Hi), fSub (.int (-1)) (.int x) h = some (.int (-1 - x), h) := fun _ => rfl
  have ad : ∀ (i j : Int) (h : Hi), fAdd (.int i) (.int j) h = some (.int (i + j), h) := fun _ _ _ => rfl
  have cb2 : ∀ h : Hi, cInt [.bl (decide (1000000000000000000 ≤ z))] h = some (.int j, h) := fun h => by rw [cb, ← ej]
  simp [ng, sb, mx, ci, md, ml, ad, ← es, ge, pw, cb2, ml2, ml3, md2, eLst, s2]
end Lw
end
section
namespace Lw
open PySem L2 ML
def Sm (v : VI) : Prop := ∃ xs, v = .tup xs ∧ plV 4 v = true
theorem Sm.x {v : VI} (s : Sm v) : PlX v := by
  obtain ⟨xs, e, p⟩ := s
  exact ⟨4, xs, e, by omega, p⟩
def Sms (xs : List VI) : Prop := (∀ v ∈ xs, Sm v) ∧ xs.length ≤ 100
theorem Sms.pl {xs : List VI} (s : Sms xs) : plVs 4 xs = true := pls_of fun v hv => (s.1 v hv).choose_spec.2
theorem Sms.x {xs : List VI} (s : Sms xs) : ∀ v ∈ xs, PlX v := fun v hv => (s.1 v hv).x
theorem in_any {xs ys : List VI} (P : plV 4 (.tup xs) = true) : ∀ {ys : List VI}, plVs 4 ys = true → ((pdVs ys).any fun z => PyData.eqv z (pdV (.tup xs))) = anyK (kyV (.tup xs)) ys
  | [], _ => rfl
  | y :: ys, h => by
    simp only [plVs, Bool.and_eq_true] at h
    have ih := in_any (ys := ys) P h.2
    simp only [pdVs, List.any_cons, anyK] at ih ⊢
    rw [ih, eqv_ky 4 4 y (.tup xs) h.1 P]
theorem fIn_k {h : Hi} {m : Nat} {v : VI} {ys : List VI} (hm : h[m]? = some (.lst ys)) (s : Sm v) (S : plVs 4 ys = true) : fIn v (.ref m) h = some (.bl (anyK (kyV v) ys), h) := by
  obtain ⟨xs, e, p⟩ := s
  subst e
  rw [fIn_tl hm p S (by omega), in_any (ys := []) p S]
theorem fNotIn_k {h : Hi} {m : Nat} {v : VI} {ys : List VI} (hm : h[m]? = some (.lst ys)) (s : Sm v) (S : plVs 4 ys = true) : fNotIn v (.ref m) h = some (.bl (!anyK (kyV v) ys), h) := by
  have k := fIn_k hm s S
  unfold fIn at k
  unfold fNotIn
  revert k
  cases inM v (.ref m) h with
  | none => intro k; cases k
  | some b => intro k; cases k; rfl
theorem sms_uqF {xs acc : List VI} (s : Sms xs) (a : ∀ v ∈ acc, Sm v) : ∀ v ∈ xs.foldl uqA acc, Sm v := fun v hv => by
  rcases uqF_mem hv with z | z
  · exact a v z
  · exact s.1 v z
theorem len_uqF : ∀ {xs acc : List VI}, (xs.foldl uqA acc).length ≤ acc.length + xs.length
  | [], acc => by simp
  | x :: xs, acc => by
    have ih := len_uqF (xs := xs) (acc := uqA acc x)
    have : (uqA acc x).length ≤ acc.length + 1 := by unfold uqA; split <;> simp
    show (xs.foldl uqA (uqA acc x)).length ≤ _
    simp only [List.length_cons]
    omega
theorem sms_uq {xs : List VI} (s : Sms xs) : Sms (uq xs) := ⟨sms_uqF s (by simp), by
  have := len_uqF (xs := xs) (acc := [])
  have := s.2
  have e0 : ([] : List VI).length = 0 := rfl
  unfold uq
  omega⟩
theorem sms_filter {xs : List VI} {p : VI → Bool} (s : Sms xs) : Sms (xs.filter p) := ⟨fun v hv => s.1 v (List.mem_filter.mp hv).1, Nat.le_trans (List.length_filter_le _ _) s.2⟩
theorem sms_rev {xs : List VI} (s : Sms xs) : Sms xs.reverse := ⟨fun v hv => s.1 v (by simpa using hv), by simpa using s.2⟩
abbrev uB : MS := (sIf (tOf (eBin fNotIn (eV 2) (eV 1))) (sDrop (eBM .lst mAppend (eV 1) (aCons (eV 2) aNil))) sNx)
theorem append_g {σ : Sg} {h : Hi} {i j n : Nat} {v : VI} {acc : List VI} (hi : σ[i]? = some (some (.ref n))) (hj : σ[j]? = some (some v)) (hn : h[n]? = some (.lst acc)) (sm : acc.length ≤ 1000) : sDrop (eBM .lst mAppend (eV i) (aCons (eV j) aNil)) σ h = .nx σ (h.set n (.lst (acc ++ [v]))) := by
  have s : small (acc.length + 1) = true := by rw [z_small]; simp; omega
  have k : kOk .lst (.ref n) h = true := by simp [kOk, hn]
  have eb : eBM .lst mAppend (eV i) (aCons (eV j) aNil) σ h = .ok .non (h.set n (.lst (acc ++ [v]))) := by
    simp only [eBM, z_eV, hi, hj, z_slK, z_bind, k, z_aCons, z_aNil, z_consK, mAppend, hn, s, z_ofO]
  show (eBM .lst mAppend (eV i) (aCons (eV j) aNil) σ h).bindS σ _ = _
  rw [eb]
  rfl
theorem unlike_g {h : Hi} {l : Nat} {xs : List VI} (hl : h[l]? = some (.lst xs)) (s : Sms xs) : ∃ h', f__law_unlike [.ref l] h = .ok (.ref h.length) h' ∧ h'[h.length]? = some (.lst (uq xs)) ∧ Fr [] h h' ∧ h'.length = h.length + 1 := by
  have ll := at_lt hl
  have s2 := s.2
  obtain ⟨σ', h', e, ⟨x, e1⟩, q1, q2, q3⟩ := turns_inv (it := .lst l) (g := gNm 2) (body := uB) xs.length
    (fun i σ g => (∃ x, σ = [some (.ref l), some (.ref h.length), x]) ∧ g[h.length]? = some (.lst ((xs.take i).foldl uqA [])) ∧ Fr [h.length] (h ++ [.lst []]) g ∧ g.length = h.length + 1)
    (fun i σ g hi ⟨⟨x, e1⟩, q1, q2, q3⟩ => by
      subst e1
      have gl : g[l]? = some (.lst xs) := q2.get (at_app hl) (by simp; omega)
      have sv := s.1 _ (List.getElem_mem hi)
      have st : Sms (xs.take i) := ⟨fun v hv => s.1 v (List.mem_of_mem_take hv), by simp; omega⟩
      have su := sms_uq st
      have tk : (xs.take (i + 1)).foldl uqA [] = uqA ((xs.take i).foldl uqA []) xs[i] := by
        rw [List.take_add_one, List.getElem?_eq_getElem hi, List.foldl_append]; rfl
      have ni := fNotIn_k (h := g) (m := h.length) (v := xs[i]) (ys := (xs.take i).foldl uqA []) q1 sv su.pl
      have bd : ∃ g2, uB [some (.ref l), some (.ref h.length), some xs[i]] g = .nx [some (.ref l), some (.ref h.length), some xs[i]] g2 ∧ g2[h.length]? = some (.lst ((xs.take (i + 1)).foldl uqA [])) ∧ Fr [h.length] g g2 ∧ g2.length = g.length := by
        rw [tk]
        by_cases z : anyK (kyV xs[i]) ((xs.take i).foldl uqA []) = true
        · refine ⟨g, ?_, ?_, .refl, rfl⟩
          · rw [z] at ni
            simp? [uB, ni]
          · rw [uqA_pos z]
            exact q1
        · have z' : anyK (kyV xs[i]) ((xs.take i).foldl uqA []) = false := by simpa using z
          refine ⟨g.set h.length (.lst ((xs.take i).foldl uqA [] ++ [xs[i]])), ?_, ?_, .set, by simp⟩
          · rw [z'] at ni
            have ap := append_g (σ := [some (.ref l), some (.ref h.length), some xs[i]]) (i := 1) (j := 2) rfl rfl q1 (by have := su.2; unfold uq at this; omega)
            show (tOf (eBin fNotIn (eV 2) (eV 1)) _ g).bindS _ _ = _
            simp? [ni]
            exact ap
          · rw [uqA_neg z', List.getElem?_set_self (by omega)]
      obtain ⟨g2, b1, b2, b3, b4⟩ := bd
      refine ⟨xs[i], [some (.ref l), some (.ref h.length), some xs[i]], g, [some (.ref l), some (.ref h.length), some xs[i]], g2, ?_, rfl, b1, ⟨_, rfl⟩, b2, q2.trans b3, by omega⟩
      rw [nxt_lst gl, List.getElem?_eq_getElem hi])
    (fun σ g ⟨_, q1, q2, q3⟩ => by
      have gl : g[l]? = some (.lst xs) := q2.get (at_app hl) (by simp; omega)
      rw [nxt_lst gl]; simp) xs.length 0 [some (.ref l), some (.ref h.length), none] (h ++ [.lst []]) (by omega) ⟨⟨_, rfl⟩, by simp, .refl, by simp⟩
  subst e1
  rw [List.take_length] at q1
  refine ⟨h', ?_, q1, q2.made, q3⟩
  have s0 : small 0 = true := rfl
  have fu : (Itm.lst l).fuel (h ++ [.lst []]) = xs.length := fuel_lst (at_app hl)
  have sq : seqOf (.ref l) (h ++ [.lst []]) = some (.lst l) := seq_lst (at_app hl)
  unfold f__law_unlike m__law_unlike
  simp? [sFor, iSeq, ofI, s0, sq, fu, e]
end Lw
end
section
namespace Lw
open PySem L2 ML
structure TbA (h : Hi) (t : Nat) (A : List VI) : Prop where
  ex : ∃ kn rw_, h[t]? = some (.ins 31 [(s_known, .ref kn), (s_rows, .ref rw_)]) ∧ h[kn]? = some (.dnk (foldK [] A)) ∧ h[rw_]? = some (.lst A)
  nd : Nd A
  sm : Sms A
theorem TbA.fr {h h' : Hi} {t : Nat} {A : List VI} (T : TbA h t A) (F : Fr [] h h') : TbA h' t A := by
  obtain ⟨kn, rw_, a, b, c⟩ := T.ex
  exact ⟨⟨kn, rw_, F.get a (by simp), F.get b (by simp), F.get c (by simp)⟩, T.nd, T.sm⟩
theorem rep_true {n : NestedKey} : ∀ {d : List (VI × VI)}, (∀ p ∈ d, p.2 = .bl true) → repN n (.bl true) d = d
  | [], _ => rfl
  | (a, x) :: d, h => by
    have h1 : x = .bl true := h (a, x) (by simp)
    have ih := rep_true (n := n) (d := d) (fun p hp => h p (by simp [hp]))
    subst h1
    unfold repN
    cases decide (nkD a = some n) <;> simp only [ih]
theorem add_true {d : List (VI × VI)} {x : VI} (h : ∀ p ∈ d, p.2 = .bl true) : ∀ p ∈ addK d x, p.2 = .bl true := fun p hp => by
  unfold addK putN at hp
  split at hp
  · rw [rep_true h] at hp; exact h p hp
  · rcases List.mem_append.mp hp with z | z
    · exact h p z
    · have : p = (x, .bl true) := by simpa using z
      rw [this]
theorem fold_true : ∀ {xs : List VI} {d : List (VI × VI)}, (∀ p ∈ d, p.2 = .bl true) → ∀ p ∈ foldK d xs, p.2 = .bl true
  | [], d, h => h
  | x :: xs, d, h => fold_true (xs := xs) (add_true h)
theorem of_keys : ∀ {d : List (VI × VI)}, (∀ p ∈ d, p.2 = .bl true) → d = (keysN d).map fun x => (x, VI.bl true)
  | [], _ => rfl
  | (a, x) :: d, h => by
    have h1 : x = .bl true := h (a, x) (by simp)
    have ih := of_keys (d := d) (fun p hp => h p (by simp [hp]))
    subst h1
    simp only [keysN, List.map_cons]
    rw [← ih]
theorem fold_keys {xs : List VI} (P : ∀ v ∈ xs, PlX v) : foldK [] xs = (uq xs).map fun x => (x, VI.bl true) := by
  rw [of_keys (fold_true (xs := xs) (d := []) (by simp)), keys_uq P]
theorem fold_uq {xs : List VI} (s : Sms xs) : foldK [] (uq xs) = foldK [] xs := by
  rw [fold_keys s.x, fold_keys (sms_uq s).x, uq_nd nd_uq]
theorem mk_g {h : Hi} {sv : VI} {xs : List VI} (S : SeqV h sv xs) (s : Sms xs) : ∃ h', mkM 31 f_TableD_initD [sv] h = .ok (.ref h.length) h' ∧ TbA h' h.length (uq xs) ∧ Fr [] h h' ∧ h'.length = h.length + 5 ∧ h'[h.length]? = some (.ins 31 [(s_known, .ref (h.length + 3)), (s_rows, .ref (h.length + 4))]) := by
  obtain ⟨h', e, T, F, l, l5⟩ := table_g S s.x (by have := s.2; omega)
  obtain ⟨kn, rw_, a, b, c⟩ := T.ex
  exact ⟨h', e, ⟨⟨kn, rw_, a, by rw [fold_uq s]; exact b, by rw [keys_uq s.x] at c; exact c⟩, nd_uq, sms_uq s⟩, F, l, l5⟩
theorem TbA.keep {h h' : Hi} {t l : Nat} {A : List VI} (T : TbA h t A) (e : h[t]? = some (.ins 31 [(s_known, .ref (t + 3)), (s_rows, .ref (t + 4))])) (F : Fr [l] h h') (lt : l < t) : TbA h' t A := by
  obtain ⟨kn, rw_, a, b, c⟩ := T.ex
  rw [e] at a
  have a2 : t + 3 = kn ∧ t + 4 = rw_ := by
    injection a with a; injection a with a1 a; injection a with a2 a3; injection a2 with a4 a5; injection a5 with a6; injection a3 with a7 a8; injection a7 with a9 a10; injection a10 with a11; exact ⟨a6, a11⟩
  obtain ⟨rfl, rfl⟩ := a2
  exact ⟨⟨_, _, F.get e (by simp; omega), F.get b (by simp; omega), F.get c (by simp; omega)⟩, T.nd, T.sm⟩
section
variable {h : Hi} {t u : Nat} {A B : List VI}
theorem listed_g (T : TbA h t A) : f_Table_listed [.ref t] h = .ok (.ref h.length) (h ++ [.lst A]) := by
  obtain ⟨kn, rw_, a, b, c⟩ := T.ex
  have cl : cList [.ref rw_] h = some (.ref h.length, h ++ [.lst A]) := by simp [cList, c]
  unfold f_Table_listed m_Table_listed
  dsimp? [a, cl]
theorem tlen_g (T : TbA h t A) : f_TableD_lenD [.ref t] h = .ok (.int A.length) h := by
  obtain ⟨kn, rw_, a, b, c⟩ := T.ex
  have cl : cLen [.ref rw_] h = some (.int A.length, h) := by simp [cLen, c]
  unfold f_TableD_lenD m_TableD_lenD
  dsimp? [a, cl]
theorem has_any {v : VI} (s : Sms A) (nd : Nd A) : hasN (kyV v) (foldK [] A) = anyK (kyV v) A := by
  rw [has_fold s.x]
  simp [hasN, getN]
theorem tin_g {v : VI} (T : TbA h t A) (s : Sm v) : f_TableD_containsD [.ref t, v] h = .ok (.bl (anyK (kyV v) A)) h := by
  obtain ⟨kn, rw_, a, b, c⟩ := T.ex
  have k := s.x.key
  have ip := s.x.isPl
  obtain ⟨n, xs, e, l, p⟩ := s.x
  have pq := plain_q (h := h) (σ := [some (.ref t), some v]) (i := 1) rfl p
  rw [ip] at pq
  have fi : fInN false v (.ref kn) h = some (.bl (anyK (kyV v) A), h) := by simp [fInN, b, k, has_any T.sm T.nd]
  unfold f_TableD_containsD m_TableD_containsD
  simp? [pq, a, fi]
theorem tinR_g {n : Nat} {xs : List VI} (T : TbA h t A) (hn : h[n]? = some (.lst xs)) : f_TableD_containsD [.ref t, .ref n] h = .ok (.bl false) h := by
  have pl : f_is_plain_R9 [.ref n, .int 1] h = .ok (.bl false) h := by
    have it : isT i_tuple.t (.ref n) h = some false := by rw [z_isR, hn]; rfl
    show endB (m_is_plain_R9 [some (.ref n), some (.int 1), none] h) = _
    rw [plR_9]
    unfold plnM
    simp? [it]
  have pq : eCallK 1 0 (fnK f_is_plain_R9 ar_bd_is_plain_R9_1_) (aCons (eV 1) aNil) aNil [some (.ref t), some (.ref n)] h = .ok (.bl false) h := pl
  unfold f_TableD_containsD m_TableD_containsD
  simp? [pq]
end
theorem all_N {A B : List VI} (a : ∀ v ∈ A, PlX v) (b : ∀ v ∈ B, PlX v) : allN (foldK [] B) (A.map fun x => (x, VI.bl true)) = A.all fun x => anyK (kyV x) B := by
  induction A with
  | nil => rfl
  | cons x A ih =>
    have k := (a x (by simp)).key
    have ih := ih fun v hv => a v (by simp [hv])
    have hh : hasN (kyV x) (foldK [] B) = anyK (kyV x) B := by rw [has_fold b]; simp [hasN, getN]
    simp only [List.map_cons, allN, k, List.all_cons]
    unfold hasN at hh
    have tv := fold_true (xs := B) (d := []) (by simp)
    cases q : getN (kyV x) (foldK [] B) with
    | none => rw [q] at hh; rw [← hh]; rfl
    | some w =>
      have : w = .bl true := by
        have gm : ∀ {d : List (VI × VI)}, getN (kyV x) d = some w → ∃ y, (y, w) ∈ d := fun {d} => by
          induction d with
          | nil => intro e; cases e
          | cons p d ihd =>
            obtain ⟨y, z⟩ := p
            intro e
            unfold getN at e
            split at e
            · cases e; exact ⟨y, by simp⟩
            · obtain ⟨y2, m⟩ := ihd e; exact ⟨y2, by simp [m]⟩
        obtain ⟨y, m⟩ := gm q
        exact tv _ m
      subst this
      rw [q] at hh
      rw [← hh, ih]
      rfl
theorem flK_true {A : List VI} : flK (A.map fun x => (x, VI.bl true)) = true := by
  induction A with
  | nil => rfl
  | cons x A ih => simp [flK, flI, ih]
theorem teq_g {h : Hi} {t u : Nat} {A B : List VI} (T : TbA h t A) (U : TbA h u B) : f_TableD_eqD [.ref t, .ref u] h = .ok (.bl (decide ((both A B).length = A.length) && decide ((both A B).length = B.length))) h := by
  obtain ⟨kn, rw_, a, b, c⟩ := T.ex
  obtain ⟨kn', rw', a', b', c'⟩ := U.ex
  have isI : isT i_Table.t (.ref u) h = some true := by rw [z_isR, a']; rfl
  have fe : fEqN (.ref kn) (.ref kn') h = some (.bl (decide ((both A B).length = A.length) && decide ((both A B).length = B.length)), h) := by
    have ea := fold_keys T.sm.x
    have eb := fold_keys U.sm.x
    rw [uq_nd T.nd] at ea
    rw [uq_nd U.nd] at eb
    have an := all_N T.sm.x U.sm.x
    simp only [fEqN, b, b']
    rw [ea] at b ⊢
    rw [flK_true, an, eb, flK_true]
    simp only [Bool.and_self, List.length_map]
    congr 3
    have x1 := both_le A B
    rw [Bool.eq_iff_iff]
    simp only [Bool.and_eq_true, decide_eq_true_eq]
    rw [all_both]
    constructor
    · rintro ⟨p, q⟩
      have := Nat.eq_of_beq_eq_true p
      exact ⟨q, by omega⟩
    · rintro ⟨p, q⟩
      exact ⟨by rw [← p, ← q]; exact Nat.beq_refl _, p⟩
  unfold f_TableD_eqD m_TableD_eqD
  dsimp? [isI, a, a', fe]
theorem teqR_g {h : Hi} {t n : Nat} {A xs : List VI} (T : TbA h t A) (hn : h[n]? = some (.lst xs)) : f_TableD_eqD [.ref t, .ref n] h = .ok (.bl false) h := by
  have isI : isT i_Table.t (.ref n) h = some false := by rw [z_isR, hn]; rfl
  unfold f_TableD_eqD m_TableD_eqD
  simp? [isI]
theorem rows_g {h : Hi} {t u : Nat} {A B : List VI} {neg : Bool} (T : TbA h t A) (U : TbA h u B) : eLc (iSeq (eFld [31] s_rows (eV 0))) (.one 2) [2] (tOf (eBin (fInN neg) (eV 2) (eFld [31] s_known (eV 1)))) (eV 2) [some (.ref t), some (.ref u), none] h = .ok (.ref h.length) (h ++ [.lst (A.filter fun x => if neg then !anyK (kyV x) B else anyK (kyV x) B)]) := by
  obtain ⟨kn, rw_, a, b, c⟩ := T.ex
  obtain ⟨kn', rw', a', b', c'⟩ := U.ex
  have r := lc_fm (mi := iSeq (eFld [31] s_rows (eV 0))) (it := .lst rw_) (t := .one 2) (vs := [2]) (tt := tOf (eBin (fInN neg) (eV 2) (eFld [31] s_known (eV 1)))) (el := eV 2) (σ := [some (.ref t), some (.ref u), none]) (xs := A) (h := h) (h1 := h)
    (fun v => [some (.ref t), some (.ref u), some v]) (fun x => if neg then !anyK (kyV x) B else anyK (kyV x) B) (fun v => v) (by
      have sq : seqOf (.ref rw_) h = some (.lst rw_) := seq_lst c
      dsimp? [a, iSeq, ofI, sq]) (fuel_lst c) (fun i acc => nxt_lst (at_app c) i) (fun v _ => rfl) (fun v hv acc => by
      have k := ((T.sm.1 v hv).x).key
      have fi : fInN neg v (.ref kn') (h ++ [.lst acc]) = some (.bl (if neg then !anyK (kyV v) B else anyK (kyV v) B), h ++ [.lst acc]) := by
        have g := at_app (q := [.lst acc]) b'
        simp only [fInN, g, k, has_any U.sm U.nd]
      have g := at_app (q := [.lst acc]) a'
      dsimp? [g, fi]) (fun v hv _ acc => by simp? []) (by have := T.sm.2; omega)
  rw [List.map_id'] at r
  exact r
theorem and_g {h : Hi} {t u : Nat} {A B : List VI} (T : TbA h t A) (U : TbA h u B) : ∃ h' n, f_TableD_andD [.ref t, .ref u] h = .ok (.ref n) h' ∧ TbA h' n (both A B) ∧ Fr [] h h' ∧ h.length ≤ n := by
  have r := rows_g (neg := false) T U
  obtain ⟨_, _, a', _, _⟩ := U.ex
  have isI : isT i_Table.t (.ref u) h = some true := by rw [z_isR, a']; rfl
  have s : Sms (both A B) := sms_filter T.sm
  obtain ⟨h', e, T', F, l, _⟩ := mk_g (h := h ++ [.lst (both A B)]) (sv := .ref h.length) (.lst (xs := both A B) (by simp)) s
  rw [uq_nd (xs := both A B) (nd_filter T.nd)] at T'
  rw [z_mkM] at e
  refine ⟨h', _, ?_, T', Fr.app.trans F, by simp⟩
  unfold f_TableD_andD m_TableD_andD
  simp? [isI]
  have r' : eLc (iSeq (eFld [31] s_rows (eV 0))) (.one 2) [2] (tOf (eBin (fInN false) (eV 2) (eFld [31] s_known (eV 1)))) (eV 2) [some (.ref t), some (.ref u), none] h = .ok (.ref h.length) (h ++ [.lst (both A B)]) := r
  simp? [r', e]
theorem sub_g {h : Hi} {t u : Nat} {A B : List VI} (T : TbA h t A) (U : TbA h u B) : ∃ h' n, f_TableD_subD [.ref t, .ref u] h = .ok (.ref n) h' ∧ TbA h' n (alone A B) ∧ Fr [] h h' ∧ h.length ≤ n := by
  have r := rows_g (neg := true) T U
  obtain ⟨_, _, a', _, _⟩ := U.ex
  have isI : isT i_Table.t (.ref u) h = some true := by rw [z_isR, a']; rfl
  have s : Sms (alone A B) := sms_filter T.sm
  obtain ⟨h', e, T', F, l, _⟩ := mk_g (h := h ++ [.lst (alone A B)]) (sv := .ref h.length) (.lst (xs := alone A B) (by simp)) s
  rw [uq_nd (xs := alone A B) (nd_filter T.nd)] at T'
  rw [z_mkM] at e
  refine ⟨h', _, ?_, T', Fr.app.trans F, by simp⟩
  unfold f_TableD_subD m_TableD_subD
  simp? [isI]
  have r' : eLc (iSeq (eFld [31] s_rows (eV 0))) (.one 2) [2] (tOf (eBin (fInN true) (eV 2) (eFld [31] s_known (eV 1)))) (eV 2) [some (.ref t), some (.ref u), none] h = .ok (.ref h.length) (h ++ [.lst (alone A B)]) := r
  simp? [r', e]
theorem or_g {h : Hi} {t u : Nat} {A B : List VI} (T : TbA h t A) (U : TbA h u B) (sm : Sms (A ++ B)) : ∃ h' n, f_TableD_orD [.ref t, .ref u] h = .ok (.ref n) h' ∧ TbA h' n (uq (A ++ B)) ∧ Fr [] h h' ∧ h.length ≤ n := by
  obtain ⟨kn, rw_, a, b, c⟩ := T.ex
  obtain ⟨kn', rw', a', b', c'⟩ := U.ex
  have isI : isT i_Table.t (.ref u) h = some true := by rw [z_isR, a']; rfl
  have ad := fAdd_l c c' (by have := T.sm.2; have := U.sm.2; omega)
  obtain ⟨h', e, T', F, l, _⟩ := mk_g (h := h ++ [.lst (A ++ B)]) (sv := .ref h.length) (.lst (xs := A ++ B) (by simp)) sm
  rw [z_mkM] at e
  refine ⟨h', _, ?_, T', Fr.app.trans F, by simp⟩
  unfold f_TableD_orD m_TableD_orD
  dsimp? [isI, a, a', ad, e]
end Lw
end
section
namespace Lw
open PySem L2 ML
section
variable {σ : Sg} {h h1 h2 : Hi} {t u n : Nat} {A B : List VI} {e e1 e2 : ME} {g : MF} {f : Op2}
abbrev LT : Nat → Option MF := lkT [(31, f_Table_listed)]
abbrev ET_ : Nat → Option MF := lkT [(31, f_TableD_eqD)]
theorem listedU (r : e σ h = .ok (.ref t) h1) (T : TbA h1 t A) : eMeth LT s_listed e aNil σ h = .ok (.ref h1.length) (h1 ++ [.lst A]) := by
  have l := listed_g T
  obtain ⟨kn, rw_, a, b, c⟩ := T.ex
  dsimp? [r, a, l]
theorem binU_g {v : VI} (r1 : e1 σ h = .ok (.ref t) h1) (r2 : e2 σ h1 = .ok (.ref u) h1) (T : TbA h1 t A) (U : TbA h1 u B) (gg : g [.ref t, .ref u] h1 = .ok v h2) : eBinU (lkT [(31, g)]) (lkT []) f e1 e2 σ h = .ok v h2 := by
  obtain ⟨kn, rw_, a, b, c⟩ := T.ex
  obtain ⟨kn', rw', a', b', c'⟩ := U.ex
  have i1 : insC (.ref t) h1 = some 31 := by simp [insC, a]
  have ty : tyI (.ref u) h1 = some (.own 31) := by simp [tyI, a']
  have lk : lkT [(31, g)] 31 = some g := rfl
  unfold eBinU
  rw [r1]
  show (e2 σ h1).bind _ = _
  rw [r2]
  show (match insC (.ref t) h1 with | some c => _ | none => _) = _
  rw [i1]
  dsimp only
  rw [lk, ty]
  exact gg
theorem neL (r1 : e1 σ h = .ok (.ref n) h1) (r2 : e2 σ h1 = .ok (.ref t) h2) (a : h2[n]? = some (.lst A)) (b : h2[t]? = some (.lst A)) (s : plVs 4 A = true) : eNeU [31] ET_ fNe e1 e2 σ h = .ok (.bl false) h2 := by
  have i1 : insC (.ref n) h2 = none := by simp [insC, a]
  have ne := fNe_same a b s (by omega)
  unfold eNeU
  rw [r1]
  show (e2 σ h1).bind _ = _
  rw [r2]
  show (match insC (.ref n) h2 with | some c => _ | none => _) = _
  rw [i1]
  dsimp only
  rw [ne]
  rfl
theorem eqL (r1 : e1 σ h = .ok (.ref n) h1) (r2 : e2 σ h1 = .ok (.ref t) h2) (a : h2[n]? = some (.lst A)) (b : h2[t]? = some (.lst A)) (s : plVs 4 A = true) : eCmpU [31] ET_ fEqX e1 e2 σ h = .ok (.bl true) h2 := by
  have i1 : insC (.ref n) h2 = none := by simp [insC, a]
  have ne := fEqX_same a b s (by omega)
  unfold eCmpU
  rw [r1]
  show (e2 σ h1).bind _ = _
  rw [r2]
  show (match insC (.ref n) h2 with | some c => _ | none => _) = _
  rw [i1]
  dsimp only
  rw [ne]
  rfl
theorem eqT {b : Bool} (r1 : e1 σ h = .ok (.ref t) h1) (r2 : e2 σ h1 = .ok (.ref u) h2) (T : TbA h2 t A) (nf : nfI [31] (tyI (.ref u) h2) = true) (q : f_TableD_eqD [.ref t, .ref u] h2 = .ok (.bl b) h2) : eCmpU [31] ET_ fEqX e1 e2 σ h = .ok (.bl b) h2 := by
  obtain ⟨kn, rw_, a, _, c⟩ := T.ex
  have i1 : insC (.ref t) h2 = some 31 := by simp [insC, a]
  have lk : ET_ 31 = some f_TableD_eqD := rfl
  unfold eCmpU
  rw [r1]
  show (e2 σ h1).bind _ = _
  rw [r2]
  show (match insC (.ref t) h2 with | some c => _ | none => _) = _
  rw [i1]
  dsimp only
  rw [lk, nf]
  show boolR (f_TableD_eqD [.ref t, .ref u] h2) = _
  rw [q]
  rfl
theorem neT {b : Bool} (r1 : e1 σ h = .ok (.ref t) h1) (r2 : e2 σ h1 = .ok (.ref u) h2) (T : TbA h2 t A) (nf : nfI [31] (tyI (.ref u) h2) = true) (q : f_TableD_eqD [.ref t, .ref u] h2 = .ok (.bl b) h2) : eNeU [31] ET_ fNe e1 e2 σ h = .ok (.bl (!b)) h2 := by
  obtain ⟨kn, rw_, a, _, c⟩ := T.ex
  have i1 : insC (.ref t) h2 = some 31 := by simp [insC, a]
  have lk : ET_ 31 = some f_TableD_eqD := rfl
  unfold eNeU
  rw [r1]
  show (e2 σ h1).bind _ = _
  rw [r2]
  show (match insC (.ref t) h2 with | some c => _ | none => _) = _
  rw [i1]
  dsimp only
  rw [lk, nf]
  show negR (f_TableD_eqD [.ref t, .ref u] h2) = _
  rw [q]
  rfl
theorem nf_tab (T : TbA h t A) : nfI [31] (tyI (.ref t) h) = true := by
  obtain ⟨kn, rw_, a, _, c⟩ := T.ex
  have ty : tyI (.ref t) h = some (.own 31) := by simp [tyI, a]
  rw [ty]
  rfl
theorem nf_lst (a : h[t]? = some (.lst A)) : nfI [31] (tyI (.ref t) h) = true := by
  have ty : tyI (.ref t) h = some (.bt "list") := by simp [tyI, a]
  rw [ty]
  rfl
theorem lenR_z {z : Int} {h : Hi} (a : 0 ≤ z) (b : z < 1000000) : lenR (.ok (.int z) h) = .ok (.int z) h := by
  have c : decide (0 ≤ z) = true := decide_eq_true a
  have d : decide (z < 2 ^ 62) = true := decide_eq_true (by omega)
  simp only [lenR, c, d, Bool.and_self]
theorem lenT (r : e σ h = .ok (.ref t) h1) (T : TbA h1 t A) : eLenU Lw.gx1 e σ h = .ok (.int A.length) h1 := by
  have l := tlen_g T
  obtain ⟨kn, rw_, a, b, c⟩ := T.ex
  have i1 : insC (.ref t) h1 = some 31 := by simp [insC, a]
  have lk : Lw.gx1 31 = some f_TableD_lenD := rfl
  unfold eLenU
  rw [r]
  show (match insC (.ref t) h1 with | some c => _ | none => _) = _
  rw [i1]
  dsimp only
  rw [lk]
  dsimp only
  rw [l]
  have := T.sm.2
  exact lenR_z (by omega) (by omega)
theorem lenL (r : e σ h = .ok (.ref t) h1) (a : h1[t]? = some (.lst A)) : eLenU Lw.gx1 e σ h = .ok (.int A.length) h1 := by
  have i1 : insC (.ref t) h1 = none := by simp [insC, a]
  have cl : cLen [.ref t] h1 = some (.int A.length, h1) := by simp [cLen, a]
  unfold eLenU
  rw [r]
  show (match insC (.ref t) h1 with | some c => _ | none => _) = _
  rw [i1]
  dsimp only
  rw [cl]
  rfl
theorem inL_g {a b : Nat} (ha : h[a]? = some (.lst A)) (hb : h[b]? = some (.lst B)) (sA : Sms A) (sB : Sms B) (h2 : σ[2]? = some (some (.ref a))) (h3 : σ[3]? = some (some (.ref b))) (h5 : 5 < σ.length) :
    eLc (iSeq (eV 2)) (.one 5) [5] (tOf (eBin fIn (eV 5) (eV 3))) (eV 5) σ h = .ok (.ref h.length) (h ++ [.lst (both A B)]) := by
  have it : iSeq (eV 2) σ h = .ok (.lst a) h := iSeq_l (by rw [z_eV, h2]; rfl) ha
  have r := lc_fm (mi := iSeq (eV 2)) (it := .lst a) (t := .one 5) (vs := [5]) (tt := tOf (eBin fIn (eV 5) (eV 3))) (el := eV 5) (σ := σ) (xs := A) (h := h) (h1 := h)
    (fun v => (σ.set 5 none).set 5 (some v)) (fun x => anyK (kyV x) B) (fun v => v) it (fuel_lst ha) (fun i acc => nxt_lst (at_app ha) i) (fun v _ => rfl) (fun v hv acc => by
      have q5 : ((σ.set 5 none).set 5 (some v))[5]? = some (some v) := by rw [List.getElem?_set_self (by rw [List.length_set]; exact h5)]
      have q3 : ((σ.set 5 none).set 5 (some v))[3]? = some (some (.ref b)) := by rw [List.getElem?_set_ne (by omega), List.getElem?_set_ne (by omega), h3]
      have fi := fIn_k (at_app (q := [.lst acc]) hb) (sA.1 v hv) sB.pl
      simp? [q5, q3, fi]) (fun v hv _ acc => by
      have q5 : ((σ.set 5 none).set 5 (some v))[5]? = some (some v) := by rw [List.getElem?_set_self (by rw [List.length_set]; exact h5)]
      simp? [q5]) (by have := sA.2; omega)
  rw [List.map_id'] at r
  exact r
theorem outL_g {a b : Nat} (ha : h[a]? = some (.lst A)) (hb : h[b]? = some (.lst B)) (sA : Sms A) (sB : Sms B) (h2 : σ[2]? = some (some (.ref a))) (h3 : σ[3]? = some (some (.ref b))) (h5 : 5 < σ.length) :
    eLc (iSeq (eV 2)) (.one 5) [5] (tOf (eBin fNotIn (eV 5) (eV 3))) (eV 5) σ h = .ok (.ref h.length) (h ++ [.lst (alone A B)]) := by
  have it : iSeq (eV 2) σ h = .ok (.lst a) h := iSeq_l (by rw [z_eV, h2]; rfl) ha
  have r := lc_fm (mi := iSeq (eV 2)) (it := .lst a) (t := .one 5) (vs := [5]) (tt := tOf (eBin fNotIn (eV 5) (eV 3))) (el := eV 5) (σ := σ) (xs := A) (h := h) (h1 := h)
    (fun v => (σ.set 5 none).set 5 (some v)) (fun x => !anyK (kyV x) B) (fun v => v) it (fuel_lst ha) (fun i acc => nxt_lst (at_app ha) i) (fun v _ => rfl) (fun v hv acc => by
      have q5 : ((σ.set 5 none).set 5 (some v))[5]? = some (some v) := by rw [List.getElem?_set_self (by rw [List.length_set]; exact h5)]
      have q3 : ((σ.set 5 none).set 5 (some v))[3]? = some (some (.ref b)) := by rw [List.getElem?_set_ne (by omega), List.getElem?_set_ne (by omega), h3]
      have fi := fNotIn_k (at_app (q := [.lst acc]) hb) (sA.1 v hv) sB.pl
      simp? [q5, q3, fi]) (fun v hv _ acc => by
      have q5 : ((σ.set 5 none).set 5 (some v))[5]? = some (some v) := by rw [List.getElem?_set_self (by rw [List.length_set]; exact h5)]
      simp? [q5]) (by have := sA.2; omega)
  rw [List.map_id'] at r
  exact r
end
theorem orF {a b : MT} {σ : Sg} {h h1 h2 : Hi} (e1 : a σ h = .ok false h1) (e2 : b σ h1 = .ok false h2) : tOrM a b σ h = .ok false h2 := by
  simp? [tOrM, e1, e2]
theorem ofT {e : ME} {σ : Sg} {h h1 : Hi} {b : Bool} (q : e σ h = .ok (.bl b) h1) : tOf e σ h = .ok b h1 := by
  simp? [q]
theorem ifF {t : MT} {a b : MS} {σ : Sg} {h h1 : Hi} (q : t σ h = .ok false h1) : sIf t a b σ h = b σ h1 := by
  simp? [q]
theorem seqN {a b : MS} {σ σ1 : Sg} {h h1 : Hi} (q : a σ h = .nx σ1 h1) : sSeq a b σ h = b σ1 h1 := by
  show (a σ h).andThen b = _
  rw [q]
  rfl
theorem asgN {e : ME} {i : Nat} {σ : Sg} {h h1 : Hi} {v : VI} (q : e σ h = .ok v h1) : sAsg e (gNm i) σ h = .nx (σ.set i (some v)) h1 := by
  show (e σ h).bindS _ _ = _
  rw [q]
  rfl
theorem andT {p q : ME} {c : Bool} {σ : Sg} {h : Hi} (x : p σ h = .ok (.bl true) h) (y : q σ h = .ok (.bl c) h) : eAnd p q σ h = .ok (.bl c) h := by
  unfold eAnd
  rw [x]
  exact y
theorem andF {p q : ME} {σ : Sg} {h : Hi} (x : p σ h = .ok (.bl false) h) : eAnd p q σ h = .ok (.bl false) h := by
  unfold eAnd
  rw [x]
  rfl
theorem mixed_g {h : Hi} {t u a b : Nat} {A B : List VI} (T : TbA h t A) (U : TbA h u B) (ha : h[a]? = some (.lst A)) (hb : h[b]? = some (.lst B)) (sAB : Sms (A ++ B)) :
    ∃ h', f__law_mixed [.ref t, .ref u, .ref a, .ref b] h = .ok (.bl true) h' ∧ Fr [] h h' := by
  have sA := T.sm
  have sB := U.sm
  have al := at_lt ha
  have bl := at_lt hb
  -- the two lists
  have c1 := inL_g (σ := [some (.ref t), some (.ref u), some (.ref a), some (.ref b), none, none, none]) ha hb sA sB rfl rfl (by simp)
  obtain ⟨g1, eg1⟩ : ∃ g : Hi, g = h ++ [.lst (both A B)] := ⟨_, rfl⟩
  have F1 : Fr [] h g1 := by rw [eg1]; exact .app
  rw [← eg1] at c1
  have b1 : g1[h.length]? = some (.lst (both A B)) := by rw [eg1]; simp
  have c2 := outL_g (σ := [some (.ref t), some (.ref u), some (.ref a), some (.ref b), some (.ref h.length), none, none]) (F1.get ha (by simp)) (F1.get hb (by simp)) sA sB rfl rfl (by simp)
  obtain ⟨g2, eg2⟩ : ∃ g : Hi, g = g1 ++ [.lst (alone A B)] := ⟨_, rfl⟩
  have F2 : Fr [] g1 g2 := by rw [eg2]; exact .app
  rw [← eg2] at c2
  have b2 : g2[g1.length]? = some (.lst (alone A B)) := by rw [eg2]; simp
  have F02 := F1.trans F2
  obtain ⟨σ, eσ⟩ : ∃ σ : Sg, σ = [some (.ref t), some (.ref u), some (.ref a), some (.ref b), some (.ref h.length), none, some (.ref g1.length)] := ⟨_, rfl⟩
  have v0 : ∀ g, eV 0 σ g = .ok (.ref t) g := fun g => by rw [eσ]; rfl
  have v1 : ∀ g, eV 1 σ g = .ok (.ref u) g := fun g => by rw [eσ]; rfl
  have v2 : ∀ g, eV 2 σ g = .ok (.ref a) g := fun g => by rw [eσ]; rfl
  have v3 : ∀ g, eV 3 σ g = .ok (.ref b) g := fun g => by rw [eσ]; rfl
  have v4 : ∀ g, eV 4 σ g = .ok (.ref h.length) g := fun g => by rw [eσ]; rfl
  have v6 : ∀ g, eV 6 σ g = .ok (.ref g1.length) g := fun g => by rw [eσ]; rfl
  -- & and -
  obtain ⟨g3, n3, e3, T3, F3, l3⟩ := and_g (T.fr F02) (U.fr F02)
  have m3 := listedU (σ := σ) (binU_g (f := fNo) (v0 g2) (v1 g2) (T.fr F02) (U.fr F02) e3) T3
  obtain ⟨g4, eg4⟩ : ∃ g : Hi, g = g3 ++ [.lst (both A B)] := ⟨_, rfl⟩
  have F4 : Fr [] g3 g4 := by rw [eg4]; exact .app
  rw [← eg4] at m3
  have b3 : g4[g3.length]? = some (.lst (both A B)) := by rw [eg4]; simp
  have F24 := F3.trans F4
  have F14 := F2.trans F24
  have F04 := F02.trans F24
  have t1 := neL m3 (v4 g4) b3 (F14.get b1 (by simp)) (sms_filter sA : Sms (both A B)).pl
  obtain ⟨g5, n5, e5, T5, F5, l5⟩ := sub_g (T.fr F04) (U.fr F04)
  have m5 := listedU (σ := σ) (binU_g (f := fSub) (v0 g4) (v1 g4) (T.fr F04) (U.fr F04) e5) T5
  obtain ⟨g6, eg6⟩ : ∃ g : Hi, g = g5 ++ [.lst (alone A B)] := ⟨_, rfl⟩
  have F6 : Fr [] g5 g6 := by rw [eg6]; exact .app
  rw [← eg6] at m5
  have b5 : g6[g5.length]? = some (.lst (alone A B)) := by rw [eg6]; simp
  have F46 := F5.trans F6
  have F26 := F24.trans F46
  have F06 := F04.trans F46
  have F16 := F14.trans F46
  have t2 := neL m5 (v6 g6) b5 (F26.get b2 (by simp)) (sms_filter sA : Sms (alone A B)).pl
  -- |
  obtain ⟨g7, n7, e7, T7, F7, l7⟩ := or_g (T.fr F06) (U.fr F06) sAB
  have m7 := listedU (σ := σ) (binU_g (f := fNo) (v0 g6) (v1 g6) (T.fr F06) (U.fr F06) e7) T7
  obtain ⟨g8, eg8⟩ : ∃ g : Hi, g = g7 ++ [.lst (uq (A ++ B))] := ⟨_, rfl⟩
  have F8 : Fr [] g7 g8 := by rw [eg8]; exact .app
  rw [← eg8] at m7
  have b7 : g8[g7.length]? = some (.lst (uq (A ++ B))) := by rw [eg8]; simp
  have F68 := F7.trans F8
  have F08 := F06.trans F68
  have ad := fAdd_l (F08.get ha (by simp)) (F08.get hb (by simp)) (by have := sA.2; have := sB.2; omega)
  obtain ⟨g9, eg9⟩ : ∃ g : Hi, g = g8 ++ [.lst (A ++ B)] := ⟨_, rfl⟩
  have F9 : Fr [] g8 g9 := by rw [eg9]; exact .app
  rw [← eg9] at ad
  have b8 : g9[g8.length]? = some (.lst (A ++ B)) := by rw [eg9]; simp
  obtain ⟨g10, e10, b10, F10, l10⟩ := unlike_g b8 sAB
  have un : eCall f__law_unlike (aCons (eBin fAdd (eV 2) (eV 3)) aNil) σ g8 = .ok (.ref g9.length) g10 := by
    simp only [x_eCall, x_aCons, x_eBin, x_aNil, x_bind, v2, v3, ad, x_ofO, e10]
  have F8x := F9.trans F10
  have F0x := F08.trans F8x
  have t3 := neL m7 un (F8x.get b7 (by simp)) b10 (sms_uq sAB).pl
  obtain ⟨g11, n11, e11, T11, F11, l11⟩ := or_g (T.fr F0x) (U.fr F0x) sAB
  have m11 := lenT (σ := σ) (binU_g (f := fNo) (v0 g10) (v1 g10) (T.fr F0x) (U.fr F0x) e11) T11
  have F0y := F0x.trans F11
  have F1y := ((F16.trans F68).trans F8x).trans F11
  have q1 := lenL (e := eV 2) (v2 g11) (F0y.get ha (by simp))
  have q2 := lenL (e := eV 3) (v3 g11) (F0y.get hb (by simp))
  have q3 := lenL (e := eV 4) (v4 g11) (F1y.get b1 (by simp))
  have ul := uq_len T.nd U.nd
  have cnt : ((A.length : Int) + B.length - (both A B).length) = (uq (A ++ B)).length := by omega
  have nn : ∀ (i : Int) (g : Hi), fNe (.int i) (.int i) g = some (.bl false, g) := fun i g => by
    show some (VI.bl (!(PyData.eqv (.int i) (.int i))), g) = _
    simp [PyData.eqv]
  have i1 : ∀ g, fAdd (.int A.length) (.int B.length) g = some (.int ((A.length : Int) + B.length), g) := fun _ => rfl
  have i2 : ∀ g, fSub (.int ((A.length : Int) + B.length)) (.int (both A B).length) g = some (.int ((A.length : Int) + B.length - (both A B).length), g) := fun _ => rfl
  have t4 : eBin fNe (eLenU Lw.gx1 (eBinU (lkT [(31, f_TableD_orD)]) (lkT []) fNo (eV 0) (eV 1))) (eBin fSub (eBin fAdd (eLenU Lw.gx1 (eV 2)) (eLenU Lw.gx1 (eV 3))) (eLenU Lw.gx1 (eV 4))) σ g10 = .ok (.bl false) g11 := by
    simp only [x_eBin, m11, x_bind, q1, q2, q3, i1, x_ofO, i2, cnt, nn]
  -- ==
  have q := eqT (σ := σ) (v0 g11) (v1 g11) (T.fr F0y) (nf_tab (U.fr F0y)) (teq_g (T.fr F0y) (U.fr F0y))
  have eqn : ∀ (i j : Nat) (g : Hi), fEqX (.int i) (.int j) g = some (.bl (decide (i = j)), g) := fun i j g => by
    show some (VI.bl (PyData.eqv (.int i) (.int j)), g) = _
    congr 3
    simp only [PyData.eqv]
    rw [Bool.eq_iff_iff]
    simp only [beq_iff_eq, decide_eq_true_eq]
    constructor <;> intro z <;> omega
  have eqb : ∀ (c : Bool) (g : Hi), fEqX (.bl c) (.bl c) g = some (.bl true, g) := fun c g => by cases c <;> rfl
  have t5 : eBin fEqX (eCmpU [31] (lkT [(31, f_TableD_eqD)]) fEqX (eV 0) (eV 1)) (eAnd (eBin fEqX (eLenU Lw.gx1 (eV 4)) (eLenU Lw.gx1 (eV 2))) (eBin fEqX (eLenU Lw.gx1 (eV 4)) (eLenU Lw.gx1 (eV 3)))) σ g11 = .ok (.bl true) g11 := by
    have an : eAnd (eBin fEqX (eLenU Lw.gx1 (eV 4)) (eLenU Lw.gx1 (eV 2))) (eBin fEqX (eLenU Lw.gx1 (eV 4)) (eLenU Lw.gx1 (eV 3))) σ g11 = .ok (.bl (decide ((both A B).length = A.length) && decide ((both A B).length = B.length))) g11 := by
      have p1 : eBin fEqX (eLenU Lw.gx1 (eV 4)) (eLenU Lw.gx1 (eV 2)) σ g11 = .ok (.bl (decide ((both A B).length = A.length))) g11 := by simp only [x_eBin, q1, q3, x_bind, eqn, x_ofO]
      have p2 : eBin fEqX (eLenU Lw.gx1 (eV 4)) (eLenU Lw.gx1 (eV 3)) σ g11 = .ok (.bl (decide ((both A B).length = B.length))) g11 := by simp only [x_eBin, q2, q3, x_bind, eqn, x_ofO]
      cases z : decide ((both A B).length = A.length) with
      | false => rw [z] at p1; exact andF p1
      | true => rw [z] at p1; exact andT p1 p2
    simp only [x_eBin, an, q, x_bind, eqb, x_ofO]
  refine ⟨g11, ?_, F0y⟩
  have r0 : f__law_mixed [.ref t, .ref u, .ref a, .ref b] h = endB (m__law_mixed [some (.ref t), some (.ref u), some (.ref a), some (.ref b), none, none, none] h) := rfl
  rw [r0]
  unfold m__law_mixed
  rw [seqN (asgN c1)]
  show endB (sSeq _ _ [some (.ref t), some (.ref u), some (.ref a), some (.ref b), some (.ref h.length), none, none] g1) = _
  rw [seqN (asgN c2)]
  show endB (sSeq _ _ [some (.ref t), some (.ref u), some (.ref a), some (.ref b), some (.ref h.length), none, some (.ref g1.length)] g2) = _
  rw [← eσ]
  refine (congrArg endB (seqN ((ifF (orF (ofT t1) (ofT t2))).trans rfl))).trans ?_
  refine (congrArg endB (seqN ((ifF (orF (ofT t3) (ofT t4))).trans rfl))).trans ?_
  show endB (((eBin _ _ _ σ g11).bindS _ _).andThen _) = _
  rw [t5]
  rfl
end Lw
end
section
namespace Lw
open PySem L2 ML
theorem PoolAt.lt {h : Hi} {p : Nat} (P : PoolAt h p) : p < h.length := by
  obtain ⟨a, b, e, k⟩ := P
  exact at_lt e
theorem poolAt_fr {h h' : Hi} {p : Nat} {ps : List Nat} (P : PoolAt h p) (F : Fr ps h h') (n : p ∉ ps) : PoolAt h' p := by
  obtain ⟨a, b, e, k⟩ := P
  exact ⟨a, b, F.get e n, k⟩
theorem one_g {h : Hi} {p l : Nat} {xs : List VI} (P : PoolAt h p) (hl : h[l]? = some (.lst xs)) (ne : l ≠ p) (n0 : xs ≠ []) (n1 : xs.length < 1000) : ∃ v h', f__law_one [.ref p, .ref l] h = .ok v h' ∧ v ∈ xs ∧ PoolAt h' p ∧ Fr [p] h h' := by
  have p0 : 0 < xs.length := List.length_pos_iff.mpr n0
  obtain ⟨i, h', e, v0, v1, P', F⟩ := take_g (m := xs.length) P (by omega) (by omega)
  have hl' := F.at_ l _ (by simpa using ne) hl
  obtain ⟨j, rfl⟩ := Int.eq_ofNat_of_zero_le v0
  have hj : j < xs.length := by omega
  have ln := lenL (σ := [some (.ref p), some (.ref l)]) (e := eV 1) (h := h) (h1 := h) rfl hl
  have ix : fIx (.ref l) (.int (j : Int)) h' = some (xs[j], h') := by simp [fIx, hl', ixL, ixI, hj]
  refine ⟨xs[j], h', ?_, List.getElem_mem _, P', F⟩
  unfold f__law_one m__law_one
  simp only [x_run2, x_rep0, x_sRet, x_eBin, x_eV, List.getElem?_cons_zero, List.getElem?_cons_succ, x_bind, x_eCall, x_aCons, x_aNil, ln, e, ix, x_ofO, x_bindS, x_endR]
theorem state_g {h : Hi} {p : Nat} (P : PoolAt h p) : ∃ v h', f__law_state [.ref p] h = .ok v h' ∧ Sm v ∧ PoolAt h' p ∧ Fr [p] h h' := by
  have np : ∀ (g : Hi) (x : Nat), x ≠ p → x ∉ [p] := fun _ x z => by simpa using z
  obtain ⟨a, h1, e1, a0, a1, P1, F1⟩ := take_g (m := 2) P (by omega) (by omega)
  have sm : ∀ n, n ≤ 100000 → small n = true := fun n l => by rw [z_small]; exact decide_eq_true l
  have ps1 := P1.lt
  obtain ⟨b, h2, e2, bm, P2, F2⟩ := one_g (h := h1 ++ [.lst [.non, .str s_out, .str s_inside]]) (l := h1.length) (xs := [.non, .str s_out, .str s_inside]) (poolAt_fr (ps := []) P1 .app (by simp)) (by simp) (by omega) (fun z => nomatch z) (by decide)
  have kb : plV 0 b = true := by
    simp only [List.mem_cons, List.not_mem_nil, or_false] at bm
    rcases bm with rfl | rfl | rfl <;> kernel_rfl
  obtain ⟨c, h3, e3, c0, c1, P3, F3⟩ := take_g (m := 3) P2 (by omega) (by omega)
  obtain ⟨I, eI⟩ : ∃ I : VI, I = .tup [.int a, b] := ⟨_, rfl⟩
  have kI : plV 1 I = true := by rw [eI]; simp [plV, plVs, kb]
  obtain ⟨L1, eL1⟩ : ∃ L : List VI, L = [.tup [], I, .tup [.int c], .tup [I, .tup []], .tup [.str s_unsafe, .int 0, .int 1], .tup [I, I, .tup [I]]] := ⟨_, rfl⟩
  obtain ⟨L2, eL2⟩ : ∃ L : List VI, L = [.tup [.bl true], .tup [.bl false, .int 1], .tup [.tup [.bl true, .non], .tup []]] := ⟨_, rfl⟩
  have l1 : L1.length = 6 := by rw [eL1]; rfl
  have l2 : L2.length = 3 := by rw [eL2]; rfl
  have ps3 := P3.lt
  have kall : ∀ v ∈ L1 ++ L2, Sm v := by
    have up := fun {n : Nat} (l : 1 ≤ n) => pl_up kI l
    have ku : sok s_unsafe = true := by kernel_rfl
    intro v hv
    rw [eL1, eL2] at hv
    simp only [List.cons_append, List.nil_append, List.mem_cons, List.not_mem_nil, or_false] at hv
    rcases hv with rfl | rfl | rfl | rfl | rfl | rfl | rfl | rfl | rfl
    · exact ⟨_, rfl, rfl⟩
    · exact ⟨_, eI, up (by omega)⟩
    · exact ⟨_, rfl, rfl⟩
    · exact ⟨_, rfl, by simp [plV, plVs, up (n := 3) (by omega)]⟩
    · exact ⟨_, rfl, by simp [plV, plVs, ku]⟩
    · exact ⟨_, rfl, by simp [plV, plVs, up (n := 3) (by omega), up (n := 2) (by omega)]⟩
    · exact ⟨_, rfl, rfl⟩
    · exact ⟨_, rfl, rfl⟩
    · exact ⟨_, rfl, rfl⟩
  have g4 : (h3 ++ [OI.lst L1] ++ [OI.lst L2])[h3.length]? = some (.lst L1) := by simp
  have g5 : (h3 ++ [OI.lst L1] ++ [OI.lst L2])[(h3 ++ [OI.lst L1]).length]? = some (.lst L2) := by simp
  have ad := fAdd_l g4 g5 (by omega)
  obtain ⟨h4, eh4⟩ : ∃ g : Hi, g = h3 ++ [OI.lst L1] ++ [OI.lst L2] ++ [OI.lst (L1 ++ L2)] := ⟨_, rfl⟩
  rw [← eh4] at ad
  have F4 : Fr [] h3 h4 := by rw [eh4]; exact (Fr.app.trans .app).trans .app
  have g6 : h4[(h3 ++ [OI.lst L1] ++ [OI.lst L2]).length]? = some (.lst (L1 ++ L2)) := by rw [eh4]; simp
  obtain ⟨v, h5, e5, vm, P5, F5⟩ := one_g (poolAt_fr P3 F4 (by simp)) g6 (by simp; omega) (by rw [eL1]; simp) (by rw [List.length_append]; omega)
  refine ⟨v, h5, ?_, kall v vm, P5, (((F1.trans (Fr.app (q := [.lst [.non, .str s_out, .str s_inside]])).nil).trans F2).trans F3).trans (F4.nil.trans F5)⟩
  have s3 := sm 3 (by omega)
  have s6 := sm 6 (by omega)
  have c1' : eTup (aCons (eCall f__law_take (aCons (eV 0) (aCons (eC (.int 2)) aNil))) (aCons (eCall f__law_one (aCons (eV 0) (aCons (eLst (aCons (eC .non) (aCons (eC (.str s_out)) (aCons (eC (.str s_inside)) aNil)))) aNil))) aNil)) [some (.ref p), none, none] h = .ok I h2 := by
    simp? [e1, e2, s3, eI, sm 2 (by omega)]
  have c2' : eLst (aCons (eTup aNil) (aCons (eV 1) (aCons (eTup (aCons (eCall f__law_take (aCons (eV 0) (aCons (eC (.int 3)) aNil))) aNil)) (aCons (eTup (aCons (eV 1) (aCons (eTup aNil) aNil))) (aCons (eTup (aCons (eC (.str s_unsafe)) (aCons (eC (.int 0)) (aCons (eC (.int 1)) aNil)))) (aCons (eTup (aCons (eV 1) (aCons (eV 1) (aCons (eTup (aCons (eV 1) aNil)) aNil)))) aNil)))))) [some (.ref p), some I, none] h2 = .ok (.ref h3.length) (h3 ++ [.lst L1]) := by
    simp? [e3, s6, eL1, sm 0 (by omega), sm 1 (by omega), sm 2 (by omega), s3]
  have c3' : eLst (aCons (eTup (aCons (eC (.bl true)) aNil)) (aCons (eTup (aCons (eC (.bl false)) (aCons (eC (.int 1)) aNil))) (aCons (eTup (aCons (eTup (aCons (eC (.bl true)) (aCons (eC .non) aNil))) (aCons (eTup aNil) aNil))) aNil))) [some (.ref p), some I, some (.ref h3.length)] (h3 ++ [.lst L1]) = .ok (.ref (h3 ++ [OI.lst L1]).length) (h3 ++ [OI.lst L1] ++ [.lst L2]) := by
    simp? [s3, eL2, sm 0 (by omega), sm 1 (by omega), sm 2 (by omega)]
  unfold f__law_state m__law_state
  rw [x_run1, x_rep2]
  refine (congrArg endB (seqN (asgN c1'))).trans ?_
  refine (congrArg endB (seqN (asgN c2'))).trans ?_
  show endB (sSeq _ _ [some (.ref p), some I, some (.ref h3.length)] (h3 ++ [.lst L1])) = _
  simp only [x_sSeq, x_sRet, x_eCall, x_aCons, x_eV, List.getElem?_cons_zero, List.getElem?_cons_succ, x_bind, x_eBin, c3', ad, x_ofO, x_aNil, e5, x_bindS, x_rt, x_endR]
theorem rng9 {z : Int} (a : 0 ≤ z) (b : z < 1000) : rngOf [.int z] = some (.rng 0 z.toNat) := by
  have c : decide (-(2 ^ 62 : Int) ≤ z) = true := decide_eq_true (by omega)
  have d : decide (z < (2 ^ 62 : Int)) = true := decide_eq_true (by omega)
  simp only [rngOf, c, d, Bool.and_self]
theorem turns_pool {σ : Sg} {p d n : Nat} {h0 : Hi} (q0 : σ[0]? = some (some (.ref p))) (sl : 2 < σ.length) (pl : p < h0.length) (dl : h0.length ≤ d) (nl : n ≤ 50) : ∀ (k i : Nat) (g : Hi) (acc : List VI), i + k = n → acc.length = i → (∀ v ∈ acc, Sm v) → g[d]? = some (.lst acc) → PoolAt g p → Fr [p] h0 g →
    ∃ g' xs, turnsC (.rng 0 n) (.one 2) [2] tYesM (eCall f__law_state (aCons (eV 0) aNil)) d σ k i g = some g' ∧ g'[d]? = some (.lst xs) ∧ xs.length = n ∧ (∀ v ∈ xs, Sm v) ∧ PoolAt g' p ∧ Fr [p] h0 g'
  | 0, i, g, acc, e, al, av, gd, P, F => by
    have nx : (Itm.rng 0 n).nxt i g = some none := by
      have : Nat.blt i n = false := by
        cases q : Nat.blt i n with
        | false => rfl
        | true => rw [Nat.blt_eq] at q; omega
      simp [Itm.nxt, this]
    refine ⟨g, acc, ?_, gd, by omega, av, P, F⟩
    unfold turnsC
    rw [nx]
  | k + 1, i, g, acc, e, al, av, gd, P, F => by
    have nx : (Itm.rng 0 n).nxt i g = some (some (.int (0 + i))) := by
      have : Nat.blt i n = true := by rw [Nat.blt_eq]; omega
      simp [Itm.nxt, this]
    obtain ⟨v, g2, e2, sv, P2, F2⟩ := state_g P
    have dp : d ≠ p := by omega
    have gd2 := F2.get gd (by simpa using dp)
    have dlt := at_lt gd2
    have F3 : Fr [p] h0 (g2.set d (.lst (acc ++ [v]))) := ⟨by have := (F.trans F2).len; simpa using this, fun m u hm em => by
      have := at_lt em
      rw [List.getElem?_set_ne (by omega)]
      exact (F.trans F2).at_ m u hm em⟩
    have P3 : PoolAt (g2.set d (.lst (acc ++ [v]))) p := by
      obtain ⟨a, b, ee, kk⟩ := P2
      exact ⟨a, b, by rw [List.getElem?_set_ne dp]; exact ee, kk⟩
    obtain ⟨g', xs, r1, r2⟩ := turns_pool q0 sl pl dl nl k (i + 1) (g2.set d (.lst (acc ++ [v]))) (acc ++ [v]) (by omega) (by simp; omega) (fun w hw => by
      rcases List.mem_append.mp hw with z | z
      · exact av w z
      · have : w = v := by simpa using z
        rw [this]; exact sv) (List.getElem?_set_self dlt) P3 F3
    refine ⟨g', xs, ?_, r2⟩
    have q0' : ((σ.set 2 none).set 2 (some (.int (0 + i))))[0]? = some (some (.ref p)) := by rw [List.getElem?_set_ne (by omega), List.getElem?_set_ne (by omega), q0]
    have el : eCall f__law_state (aCons (eV 0) aNil) ((σ.set 2 none).set 2 (some (.int (0 + i)))) g = .ok v g2 := by
      simp only [x_eCall, x_aCons, x_aNil, x_eV, q0', x_bind, e2]
    have s : small (acc.length + 1) = true := by rw [z_small]; exact decide_eq_true (by omega)
    have pt : Tgt.put (.one 2) (.int (0 + i)) (wipeM σ [2]) = some ((σ.set 2 none).set 2 (some (.int (0 + i)))) := rfl
    unfold turnsC
    rw [nx]
    dsimp only
    rw [pt]
    simp only [tYesM, el, gd2, s]
    exact r1
theorem compr_g {h : Hi} {p : Nat} {σ : Sg} (P : PoolAt h p) (q0 : σ[0]? = some (some (.ref p))) (sl : 2 < σ.length) : ∃ h' l xs, eLc (iRng (aCons (eCall f__law_take (aCons (eV 0) (aCons (eC (.int 10)) aNil))) aNil)) (.one 2) [2] tYesM (eCall f__law_state (aCons (eV 0) aNil)) σ h = .ok (.ref l) h' ∧ h'[l]? = some (.lst xs) ∧ (∀ v ∈ xs, Sm v) ∧ xs.length ≤ 9 ∧ PoolAt h' p ∧ Fr [p] h h' ∧ h.length ≤ l := by
  obtain ⟨n, h1, e1, n0, n1, P1, F1⟩ := take_g (m := 10) P (by omega) (by omega)
  obtain ⟨g', xs, r1, r2, r3, r4, r5, r6⟩ := turns_pool (σ := σ) (p := p) (d := h1.length) (n := n.toNat) (h0 := h1) q0 sl P1.lt (by omega) (by omega) n.toNat 0 (h1 ++ [.lst []]) [] (by omega) rfl (by simp) (by simp) (poolAt_fr (ps := []) P1 .app (by simp)) Fr.app.nil
  refine ⟨g', h1.length, xs, ?_, r2, r4, by omega, r5, F1.trans r6, F1.len⟩
  have mi : iRng (aCons (eCall f__law_take (aCons (eV 0) (aCons (eC (.int 10)) aNil))) aNil) σ h = .ok (.rng 0 n.toNat) h1 := by
    simp only [x_iRng, x_aCons, x_eCall, x_eV, q0, x_bind, x_eC, x_aNil, e1, rng9 n0 (show n < 1000 by omega), x_ofI]
  unfold eLc
  rw [mi]
  show (match turnsC (.rng 0 n.toNat) (.one 2) [2] tYesM _ h1.length σ n.toNat 0 (h1 ++ [.lst []]) with
    | some h2 => Res.ok (VI.ref h1.length) h2
    | none => .err) = _
  rw [r1]
end Lw
end
section
namespace Lw
open PySem L2 ML
abbrev CT : Nat → Option MF := lkT [(31, f_TableD_containsD)]
abbrev bIn : MS := (sIf (tOrM (tOf (eBin fNe (eCtU false CT fIn (eV 8) (eV 6)) (eBin fIn (eV 8) (eV 4)))) (tOf (eCtU false CT fIn (eCB cList (aCons (eV 8) aNil)) (eV 6)))) (sRet (eC (.bl false))) sNx)
theorem ctU_g {σ : Sg} {h h1 h2 : Hi} {t : Nat} {A : List VI} {e1 e2 : ME} {v : VI} {b : Bool} (r1 : e1 σ h = .ok v h1) (r2 : e2 σ h1 = .ok (.ref t) h2) (T : TbA h2 t A) (q : f_TableD_containsD [.ref t, v] h2 = .ok (.bl b) h2) : eCtU false CT fIn e1 e2 σ h = .ok (.bl b) h2 := by
  obtain ⟨kn, rw_, a, _, c⟩ := T.ex
  have i1 : insC (.ref t) h2 = some 31 := by simp [insC, a]
  have lk : CT 31 = some f_TableD_containsD := rfl
  unfold eCtU
  rw [r1]
  show (e2 σ h1).bind _ = _
  rw [r2]
  show (match insC (.ref t) h2 with | some c => _ | none => _) = _
  rw [i1]
  dsimp only
  rw [lk]
  show ctR false (f_TableD_containsD [.ref t, v] h2) = _
  rw [q]
  show Res.ok (VI.bl (false != b)) h2 = _
  cases b <;> rfl
theorem turn_in {σ : Sg} {h : Hi} {t a : Nat} {A : List VI} {v : VI} (T : TbA h t A) (ha : h[a]? = some (.lst A)) (s : Sm v) (q8 : σ[8]? = some (some v)) (q6 : σ[6]? = some (some (.ref t))) (q4 : σ[4]? = some (some (.ref a))) :
    ∃ h', bIn σ h = .nx σ h' ∧ Fr [] h h' := by
  have v8 : ∀ g, eV 8 σ g = .ok v g := fun g => by rw [x_eV, q8]
  have v6 : ∀ g, eV 6 σ g = .ok (.ref t) g := fun g => by rw [x_eV, q6]
  have v4 : ∀ g, eV 4 σ g = .ok (.ref a) g := fun g => by rw [x_eV, q4]
  have c1 := ctU_g (v8 h) (v6 h) T (tin_g T s)
  have fi := fIn_k ha s T.sm.pl
  have nb : ∀ (c : Bool) (g : Hi), fNe (.bl c) (.bl c) g = some (.bl false, g) := fun c g => by cases c <;> rfl
  have t1 : eBin fNe (eCtU false CT fIn (eV 8) (eV 6)) (eBin fIn (eV 8) (eV 4)) σ h = .ok (.bl false) h := by
    simp only [x_eBin, c1, x_bind, v8, v4, fi, x_ofO, nb]
  obtain ⟨xs, ev, pv⟩ := s
  have pl : small xs.length = true ∨ True := .inr trivial
  have cl : cList [v] h = some (.ref h.length, h ++ [.lst xs]) := by rw [ev]; rfl
  have el : eCB cList (aCons (eV 8) aNil) σ h = .ok (.ref h.length) (h ++ [.lst xs]) := by
    simp only [x_eCB, x_aCons, v8, x_bind, x_aNil, cl, x_ofO]
  have T2 : TbA (h ++ [.lst xs]) t A := T.fr .app
  have c2 := ctU_g el (v6 _) T2 (tinR_g (n := h.length) (xs := xs) T2 (by simp))
  exact ⟨h ++ [.lst xs], (ifF (orF (ofT t1) (ofT c2))).trans rfl, .app⟩
theorem loop_in {σ : Sg} {h : Hi} {t a l : Nat} {A X : List VI} (T : TbA h t A) (ha : h[a]? = some (.lst A)) (hl : h[l]? = some (.lst X)) (sX : ∀ v ∈ X, Sm v) (sl : 8 < σ.length) (q6 : σ[6]? = some (some (.ref t))) (q4 : σ[4]? = some (some (.ref a))) :
    ∃ x h', turns (.lst l) (gNm 8) bIn X.length 0 σ h = .nx (σ.set 8 x) h' ∧ Fr [] h h' := by
  obtain ⟨σ', h', e, ⟨x, e1⟩, F⟩ := turns_inv (it := .lst l) (g := gNm 8) (body := bIn) X.length (fun i τ g => (∃ x, τ = σ.set 8 x) ∧ Fr [] h g)
    (fun i τ g hi ⟨⟨x, e1⟩, F⟩ => by
      subst e1
      have q8' : ((σ.set 8 x).set 8 (some X[i]))[8]? = some (some X[i]) := List.getElem?_set_self (by rw [List.length_set]; exact sl)
      have q6' : ((σ.set 8 x).set 8 (some X[i]))[6]? = some (some (.ref t)) := by rw [List.getElem?_set_ne (by omega), List.getElem?_set_ne (by omega), q6]
      have q4' : ((σ.set 8 x).set 8 (some X[i]))[4]? = some (some (.ref a)) := by rw [List.getElem?_set_ne (by omega), List.getElem?_set_ne (by omega), q4]
      obtain ⟨g2, r, F2⟩ := turn_in (T.fr F) (F.get ha (by simp)) (sX _ (List.getElem_mem hi)) q8' q6' q4'
      refine ⟨X[i], _, g, _, g2, ?_, rfl, r, ⟨some X[i], by rw [List.set_set]⟩, F.trans F2⟩
      rw [nxt_lst (F.get hl (by simp)), List.getElem?_eq_getElem hi])
    (fun τ g ⟨_, F⟩ => by rw [nxt_lst (F.get hl (by simp))]; simp) X.length 0 σ h (by omega) ⟨⟨σ[8], by rw [List.set_getElem_self]⟩, .refl⟩
  subst e1
  exact ⟨x, h', e, F⟩
theorem sm_more : Sm (.tup [.str s_more]) := ⟨_, rfl, by kernel_rfl⟩
theorem append_e {σ : Sg} {h : Hi} {i n : Nat} {v : VI} {e : ME} {acc : List VI} (hi : σ[i]? = some (some (.ref n))) (he : e σ h = .ok v h) (hn : h[n]? = some (.lst acc)) (sm : acc.length ≤ 1000) : sDrop (eBM .lst mAppend (eV i) (aCons e aNil)) σ h = .nx σ (h.set n (.lst (acc ++ [v]))) := by
  have s : small (acc.length + 1) = true := by rw [z_small]; simp; omega
  have k : kOk .lst (.ref n) h = true := by simp [kOk, hn]
  have eb : eBM .lst mAppend (eV i) (aCons e aNil) σ h = .ok .non (h.set n (.lst (acc ++ [v]))) := by
    simp only [eBM, z_eV, hi, he, z_slK, z_bind, k, z_aCons, z_aNil, z_consK, mAppend, hn, s, z_ofO]
  show (eBM .lst mAppend (eV i) (aCons e aNil) σ h).bindS σ _ = _
  rw [eb]
  rfl
theorem right_g {h : Hi} {p : Nat} (P : PoolAt h p) : ∃ h', f__law_right [.ref p] h = .ok (.bl true) h' ∧ Fr [p] h h' := by
  obtain ⟨h1, l1, X, c1, g1, sX, nX, P1, F1, k1⟩ := compr_g (σ := [some (.ref p), none, none, none, none, none, none, none, none, none]) P rfl (by simp)
  have pl := P.lt
  obtain ⟨h2, l2, Y, c2, g2, sY, nY, P2, F2, k2⟩ := compr_g (σ := [some (.ref p), some (.ref l1), none, none, none, none, none, none, none, none]) P1 rfl (by simp)
  have l1p : l1 ≠ p := by omega
  have l2p : l2 ≠ p := by have := F1.len; omega
  have g1' := F2.get g1 (by simpa using l1p)
  have l12 := at_lt g1
  have SX : Sms X := ⟨sX, by omega⟩
  have SY : Sms Y := ⟨sY, by omega⟩
  -- unlike ones
  obtain ⟨h3, e3, g3, F3, n3⟩ := unlike_g g1' SX
  obtain ⟨h4, e4, g4, F4, n4⟩ := unlike_g (F3.get g2 (by simp)) SY
  have F24 := F3.trans F4
  obtain ⟨A, eA⟩ : ∃ A, A = uq X := ⟨_, rfl⟩
  obtain ⟨B, eB⟩ : ∃ B, B = uq Y := ⟨_, rfl⟩
  rw [← eA] at g3
  rw [← eB] at g4
  have SA : Sms A := by rw [eA]; exact sms_uq SX
  have SB : Sms B := by rw [eB]; exact sms_uq SY
  have lA : A.length ≤ 9 := by have := len_uqF (xs := X) (acc := []); have e0 : ([] : List VI).length = 0 := rfl; rw [eA]; unfold uq; omega
  have lB : B.length ≤ 9 := by have := len_uqF (xs := Y) (acc := []); have e0 : ([] : List VI).length = 0 := rfl; rw [eB]; unfold uq; omega
  have g3' := F4.get g3 (by simp)
  -- the tables
  obtain ⟨h5, e5, T5, F5, n5, f5⟩ := mk_g (h := h4) (.lst (F24.get g1' (by simp))) SX
  rw [← eA] at T5
  have g2' := (F24.trans F5).get g2 (by simp)
  have ct : cTuple [.ref l2] h5 = some (.tup Y, h5) := by simp [cTuple, g2']
  obtain ⟨h6, e6, T6, F6, n6, f6⟩ := mk_g (h := h5) (.tup Y) SY
  rw [← eB] at T6
  have T5' := T5.fr F6
  have F26 := (F24.trans F5).trans F6
  have g1'' := F26.get g1' (by simp)
  have w1 := at_lt g1'
  have w2 := at_lt g2
  have w3 := at_lt (F24.get g1' (by simp))
  obtain ⟨σ0, eσ0⟩ : ∃ σ : Sg, σ = [some (.ref p), some (.ref l1), none, some (.ref l2), some (.ref h2.length), some (.ref h3.length), some (.ref h4.length), some (.ref h5.length), none, none] := ⟨_, rfl⟩
  -- append
  have mt : ∀ (σ : Sg) (g : Hi), eTup (aCons (eC (.str s_more)) aNil) σ g = .ok (.tup [.str s_more]) g := fun σ g => by
    have s1 : small 1 = true := rfl
    simp? [s1]
  have ap := append_e (σ := σ0) (i := 1) (n := l1) (by rw [eσ0]; rfl) (mt σ0 h6) g1'' (by omega)
  obtain ⟨h7, eh7⟩ : ∃ g : Hi, g = h6.set l1 (.lst (X ++ [.tup [.str s_more]])) := ⟨_, rfl⟩
  rw [← eh7] at ap
  have F7 : Fr [l1] h6 h7 := by rw [eh7]; exact .set
  have U7 : TbA h7 h4.length A := (T5.fr F6).keep (F6.get f5 (by simp)) F7 (by omega)
  have V7 : TbA h7 h5.length B := T6.keep f6 F7 (by omega)
  have F46 := F5.trans F6
  have a7 : h7[h2.length]? = some (.lst A) := F7.get (F46.get g3' (by simp)) (by simp; omega)
  have b7 : h7[h3.length]? = some (.lst B) := F7.get (F46.get g4 (by simp)) (by simp; omega)
  have v4 : ∀ g, eV 4 σ0 g = .ok (.ref h2.length) g := fun g => by rw [eσ0]; rfl
  have v5 : ∀ g, eV 5 σ0 g = .ok (.ref h3.length) g := fun g => by rw [eσ0]; rfl
  have v6 : ∀ g, eV 6 σ0 g = .ok (.ref h4.length) g := fun g => by rw [eσ0]; rfl
  have v7 : ∀ g, eV 7 σ0 g = .ok (.ref h5.length) g := fun g => by rw [eσ0]; rfl
  -- listed
  have m8 := listedU (v6 h7) U7
  obtain ⟨h8, eh8⟩ : ∃ g : Hi, g = h7 ++ [.lst A] := ⟨_, rfl⟩
  rw [← eh8] at m8
  have F8 : Fr [] h7 h8 := by rw [eh8]; exact .app
  have x8 : h8[h7.length]? = some (.lst A) := by rw [eh8]; simp
  have t8 := neL m8 (v4 h8) x8 (F8.get a7 (by simp)) SA.pl
  have m9 := listedU (v7 h8) (V7.fr F8)
  obtain ⟨h9, eh9⟩ : ∃ g : Hi, g = h8 ++ [.lst B] := ⟨_, rfl⟩
  rw [← eh9] at m9
  have F9 : Fr [] h8 h9 := by rw [eh9]; exact .app
  have F79 := F8.trans F9
  have x9 : h9[h8.length]? = some (.lst B) := by rw [eh9]; simp
  have t9 := neL m9 (v5 h9) x9 (F79.get b7 (by simp)) SB.pl
  have nn : ∀ (i : Int) (g : Hi), fNe (.int i) (.int i) g = some (.bl false, g) := fun i g => by
    show some (VI.bl (!(PyData.eqv (.int i) (.int i))), g) = _
    simp [PyData.eqv]
  have q1 := lenT (v6 h9) (U7.fr F79)
  have q2 := lenL (v4 h9) (F79.get a7 (by simp))
  have t10 : eBin fNe (eLenU Lw.gx1 (eV 6)) (eLenU Lw.gx1 (eV 4)) σ0 h9 = .ok (.bl false) h9 := by
    simp only [x_eBin, q1, x_bind, q2, nn, x_ofO]
  -- the loop
  have ad1 := fAdd_l (F79.get a7 (by simp)) (F79.get b7 (by simp)) (by omega)
  obtain ⟨h10, eh10⟩ : ∃ g : Hi, g = h9 ++ [.lst (A ++ B)] ++ [.lst [.tup [.str s_more]]] := ⟨_, rfl⟩
  have x10 : h10[h9.length]? = some (.lst (A ++ B)) := by rw [eh10]; simp
  have x10' : h10[(h9 ++ [OI.lst (A ++ B)]).length]? = some (.lst [.tup [.str s_more]]) := by rw [eh10]; simp
  have ad2 := fAdd_l x10 x10' (by simp; omega)
  obtain ⟨h11, eh11⟩ : ∃ g : Hi, g = h10 ++ [.lst (A ++ B ++ [.tup [.str s_more]])] := ⟨_, rfl⟩
  rw [← eh11] at ad2
  have F11 : Fr [] h9 h11 := by rw [eh11, eh10]; exact (Fr.app.trans .app).trans .app
  have F7b := F79.trans F11
  have x11 : h11[h10.length]? = some (.lst (A ++ B ++ [.tup [.str s_more]])) := by rw [eh11]; simp
  have lst1 : ∀ g : Hi, eLst (aCons (eTup (aCons (eC (.str s_more)) aNil)) aNil) σ0 g = .ok (.ref g.length) (g ++ [.lst [.tup [.str s_more]]]) := fun g => by
    have s1 : small 1 = true := rfl
    simp? [s1]
  have it : iSeq (eBin fAdd (eBin fAdd (eV 4) (eV 5)) (eLst (aCons (eTup (aCons (eC (.str s_more)) aNil)) aNil))) σ0 h9 = .ok (.lst h10.length) h11 := by
    refine iSeq_l ?_ x11
    simp only [x_eBin, v4, v5, x_bind, ad1, x_ofO, lst1]
    rw [← eh10, ad2]
    rfl
  obtain ⟨y8, h12, e12, F12⟩ := loop_in (σ := σ0) (h := h11) (t := h4.length) (a := h2.length) (l := h10.length) (A := A) (X := A ++ B ++ [.tup [.str s_more]]) (U7.fr F7b) (F7b.get a7 (by simp)) x11 (fun v hv => by
    simp only [List.mem_append, List.mem_singleton] at hv
    rcases hv with (z | z) | z
    · exact SA.1 v z
    · exact SB.1 v z
    · rw [z]; exact sm_more) (by rw [eσ0]; simp) (by rw [eσ0]; rfl) (by rw [eσ0]; rfl)
  have fr12 : sFor (iSeq (eBin fAdd (eBin fAdd (eV 4) (eV 5)) (eLst (aCons (eTup (aCons (eC (.str s_more)) aNil)) aNil)))) (gNm 8) bIn σ0 h9 = .nx (σ0.set 8 y8) h12 := by
    show (iSeq _ σ0 h9).bindS _ _ = _
    rw [it]
    show turns (.lst h10.length) (gNm 8) bIn ((Itm.lst h10.length).fuel h11) 0 σ0 h11 = _
    rw [fuel_lst x11, e12]
  obtain ⟨σ1, eσ1⟩ : ∃ σ : Sg, σ = σ0.set 8 y8 := ⟨_, rfl⟩
  rw [← eσ1] at fr12
  have eσ1' : σ1 = [some (.ref p), some (.ref l1), none, some (.ref l2), some (.ref h2.length), some (.ref h3.length), some (.ref h4.length), some (.ref h5.length), y8, none] := by rw [eσ1, eσ0]; rfl
  have F7c := F7b.trans F12
  -- & | -
  have SAB : Sms (A ++ B) := ⟨fun v hv => by
    rcases List.mem_append.mp hv with z | z
    · exact SA.1 v z
    · exact SB.1 v z, by simp; omega⟩
  have SBA : Sms (B ++ A) := ⟨fun v hv => by
    rcases List.mem_append.mp hv with z | z
    · exact SB.1 v z
    · exact SA.1 v z, by simp; omega⟩
  have SAA : Sms (A ++ A) := ⟨fun v hv => by
    rcases List.mem_append.mp hv with z | z
    · exact SA.1 v z
    · exact SA.1 v z, by simp; omega⟩
  obtain ⟨h13, e13, F13⟩ := mixed_g (U7.fr F7c) (V7.fr F7c) (F7c.get a7 (by simp)) (F7c.get b7 (by simp)) SAB
  have F7d := F7c.trans F13
  obtain ⟨h14, e14, F14⟩ := mixed_g (V7.fr F7d) (U7.fr F7d) (F7d.get b7 (by simp)) (F7d.get a7 (by simp)) SBA
  have F7e := F7d.trans F14
  have z4 : ∀ g, eV 4 σ1 g = .ok (.ref h2.length) g := fun g => by rw [eσ1']; rfl
  have z5 : ∀ g, eV 5 σ1 g = .ok (.ref h3.length) g := fun g => by rw [eσ1']; rfl
  have z6 : ∀ g, eV 6 σ1 g = .ok (.ref h4.length) g := fun g => by rw [eσ1']; rfl
  have z7 : ∀ g, eV 7 σ1 g = .ok (.ref h5.length) g := fun g => by rw [eσ1']; rfl
  have notF : ∀ {e : ME} {g g' : Hi}, e σ1 g = .ok (.bl true) g' → tNotM (tOf e) σ1 g = .ok false g' := fun {e g g'} q => by
    simp only [x_tNot, x_tOf, q, x_bind, Bool.not_true]
  have t13 : eCall f__law_mixed (aCons (eV 6) (aCons (eV 7) (aCons (eV 4) (aCons (eV 5) aNil)))) σ1 h12 = .ok (.bl true) h13 := by
    simp only [x_eCall, x_aCons, x_aNil, z6, z7, z4, z5, x_bind, e13]
  have t14 : eCall f__law_mixed (aCons (eV 7) (aCons (eV 6) (aCons (eV 5) (aCons (eV 4) aNil)))) σ1 h13 = .ok (.bl true) h14 := by
    simp only [x_eCall, x_aCons, x_aNil, z6, z7, z4, z5, x_bind, e14]
  -- told
  have m15 := listedU (z6 h14) (U7.fr F7e)
  obtain ⟨h15, eh15⟩ : ∃ g : Hi, g = h14 ++ [.lst A] := ⟨_, rfl⟩
  rw [← eh15] at m15
  have F15 : Fr [] h14 h15 := by rw [eh15]; exact .app
  have x15 : h15[h14.length]? = some (.lst A) := by rw [eh15]; simp
  obtain ⟨σ2, eσ2⟩ : ∃ σ : Sg, σ = [some (.ref p), some (.ref l1), none, some (.ref l2), some (.ref h2.length), some (.ref h3.length), some (.ref h4.length), some (.ref h5.length), y8, some (.ref h14.length)] := ⟨_, rfl⟩
  have ap2 := append_e (σ := σ2) (i := 9) (n := h14.length) (by rw [eσ2]; rfl) (mt σ2 h15) x15 (by omega)
  obtain ⟨h16, eh16⟩ : ∃ g : Hi, g = h15.set h14.length (.lst (A ++ [.tup [.str s_more]])) := ⟨_, rfl⟩
  rw [← eh16] at ap2
  have F16 : Fr [] h14 h16 := by
    rw [eh16]
    exact F15.setNew (Nat.le_refl _)
  have F7f := F7e.trans F16
  have u4 : ∀ g, eV 4 σ2 g = .ok (.ref h2.length) g := fun g => by rw [eσ2]; rfl
  have u5 : ∀ g, eV 5 σ2 g = .ok (.ref h3.length) g := fun g => by rw [eσ2]; rfl
  have u6 : ∀ g, eV 6 σ2 g = .ok (.ref h4.length) g := fun g => by rw [eσ2]; rfl
  have u7 : ∀ g, eV 7 σ2 g = .ok (.ref h5.length) g := fun g => by rw [eσ2]; rfl
  have m17 := listedU (u6 h16) (U7.fr F7f)
  obtain ⟨h17, eh17⟩ : ∃ g : Hi, g = h16 ++ [.lst A] := ⟨_, rfl⟩
  rw [← eh17] at m17
  have F17 : Fr [] h16 h17 := by rw [eh17]; exact .app
  have F7g := F7f.trans F17
  have x17 : h17[h16.length]? = some (.lst A) := by rw [eh17]; simp
  have t17 := neL m17 (u4 h17) x17 (F7g.get a7 (by simp)) SA.pl
  -- the list turned about
  have rv : eRev (eV 4) σ2 h17 = .ok (.ref h17.length) (h17 ++ [.lst A.reverse]) := by
    have := F7g.get a7 (by simp)
    rw [z_eRev, u4]
    simp only [x_bind, revM, this, x_ofO]
  obtain ⟨h18, e18, T18, F18, n18, _⟩ := mk_g (h := h17 ++ [.lst A.reverse]) (sv := .ref h17.length) (.lst (xs := A.reverse) (by simp)) (sms_rev SA)
  rw [uq_nd (nd_rev U7.nd)] at T18
  have F7h := (F7g.trans (Fr.app (q := [.lst A.reverse]))).trans F18
  have mk18 : eCall (mkM 31 f_TableD_initD) (aCons (eRev (eV 4)) aNil) σ2 h17 = .ok (.ref (h17 ++ [OI.lst A.reverse]).length) h18 := by
    simp only [x_eCall, x_aCons, rv, x_bind, x_aNil, e18]
  have bA : (both A A.reverse).length = A.length := by
    have x := both_sym U7.nd (nd_rev U7.nd)
    rw [both_rev, both_self] at x
    exact x
  have te := teq_g (U7.fr F7h) T18
  rw [bA, List.length_reverse] at te
  simp only [decide_true, Bool.and_self] at te
  have t18 := neT (u6 h17) mk18 (U7.fr F7h) (nf_tab T18) te
  have t19 := eqT (u6 h18) (u4 h18) (U7.fr F7h) (nf_lst (F7h.get a7 (by simp))) (teqR_g (U7.fr F7h) (F7h.get a7 (by simp)))
  obtain ⟨h19, e19, F19⟩ := mixed_g (U7.fr F7h) (U7.fr F7h) (F7h.get a7 (by simp)) (F7h.get a7 (by simp)) SAA
  have F7i := F7h.trans F19
  have t20 : eCall f__law_mixed (aCons (eV 6) (aCons (eV 6) (aCons (eV 4) (aCons (eV 4) aNil)))) σ2 h18 = .ok (.bl true) h19 := by
    simp only [x_eCall, x_aCons, x_aNil, u6, u4, x_bind, e19]
  have m21 := listedU (u7 h19) (V7.fr F7i)
  obtain ⟨h20, eh20⟩ : ∃ g : Hi, g = h19 ++ [.lst B] := ⟨_, rfl⟩
  rw [← eh20] at m21
  have F20 : Fr [] h19 h20 := by rw [eh20]; exact .app
  have x20 : h20[h19.length]? = some (.lst B) := by rw [eh20]; simp
  have t21 := eqL m21 (u5 h20) x20 ((F7i.trans F20).get b7 (by simp)) SB.pl
  have last : eAnd (eCall f__law_mixed (aCons (eV 6) (aCons (eV 6) (aCons (eV 4) (aCons (eV 4) aNil))))) (eCmpU [31] (lkT [(31, f_TableD_eqD)]) fEqX (eMeth (lkT [(31, f_Table_listed)]) s_listed (eV 7) aNil) (eV 5)) σ2 h18 = .ok (.bl true) h20 := by
    unfold eAnd
    rw [t20]
    exact t21
  -- all
  have p1 : sPar 4 5 (aCons (eCall f__law_unlike (aCons (eV 1) aNil)) (aCons (eCall f__law_unlike (aCons (eV 3) aNil)) aNil)) [some (.ref p), some (.ref l1), none, some (.ref l2), none, none, none, none, none, none] h2 = .nx [some (.ref p), some (.ref l1), none, some (.ref l2), some (.ref h2.length), some (.ref h3.length), none, none, none, none] h4 := by
    have a1 : eCall f__law_unlike (aCons (eV 1) aNil) [some (.ref p), some (.ref l1), none, some (.ref l2), none, none, none, none, none, none] h2 = .ok (.ref h2.length) h3 := by simp [e3]
    have a2 : eCall f__law_unlike (aCons (eV 3) aNil) [some (.ref p), some (.ref l1), none, some (.ref l2), none, none, none, none, none, none] h3 = .ok (.ref h3.length) h4 := by simp [e4]
    show (aCons _ _ _ h2).bindS _ _ = _
    rw [x_aCons, a1, x_bind, x_aCons, a2]
    rfl
  have p2 : sPar 6 7 (aCons (eCall (mkM 31 f_TableD_initD) (aCons (eV 1) aNil)) (aCons (eCall (mkM 31 f_TableD_initD) (aCons (eCB cTuple (aCons (eV 3) aNil)) aNil)) aNil)) [some (.ref p), some (.ref l1), none, some (.ref l2), some (.ref h2.length), some (.ref h3.length), none, none, none, none] h4 = .nx σ0 h6 := by
    have a1 : eCall (mkM 31 f_TableD_initD) (aCons (eV 1) aNil) [some (.ref p), some (.ref l1), none, some (.ref l2), some (.ref h2.length), some (.ref h3.length), none, none, none, none] h4 = .ok (.ref h4.length) h5 := by simp [e5]
    have a2 : eCall (mkM 31 f_TableD_initD) (aCons (eCB cTuple (aCons (eV 3) aNil)) aNil) [some (.ref p), some (.ref l1), none, some (.ref l2), some (.ref h2.length), some (.ref h3.length), none, none, none, none] h5 = .ok (.ref h5.length) h6 := by simp [ct, e6]
    rw [eσ0]
    show (aCons _ _ _ h4).bindS _ _ = _
    rw [x_aCons, a1, x_bind, x_aCons, a2]
    rfl
  have F06 : Fr [p] h h6 := (F1.trans F2).trans (F24.trans F46).nil
  have F07 : Fr [p] h h7 := ⟨Nat.le_trans F06.len F7.len, fun m u hm em => by
    have := at_lt em
    exact F7.at_ m u (by simp; omega) (F06.at_ m u hm em)⟩
  refine ⟨h20, ?_, F07.trans (F7i.trans F20).nil⟩
  have r0 : f__law_right [.ref p] h = endB (m__law_right [some (.ref p), none, none, none, none, none, none, none, none, none] h) := rfl
  rw [r0]
  unfold m__law_right
  refine (congrArg endB (seqN (asgN c1))).trans ?_
  refine (congrArg endB (seqN (asgN c2))).trans ?_
  refine (congrArg endB (seqN p1)).trans ?_
  refine (congrArg endB (seqN p2)).trans ?_
  refine (congrArg endB (seqN ap)).trans ?_
  refine (congrArg endB (seqN ((ifF (orF (ofT t8) (orF (ofT t9) (ofT t10)))).trans rfl))).trans ?_
  refine (congrArg endB (seqN fr12)).trans ?_
  refine (congrArg endB (seqN ((ifF (orF (notF t13) (notF t14))).trans rfl))).trans ?_
  refine (congrArg endB (seqN (asgN m15))).trans ?_
  have e9 : σ1.set 9 (some (VI.ref h14.length)) = σ2 := by rw [eσ1', eσ2]; rfl
  rw [e9]
  refine (congrArg endB (seqN ap2)).trans ?_
  refine (congrArg endB (seqN ((ifF (orF (ofT t17) (orF (ofT t18) (ofT t19)))).trans rfl))).trans ?_
  show endB (((eAnd _ _ σ2 h18).bindS _ _).andThen _) = _
  rw [last]
  rfl
end Lw
end
section
namespace Lw
open PySem L2 ML
theorem pure_law (ns : List Int) (hl : ns.length ≤ 63) : ∃ h', f_law [.ref 0] [.scr (ns.map VI.int)] = .ok (.bl true) h' := by
  obtain ⟨n, en⟩ : ∃ n : Int, n = (if (if (ns.length : Int) < 12 then (ns.length : Int) else 12) > 1 then (if (ns.length : Int) < 12 then (ns.length : Int) else 12) else 1) := ⟨_, rfl⟩
  have n1 : 1 ≤ n ∧ n ≤ 12 := by rw [en]; split <;> split <;> omega
  have c1 : cLen [.ref 0] [.scr (ns.map VI.int)] = some (.int ns.length, [.scr (ns.map VI.int)]) := by simp [cLen]
  have c2 : cMin [.int 12, .int ns.length] [.scr (ns.map VI.int)] = some (.int (if (ns.length : Int) < 12 then (ns.length : Int) else 12), [.scr (ns.map VI.int)]) := rfl
  have c3 : cMax [.int 1, .int (if (ns.length : Int) < 12 then (ns.length : Int) else 12)] [.scr (ns.map VI.int)] = some (.int n, [.scr (ns.map VI.int)]) := by rw [en]; rfl
  have rg : rngOf [.int n] = some (.rng 0 n.toNat) := by
    have a : decide (-(2 ^ 62 : Int) ≤ n) = true := by simp; omega
    have b : decide (n < (2 ^ 62 : Int)) = true := by simp; omega
    simp only [rngOf, a, b, Bool.and_self]
  obtain ⟨σ', h', e, ⟨x, e1⟩, _⟩ := turns_inv (it := .rng 0 n.toNat) (g := gNm 1) (body := (sIf (tNotM (tOf (eCall f__law_right (aCons (eCall f__law_pool (aCons (eV 0) (aCons (eV 1) aNil))) aNil)))) (sRet (eC (.bl false))) sNx)) n.toNat
    (fun i σ h2 => (∃ x, σ = [some (.ref 0), x]) ∧ h2[0]? = some (.scr (ns.map VI.int)))
    (fun i σ h2 hi ⟨⟨x, e1⟩, hs⟩ => by
      subst e1
      obtain ⟨h3, p, e3, P3, F3, l3⟩ := pool_g (k := i) hs (by omega)
      obtain ⟨h4, e4, F4⟩ := right_g P3
      have l0 := at_lt hs
      refine ⟨.int (0 + i), [some (.ref 0), some (.int (0 + i))], h2, [some (.ref 0), some (.int (0 + i))], h4, ?_, rfl, ?_, ⟨_, rfl⟩, F4.get (F3.get hs (by simp)) (by simp; omega)⟩
      · have : Nat.blt i n.toNat = true := by simpa [Nat.blt_eq] using hi
        simp [Itm.nxt, this]
      · have z : ((0 : Int) + (i : Int)) = (i : Int) := by omega
        rw [z]
        simp [e3, e4])
    (fun σ h2 _ => by
      have : Nat.blt n.toNat n.toNat = false := by
        cases q : Nat.blt n.toNat n.toNat with
        | false => rfl
        | true => rw [Nat.blt_eq] at q; omega
      simp [Itm.nxt, this]) n.toNat 0 [some (.ref 0), none] [.scr (ns.map VI.int)] (by omega) ⟨⟨_, rfl⟩, rfl⟩
  refine ⟨h', ?_⟩
  subst e1
  unfold f_law m_law
  rw [x_run1, x_rep1, x_sSeq, x_sFor, x_iRng]
  have le : ∀ t σ, σ[0]? = some (some (.ref 0)) → eLenU t (eV 0) σ [.scr (ns.map VI.int)] = .ok (.int ns.length) [.scr (ns.map VI.int)] := fun t σ e => by
    have ev : eV 0 σ [.scr (ns.map VI.int)] = .ok (.ref 0) [.scr (ns.map VI.int)] := by simp [eV, e]
    simp only [eLenU, ev, x_bind, insC, List.getElem?_cons_zero, c1, x_ofO]
  have le0 := le Lw.gx1 [some (.ref 0), none] rfl
  simp only [x_aCons, x_eCB, x_aNil, x_eC, x_eV, List.getElem?_cons_zero, x_bind, le0, c1, x_ofO, c2, c3, rg, x_ofI, x_bindS, Itm.fuel, e, x_nx, x_sSeq, x_sRet, x_rt, x_endR]
end Lw
end
set_option maxHeartbeats 0
namespace Lw
open PySem PySem.Spec PyProof.Rows PySem.W L2 He ML MHP HandSHeadRun
theorem leftT : LeftO PP qV loA (fun s => xlAt qV [] s && recOk Rr.toRowW.records s) hk.obs hk.val 1939 true :=
  left_pc (A := zStA) (Z := zSt15) (th := thT) (k0 := 12) (M1 := 1 + (1225 + (2))) (by kernel_rfl) (by decide +kernel) (fun s => by kernel_rfl) (by decide +kernel) sizeT annT_ok preT restT look1 look2 fun w os => by rw [← ob_eq]; exact look3a w os
theorem facts {w : World} {K : PySem.W.Frag} {h : Heap} {mg : Str → Option Value} {f : Addr} (X : K.In h) (Gn : h.Ns mainGlobals mg) (hfa : mg ("law" : Str) = some (.ref f)) (c : SaysM spec w K) :
    ∃ fd : FuncData, (∀ (s : Shared) (v : Value), BindsTo s fd ⟨[v], []⟩ [("_law_script", v)]) ∧ ∀ base : Heap, K.In base → base.Ns mainGlobals mg → FnOk P w K mg base CX0 43 f fd ["_law_script"] (fun vs H Q _ => spM (GxOf w K mg nm) 1 f_law vs H Q fun _ _ _ => False) := by
  have E : Ev spec w K mg := ⟨c, h, X, Gn⟩
  have e := hfa.symm.trans (glo_ok X Gn (c.ex 40 (f := fun K => (Fa.glo "law").ok K) rfl))
  cases e
  have b := FunD.bindsA (ps := ["_law_script"]) (c.def_ 25 (d := gd_law) rfl) fun _ _ _ _ _ _ us hl => match us, hl with | [_], _ => rfl
  exact ⟨_, fun s v => b s [v] rfl, fun base _ _ => fn_cx0 (ok_law (base := base) E).ok⟩
end Lw
open PySem PySem.W PySem.Calls PyProof.Rows
theorem PySem.Challenge.cw_epochrooms_k59_tables_counted_holds : PySem.Challenge.rw_epochrooms_k59_tables_counted.Holds := by
  exact Lw.fin_row Lw.leftT Lw.facts Lw.pure_law
