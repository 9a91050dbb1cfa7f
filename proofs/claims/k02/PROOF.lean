import PyProof.Rows.All
import Wide.All
import OpenK.AllK
import Wide.FinOn
import HandS.SortKw
import KE.KSortKeyAny
import PyProof.TupleOfSeq
import HandS.HeadNt
import HandS.ClsMeth
import HandS.DictEq
import HandS.Base
import HandS.Call
import HandS.List
import HandS.Comp
import HandS.Ends
import HandS.Dict
import HandS.More
import HandS.Conv
import HandS.Small
import HandS.Deep
import HandS.TupAny
import HandS.IsInst
import HandS.Iter
import HandS.WordsDict
import KE.KStateDown
import HandS.Exc
import HandS.ExcOwn
import HandS.Property
import HandS.Nested
import HandS.Words
import HandS.Defaults
import HandS.Head0
import HandS.Head1
import HandS.Head2
import HandS.HeadEnd
import HandS.Style
import HandS.HeadHook1
import HandS.HeadHook2
import HandS.HeadHook3
import PyProof.DictUpdate
import KE.KDictCopyH
import HandS.TupMul
import KE.KSuper
import KE.KSuperObj
import KE.KOpsOwn
import HandS.MakeKw
import HandS.MakeKwOnly
import KE.KMinBuiltin
import PyProof.WalkInts
import PyProof.WalksMore
import KE.KExcIs
import HandS.ExcIs
import HandS.ExcInit
import HandS.ExcField
import HandS.TryMany
import KE.KExcSuper
import HandS.GenList
import HandS.GenCall
import HandS.Star
import HandS.MethStar
import KE.KCallOwn
import HandS.TryOnly
import HandS.RaiseMore
import HandS.OwnEq
import PyProof.EqKinds
import PyProof.ReprRoads
import KE.GoesMore
import PySem.Challenge.RW_epochrooms_k02_wraps_refused
section
open PySem PySem.W PySem.Calls PyProof.Rows
set_option maxHeartbeats 0
theorem Lw.pre_row (x : (OpenLaw.row PySem.Challenge.rw_epochrooms_k02_wraps_refused).wellSaid = true → (OpenLaw.row PySem.Challenge.rw_epochrooms_k02_wraps_refused).Holds) : PySem.Challenge.rw_epochrooms_k02_wraps_refused.Holds := by
  w_on; o_law
  exact x (by assumption)
end
set_option Elab.async false
set_option linter.all false
set_option maxRecDepth 100000
set_option maxHeartbeats 4000000
section
namespace MB
open PySem
section
variable {prog : Program} {w : World} {K : Type} [DecidableEq K] {kk : KeyKind prog w K} {A : Around} {E : Value → Shared → Prop} {s : Shared}
end
end MB
end
section
namespace ML
open PySem L2
abbrev S := List Nat
def toStr (s : S) : Str := ⟨s.toArray⟩
theorem toStr_inj {a b : S} (h : toStr a = toStr b) : a = b := by
  unfold toStr at h
  injection h with h
  have := congrArg Array.toList h
  simpa using this
inductive VI where
  | non | bl (b : Bool) | int (i : Int) | str (s : S) | glo (g : S) | ref (n : Nat) | tup (xs : List VI)
inductive OI where
  | lst (xs : List VI) | dic (kvs : List (VI × VI)) | ins (c : Nat) (fs : List (S × VI)) | xd (fs : List (S × VI)) | scr (xs : List VI)
abbrev Hi := List OI
inductive Res (α : Type) where
  | ok (a : α) (h : Hi) | ex (c n : Nat) (h : Hi) | err
structure Gx where
  K : PySem.W.Frag
  mg : Str → Option Value
  ct : Nat → Option Addr
mutual
inductive RV (G : Gx) (ρ : List Addr) (H : Hp) : VI → V → Prop
  | non : RV G ρ H .non .non
  | bl (b : Bool) : RV G ρ H (.bl b) (.bl b)
  | int (i : Int) : RV G ρ H (.int i) (.int i)
  | str {s : S} {x : Str} (e : x = toStr s) : RV G ρ H (.str s) (.str x)
  | glo {g : S} {a : Addr} (e : G.mg (toStr g) = some (.ref a)) : RV G ρ H (.glo g) (.ref a)
  | ref {n : Nat} {a : Addr} (e : ρ[n]? = some a) : RV G ρ H (.ref n) (.ref a)
  | tup {xs : List VI} {ys : List V} {a : Addr} (t : SqT G.K H a ys) (r : RVs G ρ H xs ys) : RV G ρ H (.tup xs) (.ref a)
inductive RVs (G : Gx) (ρ : List Addr) (H : Hp) : List VI → List V → Prop
  | nil : RVs G ρ H [] []
  | cons {v : VI} {x : V} {vs : List VI} {xs : List V} (h : RV G ρ H v x) (t : RVs G ρ H vs xs) : RVs G ρ H (v :: vs) (x :: xs)
end
structure Stp (G : Gx) (ρ : List Addr) (H : Hp) (ρ' : List Addr) (H' : Hp) : Prop where
  pre : ∀ (n : Nat) (a : Addr), ρ[n]? = some a → ρ'[n]? = some a
  tup : ∀ a xs, SqT G.K H a xs → SqT G.K H' a xs
theorem Stp.refl {G : Gx} {ρ : List Addr} {H : Hp} : Stp G ρ H ρ H := ⟨fun _ _ h => h, fun _ _ h => h⟩
theorem Stp.trans {G : Gx} {ρ ρ1 ρ2 : List Addr} {H H1 H2 : Hp} (a : Stp G ρ H ρ1 H1) (b : Stp G ρ1 H1 ρ2 H2) : Stp G ρ H ρ2 H2 :=
  ⟨fun n x h => b.pre n x (a.pre n x h), fun x xs h => b.tup x xs (a.tup x xs h)⟩
section
variable {G : Gx} {ρ ρ' : List Addr} {H H' : Hp}
mutual
theorem RV.mono (st : Stp G ρ H ρ' H') : ∀ {v : VI} {x : V}, RV G ρ H v x → RV G ρ' H' v x
  | _, _, .non => .non
  | _, _, .bl b => .bl b
  | _, _, .int i => .int i
  | _, _, .str e => .str e
  | _, _, .glo e => .glo e
  | _, _, .ref e => .ref (st.pre _ _ e)
  | _, _, .tup t r => .tup (st.tup _ _ t) (RVs.mono st r)
theorem RVs.mono (st : Stp G ρ H ρ' H') : ∀ {v : List VI} {x : List V}, RVs G ρ H v x → RVs G ρ' H' v x
  | _, _, .nil => .nil
  | _, _, .cons h t => .cons (RV.mono st h) (RVs.mono st t)
end
theorem RVs.length : ∀ {v : List VI} {x : List V}, RVs G ρ H v x → v.length = x.length
  | _, _, .nil => rfl
  | _, _, .cons _ t => by rw [List.length_cons, List.length_cons, t.length]
theorem RVs.get : ∀ {v : List VI} {x : List V} {i : Nat} {a : VI}, RVs G ρ H v x → v[i]? = some a → ∃ b, x[i]? = some b ∧ RV G ρ H a b
  | _, _, _, _, .nil, e => by simp at e
  | _, _, 0, _, .cons h _, e => by simp at e; subst e; exact ⟨_, rfl, h⟩
  | _, _, i + 1, _, .cons _ t, e => by
    obtain ⟨b, h1, h2⟩ := RVs.get (i := i) t (by simpa using e)
    exact ⟨b, by simpa using h1, h2⟩
theorem RVs.append : ∀ {v w : List VI} {x y : List V}, RVs G ρ H v x → RVs G ρ H w y → RVs G ρ H (v ++ w) (x ++ y)
  | _, _, _, _, .nil, h => h
  | _, _, _, _, .cons h t, k => .cons h (RVs.append t k)
theorem RVs.set : ∀ {v : List VI} {x : List V} {a : VI} {b : V} (i : Nat), RVs G ρ H v x → RV G ρ H a b → RVs G ρ H (v.set i a) (x.set i b)
  | _, _, _, _, _, .nil, _ => .nil
  | _, _, _, _, 0, .cons _ t, r => .cons r t
  | _, _, _, _, i + 1, .cons h t, r => .cons h (RVs.set i t r)
theorem RVs.take : ∀ {v : List VI} {x : List V} (n : Nat), RVs G ρ H v x → RVs G ρ H (v.take n) (x.take n)
  | _, _, 0, _ => .nil
  | _, _, _ + 1, .nil => .nil
  | _, _, n + 1, .cons h t => .cons h (RVs.take n t)
theorem RVs.drop : ∀ {v : List VI} {x : List V} (n : Nat), RVs G ρ H v x → RVs G ρ H (v.drop n) (x.drop n)
  | _, _, 0, r => r
  | _, _, _ + 1, .nil => .nil
  | _, _, n + 1, .cons _ t => RVs.drop n t
end
inductive RFs (G : Gx) (ρ : List Addr) (H : Hp) : List (S × VI) → List (Str × V) → Prop
  | nil : RFs G ρ H [] []
  | cons {f : S} {g : Str} {v : VI} {x : V} {fs : List (S × VI)} {gs : List (Str × V)} (e : g = toStr f) (h : RV G ρ H v x) (t : RFs G ρ H fs gs) : RFs G ρ H ((f, v) :: fs) ((g, x) :: gs)
def RK : VI → Key → Prop
  | .int i, k => k = .inl i
  | .str s, k => k = .inr (toStr s)
  | _, _ => False
inductive RKs (G : Gx) (ρ : List Addr) (H : Hp) : List (VI × VI) → List (Key × V) → Prop
  | nil : RKs G ρ H [] []
  | cons {a : VI} {k : Key} {v : VI} {x : V} {as : List (VI × VI)} {ks : List (Key × V)} (e : RK a k) (h : RV G ρ H v x) (t : RKs G ρ H as ks) : RKs G ρ H ((a, v) :: as) ((k, x) :: ks)
section
variable {G : Gx} {ρ ρ' : List Addr} {H H' : Hp}
theorem RFs.mono (st : Stp G ρ H ρ' H') : ∀ {v : List (S × VI)} {x : List (Str × V)}, RFs G ρ H v x → RFs G ρ' H' v x
  | _, _, .nil => .nil
  | _, _, .cons e h t => .cons e (h.mono st) (RFs.mono st t)
theorem RKs.mono (st : Stp G ρ H ρ' H') : ∀ {v : List (VI × VI)} {x : List (Key × V)}, RKs G ρ H v x → RKs G ρ' H' v x
  | _, _, .nil => .nil
  | _, _, .cons e h t => .cons e (h.mono st) (RKs.mono st t)
theorem RFs.length : ∀ {v : List (S × VI)} {x : List (Str × V)}, RFs G ρ H v x → v.length = x.length
  | _, _, .nil => rfl
  | _, _, .cons _ _ t => by rw [List.length_cons, List.length_cons, t.length]
theorem RKs.length : ∀ {v : List (VI × VI)} {x : List (Key × V)}, RKs G ρ H v x → v.length = x.length
  | _, _, .nil => rfl
  | _, _, .cons _ _ t => by rw [List.length_cons, List.length_cons, t.length]
end
def OR (G : Gx) (ρ : List Addr) (H : Hp) (a : Addr) : OI → Prop
  | .lst xs => ∃ ys, H a = some (.lst ys) ∧ RVs G ρ H xs ys
  | .dic kvs => ∃ ks, H a = some (.dK ks) ∧ RKs G ρ H kvs ks
  | .ins c fs => ∃ C dx gs, G.ct c = some C ∧ H a = some (.ins C dx gs) ∧ RFs G ρ H fs gs
  | .xd fs => ∃ gs, H a = some (.xd gs) ∧ RFs G ρ H fs gs
  | .scr xs => ∃ o ys, H a = some (.frz o (.lst ys)) ∧ RVs G ρ H xs ys
theorem OR.mono {G : Gx} {ρ ρ' : List Addr} {H H' : Hp} {a : Addr} (st : Stp G ρ H ρ' H') (e : H' a = H a) : ∀ {o : OI}, OR G ρ H a o → OR G ρ' H' a o
  | .lst _, ⟨ys, h, r⟩ => ⟨ys, e.trans h, r.mono st⟩
  | .dic _, ⟨ks, h, r⟩ => ⟨ks, e.trans h, r.mono st⟩
  | .ins _ _, ⟨C, dx, gs, c, h, r⟩ => ⟨C, dx, gs, c, e.trans h, r.mono st⟩
  | .xd _, ⟨gs, h, r⟩ => ⟨gs, e.trans h, r.mono st⟩
  | .scr _, ⟨o, ys, h, r⟩ => ⟨o, ys, e.trans h, r.mono st⟩
theorem OR.some {G : Gx} {ρ : List Addr} {H : Hp} {a : Addr} : ∀ {o : OI}, OR G ρ H a o → ∃ u, H a = some u ∧ (∀ xs, u ≠ .tup xs) ∧ ∀ ob xs, u ≠ .frz ob (.tup xs)
  | .lst _, ⟨ys, h, _⟩ => ⟨_, h, (fun _ z => by cases z), (fun _ _ z => by cases z)⟩
  | .dic _, ⟨ks, h, _⟩ => ⟨_, h, (fun _ z => by cases z), (fun _ _ z => by cases z)⟩
  | .ins _ _, ⟨C, dx, gs, _, h, _⟩ => ⟨_, h, (fun _ z => by cases z), (fun _ _ z => by cases z)⟩
  | .xd _, ⟨gs, h, _⟩ => ⟨_, h, (fun _ z => by cases z), (fun _ _ z => by cases z)⟩
  | .scr _, ⟨o, ys, h, _⟩ => ⟨_, h, (fun _ z => by cases z), (fun _ _ z => by cases z)⟩
structure Ag (G : Gx) (ρ : List Addr) (h : Hi) (H : Hp) : Prop where
  nd : ρ.Nodup
  len : ρ.length = h.length
  ob : ∀ (n : Nat) (o : OI), h[n]? = some o → ∃ a, ρ[n]? = some a ∧ OR G ρ H a o
structure AgS (G : Gx) (ρ : List Addr) (H : Hp) (σi : List (Option VI)) (σ : St) : Prop where
  len : σi.length = σ.length
  at_ : ∀ (i : Nat) (v : VI), σi[i]? = some (some v) → ∃ x, σ[i]? = some (some x) ∧ RV G ρ H v x
section
variable {G : Gx} {ρ ρ' : List Addr} {H H' : Hp} {h : Hi} {σi : List (Option VI)} {σ : St}
theorem AgS.mono (st : Stp G ρ H ρ' H') (a : AgS G ρ H σi σ) : AgS G ρ' H' σi σ := ⟨a.len, fun i v e => let ⟨x, h1, h2⟩ := a.at_ i v e; ⟨x, h1, h2.mono st⟩⟩
theorem AgS.set (a : AgS G ρ H σi σ) {v : VI} {x : V} (r : RV G ρ H v x) (i : Nat) : AgS G ρ H (σi.set i (some v)) (σ.set i (some x)) := by
  refine ⟨by simp [a.len], fun j w e => ?_⟩
  rw [List.getElem?_set] at e ⊢
  by_cases hj : i = j
  · subst hj
    rw [if_pos rfl] at e ⊢
    by_cases hl : i < σi.length
    · rw [if_pos hl] at e
      rw [if_pos (by rw [← a.len]; exact hl)]
      cases e
      exact ⟨x, rfl, r⟩
    · rw [if_neg hl] at e
      cases e
  · rw [if_neg hj] at e ⊢
    exact a.at_ j w e
theorem AgS.lose (a : AgS G ρ H σi σ) (i : Nat) (y : Option V) : AgS G ρ H (σi.set i none) (σ.set i y) := by
  refine ⟨by simp [a.len], fun j w e => ?_⟩
  rw [List.getElem?_set] at e ⊢
  by_cases hj : i = j
  · subst hj
    rw [if_pos rfl] at e
    by_cases hl : i < σi.length
    · rw [if_pos hl] at e; cases e
    · rw [if_neg hl] at e; cases e
  · rw [if_neg hj] at e ⊢
    exact a.at_ j w e
theorem sqt_ne {K : PySem.W.Frag} {H : Hp} {p : Addr} {o : HO} (hp : H p = none ∨ ∃ u, H p = some u ∧ (∀ xs, u ≠ .tup xs) ∧ ∀ ob xs, u ≠ .frz ob (.tup xs)) : ∀ a xs, SqT K H a xs → SqT K (upd H p o) a xs := by
  intro a xs q
  have hne : ∀ u, H a = some u → ((∃ xs, u = .tup xs) ∨ ∃ ob xs, u = .frz ob (.tup xs)) → a ≠ p := by
    intro u hu k z
    subst z
    rcases hp with hp | ⟨u', hp, n1, n2⟩
    · rw [hu] at hp; cases hp
    · rw [hu] at hp; cases hp
      rcases k with ⟨xs, rfl⟩ | ⟨ob, xs, rfl⟩
      · exact n1 _ rfl
      · exact n2 _ _ rfl
  rcases q with (q | ⟨ob, q⟩) | q
  · exact .inl (.inl (by rw [upd_ne (hne _ q (.inl ⟨_, rfl⟩))]; exact q))
  · exact .inl (.inr ⟨ob, by rw [upd_ne (hne _ q (.inr ⟨_, _, rfl⟩))]; exact q⟩)
  · exact .inr q
theorem Ag.at_ (ag : Ag G ρ h H) {n : Nat} {a : Addr} {o : OI} (e : h[n]? = some o) (p : ρ[n]? = some a) : OR G ρ H a o := by
  obtain ⟨b, hb, r⟩ := ag.ob n o e
  rw [p] at hb
  cases hb
  exact r
theorem Ag.fresh (a : Ag G ρ h H) {p : Addr} (hp : H p = none) : p ∉ ρ := by
  intro hm
  obtain ⟨n, hn, e⟩ := List.mem_iff_getElem.mp hm
  have hl : n < h.length := by rw [← a.len]; exact hn
  obtain ⟨b, hb, r⟩ := a.ob n h[n] (by simp [hl])
  obtain ⟨u, hu, _⟩ := r.some
  have : b = p := by
    have : ρ[n]? = some ρ[n] := by simp [hn]
    rw [this] at hb
    cases hb
    exact e
  subst this
  rw [hp] at hu
  cases hu
theorem Stp.new {p : Addr} {o : HO} (hp : H p = none) : Stp G ρ H (ρ ++ [p]) (upd H p o) :=
  ⟨fun n a e => by rw [List.getElem?_append_left (List.getElem?_eq_some_iff.mp e).1]; exact e, sqt_ne (.inl hp)⟩
theorem Stp.more {p : Addr} {o : HO} (hp : H p = none) : Stp G ρ H ρ (upd H p o) := ⟨fun _ _ e => e, sqt_ne (.inl hp)⟩
theorem Ag.more (a : Ag G ρ h H) {p : Addr} {o : HO} (hp : H p = none) : Ag G ρ h (upd H p o) :=
  ⟨a.nd, a.len, fun n u e => by
    obtain ⟨b, hb, r⟩ := a.ob n u e
    obtain ⟨_, hu, _⟩ := r.some
    exact ⟨b, hb, r.mono (Stp.more hp) (upd_ne (ne_of_none hu hp))⟩⟩
theorem Ag.new (a : Ag G ρ h H) {p : Addr} {o : HO} {u : OI} (hp : H p = none) (r : OR G (ρ ++ [p]) (upd H p o) p u) : Ag G (ρ ++ [p]) (h ++ [u]) (upd H p o) := by
  refine ⟨?_, by simp [a.len], fun n v e => ?_⟩
  · rw [List.nodup_append]
    refine ⟨a.nd, by simp, fun x hx y hy => ?_⟩
    rw [List.mem_singleton] at hy
    subst hy
    intro z
    subst z
    exact a.fresh hp hx
  · by_cases hn : n < h.length
    · rw [List.getElem?_append_left hn] at e
      obtain ⟨b, hb, q⟩ := a.ob n v e
      obtain ⟨_, hu, _⟩ := q.some
      exact ⟨b, (Stp.new (G := G) (o := o) hp).pre n b hb, q.mono (Stp.new hp) (upd_ne (ne_of_none hu hp))⟩
    · have hle : h.length ≤ n := Nat.le_of_not_lt hn
      rw [List.getElem?_append_right hle] at e
      have hz : n - h.length = 0 := by
        have := (List.getElem?_eq_some_iff.mp e).1
        simp at this
        omega
      rw [hz] at e
      simp at e
      subst e
      have : n = ρ.length := by rw [a.len]; omega
      exact ⟨p, by rw [this]; simp, r⟩
theorem Stp.wr {p : Addr} {o : HO} {n : Nat} {u : OI} (a : Ag G ρ h H) (hn : h[n]? = some u) (hp : ρ[n]? = some p) : Stp G ρ H ρ (upd H p o) :=
  ⟨fun _ _ e => e, by
    obtain ⟨b, hb, r⟩ := a.ob n u hn
    rw [hp] at hb
    cases hb
    exact sqt_ne (.inr r.some)⟩
theorem Ag.wr (a : Ag G ρ h H) {p : Addr} {o : HO} {n : Nat} {u u' : OI} (hn : h[n]? = some u) (hp : ρ[n]? = some p) (r : OR G ρ (upd H p o) p u') : Ag G ρ (h.set n u') (upd H p o) := by
  refine ⟨a.nd, by simp [a.len], fun m v e => ?_⟩
  rw [List.getElem?_set] at e
  by_cases hm : n = m
  · subst hm
    rw [if_pos rfl, if_pos (List.getElem?_eq_some_iff.mp hn).1] at e
    cases e
    exact ⟨p, hp, r⟩
  · rw [if_neg hm] at e
    obtain ⟨b, hb, q⟩ := a.ob m v e
    have hne : b ≠ p := by
      intro z
      subst z
      obtain ⟨h1, e1⟩ := List.getElem?_eq_some_iff.mp hp
      obtain ⟨h2, e2⟩ := List.getElem?_eq_some_iff.mp hb
      have pw := List.pairwise_iff_getElem.mp a.nd
      rcases Nat.lt_trichotomy n m with l | l | l
      · exact pw n m h1 h2 l (e1.trans e2.symm)
      · exact hm l
      · exact pw m n h2 h1 l (e2.trans e1.symm)
    exact ⟨b, hb, q.mono (Stp.wr a hn hp) (upd_ne hne)⟩
end
end ML
end
section
namespace ML
open PySem L2
abbrev Sg := List (Option VI)
abbrev ME := Sg → Hi → Res VI
abbrev MT := Sg → Hi → Res Bool
abbrev MA := Sg → Hi → Res (List VI)
def Res.bind {α β : Type} (r : Res α) (f : α → Hi → Res β) : Res β := match r with
  | .ok a h => f a h
  | .ex c n h => .ex c n h
  | .err => .err
def FinG {α β : Type} (G : Gx) (ρ : List Addr) (H : Hp) (R : List Addr → Hp → α → β → Prop) (Q : β → Hp → Prop) (W : Value → Option Addr → Hp → Prop) : Res α → Prop
  | .ok v h' => ∀ ρ' H' x, Stp G ρ H ρ' H' → Ag G ρ' h' H' → R ρ' H' v x → Q x H'
  | .ex c n h' => ∀ ρ' H' d C, Stp G ρ H ρ' H' → Ag G ρ' h' H' → ρ'[n]? = some d → G.ct c = some C → W (.ref C) (some d) H'
  | .err => False
def rdG {α β : Type} (G : Gx) (R : List Addr → Hp → α → β → Prop) (W : WX) (m : Sg → Hi → Res α) : St → Hp → (β → Hp → Prop) → Prop := fun σ H Q =>
  ∃ ρ σi h, AgS G ρ H σi σ ∧ Ag G ρ h H ∧ FinG G ρ H R Q (fun c d H' => W c d σ H') (m σi h)
abbrev rdE (G : Gx) (W : WX) (m : ME) : TE := rdG G (RV G) W m
abbrev rdT (G : Gx) (W : WX) (m : MT) : TT := rdG G (fun _ _ (b c : Bool) => b = c) W m
abbrev rdA (G : Gx) (W : WX) (m : MA) : TA := rdG G (RVs G) W m
section
variable {G : Gx} {ρ ρ1 : List Addr} {H H1 : Hp} {α β γ δ : Type} {W : WX} {σ : St}
theorem FinG.later {R : List Addr → Hp → α → β → Prop} {Q : β → Hp → Prop} {W : Value → Option Addr → Hp → Prop} (st : Stp G ρ H ρ1 H1) : ∀ {r : Res α}, FinG G ρ H R Q W r → FinG G ρ1 H1 R Q W r
  | .ok _ _, f => fun ρ' H' x s a r => f ρ' H' x (st.trans s) a r
  | .ex _ _ _, f => fun ρ' H' d C s a e c => f ρ' H' d C (st.trans s) a e c
  | .err, f => f
theorem rdG_go {R : List Addr → Hp → α → β → Prop} {R' : List Addr → Hp → γ → δ → Prop} {m : Sg → Hi → Res α} {k : α → Hi → Res γ} {Q : δ → Hp → Prop} {N : β → Hp → Prop} {σi : Sg} {h : Hi}
    (as : AgS G ρ H σi σ) (a : Ag G ρ h H) (f : FinG G ρ H R' Q (fun c d H' => W c d σ H') ((m σi h).bind k))
    (nx : ∀ ρ1 H1 h1 x y, Stp G ρ H ρ1 H1 → AgS G ρ1 H1 σi σ → Ag G ρ1 h1 H1 → R ρ1 H1 x y → FinG G ρ1 H1 R' Q (fun c d H' => W c d σ H') (k x h1) → N y H1) : rdG G R W m σ H N := by
  refine ⟨ρ, σi, h, as, a, ?_⟩
  cases e : m σi h with
  | err => rw [e] at f; exact f
  | ex c n h' => rw [e] at f; exact f
  | ok v h' =>
    rw [e] at f
    exact fun ρ' H' x st a' r => nx ρ' H' h' v x st (as.mono st) a' r (FinG.later st f)
theorem FinG.ok {R : List Addr → Hp → α → β → Prop} {Q : β → Hp → Prop} {W : Value → Option Addr → Hp → Prop} {v : α} {h : Hi} {x : β} (f : FinG G ρ H R Q W (.ok v h)) (a : Ag G ρ h H) (r : R ρ H v x) : Q x H := f ρ H x .refl a r
end
section
variable {X : Cx} {e a b : Expr} {pos : Pos}
theorem PE.imp' {t t' : TE} (h : PE X e t) (i : ∀ σ H Q, t' σ H Q → t σ H Q) : PE X e t' := ⟨fun pins s σ H Q I q => h.run pins s σ H Q I (i σ H Q q)⟩
theorem PT.imp' {t t' : TT} (h : PT X e t) (i : ∀ σ H Q, t' σ H Q → t σ H Q) : PT X e t' := ⟨fun pins s σ H Q I q => h.run pins s σ H Q I (i σ H Q q)⟩
theorem PW.imp' {t t' : TT} (h : PW X e t) (i : ∀ σ H Q, t' σ H Q → t σ H Q) : PW X e t' := ⟨fun wh pins s σ H Q I q => h.run wh pins s σ H Q I (i σ H Q q)⟩
theorem PA.imp' {es : List Expr} {t t' : TA} (h : PA X es t) (i : ∀ σ H Q, t' σ H Q → t σ H Q) : PA X es t' := ⟨fun p pins s σ H Q I q => h.run p pins s σ H Q I (i σ H Q q)⟩
theorem PS.imp' {st : Stmt} {t t' : TS} (h : PS X st t) (i : ∀ D σ H, t' D σ H → t D σ H) : PS X st t' := ⟨fun pins s σ H D I q => h.run pins s σ H D I (i D σ H q)⟩
theorem PSs.imp' {st : List Stmt} {t t' : TS} (h : PSs X st t) (i : ∀ D σ H, t' D σ H → t D σ H) : PSs X st t' := ⟨fun pins s σ H D I q => h.run pins s σ H D I (i D σ H q)⟩
end
def eV (i : Nat) : ME := fun σ h => match σ[i]? with
  | some (some v) => .ok v h
  | _ => .err
def eC (v : VI) : ME := fun _ h => .ok v h
def aNil : MA := fun _ h => .ok [] h
def aCons (a : ME) (r : MA) : MA := fun σ h => (a σ h).bind fun x h1 => (r σ h1).bind fun xs h2 => .ok (x :: xs) h2
def small (n : Nat) : Bool := Nat.ble n 100000
theorem small_ok {n : Nat} (h : small n = true) : n ≤ sizeLine := Nat.le_trans (Nat.le_of_ble_eq_true h) (by decide)
def eTup (a : MA) : ME := fun σ h => (a σ h).bind fun xs h1 => match small xs.length with
  | true => .ok (.tup xs) h1
  | false => .err
def eLst (a : MA) : ME := fun σ h => (a σ h).bind fun xs h1 => match small xs.length with
  | true => .ok (.ref h1.length) (h1 ++ [.lst xs])
  | false => .err
section
variable {G : Gx} {W : WX} {X : Cx} {e a b : Expr} {es : List Expr} {pos : Pos} {me ma mb : ME} {mr : MA}
theorem me_var {i : Nat} {x : Str} (hN : X.N[i]? = some x) (hv : Vis X.env.scope x) (hd : (x == ("__debug__" : Str)) = false := by decide) (hcd : (x == ("__classdict__" : Str)) = false := by decide) : PE X (.Name x pos) (rdE G W (eV i)) :=
  PE.imp' (pe_var hN hv hd hcd) fun σ H Q ⟨ρ, σi, h, as, ag, f⟩ => by
    unfold eV at f
    cases e : σi[i]? with
    | none => rw [e] at f; exact f.elim
    | some o =>
      rw [e] at f
      cases o with
      | none => exact f.elim
      | some v =>
        obtain ⟨x, h1, r⟩ := as.at_ i v e
        exact ⟨x, h1, f.ok ag r⟩
theorem me_c {v : VI} {x : V} (he : PE X e (tC x)) (r : ∀ ρ H, RV G ρ H v x) : PE X e (rdE G W (eC v)) :=
  PE.imp' he fun σ H Q ⟨ρ, σi, h, as, ag, f⟩ => f.ok ag (r ρ H)
theorem me_int {i : Int} {j} : PE X (.Constant (.int i) j pos) (rdE G W (eC (.int i))) := me_c pe_int fun _ _ => .int i
theorem me_bl {i : Bool} {j} : PE X (.Constant (.bool i) j pos) (rdE G W (eC (.bl i))) := me_c pe_bl fun _ _ => .bl i
theorem me_non {j} : PE X (.Constant .none j pos) (rdE G W (eC .non)) := me_c pe_non fun _ _ => .non
theorem me_str {s : S} {x : Str} {j} (h : x = toStr s) : PE X (.Constant (.str x) j pos) (rdE G W (eC (.str s))) := me_c pe_str fun _ _ => .str h
theorem ma_nil : PA X [] (rdA G W aNil) := PA.imp' pa_nil fun σ H Q ⟨ρ, σi, h, as, ag, f⟩ => f.ok ag .nil
theorem ma_cons (ha : PE X e (rdE G W me)) (hr : PA X es (rdA G W mr)) (hs : starEach (e :: es) X.env = (false, eval e X.env) :: starEach es X.env := by rfl) : PA X (e :: es) (rdA G W (aCons me mr)) :=
  PA.imp' (pa_cons ha hr hs) fun σ H Q ⟨ρ, σi, h, as, ag, f⟩ => rdG_go as ag f fun ρ1 H1 h1 x y st as ag r f => rdG_go as ag f fun ρ2 H2 h2 xs ys st2 as ag rs f => f.ok ag (.cons (r.mono st2) rs)
theorem me_tup {x1} (h : PA X es (rdA G W mr)) : PE X (.Tuple es x1 pos) (rdE G W (eTup mr)) :=
  PE.imp' (pe_tup h) fun σ H Q ⟨ρ, σi, h, as, ag, f⟩ => rdG_go as ag f fun ρ1 H1 h1 xs ys st as ag rs f => by
    cases e : small xs.length with
    | false => rw [e] at f; exact f.elim
    | true =>
      rw [e] at f
      refine ⟨by rw [← rs.length]; exact small_ok e, fun p hp => ?_⟩
      exact f ρ1 _ _ (Stp.more hp) (ag.more hp) (.tup (.inl (.inl upd_same)) (rs.mono (Stp.more hp)))
theorem me_lst (h : PA X es (rdA G W mr)) : PE X (.List es pos) (rdE G W (eLst mr)) :=
  PE.imp' (pe_lst h) fun σ H Q ⟨ρ, σi, h, as, ag, f⟩ => rdG_go as ag f fun ρ1 H1 h1 xs ys st as ag rs f => by
    cases e : small xs.length with
    | false => rw [e] at f; exact f.elim
    | true =>
      rw [e] at f
      refine ⟨by rw [← rs.length]; exact small_ok e, fun p hp => ?_⟩
      exact f (ρ1 ++ [p]) _ _ (Stp.new hp) (ag.new hp ⟨ys, upd_same, rs.mono (Stp.new hp)⟩) (.ref (by rw [← ag.len]; simp))
end
end ML
end
section
namespace ML
open PySem L2
def datL (f : VI → Option PyData) : List VI → Option (List PyData)
  | [] => some []
  | x :: xs => match f x with
    | some d => match datL f xs with
      | some ds => some (d :: ds)
      | none => none
    | none => none
def dat : Nat → Hi → VI → Option PyData
  | 0, _, _ => none
  | n + 1, h, v => match v with
    | .non => some .none
    | .bl b => some (.bool b)
    | .int i => some (.int i)
    | .str s => some (.str (toStr s))
    | .glo _ => none
    | .tup xs => (datL (dat n h) xs).map .tuple
    | .ref a => match h[a]? with
      | some (.lst xs) => (datL (dat n h) xs).map .list
      | some (.scr xs) => (datL (dat n h) xs).map .list
      | _ => none
section
variable {G : Gx} {ρ : List Addr} {h : Hi} {H : Hp}
theorem datL_ok {f : VI → Option PyData} (ih : ∀ v x d, RV G ρ H v x → f v = some d → Dp G.K H x d) : ∀ {vs xs ds}, RVs G ρ H vs xs → datL f vs = some ds → DpAll G.K H xs ds
  | _, _, _, .nil, e => by cases e; exact .nil
  | _, _, _, .cons (v := v) (vs := vs) r t, e => by
    unfold datL at e
    cases e1 : f v with
    | none => rw [e1] at e; cases e
    | some d =>
      rw [e1] at e
      cases e2 : datL f vs with
      | none => rw [e2] at e; cases e
      | some ds =>
        rw [e2] at e
        cases e
        exact .cons (ih _ _ _ r e1) (datL_ok ih t e2)
theorem dat_ok (ag : Ag G ρ h H) : ∀ (n : Nat) (v : VI) (x : V) (d : PyData), RV G ρ H v x → dat n h v = some d → Dp G.K H x d
  | 0, _, _, _, _, e => by cases e
  | n + 1, v, x, d, r, e => by
    cases r with
    | non => cases e; exact .non
    | bl b => cases e; exact .bl b
    | int i => cases e; exact .int i
    | str q => cases e; subst q; exact .str _
    | glo q => cases e
    | @tup xs ys a t rs =>
      have e' : (datL (dat n h) xs).map PyData.tuple = some d := e
      cases e1 : datL (dat n h) xs with
      | none => rw [e1] at e'; cases e'
      | some ds =>
        rw [e1] at e'
        cases e'
        exact .tup t (datL_ok (fun v x d => dat_ok ag n v x d) rs e1)
    | @ref k a q =>
      cases e0 : h[k]? with
      | none => unfold dat at e; dsimp only at e; rw [e0] at e; cases e
      | some o =>
        obtain ⟨b, hb, ob⟩ := ag.ob k o e0
        rw [q] at hb
        cases hb
        unfold dat at e
        dsimp only at e
        rw [e0] at e
        cases o with
        | lst xs =>
          obtain ⟨ys, hy, rs⟩ := ob
          have e' : (datL (dat n h) xs).map PyData.list = some d := e
          cases e1 : datL (dat n h) xs with
          | none => rw [e1] at e'; cases e'
          | some ds =>
            rw [e1] at e'
            cases e'
            exact .lst (.inl (.inl hy)) (datL_ok (fun v x d => dat_ok ag n v x d) rs e1)
        | scr xs =>
          obtain ⟨ob, ys, hy, rs⟩ := ob
          have e' : (datL (dat n h) xs).map PyData.list = some d := e
          cases e1 : datL (dat n h) xs with
          | none => rw [e1] at e'; cases e'
          | some ds =>
            rw [e1] at e'
            cases e'
            exact .lst (.inl (.inr ⟨_, hy⟩)) (datL_ok (fun v x d => dat_ok ag n v x d) rs e1)
        | dic kvs => cases e
        | ins c fs => cases e
        | xd fs => cases e
end
abbrev Op2 := VI → VI → Hi → Option (VI × Hi)
def ofO {α : Type} : Option (α × Hi) → Res α
  | some (a, h) => .ok a h
  | none => .err
def eBin (f : Op2) (a b : ME) : ME := fun σ h => (a σ h).bind fun x h1 => (b σ h1).bind fun y h2 => ofO (f x y h2)
def FinO {α β : Type} (G : Gx) (ρ : List Addr) (H : Hp) (R : List Addr → Hp → α → β → Prop) (Q : β → Hp → Prop) : Option (α × Hi) → Prop
  | some (v, h') => ∀ ρ' H' x, Stp G ρ H ρ' H' → Ag G ρ' h' H' → R ρ' H' v x → Q x H'
  | none => False
def rd2 (G : Gx) (f : Op2) : R2 := fun x y H Q => ∃ ρ h xi yi, Ag G ρ h H ∧ RV G ρ H xi x ∧ RV G ρ H yi y ∧ FinO G ρ H (RV G) Q (f xi yi h)
section
variable {G : Gx} {ρ : List Addr} {h : Hi} {H : Hp} {W : WX} {X : Cx} {e a b c : Expr} {pos : Pos} {ma mb mc : ME} {f : Op2}
theorem FinO.of {α β : Type} {R : List Addr → Hp → α → β → Prop} {Q : β → Hp → Prop} {W : Value → Option Addr → Hp → Prop} {r : Option (α × Hi)} (f : FinG G ρ H R Q W (ofO r)) : FinO G ρ H R Q r := by
  cases r with
  | none => exact f
  | some p => exact f
theorem FinO.ok {α β : Type} {R : List Addr → Hp → α → β → Prop} {Q : β → Hp → Prop} {v : α} {x : β} (f : FinO G ρ H R Q (some (v, h))) (a : Ag G ρ h H) (r : R ρ H v x) : Q x H := f ρ H x .refl a r
theorem me_bin {op : Operator} (ho : OpR X (binaryOp op) (rd2 G f)) (ha : PE X a (rdE G W ma)) (hb : PE X b (rdE G W mb)) : PE X (.BinOp a op b pos) (rdE G W (eBin f ma mb)) :=
  PE.imp' (pe_op ho ha hb) fun σ H Q ⟨ρ, σi, h, as, ag, f⟩ => rdG_go as ag f fun ρ1 H1 h1 x x' st as ag r f => rdG_go as ag f fun ρ2 H2 h2 y y' st2 as ag rs f => ⟨ρ2, h2, x, y, ag, r.mono st2, rs, FinO.of f⟩
theorem me_cmp {op : CmpOp} (ho : OpR X (compareOp op) (rd2 G f)) (ha : PE X a (rdE G W ma)) (hb : PE X b (rdE G W mb)) (hm : behindInMarks op b = false) : PE X (.Compare a [op] [b] pos) (rdE G W (eBin f ma mb)) :=
  PE.imp' (pe_cmpR ho ha hb hm) fun σ H Q ⟨ρ, σi, h, as, ag, f⟩ => rdG_go as ag f fun ρ1 H1 h1 x x' st as ag r f => rdG_go as ag f fun ρ2 H2 h2 y y' st2 as ag rs f => ⟨ρ2, h2, x, y, ag, r.mono st2, rs, FinO.of f⟩
theorem OpR.imp' {g : Value → Value → Sem Value} {r r' : R2} (h : OpR X g r) (i : ∀ x y H Q, r' x y H Q → r x y H Q) : OpR X g r' := fun pins s σ H x y v u Q I r1 r2 q => h pins s σ H x y v u Q I r1 r2 (i x y H Q q)
theorem opR_at {g : Value → Value → Sem Value} (h : ∀ ρ h H xi yi x y Q, Ag G ρ h H → RV G ρ H xi x → RV G ρ H yi y → FinO G ρ H (RV G) Q (f xi yi h) → ∃ r : R2, OpR X g r ∧ r x y H Q) : OpR X g (rd2 G f) :=
  fun pins s σ H x y v u Q I r1 r2 ⟨ρ, hi, xi, yi, ag, a1, a2, q⟩ => by
    obtain ⟨r, ho, hr⟩ := h ρ hi H xi yi x y Q ag a1 a2 q
    exact ho pins s σ H x y v u Q I r1 r2 hr
end
def fAdd : Op2 := fun x y h => match x, y with
  | .int i, .int j => some (.int (i + j), h)
  | .str s, .str t => match small (s.length + t.length) with
    | true => some (.str (s ++ t), h)
    | false => none
  | .tup xs, .tup ys => match small (xs.length + ys.length) with
    | true => some (.tup (xs ++ ys), h)
    | false => none
  | .ref a, .ref b => match h[a]?, h[b]? with
    | some (.lst xs), some (.lst ys) => match small (xs.length + ys.length) with
      | true => some (.ref h.length, h ++ [.lst (xs ++ ys)])
      | false => none
    | _, _ => none
  | _, _ => none
def fSub : Op2 := fun x y h => match x, y with
  | .int i, .int j => some (.int (i - j), h)
  | _, _ => none
def bnd (i : Int) : Bool := decide (-(2 ^ 64) < i) && decide (i < 2 ^ 64)
def repL (xs : List VI) : Nat → List VI
  | 0 => []
  | n + 1 => xs ++ repL xs n
def fMul : Op2 := fun x y h => match x, y with
  | .int i, .int j => match bnd i || bnd j with
    | true => some (.int (i * j), h)
    | false => none
  | .ref a, .int k => match h[a]? with
    | some (.lst xs) => match (decide (0 ≤ k) && decide (k ≤ 1000)) && small (xs.length * k.toNat) with
      | true => some (.ref h.length, h ++ [.lst (repL xs k.toNat)])
      | false => none
    | _ => none
  | .tup xs, .int k => match (decide (2 ≤ k) && decide (k ≤ 1000)) && (Nat.ble xs.length 1000 && !xs.isEmpty) with
    | true => some (.tup (repL xs k.toNat), h)
    | false => none
  | _, _ => none
def fMod : Op2 := fun x y h => match x, y with
  | .int i, .int j => match decide (0 < j) with
    | true => some (.int (i % j), h)
    | false => none
  | _, _ => none
def fFdiv : Op2 := fun x y h => match x, y with
  | .int i, .int j => match decide (0 < j) && decide (j < 1073741824) with
    | true => some (.int (i / j), h)
    | false => none
  | _, _ => none
def fPow : Op2 := fun x y h => match x, y with
  | .int i, .int j => match decide (0 ≤ j) && (decide (j ≤ 1000) && decide (i.natAbs < 2 ^ 64)) with
    | true => some (.int (i ^ j.toNat), h)
    | false => none
  | _, _ => none
theorem toStr_append (s t : S) : toStr s ++ toStr t = toStr (s ++ t) := by
  show PySem.Str.append (toStr s) (toStr t) = _
  unfold PySem.Str.append toStr
  simp
theorem toStr_length (s : S) : (toStr s).length = s.length := by
  show (toStr s).cps.size = _
  unfold toStr
  simp
section
variable {G : Gx} {ρ : List Addr} {H : Hp}
variable {X : Cx}
theorem RVs.nil_iff {xs : List VI} {ys : List V} (r : RVs G ρ H xs ys) : xs = [] ↔ ys = [] := by
  cases r with
  | nil => exact ⟨fun _ => rfl, fun _ => rfl⟩
  | cons _ _ => exact ⟨fun z => (by cases z), fun z => (by cases z)⟩
theorem FinO.new {h : Hi} {Q : VK} {p : Addr} {o : HO} {u : OI} (f : FinO G ρ H (RV G) Q (some (.ref h.length, h ++ [u]))) (ag : Ag G ρ h H) (hp : H p = none) (r : OR G (ρ ++ [p]) (upd H p o) p u) : Q (.ref p) (upd H p o) :=
  f (ρ ++ [p]) _ _ (Stp.new hp) (ag.new hp r) (.ref (by rw [← ag.len]; simp))
theorem mo_add (hG : G.K = X.K) : OpR X (binaryOp .Add) (rd2 G fAdd) := opR_at fun ρ h H xi yi x y Q ag r1 r2 f => by
  unfold fAdd at f
  cases r1 with
  | int i =>
    cases r2 with
    | int j => exact ⟨_, op_add, i, j, rfl, rfl, f.ok ag (.int _)⟩
    | _ => exact f.elim
  | @str s _ e =>
    cases r2 with
    | @str t _ e' =>
      subst e e'
      dsimp only at f
      cases q : small (s.length + t.length) with
      | false => rw [q] at f; exact f.elim
      | true =>
        rw [q] at f
        exact ⟨_, op_add_str, _, _, rfl, rfl, by rw [toStr_length, toStr_length]; exact small_ok q, f.ok ag (.str (toStr_append s t))⟩
    | _ => exact f.elim
  | @tup xs ys a t1 s1 =>
    cases r2 with
    | @tup xs2 ys2 b t2 s2 =>
      dsimp only at f
      cases q : small (xs.length + xs2.length) with
      | false => rw [q] at f; exact f.elim
      | true =>
        rw [q] at f
        refine ⟨_, op_catA, a, b, ys, ys2, rfl, rfl, hG ▸ t1, hG ▸ t2, by rw [← s1.length, ← s2.length]; exact small_ok q, fun z => ?_, fun z1 z2 => ?_, fun z1 z2 p hp => ?_⟩
        · have e := s1.nil_iff.mpr z
          subst e
          exact f.ok ag (.tup t2 s2)
        · have e := s2.nil_iff.mpr z2
          subst e
          rw [List.append_nil] at f
          exact f.ok ag (.tup t1 s1)
        · exact f ρ _ _ (Stp.more hp) (ag.more hp) (.tup (.inl (.inl upd_same)) ((s1.append s2).mono (Stp.more hp)))
    | _ => exact f.elim
  | @ref n a e =>
    cases r2 with
    | @ref m b e' =>
      dsimp only at f
      cases q : h[n]? with
      | none => rw [q] at f; exact f.elim
      | some o =>
        rw [q] at f
        cases o with
        | lst xs =>
          cases q2 : h[m]? with
          | none => rw [q2] at f; exact f.elim
          | some o2 =>
            rw [q2] at f
            cases o2 with
            | lst ys =>
              dsimp only at f
              obtain ⟨xv, hx, rx⟩ := ag.at_ q e
              obtain ⟨yv, hy, ry⟩ := ag.at_ q2 e'
              cases z : small (xs.length + ys.length) with
              | false => rw [z] at f; exact f.elim
              | true =>
                rw [z] at f
                exact ⟨_, op_cat, a, b, xv, yv, rfl, rfl, hx, hy, by rw [← rx.length, ← ry.length]; exact small_ok z, fun p hp => FinO.new f ag hp ⟨_, upd_same, (rx.append ry).mono (Stp.new hp)⟩⟩
            | _ => exact f.elim
        | _ => exact f.elim
    | _ => exact f.elim
  | _ => exact f.elim
theorem mo_sub : OpR X (binaryOp .Sub) (rd2 G fSub) := opR_at fun ρ h H xi yi x y Q ag r1 r2 f => by
  unfold fSub at f
  cases r1 with
  | int i =>
    cases r2 with
    | int j => exact ⟨_, op_sub, i, j, rfl, rfl, f.ok ag (.int _)⟩
    | _ => exact f.elim
  | _ => exact f.elim
theorem mo_mod : OpR X (binaryOp .Mod) (rd2 G fMod) := opR_at fun ρ h H xi yi x y Q ag r1 r2 f => by
  unfold fMod at f
  cases r1 with
  | int i =>
    cases r2 with
    | int j =>
      dsimp only at f
      cases q : decide (0 < j) with
      | false => rw [q] at f; exact f.elim
      | true => rw [q] at f; exact ⟨_, op_mod, i, j, rfl, rfl, of_decide_eq_true q, f.ok ag (.int _)⟩
    | _ => exact f.elim
  | _ => exact f.elim
def eqD (h : Hi) (x y : VI) : Option Bool := match dat 66 h x, dat 66 h y with
  | some d, some e => match SeqAt.shaped d && SeqAt.shaped e with
    | true => some (PyData.eqv d e)
    | false => none
  | _, _ => none
def fEq : Op2 := fun x y h => match eqD h x y with
  | some b => some (.bl b, h)
  | none => none
def fNe : Op2 := fun x y h => match eqD h x y with
  | some b => some (.bl (!b), h)
  | none => none
def fInt (p : Int → Int → Bool) : Op2 := fun x y h => match x, y with
  | .int i, .int j => some (.bl (p i j), h)
  | _, _ => none
def fLt : Op2 := fInt fun i j => decide (i < j)
def fLe : Op2 := fInt fun i j => decide (i ≤ j)
def fGt : Op2 := fInt fun i j => decide (j < i)
def fGe : Op2 := fInt fun i j => decide (j ≤ i)
def fIsN : Op2 := fun x y h => match y with
  | .non => some (.bl (match x with | .non => true | _ => false), h)
  | _ => none
def fNotN : Op2 := fun x y h => match y with
  | .non => some (.bl (match x with | .non => false | _ => true), h)
  | _ => none
theorem eqD_ok {h : Hi} {xi yi : VI} {x y : V} {b : Bool} (ag : Ag G ρ h H) (r1 : RV G ρ H xi x) (r2 : RV G ρ H yi y) (e : eqD h xi yi = some b) : ∃ d d', Dp G.K H x d ∧ Dp G.K H y d' ∧ SeqAt.shaped d = true ∧ SeqAt.shaped d' = true ∧ b = PyData.eqv d d' := by
  unfold eqD at e
  cases e1 : dat 66 h xi with
  | none => rw [e1] at e; cases e
  | some d =>
    cases e2 : dat 66 h yi with
    | none => rw [e1, e2] at e; cases e
    | some d' =>
      rw [e1, e2] at e
      dsimp only at e
      cases q : SeqAt.shaped d && SeqAt.shaped d' with
      | false => rw [q] at e; cases e
      | true =>
        rw [q] at e
        cases e
        obtain ⟨q1, q2⟩ := Bool.and_eq_true_iff.mp q
        exact ⟨d, d', dat_ok ag _ _ _ _ r1 e1, dat_ok ag _ _ _ _ r2 e2, q1, q2, rfl⟩
theorem mo_eq (hG : G.K = X.K) (hu : X.A.units + 64 < cLine) : OpR X (compareOp .Eq) (rd2 G fEq) := opR_at fun ρ h H xi yi x y Q ag r1 r2 f => by
  unfold fEq at f
  cases e : eqD h xi yi with
  | none => rw [e] at f; exact f.elim
  | some b =>
    rw [e] at f
    obtain ⟨d, d', p1, p2, s1, s2, rfl⟩ := eqD_ok ag r1 r2 e
    exact ⟨_, op_eqD hu, d, d', hG ▸ p1, hG ▸ p2, s1, s2, f.ok ag (.bl _)⟩
theorem mo_ne (hG : G.K = X.K) (hu : X.A.units + 64 < cLine) : OpR X (compareOp .NotEq) (rd2 G fNe) := opR_at fun ρ h H xi yi x y Q ag r1 r2 f => by
  unfold fNe at f
  cases e : eqD h xi yi with
  | none => rw [e] at f; exact f.elim
  | some b =>
    rw [e] at f
    obtain ⟨d, d', p1, p2, s1, s2, rfl⟩ := eqD_ok ag r1 r2 e
    exact ⟨_, op_neD hu, d, d', hG ▸ p1, hG ▸ p2, s1, s2, f.ok ag (.bl _)⟩
theorem mo_int {g : Value → Value → Sem Value} {p : Int → Int → Bool} (ho : OpR X g (rI0 fun i j => .bl (p i j))) : OpR X g (rd2 G (fInt p)) := opR_at fun ρ h H xi yi x y Q ag r1 r2 f => by
  unfold fInt at f
  cases r1 with
  | int i =>
    cases r2 with
    | int j => exact ⟨_, ho, i, j, rfl, rfl, f.ok ag (.bl _)⟩
    | _ => exact f.elim
  | _ => exact f.elim
theorem mo_le : OpR X (compareOp .LtE) (rd2 G fLe) := mo_int op_le
theorem mo_isN : OpR X (compareOp .Is) (rd2 G fIsN) := opR_at fun ρ h H xi yi x y Q ag r1 r2 f => by
  unfold fIsN at f
  cases r2 with
  | non => cases r1 <;> exact ⟨_, op_isN, rfl, f.ok ag (.bl _)⟩
  | _ => exact f.elim
end
end ML
end
section
namespace ML
open PySem L2
def tOf (e : ME) : MT := fun σ h => (e σ h).bind fun v h1 => match v with
  | .bl b => .ok b h1
  | _ => .err
def tAndM (a b : MT) : MT := fun σ h => (a σ h).bind fun c h1 => match c with
  | true => b σ h1
  | false => .ok false h1
def tOrM (a b : MT) : MT := fun σ h => (a σ h).bind fun c h1 => match c with
  | true => .ok true h1
  | false => b σ h1
def tNotM (a : MT) : MT := fun σ h => (a σ h).bind fun c h1 => .ok (!c) h1
def eAnd (a b : ME) : ME := fun σ h => (a σ h).bind fun v h1 => match v with
  | .bl true => b σ h1
  | .bl false => .ok (.bl false) h1
  | _ => .err
def eOr (a b : ME) : ME := fun σ h => (a σ h).bind fun v h1 => match v with
  | .bl true => .ok (.bl true) h1
  | .bl false => b σ h1
  | _ => .err
def eNot (a : ME) : ME := fun σ h => (a σ h).bind fun v h1 => match v with
  | .bl b => .ok (.bl (!b)) h1
  | _ => .err
def eIf (t : MT) (a b : ME) : ME := fun σ h => (t σ h).bind fun c h1 => match c with
  | true => a σ h1
  | false => b σ h1
section
variable {G : Gx} {W : WX} {X : Cx} {e a b c : Expr} {rest : List Expr} {pos : Pos} {me ma mb : ME} {ta tb : MT}
theorem rdG_at {α β : Type} {R : List Addr → Hp → α → β → Prop} {m : Sg → Hi → Res α} {Q : β → Hp → Prop} {ρ : List Addr} {σi : Sg} {h : Hi} {H : Hp} {σ : St} (as : AgS G ρ H σi σ) (a : Ag G ρ h H) (f : FinG G ρ H R Q (fun c d H' => W c d σ H') (m σi h)) : rdG G R W m σ H Q := ⟨ρ, σi, h, as, a, f⟩
theorem mt_val (h : PE X e (rdE G W me)) (he : ∀ whole, isTrue e X.env whole = (do let v ← whole; standAt e.pos; holding [v] (truthy v)) := by intro _; rfl) : PT X e (rdT G W (tOf me)) :=
  PT.imp' (pt_val h he) fun σ H Q ⟨ρ, σi, h, as, ag, f⟩ => rdG_go as ag f fun ρ1 H1 h1 x x' st as ag r f => by
    cases r with
    | bl b => exact ⟨b, rfl, f.ok ag rfl⟩
    | _ => exact f.elim
theorem mw_or1 (ha : PT X a (rdT G W ta)) : PW X (.BoolOp .Or [a] pos) (rdT G W ta) := pw_or1 ha
theorem mw_or (ha : PT X a (rdT G W ta)) (hb : PW X (.BoolOp .Or (b :: rest) pos) (rdT G W tb)) : PW X (.BoolOp .Or (a :: b :: rest) pos) (rdT G W (tOrM ta tb)) :=
  PW.imp' (pw_or ha hb) fun σ H Q ⟨ρ, σi, h, as, ag, f⟩ => rdG_go as ag f fun ρ1 H1 h1 x x' st as ag r f => by
    subst r
    cases x with
    | true => rw [if_pos rfl]; exact f.ok ag rfl
    | false => rw [if_neg Bool.false_ne_true]; exact rdG_at as ag f
theorem mt_not (ha : PT X a (rdT G W ta)) : PT X (.UnaryOp .Not a pos) (rdT G W (tNotM ta)) :=
  PT.imp' (pt_not ha) fun σ H Q ⟨ρ, σi, h, as, ag, f⟩ => rdG_go as ag f fun ρ1 H1 h1 x x' st as ag r f => by
    subst r
    exact f.ok ag rfl
theorem me_one {op} (h : PE X a (rdE G W me)) : PE X (.BoolOp op [a] pos) (rdE G W me) := pe_one h
theorem me_and (ha : PE X a (rdE G W ma)) (hb : PE X (.BoolOp .And (b :: rest) pos) (rdE G W mb)) : PE X (.BoolOp .And (a :: b :: rest) pos) (rdE G W (eAnd ma mb)) :=
  PE.imp' (pe_and ha hb) fun σ H Q ⟨ρ, σi, h, as, ag, f⟩ => rdG_go as ag f fun ρ1 H1 h1 x x' st as ag r f => by
    cases r with
    | bl b =>
      refine ⟨b, rfl, ?_⟩
      cases b with
      | true => rw [if_pos rfl]; exact rdG_at as ag f
      | false => rw [if_neg Bool.false_ne_true]; exact f.ok ag (.bl _)
    | _ => exact f.elim
theorem me_not (ha : PE X a (rdE G W ma)) : PE X (.UnaryOp .Not a pos) (rdE G W (eNot ma)) :=
  PE.imp' (pe_not ha) fun σ H Q ⟨ρ, σi, h, as, ag, f⟩ => rdG_go as ag f fun ρ1 H1 h1 x x' st as ag r f => by
    cases r with
    | bl b => exact ⟨b, rfl, f.ok ag (.bl _)⟩
    | _ => exact f.elim
end
inductive RS where
  | nx (σ : Sg) (h : Hi) | rt (v : VI) (h : Hi) | bk (σ : Sg) (h : Hi) | ct (σ : Sg) (h : Hi) | ex (c n : Nat) (σ : Sg) (h : Hi) | err
abbrev MS := Sg → Hi → RS
def Res.bindS {α : Type} (r : Res α) (σ : Sg) (f : α → Hi → RS) : RS := match r with
  | .ok a h => f a h
  | .ex c n h => .ex c n σ h
  | .err => .err
def RS.andThen (r : RS) (f : MS) : RS := match r with
  | .nx σ h => f σ h
  | o => o
def FinS (G : Gx) (ρ : List Addr) (H : Hp) (D : Ends) (W : WX) : RS → Prop
  | .nx σ' h' => ∀ ρ' H' σ, Stp G ρ H ρ' H' → Ag G ρ' h' H' → AgS G ρ' H' σ' σ → D.nx σ H'
  | .bk σ' h' => ∀ ρ' H' σ, Stp G ρ H ρ' H' → Ag G ρ' h' H' → AgS G ρ' H' σ' σ → D.bk σ H'
  | .ct σ' h' => ∀ ρ' H' σ, Stp G ρ H ρ' H' → Ag G ρ' h' H' → AgS G ρ' H' σ' σ → D.ct σ H'
  | .rt v h' => ∀ ρ' H' x, Stp G ρ H ρ' H' → Ag G ρ' h' H' → RV G ρ' H' v x → D.rt x H'
  | .ex c n σ' h' => ∀ ρ' H' d C σ, Stp G ρ H ρ' H' → Ag G ρ' h' H' → AgS G ρ' H' σ' σ → ρ'[n]? = some d → G.ct c = some C → W (.ref C) (some d) σ H'
  | .err => False
def rdS (G : Gx) (W : WX) (m : MS) : TS := fun D σ H => ∃ ρ σi h, AgS G ρ H σi σ ∧ Ag G ρ h H ∧ FinS G ρ H D W (m σi h)
def sNx : MS := fun σ h => .nx σ h
def sSeq (a b : MS) : MS := fun σ h => (a σ h).andThen b
def sBk : MS := fun σ h => .bk σ h
def sCt : MS := fun σ h => .ct σ h
def sRet (e : ME) : MS := fun σ h => (e σ h).bindS σ fun v h1 => .rt v h1
def sRetN : MS := fun σ h => .rt .non h
def sDrop (e : ME) : MS := fun σ h => (e σ h).bindS σ fun _ h1 => .nx σ h1
def sIf (t : MT) (a b : MS) : MS := fun σ h => (t σ h).bindS σ fun c h1 => match c with
  | true => a σ h1
  | false => b σ h1
abbrev MG := VI → Sg → Hi → RS
def gNm (i : Nat) : MG := fun v σ h => .nx (σ.set i (some v)) h
def sAsg (e : ME) (g : MG) : MS := fun σ h => (e σ h).bindS σ fun v h1 => g v σ h1
section
variable {G : Gx} {W : WX} {X : Cx} {ρ ρ1 : List Addr} {H H1 : Hp} {σ : St} {σi : Sg} {h : Hi} {D : Ends} {e : Expr} {st : Stmt} {pos : Pos} {me : ME} {ms mr : MS} {mt : MT} {rest : List Stmt}
theorem FinS.later (st : Stp G ρ H ρ1 H1) : ∀ {r : RS}, FinS G ρ H D W r → FinS G ρ1 H1 D W r
  | .nx _ _, f => fun ρ' H' x s => f ρ' H' x (st.trans s)
  | .bk _ _, f => fun ρ' H' x s => f ρ' H' x (st.trans s)
  | .ct _ _, f => fun ρ' H' x s => f ρ' H' x (st.trans s)
  | .rt _ _, f => fun ρ' H' x s => f ρ' H' x (st.trans s)
  | .ex _ _ _ _, f => fun ρ' H' d C x s => f ρ' H' d C x (st.trans s)
  | .err, f => f
theorem rdS_go {α β : Type} {R : List Addr → Hp → α → β → Prop} {m : Sg → Hi → Res α} {k : α → Hi → RS} {N : β → Hp → Prop}
    (as : AgS G ρ H σi σ) (a : Ag G ρ h H) (f : FinS G ρ H D W ((m σi h).bindS σi k))
    (nx : ∀ ρ1 H1 h1 x y, Stp G ρ H ρ1 H1 → AgS G ρ1 H1 σi σ → Ag G ρ1 h1 H1 → R ρ1 H1 x y → FinS G ρ1 H1 D W (k x h1) → N y H1) : rdG G R W m σ H N := by
  refine ⟨ρ, σi, h, as, a, ?_⟩
  cases e : m σi h with
  | err => rw [e] at f; exact f
  | ex c n h' =>
    rw [e] at f
    exact fun ρ' H' d C st a' hn hc => f ρ' H' d C σ st a' (as.mono st) hn hc
  | ok v h' =>
    rw [e] at f
    exact fun ρ' H' x st a' r => nx ρ' H' h' v x st (as.mono st) a' r (FinS.later st f)
theorem FinS.nx (f : FinS G ρ H D W (.nx σi h)) (a : Ag G ρ h H) (as : AgS G ρ H σi σ) : D.nx σ H := f ρ H σ .refl a as
theorem ms_nil : PSs X [] (rdS G W sNx) := PSs.imp' pss_nil fun D σ H ⟨ρ, σi, h, as, ag, f⟩ => f.nx ag as
theorem ms_cons (h1 : PS X st (rdS G W ms)) (h2 : PSs X rest (rdS G W mr)) : PSs X (st :: rest) (rdS G W (sSeq ms mr)) :=
  PSs.imp' (pss_cons h1 h2) fun D σ H ⟨ρ, σi, h, as, ag, f⟩ => by
    refine ⟨ρ, σi, h, as, ag, ?_⟩
    have f' : FinS G ρ H D W ((ms σi h).andThen mr) := f
    cases e : ms σi h with
    | nx σ' h' =>
      rw [e] at f'
      exact fun ρ' H' σ2 st ag2 as2 => ⟨ρ', σ', h', as2, ag2, FinS.later st f'⟩
    | bk σ' h' => rw [e] at f'; exact f'
    | ct σ' h' => rw [e] at f'; exact f'
    | rt v h' => rw [e] at f'; exact f'
    | ex c n σ' h' => rw [e] at f'; exact f'
    | err => rw [e] at f'; exact f'
theorem ms_one (h1 : PS X st (rdS G W ms)) : PSs X [st] (rdS G W ms) := pss_one h1
theorem ms_expr (he : PE X e (rdE G W me)) (hs : swapsWith e none pos.line X.env = pure false := by rfl) : PS X (.Expr e pos) (rdS G W (sDrop me)) :=
  PS.imp' (ps_expr he hs) fun D σ H ⟨ρ, σi, h, as, ag, f⟩ => rdS_go as ag f fun ρ1 H1 h1 x x' st as ag r f => f.nx ag as
theorem ms_ret (he : PE X e (rdE G W me)) : PS X (.Return (some e) pos) (rdS G W (sRet me)) :=
  PS.imp' (ps_ret he) fun D σ H ⟨ρ, σi, h, as, ag, f⟩ => rdS_go as ag f fun ρ1 H1 h1 x x' st as ag r f => f ρ1 H1 x' .refl ag r
theorem ms_if {c : Expr} {a b : List Stmt} {ma mb : MS} (hc : PT X c (rdT G W mt)) (ha : PSs X a (rdS G W ma)) (hb : PSs X b (rdS G W mb)) : PS X (.If c a b pos) (rdS G W (sIf mt ma mb)) :=
  PS.imp' (ps_if hc ha hb) fun D σ H ⟨ρ, σi, h, as, ag, f⟩ => rdS_go as ag f fun ρ1 H1 h1 x x' st as ag r f => by
    subst r
    cases x with
    | true => rw [if_pos rfl]; exact ⟨ρ1, _, h1, as, ag, f⟩
    | false => rw [if_neg Bool.false_ne_true]; exact ⟨ρ1, _, h1, as, ag, f⟩
def rdGt (G : Gx) (W : WX) (g : MG) : TG := fun v σ H Q => ∃ ρ σi h vi, AgS G ρ H σi σ ∧ Ag G ρ h H ∧ RV G ρ H vi v ∧ FinS G ρ H { nx := Q, rt := fun _ _ => False } W (g vi σi h)
theorem mg_name {i : Nat} {x : Str} (hN : X.N.Nodup) (hi : X.N[i]? = some x) (hx : Loc X.env.scope x) (hf : X.fn x = true ∨ X.env.scope.names.lookup x = some .local := by first | exact .inl rfl | exact .inr rfl | assumption) : PG X (.Name x pos) (rdGt G W (gNm i)) :=
  ⟨fun pins s σ H v u Q I r ⟨ρ, σi, h, vi, as, ag, rv, f⟩ => (pg_name hN hi hx hf).run pins s σ H v u Q I r (f.nx ag (as.set rv i))⟩
def OnlyNx (g : MG) : Prop := ∀ v σ h, (∃ σ' h', g v σ h = .nx σ' h') ∨ (∃ c n σ' h', g v σ h = .ex c n σ' h') ∨ g v σ h = .err
theorem FinS.ends {D' : Ends} {r : RS} (hn : (∃ σ' h', r = .nx σ' h') ∨ (∃ c n σ' h', r = .ex c n σ' h') ∨ r = .err) (f : FinS G ρ H D W r) (e : D'.nx = D.nx) : FinS G ρ H D' W r := by
  rcases hn with ⟨σ', h', q⟩ | ⟨c, n, σ', h', q⟩ | q
  · rw [q] at f ⊢; exact fun ρ' H' σ s a as => by rw [e]; exact f ρ' H' σ s a as
  · rw [q] at f ⊢; exact f
  · rw [q] at f ⊢; exact f
theorem onlyNx_name (i : Nat) : OnlyNx (gNm i) := fun _ _ _ => .inl ⟨_, _, rfl⟩
end
end ML
end
section
namespace ML
open PySem L2 PyProof.Rows
abbrev MF := List VI → Hi → Res VI
def endB : RS → Res VI
  | .nx _ h' => .ok .non h'
  | .rt v h' => .ok v h'
  | .ex c k _ h' => .ex c k h'
  | _ => .err
def runB (np n : Nat) (body : MS) : MF := fun vs h => match Nat.beq vs.length np with
  | true => endB (body (vs.map some ++ List.replicate n none) h)
  | false => .err
def spM (G : Gx) (np : Nat) (f : MF) : Sp := fun vs H Q E => ∃ ρ h args, args.length = np ∧ Ag G ρ h H ∧ RVs G ρ H args vs ∧ FinG G ρ H (RV G) Q (fun c d H' => E c d H') (f args h)
def CallM (X : Cx) (G : Gx) (W : WX) (fv : Value) (f : MF) : Prop :=
  ∀ (pins : List (Addr × Obj)) (s : Shared) (σ : L2.St) (H : Hp) (us : List Value) (vs : List V) (args : List VI) (ρ : List Addr) (h : Hi) (Q : VK), Inv X pins σ H s → Vals vs us → RVs G ρ H args vs → Ag G ρ h H →
    FinG G ρ H (RV G) Q (fun c d H' => W c d σ H') (f args h) → wpAny (model X.prog X.w) X.A (call fv us) (EP X pins σ Q) X.xe s
section
variable {G : Gx} {W : WX} {X : Cx} {ρ : List Addr} {h : Hi} {H : Hp} {σ : L2.St} {k np : Nat} {f C : Addr} {fd : FuncData} {ps : List Str} {g : MF}
theorem spM_len {vs : List V} {Q : VK} {E : XK} (h : spM G np g vs H Q E) : vs.length = np := by
  obtain ⟨_, _, args, l, _, r, _⟩ := h
  rw [← r.length, l]
theorem RVs.some_all : ∀ {vs : List VI} {xs : List V}, RVs G ρ H vs xs → ∀ (i : Nat) (v : VI), (vs.map some)[i]? = some (some v) → ∃ x, (xs.map some)[i]? = some (some x) ∧ RV G ρ H v x := fun {vs xs} r i v e => by
  rw [List.getElem?_map] at e
  cases q : vs[i]? with
  | none => rw [q] at e; cases e
  | some w =>
    rw [q] at e
    cases e
    obtain ⟨b, hb, rb⟩ := r.get q
    exact ⟨b, by rw [List.getElem?_map, hb] <;> rfl, rb⟩
theorem ags_start {N : List Str} {n : Nat} {args : List VI} {vs : List V} (r : RVs G ρ H args vs) (hn : N.length = vs.length + n) : AgS G ρ H (args.map some ++ List.replicate n none) (L2.start N vs) := by
  have hz : N.length - vs.length = n := by omega
  have hl : (args.map (some : VI → Option VI)).length = (vs.map (some : V → Option V)).length := by simp [r.length]
  unfold L2.start
  rw [hz]
  refine ⟨by simp [r.length], fun i v e => ?_⟩
  by_cases q : i < (args.map (some : VI → Option VI)).length
  · rw [List.getElem?_append_left q] at e
    rw [List.getElem?_append_left (by rw [← hl]; exact q)]
    exact r.some_all i v e
  · rw [List.getElem?_append_right (Nat.le_of_not_lt q)] at e
    have := List.mem_of_getElem? e
    rw [List.mem_replicate] at this
    cases this.2
theorem fn_M {P : Program} {w : World} {K : PySem.W.Frag} {mg : Str → Option Value} {base : Heap} {x qual : Str} {params : Arguments} {body : List Stmt} {scope : Scope} {dvs : List V} {kws : List (Str × V)} {N : List Str} {n : Nat} {mb : MS}
    (F : FunD K x qual params body scope dvs kws f fd) (S : FnScope N ps scope) (hn : N.length = ps.length + n)
    (hb : ∀ (cdv : Value) (A : Around) (outer : List Env) (s : Shared) (H : Hp) (E : XK), Room k (cxOf (L2.CX P w) P w K mg base N qual scope f cdv A outer s H E).A →
      Takes (cxOf (L2.CX P w) P w K mg base N qual scope f cdv A outer s H E) (fun c d _ H => E c d H) →
      PassesOwn (model P w) (cxOf (L2.CX P w) P w K mg base N qual scope f cdv A outer s H E).A (cxOf (L2.CX P w) P w K mg base N qual scope f cdv A outer s H E).env (cxOf (L2.CX P w) P w K mg base N qual scope f cdv A outer s H E).xe →
      PSs (cxOf (L2.CX P w) P w K mg base N qual scope f cdv A outer s H E) body (rdS G (fun c d _ H => E c d H) mb)) : FnOk P w K mg base (L2.CX P w) (k + 1) f fd ps (spM G ps.length (runB ps.length n mb)) := by
  refine F.ok S (fun vs H Q E h => spM_len h) (fun cdv A outer s H vs Q E hr hsp => ?_)
  obtain ⟨ρ, h, args, l, ag, r, fin⟩ := hsp
  refine ⟨_, hb cdv A outer s H E hr (takes_of rfl rfl rfl rfl) (passes_of rfl), ?_⟩
  refine ⟨ρ, _, h, ags_start r (by rw [← r.length, l]; exact hn), ag, ?_⟩
  unfold runB at fin
  rw [show Nat.beq args.length ps.length = true from by rw [l]; exact Nat.beq_refl _] at fin
  dsimp only at fin
  cases e : mb (args.map some ++ List.replicate n none) h with
  | nx σ' h' => rw [e] at fin; exact fun ρ' H' σ2 st a' as' => fin ρ' H' .non st a' .non
  | rt v h' => rw [e] at fin; exact fin
  | bk σ' h' => rw [e] at fin; exact fin.elim
  | ct σ' h' => rw [e] at fin; exact fin.elim
  | ex c n σ' h' => rw [e] at fin; exact fun ρ' H' d C σ2 st a' as' hn hc => fin ρ' H' d C st a' hn hc
  | err => rw [e] at fin; exact fin
def Arity (np : Nat) (g : MF) : Prop := ∀ vs h, vs.length ≠ np → g vs h = .err
theorem arity_runB {n : Nat} {mb : MS} : Arity np (runB np n mb) := fun vs h hl => by
  unfold runB
  rw [show Nat.beq vs.length np = false from Bool.eq_false_iff.mpr fun z => hl (Nat.eq_of_beq_eq_true z)]
theorem callM_fn (F : FnOk X.prog X.w X.K X.mg X.base (L2.CX X.prog X.w) k f fd ps (spM G ps.length g)) (ar : Arity ps.length g) (hr : Room k X.A) (hb : Binds X.K fd ps []) (tk : Takes X W) : CallM X G W (.ref f) g := by
  intro pins s σ H us vs args ρ h Q I r ra ag fin
  by_cases hl : args.length = ps.length
  · have hsp : spM G ps.length g vs H Q (WE W σ) := ⟨ρ, h, args, hl, ag, ra, fin⟩
    have lu : us.length = ps.length := by rw [← r.length, ← ra.length]; exact hl
    have b := hb s us I.kIn (by rw [List.append_nil]; exact lu)
    rw [List.append_nil] at b
    refine wpAny_call (codeAny_mono (F.run _ _ s H ⟨us, []⟩ us vs Q (WE W σ) hr I.env0 b r hsp) fun res s' hq => ?_)
    match res, hq with
    | .error e, hq => exact passAt tk σ pins H s e s' I hq
    | .ok (.ret u), hq => exact I.after hq
  · rw [ar args h hl] at fin
    exact fin.elim
end
end ML
end
section
namespace ML
open PySem L2 PyProof.Rows
def eCall (g : MF) (ma : MA) : ME := fun σ h => (ma σ h).bind fun vs h1 => g vs h1
def getF (f : S) : List (S × VI) → Option VI
  | [] => none
  | (g, v) :: r => match decide (g = f) with
    | true => some v
    | false => getF f r
def setF (f : S) (v : VI) : List (S × VI) → List (S × VI)
  | [] => [(f, v)]
  | (g, x) :: r => match decide (g = f) with
    | true => (g, v) :: r
    | false => (g, x) :: setF f v r
section
variable {G : Gx} {ρ : List Addr} {H : Hp}
theorem RFs.getF : ∀ {fs : List (S × VI)} {gs : List (Str × V)} (f : S), RFs G ρ H fs gs → match ML.getF f fs with
    | some v => ∃ x, gs.lookup (toStr f) = some x ∧ RV G ρ H v x
    | none => gs.lookup (toStr f) = none
  | _, _, f, .nil => rfl
  | _, _, f, .cons (f := k) (g := g) (fs := fs) (gs := gs) e h t => by
    subst e
    unfold ML.getF
    by_cases q : k = f
    · subst q
      rw [decide_eq_true rfl]
      exact ⟨_, by simp [List.lookup], h⟩
    · rw [decide_eq_false q]
      have hb : (toStr f == toStr k) = false := beq_eq_false_iff_ne.mpr fun z => q (toStr_inj z).symm
      dsimp only
      have ih := RFs.getF f t
      simp only [List.lookup, hb]
      exact ih
theorem RFs.setF : ∀ {fs : List (S × VI)} {gs : List (Str × V)} {v : VI} {x : V} (f : S), RFs G ρ H fs gs → RV G ρ H v x → RFs G ρ H (ML.setF f v fs) (putF (toStr f) x gs)
  | _, _, _, _, f, .nil, r => .cons rfl r .nil
  | _, _, v, x, f, .cons (f := k) (g := g) (fs := fs) (gs := gs) e h t, r => by
    subst e
    unfold ML.setF
    by_cases q : k = f
    · subst q
      rw [decide_eq_true rfl]
      show RFs G ρ H _ (if toStr k = toStr k then _ else _)
      rw [if_pos rfl]
      exact .cons rfl r t
    · rw [decide_eq_false q]
      show RFs G ρ H _ (if toStr k = toStr f then _ else _)
      rw [if_neg fun z => q (toStr_inj z)]
      exact .cons rfl h (RFs.setF f t r)
end
def eFld (cs : List Nat) (f : S) (e : ME) : ME := fun σ h => (e σ h).bind fun x h1 => match x with
  | .ref n => match h1[n]? with
    | some (.ins c fs) => match cs.contains c, getF f fs with
      | true, some v => .ok v h1
      | _, _ => .err
    | _ => .err
  | _ => .err
def FldOk (K : PySem.W.Frag) (G : Gx) (cs : List Nat) (f : S) : Prop := ∀ c C, cs.contains c = true → G.ct c = some C → Cls K C ∧ NoAttr K C (toStr f)
def eCon (tbl : Nat → Option VI) (f : S) (e : ME) : ME := fun σ h => (e σ h).bind fun x h1 => match x with
  | .ref n => match h1[n]? with
    | some (.ins c fs) => match tbl c, getF f fs with
      | some v, none => .ok v h1
      | _, _ => .err
    | _ => .err
  | _ => .err
def sFldM (cs : List Nat) (f : S) (o v : ME) : MS := fun σ h => (v σ h).bindS σ fun y h1 => (o σ h1).bindS σ fun x h2 => match x with
  | .ref n => match h2[n]? with
    | some (.ins c fs) => match cs.contains c && Nat.blt fs.length 1000 with
      | true => .nx σ (h2.set n (.ins c (setF f y fs)))
      | false => .err
    | _ => .err
  | _ => .err
def eMeth (tbl : Nat → Option MF) (m : S) (o : ME) (ma : MA) : ME := fun σ h => (o σ h).bind fun x h1 => match x with
  | .ref n => match h1[n]? with
    | some (.ins c fs) => match tbl c, getF m fs with
      | some g, none => (ma σ h1).bind fun vs h2 => g (.ref n :: vs) h2
      | _, _ => .err
    | _ => .err
  | _ => .err
section
variable {G : Gx} {W : WX} {X : Cx} {ρ : List Addr} {h : Hi} {H : Hp} {σ : L2.St} {k : Nat} {f C : Addr} {fd : FuncData} {ps : List Str} {g : MF} {x : Str} {p pos apos pos' : Pos} {e o v : Expr} {es : List Expr} {ma : MA} {me mo mv : ME}
theorem me_call (c : CallM X G W (.ref f) g) (hg : Gl X x) (hm : X.mg x = some (.ref f)) (hk : PySem.W.keepIn X.K (.ref f) = true) (ha : PA X (e :: es) (rdA G W ma)) (hdb : (x == ("__debug__" : Str)) = false := by decide)
    (he : starEach (e :: es) X.env = (false, eval e X.env) :: starEach es X.env := by rfl) (hpl : (backTo pos (starEach es X.env)).any (·.1) = false := by rfl) : PE X (.Call (.Name x p) (e :: es) [] pos) (rdE G W (eCall g ma)) := by
  refine ⟨fun pins s σ H Q I ⟨ρ, σi, h, as, ag, fin⟩ => ?_⟩
  refine wpAny_Call_Name_kw (ld_glob I hg hm ?_ hdb)
  have A : rdA G W ma σ H fun vs H1 => ∃ ρ1 h1 args, RVs G ρ1 H1 args vs ∧ Ag G ρ1 h1 H1 ∧ FinG G ρ1 H1 (RV G) Q (fun c d H' => W c d σ H') (g args h1) :=
    rdG_go as ag fin fun ρ1 H1 h1 xs ys st as ag r f => ⟨ρ1, h1, xs, r, ag, f⟩
  refine PySem.W.callWith_K (h₀ := X.base) I.ok.mod.kin hk (thn (ha.run pos pins s σ H _ I A) fun us s1 ⟨vs, H1, I1, r, q⟩ => ⟨I1.kIn, ?_⟩) he hpl
  obtain ⟨ρ1, h1, args, ra, ag1, f1⟩ := q
  exact c pins s1 σ H1 us vs args ρ1 h1 Q I1 r ra ag1 f1
theorem me_call0 (c : CallM X G W (.ref f) g) (hg : Gl X x) (hm : X.mg x = some (.ref f)) (hk : PySem.W.keepIn X.K (.ref f) = true) (hdb : (x == ("__debug__" : Str)) = false := by decide) : PE X (.Call (.Name x p) [] [] pos) (rdE G W (eCall g aNil)) := by
  refine ⟨fun pins s σ H Q I ⟨ρ, σi, h, as, ag, fin⟩ => ?_⟩
  refine wpAny_Call_Name_kw (ld_glob I hg hm ?_ hdb)
  exact PySem.W.callWith_K0 I.kIn hk (c pins s σ H [] [] [] ρ h Q I .nil .nil ag fin)
theorem insAt (ag : Ag G ρ h H) {n : Nat} {a : Addr} {c : Nat} {fl : List (S × VI)} (q : h[n]? = some (.ins c fl)) (e : ρ[n]? = some a) : ∃ C dx gs, G.ct c = some C ∧ H a = some (.ins C dx gs) ∧ RFs G ρ H fl gs := ag.at_ q e
theorem me_fld {cs : List Nat} {fn : S} {fs : Str} (ef : fs = toStr fn) (hF : FldOk X.K G cs fn) (he : PE X e (rdE G W me)) (hb : attributeBase e fs X.env (eval e X.env) = eval e X.env) : PE X (.Attribute e fs pos) (rdE G W (eFld cs fn me)) := by
  subst ef
  refine PE.imp' (pe_fld he hb) fun σ H Q ⟨ρ, σi, h, as, ag, fin⟩ => rdG_go as ag fin fun ρ1 H1 h1 x y st as ag r fi => ?_
  cases r with
  | @ref n a e =>
    dsimp only at fi
    cases q : h1[n]? with
    | none => rw [q] at fi; exact fi.elim
    | some ob =>
      rw [q] at fi
      cases ob with
      | ins c fl =>
        dsimp only at fi
        obtain ⟨C, dx, gs, hc, hH, rf⟩ := insAt ag q e
        have gf := RFs.getF fn rf
        cases q1 : cs.contains c with
        | false => rw [q1] at fi; exact fi.elim
        | true =>
          cases q2 : getF fn fl with
          | none => rw [q1, q2] at fi; exact fi.elim
          | some w =>
            rw [q2] at gf
            obtain ⟨z, hz, rz⟩ := gf
            rw [q1, q2] at fi
            obtain ⟨k1, k2⟩ := hF c C q1 hc
            exact ⟨a, C, dx, gs, z, rfl, hH, k1, k2, hz, fi.ok ag rz⟩
      | _ => exact fi.elim
  | _ => exact fi.elim
theorem ms_fld {cs : List Nat} {fn : S} {fs : Str} (ef : fs = toStr fn) (hF : FldOk X.K G cs fn) (ho : PE X o (rdE G W mo)) (hv : PE X v (rdE G W mv)) (hs : swapsWith v (some (.Attribute o fs pos')) pos.line X.env = pure false) : PS X (.Assign [.Attribute o fs pos'] v pos) (rdS G W (sFldM cs fn mo mv)) := by
  subst ef
  refine PS.imp' (ps_fld ho hv hs) fun D σ H ⟨ρ, σi, h, as, ag, fin⟩ => rdS_go as ag fin fun ρ1 H1 h1 y y' st as ag ry fin => rdS_go as ag fin fun ρ2 H2 h2 x x' st2 as ag r fi => ?_
  cases r with
  | @ref n a e =>
    dsimp only at fi
    cases q : h2[n]? with
    | none => rw [q] at fi; exact fi.elim
    | some ob =>
      rw [q] at fi
      cases ob with
      | ins c fl =>
        dsimp only at fi
        obtain ⟨C, dx, gs, hc, hH, rf⟩ := insAt ag q e
        cases q1 : cs.contains c && Nat.blt fl.length 1000 with
        | false => rw [q1] at fi; exact fi.elim
        | true =>
          rw [q1] at fi
          obtain ⟨q2, q3⟩ := Bool.and_eq_true_iff.mp q1
          obtain ⟨k1, k2⟩ := hF c C q2 hc
          have st3 : Stp G ρ2 H2 ρ2 (upd H2 a (.ins C dx (putF (toStr fn) y' gs))) := Stp.wr ag q e
          exact ⟨a, C, dx, gs, rfl, hH, k1, k2, by rw [← rf.length]; exact Nat.le_of_ble_eq_true q3,
            fi ρ2 _ σ st3 (ag.wr q e ⟨C, dx, _, hc, upd_same, RFs.setF fn (rf.mono st3) (ry.mono (st2.trans st3))⟩) (as.mono st3)⟩
      | _ => exact fi.elim
  | _ => exact fi.elim
end
end ML
end
section
namespace ML
open PySem L2 PyProof.Rows
section
variable {G : Gx} {W : WX} {X : Cx} {ρ : List Addr} {h : Hi} {H : Hp} {σ : L2.St} {k : Nat} {f C : Addr} {fd : FuncData} {ps : List Str} {g : MF} {x : Str} {p pos apos pos' : Pos} {e o v : Expr} {es : List Expr} {ma : MA} {me mo mv : ME}
def mkM (c : Nat) (g : MF) : MF := fun vs h => match g (.ref h.length :: vs) (h ++ [.ins c []]) with
  | .ok .non h2 => .ok (.ref h.length) h2
  | .ex c n h2 => .ex c n h2
  | _ => .err
theorem callM_make {c : Nat} (M : Mk X.K C f) (hc : G.ct c = some C) (F : FnOk X.prog X.w X.K X.mg X.base (L2.CX X.prog X.w) k f fd ps (spM G ps.length g)) (ar : Arity ps.length g) (hr : Room (k + 1) X.A) (hb : Binds X.K fd ps []) (tk : Takes X W) :
    CallM X G W (.ref C) (mkM c g) := by
  intro pins s σ H us vs args ρ h Q I r ra ag fin
  have n0 : H (s.heap.objs.size + 1) = none := I.hok.fresh (Nat.le_succ _)
  have n1 : H s.heap.objs.size = none := I.hok.fresh (Nat.le_refl _)
  have ne : s.heap.objs.size ≠ s.heap.objs.size + 1 := Nat.ne_of_lt (Nat.lt_succ_self _)
  have I2 := L2.Inv.made (C := C) I
  have st1 : Stp G ρ H ρ (upd H s.heap.objs.size (.own (s.heap.objs.size + 1))) := Stp.more n1
  have a1 : Ag G ρ h (upd H s.heap.objs.size (.own (s.heap.objs.size + 1))) := ag.more n1
  have n2 : upd H s.heap.objs.size (.own (s.heap.objs.size + 1)) (s.heap.objs.size + 1) = none := by rw [upd_ne ne.symm]; exact n0
  have st2 := Stp.new (G := G) (ρ := ρ) (o := .ins C s.heap.objs.size []) n2
  have a2 := a1.new (o := .ins C s.heap.objs.size []) (u := .ins c []) n2 ⟨C, s.heap.objs.size, [], hc, upd_same, .nil⟩
  have st := st1.trans st2
  have hx : (ρ ++ [s.heap.objs.size + 1])[h.length]? = some (s.heap.objs.size + 1) := by rw [← ag.len]; simp
  by_cases hl : (VI.ref h.length :: args).length = ps.length
  · have hsp : spM G ps.length g (.ref (s.heap.objs.size + 1) :: vs) (upd (upd H s.heap.objs.size (.own (s.heap.objs.size + 1))) (s.heap.objs.size + 1) (.ins C s.heap.objs.size [])) (fun v H2 => v = .non ∧ Q (.ref (s.heap.objs.size + 1)) H2) (WE W σ) := by
      refine ⟨_, _, _, hl, a2, .cons (.ref hx) (ra.mono st), ?_⟩
      unfold mkM at fin
      cases q : g (.ref h.length :: args) (h ++ [.ins c []]) with
      | err => rw [q] at fin; exact fin.elim
      | ex c' n h2 => rw [q] at fin; exact fun ρ' H' d C' s a hn hc => fin ρ' H' d C' (st.trans s) a hn hc
      | ok v h2 =>
        rw [q] at fin
        cases v with
        | non =>
          exact fun ρ' H' x s a rx => by
            cases rx
            exact ⟨rfl, fin ρ' H' _ (st.trans s) a (.ref (s.pre _ _ hx))⟩
        | _ => exact fin.elim
    have r2 : Vals (V.ref (s.heap.objs.size + 1) :: vs) (Value.ref (s.heap.objs.size + 1) :: us) := .cons rfl r
    have lu : ((Value.ref (s.heap.objs.size + 1) :: us) ++ []).length = ps.length := by rw [List.append_nil, ← r2.length, List.length_cons, ← ra.length]; exact hl
    have b := hb _ (Value.ref (s.heap.objs.size + 1) :: us) I2.kIn lu
    rw [List.append_nil] at b
    refine wpAny_call (make_map (f := f) I.kIn M.makes M.init (beq_iff_eq.mp M.fn) (codeAny_mono (F.run _ _ _ _ ⟨Value.ref (s.heap.objs.size + 1) :: us, []⟩ _ _ _ (WE W σ) (hr.make C us []) (I2.env0.make C us []) b r2 hsp) fun res s' hq => ?_))
    match res, hq with
    | .error e, hq => exact passAt tk σ pins _ _ e s' I2 hq
    | .ok (.ret u), hq =>
      obtain ⟨v, H', I3, rv, ev, q3⟩ := I2.after hq
      subst ev
      exact ⟨rv, ⟨V.ref (s.heap.objs.size + 1), H', I3, rfl, q3⟩⟩
  · unfold mkM at fin
    rw [ar _ _ hl] at fin
    exact fin.elim
def okM : Res VI → Res VI
  | .ok v h => .ok v h
  | _ => .err
def eProp (tbl : Nat → Option MF) (e : ME) : ME := fun σ h => (e σ h).bind fun x h1 => match x with
  | .ref n => match h1[n]? with
    | some (.ins c fs) => match tbl c with
      | some g => okM (g [.ref n] h1)
      | none => .err
    | _ => .err
  | _ => .err
def PropOk (X : Cx) (G : Gx) (tbl : Nat → Option MF) (f : S) : Prop := ∀ c C g, tbl c = some g → G.ct c = some C → Cls X.K C ∧ ∃ (p ga : Addr) (fd : FuncData) (ps : List Str) (k : Nat), PropOf X.K C (toStr f) p ga ∧ Arity ps.length g ∧
  FnOk X.prog X.w X.K X.mg X.base (L2.CX X.prog X.w) k ga fd ps (spM G ps.length g) ∧ Room (k + 1) X.A ∧ Binds X.K fd ps []
theorem me_prop {tbl : Nat → Option MF} {fn : S} {fs : Str} (ef : fs = toStr fn) (hP : PropOk X G tbl fn) (he : PE X e (rdE G W me)) (hb : attributeBase e fs X.env (eval e X.env) = eval e X.env) : PE X (.Attribute e fs pos) (rdE G W (eProp tbl me)) := by
  subst ef
  refine ⟨fun pins s σ H Q I ⟨ρ, σi, h, as, ag, fin⟩ => ?_⟩
  have A : rdE G W me σ H fun x H1 => ∃ ρ1 h1 n a c fl g, x = .ref a ∧ Ag G ρ1 h1 H1 ∧ ρ1[n]? = some a ∧ h1[n]? = some (.ins c fl) ∧ tbl c = some g ∧
      FinG G ρ1 H1 (RV G) Q (fun c d H' => W c d σ H') (okM (g [.ref n] h1)) :=
    rdG_go as ag fin fun ρ1 H1 h1 x y st as ag r fi => by
      cases r with
      | @ref n a e =>
        dsimp only at fi
        cases q : h1[n]? with
        | none => rw [q] at fi; exact fi.elim
        | some ob =>
          rw [q] at fi
          cases ob with
          | ins c fl =>
            dsimp only at fi
            cases q1 : tbl c with
            | none => rw [q1] at fi; exact fi.elim
            | some g =>
              rw [q1] at fi
              exact ⟨ρ1, h1, n, a, c, fl, g, rfl, ag, e, q, q1, fi⟩
          | _ => exact fi.elim
      | _ => exact fi.elim
  refine attr_of hb (thn (he.run pins s σ H _ I A) fun u s1 ⟨x, H1, I1, rx, ρ1, h1, n, a, c, fl, g, ex, ag1, hn, hh, ht, f1⟩ => ?_)
  subst ex
  obtain rfl : u = Value.ref a := rx
  obtain ⟨C, dx, gs, hc, hH, rf⟩ := insAt ag1 hh hn
  obtain ⟨k1, p, ga, fd, ps, k, k2, k3, k4, k5, k6⟩ := hP c C g ht hc
  have one : ([VI.ref n] : List VI).length = ps.length := by
    by_cases z : ([VI.ref n] : List VI).length = ps.length
    · exact z
    · rw [k3 _ _ z] at f1
      exact f1.elim
  refine getprop_ok I1 hH k1 k2 k4 k5 k6 (dvs := []) .nil (E := fun _ _ _ => False) (fun _ _ _ _ _ _ _ hx => ?_) ?_
  · obtain ⟨_, _, _, _, _, _, _, _, _, _, _, _, z⟩ := hx
    exact z.elim
  · refine ⟨ρ1, h1, [.ref n], one, ag1, .cons (.ref hn) .nil, ?_⟩
    cases q : g [.ref n] h1 with
    | err => rw [q] at f1; exact f1.elim
    | ex c n h2 => rw [q] at f1; exact f1.elim
    | ok v h2 => rw [q] at f1; exact f1
end
end ML
end
section
namespace ML
open PySem L2
theorem PE.dispatch {X : Cx} {e : Expr} {t : TE} (h : ∀ σ H Q, t σ H Q → ∃ t', PE X e t' ∧ t' σ H Q) : PE X e t := ⟨fun pins s σ H Q I q => let ⟨_, p, q'⟩ := h σ H Q q; p.run pins s σ H Q I q'⟩
theorem PS.dispatch {X : Cx} {e : Stmt} {t : TS} (h : ∀ D σ H, t D σ H → ∃ t', PS X e t' ∧ t' D σ H) : PS X e t := ⟨fun pins s σ H D I q => let ⟨_, p, q'⟩ := h D σ H q; p.run pins s σ H D I q'⟩
abbrev OpC := List VI → Hi → Option (VI × Hi)
def rdC (G : Gx) (f : OpC) : List V → Hp → VK → Prop := fun xs H Q => ∃ ρ h args, Ag G ρ h H ∧ RVs G ρ H args xs ∧ FinO G ρ H (RV G) Q (f args h)
def eCB (f : OpC) (ma : MA) : ME := fun σ h => (ma σ h).bind fun vs h1 => ofO (f vs h1)
section
variable {G : Gx} {ρ : List Addr} {h : Hi} {H : Hp} {W : WX} {X : Cx} {e a b c o i : Expr} {es : List Expr} {pos p pos' apos : Pos} {me mi mo ma mb mv : ME} {mr : MA} {f : OpC} {x : Str} {id T : String}
theorem callR_at {fv : Value} (h : ∀ ρ h H args xs Q, Ag G ρ h H → RVs G ρ H args xs → FinO G ρ H (RV G) Q (f args h) → ∃ r, CallR X fv r ∧ r xs H Q) : CallR X fv (rdC G f) :=
  fun pins s σ H xs us Q I r ⟨ρ, hi, args, ag, ra, q⟩ => by
    obtain ⟨r', ho, hr⟩ := h ρ hi H args xs Q ag ra q
    exact ho pins s σ H xs us Q I r hr
theorem me_cb (hc : CallR X (.builtin id) (rdC G f)) (hg : Gl X x) (hm : X.mg x = none) (hv : bootBuiltins x = some (.builtin id)) (ha : PA X (e :: es) (rdA G W mr)) (hn : x ≠ "__name__" := by decide) (hdb : (x == ("__debug__" : Str)) = false := by decide)
    (he : starEach (e :: es) X.env = (false, eval e X.env) :: starEach es X.env := by rfl) (hpl : (backTo pos (starEach es X.env)).any (·.1) = false := by rfl) : PE X (.Call (.Name x p) (e :: es) [] pos) (rdE G W (eCB f mr)) :=
  PE.imp' (pe_callB hc hg hm hv ha hn hdb he hpl) fun σ H Q ⟨ρ, σi, h, as, ag, fin⟩ => rdG_go as ag fin fun ρ1 H1 h1 vs ys st as ag r fi => ⟨ρ1, h1, vs, ag, r, FinO.of fi⟩
def cLen : OpC := fun vs h => match vs with
  | [.tup xs] => some (.int xs.length, h)
  | [.str s] => match small s.length with
    | true => some (.int s.length, h)
    | false => none
  | [.ref n] => match h[n]? with
    | some (.lst xs) => some (.int xs.length, h)
    | some (.scr xs) => some (.int xs.length, h)
    | some (.dic kvs) => some (.int kvs.length, h)
    | _ => none
  | _ => none
def cInt : OpC := fun vs h => match vs with
  | [.int i] => some (.int i, h)
  | [.bl b] => some (.int (if b then 1 else 0), h)
  | _ => none
def cMax : OpC := fun vs h => match vs with
  | [.int i, .int j] => some (.int (if j > i then j else i), h)
  | _ => none
def cMin : OpC := fun vs h => match vs with
  | [.int i, .int j] => some (.int (if j < i then j else i), h)
  | _ => none
def cList : OpC := fun vs h => match vs with
  | [.tup xs] => some (.ref h.length, h ++ [.lst xs])
  | [.ref n] => match h[n]? with
    | some (.lst xs) => some (.ref h.length, h ++ [.lst xs])
    | some (.scr xs) => some (.ref h.length, h ++ [.lst xs])
    | some (.dic kvs) => some (.ref h.length, h ++ [.lst (kvs.map (·.1))])
    | _ => none
  | _ => none
theorem RK.rv {a : VI} {k : Key} (r : RK a k) {H : Hp} {ρ : List Addr} : RV G ρ H a (kV k) := by
  cases a with
  | int i => cases r; exact .int i
  | str s => cases r; exact .str rfl
  | _ => exact r.elim
theorem RKs.keys {ρ : List Addr} {H : Hp} : ∀ {kvs : List (VI × VI)} {ks : List (Key × V)}, RKs G ρ H kvs ks → RVs G ρ H (kvs.map (·.1)) (ks.map fun kv => kV kv.1)
  | _, _, .nil => .nil
  | _, _, .cons e _ t => .cons (RK.rv e) (RKs.keys t)
def cTuple : OpC := fun vs h => match vs with
  | [.tup xs] => some (.tup xs, h)
  | [.ref n] => match h[n]? with
    | some (.lst xs) => some (.tup xs, h)
    | some (.scr xs) => some (.tup xs, h)
    | _ => none
  | _ => none
def cDict : OpC := fun vs h => match vs with
  | [.ref n] => match h[n]? with
    | some (.dic kvs) => some (.ref h.length, h ++ [.dic kvs])
    | _ => none
  | _ => none
end
end ML
end
section
namespace ML
open PySem L2
def keyEq : VI → VI → Bool
  | .int i, .int j => decide (i = j)
  | .str s, .str t => decide (s = t)
  | _, _ => false
def isKey : VI → Bool
  | .int _ => true
  | .str _ => true
  | _ => false
def getD (k : VI) : List (VI × VI) → Option VI
  | [] => none
  | (a, v) :: r => match keyEq a k with
    | true => some v
    | false => getD k r
def hasD (k : VI) : List (VI × VI) → Bool
  | [] => false
  | (a, _) :: r => match keyEq a k with
    | true => true
    | false => hasD k r
def repD (k v : VI) : List (VI × VI) → List (VI × VI)
  | [] => []
  | (a, x) :: r => match keyEq a k with
    | true => (a, v) :: repD k v r
    | false => (a, x) :: repD k v r
def putD (k v : VI) (d : List (VI × VI)) : List (VI × VI) := match hasD k d with
  | true => repD k v d
  | false => d ++ [(k, v)]
theorem keyEq_ok {a b : VI} {k l : Key} (ra : RK a k) (rb : RK b l) : keyEq a b = decide (k = l) := by
  cases a with
  | int i =>
    cases ra
    cases b with
    | int j => cases rb; simp [keyEq]
    | str t => cases rb; simp [keyEq]
    | _ => exact rb.elim
  | str s =>
    cases ra
    cases b with
    | int j => cases rb; simp [keyEq]
    | str t =>
      cases rb
      unfold keyEq
      by_cases e : s = t
      · subst e; simp
      · have : ¬ toStr s = toStr t := fun z => e (toStr_inj z)
        simp [e, this]
    | _ => exact rb.elim
  | _ => exact ra.elim
section
variable {G : Gx} {ρ : List Addr} {H : Hp}
theorem RKs.getD {b : VI} {l : Key} (rb : RK b l) : ∀ {kvs : List (VI × VI)} {ks : List (Key × V)}, RKs G ρ H kvs ks → match ML.getD b kvs with
    | some v => ∃ x, valV ks l = some x ∧ RV G ρ H v x
    | none => valV ks l = none
  | _, _, .nil => rfl
  | _, _, .cons (a := a) (k := k) (as := as) (ks := ks) e h t => by
    unfold ML.getD
    rw [keyEq_ok e rb]
    by_cases q : k = l
    · rw [decide_eq_true q]
      exact ⟨_, valV_pos q, h⟩
    · rw [decide_eq_false q]
      have ih := RKs.getD rb t
      rw [valV_neg q]
      exact ih
theorem RKs.hasD {b : VI} {l : Key} (rb : RK b l) : ∀ {kvs : List (VI × VI)} {ks : List (Key × V)}, RKs G ρ H kvs ks → ML.hasD b kvs = ks.any fun kv => decide (kv.1 = l)
  | _, _, .nil => rfl
  | _, _, .cons (a := a) (k := k) (as := as) (ks := ks) e h t => by
    unfold ML.hasD
    rw [keyEq_ok e rb, List.any_cons]
    by_cases q : k = l
    · rw [decide_eq_true q]
      rfl
    · rw [decide_eq_false q, Bool.false_or]
      exact RKs.hasD rb t
theorem RKs.repD {b v : VI} {x : V} {l : Key} (rb : RK b l) (rv : RV G ρ H v x) : ∀ {kvs : List (VI × VI)} {ks : List (Key × V)}, RKs G ρ H kvs ks → RKs G ρ H (ML.repD b v kvs) (ks.map fun kv => if kv.1 = l then (kv.1, x) else kv)
  | _, _, .nil => .nil
  | _, _, .cons (a := a) (k := k) (as := as) (ks := ks) e h t => by
    unfold ML.repD
    rw [keyEq_ok e rb, List.map_cons]
    by_cases q : k = l
    · rw [decide_eq_true q, if_pos q]
      exact .cons e rv (RKs.repD rb rv t)
    · rw [decide_eq_false q, if_neg q]
      exact .cons e h (RKs.repD rb rv t)
theorem RKs.snoc {b v : VI} {x : V} {l : Key} (rb : RK b l) (rv : RV G ρ H v x) : ∀ {kvs : List (VI × VI)} {ks : List (Key × V)}, RKs G ρ H kvs ks → RKs G ρ H (kvs ++ [(b, v)]) (ks ++ [(l, x)])
  | _, _, .nil => .cons rb rv .nil
  | _, _, .cons e h t => .cons e h (RKs.snoc rb rv t)
theorem RKs.putD {b v : VI} {x : V} {l : Key} (rb : RK b l) (rv : RV G ρ H v x) {kvs : List (VI × VI)} {ks : List (Key × V)} (r : RKs G ρ H kvs ks) : RKs G ρ H (ML.putD b v kvs) (putK ks l x) := by
  unfold ML.putD putK
  rw [r.hasD rb]
  cases ks.any fun kv => decide (kv.1 = l) with
  | true => rw [if_pos rfl]; exact r.repD rb rv
  | false => rw [if_neg Bool.false_ne_true]; exact r.snoc rb rv
theorem RV.key {b : VI} {y : V} (r : RV G ρ H b y) (hk : isKey b = true) : ∃ k, RK b k ∧ y = kV k := by
  cases r with
  | int i => exact ⟨.inl i, rfl, rfl⟩
  | str e => exact ⟨.inr _, rfl, by rw [e]; rfl⟩
  | _ => cases hk
end
def ixI (n : Nat) (i : Int) : Option Nat := if 0 ≤ i then (if i < n then some i.toNat else none) else if -(n : Int) ≤ i then some (i + n).toNat else none
def ixL (xs : List VI) (i : Int) : Option VI := match ixI xs.length i with
  | some j => xs[j]?
  | none => none
def fIx : Op2 := fun x y h => match x with
  | .tup xs => match y with
    | .int i => match ixL xs i with
      | some v => some (v, h)
      | none => none
    | _ => none
  | .ref n => match h[n]? with
    | some (.lst xs) => match y with
      | .int i => match ixL xs i with
        | some v => some (v, h)
        | none => none
      | _ => none
    | some (.scr xs) => match y with
      | .int i => match ixL xs i with
        | some v => some (v, h)
        | none => none
      | _ => none
    | some (.dic kvs) => match isKey y, getD y kvs with
      | true, some v => some (v, h)
      | _, _ => none
    | _ => none
  | _ => none
section
variable {G : Gx} {ρ : List Addr} {h : Hi} {H : Hp} {W : WX} {X : Cx} {e a b c o i v : Expr} {es : List Expr} {pos p pos' apos : Pos} {me mi mo ma mb mv : ME} {mr : MA}
theorem ixI_eq (n : Nat) (i : Int) : ixI n i = ixN n i := rfl
theorem RVs.ixL {xs : List VI} {ys : List V} {i : Int} {v : VI} (r : RVs G ρ H xs ys) (e : ML.ixL xs i = some v) : ∃ y, atI ys i = some y ∧ RV G ρ H v y := by
  unfold ML.ixL at e
  rw [ixI_eq, r.length] at e
  cases q : ixN ys.length i with
  | none => rw [q] at e; cases e
  | some j =>
    rw [q] at e
    obtain ⟨y, hy, ry⟩ := r.get e
    exact ⟨y, by unfold atI; rw [q]; exact hy, ry⟩
inductive IxK (X : Cx) (H : Hp) (x y : V) (Q : VK) : Prop
  | ix (r : R2) (h : IxR X r) (q : r x y H Q)
  | dict (a : Addr) (v : V) (e : x = .ref a) (g : DGet H a y (some v)) (q : Q v H)
end
end ML
end
section
namespace ML
open PySem L2
def putIx (o i v : VI) (h : Hi) : Option Hi := match o with
  | .ref n => match h[n]? with
    | some (.lst xs) => match i with
      | .int k => match ixI xs.length k with
        | some j => some (h.set n (.lst (xs.set j v)))
        | none => none
      | _ => none
    | some (.dic kvs) => match isKey i && small (kvs.length + 1) with
      | true => some (h.set n (.dic (putD i v kvs)))
      | false => none
    | _ => none
  | _ => none
def nxO (σ : Sg) : Option Hi → RS
  | some h => .nx σ h
  | none => .err
def gIx (o i : ME) : MG := fun v σ h => (o σ h).bindS σ fun x h1 => (i σ h1).bindS σ fun y h2 => nxO σ (putIx x y v h2)
section
variable {G : Gx} {ρ : List Addr} {h : Hi} {H : Hp} {W : WX} {X : Cx} {e a b c o i v : Expr} {es : List Expr} {pos p pos' apos cpos : Pos} {me mi mo ma mb mv : ME} {mr : MA}
theorem small_lt {n : Nat} (h : small (n + 1) = true) : n < sizeLine := small_ok h
def gFld (cs : List Nat) (f : S) (o : ME) : MG := fun y σ h => (o σ h).bindS σ fun x h2 => match x with
  | .ref n => match h2[n]? with
    | some (.ins c fs) => match cs.contains c && Nat.blt fs.length 1000 with
      | true => .nx σ (h2.set n (.ins c (setF f y fs)))
      | false => .err
    | _ => .err
  | _ => .err
def sPut (o i v : ME) : MS := fun σ h => (v σ h).bindS σ fun z h1 => (o σ h1).bindS σ fun x h2 => (i σ h2).bindS σ fun y h3 => nxO σ (putIx x y z h3)
def eGet2 (d k x : ME) : ME := fun σ h => (d σ h).bind fun a h1 => match a with
  | .ref n => match h1[n]? with
    | some (.dic _) => (k σ h1).bind fun y h2 => (x σ h2).bind fun z h3 => match h3[n]?, isKey y with
      | some (.dic kvs), true => .ok (match getD y kvs with | some v => v | none => z) h3
      | _, _ => .err
    | _ => .err
  | _ => .err
def aPairs : List (ME × ME) → Sg → Hi → Res (List (VI × VI))
  | [], _, h => .ok [] h
  | (k, v) :: r, σ, h => (k σ h).bind fun x h1 => (v σ h1).bind fun y h2 => (aPairs r σ h2).bind fun ps h3 => .ok ((x, y) :: ps) h3
def putAll (ps : List (VI × VI)) (d : List (VI × VI)) : List (VI × VI) := match ps with
  | [] => d
  | (k, v) :: r => putAll r (putD k v d)
def keysOk : List (VI × VI) → Bool
  | [] => true
  | (k, _) :: r => isKey k && keysOk r
def eDisp (ps : List (ME × ME)) : ME := fun σ h => (aPairs ps σ (h ++ [.dic []])).bind fun kvs h1 => match h1[h.length]? with
  | some (.dic []) => match keysOk kvs && Nat.ble kvs.length 15 with
    | true => .ok (.ref h.length) (h1.set h.length (.dic (putAll kvs [])))
    | false => .err
  | _ => .err
inductive RPs (G : Gx) (ρ : List Addr) (H : Hp) : List (VI × VI) → List (V × V) → Prop
  | nil : RPs G ρ H [] []
  | cons {a b : VI} {x y : V} {as : List (VI × VI)} {xs : List (V × V)} (h1 : RV G ρ H a x) (h2 : RV G ρ H b y) (t : RPs G ρ H as xs) : RPs G ρ H ((a, b) :: as) ((x, y) :: xs)
theorem RPs.mono {ρ' : List Addr} {H' : Hp} (st : Stp G ρ H ρ' H') : ∀ {as : List (VI × VI)} {xs : List (V × V)}, RPs G ρ H as xs → RPs G ρ' H' as xs
  | _, _, .nil => .nil
  | _, _, .cons h1 h2 t => .cons (h1.mono st) (h2.mono st) (RPs.mono st t)
theorem RPs.keys : ∀ {as : List (VI × VI)} {xs : List (V × V)}, RPs G ρ H as xs → keysOk as = true → ∃ kvs : List (Key × V), xs = kvs.map (fun kv => (kV kv.1, kv.2)) ∧ RKs G ρ H as kvs
  | _, _, .nil, _ => ⟨[], rfl, .nil⟩
  | _, _, .cons h1 h2 t, k => by
    obtain ⟨k1, k2⟩ := Bool.and_eq_true_iff.mp k
    obtain ⟨l, rk, e⟩ := h1.key k1
    obtain ⟨kvs, e2, r⟩ := RPs.keys t k2
    subst e e2
    exact ⟨(l, _) :: kvs, rfl, .cons rk h2 r⟩
theorem RKs.putAll : ∀ {as : List (VI × VI)} {kvs : List (Key × V)} {d : List (VI × VI)} {ks : List (Key × V)}, RKs G ρ H as kvs → RKs G ρ H d ks → RKs G ρ H (ML.putAll as d) (mergeK ks kvs)
  | _, _, _, _, .nil, r => r
  | _, _, _, _, .cons (k := k) (x := x) e h t, r => by
    unfold ML.putAll
    have q := RKs.putAll t (RKs.putD e h r)
    exact q
def eDisp0 : ME := fun _ h => .ok (.ref h.length) (h ++ [.dic []])
end
end ML
end
section
namespace ML
open PySem L2
inductive Itm where
  | tup (xs : List VI) | lst (n : Nat) | rng (lo : Int) (k : Nat) | enl (n : Nat) | zip (a b : Nat) | zlt (a : Nat) (ys : List VI)
def listAt (n : Nat) (h : Hi) : Option (List VI) := match h[n]? with
  | some (.lst xs) => some xs
  | some (.scr xs) => some xs
  | _ => none
def Itm.nxt (it : Itm) (i : Nat) (h : Hi) : Option (Option VI) := match it with
  | .tup xs => some xs[i]?
  | .lst n => match listAt n h with
    | some xs => some xs[i]?
    | none => none
  | .rng lo k => some (match Nat.blt i k with
    | true => some (.int (lo + i))
    | false => none)
  | .enl n => match listAt n h with
    | some xs => some (match xs[i]? with
      | some x => some (.tup [.int i, x])
      | none => none)
    | none => none
  | .zip a b => match listAt a h, listAt b h with
    | some xs, some ys => some (match xs[i]?, ys[i]? with
      | some x, some y => some (.tup [x, y])
      | _, _ => none)
    | _, _ => none
  | .zlt a ys => match listAt a h with
    | some xs => match Nat.ble i xs.length && Nat.ble i ys.length with
      | true => some (match xs[i]?, ys[i]? with
        | some x, some y => some (.tup [x, y])
        | _, _ => none)
      | false => none
    | none => none
def Itm.fuel (it : Itm) (h : Hi) : Nat := match it with
  | .tup xs => xs.length
  | .lst n => match listAt n h with
    | some xs => xs.length
    | none => 0
  | .rng _ k => k
  | .enl n => match listAt n h with
    | some xs => xs.length
    | none => 0
  | .zip a _ => match listAt a h with
    | some xs => xs.length
    | none => 0
  | .zlt a _ => match listAt a h with
    | some xs => xs.length
    | none => 0
abbrev MI := Sg → Hi → Res Itm
def turns (it : Itm) (g : MG) (body : MS) : Nat → Nat → MS
  | 0, i, σ, h => match it.nxt i h with
    | some none => .nx σ h
    | _ => .err
  | k + 1, i, σ, h => match it.nxt i h with
    | some none => .nx σ h
    | some (some x) => (g x σ h).andThen fun σ1 h1 => match body σ1 h1 with
      | .nx σ2 h2 => turns it g body k (i + 1) σ2 h2
      | .ct σ2 h2 => turns it g body k (i + 1) σ2 h2
      | .bk σ2 h2 => .nx σ2 h2
      | r => r
    | none => .err
def sFor (mi : MI) (g : MG) (body : MS) : MS := fun σ h => (mi σ h).bindS σ fun it h1 => turns it g body (it.fuel h1) 0 σ h1
def ItOk (G : Gx) (ρ : List Addr) (H : Hp) (J : It) (it : Itm) : Prop := ∀ (i : Nat) (ρ1 : List Addr) (h1 : Hi) (H1 : Hp), Stp G ρ H ρ1 H1 → Ag G ρ1 h1 H1 → match it.nxt i h1 with
  | none => True
  | some none => J.stop i H1
  | some (some v) => J.go i H1 ∧ ∀ x H2, J.yld i H1 x H2 → Stp G ρ1 H1 ρ1 H2 ∧ Ag G ρ1 h1 H2 ∧ RV G ρ1 H2 v x
def rdI (G : Gx) (W : WX) (mi : MI) : TI := fun σ H R => ∃ ρ σi h, AgS G ρ H σi σ ∧ Ag G ρ h H ∧ match mi σi h with
  | .ok it h1 => ∀ ρ1 H1 J, Stp G ρ H ρ1 H1 → Ag G ρ1 h1 H1 → ItOk G ρ1 H1 J it → R J H1
  | .ex c n h1 => ∀ ρ' H' d C, Stp G ρ H ρ' H' → Ag G ρ' h1 H' → ρ'[n]? = some d → G.ct c = some C → W (.ref C) (some d) σ H'
  | .err => False
section
variable {G : Gx} {W : WX} {X : Cx} {ρ ρ1 : List Addr} {H H1 : Hp} {σ : L2.St} {σi : Sg} {h : Hi} {D : Ends} {tg iter e : Expr} {body : List Stmt} {pos p : Pos} {me : ME} {mi : MI} {mg : MG} {mb : MS} {ma : MA}
theorem rdI_go {k : Itm → Hi → RS} {N : It → Hp → Prop} (as : AgS G ρ H σi σ) (a : Ag G ρ h H) (f : FinS G ρ H D W ((mi σi h).bindS σi k))
    (nx : ∀ ρ1 H1 h1 it J, Stp G ρ H ρ1 H1 → AgS G ρ1 H1 σi σ → Ag G ρ1 h1 H1 → ItOk G ρ1 H1 J it → FinS G ρ1 H1 D W (k it h1) → N J H1) : rdI G W mi σ H N := by
  refine ⟨ρ, σi, h, as, a, ?_⟩
  cases e : mi σi h with
  | err => rw [e] at f; exact f
  | ex c n h' =>
    rw [e] at f
    exact fun ρ' H' d C st a' hn hc => f ρ' H' d C σ st a' (as.mono st) hn hc
  | ok it h' =>
    rw [e] at f
    exact fun ρ' H' J st a' io => nx ρ' H' h' it J st (as.mono st) a' io (FinS.later st f)
theorem ItOk.later {J : It} {it : Itm} (st : Stp G ρ H ρ1 H1) (o : ItOk G ρ H J it) : ItOk G ρ1 H1 J it := fun i ρ2 h2 H2 s a => o i ρ2 h2 H2 (st.trans s) a
theorem ms_for (hp : PassesOwn (model X.prog X.w) X.A X.env X.xe) (hc : X.calm = true) (hi : PI X tg iter (rdI G W mi)) (hg : PG X tg (rdGt G W mg)) (on : OnlyNx mg) (hb : PSs X body (rdS G W mb))
    (hs : ∀ x, foldedSetIterable iter X.env x = pure x := by intro _; rfl) : PS X (.For tg iter body [] pos) (rdS G W (sFor mi mg mb)) :=
  PS.imp' (ps_for hp hc hi hg hb hs) fun D σ H ⟨ρ, σi, h, as, ag, fin⟩ => rdI_go as ag fin fun ρ1 H1 h1 it J st as1 ag1 io fi => by
    refine ⟨fun i m σ2 H2 => ∃ ρ2 σi2 h2, Stp G ρ1 H1 ρ2 H2 ∧ AgS G ρ2 H2 σi2 σ2 ∧ Ag G ρ2 h2 H2 ∧ FinS G ρ2 H2 D W (turns it mg mb m i σi2 h2), ⟨_, ρ1, σi, h1, .refl, as1, ag1, fi⟩, ?_⟩
    rintro i m σ2 H2 ⟨ρ2, σi2, h2, st2, as2, ag2, f2⟩
    have ok := io i ρ2 h2 H2 st2 ag2
    cases q : it.nxt i h2 with
    | none =>
      cases m with
      | zero => unfold turns at f2; rw [q] at f2; exact f2.elim
      | succ k => unfold turns at f2; rw [q] at f2; exact f2.elim
    | some o =>
      rw [q] at ok
      cases o with
      | none =>
        refine .inl ⟨ok, ?_⟩
        cases m with
        | zero => unfold turns at f2; rw [q] at f2; exact f2.nx ag2 as2
        | succ k => unfold turns at f2; rw [q] at f2; exact f2.nx ag2 as2
      | some v =>
        cases m with
        | zero => unfold turns at f2; rw [q] at f2; exact f2.elim
        | succ k =>
          unfold turns at f2
          rw [q] at f2
          dsimp only at f2
          obtain ⟨go, yl⟩ := ok
          refine .inr ⟨go, fun σ' H' => ∃ ρ2 σi2 h2, Stp G ρ1 H1 ρ2 H' ∧ AgS G ρ2 H' σi2 σ' ∧ Ag G ρ2 h2 H' ∧ FinS G ρ2 H' D W (turns it mg mb k (i + 1) σi2 h2), fun σ' H' w => ⟨k, Nat.lt_succ_self k, w⟩, fun x H3 y => ?_⟩
          obtain ⟨st3, ag3, rv⟩ := yl x H3 y
          refine ⟨ρ2, σi2, h2, v, as2.mono st3, ag3, rv, ?_⟩
          have f3 := FinS.later st3 f2
          have st13 := st2.trans st3
          rcases on v σi2 h2 with ⟨σ4, h4, e⟩ | ⟨c, n, σ4, h4, e⟩ | e
          · rw [e] at f3 ⊢
            refine fun ρ4 H4 σ5 s4 a4 as4 => ⟨ρ4, σ4, h4, as4, a4, ?_⟩
            have f4 := FinS.later s4 f3
            have st14 := st13.trans s4
            dsimp only [RS.andThen] at f4
            cases e5 : mb σ4 h4 with
            | nx σ6 h6 => rw [e5] at f4; exact fun ρ' H' σ' s a as => ⟨ρ', σ6, h6, st14.trans s, as, a, FinS.later s f4⟩
            | ct σ6 h6 => rw [e5] at f4; exact fun ρ' H' σ' s a as => ⟨ρ', σ6, h6, st14.trans s, as, a, FinS.later s f4⟩
            | bk σ6 h6 => rw [e5] at f4; exact f4
            | rt v6 h6 => rw [e5] at f4; exact f4
            | ex c6 n6 σ6 h6 => rw [e5] at f4; exact f4
            | err => rw [e5] at f4; exact f4
          · rw [e] at f3 ⊢; exact f3
          · rw [e] at f3 ⊢; exact f3
theorem PI.dispatch {t : TI} (h : ∀ σ H Q, t σ H Q → ∃ t', PI X tg iter t' ∧ t' σ H Q) : PI X tg iter t := ⟨fun pins s σ H Q I q => let ⟨_, p, q'⟩ := h σ H Q q; p.run pins s σ H Q I q'⟩
theorem PI.imp' {t t' : TI} (h : PI X tg iter t) (i : ∀ σ H Q, t' σ H Q → t σ H Q) : PI X tg iter t' := ⟨fun pins s σ H Q I q => h.run pins s σ H Q I (i σ H Q q)⟩
def seqOf : VI → Hi → Option Itm := fun v h => match v with
  | .tup xs => some (.tup xs)
  | .ref n => match listAt n h with
    | some _ => some (.lst n)
    | none => none
  | _ => none
def ofI : Option Itm → Hi → Res Itm
  | some it, h => .ok it h
  | none, _ => .err
def iSeq (e : ME) : MI := fun σ h => (e σ h).bind fun v h1 => ofI (seqOf v h1) h1
theorem listAt_ok (K : PySem.W.Frag) (ag : Ag G ρ h H) {n : Nat} {a : Addr} {xs : List VI} (e : listAt n h = some xs) (p : ρ[n]? = some a) : ∃ ys, SqL K H a ys ∧ RVs G ρ H xs ys := by
  unfold listAt at e
  cases q : h[n]? with
  | none => rw [q] at e; cases e
  | some ob =>
    rw [q] at e
    cases ob with
    | lst zs => cases e; obtain ⟨ys, hy, rs⟩ := ag.at_ q p; exact ⟨ys, .inl (.inl hy), rs⟩
    | scr zs => cases e; obtain ⟨ob, ys, hy, rs⟩ := ag.at_ q p; exact ⟨ys, .inl (.inr ⟨_, hy⟩), rs⟩
    | _ => cases e
theorem itOk_lst (hG : G.K = X.K) {n : Nat} {a : Addr} (p : ρ[n]? = some a) : ItOk G ρ H (Itl X.K a) (.lst n) := fun i ρ1 h1 H1 st ag => by
  unfold Itm.nxt
  dsimp only
  cases q : listAt n h1 with
  | none => trivial
  | some xs =>
    obtain ⟨ys, hy, rs⟩ := listAt_ok X.K ag q (st.pre _ _ p)
    dsimp only
    cases q2 : xs[i]? with
    | none =>
      have : xs.length ≤ i := List.getElem?_eq_none_iff.mp q2
      exact ⟨ys, hy, by rw [← rs.length]; exact this⟩
    | some v =>
      obtain ⟨y, hy2, ry⟩ := rs.get q2
      refine ⟨⟨ys, y, hy, hy2⟩, fun x H2 ⟨e, k⟩ => ?_⟩
      subst e
      have := k ys hy
      rw [hy2] at this
      cases this
      exact ⟨.refl, ag, ry⟩
theorem itOk_tup (hG : G.K = X.K) {a : Addr} {xs : List VI} {ys : List V} (t : SqT G.K H a ys) (rs : RVs G ρ H xs ys) : ItOk G ρ H (Itt X.K a) (.tup xs) := fun i ρ1 h1 H1 st ag => by
  unfold Itm.nxt
  have t1 := st.tup _ _ t
  rw [hG] at t1
  have rs1 := rs.mono st
  dsimp only
  cases q2 : xs[i]? with
  | none =>
    have : xs.length ≤ i := List.getElem?_eq_none_iff.mp q2
    exact ⟨ys, t1, by rw [← rs.length]; exact this⟩
  | some v =>
    obtain ⟨y, hy2, ry⟩ := rs1.get q2
    refine ⟨⟨ys, y, t1, hy2⟩, fun x H2 ⟨e, k⟩ => ?_⟩
    subst e
    have := k ys t1
    rw [hy2] at this
    cases this
    exact ⟨.refl, ag, ry⟩
theorem itOk_rng {lo : Int} {k : Nat} : ItOk G ρ H (Itr lo k) (.rng lo k) := fun i ρ1 h1 H1 st ag => by
  unfold Itm.nxt
  dsimp only
  cases q : Nat.blt i k with
  | true => exact ⟨Nat.le_of_ble_eq_true q, fun x H2 ⟨e, z⟩ => by subst e z; exact ⟨.refl, ag, .int _⟩⟩
  | false =>
    refine Nat.le_of_not_lt fun z => ?_
    have : Nat.blt i k = true := Nat.ble_eq_true_of_le z
    rw [q] at this
    cases this
theorem mi_seq (hG : G.K = X.K) (he : PE X e (rdE G W me)) : PI X tg e (rdI G W (iSeq me)) := PI.dispatch fun σ H R ⟨ρ, σi, h, as, ag, fin⟩ => by
  unfold iSeq at fin
  cases q : me σi h with
  | err => rw [q] at fin; exact fin.elim
  | ex c n h1 =>
    rw [q] at fin
    exact ⟨_, pi_list he, ρ, σi, h, as, ag, by rw [q]; exact fin⟩
  | ok v h1 =>
    rw [q] at fin
    dsimp only [Res.bind] at fin
    cases v with
    | tup xs =>
      refine ⟨_, pi_tup he, ρ, σi, h, as, ag, ?_⟩
      rw [q]
      intro ρ1 H1 x st a1 r
      cases r with
      | @tup _ ys a t rs => exact ⟨a, rfl, ⟨ys, hG ▸ t⟩, fin ρ1 H1 _ st a1 (itOk_tup hG t rs)⟩
    | ref n =>
      unfold seqOf at fin
      dsimp only at fin
      cases q2 : listAt n h1 with
      | none => rw [q2] at fin; exact fin.elim
      | some xs =>
        rw [q2] at fin
        refine ⟨_, pi_list he, ρ, σi, h, as, ag, ?_⟩
        rw [q]
        intro ρ1 H1 x st a1 r
        cases r with
        | @ref _ a p =>
          obtain ⟨ys, hy, rs⟩ := listAt_ok X.K a1 q2 p
          exact ⟨a, rfl, ⟨ys, hy⟩, fin ρ1 H1 _ st a1 (itOk_lst hG p)⟩
    | _ => exact fin.elim
def rngOf : List VI → Option Itm
  | [.int j] => match decide (-(2 ^ 62) ≤ j) && decide (j < 2 ^ 62) with
    | true => some (.rng 0 j.toNat)
    | false => none
  | [.int i, .int j] => match (decide (-(2 ^ 62) ≤ i) && decide (i < 2 ^ 62)) && (decide (-(2 ^ 62) ≤ j) && decide (j < 2 ^ 62)) with
    | true => some (.rng i (j - i).toNat)
    | false => none
  | _ => none
def iRng (a : MA) : MI := fun σ h => (a σ h).bind fun vs h1 => ofI (rngOf vs) h1
theorem mi_rng1 {a : Expr} {mr : MA} (hg : Gl X "range") (hm : X.mg "range" = none) (ha : PA X [a] (rdA G W mr)) (hs : starEach [a] X.env = [(false, eval a X.env)] := by rfl) (one : ∀ σ h vs h1, mr σ h = .ok vs h1 → vs.length = 1) : PI X tg (.Call (.Name "range" p) [a] [] pos) (rdI G W (iRng mr)) :=
  PI.imp' (pi_range1 hg hm ha hs) fun σ H R ⟨ρ, σi, h, as, ag, fin⟩ => by
    refine ⟨ρ, σi, h, as, ag, ?_⟩
    unfold iRng at fin
    cases q : mr σi h with
    | err => rw [q] at fin; exact fin.elim
    | ex c n h1 => rw [q] at fin; exact fin
    | ok vs h1 =>
      rw [q] at fin
      have l := one _ _ _ _ q
      intro ρ1 H1 xs st a1 r
      match vs, l, r, fin with
      | [v], _, .cons r .nil, fin =>
        cases r with
        | int j =>
          dsimp only [Res.bind, rngOf] at fin
          cases z : decide (-(2 ^ 62) ≤ j) && decide (j < 2 ^ 62) with
          | false => rw [z] at fin; exact fin.elim
          | true =>
            rw [z] at fin
            obtain ⟨z1, z2⟩ := Bool.and_eq_true_iff.mp z
            exact ⟨j, rfl, of_decide_eq_true z1, of_decide_eq_true z2, fin ρ1 H1 _ st a1 itOk_rng⟩
        | _ => exact fin.elim
end
end ML
end
section
namespace ML
open PySem L2
inductive Tgt where
  | one (i : Nat) | many (is : List Nat)
def putMany : List Nat → List VI → Sg → Option Sg
  | [], [], σ => some σ
  | i :: is, x :: xs, σ => putMany is xs (σ.set i (some x))
  | _, _, _ => none
def Tgt.put (t : Tgt) (v : VI) (σ : Sg) : Option Sg := match t with
  | .one i => some (σ.set i (some v))
  | .many is => match v with
    | .tup xs => putMany is xs σ
    | _ => none
def Tgt.slots : Tgt → List Nat
  | .one i => [i]
  | .many is => is
def gTgt (t : Tgt) : MG := fun v σ h => match t.put v σ with
  | some σ' => .nx σ' h
  | none => .err
def gNames : List Nat → TGs
  | [] => gNil
  | i :: is => gCons (gName i) (gNames is)
def Tgt.tg (K : PySem.W.Frag) : Tgt → TG
  | .one i => gName i
  | .many is => gTup K is.length (gNames is)
def wipeM (σ : Sg) : List Nat → Sg
  | [] => σ
  | i :: r => (wipeM σ r).set i none
section
variable {G : Gx} {ρ : List Addr} {H : Hp} {h : Hi} {X : Cx} {W : WX} {σ : L2.St} {σi : Sg}
theorem names_put : ∀ {is : List Nat} {xs : List VI} {ys : List V} {σi σ2 : Sg} {σ : L2.St} {N : L2.St → Hp → Prop}, AgS G ρ H σi σ → RVs G ρ H xs ys → putMany is xs σi = some σ2 →
    (∀ σ', AgS G ρ H σ2 σ' → (∀ j, j ∉ is → σ'[j]? = σ[j]?) → σ'.length = σ.length → N σ' H) → gNames is ys σ H N
  | [], [], _, σi, σ2, σ, N, as, .nil, e, k => by
    cases e
    exact ⟨rfl, k σ as (fun _ _ => rfl) rfl⟩
  | i :: is, x :: xs, _, σi, σ2, σ, N, as, .cons r rs, e, k => by
    refine ⟨_, _, rfl, ?_⟩
    show gNames is _ _ H N
    refine names_put (as.set r i) rs e fun σ' as' hj hl => k σ' as' (fun j hj' => ?_) (by rw [hl, List.length_set])
    rw [hj j (fun z => hj' (List.mem_cons_of_mem _ z))]
    rw [List.getElem?_set_ne (fun z => hj' (by rw [← z]; exact List.mem_cons_self))]
  | [], _ :: _, _, _, _, _, _, _, _, e, _ => by cases e
  | _ :: _, [], _, _, _, _, _, _, _, e, _ => by cases e
theorem tgt_put (hG : G.K = X.K) {t : Tgt} {v : VI} {x : V} {σ2 : Sg} {N : L2.St → Hp → Prop} (as : AgS G ρ H σi σ) (r : RV G ρ H v x) (e : t.put v σi = some σ2)
    (k : ∀ σ', AgS G ρ H σ2 σ' → (∀ j, j ∉ t.slots → σ'[j]? = σ[j]?) → σ'.length = σ.length → N σ' H) : t.tg X.K x σ H N := by
  cases t with
  | one i =>
    cases e
    exact k _ (as.set r i) (fun j hj => List.getElem?_set_ne (fun z => hj (by rw [← z]; exact List.mem_cons_self))) (List.length_set ..)
  | many is =>
    cases r with
    | @tup xs ys a t rs =>
      have e' : putMany is xs σi = some σ2 := e
      refine ⟨a, ys, rfl, hG ▸ t, ?_, names_put as rs e' k⟩
      have : ∀ {is : List Nat} {xs : List VI} {σi σ2 : Sg}, putMany is xs σi = some σ2 → xs.length = is.length := fun {is} => by
        induction is with
        | nil => intro xs σi σ2 q; cases xs with | nil => rfl | cons _ _ => cases q
        | cons i r ih => intro xs σi σ2 q; cases xs with | nil => cases q | cons y ys => rw [List.length_cons, List.length_cons, ih q]
      rw [← rs.length]
      exact this e'
    | _ => cases e
theorem AgS.wipe : ∀ (vs : List Nat) {σi : Sg} {σ : L2.St}, AgS G ρ H σi σ → AgS G ρ H (wipeM σi vs) (L2.wipe σ vs)
  | [], _, _, a => a
  | i :: r, _, _, a => (AgS.wipe r a).lose i none
theorem wipe_in : ∀ (vs : List Nat) (σ : L2.St) (j : Nat), j ∈ vs → (L2.wipe σ vs)[j]? = if j < σ.length then some none else none
  | i :: r, σ, j, hj => by
    show ((L2.wipe σ r).set i none)[j]? = _
    rw [List.getElem?_set, L2.wipe_length]
    by_cases z : i = j
    · subst z
      rw [if_pos rfl]
    · rw [if_neg z]
      exact wipe_in r σ j ((List.mem_cons.mp hj).resolve_left fun w => z w.symm)
theorem wipe_eq (vs : List Nat) {σ τ : L2.St} (hl : τ.length = σ.length) (k : ∀ j, j ∉ vs → τ[j]? = σ[j]?) : L2.wipe τ vs = L2.wipe σ vs := by
  refine List.ext_getElem? fun j => ?_
  by_cases z : j ∈ vs
  · rw [wipe_in vs τ j z, wipe_in vs σ j z, hl]
  · rw [L2.wipe_out z, L2.wipe_out z]
    exact k j z
end
def turnsC (it : Itm) (t : Tgt) (vs : List Nat) (tt : MT) (el : ME) (D : Nat) (σ : Sg) : Nat → Nat → Hi → Option Hi
  | 0, i, h => match it.nxt i h with
    | some none => some h
    | _ => none
  | k + 1, i, h => match it.nxt i h with
    | some none => some h
    | some (some x) => match t.put x (wipeM σ vs) with
      | some σ2 => match tt σ2 h with
        | .ok true h2 => match el σ2 h2 with
          | .ok y h3 => match h3[D]? with
            | some (.lst acc) => match small (acc.length + 1) with
              | true => turnsC it t vs tt el D σ k (i + 1) (h3.set D (.lst (acc ++ [y])))
              | false => none
            | _ => none
          | _ => none
        | .ok false h2 => turnsC it t vs tt el D σ k (i + 1) h2
        | _ => none
      | none => none
    | none => none
def tYesM : MT := fun _ h => .ok true h
def eLc (mi : MI) (t : Tgt) (vs : List Nat) (tt : MT) (el : ME) : ME := fun σ h => (mi σ h).bind fun it h1 => match turnsC it t vs tt el h1.length σ (it.fuel h1) 0 (h1 ++ [.lst []]) with
  | some h2 => .ok (.ref h1.length) h2
  | none => .err
abbrev W0 : WX := fun _ _ _ _ => False
section
variable {G : Gx} {W : WX} {X : Cx} {ρ ρ1 : List Addr} {H H1 : Hp} {h : Hi} {tg iter elt : Expr} {ifs : List Expr} {scope : Scope} {own : List (Str × Nat)} {pos : Pos} {mi : MI} {mt : MT} {ml : ME} {t : Tgt}
end
end ML
end
section
namespace ML
open PySem L2
section
variable {G : Gx} {W : WX} {X : Cx} {tg iter elt c : Expr} {ifs : List Expr} {scope : Scope} {own : List (Str × Nat)} {pos spos py : Pos} {mi : MI} {mt : MT} {ml : ME} {t : Tgt} {i : Nat} {y : Str}
def eErr : ME := fun _ _ => .err
def sErr : MS := fun _ _ => .err
def tErr : MT := fun _ _ => .err
end
end ML
end
section
namespace ML
open PySem L2
def eNeg (a : ME) : ME := fun σ h => (a σ h).bind fun v h1 => match v with
  | .int i => .ok (.int (-i)) h1
  | _ => .err
abbrev MO := Sg → Hi → Res (Option Int)
def oNo : MO := fun _ h => .ok none h
def oSome (e : ME) : MO := fun σ h => (e σ h).bind fun v h1 => match v with
  | .int i => .ok (some i) h1
  | _ => .err
def sIxI (n d : Nat) : Option Int → Nat
  | none => d
  | some v => if v < 0 then (v + (n : Int)).toNat else Nat.min v.toNat n
def cutI (xs : List VI) (lo hi : Option Int) : List VI := (xs.drop (sIxI xs.length 0 lo)).take (sIxI xs.length xs.length hi - sIxI xs.length 0 lo)
def sliceM (x : VI) (lo hi : Option Int) (h : Hi) : Option (VI × Hi) := match x with
  | .tup xs => some (.tup (cutI xs lo hi), h)
  | .ref n => match h[n]? with
    | some (.lst xs) => some (.ref h.length, h ++ [.lst (cutI xs lo hi)])
    | some (.scr xs) => some (.ref h.length, h ++ [.lst (cutI xs lo hi)])
    | _ => none
  | _ => none
def eSl (e : ME) (lo hi : MO) : ME := fun σ h => (e σ h).bind fun x h1 => (lo σ h1).bind fun l h2 => (hi σ h2).bind fun u h3 => ofO (sliceM x l u h3)
section
variable {G : Gx} {ρ : List Addr} {h : Hi} {H : Hp} {W : WX} {X : Cx} {e a b c o i v : Expr} {lo hi : Option Expr} {es : List Expr} {pos p p2 pos' apos cpos : Pos} {me mi mo ma mb mv : ME} {ml mh : MO} {mr : MA}
theorem me_neg (ha : PE X a (rdE G W ma)) : PE X (.UnaryOp .USub a pos) (rdE G W (eNeg ma)) :=
  PE.imp' (pe_un un_neg ha) fun σ H Q ⟨ρ, σi, h, as, ag, fin⟩ => rdG_go as ag fin fun ρ1 H1 h1 x x' st as ag r f => by
    cases r with
    | int i => exact ⟨i, rfl, f.ok ag (.int _)⟩
    | _ => exact f.elim
theorem PO.imp' {e : Option Expr} {t t' : TO} (h : PO X e t) (i : ∀ σ H Q, t' σ H Q → t σ H Q) : PO X e t' := ⟨fun pins s σ H Q I q => h.run pins s σ H Q I (i σ H Q q)⟩
theorem sIxI_eq (n d : Nat) (o : Option Int) : sIxI n d o = HT.sIx n d o := by cases o <;> rfl
theorem RVs.cut {xs : List VI} {ys : List V} (r : RVs G ρ H xs ys) (lo hi : Option Int) : RVs G ρ H (cutI xs lo hi) (cutV ys lo hi) := by
  unfold cutI cutV
  rw [sIxI_eq, sIxI_eq, r.length]
  exact (r.drop _).take _
end
inductive Knd where
  | lst | dic | str
def Knd.ty : Knd → String
  | .lst => "list"
  | .dic => "dict"
  | .str => "str"
def kOk (k : Knd) (v : VI) (h : Hi) : Bool := match v with
  | .str _ => match k with | .str => true | _ => false
  | .ref n => match h[n]? with
    | some (.lst _) => match k with | .lst => true | _ => false
    | some (.scr _) => match k with | .lst => true | _ => false
    | some (.dic _) => match k with | .dic => true | _ => false
    | _ => false
  | _ => false
abbrev OpM := VI → List VI → Hi → Option (VI × Hi)
def eBM (k : Knd) (f : OpM) (o : ME) (ma : MA) : ME := fun σ h => (o σ h).bind fun x h1 => match kOk k x h1 with
  | true => (ma σ h1).bind fun vs h2 => ofO (f x vs h2)
  | false => .err
def mAppend : OpM := fun x vs h => match x with
  | .ref n => match h[n]? with
    | some (.lst xs) => match vs with
      | [y] => match small (xs.length + 1) with
        | true => some (.non, h.set n (.lst (xs ++ [y])))
        | false => none
      | _ => none
    | _ => none
  | _ => none
def mExtend : OpM := fun x vs h => match x with
  | .ref n => match h[n]? with
    | some (.lst xs) => match vs with
      | [.ref m] => match h[m]? with
        | some (.lst ys) => match small (xs.length + ys.length) with
          | true => some (.non, h.set n (.lst (xs ++ ys)))
          | false => none
        | _ => none
      | _ => none
    | _ => none
  | _ => none
def mPop : OpM := fun x vs h => match x with
  | .ref n => match h[n]? with
    | some (.lst xs) => match vs with
      | [] => match xs[xs.length - 1]? with
        | some y => some (y, h.set n (.lst xs.dropLast))
        | none => none
      | _ => none
    | _ => none
  | _ => none
section
variable {G : Gx} {ρ : List Addr} {h : Hi} {H : Hp} {W : WX} {X : Cx} {e a b c o i v : Expr} {es : List Expr} {pos p pos' apos cpos : Pos} {me mi mo ma mb mv : ME} {mr : MA} {k : Knd} {f : OpM} {name : Str} {id T : String}
theorem RVs.dropLast {xs : List VI} {ys : List V} (r : RVs G ρ H xs ys) : RVs G ρ H xs.dropLast ys.dropLast := by
  rw [List.dropLast_eq_take, List.dropLast_eq_take, r.length]
  exact r.take _
end
def flI : VI → Bool
  | .non => true
  | .bl _ => true
  | .int _ => true
  | .str _ => true
  | _ => false
def b2i (b : Bool) : Int := match b with
  | true => 1
  | false => 0
def eqI : VI → VI → Bool
  | .non, .non => true
  | .bl a, .bl b => a == b
  | .bl a, .int b => decide (b2i a = b)
  | .int a, .bl b => decide (a = b2i b)
  | .int a, .int b => decide (a = b)
  | .str a, .str b => decide (a = b)
  | _, _ => false
def inI (x : VI) : List VI → Bool
  | [] => false
  | y :: r => match eqI y x with
    | true => true
    | false => inI x r
def alF : List VI → Bool
  | [] => true
  | y :: r => match flI y with
    | true => alF r
    | false => false
def inDl (h : Hi) (x : VI) (ys : List VI) : Option Bool := match dat 66 h x, datL (dat 65 h) ys with
  | some d, some ds => match SeqAt.shaped d && SeqAt.shaped (.list ds) with
    | true => some (ds.any fun z => PyData.eqv z d)
    | false => none
  | _, _ => none
def inM (x y : VI) (h : Hi) : Option Bool := match y with
  | .tup ys => match flI x && alF ys with
    | true => some (inI x ys)
    | false => none
  | .ref n => match h[n]? with
    | some (.lst ys) => match flI x && alF ys with
      | true => some (inI x ys)
      | false => inDl h x ys
    | some (.scr ys) => match flI x && alF ys with
      | true => some (inI x ys)
      | false => inDl h x ys
    | some (.dic kvs) => match isKey x with
      | true => some (match getD x kvs with | some _ => true | none => false)
      | false => none
    | _ => none
  | _ => none
def fIn : Op2 := fun x y h => match inM x y h with
  | some b => some (.bl b, h)
  | none => none
def fNotIn : Op2 := fun x y h => match inM x y h with
  | some b => some (.bl (!b), h)
  | none => none
section
variable {G : Gx} {ρ : List Addr} {h : Hi} {H : Hp} {X : Cx}
theorem RV.flat {v : VI} {x : V} (r : RV G ρ H v x) (e : flI v = true) : flatV x = true := by cases r <;> first | rfl | cases e
theorem RV.eqI {v w : VI} {x y : V} (r : RV G ρ H v x) (r2 : RV G ρ H w y) (e : flI v = true) (e2 : flI w = true) : ML.eqI v w = eqV x y := by
  cases r with
  | non => cases r2 <;> first | rfl | cases e2
  | bl b => cases r2 <;> first | rfl | (cases b <;> rfl) | cases e2
  | int i =>
    cases r2 with
    | bl b => cases b <;> rfl
    | _ => first | rfl | cases e2
  | @str s1 _ q =>
    cases r2 with
    | @str s2 _ q2 =>
      subst q q2
      show decide (s1 = s2) = (toStr s1 == toStr s2)
      by_cases z : s1 = s2
      · subst z; simp
      · rw [decide_eq_false z, beq_eq_false_iff_ne.mpr fun w => z (toStr_inj w)]
    | _ => first | rfl | cases e2
  | _ => cases e
theorem RVs.inI {w : VI} {y : V} (r2 : RV G ρ H w y) (e2 : flI w = true) : ∀ {vs : List VI} {xs : List V}, RVs G ρ H vs xs → alF vs = true → ML.inI w vs = inV y xs
  | _, _, .nil, _ => rfl
  | _, _, .cons (v := v) (x := x) (xs := xs) r t, e => by
    unfold alF at e
    cases q : flI v with
    | false => rw [q] at e; cases e
    | true =>
      rw [q] at e
      unfold ML.inI
      rw [r.eqI r2 q e2]
      show _ = (List.any (x :: xs) fun z => eqV z y)
      rw [List.any_cons]
      cases eqV x y with
      | true => rfl
      | false => rw [Bool.false_or]; exact RVs.inI r2 e2 t e
end
end ML
end
section
namespace ML
open PySem L2
structure IsT where
  non : Option Bool
  bl : Option Bool
  int : Option Bool
  str : Option Bool
  lst : Option Bool
  tup : Option Bool
  dic : Option Bool
  ins : Nat → Option Bool
def isT (T : IsT) (v : VI) (h : Hi) : Option Bool := match v with
  | .non => T.non
  | .bl _ => T.bl
  | .int _ => T.int
  | .str _ => T.str
  | .tup _ => T.tup
  | .ref n => match h[n]? with
    | some (.lst _) => T.lst
    | some (.scr _) => T.lst
    | some (.dic _) => T.dic
    | some (.ins c _) => T.ins c
    | _ => none
  | _ => none
def eIsi (T : IsT) (e : ME) : ME := fun σ h => (e σ h).bind fun v h1 => match isT T v h1 with
  | some b => .ok (.bl b) h1
  | none => .err
structure IsOk (K : PySem.W.Frag) (G : Gx) (us : List Value) (T : IsT) : Prop where
  non : ∀ b, T.non = some b → PySem.W.kitAny K (.type "NoneType") us = some b
  bl : ∀ b, T.bl = some b → PySem.W.kitAny K (.type "bool") us = some b
  int : ∀ b, T.int = some b → PySem.W.kitAny K (.type "int") us = some b
  str : ∀ b, T.str = some b → PySem.W.kitAny K (.type "str") us = some b
  lst : ∀ b, T.lst = some b → PySem.W.kitAny K (.type "list") us = some b
  tup : ∀ b, T.tup = some b → PySem.W.kitAny K (.type "tuple") us = some b
  dic : ∀ b, T.dic = some b → PySem.W.kitAny K (.type "dict") us = some b
  ins : ∀ c C b, T.ins c = some b → G.ct c = some C → Cls K C ∧ PySem.W.findIn K (.ref C) "__class__" = some (some (.builtin "object.__class__")) ∧ PySem.W.mroIn K C (.type "object") = some true ∧ PySem.W.kitAny K (.ref C) us = some b
  gs : PySem.W.specialIn K (.builtin "object.__class__") "__get__" = some (some (.builtin "getset_descriptor.__get__"))
  tk : PySem.W.takesIn K (.builtin "object.__class__") = some true
section
variable {G : Gx} {ρ : List Addr} {h : Hi} {H : Hp} {W : WX} {X : Cx} {e a b c o i v : Expr} {es : List Expr} {pos p p2 pos' apos cpos tpos : Pos} {me mi mo ma mb mv : ME} {mr : MA} {T : IsT} {us : List Value} {k : Nat}
theorem kit_one {K : PySem.W.Frag} {t u : Value} {b : Bool} (h : PySem.W.kitAny K t [u] = some b) : PySem.W.kitOne K t u = some b := by
  unfold PySem.W.kitAny at h
  cases q : PySem.W.kitOne K t u with
  | none => rw [q] at h; cases h
  | some z =>
    rw [q] at h
    cases z with
    | true => exact h
    | false => exact h
theorem isT_ok (hG : G.K = X.K) (ok : IsOk X.K G us T) {vi : VI} {x : V} {bb : Bool} (ag : Ag G ρ h H) (r : RV G ρ H vi x) (e : isT T vi h = some bb) : ∃ t, TyX X.K H x t ∧ PySem.W.kitAny X.K t us = some bb := by
  unfold isT at e
  cases r with
  | non => exact ⟨_, .base .non, ok.non _ e⟩
  | bl b => exact ⟨_, .base (.bl b), ok.bl _ e⟩
  | int b => exact ⟨_, .base (.int b), ok.int _ e⟩
  | str b => exact ⟨_, .base (.str _), ok.str _ e⟩
  | glo q => cases e
  | @tup xs ys a t rs =>
    refine ⟨_, ?_, ok.tup _ e⟩
    rw [hG] at t
    rcases t with (t | ⟨ob, t⟩) | ⟨o, its, n, k1, k2, _⟩
    · exact .base (.tup t)
    · exact .fTuple t
    · exact .kTuple k1 k2
  | @ref n a q =>
    dsimp only at e
    cases q1 : h[n]? with
    | none => rw [q1] at e; cases e
    | some ob =>
      rw [q1] at e
      cases ob with
      | lst xs => obtain ⟨ys, hy, rs⟩ := ag.at_ q1 q; exact ⟨_, .base (.lst hy), ok.lst _ e⟩
      | scr xs => obtain ⟨ob, ys, hy, rs⟩ := ag.at_ q1 q; exact ⟨_, .base (.frz hy), ok.lst _ e⟩
      | dic kvs => obtain ⟨ks, hy, rs⟩ := ag.at_ q1 q; exact ⟨_, .base (.dK hy), ok.dic _ e⟩
      | ins c fs =>
        obtain ⟨C, dx, gs, hc, hH, rf⟩ := insAt ag q1 q
        obtain ⟨k1, k2, k3, k4⟩ := ok.ins c C bb e hc
        exact ⟨_, .base (.ins hH k1 k2 ok.gs ok.tk k3), k4⟩
      | xd fs => cases e
theorem me_isi (hG : G.K = X.K) {cv : V} {u : Value} (ok : IsOk X.K G [u] T) (hg : Gl X "isinstance") (hm : X.mg "isinstance" = none) (he : PE X e (rdE G W me)) (hc : PE X c (tC cv)) (cl : ClsV cv u)
    (hs1 : starEach [e, c] X.env = (false, eval e X.env) :: starEach [c] X.env := by rfl) (hs2 : starEach [c] X.env = (false, eval c X.env) :: starEach [] X.env := by rfl) (hpl : (backTo pos (starEach [c] X.env)).any (·.1) = false := by rfl) :
    PE X (.Call (.Name "isinstance" p) [e, c] [] pos) (rdE G W (eIsi T me)) :=
  PE.imp' (pe_callB (r := rIsi X.K) call_isi hg hm PyProof.Rows.boot_isinstance (pa_cons he (pa_cons hc pa_nil hs2) hs1) (by decide) (by decide) hs1 hpl) fun σ H Q ⟨ρ, σi, h, as, ag, fin⟩ => rdG_go as ag fin fun ρ1 H1 h1 x x' st as ag r f => by
    cases q : isT T x h1 with
    | none => rw [q] at f; exact f.elim
    | some bb =>
      rw [q] at f
      obtain ⟨t, ty, kt⟩ := isT_ok hG ok ag r q
      exact ⟨x', cv, t, u, bb, rfl, cl, ty, kit_one kt, f.ok ag (.bl _)⟩
theorem pe_ty {x : Str} {n : String} (hg : Gl X x) (hm : X.mg x = none) (hv : bootBuiltins x = some (.type n)) (hn : x ≠ "__name__" := by decide) (hd : (x == ("__debug__" : Str)) = false := by decide) : PE X (.Name x pos) (tC (.ty n)) := pe_bltn hg hm hv rfl hn hd
theorem pe_cl {x : Str} {C : Addr} (hg : Gl X x) (hm : X.mg x = some (.ref C)) (hd : (x == ("__debug__" : Str)) = false := by decide) : PE X (.Name x pos) (tC (.ref C)) := pe_glob hg hm rfl hd
theorem me_glob {x : Str} {v : VI} {y : V} {u : Value} (hg : Gl X x) (hm : X.mg x = some u) (r : RelV y u) (rv : ∀ ρ H, RV G ρ H v y) (hd : (x == ("__debug__" : Str)) = false := by decide) : PE X (.Name x pos) (rdE G W (eC v)) := me_c (pe_glob hg hm r hd) rv
def eKd (tbl : S → Option VI) (b : ME) : ME := fun σ h => (b σ h).bind fun v h1 => match v with
  | .str s => match tbl s with
    | some w => .ok w h1
    | none => .err
  | _ => .err
def rgI (a b : Int) : List VI := (List.range (b - a).toNat).map fun i => VI.int (a + (i : Nat))
def rgOk (a b : Int) : Bool := (decide (-(2 ^ 62) ≤ a) && decide (a < 2 ^ 62)) && ((decide (-(2 ^ 62) ≤ b) && decide (b < 2 ^ 62)) && decide ((b - a).toNat ≤ 2 ^ 24))
def eTupRg (a b : ME) : ME := fun σ h => (a σ h).bind fun x h1 => (b σ h1).bind fun y h2 => match x, y with
  | .int i, .int j => match rgOk i j with
    | true => .ok (.tup (rgI i j)) h2
    | false => .err
  | _, _ => .err
def eLstRg (a b : ME) : ME := fun σ h => (a σ h).bind fun x h1 => (b σ h1).bind fun y h2 => match x, y with
  | .int i, .int j => match rgOk i j with
    | true => .ok (.ref h2.length) (h2 ++ [.lst (rgI i j)])
    | false => .err
  | _, _ => .err
def eTupRg1 (b : ME) : ME := fun σ h => (b σ h).bind fun y h2 => match y with
  | .int j => match rgOk 0 j with
    | true => .ok (.tup (rgI 0 j)) h2
    | false => .err
  | _ => .err
def eLstRg1 (b : ME) : ME := fun σ h => (b σ h).bind fun y h2 => match y with
  | .int j => match rgOk 0 j with
    | true => .ok (.ref h2.length) (h2 ++ [.lst (rgI 0 j)])
    | false => .err
  | _ => .err
def eChain (f g : Op2) (a b c : ME) : ME := fun σ h => (a σ h).bind fun x h1 => (b σ h1).bind fun y h2 => (ofO (f x y h2)).bind fun z h3 => match z with
  | .bl true => (c σ h3).bind fun w h4 => ofO (g y w h4)
  | .bl false => .ok (.bl false) h3
  | _ => .err
theorem me_chain {f g : Op2} {op op' : CmpOp} {mc : ME} (ho : OpR X (compareOp op) (rd2 G f)) (ho' : OpR X (compareOp op') (rd2 G g)) (ha : PE X a (rdE G W ma)) (hb : PE X b (rdE G W mb)) (hc : PE X c (rdE G W mc))
    (hm : lastMarks [op, op'] [b, c] = false := by with_unfolding_all rfl) : PE X (.Compare a [op, op'] [b, c] pos) (rdE G W (eChain f g ma mb mc)) :=
  PE.imp' (pe_chain ho ho' ha hb hc hm) fun σ H Q ⟨ρ, σi, h, as, ag, fin⟩ => rdG_go as ag fin fun ρ1 H1 h1 x x' st as ag r f1 => rdG_go as ag f1 fun ρ2 H2 h2 y y' st2 as ag r2 f2 => by
    refine ⟨ρ2, h2, x, y, ag, r.mono st2, r2, ?_⟩
    cases q : f x y h2 with
    | none => rw [q] at f2; exact f2.elim
    | some zh =>
      obtain ⟨z, h3⟩ := zh
      rw [q] at f2
      intro ρ3 H3 z' st3 ag3 rz
      have f3 := FinG.later st3 f2
      dsimp only [ofO, Res.bind] at f3
      cases rz with
      | bl k =>
        refine ⟨k, rfl, ?_⟩
        cases k with
        | true =>
          rw [if_pos rfl]
          exact rdG_go (as.mono st3) ag3 f3 fun ρ4 H4 h4 w w' st4 as ag r4 f4 => ⟨ρ4, h4, y, w, ag, r2.mono (st3.trans st4), r4, FinO.of f4⟩
        | false =>
          rw [if_neg Bool.false_ne_true]
          exact f3.ok ag3 (.bl _)
      | _ => exact f3.elim
end
section
variable {G : Gx} {W : WX} {X : Cx} {c : Expr} {body : List Stmt} {pos : Pos} {mt : MT} {mb : MS}
end
def iAdd : Op2 := fun x y h => match x, y with
  | .int i, .int j => some (.int (i + j), h)
  | _, _ => none
def iSub : Op2 := fun x y h => match x, y with
  | .int i, .int j => some (.int (i - j), h)
  | _, _ => none
def sAug (i : Nat) (f : Op2) (e : ME) : MS := fun σ h => match σ[i]? with
  | some (some x) => (e σ h).bindS σ fun y h1 => match f x y h1 with
    | some (z, h2) => .nx (σ.set i (some z)) h2
    | none => .err
  | _ => .err
section
variable {G : Gx} {ρ : List Addr} {h : Hi} {H : Hp} {W : WX} {X : Cx} {e a b o : Expr} {pos pos' : Pos} {me ma mb : ME} {i : Nat} {x : Str} {f : Op2}
end
end ML
end
section
namespace ML
open PySem L2 PyProof.Rows
section
variable {X : Cx} {e k v : Expr} {pos : Pos} {td tk tv : TE}
end
def mrgTail (n c : Nat) (k v : ME) : ME := fun σ h2 => (k σ h2).bind fun y h3 => (v σ h3).bind fun z h4 => match isKey y, h4[n]?, h4[c]? with
  | true, some (.dic kvs2), some (.dic []) => match small (kvs2.length + 1) with
    | true => .ok (.ref n) ((h4.set c (.dic [(y, z)])).set n (.dic (putD y z kvs2)))
    | false => .err
  | _, _, _ => .err
def eMrg (e k v : ME) : ME := fun σ h => (e σ (h ++ [.dic []])).bind fun x h1 => match x with
  | .ref m => match Nat.beq m h.length, h1[h.length]?, h1[m]? with
    | false, some (.dic []), some (.dic kvs) => match small (kvs.length + 1) with
      | true => mrgTail h.length h1.length k v σ (h1.set h.length (.dic (putAll kvs [])) ++ [.dic []])
      | false => .err
    | _, _, _ => .err
  | _ => .err
section
variable {G : Gx} {ρ : List Addr} {h : Hi} {H : Hp} {W : WX} {X : Cx} {e k v : Expr} {pos : Pos} {me mk mv : ME}
theorem Ag.ne (ag : Ag G ρ h H) {m n : Nat} {a b : Addr} (hm : ρ[m]? = some a) (hn : ρ[n]? = some b) (q : m ≠ n) : a ≠ b := fun z => by
  subst z
  obtain ⟨h1, e1⟩ := List.getElem?_eq_some_iff.mp hm
  obtain ⟨h2, e2⟩ := List.getElem?_eq_some_iff.mp hn
  have pw := List.pairwise_iff_getElem.mp ag.nd
  rcases Nat.lt_trichotomy m n with l | l | l
  · exact pw m n h1 h2 l (e1.trans e2.symm)
  · exact q l
  · exact pw n m h2 h1 l (e2.trans e1.symm)
end
end ML
end
section
namespace ML
open PySem L2 PyProof.Rows
structure FnP (X : Cx) (G : Gx) (k : Nat) (f : Addr) (fd : FuncData) (ps : List Str) (g : MF) : Prop where
  ok : FnOk X.prog X.w X.K X.mg X.base (L2.CX X.prog X.w) k f fd ps (spM G ps.length g)
  ar : Arity ps.length g
  room : Room (k + 2) X.A
def CallAt (X : Cx) (A : Around) (G : Gx) (W : WX) (fv : Value) (g : MF) : Prop :=
  ∀ (pins : List (Addr × Obj)) (s : Shared) (σ : L2.St) (H : Hp) (us : List Value) (vs : List V) (args : List VI) (ρ : List Addr) (h : Hi) (Q : VK), Inv X pins σ H s → Vals vs us → RVs G ρ H args vs → Ag G ρ h H →
    FinG G ρ H (RV G) Q (fun c d H' => W c d σ H') (g args h) → wpAny (model X.prog X.w) A (call fv us) (EP X pins σ Q) X.xe s
section
variable {G : Gx} {W : WX} {X : Cx} {A : Around} {ρ : List Addr} {h : Hi} {H : Hp} {σ : L2.St} {k np : Nat} {f C : Addr} {fd : FuncData} {ps : List Str} {g : MF}
theorem env0_at (e : Env0 X.prog X.w X.K X.mg X.base X.A X.stack s H) (fr : A.frames = X.A.frames) : Env0 X.prog X.w X.K X.mg X.base A X.stack s H := ⟨by rw [fr]; exact e.frames, e.mod, e.bs, e.bsz, e.funs, e.frf, e.hok, e.bare⟩
theorem callAt_of (F : FnOk X.prog X.w X.K X.mg X.base (L2.CX X.prog X.w) k f fd ps (spM G ps.length g)) (ar : Arity ps.length g) (hr : Room k A) (fr : A.frames = X.A.frames) (hb : Binds X.K fd ps []) (tk : Takes X W) : CallAt X A G W (.ref f) g := by
  intro pins s σ H us vs args ρ h Q I r ra ag fin
  by_cases hl : args.length = ps.length
  · have hsp : spM G ps.length g vs H Q (WE W σ) := ⟨ρ, h, args, hl, ag, ra, fin⟩
    have lu : us.length = ps.length := by rw [← r.length, ← ra.length]; exact hl
    have b := hb s us I.kIn (by rw [List.append_nil]; exact lu)
    rw [List.append_nil] at b
    refine wpAny_call (codeAny_mono (F.run _ _ s H ⟨us, []⟩ us vs Q (WE W σ) hr (env0_at I.env0 fr) b r hsp) fun res s' hq => ?_)
    match res, hq with
    | .error e, hq => exact passAt tk σ pins H s e s' I hq
    | .ok (.ret u), hq => exact I.after hq
  · rw [ar args h hl] at fin
    exact fin.elim
theorem FnP.call (F : FnP X G k f fd ps g) (hb : Binds X.K fd ps []) (tk : Takes X W) : CallM X G W (.ref f) g := callM_fn F.ok F.ar (F.room.mono (by omega)) hb tk
theorem FnP.at0 (F : FnP X G k f fd ps g) (hb : Binds X.K fd ps []) (tk : Takes X W) : CallAt X X.A G W (.ref f) g := callAt_of F.ok F.ar (F.room.mono (by omega)) rfl hb tk
theorem FnP.at1 (F : FnP X G k f fd ps g) (hb : Binds X.K fd ps []) (tk : Takes X W) : CallAt X X.A.in1 G W (.ref f) g := callAt_of F.ok F.ar ((F.room.mono (show k + 1 ≤ k + 2 by omega)).in1) rfl hb tk
end
structure Bnd (G : Gx) (K : PySem.W.Frag) (fd : FuncData) (ps : List Str) (n : Nat) (ks : List Str) (arr : List VI → List VI → List VI) : Prop where
  ex : ∃ (gu : List Value → List Value → List Value) (gV : List V → List V → List V), KBn K fd ps n ks gu gV ∧
    ∀ (ρ : List Addr) (H : Hp) (args zargs : List VI) (vs zs : List V), RVs G ρ H args vs → RVs G ρ H zargs zs → args.length = n → zargs.length = ks.length → RVs G ρ H (arr args zargs) (gV vs zs)
abbrev MK := List VI → List VI → Hi → Res VI
def fnK (g : MF) (arr : List VI → List VI → List VI) : MK := fun vs zs h => g (arr vs zs) h
def mkK (c : Nat) (g : MF) (arr : List VI → List VI → List VI) : MK := fun vs zs h => match g (arr (.ref h.length :: vs) zs) (h ++ [.ins c []]) with
  | .ok .non h2 => .ok (.ref h.length) h2
  | .ex c n h2 => .ex c n h2
  | _ => .err
def eCallK (n m : Nat) (g : MK) (ma mk : MA) : ME := fun σ h => (ma σ h).bind fun vs h1 => (mk σ h1).bind fun zs h2 => match Nat.beq vs.length n && Nat.beq zs.length m with
  | true => g vs zs h2
  | false => .err
section
variable {G : Gx} {W : WX} {X : Cx} {A : Around} {ρ : List Addr} {h : Hi} {H : Hp} {σ : L2.St} {k n : Nat} {f C : Addr} {fd : FuncData} {ps ks : List Str} {g : MF} {gk : MK} {arr : List VI → List VI → List VI} {x : Str} {p pos kpos : Pos} {e : Expr} {es : List Expr} {kws : List Keyword} {ma mk : MA} {me : ME} {nm : Option Str} {fv : Value}
end
end ML
end
section
namespace ML
open PySem L2 PyProof.Rows
structure SpOk (X : Cx) (A : Around) (G : Gx) (W : WX) (tbl : Nat → Option MF) (nm : Str) : Prop where
  at_ : ∀ c C g, tbl c = some g → G.ct c = some C → ∃ f, PySem.W.noSeq X.K C = true ∧ PySem.W.findIn X.K (.ref C) nm = some (some (.ref f)) ∧ PySem.W.fnIn X.K f = true ∧ PySem.W.isFn X.K (.ref f) = true ∧ CallAt X A G W (.ref f) g
def insC (x : VI) (h : Hi) : Option Nat := match x with
  | .ref n => match h[n]? with
    | some (.ins c _) => some c
    | _ => none
  | _ => none
def eIxU (tbl : Nat → Option MF) (a b : ME) : ME := fun σ h => (a σ h).bind fun x h1 => (b σ h1).bind fun y h2 => match insC x h2 with
  | some c => match tbl c with
    | some g => g [x, y] h2
    | none => .err
  | none => ofO (fIx x y h2)
section
variable {G : Gx} {ρ : List Addr} {h : Hi} {H : Hp} {W : WX} {X : Cx} {A : Around} {e a b c o i v : Expr} {es : List Expr} {pos p pos' apos : Pos} {me mi mo ma mb mv : ME} {mr : MA} {tbl : Nat → Option MF} {σ : L2.St}
theorem insC_ok {x : VI} {y : V} {cn : Nat} (ag : Ag G ρ h H) (r : RV G ρ H x y) (q : insC x h = some cn) : ∃ a C dx gs, y = .ref a ∧ G.ct cn = some C ∧ H a = some (.ins C dx gs) := by
  unfold insC at q
  cases r with
  | @ref n a e =>
    dsimp only at q
    cases q1 : h[n]? with
    | none => rw [q1] at q; cases q
    | some ob =>
      rw [q1] at q
      cases ob with
      | ins c fs =>
        cases q
        obtain ⟨C, dx, gs, hc, hH, _⟩ := insAt ag q1 e
        exact ⟨a, C, dx, gs, rfl, hc, hH⟩
      | _ => cases q
  | _ => cases q
theorem insC_look {pins : List (Addr × Obj)} {s : Shared} {a C dx : Addr} {gs : List (Str × V)} (I : Inv X pins σ H s) (hH : H a = some (.ins C dx gs)) : ∃ m, Fr X.base X.env.locals s.heap m ∧ ∃ ox od, PySem.W.InstAt s.heap a ox C od := by
  obtain ⟨mA, O, _, _, _, _⟩ := ins_get I.hok hH
  obtain ⟨od, J, _⟩ := O.look
  obtain ⟨m, hF⟩ := I.fr
  exact ⟨m, hF, _, _, J⟩
end
def dropV (σ : Sg) : Res VI → RS
  | .ok _ h => .nx σ h
  | .ex c n h => .ex c n σ h
  | .err => .err
def gIxU (tbl : Nat → Option MF) (o i : ME) : MG := fun v σ h => (o σ h).bindS σ fun x h1 => (i σ h1).bindS σ fun y h2 => match insC x h2 with
  | some c => match tbl c with
    | some g => dropV σ (g [x, y, v] h2)
    | none => .err
  | none => nxO σ (putIx x y v h2)
section
variable {G : Gx} {ρ : List Addr} {h : Hi} {H : Hp} {W : WX} {X : Cx} {A : Around} {e a b c o i v : Expr} {es : List Expr} {pos p pos' apos : Pos} {me mi mo ma mb mv : ME} {mr : MA} {tbl : Nat → Option MF}
end
end ML
end
section
namespace ML
open PySem L2 NdefX
open PyProof.Rows hiding wpAt
structure PSsT (X : Cx) (body st : List Stmt) (t : TS) : Prop where
  run : ∀ (pins : List (Addr × Obj)) (s : Shared) (σ : L2.St) (H : Hp) (D : Ends), Inv X pins σ H s → t D σ H → wpAt (model X.prog X.w) X.A (.func body X.env) (execs st X.env) (SP X pins D) X.xe s
structure PST (X : Cx) (body : List Stmt) (st : Stmt) (t : TS) : Prop where
  run : ∀ (pins : List (Addr × Obj)) (s : Shared) (σ : L2.St) (H : Hp) (D : Ends), Inv X pins σ H s → t D σ H → wpAt (model X.prog X.w) X.A (.func body X.env) (exec st X.env) (SP X pins D) X.xe s
theorem PSsT.of {X : Cx} {body st : List Stmt} {t : TS} (h : PSs X st t) : PSsT X body st t := ⟨fun pins s σ H D I q => wpAt_of_wpAny (h.run pins s σ H D I q)⟩
theorem PST.of {X : Cx} {body : List Stmt} {st : Stmt} {t : TS} (h : PS X st t) : PST X body st t := ⟨fun pins s σ H D I q => wpAt_of_wpAny (h.run pins s σ H D I q)⟩
theorem PSsT.imp' {X : Cx} {body st : List Stmt} {t t' : TS} (h : PSsT X body st t) (i : ∀ D σ H, t' D σ H → t D σ H) : PSsT X body st t' := ⟨fun pins s σ H D I q => h.run pins s σ H D I (i D σ H q)⟩
theorem PST.imp' {X : Cx} {body : List Stmt} {st : Stmt} {t t' : TS} (h : PST X body st t) (i : ∀ D σ H, t' D σ H → t D σ H) : PST X body st t' := ⟨fun pins s σ H D I q => h.run pins s σ H D I (i D σ H q)⟩
structure FunS (K : PySem.W.Frag) (x qual : Str) (params : Arguments) (body : List Stmt) (scope : Scope) (dvs : List V) (kws : List (Str × V)) (f : Addr) (fd : FuncData) (cc D c : Addr) (file : Str) : Prop where
  ex : ∃ (oc : Value) (od : Option Addr) (dV kV doc pm : Value) (an : Option Addr) (ct : Value) (osl : Array (Option Value)),
    fd = PySem.W.fnX x qual params body scope [("__class__", cc)] dV kV doc pm an (.ref c) ct ∧ K.lookup f = some ⟨oc, od, .func fd, osl⟩ ∧ DflV K dV dvs ∧ KwdV K kV kws
  code : PySem.W.codeIn K (.ref c) qual = true
  file : ∃ (o : Obj) (vs : Array Value) (tf : Tok), K.lookup c = some o ∧ o.data = .fields vs ∧ vs[2]? = some (.str file tf)
  cell : ∃ o : Obj, K.lookup cc = some o ∧ o.data = .cell (some (.ref D))
  kp : PySem.W.keepIn K (.ref f) = true
abbrev nfS (x qual : Str) (params : Arguments) (body : List Stmt) (scope : Scope) (cc c : Addr) : NF := ⟨x, qual, params, body, scope, [("__class__", cc)], c⟩
section
variable {P : Program} {w : World} {K : PySem.W.Frag} {mg : Str → Option Value} {base : Heap} {x qual : Str} {params : Arguments} {body : List Stmt} {scope : Scope} {dvs : List V} {kws : List (Str × V)} {f cc D c : Addr} {fd : FuncData} {file : Str} {N ps : List Str} {k : Nat} {sp : Sp} {CX : CXT}
theorem FunS.cells {A : Around} {outer : List Env} {s : Shared} {H : Hp} (F : FunS K x qual params body scope dvs kws f fd cc D c file) (e0 : Env0 P w K mg base A outer s H) : CellsAt [("__class__", cc)] ["__class__"] [some (.ref D)] s.heap H := by
  obtain ⟨o, lo, od⟩ := F.cell
  have hb := e0.mod.kin cc o lo
  obtain ⟨hs, hn⟩ := e0.bs cc o hb
  have cellAt : s.heap.IsCell cc (some (.ref D)) := ⟨o, hs, od⟩
  refine ⟨rfl, fun y c' e => ?_, fun x y c' e1 e2 => ?_, fun i y e => ?_⟩
  · simp only [List.lookup] at e
    split at e
    · cases e; exact ⟨hn, _, cellAt⟩
    · cases e
  · simp only [List.lookup] at e1 e2
    split at e1
    · rename_i h1
      split at e2
      · rename_i h2
        rw [beq_iff_eq.mp h1, beq_iff_eq.mp h2]
      · cases e2
    · cases e1
  · cases i with
    | zero =>
      simp at e
      subst e
      refine ⟨cc, by simp [List.lookup], fun v hv => ?_⟩
      simp at hv
      subst hv
      exact ⟨_, rfl, cellAt⟩
    | succ i => simp at e
theorem FunS.ok (F : FunS K x qual params body scope dvs kws f fd cc D c file) (S : NScope N ps ["__class__"] scope) (len : ∀ vs H Q E, sp vs H Q E → vs.length = ps.length)
    (hbody : ∀ (A : Around) (outer : List Env) (s : Shared) (H : Hp) (vs : List V) (Q : VK) (E : XK), Room k (A.deeper (envF (nfS x qual params body scope cc c) f s.heap.objs.size)) → sp vs H Q E →
      ∃ t, PSsT (ncx CX P w K mg base N (nfS x qual params body scope cc c) f A outer s H E) body body t ∧ t { nx := fun _ H' => Q .non H', rt := Q } (startF N vs [some (.ref D)]) H) : FnOk P w K mg base CX (k + 1) f fd ps sp := by
  obtain ⟨oc, od, dV, kV, doc, pm, an, ct, osl, rfl, lk, _, _⟩ := F.ex
  refine ⟨len, fun A outer s H args us vs Q E hr e0 hb r hsp => ?_⟩
  have hl := len _ _ _ _ hsp
  have KX : K.In s.heap := e0.mod.kin.keeps fun b o e => (e0.bs b o e).1
  have lim : s.heap.NoLimit := e0.mod.nolimit.keeps fun b o e => (e0.bs b o e).1
  refine ks_codeAny_call_defAt (body := body) (binds := ps.zip us) hr.depth (KX _ _ lk) rfl lim (PySem.W.codeRec_of KX F.code) rfl hb S.nocell (fun ⟨n, _⟩ hy => S.par n (List.of_mem_zip hy).1) (fun h₁ hns kp => ?_) S.co S.gen S.kind
  obtain ⟨t, ht, hq⟩ := hbody A outer s H vs Q E (hr.deeper _) hsp
  have I : Inv (ncx CX P w K mg base N (nfS x qual params body scope cc c) f A outer s H E) [] (startF N vs [some (.ref D)]) H { s with heap := h₁, toks := s.toks + (ps.zip us).length } := inv_startN S hr.hd e0 hl r (F.cells e0) hns kp
  refine ks_wpAt_mono (ht.run [] _ (startF N vs [some (.ref D)]) H _ I hq) (fun fl s' hs => ?_) fun e s' hs => hs
  have fin : ∀ {σ' : L2.St} {H' : Hp} {v : V} {u : Value}, Inv (ncx CX P w K mg base N (nfS x qual params body scope cc c) f A outer s H E) [] σ' H' s' → L2.RelV v u → Q v H' → CE outer P w H s Q u s' :=
    fun {σ' H' v u} J rv q => ⟨v, H', J.os, J.bare, J.base, J.hok, rv, q⟩
  cases fl with
  | ret u =>
    obtain ⟨v, σ', H', J, rv, q⟩ := hs
    exact fin J rv q
  | next =>
    obtain ⟨σ', H', J, q⟩ := hs
    exact fin (v := V.non) (u := Value.none) J rfl q
  | brk =>
    obtain ⟨_, _, _, q⟩ := hs
    exact False.elim q
  | cont =>
    obtain ⟨_, _, _, q⟩ := hs
    exact False.elim q
end
end ML
end
section
namespace ML
open PySem L2 NdefX
open PyProof.Rows hiding wpAt
theorem boot_super : bootBuiltins "super" = some (.type "super") := by decide +kernel
theorem load_slot {X : Cx} {pins : List (Addr × Obj)} {σ : L2.St} {H : Hp} {s : Shared} {i : Nat} {x : Str} {v : V} {E : Value → Shared → Prop} {Q : Value → Shared → Prop} (I : Inv X pins σ H s) (hN : X.N[i]? = some x) (e : σ[i]? = some (some v)) (hv : Vis X.env.scope x) (hcd : (x == ("__classdict__" : Str)) = false)
    (h : ∀ u, RelV v u → Q u s) : wpAny (model X.prog X.w) X.A (loadName X.env x) Q E s := by
  obtain ⟨m, hn, hl⟩ := I.loc
  obtain ⟨u, r, l⟩ := hl i x v hN e hv
  rcases l with ⟨hk, hm⟩ | ⟨hk, c, hc, hcell⟩
  · exact wpAny_loadName_local I.ok.kind hk hn hm (h u r)
  · rcases hk with hk | hk
    · exact wpAny_loadName_cell I.ok.kind hk hc hcell (h u r)
    · exact wpAny_loadName_free I.ok.kind hk hc hcell (h u r) hcd
theorem load_blt {X : Cx} {pins : List (Addr × Obj)} {s : Shared} {σ : L2.St} {H : Hp} {x : Str} {u : Value} {E : Value → Shared → Prop} {Q : Value → Shared → Prop} (I : Inv X pins σ H s) (hg : Gl X x) (hm : X.mg x = none) (hv : bootBuiltins x = some u) (hn : x ≠ "__name__") (h : Q u s) : wpAny (model X.prog X.w) X.A (loadName X.env x) Q E s := by
  obtain ⟨mb, h1, h2⟩ := I.mod.blt
  exact PySem.W.ks_loadName_global I.ok.kind hg (Calls.loadGlobal_builtin (by rw [I.ok.glob]; exact I.mod.glob.keeps I.bk) hm (by rw [I.ok.blt]; exact h1.keeps I.bk) ((h2 x hn).trans hv) h)
def CodeM (X : Cx) (G : Gx) (W : WX) (fv : Value) (g : MF) : Prop :=
  ∀ (pins : List (Addr × Obj)) (s : Shared) (σ : L2.St) (H : Hp) (us : List Value) (vs : List V) (args : List VI) (ρ : List Addr) (h : Hi) (Q : VK), Inv X pins σ H s → Vals vs us → RVs G ρ H args vs → Ag G ρ h H →
    FinG G ρ H (RV G) Q (fun c d H' => W c d σ H') (g args h) → codeAny (model X.prog X.w) X.A (.call fv ⟨us, []⟩) (fun r s' => match r with | .ok (.ret v) => EP X pins σ Q v s' | .ok _ => False | .error e => X.xe e s') s
theorem FnP.code {X : Cx} {G : Gx} {W : WX} {k : Nat} {f : Addr} {fd : FuncData} {ps : List Str} {g : MF} (F : FnP X G k f fd ps g) (hb : Binds X.K fd ps []) (tk : Takes X W) : CodeM X G W (.ref f) g := by
  intro pins s σ H us vs args ρ h Q I r ra ag fin
  by_cases hl : args.length = ps.length
  · have hsp : spM G ps.length g vs H Q (WE W σ) := ⟨ρ, h, args, hl, ag, ra, fin⟩
    have lu : us.length = ps.length := by rw [← r.length, ← ra.length]; exact hl
    have b := hb s us I.kIn (by rw [List.append_nil]; exact lu)
    rw [List.append_nil] at b
    refine codeAny_mono (F.ok.run _ _ s H ⟨us, []⟩ us vs Q (WE W σ) (F.room.mono (by omega)) I.env0 b r hsp) fun res s' hq => ?_
    match res, hq with
    | .error e, hq => exact passAt tk σ pins H s e s' I hq
    | .ok (.ret u), hq => exact I.after hq
  · rw [F.ar args h hl] at fin
    exact fin.elim
structure SupOk (X : Cx) (G : Gx) (W : WX) (known : Nat → Bool) (f D : Addr) (slf : Str) (g : MF) : Prop where
  fn : X.env.func = some f
  at_ : ∃ (o : Obj) (fd : FuncData) (ar : Arg), X.K.lookup f = some o ∧ o.data = .func fd ∧ (fd.params.posonlyargs ++ fd.params.args).head? = some ar ∧ ar.arg = slf
  code : ∃ (c : Addr) (o : Obj) (vs : Array Value) (file : Str) (tf : Tok), X.env.code = .ref c ∧ X.K.lookup c = some o ∧ o.data = .fields vs ∧ vs[2]? = some (.str file tf) ∧ ((X.prog.main.file : Str) == file) = true
  top : (X.prog.main.scope.names.lookup ("super" : Str)).isSome = false
  cls : ∃ cd, PySem.W.clsIn X.K D = some cd
  any : PySem.W.nsIn X.K cStatics "thirdparty.any" = some none
  sub : ∀ c C, known c = true → G.ct c = some C → (∃ cd, PySem.W.clsIn X.K C = some cd) ∧ PySem.W.mroIn X.K C (.ref D) = some true ∧ ∃ f2, PySem.W.ks_superIn X.K C D "__init__" = some (some (.ref f2)) ∧ PySem.W.typeIn X.K (.ref f2) = some (.type "function") ∧ PySem.W.fnIn X.K f2 = true ∧ CodeM X G W (.ref f2) g
def sSuper (known : Nat → Bool) (i : Nat) (g : MF) (ma : MA) : MS := fun σ h => match σ[i]? with
  | some (some (.ref n)) => match h[n]? with
    | some (.ins c _) => match known c with
      | true => (ma σ h).bindS σ fun vs h1 => dropV σ (g (.ref n :: vs) h1)
      | false => .err
    | _ => .err
  | _ => .err
section
variable {G : Gx} {W : WX} {X : Cx} {body : List Stmt} {known : Nat → Bool} {f D : Addr} {slf : Str} {g : MF} {i j : Nat} {e : Expr} {es : List Expr} {ma : MA} {p0 p1 apos cpos spos : Pos}
end
section
variable {P : Program} {w : World} {K : PySem.W.Frag} {mg : Str → Option Value} {base : Heap} {x qual : Str} {params : Arguments} {body : List Stmt} {scope : Scope} {dvs : List V} {kws : List (Str × V)} {f cc D c : Addr} {fd : FuncData} {file : Str} {N ps : List Str} {k n : Nat} {G : Gx} {mb : MS}
end
end ML
end
section
namespace MB
open PySem L2
end MB
namespace ML
open PySem L2 PyProof.Rows
section
variable {X : Cx} {e : Expr} {x : Str} {p pos kp : Pos} {fv : Value} {td : TE}
end
def keysAre : List S → List (VI × VI) → Bool
  | [], [] => true
  | s :: ss, (.str t, _) :: r => decide (s = t) && keysAre ss r
  | _, _ => false
def eKwD (ks : List S) (gk : MK) (e : ME) : ME := fun σ h => (e σ (h ++ [.dic []])).bind fun x h1 => match x with
  | .ref m => match Nat.beq m h.length, h1[h.length]?, h1[m]? with
    | false, some (.dic []), some (.dic kvs) => match keysAre ks kvs with
      | true => gk [] (kvs.map (·.2)) (h1.set h.length (.dic (putAll kvs [])))
      | false => .err
    | _, _, _ => .err
  | _ => .err
section
variable {G : Gx} {ρ : List Addr} {h : Hi} {H : Hp} {W : WX} {X : Cx} {e : Expr} {x : Str} {p pos kp : Pos} {fv : Value} {ks : List S} {gk : MK} {me : ME}
end
def gSeq : List MG → List VI → Sg → Hi → RS
  | [], [], σ, h => .nx σ h
  | g :: gs, v :: vs, σ, h => (g v σ h).andThen fun σ1 h1 => gSeq gs vs σ1 h1
  | _, _, _, _ => .err
def gTupM (gs : List MG) : MG := fun v σ h => match v with
  | .tup xs => match Nat.beq xs.length gs.length with
    | true => gSeq gs xs σ h
    | false => .err
  | _ => .err
section
variable {G : Gx} {ρ : List Addr} {h : Hi} {H : Hp} {W : WX} {X : Cx} {e : Expr} {es : List Expr} {pos : Pos} {g : MG} {gs : List MG} {k n : Nat}
theorem PGs.imp' {t t' : TGs} (h : PGs X es t) (i : ∀ vs σ H Q, t' vs σ H Q → t vs σ H Q) : PGs X es t' := ⟨fun pins s σ H vs us Q I r q => h.run pins s σ H vs us Q I r (i vs σ H Q q)⟩
end
end ML
end
section
namespace ML
open PySem PySem.Spec PyProof.Rows L2 He
def lkT {α : Type} : List (Nat × α) → Nat → Option α
  | [], _ => none
  | (d, x) :: r, c => match Nat.beq d c with
    | true => some x
    | false => lkT r c
theorem lkT_cons {α : Type} {d c : Nat} {x g : α} {r : List (Nat × α)} (h : lkT ((d, x) :: r) c = some g) : (c = d ∧ g = x) ∨ lkT r c = some g := by
  unfold lkT at h
  cases q : Nat.beq d c with
  | true => rw [q] at h; exact .inl ⟨(Nat.eq_of_beq_eq_true q).symm, (Option.some.inj h).symm⟩
  | false => rw [q] at h; exact .inr h
abbrev GxOf (K : PySem.W.Frag) (mg : Str → Option Value) (nm : Nat → Option Str) : Gx := ⟨K, mg, fun c => (nm c).map (ga K)⟩
theorem gx_ct {K : PySem.W.Frag} {mg : Str → Option Value} {nm : Nat → Option Str} {c : Nat} {C : Addr} {x : Str} (h : (GxOf K mg nm).ct c = some C) (e : nm c = some x) : C = ga K x := by
  have h' : (nm c).map (ga K) = some C := h
  rw [e] at h'
  exact (Option.some.inj h').symm
def viAll (f : VI → Value → Bool) : List VI → List Value → Bool
  | [], [] => true
  | v :: vs, u :: us => f v u && viAll f vs us
  | _, _ => false
def viB : Nat → PySem.W.Frag → VI → Value → Bool
  | 0, _, _, _ => false
  | n + 1, K, v, u => match v, u with
    | .non, .none => true
    | .bl a, .bool b => a == b
    | .int i, .int j _ => decide (i = j)
    | .str s, .str x _ => decide (x = toStr s)
    | .glo g, .ref a => eqO (PySem.W.nsIn K mainGlobals (toStr g)) (some (some (.ref a)))
    | .tup xs, .ref a => (match K.lookup a with
      | some ⟨.type c, _, .seq its _, _⟩ => decide (c = "tuple") && (decide (its.size ≤ sizeLine) && viAll (viB n K) xs its.toList)
      | _ => false)
    | _, _ => false
section
variable {K : PySem.W.Frag} {h : Heap} {mg : Str → Option Value} {nm : Nat → Option Str}
theorem viAll_ok {f : VI → Value → Bool} (ih : ∀ v u, f v u = true → ∃ x, RelV x u ∧ ∀ ρ H, RV (GxOf K mg nm) ρ H v x) : ∀ {vs : List VI} {us : List Value}, viAll f vs us = true → ∃ xs, Vals xs us ∧ ∀ ρ H, RVs (GxOf K mg nm) ρ H vs xs
  | [], [], _ => ⟨[], .nil, fun _ _ => .nil⟩
  | v :: vs, u :: us, e => by
    obtain ⟨e1, e2⟩ := ba (show (f v u && viAll f vs us) = true from e)
    obtain ⟨x, r, rv⟩ := ih v u e1
    obtain ⟨xs, rs, rvs⟩ := viAll_ok ih e2
    exact ⟨x :: xs, .cons r rs, fun ρ H => .cons (rv ρ H) (rvs ρ H)⟩
  | [], _ :: _, e => nomatch e
  | _ :: _, [], e => nomatch e
theorem viB_ok (X : K.In h) (Gn : h.Ns mainGlobals mg) : ∀ (n : Nat) (v : VI) (u : Value), viB n K v u = true → ∃ x, RelV x u ∧ ∀ ρ H, RV (GxOf K mg nm) ρ H v x
  | 0, _, _, e => nomatch e
  | n + 1, v, u, e => by
    unfold viB at e
    split at e
    · exact ⟨.non, rfl, fun _ _ => .non⟩
    · rename_i a b
      rw [eq_of_beq e]
      exact ⟨.bl b, rfl, fun _ _ => .bl b⟩
    · rename_i i j t
      rw [of_decide_eq_true e]
      exact ⟨.int j, ⟨t, rfl⟩, fun _ _ => .int j⟩
    · rename_i s x t
      have := of_decide_eq_true e
      subst this
      exact ⟨.str (toStr s), ⟨t, rfl⟩, fun _ _ => .str rfl⟩
    · rename_i g a
      exact ⟨.ref a, rfl, fun _ _ => .glo (PySem.W.mg_of X Gn (eqO_ok e))⟩
    · rename_i xs a
      split at e
      · rename_i c dd its m sl q
        obtain ⟨h1, h2⟩ := ba e
        obtain ⟨h3, h4⟩ := ba h2
        obtain ⟨ys, rs, rvs⟩ := viAll_ok (fun v u => viB_ok X Gn n v u) h4
        refine ⟨.ref a, rfl, fun ρ H => .tup (ys := ys) (.inr ⟨_, its, m, q, congrArg Value.type (of_decide_eq_true h1), rfl, of_decide_eq_true h3, rs⟩) (rvs ρ H)⟩
      · cases e
    · cases e
def fldB (K : PySem.W.Frag) (x f : Str) : Bool := (Fa.cls x).ok K && (Fa.noat x f).ok K
theorem fldOk_nil {f : S} : FldOk K (GxOf K mg nm) [] f := fun c C h _ => nomatch h
theorem fldOk_cons {f : S} {c : Nat} {x : Str} {r : List Nat} (hn : nm c = some x) (hB : fldB K x (toStr f) = true) (t : FldOk K (GxOf K mg nm) r f) : FldOk K (GxOf K mg nm) (c :: r) f := fun d C h e => by
  rw [List.contains_cons] at h
  rcases Bool.or_eq_true_iff.mp h with q | q
  · have hd : d = c := by simpa using q
    subst hd
    rw [gx_ct e hn]
    obtain ⟨b1, b2⟩ := ba hB
    exact ⟨cls_ok b1, noat_ok b2⟩
  · exact t d C q e
def propAd (K : PySem.W.Frag) (x f : Str) : Addr := match PySem.W.findIn K (.ref (ga K x)) f with
  | some (some (.ref p)) => p
  | _ => 0
def propB (K : PySem.W.Frag) (x f : Str) (d : PySem.W.Frag → Addr) : Bool := (Fa.cls x).ok K && (eqO (PySem.W.findIn K (.ref (ga K x)) f) (some (some (.ref (propAd K x f)))) && (eqO (PySem.W.specialIn K (.ref (propAd K x f)) "__get__") (some (some (.builtin "property.__get__"))) &&
  (decide (PySem.W.takesIn K (.ref (propAd K x f)) = some true) && (match PySem.W.recIn K (propAd K x f) "property" with
    | some (.ref g :: _) => decide (g = d K)
    | _ => false))))
def getAd (x f : Str) (K : PySem.W.Frag) : Addr := match PySem.W.recIn K (propAd K x f) "property" with
  | some (.ref g :: _) => g
  | _ => 0
theorem propB_ok {x f : Str} {d : PySem.W.Frag → Addr} (hB : propB K x f d = true) : Cls K (ga K x) ∧ PropOf K (ga K x) f (propAd K x f) (d K) := by
  obtain ⟨b1, b2⟩ := ba hB
  obtain ⟨b3, b4⟩ := ba b2
  obtain ⟨b5, b6⟩ := ba b4
  obtain ⟨b7, b8⟩ := ba b6
  refine ⟨cls_ok b1, ⟨eqO_ok b3, eqO_ok b5, of_decide_eq_true b7, ?_⟩⟩
  split at b8
  · rename_i g rest q
    rw [← of_decide_eq_true b8]
    exact ⟨rest, q⟩
  · cases b8
theorem propOk_nil {Y : Cx} {f : S} : PropOk Y (GxOf Y.K mg nm) (lkT []) f := fun c C v h _ => nomatch h
theorem propOk_cons {Y : Cx} {f : S} {c : Nat} {g : MF} {x : Str} {d : PySem.W.Frag → Addr} {r : List (Nat × MF)} {k : Nat} {fd : FuncData} {ps : List Str} (hn : nm c = some x) (hB : propB Y.K x (toStr f) d = true) (F : FnP Y (GxOf Y.K mg nm) k (d Y.K) fd ps g) (hb : Binds Y.K fd ps [])
    (t : PropOk Y (GxOf Y.K mg nm) (lkT r) f) : PropOk Y (GxOf Y.K mg nm) (lkT ((c, g) :: r)) f := fun c' C w h e => by
  rcases lkT_cons h with ⟨q1, q2⟩ | q
  · subst q1 q2
    rw [gx_ct e hn]
    obtain ⟨b1, b2⟩ := propB_ok hB
    exact ⟨b1, _, _, _, _, _, b2, F.ar, F.ok, F.room.mono (by omega), hb⟩
  · exact t c' C w q e
def spB (K : PySem.W.Frag) (x m : Str) (d : PySem.W.Frag → Addr) : Bool := PySem.W.noSeq K (ga K x) && (eqO (PySem.W.findIn K (.ref (ga K x)) m) (some (some (.ref (d K)))) && (PySem.W.fnIn K (d K) && PySem.W.isFn K (.ref (d K))))
theorem spOk_nil {Y : Cx} {A : Around} {W : WX} {m : Str} : SpOk Y A (GxOf Y.K mg nm) W (lkT []) m := ⟨fun c C v h _ => nomatch h⟩
theorem spOk_cons {Y : Cx} {A : Around} {W : WX} {m : Str} {c : Nat} {g : MF} {x : Str} {d : PySem.W.Frag → Addr} {r : List (Nat × MF)} (hn : nm c = some x) (hB : spB Y.K x m d = true) (cm : CallAt Y A (GxOf Y.K mg nm) W (.ref (d Y.K)) g)
    (t : SpOk Y A (GxOf Y.K mg nm) W (lkT r) m) : SpOk Y A (GxOf Y.K mg nm) W (lkT ((c, g) :: r)) m := ⟨fun c' C w h e => by
  rcases lkT_cons h with ⟨q1, q2⟩ | q
  · subst q1 q2
    rw [gx_ct e hn]
    obtain ⟨b1, b2⟩ := ba hB
    obtain ⟨b3, b4⟩ := ba b2
    obtain ⟨b5, b6⟩ := ba b4
    exact ⟨_, b1, eqO_ok b3, b5, b6, cm⟩
  · exact t.at_ c' C w q e⟩
inductive ClsR where
  | ty (n : String) | own (x : Str)
def ClsR.val (K : PySem.W.Frag) : ClsR → Value
  | .ty n => .type n
  | .own x => .ref (ga K x)
def ClsR.v (K : PySem.W.Frag) : ClsR → V
  | .ty n => .ty n
  | .own x => .ref (ga K x)
theorem ClsR.ok (K : PySem.W.Frag) (c : ClsR) : ClsV (c.v K) (c.val K) := by
  cases c with
  | ty n => exact .ty n
  | own x => exact .own _
theorem ClsR.all (K : PySem.W.Frag) : ∀ cs : List ClsR, Paired ClsV (cs.map (ClsR.v K)) (cs.map (ClsR.val K))
  | [] => .nil
  | c :: r => .cons (c.ok K) (ClsR.all K r)
def isT1 (K : PySem.W.Frag) (cs : List ClsR) (T : String) (o : Option Bool) : Bool := match o with
  | some b => decide (PySem.W.kitAny K (.type T) (cs.map (ClsR.val K)) = some b)
  | none => true
def isI (K : PySem.W.Frag) (nm : Nat → Option Str) (cs : List ClsR) : List (Nat × Bool) → Bool
  | [] => true
  | (c, b) :: r => (match nm c with
    | some x => (Fa.cls x).ok K && (eqO (PySem.W.findIn K (.ref (ga K x)) "__class__") (some (some (.builtin "object.__class__"))) && (decide (PySem.W.mroIn K (ga K x) (.type "object") = some true) && decide (PySem.W.kitAny K (.ref (ga K x)) (cs.map (ClsR.val K)) = some b)))
    | none => false) && isI K nm cs r
structure IsS where
  non : Option Bool
  bl : Option Bool
  int : Option Bool
  str : Option Bool
  lst : Option Bool
  tup : Option Bool
  dic : Option Bool
  ins : List (Nat × Bool)
def IsS.t (s : IsS) : IsT := ⟨s.non, s.bl, s.int, s.str, s.lst, s.tup, s.dic, lkT s.ins⟩
def isB (K : PySem.W.Frag) (nm : Nat → Option Str) (cs : List ClsR) (s : IsS) : Bool := (isT1 K cs "NoneType" s.non && (isT1 K cs "bool" s.bl && (isT1 K cs "int" s.int && (isT1 K cs "str" s.str && (isT1 K cs "list" s.lst && (isT1 K cs "tuple" s.tup && (isT1 K cs "dict" s.dic))))))) &&
  (isI K nm cs s.ins && (eqO (PySem.W.specialIn K (.builtin "object.__class__") "__get__") (some (some (.builtin "getset_descriptor.__get__"))) && decide (PySem.W.takesIn K (.builtin "object.__class__") = some true)))
theorem isT1_ok {cs : List ClsR} {T : String} {o : Option Bool} (h : isT1 K cs T o = true) : ∀ b, o = some b → PySem.W.kitAny K (.type T) (cs.map (ClsR.val K)) = some b := fun b e => by
  subst e
  exact of_decide_eq_true h
theorem isI_ok {cs : List ClsR} : ∀ {l : List (Nat × Bool)}, isI K nm cs l = true → ∀ c C b, lkT l c = some b → (GxOf K mg nm).ct c = some C → Cls K C ∧ PySem.W.findIn K (.ref C) "__class__" = some (some (.builtin "object.__class__")) ∧ PySem.W.mroIn K C (.type "object") = some true ∧ PySem.W.kitAny K (.ref C) (cs.map (ClsR.val K)) = some b
  | [], _, c, C, b, h, _ => nomatch h
  | (d, v) :: r, hB, c, C, b, h, e => by
    obtain ⟨b1, b2⟩ := ba hB
    rcases lkT_cons h with ⟨q1, q2⟩ | q
    · subst q1 q2
      cases z : nm c with
      | none => rw [z] at b1; cases b1
      | some x =>
        rw [z] at b1
        obtain ⟨b3, b4⟩ := ba b1
        obtain ⟨b5, b6⟩ := ba b4
        obtain ⟨b7, b8⟩ := ba b6
        rw [gx_ct e z]
        exact ⟨cls_ok b3, eqO_ok b5, of_decide_eq_true b7, of_decide_eq_true b8⟩
    · exact isI_ok b2 c C b q e
theorem isOk_of {cs : List ClsR} {s : IsS} (h : isB K nm cs s = true) : IsOk K (GxOf K mg nm) (cs.map (ClsR.val K)) s.t := by
  obtain ⟨h1, h2⟩ := ba h
  obtain ⟨a1, h1⟩ := ba h1
  obtain ⟨a2, h1⟩ := ba h1
  obtain ⟨a3, h1⟩ := ba h1
  obtain ⟨a4, h1⟩ := ba h1
  obtain ⟨a5, h1⟩ := ba h1
  obtain ⟨a6, a7⟩ := ba h1
  obtain ⟨b1, b2⟩ := ba h2
  obtain ⟨b3, b4⟩ := ba b2
  exact ⟨isT1_ok a1, isT1_ok a2, isT1_ok a3, isT1_ok a4, isT1_ok a5, isT1_ok a6, isT1_ok a7, isI_ok b1, eqO_ok b3, of_decide_eq_true b4⟩
end
end ML
end
section
namespace ML
open PySem PySem.Spec PyProof.Rows L2 He
def lkS {α : Type} : List (S × α) → S → Option α
  | [], _ => none
  | (d, x) :: r, c => match decide (d = c) with
    | true => some x
    | false => lkS r c
section
variable {K : PySem.W.Frag} {h : Heap} {mg : Str → Option Value} {nm : Nat → Option Str}
end
structure GDef where
  at_ : PySem.W.Frag → Addr
  name : Str
  qual : Str
  params : Arguments
  body : List Stmt
  scope : Scope
  dfl : List Dv := []
  kwd : List (Str × Dv) := []
def fnG (K : PySem.W.Frag) (p : PySem.W.Frag → Addr) : FnW := match K.lookup (p K) with
  | some ⟨_, _, .func fd, _⟩ => some (fd.name, fd.qualname, fd.params, fd.body, fd.scope, fd.globals, fd.closure, fd.builtins)
  | _ => none
def GDef.val (d : GDef) : FnW := some (d.name, d.qual, d.params, .stmts d.body, d.scope, mainGlobals, [], builtinsNs)
def GDef.dvs (K : PySem.W.Frag) (d : GDef) : List V := d.dfl.map (Dv.v K)
def GDef.kws (K : PySem.W.Frag) (d : GDef) : List (Str × V) := d.kwd.map fun q => (q.1, q.2.v K)
def GDef.ok (K : PySem.W.Frag) (d : GDef) : Bool := PySem.W.keepIn K (.ref (d.at_ K)) && (match K.lookup (d.at_ K) with
  | some ⟨_, _, .func fd, _⟩ => PySem.W.codeIn K fd.code d.qual && (dflB K fd.defaults (d.dvs K) && kwdB K fd.kwdefaults (d.kws K))
  | _ => false)
theorem GDef.funD {K : PySem.W.Frag} {d : GDef} (e : fnG K d.at_ = d.val) (c : d.ok K = true) : ∃ fd, FunD K d.name d.qual d.params d.body d.scope (d.dvs K) (d.kws K) (d.at_ K) fd := by
  obtain ⟨kp, c2⟩ := ba c
  unfold fnG at e
  cases q : K.lookup (d.at_ K) with
  | none => rw [q] at c2; cases c2
  | some o =>
    obtain ⟨oc, od, dt, osl⟩ := o
    rw [q] at c2 e
    cases dt with
    | func fd =>
      obtain ⟨n1, n2, n3, n4, n5, n6, n7, n8, n9, n10, n11, n12, n13, n14, n15⟩ := fd
      have e2 : (some (n1, n2, n3, n4, n5, n6, n7, n15) : FnW) = some (d.name, d.qual, d.params, .stmts d.body, d.scope, mainGlobals, [], builtinsNs) := e
      simp only [Option.some.injEq, Prod.mk.injEq] at e2
      obtain ⟨h1, h2, h3, h4, h5, h6, h7, h8⟩ := e2
      subst h1 h2 h3 h4 h5 h6 h7 h8
      obtain ⟨k1, k2⟩ := ba (show (PySem.W.codeIn K n13 d.qual && (dflB K n8 (d.dvs K) && kwdB K n9 (d.kws K))) = true from c2)
      obtain ⟨k3, k4⟩ := ba k2
      exact ⟨_, ⟨oc, od, n8, n9, n10, n11, n12, n13, n14, osl, rfl, q, k1, dflB_ok k3, kwdB_ok k4⟩, kp⟩
    | _ => cases c2
structure SDef where
  at_ : PySem.W.Frag → Addr
  name : Str
  qual : Str
  params : Arguments
  body : List Stmt
  scope : Scope
  kwd : List (Str × Dv) := []
  cls : Str
  file : Str
abbrev FnS : Type := Option (Str × Str × Arguments × FuncBody × Scope × Addr × Addr)
def fnS (K : PySem.W.Frag) (p : PySem.W.Frag → Addr) : FnS := match K.lookup (p K) with
  | some ⟨_, _, .func fd, _⟩ => some (fd.name, fd.qualname, fd.params, fd.body, fd.scope, fd.globals, fd.builtins)
  | _ => none
def SDef.val (d : SDef) : FnS := some (d.name, d.qual, d.params, .stmts d.body, d.scope, mainGlobals, builtinsNs)
def SDef.kws (K : PySem.W.Frag) (d : SDef) : List (Str × V) := d.kwd.map fun q => (q.1, q.2.v K)
def fdOf (K : PySem.W.Frag) (p : PySem.W.Frag → Addr) : FuncData := match K.lookup (p K) with
  | some ⟨_, _, .func fd, _⟩ => fd
  | _ => PySem.W.fnX Str.empty Str.empty ⟨[], [], none, [], [], none, []⟩ [] ⟨.function, [], false, false, []⟩ [] .none .none .none .none none .none .none
def cdAd (K : PySem.W.Frag) (p : PySem.W.Frag → Addr) : Addr := match (fdOf K p).code with
  | .ref c => c
  | _ => 0
def clAd (K : PySem.W.Frag) (p : PySem.W.Frag → Addr) : Addr := match (fdOf K p).closure with
  | [(_, c)] => c
  | _ => 0
def SDef.ok (K : PySem.W.Frag) (d : SDef) : Bool := PySem.W.keepIn K (.ref (d.at_ K)) && ((match K.lookup (d.at_ K) with
  | some ⟨_, _, .func fd, _⟩ => decide (fd.closure = [(("__class__" : Str), clAd K d.at_)]) && (decide (fd.code = .ref (cdAd K d.at_)) && (dflB K fd.defaults [] && kwdB K fd.kwdefaults (d.kws K)))
  | _ => false) && (PySem.W.codeIn K (.ref (cdAd K d.at_)) d.qual && ((match K.lookup (cdAd K d.at_) with
    | some ⟨_, _, .fields vs, _⟩ => (match (vs[2]? : Option Value) with
      | some (.str f _) => decide (f = d.file)
      | _ => false)
    | _ => false) && (match K.lookup (clAd K d.at_) with
      | some ⟨_, _, .cell (some (.ref D)), _⟩ => decide (D = ga K d.cls)
      | _ => false))))
theorem SDef.funS {K : PySem.W.Frag} {d : SDef} (e : fnS K d.at_ = d.val) (c : d.ok K = true) : FunS K d.name d.qual d.params d.body d.scope [] (d.kws K) (d.at_ K) (fdOf K d.at_) (clAd K d.at_) (ga K d.cls) (cdAd K d.at_) d.file := by
  obtain ⟨kp, c⟩ := ba c
  obtain ⟨c1, c⟩ := ba c
  obtain ⟨c2, c⟩ := ba c
  obtain ⟨c3, c4⟩ := ba c
  refine ⟨?_, c2, ?_, ?_, kp⟩
  · unfold fnS at e
    unfold fdOf
    cases q : K.lookup (d.at_ K) with
    | none => rw [q] at c1; cases c1
    | some o =>
      obtain ⟨oc, od, dt, osl⟩ := o
      rw [q] at c1 e
      cases dt with
      | func fd =>
        obtain ⟨n1, n2, n3, n4, n5, n6, n7, n8, n9, n10, n11, n12, n13, n14, n15⟩ := fd
        have e2 : (some (n1, n2, n3, n4, n5, n6, n15) : FnS) = some (d.name, d.qual, d.params, .stmts d.body, d.scope, mainGlobals, builtinsNs) := e
        simp only [Option.some.injEq, Prod.mk.injEq] at e2
        obtain ⟨h1, h2, h3, h4, h5, h6, h8⟩ := e2
        subst h1 h2 h3 h4 h5 h6 h8
        obtain ⟨k1, c5⟩ := ba (show (decide (n7 = [(("__class__" : Str), clAd K d.at_)]) && (decide (n13 = .ref (cdAd K d.at_)) && (dflB K n8 [] && kwdB K n9 (d.kws K)))) = true from c1)
        obtain ⟨k2, c6⟩ := ba c5
        obtain ⟨k3, k4⟩ := ba c6
        have k1 := of_decide_eq_true k1
        have k2 := of_decide_eq_true k2
        subst k1 k2
        exact ⟨oc, od, n8, n9, n10, n11, n12, n14, osl, rfl, rfl, dflB_ok k3, kwdB_ok k4⟩
      | _ => cases c1
  · cases q : K.lookup (cdAd K d.at_) with
    | none => rw [q] at c3; cases c3
    | some o =>
      obtain ⟨oc, od, dt, osl⟩ := o
      rw [q] at c3
      cases dt with
      | fields vs =>
        dsimp only at c3
        split at c3
        · rename_i f t z
          rw [← of_decide_eq_true c3]
          exact ⟨_, vs, t, rfl, rfl, z⟩
        · cases c3
      | _ => cases c3
  · split at c4
    · rename_i D sl q
      rw [← of_decide_eq_true c4]
      exact ⟨_, q, rfl⟩
    · cases c4
def noLstB (K : PySem.W.Frag) : Bool := K.all fun p => match p.2.cls with
  | .type t => !decide (t = "list")
  | _ => true
theorem mem_lk {a : Addr} {o : Obj} : ∀ {K : List (Addr × Obj)}, K.lookup a = some o → (a, o) ∈ K
  | [], h => by cases h
  | (b, u) :: r, h => by
    rw [List.lookup_cons] at h
    cases q : a == b with
    | true =>
      rw [q] at h
      cases h
      rw [beq_iff_eq.mp q]
      exact List.mem_cons_self
    | false =>
      rw [q] at h
      exact List.mem_cons_of_mem _ (mem_lk h)
theorem noLst_ok {K : PySem.W.Frag} (h : noLstB K = true) {a : Addr} {o : Obj} (e : K.lookup a = some o) : o.cls ≠ .type "list" := fun z => by
  have m : (a, o) ∈ K := mem_lk e
  have := List.all_eq_true.mp h _ m
  dsimp only at this
  rw [z] at this
  cases this
structure MSpec where
  fn : List GDef
  sf : List SDef
  ts : List Tab
  ex : List (PySem.W.Frag → Bool)
abbrev AlM : Type := Bool × List FnW × List FnS × List (Option (List (Option (Str × Int))))
def obsM (m : MSpec) (K : PySem.W.Frag) : AlM := ((m.ex.all fun f => f K) && ((m.fn.all fun d => d.ok K) && (m.sf.all fun d => d.ok K)), m.fn.map fun d => fnG K d.at_, m.sf.map fun d => fnS K d.at_, m.ts.map fun t => dicW K (t.1 K))
def valM (m : MSpec) (w : World) : AlM := (true, m.fn.map GDef.val, m.sf.map SDef.val, m.ts.map fun t => some (keysIn w.params t.2))
def SaysM (m : MSpec) (w : World) (K : PySem.W.Frag) : Prop := obsM m K = valM m w
section
variable {m : MSpec} {w : World} {K : PySem.W.Frag}
theorem SaysM.b (c : SaysM m w K) : (m.ex.all fun f => f K) = true ∧ (m.fn.all fun d => d.ok K) = true ∧ (m.sf.all fun d => d.ok K) = true := by
  have e : ((m.ex.all fun f => f K) && ((m.fn.all fun d => d.ok K) && (m.sf.all fun d => d.ok K))) = true := congrArg (fun z : AlM => z.1) c
  obtain ⟨e1, e2⟩ := ba e
  obtain ⟨e3, e4⟩ := ba e2
  exact ⟨e1, e3, e4⟩
theorem SaysM.ex (c : SaysM m w K) (i : Nat) {f : PySem.W.Frag → Bool} (h : m.ex[i]? = some f := by rfl) : f K = true := List.all_eq_true.mp c.b.1 f (List.mem_of_getElem? h)
theorem SaysM.def_ (c : SaysM m w K) (i : Nat) {d : GDef} (h : m.fn[i]? = some d := by rfl) : FunD K d.name d.qual d.params d.body d.scope (d.dvs K) (d.kws K) (d.at_ K) (fdOf K d.at_) := by
  have e : m.fn.map (fun d => fnG K d.at_) = m.fn.map GDef.val := congrArg (fun z : AlM => z.2.1) c
  have e2 : (m.fn.map fun d => fnG K d.at_)[i]? = (m.fn.map GDef.val)[i]? := by rw [e]
  rw [List.getElem?_map, List.getElem?_map, h] at e2
  obtain ⟨fd, F⟩ := GDef.funD (Option.some.inj e2) (List.all_eq_true.mp c.b.2.1 d (List.mem_of_getElem? h))
  have : fdOf K d.at_ = fd := by
    obtain ⟨oc, od, dV, kV, doc, pm, an, cdv, ct, osl, _, lk, _⟩ := F.ex
    unfold fdOf
    rw [lk]
  rw [this]
  exact F
theorem SaysM.sup (c : SaysM m w K) (i : Nat) {d : SDef} (h : m.sf[i]? = some d := by rfl) : FunS K d.name d.qual d.params d.body d.scope [] (d.kws K) (d.at_ K) (fdOf K d.at_) (clAd K d.at_) (ga K d.cls) (cdAd K d.at_) d.file := by
  have e : m.sf.map (fun d => fnS K d.at_) = m.sf.map SDef.val := congrArg (fun z : AlM => z.2.2.1) c
  have e2 : (m.sf.map fun d => fnS K d.at_)[i]? = (m.sf.map SDef.val)[i]? := by rw [e]
  rw [List.getElem?_map, List.getElem?_map, h] at e2
  exact SDef.funS (Option.some.inj e2) (List.all_eq_true.mp c.b.2.2 d (List.mem_of_getElem? h))
end
end ML
end
section
namespace ML
open PySem PySem.Spec PyProof.Rows L2 He
abbrev Defn := PySem.W.Frag → Addr
abbrev gA (x : Str) : Defn := fun K => ga K x
abbrev mA (x m : Str) : Defn := fun K => He.ma K (ga K x) m
structure Ev (m : MSpec) (w : World) (K : PySem.W.Frag) (mg : Str → Option Value) : Prop where
  says : SaysM m w K
  hh : ∃ h : Heap, K.In h ∧ h.Ns mainGlobals mg
section
variable {m : MSpec} {w : World} {K : PySem.W.Frag} {mg : Str → Option Value}
theorem Ev.glo (e : Ev m w K mg) (i : Nat) {x : Str} (h : m.ex[i]? = some (fun K => (Fa.glo x).ok K) := by rfl) : mg x = some (.ref (ga K x)) := let ⟨_, X, G⟩ := e.hh; glo_ok X G (e.says.ex i h)
theorem Ev.free (e : Ev m w K mg) (i : Nat) {x : Str} (h : m.ex[i]? = some (fun K => (Fa.free x).ok K) := by rfl) : mg x = none := let ⟨_, X, G⟩ := e.hh; free_ok X G (e.says.ex i h)
def mkB (K : PySem.W.Frag) (x : Str) (q : PySem.W.Frag → Addr) : Bool := (Fa.mkr x).ok K && decide (He.ma K (ga K x) "__init__" = q K)
def gvB (K : PySem.W.Frag) (x : Str) (v : VI) : Bool := match PySem.W.nsIn K mainGlobals x with
  | some (some u) => viB 8 K v u
  | _ => false
end
section
variable {G : Gx} {W : WX} {X : Cx} {e a b : Expr} {es : List Expr} {pos p : Pos} {ma : MA} {x : Str} {m : MSpec} {nm : Nat → Option Str}
theorem xv (i : Nat) (hN : X.N[i]? = some x := by rfl) (hv : Vis X.env.scope x := by first | exact .inl rfl | exact .inr (.inl rfl) | exact .inr (.inr rfl)) (hd : (x == ("__debug__" : Str)) = false := by decide) (hcd : (x == ("__classdict__" : Str)) = false := by decide) :
    PE X (.Name x pos) (rdE G W (eV i)) := me_var hN hv hd hcd
theorem xval {v : VI} (E : Ev m X.w X.K X.mg) (i : Nat) (hg : Gl X x) (h : m.ex[i]? = some (fun K => gvB K x v) := by rfl) (hd : (x == ("__debug__" : Str)) = false := by decide) : PE X (.Name x pos) (rdE (GxOf X.K X.mg nm) W (eC v)) := by
  have q := E.says.ex i h
  obtain ⟨hp, XI, Gn⟩ := E.hh
  unfold gvB at q
  split at q
  · rename_i u z
    obtain ⟨y, ry, rv⟩ := viB_ok XI Gn 8 v u q
    exact me_glob hg (PySem.W.mg_of XI Gn z) ry rv hd
  · cases q
structure DOk (P : Program) (w : World) (K : PySem.W.Frag) (mg : Str → Option Value) (base : Heap) (nm : Nat → Option Str) (k : Nat) (p : Defn) (ps : List Str) (g : MF) : Prop where
  ok : FnOk P w K mg base (L2.CX P w) k (p K) (fdOf K p) ps (spM (GxOf K mg nm) ps.length g)
  ar : Arity ps.length g
  kp : PySem.W.keepIn K (.ref (p K)) = true
abbrev XOk (X : Cx) (nm : Nat → Option Str) (k : Nat) (p : Defn) (ps : List Str) (g : MF) : Prop := DOk X.prog X.w X.K X.mg X.base nm k p ps g
abbrev BOk (K : PySem.W.Frag) (p : Defn) (ps : List Str) : Prop := Binds K (fdOf K p) ps []
theorem DOk.fp {k k' : Nat} {q : Defn} {ps : List Str} {g : MF} (d : XOk X nm k q ps g) (hr : Room k' X.A) (h : k + 2 ≤ k' := by decide) : FnP X (GxOf X.K X.mg nm) k (q X.K) (fdOf X.K q) ps g := ⟨d.ok, d.ar, hr.mono h⟩
theorem xcm {k k' : Nat} {q : Defn} {ps : List Str} {g : MF} (d : XOk X nm k q ps g) (bn : BOk X.K q ps) (hr : Room k' X.A) (tk : Takes X W) (h : k + 2 ≤ k' := by decide) : CallM X (GxOf X.K X.mg nm) W (.ref (q X.K)) g := (d.fp hr h).call bn tk
theorem xca1 {k k' : Nat} {q : Defn} {ps : List Str} {g : MF} (d : XOk X nm k q ps g) (bn : BOk X.K q ps) (hr : Room k' X.A) (tk : Takes X W) (h : k + 2 ≤ k' := by decide) : CallAt X X.A.in1 (GxOf X.K X.mg nm) W (.ref (q X.K)) g := (d.fp hr h).at1 bn tk
theorem xca0 {k k' : Nat} {q : Defn} {ps : List Str} {g : MF} (d : XOk X nm k q ps g) (bn : BOk X.K q ps) (hr : Room k' X.A) (tk : Takes X W) (h : k + 2 ≤ k' := by decide) : CallAt X X.A (GxOf X.K X.mg nm) W (.ref (q X.K)) g := (d.fp hr h).at0 bn tk
theorem xcall {k k' : Nat} {x : Str} {ps : List Str} {g : MF} (d : XOk X nm k (gA x) ps g) (bn : BOk X.K (gA x) ps) (hr : Room k' X.A) (tk : Takes X W) (hm : X.mg x = some (.ref (ga X.K x))) (ha : PA X (e :: es) (rdA (GxOf X.K X.mg nm) W ma)) (h : k + 2 ≤ k' := by decide)
    (hg : Gl X x := by rfl) (hdb : (x == ("__debug__" : Str)) = false := by decide) (he : starEach (e :: es) X.env = (false, eval e X.env) :: starEach es X.env := by rfl) (hpl : (backTo pos (starEach es X.env)).any (·.1) = false := by rfl) :
    PE X (.Call (.Name x p) (e :: es) [] pos) (rdE (GxOf X.K X.mg nm) W (eCall g ma)) := me_call (xcm d bn hr tk h) hg hm d.kp ha hdb he hpl
theorem xcall0 {k k' : Nat} {x : Str} {ps : List Str} {g : MF} (d : XOk X nm k (gA x) ps g) (bn : BOk X.K (gA x) ps) (hr : Room k' X.A) (tk : Takes X W) (hm : X.mg x = some (.ref (ga X.K x))) (h : k + 2 ≤ k' := by decide)
    (hg : Gl X x := by rfl) (hdb : (x == ("__debug__" : Str)) = false := by decide) : PE X (.Call (.Name x p) [] [] pos) (rdE (GxOf X.K X.mg nm) W (eCall g aNil)) := me_call0 (xcm d bn hr tk h) hg hm d.kp hdb
theorem xmk {k k' c : Nat} {x : Str} {q : Defn} {ps : List Str} {g : MF} (E : Ev m X.w X.K X.mg) (d : XOk X nm k q ps g) (bn : BOk X.K q ps) (hr : Room k' X.A) (tk : Takes X W) (j : Nat) (hc : nm c = some x)
    (hj : m.ex[j]? = some (fun K => mkB K x q) := by rfl) (h : k + 2 ≤ k' := by decide) : CallM X (GxOf X.K X.mg nm) W (.ref (ga X.K x)) (mkM c g) ∧ PySem.W.keepIn X.K (.ref (ga X.K x)) = true := by
  obtain ⟨h1, h2⟩ := ba (E.says.ex j hj)
  have M := mkr_ok h1
  rw [of_decide_eq_true h2] at M
  exact ⟨callM_make M (by show (nm c).map _ = _; rw [hc]; rfl) d.ok d.ar (hr.mono (show k + 1 ≤ k' by omega)) bn tk, M.kp⟩
theorem xmkc {f : MF} {x : Str} (c : CallM X G W (.ref (ga X.K x)) f ∧ PySem.W.keepIn X.K (.ref (ga X.K x)) = true) (hm : X.mg x = some (.ref (ga X.K x))) (ha : PA X (e :: es) (rdA G W ma)) (hg : Gl X x := by rfl) (hdb : (x == ("__debug__" : Str)) = false := by decide)
    (he : starEach (e :: es) X.env = (false, eval e X.env) :: starEach es X.env := by rfl) (hpl : (backTo pos (starEach es X.env)).any (·.1) = false := by rfl) : PE X (.Call (.Name x p) (e :: es) [] pos) (rdE G W (eCall f ma)) := me_call c.1 hg hm c.2 ha hdb he hpl
end
end ML
end
section
namespace ML
open PySem PySem.Spec PyProof.Rows L2 He
theorem aCons1 {a : ME} : ∀ σ h vs h1, aCons a aNil σ h = .ok vs h1 → vs.length = 1 := fun σ h vs h1 e => by
  unfold aCons at e
  cases q : a σ h with
  | ok x h2 => rw [q] at e; cases e; rfl
  | ex c n h2 => rw [q] at e; cases e
  | err => rw [q] at e; cases e
def enlOf : VI → Hi → Option Itm := fun v h => match v with
  | .ref n => match listAt n h with
    | some _ => some (.enl n)
    | none => none
  | _ => none
def iEnumM (e : ME) : MI := fun σ h => (e σ h).bind fun v h1 => ofI (enlOf v h1) h1
section
variable {G : Gx} {W : WX} {X : Cx} {e : Expr} {me : ME} {ρ : List Addr} {H : Hp} {p pos tpos : Pos} {elts : List Expr} {kk : Nat}
end
theorem hu1 {k : Nat} {A : Around} (r : Room k A) : A.units + 1 < cLine := by have := r.un; omega
theorem hu64 {k : Nat} {A : Around} (r : Room k A) : A.units + 64 < cLine := by have := r.un; omega
section
variable {K : PySem.W.Frag} {x qual : Str} {params : Arguments} {body : List Stmt} {scope : Scope} {dvs : List V} {kws : List (Str × V)} {f cc D c : Addr} {fd : FuncData} {file : Str} {ps : List Str}
theorem FunS.bindsN (F : FunS K x qual params body scope [] kws f fd cc D c file)
    (h : ∀ (kV doc pm : Value) (an : Option Addr) (cdv ct : Value) (us : List Value), us.length = ps.length → bindArgs (PySem.W.fnX x qual params body scope [("__class__", cc)] .none kV doc pm an cdv ct) ⟨us, []⟩ = pure (ps.zip us)) : Binds K fd ps [] := by
  obtain ⟨oc, od, dV, kV, doc, pm, an, ct, osl, rfl, lk, hD, hK⟩ := F.ex
  rcases hD with ⟨_, rfl⟩ | ⟨e, _⟩
  · exact .all (h kV doc pm an _ ct)
  · exact absurd rfl e
end
section
variable {G : Gx} {W : WX} {X : Cx} {a b c : Expr} {pos : Pos} {ma mb mc : ME} {f g : Op2}
theorem tOf_rd {me : ME} {σ : L2.St} {H : Hp} {Q : Bool → Hp → Prop} (r : rdT G W (tOf me) σ H Q) : rdE G W me σ H fun x H' => ∃ k, x = .bl k ∧ Q k H' :=
  let ⟨_, _, _, as, ag, f⟩ := r
  rdG_go as ag f fun ρ1 H1 h1 x x' st as ag r f => by
    cases r with
    | bl b => exact ⟨b, rfl, f.ok ag rfl⟩
    | _ => exact f.elim
theorem mt_cmpR {op : CmpOp} (ho : OpR X (compareOp op) (rd2 G f)) (ha : PE X a (rdE G W ma)) (hb : PE X b (rdE G W mb)) (hm : behindInMarks op b = false) : PT X (.Compare a [op] [b] pos) (rdT G W (tOf (eBin f ma mb))) :=
  PT.imp' (pt_cmpR ho ha hb hm) fun σ H Q r => by
    obtain ⟨ρ, σi, h, as, ag, f⟩ := tOf_rd r
    exact rdG_go as ag f fun ρ1 H1 h1 x x' st as ag r f => rdG_go as ag f fun ρ2 H2 h2 y y' st2 as ag rs f => ⟨ρ2, h2, x, y, ag, r.mono st2, rs, FinO.of f⟩
end
def sPar (i j : Nat) (ma : MA) : MS := fun σ h => (ma σ h).bindS σ fun vs h1 => match vs with
  | [v, w] => .nx ((σ.set i (some v)).set j (some w)) h1
  | _ => .err
def sPar3 (i j l : Nat) (ma : MA) : MS := fun σ h => (ma σ h).bindS σ fun vs h1 => match vs with
  | [u, v, w] => .nx (((σ.set i (some u)).set j (some v)).set l (some w)) h1
  | _ => .err
section
variable {G : Gx} {W : WX} {X : Cx} {a b c : Expr} {pos : Pos} {ma : MA} {i j l : Nat} {x y z : Str} {px py pz pt : Pos} {kt : Nat} {k2 : Nat} {pt2 : Pos}
theorem ms_par (hc : X.calm = true) (hN : X.N.Nodup) (hi : X.N[i]? = some x) (hj : X.N[j]? = some y) (hij : i ≠ j) (hx : X.env.scope.names.lookup x = some .local) (hy : X.env.scope.names.lookup y = some .local) (ha : PA X [a, b] (rdA G W ma))
    (hw : swappedStores [.Tuple [.Name x px, .Name y py] kt pt] (.Tuple [a, b] k2 pt2) X.env = pure (some [x, y])) (hs : swapsWithSole [.Tuple [.Name x px, .Name y py] kt pt] (.Tuple [a, b] k2 pt2) pos.line X.env = pure false := by rfl) :
    PS X (.Assign [.Tuple [.Name x px, .Name y py] kt pt] (.Tuple [a, b] k2 pt2) pos) (rdS G W (sPar i j ma)) :=
  PS.imp' (ps_par hc hN hi hj hij hx hy ha hw hs) fun D σ H ⟨ρ, σi, h, as, ag, fin⟩ => rdS_go as ag fin fun ρ1 H1 h1 vs ys st as ag r f => by
    cases r with
    | nil => exact f.elim
    | cons r1 t =>
      cases t with
      | nil => exact f.elim
      | cons r2 t =>
        cases t with
        | nil => exact ⟨_, _, rfl, f.nx ag ((as.set r1 i).set r2 j)⟩
        | cons _ _ => exact f.elim
end
end ML
end
section
namespace ML
open PySem PySem.Spec PyProof.Rows L2 He
inductive TyI where
  | bt (T : String) | own (c : Nat)
def tyI (y : VI) (h : Hi) : Option TyI := match y with
  | .non => some (.bt "NoneType")
  | .bl _ => some (.bt "bool")
  | .int _ => some (.bt "int")
  | .str _ => some (.bt "str")
  | .tup _ => some (.bt "tuple")
  | .ref n => match h[n]? with
    | some (.lst _) => some (.bt "list")
    | some (.scr _) => some (.bt "list")
    | some (.dic _) => some (.bt "dict")
    | some (.ins c _) => some (.own c)
    | _ => none
  | .glo _ => none
def boolR : Res VI → Res VI
  | .ok (.bl b) h => .ok (.bl b) h
  | .ex c n h => .ex c n h
  | _ => .err
def nfI (cs : List Nat) : Option TyI → Bool
  | some (.bt _) => true
  | some (.own c) => cs.contains c
  | none => false
def eCmpU (cs : List Nat) (tbl : Nat → Option MF) (f : Op2) (a b : ME) : ME := fun σ h => (a σ h).bind fun x h1 => (b σ h1).bind fun y h2 => match insC x h2 with
  | some c => match tbl c, nfI cs (tyI y h2) with
    | some g, true => boolR (g [x, y] h2)
    | _, _ => .err
  | none => ofO (f x y h2)
structure NfOk (K : PySem.W.Frag) (G : Gx) (cs : List Nat) (tbl : Nat → Option MF) : Prop where
  bt : ∀ c C g T, tbl c = some g → G.ct c = some C → T ∈ ["NoneType", "bool", "int", "str", "tuple", "list", "dict"] → PySem.W.notFirst K C (.type T) = true
  own : ∀ c C g c' C', tbl c = some g → G.ct c = some C → cs.contains c' = true → G.ct c' = some C' → PySem.W.notFirst K C (.ref C') = true
section
variable {G : Gx} {ρ : List Addr} {h : Hi} {H : Hp} {W : WX} {X : Cx} {A : Around} {e a b c o i v : Expr} {es : List Expr} {pos p pos' apos : Pos} {me mi mo ma mb mv : ME} {mr : MA} {tbl : Nat → Option MF} {σ : L2.St} {cs : List Nat} {f : Op2}
theorem looks_at {M : Model} {hp : Heap} {a : Addr} {ob : Obj} {t : Value} (e : hp.get? a = some ob) (ec : ob.cls = t) : PySem.W.Looks M hp (typeOf (.ref a)) t := fun A Q E s k q => wpAny_typeOf_ref (k _ _ e) (by rw [ec]; exact q)
theorem tyI_ok (hG : G.K = X.K) {pins : List (Addr × Obj)} {s : Shared} (I : Inv X pins σ H s) {y : VI} {x : V} {u : Value} (ag : Ag G ρ h H) (r : RV G ρ H y x) (ru : RelV x u) {T : TyI} (e : tyI y h = some T) :
    (∃ t, T = .bt t ∧ t ∈ ["NoneType", "bool", "int", "str", "tuple", "list", "dict"] ∧ PySem.W.Looks (model X.prog X.w) s.heap (typeOf u) (.type t)) ∨ (∃ c C, T = .own c ∧ G.ct c = some C ∧ PySem.W.Looks (model X.prog X.w) s.heap (typeOf u) (.ref C)) := by
  unfold tyI at e
  cases r with
  | non => cases e; cases (show u = Value.none from ru); exact .inl ⟨_, rfl, by simp, .now⟩
  | bl q => cases e; cases (show u = Value.bool q from ru); exact .inl ⟨_, rfl, by simp, .now⟩
  | int q => cases e; obtain ⟨t, z⟩ := (show ∃ t, u = Value.int q t from ru); subst z; exact .inl ⟨_, rfl, by simp, .now⟩
  | str q => cases e; obtain ⟨t, z⟩ := (show ∃ t, u = Value.str _ t from ru); subst z; exact .inl ⟨_, rfl, by simp, .now⟩
  | glo q => cases e
  | @tup xs ys ad t rs =>
    cases e
    cases (show u = Value.ref ad from ru)
    rw [hG] at t
    obtain ⟨its, _, ⟨ob, h1, h2, _⟩, _⟩ := I.tuple t
    exact .inl ⟨_, rfl, by simp, looks_at h1 h2⟩
  | @ref n ad q =>
    cases (show u = Value.ref ad from ru)
    dsimp only at e
    cases q1 : h[n]? with
    | none => rw [q1] at e; cases e
    | some ob =>
      rw [q1] at e
      cases ob with
      | lst xs =>
        cases e
        obtain ⟨ys, hy, _⟩ := ag.at_ q1 q
        obtain ⟨⟨ob, h1, h2⟩, _⟩ := tyV_is (T := "list") I (x := .ref ad) (v := .ref ad) rfl (.inl ⟨rfl, ys, .inl (.inl hy)⟩)
        exact .inl ⟨_, rfl, by simp, looks_at h1 h2⟩
      | scr xs =>
        cases e
        obtain ⟨ob, ys, hy, _⟩ := ag.at_ q1 q
        obtain ⟨⟨ob, h1, h2⟩, _⟩ := tyV_is (T := "list") I (x := .ref ad) (v := .ref ad) rfl (.inl ⟨rfl, ys, .inl (.inr ⟨_, hy⟩)⟩)
        exact .inl ⟨_, rfl, by simp, looks_at h1 h2⟩
      | dic xs =>
        cases e
        obtain ⟨ys, hy, _⟩ := ag.at_ q1 q
        obtain ⟨⟨ob, h1, h2⟩, _⟩ := tyV_is (T := "dict") I (x := .ref ad) (v := .ref ad) rfl (.inr (.inr (.inl ⟨rfl, .inl ⟨_, hy⟩⟩)))
        exact .inl ⟨_, rfl, by simp, looks_at h1 h2⟩
      | ins c fs =>
        cases e
        obtain ⟨C, dx, gs, hc, hH, rf⟩ := insAt ag q1 q
        obtain ⟨m, hF, ox, od, J⟩ := insC_look I hH
        exact .inr ⟨c, C, rfl, hc, J.type⟩
      | xd fs => cases e
theorem boolR_fin {Q : VK} {W : Value → Option Addr → Hp → Prop} (r : Res VI) (fr : FinG G ρ H (RV G) Q W (boolR r)) : FinG G ρ H (RV G) (fun x H' => ∃ b, x = V.bl b ∧ Q x H') W r := by
  cases r with
  | ok v h' =>
    cases v with
    | bl b =>
      intro ρ' H' x st ag' rx
      cases rx
      exact ⟨b, rfl, fr ρ' H' _ st ag' (.bl b)⟩
    | _ => exact fr.elim
  | ex c n h' => exact fr
  | err => exact fr.elim
def RdU (G : Gx) (W : WX) (σ : L2.St) (cs : List Nat) (tbl : Nat → Option MF) (f : Op2) (Q : VK) (x y : V) (H2 : Hp) : Prop :=
  rd2 G f x y H2 Q ∨ ∃ ρ2 h2 xi yi cn g, Ag G ρ2 h2 H2 ∧ RV G ρ2 H2 xi x ∧ RV G ρ2 H2 yi y ∧ insC xi h2 = some cn ∧ tbl cn = some g ∧ nfI cs (tyI yi h2) = true ∧ FinG G ρ2 H2 (RV G) Q (fun c d H' => W c d σ H') (boolR (g [xi, yi] h2))
theorem cmpU_rd {Q : VK} (q : rdE G W (eCmpU cs tbl f ma mb) σ H Q) : rdE G W ma σ H fun x H1 => rdE G W mb σ H1 fun y H2 => RdU G W σ cs tbl f Q x y H2 := by
  obtain ⟨ρ, σi, h, as, ag, fin⟩ := q
  exact rdG_go as ag fin fun ρ1 H1 h1 x x' st as ag r f => rdG_go as ag f fun ρ2 H2 h2 y y' st2 as ag rs f => by
      cases q1 : insC x h2 with
      | none => rw [q1] at f; exact .inl ⟨ρ2, h2, x, y, ag, r.mono st2, rs, FinO.of f⟩
      | some cn =>
        rw [q1] at f
        dsimp only at f
        cases q2 : tbl cn with
        | none => rw [q2] at f; exact f.elim
        | some g =>
          rw [q2] at f
          cases q3 : nfI cs (tyI y h2) with
          | false => rw [q3] at f; exact f.elim
          | true => rw [q3] at f; exact .inr ⟨ρ2, h2, x, y, cn, g, ag, r.mono st2, rs, q1, q2, q3, f⟩
theorem cmpU_run {op : CmpOp} {nm : Str} (hop : ∀ a b, compareOp op a b = richCompare op a b) (hnm : (cmpInfo op).2.1 = nm) (hG : G.K = X.K) (hu : X.A.units < cLine) (sp : SpOk X X.A G W tbl nm) (nf : NfOk X.K G cs tbl) (ho : OpR X (compareOp op) (rd2 G f))
    {pins : List (Addr × Obj)} {s2 : Shared} {H2 : Hp} {x y : V} {v u : Value} {Q : VK} (I2 : Inv X pins σ H2 s2) (rx : RelV x v) (ry : RelV y u) (q : RdU G W σ cs tbl f Q x y H2) : wpAny (model X.prog X.w) X.A (compareOp op v u) (EP X pins σ Q) X.xe s2 := by
  rcases q with q | ⟨ρ2, h2, xi, yi, cn, g, ag2, r1, r2, q1, q2, q3, fi⟩
  · exact ho pins s2 σ H2 x y v u Q I2 rx ry q
  · obtain ⟨ad, C, dx, gs, ex, hc, hH⟩ := insC_ok ag2 r1 q1
    subst ex
    obtain rfl : v = Value.ref ad := rx
    obtain ⟨f', k1, k2, k3, k4, k5⟩ := sp.at_ cn C g q2 hc
    obtain ⟨m, hF, ox, od, J⟩ := insC_look I2 hH
    have ty : ∃ t, PySem.W.Looks (model X.prog X.w) s2.heap (typeOf u) t ∧ PySem.W.notFirst X.K C t = true := by
      cases q4 : tyI yi h2 with
      | none => rw [q4] at q3; cases q3
      | some T =>
        rcases tyI_ok hG I2 ag2 r2 ry q4 with ⟨t, rfl, mt, lt⟩ | ⟨c', C', rfl, hc', lt⟩
        · exact ⟨_, lt, nf.bt cn C g t q2 hc mt⟩
        · rw [q4] at q3
          exact ⟨_, lt, nf.own cn C g c' C' q2 hc q3 hc'⟩
    obtain ⟨t, lt, nt⟩ := ty
    rw [hop]
    refine PySem.W.cmp_K (op := op) (tb := t) hu hF I2.ok.mod.kin J lt nt (by rw [hnm]; exact k2) k4 ?_
    have key := boolR_fin (G := G) (ρ := ρ2) (H := H2) (Q := Q) (W := fun c d H' => W c d σ H') (g [xi, yi] h2) fi
    refine wpAny_mono (k5 pins s2 σ H2 [.ref ad, u] [.ref ad, y] [xi, yi] ρ2 h2 _ I2 (.cons rfl (.cons ry .nil)) (.cons r1 (.cons r2 .nil)) ag2 key) (fun z s3 hz => ?_) fun _ _ z => z
    obtain ⟨x', H', I', rx', b, eb, q'⟩ := hz
    subst eb
    cases (show z = Value.bool b from rx')
    exact ⟨.bl b, H', I', rfl, q'⟩
theorem me_cmpU {op : CmpOp} {nm : Str} (hop : ∀ a b, compareOp op a b = richCompare op a b) (hnm : (cmpInfo op).2.1 = nm) (hG : G.K = X.K) (hu : X.A.units < cLine) (sp : SpOk X X.A G W tbl nm) (nf : NfOk X.K G cs tbl) (ho : OpR X (compareOp op) (rd2 G f)) (ha : PE X a (rdE G W ma)) (hb : PE X b (rdE G W mb))
    (hm : behindInMarks op b = false) : PE X (.Compare a [op] [b] pos) (rdE G W (eCmpU cs tbl f ma mb)) := ⟨fun pins s σ H Q I h =>
  wpAny_Compare1 (binT ha hb I (cmpU_rd h) fun v u s2 x y H2 I2 rx ry q => cmpU_run hop hnm hG hu sp nf ho I2 rx ry q) hm⟩
end
def nfB1 (K : PySem.W.Frag) (nm : Nat → Option Str) (x : Str) (cs : List Nat) : Bool := (["NoneType", "bool", "int", "str", "tuple", "list", "dict"].all fun T => PySem.W.notFirst K (ga K x) (.type T)) && cs.all fun c => match nm c with
  | some y => PySem.W.notFirst K (ga K x) (.ref (ga K y))
  | none => false
section
variable {K : PySem.W.Frag} {mg : Str → Option Value} {nm : Nat → Option Str} {cs : List Nat}
theorem nfOk_nil : NfOk K (GxOf K mg nm) cs (lkT ([] : List (Nat × MF))) := ⟨(fun _ _ _ _ h => nomatch h), (fun _ _ _ _ _ h => nomatch h)⟩
theorem nfOk_cons {c : Nat} {g : MF} {x : Str} {r : List (Nat × MF)} (hn : nm c = some x) (hB : nfB1 K nm x cs = true) (t : NfOk K (GxOf K mg nm) cs (lkT r)) : NfOk K (GxOf K mg nm) cs (lkT ((c, g) :: r)) := by
  obtain ⟨b1, b2⟩ := ba hB
  refine ⟨fun c' C w T h e m => ?_, fun c' C w d D h e k e2 => ?_⟩
  · rcases lkT_cons h with ⟨q1, q2⟩ | q
    · subst q1 q2
      rw [gx_ct e hn]
      exact List.all_eq_true.mp b1 T m
    · exact t.bt c' C w T q e m
  · rcases lkT_cons h with ⟨q1, q2⟩ | q
    · subst q1 q2
      rw [gx_ct e hn]
      have z := List.all_eq_true.mp b2 d (by simpa using k)
      cases q3 : nm d with
      | none => rw [q3] at z; cases z
      | some y =>
        rw [q3] at z
        rw [gx_ct e2 q3]
        exact z
    · exact t.own c' C w d D q e k e2
end
end ML
end
section
namespace ML
open PySem PySem.Spec PyProof.Rows L2 He
def flK : List (VI × VI) → Bool
  | [] => true
  | (_, v) :: r => flI v && flK r
def allK (kb : List (VI × VI)) : List (VI × VI) → Bool
  | [] => true
  | (k, v) :: r => match getD k kb with
    | some w => eqI v w && allK kb r
    | none => false
def fEqX : Op2 := fun x y h => match x, y with
  | .ref a, .ref b => match h[a]?, h[b]? with
    | some (.dic ka), some (.dic kb) => match flK ka && flK kb with
      | true => some (.bl (Nat.beq ka.length kb.length && allK kb ka), h)
      | false => none
    | _, _ => fEq x y h
  | _, _ => fEq x y h
section
variable {G : Gx} {ρ : List Addr} {h : Hi} {H : Hp} {X : Cx} {Q : VK}
theorem flK_get {b : VI} : ∀ {kvs : List (VI × VI)} {v : VI}, flK kvs = true → getD b kvs = some v → flI v = true
  | [], _, _, e => by cases e
  | (k, u) :: r, v, f, e => by
    unfold flK at f
    obtain ⟨f1, f2⟩ := Bool.and_eq_true_iff.mp f
    unfold getD at e
    split at e
    · cases e; exact f1
    · exact flK_get f2 e
theorem hits_ok {P : Program} {w : World} {A : Around} {s : Shared} {kb : List (VI × VI)} {lb : List (Key × V)} {vb : List (Key × Value)} (rb : RKs G ρ H kb lb) (vbr : KV lb vb) (fb : flK kb = true) :
    ∀ {ka : List (VI × VI)} {la : List (Key × V)} {va : List (Key × Value)}, RKs G ρ H ka la → KV la va → flK ka = true → PySem.W.KeqHitsP P w A s vb va (allK kb ka)
  | _, _, _, .nil, k, _ => by
    cases k
    exact .nil
  | _, _, _, .cons (a := a) (k := k) (v := v) (x := x) (as := as) (ks := ks) e r t, kv, f => by
    unfold flK at f
    obtain ⟨f1, f2⟩ := Bool.and_eq_true_iff.mp f
    unfold KV at kv
    cases kv with
    | @cons p q ps qs h1 tl =>
      obtain ⟨key, val⟩ := q
      obtain ⟨h2, h3⟩ := h1
      have h2' : k = key := h2
      subst h2'
      have g := RKs.getD (b := a) (l := k) e rb
      have rv := vbr.val k
      unfold allK
      cases z : getD a kb with
      | none =>
        rw [z] at g
        have g' : valV lb k = none := g
        rw [g'] at rv
        exact .miss rv.none_of
      | some u =>
        rw [z] at g
        obtain ⟨y, g1, g2⟩ := g
        have g1' : valV lb k = some y := g1
        rw [g1'] at rv
        obtain ⟨yv, hy, ry⟩ := rv.some_of
        have fu := flK_get fb z
        dsimp only
        rw [r.eqI g2 f1 fu]
        exact .hit hy (eqAt_V h3 ry (r.flat f1) (g2.flat fu)).eqP (hits_ok rb vbr fb t tl f2)
theorem beqN (n m : Nat) : (n == m) = Nat.beq n m := by
  cases q : Nat.beq n m with
  | true => simp [Nat.eq_of_beq_eq_true q]
  | false => simp [Nat.ne_of_beq_eq_false q]
theorem mo_eqX (hG : G.K = X.K) (hu : X.A.units + 64 < cLine) : OpR X (compareOp .Eq) (rd2 G fEqX) := fun pins s σ H x y v u Q I rx ry q => by
  obtain ⟨ρ, h, xi, yi, ag, r1, r2, f⟩ := q
  have old : FinO G ρ H (RV G) Q (fEq xi yi h) → wpAny (model X.prog X.w) X.A (compareOp .Eq v u) (EP X pins σ Q) X.xe s := fun f => mo_eq hG hu pins s σ H x y v u Q I rx ry ⟨ρ, h, xi, yi, ag, r1, r2, f⟩
  unfold fEqX at f
  cases r1 with
  | @ref n a q1 =>
    cases r2 with
    | @ref m b q2 =>
      dsimp only at f
      split at f
      · rename_i ka kb z1 z2
        cases fl : flK ka && flK kb with
        | false => rw [fl] at f; exact f.elim
        | true =>
          rw [fl] at f
          obtain ⟨fa, fb⟩ := Bool.and_eq_true_iff.mp fl
          obtain ⟨la, ha, ra⟩ := ag.at_ z1 q1
          obtain ⟨lb, hb, rb⟩ := ag.at_ z2 q2
          cases (show v = Value.ref a from rx)
          cases (show u = Value.ref b from ry)
          obtain ⟨_, ya, va, kva, da⟩ := (show ObjOk X.prog X.w H s.heap a (.dK la) from I.hok a _ ha)
          obtain ⟨_, yb, vb, kvb, db⟩ := (show ObjOk X.prog X.w H s.heap b (.dK lb) from I.hok b _ hb)
          refine PySem.W.rcP_dicts (knd := mixKind X.prog X.w) (r := allK kb ka) ya yb da db (by omega) (fun _ => hits_ok rb kvb fb ra kva fa) _ _ ?_
          have e : (va.length == vb.length) = Nat.beq ka.length kb.length := by
            rw [ra.length, rb.length, kva.length, kvb.length]
            exact beqN _ _
          rw [e]
          exact ⟨.bl _, H, I, rfl, f.ok ag (.bl _)⟩
      · exact old f
    | _ => exact old (by simpa [fEqX] using f)
  | _ => exact old (by simpa [fEqX] using f)
end
end ML
end
section
namespace ML
open PySem L2
mutual
inductive RV2 (r : List Nat) : VI → VI → Prop
  | non : RV2 r .non .non
  | bl (b : Bool) : RV2 r (.bl b) (.bl b)
  | int (i : Int) : RV2 r (.int i) (.int i)
  | str (s : S) : RV2 r (.str s) (.str s)
  | glo (g : S) : RV2 r (.glo g) (.glo g)
  | ref {n m : Nat} (e : r[n]? = some m) : RV2 r (.ref n) (.ref m)
  | tup {xs ys : List VI} (t : RVs2 r xs ys) : RV2 r (.tup xs) (.tup ys)
inductive RVs2 (r : List Nat) : List VI → List VI → Prop
  | nil : RVs2 r [] []
  | cons {v x : VI} {vs xs : List VI} (h : RV2 r v x) (t : RVs2 r vs xs) : RVs2 r (v :: vs) (x :: xs)
end
structure Ex2 (r : List Nat) (h : Hi) (r' : List Nat) (h' : Hi) : Prop where
  more : ∃ q, r' = r ++ q ∧ ∀ m ∈ q, h.length ≤ m
  len : h.length ≤ h'.length
  rest : ∀ m, m ∉ r → m < h.length → h'[m]? = h[m]?
theorem Ex2.refl {r : List Nat} {h : Hi} : Ex2 r h r h := ⟨⟨[], by simp, fun _ z => by cases z⟩, Nat.le_refl _, fun _ _ _ => rfl⟩
theorem Ex2.pre {r r' : List Nat} {h h' : Hi} (e : Ex2 r h r' h') {n m : Nat} (q : r[n]? = some m) : r'[n]? = some m := by
  obtain ⟨l, rfl, _⟩ := e.more
  rw [List.getElem?_append_left (List.getElem?_eq_some_iff.mp q).1]
  exact q
theorem Ex2.trans {r r1 r2 : List Nat} {h h1 h2 : Hi} (a : Ex2 r h r1 h1) (b : Ex2 r1 h1 r2 h2) : Ex2 r h r2 h2 := by
  obtain ⟨l, rfl, hl⟩ := a.more
  obtain ⟨l2, rfl, hl2⟩ := b.more
  refine ⟨⟨l ++ l2, by simp, fun m hm => ?_⟩, Nat.le_trans a.len b.len, fun m hm hlt => ?_⟩
  · rcases List.mem_append.mp hm with z | z
    · exact hl m z
    · exact Nat.le_trans a.len (hl2 m z)
  · rw [b.rest m (fun z => ?_) (Nat.lt_of_lt_of_le hlt a.len)]
    · exact a.rest m hm hlt
    · rcases List.mem_append.mp z with z | z
      · exact hm z
      · exact absurd (hl m z) (Nat.not_le.mpr hlt)
section
variable {r r' : List Nat} {h h' : Hi}
mutual
theorem RV2.mono (e : Ex2 r h r' h') : ∀ {v x : VI}, RV2 r v x → RV2 r' v x
  | _, _, .non => .non
  | _, _, .bl b => .bl b
  | _, _, .int i => .int i
  | _, _, .str s => .str s
  | _, _, .glo g => .glo g
  | _, _, .ref q => .ref (e.pre q)
  | _, _, .tup t => .tup (RVs2.mono e t)
theorem RVs2.mono (e : Ex2 r h r' h') : ∀ {v x : List VI}, RVs2 r v x → RVs2 r' v x
  | _, _, .nil => .nil
  | _, _, .cons a t => .cons (RV2.mono e a) (RVs2.mono e t)
end
theorem RVs2.length : ∀ {v x : List VI}, RVs2 r v x → v.length = x.length
  | _, _, .nil => rfl
  | _, _, .cons _ t => by rw [List.length_cons, List.length_cons, t.length]
theorem RVs2.get : ∀ {v x : List VI} {i : Nat} {a : VI}, RVs2 r v x → v[i]? = some a → ∃ b, x[i]? = some b ∧ RV2 r a b
  | _, _, _, _, .nil, e => by simp at e
  | _, _, 0, _, .cons h _, e => by simp at e; subst e; exact ⟨_, rfl, h⟩
  | _, _, i + 1, _, .cons _ t, e => by
    obtain ⟨b, h1, h2⟩ := RVs2.get (i := i) t (by simpa using e)
    exact ⟨b, by simpa using h1, h2⟩
theorem RVs2.none {v x : List VI} {i : Nat} (t : RVs2 r v x) (e : v[i]? = none) : x[i]? = none := by
  rw [List.getElem?_eq_none_iff] at e ⊢
  rw [← t.length]
  exact e
theorem RVs2.append : ∀ {v w x y : List VI}, RVs2 r v x → RVs2 r w y → RVs2 r (v ++ w) (x ++ y)
  | _, _, _, _, .nil, k => k
  | _, _, _, _, .cons a t, k => .cons a (RVs2.append t k)
theorem RVs2.set : ∀ {v x : List VI} {a b : VI} (i : Nat), RVs2 r v x → RV2 r a b → RVs2 r (v.set i a) (x.set i b)
  | _, _, _, _, _, .nil, _ => .nil
  | _, _, _, _, 0, .cons _ t, k => .cons k t
  | _, _, _, _, i + 1, .cons a t, k => .cons a (RVs2.set i t k)
theorem RVs2.take : ∀ {v x : List VI} (n : Nat), RVs2 r v x → RVs2 r (v.take n) (x.take n)
  | _, _, 0, _ => .nil
  | _, _, _ + 1, .nil => .nil
  | _, _, n + 1, .cons a t => .cons a (RVs2.take n t)
theorem RVs2.drop : ∀ {v x : List VI} (n : Nat), RVs2 r v x → RVs2 r (v.drop n) (x.drop n)
  | _, _, 0, k => k
  | _, _, _ + 1, .nil => .nil
  | _, _, n + 1, .cons _ t => RVs2.drop n t
end
inductive RFs2 (r : List Nat) : List (S × VI) → List (S × VI) → Prop
  | nil : RFs2 r [] []
  | cons {f : S} {v x : VI} {fs gs : List (S × VI)} (h : RV2 r v x) (t : RFs2 r fs gs) : RFs2 r ((f, v) :: fs) ((f, x) :: gs)
inductive RKs2 (r : List Nat) : List (VI × VI) → List (VI × VI) → Prop
  | nil : RKs2 r [] []
  | cons {a b v x : VI} {fs gs : List (VI × VI)} (k : RV2 r a b) (h : RV2 r v x) (t : RKs2 r fs gs) : RKs2 r ((a, v) :: fs) ((b, x) :: gs)
inductive RO2 (r : List Nat) : OI → OI → Prop
  | lst {xs ys : List VI} (h : RVs2 r xs ys) : RO2 r (.lst xs) (.lst ys)
  | scr {xs ys : List VI} (h : RVs2 r xs ys) : RO2 r (.scr xs) (.scr ys)
  | dic {xs ys : List (VI × VI)} (h : RKs2 r xs ys) : RO2 r (.dic xs) (.dic ys)
  | ins {c : Nat} {xs ys : List (S × VI)} (h : RFs2 r xs ys) : RO2 r (.ins c xs) (.ins c ys)
  | xd {xs ys : List (S × VI)} (h : RFs2 r xs ys) : RO2 r (.xd xs) (.xd ys)
section
variable {r r' : List Nat} {h h' s : Hi}
theorem RFs2.mono (e : Ex2 r h r' h') : ∀ {v x : List (S × VI)}, RFs2 r v x → RFs2 r' v x
  | _, _, .nil => .nil
  | _, _, .cons a t => .cons (a.mono e) (RFs2.mono e t)
theorem RKs2.mono (e : Ex2 r h r' h') : ∀ {v x : List (VI × VI)}, RKs2 r v x → RKs2 r' v x
  | _, _, .nil => .nil
  | _, _, .cons k a t => .cons (k.mono e) (a.mono e) (RKs2.mono e t)
theorem RO2.mono (e : Ex2 r h r' h') : ∀ {v x : OI}, RO2 r v x → RO2 r' v x
  | _, _, .lst t => .lst (t.mono e)
  | _, _, .scr t => .scr (t.mono e)
  | _, _, .dic t => .dic (t.mono e)
  | _, _, .ins t => .ins (t.mono e)
  | _, _, .xd t => .xd (t.mono e)
theorem RFs2.length : ∀ {v x : List (S × VI)}, RFs2 r v x → v.length = x.length
  | _, _, .nil => rfl
  | _, _, .cons _ t => by rw [List.length_cons, List.length_cons, t.length]
theorem RKs2.length : ∀ {v x : List (VI × VI)}, RKs2 r v x → v.length = x.length
  | _, _, .nil => rfl
  | _, _, .cons _ _ t => by rw [List.length_cons, List.length_cons, t.length]
structure Ag2 (r : List Nat) (s h : Hi) : Prop where
  nd : r.Nodup
  len : r.length = s.length
  ob : ∀ (n : Nat) (o : OI), s[n]? = some o → ∃ (m : Nat) (o' : OI), r[n]? = some m ∧ h[m]? = some o' ∧ RO2 r o o'
theorem Ag2.at_ (a : Ag2 r s h) {n m : Nat} {o : OI} (e : s[n]? = some o) (p : r[n]? = some m) : ∃ o', h[m]? = some o' ∧ RO2 r o o' := by
  obtain ⟨m', o', h1, h2, h3⟩ := a.ob n o e
  rw [p] at h1
  cases h1
  exact ⟨o', h2, h3⟩
theorem Ag2.lt (a : Ag2 r s h) {m : Nat} (hm : m ∈ r) : m < h.length := by
  obtain ⟨n, hn, e⟩ := List.mem_iff_getElem.mp hm
  have hl : n < s.length := by rw [← a.len]; exact hn
  obtain ⟨m', o', h1, h2, _⟩ := a.ob n s[n] (by simp [hl])
  have : r[n]? = some r[n] := by simp [hn]
  rw [this] at h1
  cases h1
  rw [e] at h2
  exact (List.getElem?_eq_some_iff.mp h2).1
theorem Ag2.new (a : Ag2 r s h) {o o' : OI} (k : RO2 (r ++ [h.length]) o o') : Ag2 (r ++ [h.length]) (s ++ [o]) (h ++ [o']) ∧ Ex2 r h (r ++ [h.length]) (h ++ [o']) := by
  have ext : Ex2 r h (r ++ [h.length]) (h ++ [o']) := ⟨⟨[h.length], rfl, fun m hm => by rw [List.mem_singleton] at hm; omega⟩, by simp, fun m _ hlt => List.getElem?_append_left hlt⟩
  refine ⟨⟨?_, by simp [a.len], fun n u e => ?_⟩, ext⟩
  · rw [List.nodup_append]
    refine ⟨a.nd, by simp, fun x hx y hy => ?_⟩
    rw [List.mem_singleton] at hy
    have := a.lt hx
    omega
  · by_cases hn : n < s.length
    · rw [List.getElem?_append_left hn] at e
      obtain ⟨m, u', h1, h2, h3⟩ := a.ob n u e
      refine ⟨m, u', ext.pre h1, ?_, h3.mono ext⟩
      rw [List.getElem?_append_left (List.getElem?_eq_some_iff.mp h2).1]
      exact h2
    · have hle := Nat.le_of_not_lt hn
      rw [List.getElem?_append_right hle] at e
      have hz : n - s.length = 0 := by
        have := (List.getElem?_eq_some_iff.mp e).1
        simp at this
        omega
      rw [hz] at e
      simp at e
      subst e
      have : n = r.length := by rw [a.len]; omega
      exact ⟨h.length, o', by rw [this]; simp, by simp, k⟩
theorem Ag2.idx (a : Ag2 r s h) : (r ++ [h.length])[s.length]? = some h.length := by rw [← a.len]; simp
theorem Ag2.wr (a : Ag2 r s h) {n m : Nat} {u o o' : OI} (hn : s[n]? = some u) (p : r[n]? = some m) (k : RO2 r o o') : Ag2 r (s.set n o) (h.set m o') ∧ Ex2 r h r (h.set m o') := by
  have hm : m ∈ r := List.mem_of_getElem? p
  refine ⟨⟨a.nd, by simp [a.len], fun j v e => ?_⟩, ⟨⟨[], by simp, fun _ z => by cases z⟩, by simp, fun j hj hlt => List.getElem?_set_ne (by intro z; subst z; exact hj hm)⟩⟩
  rw [List.getElem?_set] at e
  by_cases hj : n = j
  · subst hj
    rw [if_pos rfl, if_pos (List.getElem?_eq_some_iff.mp hn).1] at e
    cases e
    exact ⟨m, o', p, List.getElem?_set_self (a.lt hm), k⟩
  · rw [if_neg hj] at e
    obtain ⟨m', v', h1, h2, h3⟩ := a.ob j v e
    refine ⟨m', v', h1, ?_, h3⟩
    rw [List.getElem?_set_ne]
    · exact h2
    · intro z
      subst z
      obtain ⟨l1, e1⟩ := List.getElem?_eq_some_iff.mp p
      obtain ⟨l2, e2⟩ := List.getElem?_eq_some_iff.mp h1
      have pw := List.pairwise_iff_getElem.mp a.nd
      rcases Nat.lt_trichotomy n j with l | l | l
      · exact pw n j l1 l2 l (e1.trans e2.symm)
      · exact hj l
      · exact pw j n l2 l1 l (e2.trans e1.symm)
structure AS2 (r : List Nat) (σ σ' : Sg) : Prop where
  len : σ.length = σ'.length
  at_ : ∀ (i : Nat) (v : VI), σ[i]? = some (some v) → ∃ x : VI, σ'[i]? = some (some x) ∧ RV2 r v x
theorem AS2.mono {σ σ' : Sg} (a : AS2 r σ σ') (e : Ex2 r h r' h') : AS2 r' σ σ' := ⟨a.len, fun i v q => let ⟨x, h1, h2⟩ := a.at_ i v q; ⟨x, h1, h2.mono e⟩⟩
theorem AS2.set {σ σ' : Sg} (a : AS2 r σ σ') {v x : VI} (k : RV2 r v x) (i : Nat) : AS2 r (σ.set i (some v)) (σ'.set i (some x)) := by
  refine ⟨by simp [a.len], fun j w e => ?_⟩
  rw [List.getElem?_set] at e ⊢
  by_cases hj : i = j
  · subst hj
    rw [if_pos rfl] at e ⊢
    by_cases hl : i < σ.length
    · rw [if_pos hl] at e
      rw [if_pos (by rw [← a.len]; exact hl)]
      cases e
      exact ⟨x, rfl, k⟩
    · rw [if_neg hl] at e; cases e
  · rw [if_neg hj] at e ⊢
    exact a.at_ j w e
theorem AS2.lose {σ σ' : Sg} (a : AS2 r σ σ') (i : Nat) : AS2 r (σ.set i none) (σ'.set i none) := by
  refine ⟨by simp [a.len], fun j w e => ?_⟩
  rw [List.getElem?_set] at e ⊢
  by_cases hj : i = j
  · subst hj
    rw [if_pos rfl] at e
    by_cases hl : i < σ.length
    · rw [if_pos hl] at e; cases e
    · rw [if_neg hl] at e; cases e
  · rw [if_neg hj] at e ⊢
    exact a.at_ j w e
def L2R {α : Type} (R : List Nat → α → α → Prop) (r : List Nat) (h : Hi) (a a' : Res α) : Prop := match a with
  | .ok v s' => ∃ r' h' v', a' = .ok v' h' ∧ Ex2 r h r' h' ∧ Ag2 r' s' h' ∧ R r' v v'
  | .ex c n s' => ∃ r' h' m, a' = .ex c m h' ∧ Ex2 r h r' h' ∧ Ag2 r' s' h' ∧ r'[n]? = some m
  | .err => True
def L2O {α : Type} (R : List Nat → α → α → Prop) (r : List Nat) (h : Hi) (a a' : Option (α × Hi)) : Prop := match a with
  | some (v, s') => ∃ r' h' v', a' = some (v', h') ∧ Ex2 r h r' h' ∧ Ag2 r' s' h' ∧ R r' v v'
  | none => True
theorem L2R.bind {α β : Type} {R : List Nat → α → α → Prop} {R' : List Nat → β → β → Prop} {a a' : Res α} {k k' : α → Hi → Res β} (h1 : L2R R r h a a')
    (h2 : ∀ r1 s1 h1 x x', Ex2 r h r1 h1 → Ag2 r1 s1 h1 → R r1 x x' → L2R R' r1 h1 (k x s1) (k' x' h1)) : L2R R' r h (a.bind k) (a'.bind k') := by
  cases a with
  | err => trivial
  | ex c n s' =>
    obtain ⟨r', h', m, rfl, e, g, q⟩ := h1
    exact ⟨r', h', m, rfl, e, g, q⟩
  | ok v s' =>
    obtain ⟨r', h', v', rfl, e, g, q⟩ := h1
    have t := h2 r' s' h' v v' e g q
    show L2R R' r h (k v s') (k' v' h')
    cases z : k v s' with
    | err => trivial
    | ex c n s2 => rw [z] at t; obtain ⟨r2, h2, m, e1, e2, g2, q2⟩ := t; exact ⟨r2, h2, m, e1, e.trans e2, g2, q2⟩
    | ok w s2 => rw [z] at t; obtain ⟨r2, h2, w', e1, e2, g2, q2⟩ := t; exact ⟨r2, h2, w', e1, e.trans e2, g2, q2⟩
theorem L2R.ok {α : Type} {R : List Nat → α → α → Prop} {v v' : α} (g : Ag2 r s h) (k : R r v v') : L2R R r h (.ok v s) (.ok v' h) := ⟨r, h, v', rfl, .refl, g, k⟩
theorem L2R.ofO {α : Type} {R : List Nat → α → α → Prop} {a a' : Option (α × Hi)} (h1 : L2O R r h a a') : L2R R r h (ofO a) (ofO a') := by
  cases a with
  | none => trivial
  | some p =>
    obtain ⟨v, s'⟩ := p
    obtain ⟨r', h', v', rfl, e, g, q⟩ := h1
    exact ⟨r', h', v', rfl, e, g, q⟩
theorem L2O.ok {α : Type} {R : List Nat → α → α → Prop} {v v' : α} (g : Ag2 r s h) (k : R r v v') : L2O R r h (some (v, s)) (some (v', h)) := ⟨r, h, v', rfl, .refl, g, k⟩
theorem L2O.new {o o' : OI} (g : Ag2 r s h) (k : ∀ r', Ex2 r h r' (h ++ [o']) → RO2 r' o o') : L2O RV2 r h (some (.ref s.length, s ++ [o])) (some (.ref h.length, h ++ [o'])) := by
  have e0 : Ex2 r h (r ++ [h.length]) (h ++ [o']) := ⟨⟨[h.length], rfl, fun m hm => by rw [List.mem_singleton] at hm; omega⟩, by simp, fun m _ hlt => List.getElem?_append_left hlt⟩
  obtain ⟨g', e⟩ := g.new (k _ e0)
  exact ⟨_, _, _, rfl, e, g', .ref g.idx⟩
theorem L2R.new {o o' : OI} (g : Ag2 r s h) (k : ∀ r', Ex2 r h r' (h ++ [o']) → RO2 r' o o') : L2R RV2 r h (.ok (.ref s.length) (s ++ [o])) (.ok (.ref h.length) (h ++ [o'])) := L2R.ofO (L2O.new g k)
end
class LF (f : MF) : Prop where
  run : ∀ r s h vs vs', Ag2 r s h → RVs2 r vs vs' → L2R RV2 r h (f vs s) (f vs' h)
class LE (m : ME) : Prop where
  run : ∀ r s h σ σ', Ag2 r s h → AS2 r σ σ' → L2R RV2 r h (m σ s) (m σ' h)
class LT (m : MT) : Prop where
  run : ∀ r s h σ σ', Ag2 r s h → AS2 r σ σ' → L2R (fun _ (a b : Bool) => a = b) r h (m σ s) (m σ' h)
class LA (m : MA) : Prop where
  run : ∀ r s h σ σ', Ag2 r s h → AS2 r σ σ' → L2R RVs2 r h (m σ s) (m σ' h)
class LO (m : MO) : Prop where
  run : ∀ r s h σ σ', Ag2 r s h → AS2 r σ σ' → L2R (fun _ (a b : Option Int) => a = b) r h (m σ s) (m σ' h)
class LOp (f : Op2) : Prop where
  run : ∀ r s h x y x' y', Ag2 r s h → RV2 r x x' → RV2 r y y' → L2O RV2 r h (f x y s) (f x' y' h)
class LOc (f : OpC) : Prop where
  run : ∀ r s h vs vs', Ag2 r s h → RVs2 r vs vs' → L2O RV2 r h (f vs s) (f vs' h)
class LOm (f : OpM) : Prop where
  run : ∀ r s h x x' vs vs', Ag2 r s h → RV2 r x x' → RVs2 r vs vs' → L2O RV2 r h (f x vs s) (f x' vs' h)
class CV (v : VI) : Prop where
  self : ∀ r, RV2 r v v
class CVs (v : List VI) : Prop where
  self : ∀ r, RVs2 r v v
instance : CV .non := ⟨fun _ => .non⟩
instance {b : Bool} : CV (.bl b) := ⟨fun _ => .bl b⟩
instance {b : Int} : CV (.int b) := ⟨fun _ => .int b⟩
instance {b : S} : CV (.str b) := ⟨fun _ => .str b⟩
instance {b : S} : CV (.glo b) := ⟨fun _ => .glo b⟩
instance : CVs [] := ⟨fun _ => .nil⟩
instance {v : VI} {vs : List VI} [a : CV v] [b : CVs vs] : CVs (v :: vs) := ⟨fun r => .cons (a.self r) (b.self r)⟩
instance {vs : List VI} [b : CVs vs] : CV (.tup vs) := ⟨fun r => .tup (b.self r)⟩
section
variable {ma mb mc : ME} {ta tb : MT} {aa : MA} {f g : Op2}
instance {i : Nat} : LE (eV i) := ⟨fun r s h σ σ' g a => by
  unfold eV
  cases e : σ[i]? with
  | none => trivial
  | some o =>
    cases o with
    | none => trivial
    | some v =>
      obtain ⟨x, h1, h2⟩ := a.at_ i v e
      rw [h1]
      exact .ok g h2⟩
instance {v : VI} [c : CV v] : LE (eC v) := ⟨fun r s h σ σ' g a => .ok g (c.self r)⟩
instance : LA aNil := ⟨fun r s h σ σ' g a => .ok g .nil⟩
instance [x : LE ma] [y : LA aa] : LA (aCons ma aa) := ⟨fun r s h σ σ' g a => (x.run r s h σ σ' g a).bind fun r1 s1 h1 v v' e1 g1 q1 => (y.run _ _ _ _ _ g1 (a.mono e1)).bind fun r2 s2 h2 vs vs' e2 g2 q2 => .ok g2 (.cons (q1.mono e2) q2)⟩
instance [y : LA aa] : LE (eTup aa) := ⟨fun r s h σ σ' g a => (y.run r s h σ σ' g a).bind fun r1 s1 h1 v v' e1 g1 q1 => by
  rw [q1.length]
  cases small v'.length with
  | true => exact .ok g1 (.tup q1)
  | false => trivial⟩
instance [y : LA aa] : LE (eLst aa) := ⟨fun r s h σ σ' g a => (y.run r s h σ σ' g a).bind fun r1 s1 h1 v v' e1 g1 q1 => by
  rw [q1.length]
  cases small v'.length with
  | true => exact .new g1 fun r' e => .lst (q1.mono e)
  | false => trivial⟩
instance [x : LE ma] [y : LE mb] [o : LOp f] : LE (eBin f ma mb) := ⟨fun r s h σ σ' g a => (x.run r s h σ σ' g a).bind fun r1 s1 h1 v v' e1 g1 q1 => (y.run _ _ _ _ _ g1 (a.mono e1)).bind fun r2 s2 h2 w w' e2 g2 q2 => .ofO (o.run _ _ _ _ _ _ _ g2 (q1.mono e2) q2)⟩
instance [x : LE ma] : LT (tOf ma) := ⟨fun r s h σ σ' g a => (x.run r s h σ σ' g a).bind fun r1 s1 h1 v v' e1 g1 q1 => by
  cases q1 with
  | bl b => exact .ok g1 rfl
  | _ => trivial⟩
instance [x : LT ta] [y : LT tb] : LT (tAndM ta tb) := ⟨fun r s h σ σ' g a => (x.run r s h σ σ' g a).bind fun r1 s1 h1 v v' e1 g1 q1 => by
  subst q1
  cases v with
  | true => exact y.run _ _ _ _ _ g1 (a.mono e1)
  | false => exact .ok g1 rfl⟩
instance [x : LT ta] [y : LT tb] : LT (tOrM ta tb) := ⟨fun r s h σ σ' g a => (x.run r s h σ σ' g a).bind fun r1 s1 h1 v v' e1 g1 q1 => by
  subst q1
  cases v with
  | false => exact y.run _ _ _ _ _ g1 (a.mono e1)
  | true => exact .ok g1 rfl⟩
instance [x : LT ta] : LT (tNotM ta) := ⟨fun r s h σ σ' g a => (x.run r s h σ σ' g a).bind fun r1 s1 h1 v v' e1 g1 q1 => by
  subst q1
  exact .ok g1 rfl⟩
instance : LT tYesM := ⟨fun r s h σ σ' g a => .ok g rfl⟩
instance [x : LE ma] [y : LE mb] : LE (eAnd ma mb) := ⟨fun r s h σ σ' g a => (x.run r s h σ σ' g a).bind fun r1 s1 h1 v v' e1 g1 q1 => by
  cases q1 with
  | bl b =>
    cases b with
    | true => exact y.run _ _ _ _ _ g1 (a.mono e1)
    | false => exact .ok g1 (.bl _)
  | _ => trivial⟩
instance [x : LE ma] [y : LE mb] : LE (eOr ma mb) := ⟨fun r s h σ σ' g a => (x.run r s h σ σ' g a).bind fun r1 s1 h1 v v' e1 g1 q1 => by
  cases q1 with
  | bl b =>
    cases b with
    | false => exact y.run _ _ _ _ _ g1 (a.mono e1)
    | true => exact .ok g1 (.bl _)
  | _ => trivial⟩
instance [x : LE ma] : LE (eNot ma) := ⟨fun r s h σ σ' g a => (x.run r s h σ σ' g a).bind fun r1 s1 h1 v v' e1 g1 q1 => by
  cases q1 with
  | bl b => exact .ok g1 (.bl _)
  | _ => trivial⟩
instance [x : LT ta] [y : LE ma] [z : LE mb] : LE (eIf ta ma mb) := ⟨fun r s h σ σ' g a => (x.run r s h σ σ' g a).bind fun r1 s1 h1 v v' e1 g1 q1 => by
  subst q1
  cases v with
  | true => exact y.run _ _ _ _ _ g1 (a.mono e1)
  | false => exact z.run _ _ _ _ _ g1 (a.mono e1)⟩
instance [x : LE ma] : LE (eNeg ma) := ⟨fun r s h σ σ' g a => (x.run r s h σ σ' g a).bind fun r1 s1 h1 v v' e1 g1 q1 => by
  cases q1 with
  | int b => exact .ok g1 (.int _)
  | _ => trivial⟩
instance [x : LE ma] [y : LE mb] [z : LE mc] [o : LOp f] [p : LOp g] : LE (eChain f g ma mb mc) := ⟨fun r s h σ σ' gg a => (x.run r s h σ σ' gg a).bind fun r1 s1 h1 v v' e1 g1 q1 => (y.run _ _ _ _ _ g1 (a.mono e1)).bind fun r2 s2 h2 w w' e2 g2 q2 =>
  (L2R.ofO (o.run _ _ _ _ _ _ _ g2 (q1.mono e2) q2)).bind fun r3 s3 h3 u u' e3 g3 q3 => by
    cases q3 with
    | bl b =>
      cases b with
      | true => exact (z.run _ _ _ _ _ g3 (((a.mono e1).mono e2).mono e3)).bind fun r4 s4 h4 t t' e4 g4 q4 => .ofO (p.run _ _ _ _ _ _ _ g4 ((q2.mono e3).mono e4) q4)
      | false => exact .ok g3 (.bl _)
    | _ => trivial⟩
instance {k : MF} [x : LF k] [y : LA aa] : LE (eCall k aa) := ⟨fun r s h σ σ' g a => (y.run r s h σ σ' g a).bind fun r1 s1 h1 v v' e1 g1 q1 => x.run _ _ _ _ _ g1 q1⟩
instance {k : OpC} [x : LOc k] [y : LA aa] : LE (eCB k aa) := ⟨fun r s h σ σ' g a => (y.run r s h σ σ' g a).bind fun r1 s1 h1 v v' e1 g1 q1 => .ofO (x.run _ _ _ _ _ g1 q1)⟩
instance {k : OpM} {d : Knd} [z : LE ma] [x : LOm k] [y : LA aa] : LE (eBM d k ma aa) := ⟨fun r s h σ σ' g a => (z.run r s h σ σ' g a).bind fun r1 s1 h1 v v' e1 g1 q1 => by
  have same : kOk d v s1 = true → kOk d v' h1 = true := fun q => by
    unfold kOk at q ⊢
    cases q1 with
    | str _ => exact q
    | @ref n m p =>
      dsimp only at q ⊢
      cases z : s1[n]? with
      | none => rw [z] at q; cases q
      | some o =>
        obtain ⟨o', k1, k2⟩ := g1.at_ z p
        rw [z] at q
        rw [k1]
        cases k2 <;> exact q
    | _ => exact q
  cases q : kOk d v s1 with
  | false => trivial
  | true =>
    rw [same q]
    exact (y.run _ _ _ _ _ g1 (a.mono e1)).bind fun r2 s2 h2 w w' e2 g2 q2 => .ofO (x.run _ _ _ _ _ _ _ g2 (q1.mono e2) q2)⟩
instance : LE eErr := ⟨fun r s h σ σ' g a => trivial⟩
instance : LO oNo := ⟨fun r s h σ σ' g a => .ok g rfl⟩
instance [x : LE ma] : LO (oSome ma) := ⟨fun r s h σ σ' g a => (x.run r s h σ σ' g a).bind fun r1 s1 h1 v v' e1 g1 q1 => by
  cases q1 with
  | int b => exact .ok g1 rfl
  | _ => trivial⟩
end
end ML
end
section
namespace ML
open PySem L2
section
variable {r r' : List Nat} {h h' s : Hi}
theorem keyEq2 {a b k l : VI} (p : RV2 r a b) (q : RV2 r k l) : keyEq b l = keyEq a k := by
  cases p <;> cases q <;> rfl
theorem isKey2 {a b : VI} (p : RV2 r a b) : isKey b = isKey a := by cases p <;> rfl
theorem flI2 {a b : VI} (p : RV2 r a b) : flI b = flI a := by cases p <;> rfl
theorem eqI2 {a b k l : VI} (p : RV2 r a b) (q : RV2 r k l) : eqI b l = eqI a k := by
  cases p <;> cases q <;> rfl
def ROp2 (r : List Nat) : Option VI → Option VI → Prop
  | some a, some b => RV2 r a b
  | none, none => True
  | _, _ => False
theorem getD2 {k l : VI} (q : RV2 r k l) : ∀ {xs ys : List (VI × VI)}, RKs2 r xs ys → ROp2 r (getD k xs) (getD l ys)
  | _, _, .nil => trivial
  | _, _, .cons p v t => by
    unfold getD
    rw [keyEq2 p q]
    split
    · exact v
    · exact getD2 q t
theorem hasD2 {k l : VI} (q : RV2 r k l) : ∀ {xs ys : List (VI × VI)}, RKs2 r xs ys → hasD l ys = hasD k xs
  | _, _, .nil => rfl
  | _, _, .cons p v t => by
    unfold hasD
    rw [keyEq2 p q, hasD2 q t]
theorem repD2 {k l v w : VI} (q : RV2 r k l) (u : RV2 r v w) : ∀ {xs ys : List (VI × VI)}, RKs2 r xs ys → RKs2 r (repD k v xs) (repD l w ys)
  | _, _, .nil => .nil
  | _, _, .cons p x t => by
    unfold repD
    rw [keyEq2 p q]
    split
    · exact .cons p u (repD2 q u t)
    · exact .cons p x (repD2 q u t)
theorem RKs2.append : ∀ {v w x y : List (VI × VI)}, RKs2 r v x → RKs2 r w y → RKs2 r (v ++ w) (x ++ y)
  | _, _, _, _, .nil, k => k
  | _, _, _, _, .cons a b t, k => .cons a b (RKs2.append t k)
theorem putD2 {k l v w : VI} (q : RV2 r k l) (u : RV2 r v w) {xs ys : List (VI × VI)} (t : RKs2 r xs ys) : RKs2 r (putD k v xs) (putD l w ys) := by
  unfold putD
  rw [hasD2 q t]
  split
  · exact repD2 q u t
  · exact t.append (.cons q u .nil)
theorem putAll2 : ∀ {ps qs xs ys : List (VI × VI)}, RKs2 r ps qs → RKs2 r xs ys → RKs2 r (putAll ps xs) (putAll qs ys)
  | _, _, _, _, .nil, t => t
  | _, _, _, _, .cons k v p, t => by
    unfold putAll
    exact putAll2 p (putD2 k v t)
theorem keysOk2 : ∀ {xs ys : List (VI × VI)}, RKs2 r xs ys → keysOk ys = keysOk xs
  | _, _, .nil => rfl
  | _, _, .cons p _ t => by unfold keysOk; rw [isKey2 p, keysOk2 t]
theorem inI2 {a b : VI} (p : RV2 r a b) : ∀ {xs ys : List VI}, RVs2 r xs ys → inI b ys = inI a xs
  | _, _, .nil => rfl
  | _, _, .cons q t => by unfold inI; rw [eqI2 q p, inI2 p t]
theorem alF2 : ∀ {xs ys : List VI}, RVs2 r xs ys → alF ys = alF xs
  | _, _, .nil => rfl
  | _, _, .cons q t => by unfold alF; rw [flI2 q, alF2 t]
theorem getF2 {f : S} : ∀ {xs ys : List (S × VI)}, RFs2 r xs ys → ROp2 r (getF f xs) (getF f ys)
  | _, _, .nil => trivial
  | _, _, .cons v t => by
    unfold getF
    split
    · exact v
    · exact getF2 t
theorem setF2 {f : S} {v w : VI} (u : RV2 r v w) : ∀ {xs ys : List (S × VI)}, RFs2 r xs ys → RFs2 r (setF f v xs) (setF f w ys)
  | _, _, .nil => .cons u .nil
  | _, _, .cons x t => by
    unfold setF
    split
    · exact .cons u t
    · exact .cons x (setF2 u t)
theorem datL2 {f g : VI → Option PyData} (e : ∀ v w d, RV2 r v w → f v = some d → g w = some d) : ∀ {xs ys : List VI} {ds : List PyData}, RVs2 r xs ys → datL f xs = some ds → datL g ys = some ds
  | _, _, _, .nil, q => q
  | _, _, _, .cons (v := v) (x := x) p t, q => by
    unfold datL at q ⊢
    cases z : f v with
    | none => rw [z] at q; cases q
    | some d =>
      rw [z] at q
      rw [e _ _ _ p z]
      dsimp only at q ⊢
      cases z2 : datL f _ with
      | none => rw [z2] at q; cases q
      | some ds =>
        rw [z2] at q
        rw [datL2 e t z2]
        exact q
theorem dat2 (a : Ag2 r s h) : ∀ (n : Nat) (v w : VI) (d : PyData), RV2 r v w → dat n s v = some d → dat n h w = some d
  | 0, _, _, _, _, q => by cases q
  | n + 1, v, w, d, p, q => by
    have ih := dat2 a n
    have lft : ∀ {xs ys : List VI} {F : List PyData → PyData}, RVs2 r xs ys → (datL (dat n s) xs).map F = some d → (datL (dat n h) ys).map F = some d := by
      intro xs ys F t k
      cases z : datL (dat n s) xs with
      | none => rw [z] at k; cases k
      | some ds => rw [z] at k; rw [datL2 ih t z]; exact k
    unfold dat at q ⊢
    cases p with
    | non => exact q
    | bl b => exact q
    | int i => exact q
    | str s => exact q
    | glo g => exact q
    | tup t => exact lft t q
    | @ref i m e =>
      dsimp only at q ⊢
      cases z : s[i]? with
      | none => rw [z] at q; cases q
      | some o =>
        obtain ⟨o', k1, k2⟩ := a.at_ z e
        rw [z] at q
        rw [k1]
        cases k2 with
        | lst t => exact lft t q
        | scr t => exact lft t q
        | dic _ => cases q
        | ins _ => cases q
        | xd _ => cases q
theorem eqD2 (a : Ag2 r s h) {x y x' y' : VI} {b : Bool} (p : RV2 r x x') (q : RV2 r y y') (e : eqD s x y = some b) : eqD h x' y' = some b := by
  unfold eqD at e ⊢
  cases z : dat 66 s x with
  | none => rw [z] at e; cases e
  | some d =>
    cases z2 : dat 66 s y with
    | none => rw [z, z2] at e; cases e
    | some d2 =>
      rw [z, z2] at e
      rw [dat2 a _ _ _ _ p z, dat2 a _ _ _ _ q z2]
      exact e
theorem inDl2 (a : Ag2 r s h) {x x' : VI} {ys ys' : List VI} {b : Bool} (p : RV2 r x x') (q : RVs2 r ys ys') (e : inDl s x ys = some b) : inDl h x' ys' = some b := by
  unfold inDl at e ⊢
  cases z : dat 66 s x with
  | none => rw [z] at e; cases e
  | some d =>
    cases z2 : datL (dat 65 s) ys with
    | none => rw [z, z2] at e; cases e
    | some d2 =>
      rw [z, z2] at e
      rw [dat2 a _ _ _ _ p z, datL2 (dat2 a 65) q z2]
      exact e
theorem inM2 (a : Ag2 r s h) {x y x' y' : VI} {b : Bool} (p : RV2 r x x') (q : RV2 r y y') (e : inM x y s = some b) : inM x' y' h = some b := by
  unfold inM at e ⊢
  cases q with
  | tup t =>
    dsimp only at e ⊢
    rw [flI2 p, alF2 t, inI2 p t]
    exact e
  | @ref i m pp =>
    dsimp only at e ⊢
    cases z : s[i]? with
    | none => rw [z] at e; cases e
    | some o =>
      obtain ⟨o', k1, k2⟩ := a.at_ z pp
      rw [z] at e
      rw [k1]
      cases k2 with
      | lst t =>
        dsimp only at e ⊢
        rw [flI2 p, alF2 t, inI2 p t]
        split at e
        · exact e
        · exact inDl2 a p t e
      | scr t =>
        dsimp only at e ⊢
        rw [flI2 p, alF2 t, inI2 p t]
        split at e
        · exact e
        · exact inDl2 a p t e
      | dic t =>
        dsimp only at e ⊢
        rw [isKey2 p]
        have k := getD2 p t
        split at e
        · rw [← e]
          cases z1 : getD x _ with
          | none => rw [z1] at k; cases z2 : getD x' _ with
            | none => rfl
            | some _ => rw [z2] at k; exact k.elim
          | some _ => rw [z1] at k; cases z2 : getD x' _ with
            | none => rw [z2] at k; exact k.elim
            | some _ => rfl
        · cases e
      | ins _ => cases e
      | xd _ => cases e
  | non => cases e
  | bl _ => cases e
  | int _ => cases e
  | str _ => cases e
  | glo _ => cases e
theorem ixL2 {xs ys : List VI} (t : RVs2 r xs ys) (i : Int) : ROp2 r (ixL xs i) (ixL ys i) := by
  unfold ixL
  rw [t.length]
  cases ixI ys.length i with
  | none => trivial
  | some j =>
    dsimp only
    cases z : xs[j]? with
    | none => rw [t.none z]; trivial
    | some v => obtain ⟨b, h1, h2⟩ := t.get z; rw [h1]; exact h2
theorem dropLast2 : ∀ {xs ys : List VI}, RVs2 r xs ys → RVs2 r xs.dropLast ys.dropLast
  | _, _, .nil => .nil
  | _, _, .cons _ .nil => .nil
  | _, _, .cons a (.cons b t) => .cons a (dropLast2 (.cons b t))
theorem isEmp2 {xs ys : List VI} (t : RVs2 r xs ys) : xs.isEmpty = ys.isEmpty := by cases t <;> rfl
theorem repL2 {xs ys : List VI} (t : RVs2 r xs ys) : ∀ n, RVs2 r (repL xs n) (repL ys n)
  | 0 => .nil
  | n + 1 => t.append (repL2 t n)
theorem cutI2 {xs ys : List VI} (t : RVs2 r xs ys) (lo hi : Option Int) : RVs2 r (cutI xs lo hi) (cutI ys lo hi) := by
  unfold cutI
  rw [t.length]
  exact (t.drop _).take _
theorem keys2 : ∀ {xs ys : List (VI × VI)}, RKs2 r xs ys → RVs2 r (xs.map (·.1)) (ys.map (·.1))
  | _, _, .nil => .nil
  | _, _, .cons a _ t => .cons a (keys2 t)
theorem vals2 : ∀ {xs ys : List (VI × VI)}, RKs2 r xs ys → RVs2 r (xs.map (·.2)) (ys.map (·.2))
  | _, _, .nil => .nil
  | _, _, .cons _ a t => .cons a (vals2 t)
theorem ints2 {α : Type} (f : α → Int) : ∀ l : List α, RVs2 r (l.map fun i => VI.int (f i)) (l.map fun i => VI.int (f i))
  | [] => .nil
  | _ :: l => .cons (.int _) (ints2 f l)
theorem rgI2 (a b : Int) : RVs2 r (rgI a b) (rgI a b) := ints2 (fun i : Nat => a + (i : Int)) _
theorem Ag2.no (a : Ag2 r s h) {n m : Nat} (p : r[n]? = some m) : ∃ o o', s[n]? = some o ∧ h[m]? = some o' ∧ RO2 r o o' := by
  have hn : n < s.length := by rw [← a.len]; exact (List.getElem?_eq_some_iff.mp p).1
  have e : s[n]? = some s[n] := by simp [hn]
  obtain ⟨o', h1, h2⟩ := a.at_ e p
  exact ⟨_, o', e, h1, h2⟩
theorem L2O.wr {n m : Nat} {u o o' : OI} {v w : VI} (g : Ag2 r s h) (hn : s[n]? = some u) (p : r[n]? = some m) (k : RO2 r o o') (q : RV2 r v w) : L2O RV2 r h (some (v, s.set n o)) (some (w, h.set m o')) := by
  obtain ⟨g', e⟩ := g.wr hn p k
  exact ⟨_, _, _, rfl, e, g', q⟩
instance : LOp fEq := ⟨fun r s h x y x' y' g p q => by
  unfold fEq
  cases z : eqD s x y with
  | none => trivial
  | some b => rw [eqD2 g p q z]; exact .ok g (.bl b)⟩
instance : LOp fNe := ⟨fun r s h x y x' y' g p q => by
  unfold fNe
  cases z : eqD s x y with
  | none => trivial
  | some b => rw [eqD2 g p q z]; exact .ok g (.bl _)⟩
instance : LOp fIn := ⟨fun r s h x y x' y' g p q => by
  unfold fIn
  cases z : inM x y s with
  | none => trivial
  | some b => rw [inM2 g p q z]; exact .ok g (.bl b)⟩
instance : LOp fNotIn := ⟨fun r s h x y x' y' g p q => by
  unfold fNotIn
  cases z : inM x y s with
  | none => trivial
  | some b => rw [inM2 g p q z]; exact .ok g (.bl _)⟩
instance : LOp fAdd := ⟨fun r s h x y x' y' g p q => by
  unfold fAdd
  cases p with
  | int i =>
    cases q with
    | int j => exact .ok g (.int _)
    | _ => trivial
  | str i =>
    cases q with
    | str j =>
      dsimp only
      split
      · exact .ok g (.str _)
      · trivial
    | _ => trivial
  | tup i =>
    cases q with
    | tup j =>
      dsimp only
      rw [i.length, j.length]
      split
      · exact .ok g (.tup (i.append j))
      · trivial
    | _ => trivial
  | ref i =>
    cases q with
    | ref j =>
      obtain ⟨o, o', e1, e2, e3⟩ := g.no i
      obtain ⟨u, u', f1, f2, f3⟩ := g.no j
      dsimp only
      rw [e1, e2, f1, f2]
      cases e3 with
      | lst t =>
        cases f3 with
        | lst t2 =>
          dsimp only
          rw [t.length, t2.length]
          split
          · exact .new g fun r' e => .lst ((t.mono e).append (t2.mono e))
          · trivial
        | _ => trivial
      | _ => trivial
    | _ => trivial
  | _ => trivial⟩
instance : LOp fSub := ⟨fun r s h x y x' y' g p q => by
  unfold fSub
  cases p <;> cases q <;> first | trivial | exact .ok g (.int _)⟩
instance : LOp fMul := ⟨fun r s h x y x' y' g p q => by
  unfold fMul
  cases p with
  | int i =>
    cases q with
    | int j =>
      dsimp only
      split
      · exact .ok g (.int _)
      · trivial
    | _ => trivial
  | tup i =>
    cases q with
    | int j =>
      dsimp only
      rw [isEmp2 i, i.length]
      split
      · exact .ok g (.tup (repL2 i _))
      · trivial
    | _ => trivial
  | ref i =>
    cases q with
    | int j =>
      obtain ⟨o, o', e1, e2, e3⟩ := g.no i
      dsimp only
      rw [e1, e2]
      cases e3 with
      | lst t =>
        dsimp only
        rw [t.length]
        split
        · exact .new g fun r' e => .lst (repL2 (t.mono e) _)
        · trivial
      | _ => trivial
    | _ => trivial
  | _ => trivial⟩
instance : LOp fMod := ⟨fun r s h x y x' y' g p q => by
  unfold fMod
  cases p with
  | int i =>
    cases q with
    | int j =>
      dsimp only
      split
      · exact .ok g (.int _)
      · trivial
    | _ => trivial
  | _ => trivial⟩
instance : LOp fFdiv := ⟨fun r s h x y x' y' g p q => by
  unfold fFdiv
  cases p with
  | int i =>
    cases q with
    | int j =>
      dsimp only
      split
      · exact .ok g (.int _)
      · trivial
    | _ => trivial
  | _ => trivial⟩
instance : LOp fPow := ⟨fun r s h x y x' y' g p q => by
  unfold fPow
  cases p with
  | int i =>
    cases q with
    | int j =>
      dsimp only
      split
      · exact .ok g (.int _)
      · trivial
    | _ => trivial
  | _ => trivial⟩
instance {f : Int → Int → Bool} : LOp (fInt f) := ⟨fun r s h x y x' y' g p q => by
  unfold fInt
  cases p <;> cases q <;> first | trivial | exact .ok g (.bl _)⟩
instance : LOp fLt := inferInstanceAs (LOp (fInt _))
instance : LOp fLe := inferInstanceAs (LOp (fInt _))
instance : LOp fGt := inferInstanceAs (LOp (fInt _))
instance : LOp fGe := inferInstanceAs (LOp (fInt _))
instance : LOp fIsN := ⟨fun r s h x y x' y' g p q => by
  unfold fIsN
  cases q <;> first | trivial | (cases p <;> exact .ok g (.bl _))⟩
instance : LOp fNotN := ⟨fun r s h x y x' y' g p q => by
  unfold fNotN
  cases q <;> first | trivial | (cases p <;> exact .ok g (.bl _))⟩
theorem L2O.op {a b : Option VI} (g : Ag2 r s h) (k : ROp2 r a b) : L2O RV2 r h (match (generalizing := false) a with | some v => some (v, s) | none => none) (match (generalizing := false) b with | some v => some (v, h) | none => none) := by
  cases a with
  | none => trivial
  | some v => cases b with
    | none => exact k.elim
    | some w => exact .ok g k
instance : LOp fIx := ⟨fun r s h x y x' y' g p q => by
  unfold fIx
  cases p with
  | tup t =>
    cases q with
    | int i => exact .op g (ixL2 t i)
    | _ => trivial
  | ref i =>
    obtain ⟨o, o', e1, e2, e3⟩ := g.no i
    dsimp only
    rw [e1, e2]
    cases e3 with
    | lst t =>
      cases q with
      | int i => exact .op g (ixL2 t i)
      | _ => trivial
    | scr t =>
      cases q with
      | int i => exact .op g (ixL2 t i)
      | _ => trivial
    | dic t =>
      dsimp only
      rw [isKey2 q]
      have k := getD2 q t
      cases isKey y with
      | false => trivial
      | true =>
        cases z1 : getD y _ with
        | none => trivial
        | some v => rw [z1] at k; cases z2 : getD y' _ with
          | none => rw [z2] at k; exact k.elim
          | some w => rw [z2] at k; exact .ok g k
    | _ => trivial
  | _ => trivial⟩
instance : LOc cLen := ⟨fun r s h vs vs' g t => by
  unfold cLen
  cases t with
  | nil => trivial
  | cons p t =>
    cases t with
    | cons _ _ => cases p <;> trivial
    | nil =>
      cases p with
      | tup t => dsimp only; rw [t.length]; exact .ok g (.int _)
      | str x =>
        dsimp only
        split
        · exact .ok g (.int _)
        · trivial
      | ref i =>
        obtain ⟨o, o', e1, e2, e3⟩ := g.no i
        dsimp only
        rw [e1, e2]
        cases e3 with
        | lst t => dsimp only; rw [t.length]; exact .ok g (.int _)
        | scr t => dsimp only; rw [t.length]; exact .ok g (.int _)
        | dic t => dsimp only; rw [t.length]; exact .ok g (.int _)
        | _ => trivial
      | _ => trivial⟩
instance : LOc cInt := ⟨fun r s h vs vs' g t => by
  unfold cInt
  cases t with
  | nil => trivial
  | cons p t =>
    cases t with
    | cons _ _ => cases p <;> trivial
    | nil =>
      cases p with
      | int i => exact .ok g (.int _)
      | bl b => exact .ok g (.int _)
      | _ => trivial⟩
instance : LOc cMax := ⟨fun r s h vs vs' g t => by
  unfold cMax
  cases t with
  | nil => trivial
  | cons p t =>
    cases t with
    | nil => cases p <;> trivial
    | cons q t =>
      cases t with
      | cons _ _ => cases p <;> cases q <;> trivial
      | nil => cases p <;> cases q <;> first | trivial | exact .ok g (.int _)⟩
instance : LOc cMin := ⟨fun r s h vs vs' g t => by
  unfold cMin
  cases t with
  | nil => trivial
  | cons p t =>
    cases t with
    | nil => cases p <;> trivial
    | cons q t =>
      cases t with
      | cons _ _ => cases p <;> cases q <;> trivial
      | nil => cases p <;> cases q <;> first | trivial | exact .ok g (.int _)⟩
instance : LOc cList := ⟨fun r s h vs vs' g t => by
  unfold cList
  cases t with
  | nil => trivial
  | cons p t =>
    cases t with
    | cons _ _ => cases p <;> trivial
    | nil =>
      cases p with
      | tup t => exact .new g fun r' e => .lst (t.mono e)
      | ref i =>
        obtain ⟨o, o', e1, e2, e3⟩ := g.no i
        dsimp only
        rw [e1, e2]
        cases e3 with
        | lst t => exact .new g fun r' e => .lst (t.mono e)
        | scr t => exact .new g fun r' e => .lst (t.mono e)
        | dic t => exact .new g fun r' e => .lst ((keys2 t).mono e)
        | _ => trivial
      | _ => trivial⟩
instance : LOc cTuple := ⟨fun r s h vs vs' g t => by
  unfold cTuple
  cases t with
  | nil => trivial
  | cons p t =>
    cases t with
    | cons _ _ => cases p <;> trivial
    | nil =>
      cases p with
      | tup t => exact .ok g (.tup t)
      | ref i =>
        obtain ⟨o, o', e1, e2, e3⟩ := g.no i
        dsimp only
        rw [e1, e2]
        cases e3 with
        | lst t => exact .ok g (.tup t)
        | scr t => exact .ok g (.tup t)
        | _ => trivial
      | _ => trivial⟩
instance : LOc cDict := ⟨fun r s h vs vs' g t => by
  unfold cDict
  cases t with
  | nil => trivial
  | cons p t =>
    cases t with
    | cons _ _ => cases p <;> trivial
    | nil =>
      cases p with
      | ref i =>
        obtain ⟨o, o', e1, e2, e3⟩ := g.no i
        dsimp only
        rw [e1, e2]
        cases e3 with
        | dic t => exact .new g fun r' e => .dic (t.mono e)
        | _ => trivial
      | _ => trivial⟩
instance : LOm mAppend := ⟨fun r s h x x' vs vs' g p t => by
  unfold mAppend
  cases p with
  | ref i =>
    obtain ⟨o, o', e1, e2, e3⟩ := g.no i
    dsimp only
    rw [e1, e2]
    cases e3 with
    | lst l =>
      cases t with
      | nil => trivial
      | cons q t =>
        cases t with
        | cons _ _ => trivial
        | nil =>
          dsimp only
          rw [l.length]
          split
          · exact .wr g e1 i (.lst (l.append (.cons q .nil))) .non
          · trivial
    | _ => trivial
  | _ => trivial⟩
instance : LOm mExtend := ⟨fun r s h x x' vs vs' g p t => by
  unfold mExtend
  cases p with
  | ref i =>
    obtain ⟨o, o', e1, e2, e3⟩ := g.no i
    dsimp only
    rw [e1, e2]
    cases e3 with
    | lst l =>
      cases t with
      | nil => trivial
      | cons q t =>
        cases t with
        | cons _ _ => cases q <;> trivial
        | nil =>
          cases q with
          | ref j =>
            obtain ⟨u, u', f1, f2, f3⟩ := g.no j
            dsimp only
            rw [f1, f2]
            cases f3 with
            | lst l2 =>
              dsimp only
              rw [l.length, l2.length]
              split
              · exact .wr g e1 i (.lst (l.append l2)) .non
              · trivial
            | _ => trivial
          | _ => trivial
    | _ => trivial
  | _ => trivial⟩
instance : LOm mPop := ⟨fun r s h x x' vs vs' g p t => by
  unfold mPop
  cases p with
  | ref i =>
    obtain ⟨o, o', e1, e2, e3⟩ := g.no i
    dsimp only
    rw [e1, e2]
    cases e3 with
    | @lst xs ys l =>
      cases t with
      | cons _ _ => trivial
      | nil =>
        dsimp only
        cases z : xs[xs.length - 1]? with
        | none => trivial
        | some y =>
          obtain ⟨b, k1, k2⟩ := l.get z
          rw [← l.length, k1]
          exact .wr g e1 i (.lst (dropLast2 l)) k2
    | _ => trivial
  | _ => trivial⟩
end
end ML
end
section
namespace ML
open PySem L2
section
variable {r r' : List Nat} {h h' s : Hi}
def L2S (r : List Nat) (h : Hi) (a a' : RS) : Prop := match a with
  | .nx σ s' => ∃ r' h' σ', a' = .nx σ' h' ∧ Ex2 r h r' h' ∧ Ag2 r' s' h' ∧ AS2 r' σ σ'
  | .bk σ s' => ∃ r' h' σ', a' = .bk σ' h' ∧ Ex2 r h r' h' ∧ Ag2 r' s' h' ∧ AS2 r' σ σ'
  | .ct σ s' => ∃ r' h' σ', a' = .ct σ' h' ∧ Ex2 r h r' h' ∧ Ag2 r' s' h' ∧ AS2 r' σ σ'
  | .rt v s' => ∃ r' h' v', a' = .rt v' h' ∧ Ex2 r h r' h' ∧ Ag2 r' s' h' ∧ RV2 r' v v'
  | .ex c n σ s' => ∃ r' h' σ' m, a' = .ex c m σ' h' ∧ Ex2 r h r' h' ∧ Ag2 r' s' h' ∧ AS2 r' σ σ' ∧ r'[n]? = some m
  | .err => True
theorem L2S.ext {a a' : RS} (x : Ex2 r h r' h') (k : L2S r' h' a a') : L2S r h a a' := by
  cases a with
  | err => trivial
  | nx σ s' => obtain ⟨r2, h2, m, e1, e2, e3⟩ := k; exact ⟨r2, h2, m, e1, x.trans e2, e3⟩
  | bk σ s' => obtain ⟨r2, h2, m, e1, e2, e3⟩ := k; exact ⟨r2, h2, m, e1, x.trans e2, e3⟩
  | ct σ s' => obtain ⟨r2, h2, m, e1, e2, e3⟩ := k; exact ⟨r2, h2, m, e1, x.trans e2, e3⟩
  | rt σ s' => obtain ⟨r2, h2, m, e1, e2, e3⟩ := k; exact ⟨r2, h2, m, e1, x.trans e2, e3⟩
  | ex c n σ s' => obtain ⟨r2, h2, m, m2, e1, e2, e3⟩ := k; exact ⟨r2, h2, m, m2, e1, x.trans e2, e3⟩
theorem L2R.ext {α : Type} {R : List Nat → α → α → Prop} {a a' : Res α} (x : Ex2 r h r' h') (k : L2R R r' h' a a') : L2R R r h a a' := by
  cases a with
  | err => trivial
  | ok σ s' => obtain ⟨r2, h2, m, e1, e2, e3⟩ := k; exact ⟨r2, h2, m, e1, x.trans e2, e3⟩
  | ex c n s' => obtain ⟨r2, h2, m, e1, e2, e3⟩ := k; exact ⟨r2, h2, m, e1, x.trans e2, e3⟩
theorem L2S.nx {σ σ' : Sg} (g : Ag2 r s h) (a : AS2 r σ σ') : L2S r h (.nx σ s) (.nx σ' h) := ⟨_, _, _, rfl, .refl, g, a⟩
theorem L2R.bindS {α : Type} {R : List Nat → α → α → Prop} {a a' : Res α} {σ σ' : Sg} {k k' : α → Hi → RS} (h1 : L2R R r h a a') (as : AS2 r σ σ')
    (h2 : ∀ r1 s1 h1 x x', Ex2 r h r1 h1 → Ag2 r1 s1 h1 → R r1 x x' → L2S r1 h1 (k x s1) (k' x' h1)) : L2S r h (a.bindS σ k) (a'.bindS σ' k') := by
  cases a with
  | err => trivial
  | ex c n s' =>
    obtain ⟨r', h', m, rfl, e, g, q⟩ := h1
    exact ⟨r', h', σ', m, rfl, e, g, as.mono e, q⟩
  | ok v s' =>
    obtain ⟨r', h', v', rfl, e, g, q⟩ := h1
    exact (h2 r' s' h' v v' e g q).ext e
theorem L2S.andThen {a a' : RS} {f f' : MS} (k : L2S r h a a') (t : ∀ r1 s1 h1 σ σ', Ex2 r h r1 h1 → Ag2 r1 s1 h1 → AS2 r1 σ σ' → L2S r1 h1 (f σ s1) (f' σ' h1)) : L2S r h (a.andThen f) (a'.andThen f') := by
  cases a with
  | err => trivial
  | nx σ s' => obtain ⟨r2, h2, m, rfl, e2, e3, e4⟩ := k; exact (t _ _ _ _ _ e2 e3 e4).ext e2
  | bk σ s' => obtain ⟨r2, h2, m, rfl, e2, e3⟩ := k; exact ⟨r2, h2, m, rfl, e2, e3⟩
  | ct σ s' => obtain ⟨r2, h2, m, rfl, e2, e3⟩ := k; exact ⟨r2, h2, m, rfl, e2, e3⟩
  | rt σ s' => obtain ⟨r2, h2, m, rfl, e2, e3⟩ := k; exact ⟨r2, h2, m, rfl, e2, e3⟩
  | ex c n σ s' => obtain ⟨r2, h2, m, m2, rfl, e2, e3⟩ := k; exact ⟨r2, h2, m, m2, rfl, e2, e3⟩
theorem L2R.dropV {a a' : Res VI} {σ σ' : Sg} (k : L2R RV2 r h a a') (as : AS2 r σ σ') : L2S r h (dropV σ a) (dropV σ' a') := by
  cases a with
  | err => trivial
  | ok v s' => obtain ⟨r2, h2, m, rfl, e, g, _⟩ := k; exact ⟨r2, h2, σ', rfl, e, g, as.mono e⟩
  | ex c n s' => obtain ⟨r2, h2, m, rfl, e, g, q⟩ := k; exact ⟨r2, h2, σ', m, rfl, e, g, as.mono e, q⟩
end
class LS (m : MS) : Prop where
  run : ∀ r s h σ σ', Ag2 r s h → AS2 r σ σ' → L2S r h (m σ s) (m σ' h)
class LG (g : MG) : Prop where
  run : ∀ r s h σ σ' v v', Ag2 r s h → AS2 r σ σ' → RV2 r v v' → L2S r h (g v σ s) (g v' σ' h)
class LTb (tbl : Nat → Option MF) : Prop where
  run : ∀ c g, tbl c = some g → LF g
class CTb (tbl : Nat → Option VI) : Prop where
  run : ∀ c v, tbl c = some v → ∀ r, RV2 r v v
instance : LTb (lkT []) := ⟨fun c g e => by cases e⟩
instance {d : Nat} {x : MF} {l : List (Nat × MF)} [a : LF x] [b : LTb (lkT l)] : LTb (lkT ((d, x) :: l)) := ⟨fun c g e => by
  rcases lkT_cons e with ⟨_, rfl⟩ | q
  · exact a
  · exact b.run c g q⟩
instance : CTb (lkT []) := ⟨fun c g e => by cases e⟩
instance {d : Nat} {x : VI} {l : List (Nat × VI)} [a : CV x] [b : CTb (lkT l)] : CTb (lkT ((d, x) :: l)) := ⟨fun c g e => by
  rcases lkT_cons e with ⟨_, rfl⟩ | q
  · exact a.self
  · exact b.run c g q⟩
class CTs (tbl : S → Option VI) : Prop where
  run : ∀ c v, tbl c = some v → ∀ r, RV2 r v v
instance : CTs (lkS []) := ⟨fun c g e => by cases e⟩
instance {d : S} {x : VI} {l : List (S × VI)} [a : CV x] [b : CTs (lkS l)] : CTs (lkS ((d, x) :: l)) := ⟨fun c v e => by
  unfold lkS at e
  split at e
  · cases e; exact a.self
  · exact b.run c v e⟩
section
variable {ma mb mc : ME} {ta tb : MT} {aa ab : MA} {sa sb : MS} {ga : MG}
instance {cs : List Nat} {f : S} [x : LE ma] : LE (eFld cs f ma) := ⟨fun r s h σ σ' g a => (x.run r s h σ σ' g a).bind fun r1 s1 h1 v v' e1 g1 q1 => by
  cases q1 with
  | ref p =>
    obtain ⟨o, o', z1, z2, z3⟩ := g1.no p
    dsimp only
    rw [z1, z2]
    cases z3 with
    | @ins c xs ys t =>
      dsimp only
      have k := getF2 (f := f) t
      cases cs.contains c with
      | false => trivial
      | true =>
        cases w1 : getF f xs with
        | none => trivial
        | some v => cases w2 : getF f ys with
          | none => rw [w1, w2] at k; exact k.elim
          | some w => rw [w1, w2] at k; exact .ok g1 k
    | _ => trivial
  | _ => trivial⟩
instance {tbl : Nat → Option VI} {f : S} [c : CTb tbl] [x : LE ma] : LE (eCon tbl f ma) := ⟨fun r s h σ σ' g a => (x.run r s h σ σ' g a).bind fun r1 s1 h1 v v' e1 g1 q1 => by
  cases q1 with
  | ref p =>
    obtain ⟨o, o', z1, z2, z3⟩ := g1.no p
    dsimp only
    rw [z1, z2]
    cases z3 with
    | @ins d xs ys t =>
      dsimp only
      have k := getF2 (f := f) t
      cases w0 : tbl d with
      | none => trivial
      | some u =>
        cases w1 : getF f xs with
        | some v => trivial
        | none => cases w2 : getF f ys with
          | some _ => rw [w1, w2] at k; exact k.elim
          | none => exact .ok g1 (c.run _ _ w0 _)
    | _ => trivial
  | _ => trivial⟩
instance {tbl : Nat → Option MF} {f : S} [c : LTb tbl] [x : LE ma] [y : LA aa] : LE (eMeth tbl f ma aa) := ⟨fun r s h σ σ' g a => (x.run r s h σ σ' g a).bind fun r1 s1 h1 v v' e1 g1 q1 => by
  cases q1 with
  | ref p =>
    obtain ⟨o, o', z1, z2, z3⟩ := g1.no p
    dsimp only
    rw [z1, z2]
    cases z3 with
    | @ins d xs ys t =>
      dsimp only
      have k := getF2 (f := f) t
      cases w0 : tbl d with
      | none => trivial
      | some u =>
        cases w1 : getF f xs with
        | some v => trivial
        | none => cases w2 : getF f ys with
          | some _ => rw [w1, w2] at k; exact k.elim
          | none => exact (y.run _ _ _ _ _ g1 (a.mono e1)).bind fun r2 s2 h2 w w' e2 g2 q2 => (c.run _ _ w0).run _ _ _ _ _ g2 (.cons (.ref (e2.pre p)) q2)
    | _ => trivial
  | _ => trivial⟩
theorem L2R.okM {r : List Nat} {h : Hi} {a a' : Res VI} (k : L2R RV2 r h a a') : L2R RV2 r h (okM a) (okM a') := by
  cases a with
  | err => trivial
  | ok v s' => obtain ⟨r2, h2, m, rfl, e⟩ := k; exact ⟨r2, h2, m, rfl, e⟩
  | ex c n s' => trivial
instance {tbl : Nat → Option MF} [c : LTb tbl] [x : LE ma] : LE (eProp tbl ma) := ⟨fun r s h σ σ' g a => (x.run r s h σ σ' g a).bind fun r1 s1 h1 v v' e1 g1 q1 => by
  cases q1 with
  | ref p =>
    obtain ⟨o, o', z1, z2, z3⟩ := g1.no p
    dsimp only
    rw [z1, z2]
    cases z3 with
    | @ins d xs ys t =>
      dsimp only
      cases w0 : tbl d with
      | none => trivial
      | some u => exact ((c.run _ _ w0).run _ _ _ _ _ g1 (.cons (.ref p) .nil)).okM
    | _ => trivial
  | _ => trivial⟩
theorem mk2 {f : MF} [x : LF f] {c : Nat} {r : List Nat} {s h : Hi} {vs vs' : List VI} (g : Ag2 r s h) (q : Ex2 r h (r ++ [h.length]) (h ++ [.ins c []]) → RVs2 (r ++ [h.length]) vs vs') :
    L2R RV2 r h (match f vs (s ++ [.ins c []]) with | .ok .non h2 => .ok (.ref s.length) h2 | .ex c n h2 => .ex c n h2 | _ => .err) (match f vs' (h ++ [.ins c []]) with | .ok .non h2 => .ok (.ref h.length) h2 | .ex c n h2 => .ex c n h2 | _ => .err) := by
  obtain ⟨g', e⟩ := g.new (o := .ins c []) (o' := .ins c []) (.ins .nil)
  have k := x.run _ _ _ _ _ g' (q e)
  cases z : f vs (s ++ [.ins c []]) with
  | err => trivial
  | ex d n s2 => rw [z] at k; obtain ⟨r2, h2, m, k1, k2, k3, k4⟩ := k; rw [k1]; exact ⟨r2, h2, m, rfl, e.trans k2, k3, k4⟩
  | ok v s2 =>
    rw [z] at k
    obtain ⟨r2, h2, m, k1, k2, k3, k4⟩ := k
    rw [k1]
    cases k4 with
    | non => exact ⟨r2, h2, _, rfl, e.trans k2, k3, .ref (k2.pre g.idx)⟩
    | _ => trivial
instance {c : Nat} {f : MF} [x : LF f] : LF (mkM c f) := ⟨fun r s h vs vs' g q => mk2 g fun e => .cons (.ref g.idx) (q.mono e)⟩
class LK (k : MK) : Prop where
  run : ∀ r s h vs vs' zs zs', Ag2 r s h → RVs2 r vs vs' → RVs2 r zs zs' → L2R RV2 r h (k vs zs s) (k vs' zs' h)
class LAr (f : List VI → List VI → List VI) : Prop where
  run : ∀ r vs vs' zs zs', RVs2 r vs vs' → RVs2 r zs zs' → RVs2 r (f vs zs) (f vs' zs')
instance {f : MF} {arr : List VI → List VI → List VI} [x : LF f] [y : LAr arr] : LK (fnK f arr) := ⟨fun r s h vs vs' zs zs' g p q => x.run _ _ _ _ _ g (y.run _ _ _ _ _ p q)⟩
instance {c : Nat} {f : MF} {arr : List VI → List VI → List VI} [x : LF f] [y : LAr arr] : LK (mkK c f arr) := ⟨fun r s h vs vs' zs zs' g p q => mk2 g fun e => y.run _ _ _ _ _ (.cons (.ref g.idx) (p.mono e)) (q.mono e)⟩
instance {n m : Nat} {k : MK} [x : LK k] [y : LA aa] [z : LA ab] : LE (eCallK n m k aa ab) := ⟨fun r s h σ σ' g a => (y.run r s h σ σ' g a).bind fun r1 s1 h1 v v' e1 g1 q1 => (z.run _ _ _ _ _ g1 (a.mono e1)).bind fun r2 s2 h2 w w' e2 g2 q2 => by
  rw [q1.length, q2.length]
  split
  · exact x.run _ _ _ _ _ _ _ g2 (q1.mono e2) q2
  · trivial⟩
theorem ins2 {r : List Nat} {s h : Hi} (g : Ag2 r s h) {x y : VI} (p : RV2 r x y) : insC y h = insC x s := by
  cases p with
  | ref i =>
    obtain ⟨o, o', z1, z2, z3⟩ := g.no i
    unfold insC
    dsimp only
    rw [z1, z2]
    cases z3 <;> rfl
  | _ => rfl
instance {tbl : Nat → Option MF} [c : LTb tbl] [x : LE ma] [y : LE mb] : LE (eIxU tbl ma mb) := ⟨fun r s h σ σ' g a => (x.run r s h σ σ' g a).bind fun r1 s1 h1 v v' e1 g1 q1 => (y.run _ _ _ _ _ g1 (a.mono e1)).bind fun r2 s2 h2 w w' e2 g2 q2 => by
  rw [ins2 g2 (q1.mono e2)]
  cases z : insC v s2 with
  | none => exact .ofO (LOp.run (f := fIx) _ _ _ _ _ _ _ g2 (q1.mono e2) q2)
  | some d =>
    dsimp only
    cases w0 : tbl d with
    | none => trivial
    | some u => exact (c.run _ _ w0).run _ _ _ _ _ g2 (.cons (q1.mono e2) (.cons q2 .nil))⟩
theorem putIx2 {r : List Nat} {s h s' : Hi} (g : Ag2 r s h) {x x' y y' z z' : VI} (p : RV2 r x x') (q : RV2 r y y') (k : RV2 r z z') (e : putIx x y z s = some s') : ∃ h', putIx x' y' z' h = some h' ∧ Ex2 r h r h' ∧ Ag2 r s' h' := by
  unfold putIx at e ⊢
  cases p with
  | ref i =>
    obtain ⟨o, o', z1, z2, z3⟩ := g.no i
    dsimp only at e ⊢
    rw [z1] at e
    rw [z2]
    cases z3 with
    | lst t =>
      cases q with
      | int j =>
        dsimp only at e ⊢
        rw [← t.length]
        split at e
        · cases e
          obtain ⟨a, b⟩ := g.wr z1 i (.lst (t.set _ k))
          exact ⟨_, rfl, b, a⟩
        · cases e
      | _ => cases e
    | dic t =>
      dsimp only at e ⊢
      rw [isKey2 q, ← t.length]
      split at e
      · cases e
        obtain ⟨a, b⟩ := g.wr z1 i (.dic (putD2 q k t))
        exact ⟨_, rfl, b, a⟩
      · cases e
    | _ => cases e
  | _ => cases e
theorem nxO2 {r : List Nat} {s h : Hi} {σ σ' : Sg} (g : Ag2 r s h) (as : AS2 r σ σ') {x x' y y' z z' : VI} (p : RV2 r x x') (q : RV2 r y y') (k : RV2 r z z') : L2S r h (nxO σ (putIx x y z s)) (nxO σ' (putIx x' y' z' h)) := by
  cases e : putIx x y z s with
  | none => trivial
  | some s' => obtain ⟨h', e1, e2, e3⟩ := putIx2 g p q k e; rw [e1]; exact ⟨_, _, _, rfl, e2, e3, as.mono e2⟩
instance {tbl : Nat → Option MF} [c : LTb tbl] [x : LE ma] [y : LE mb] : LG (gIxU tbl ma mb) := ⟨fun r s h σ σ' u u' g a q => (x.run r s h σ σ' g a).bindS a fun r1 s1 h1 v v' e1 g1 q1 => (y.run _ _ _ _ _ g1 (a.mono e1)).bindS (a.mono e1) fun r2 s2 h2 w w' e2 g2 q2 => by
  rw [ins2 g2 (q1.mono e2)]
  have a2 := (a.mono e1).mono e2
  cases z : insC v s2 with
  | none => exact nxO2 g2 a2 (q1.mono e2) q2 ((q.mono e1).mono e2)
  | some d =>
    dsimp only
    cases w0 : tbl d with
    | none => trivial
    | some f => exact ((c.run _ _ w0).run _ _ _ _ _ g2 (.cons (q1.mono e2) (.cons q2 (.cons ((q.mono e1).mono e2) .nil)))).dropV a2⟩
instance [x : LE ma] [y : LE mb] : LG (gIx ma mb) := ⟨fun r s h σ σ' u u' g a q => (x.run r s h σ σ' g a).bindS a fun r1 s1 h1 v v' e1 g1 q1 => (y.run _ _ _ _ _ g1 (a.mono e1)).bindS (a.mono e1) fun r2 s2 h2 w w' e2 g2 q2 => nxO2 g2 ((a.mono e1).mono e2) (q1.mono e2) q2 ((q.mono e1).mono e2)⟩
instance {i : Nat} : LG (gNm i) := ⟨fun r s h σ σ' u u' g a q => .nx g (a.set q i)⟩
theorem fld2 {r : List Nat} {s h : Hi} {σ σ' : Sg} {cs : List Nat} {f : S} {x x' y y' : VI} (g2 : Ag2 r s h) (as : AS2 r σ σ') (p : RV2 r x x') (q : RV2 r y y') : L2S r h
    (match (generalizing := false) x with | .ref n => (match (generalizing := false) s[n]? with | some (.ins c fs) => (match (generalizing := false) cs.contains c && Nat.blt fs.length 1000 with | true => .nx σ (s.set n (.ins c (setF f y fs))) | false => .err) | _ => .err) | _ => .err)
    (match (generalizing := false) x' with | .ref n => (match (generalizing := false) h[n]? with | some (.ins c fs) => (match (generalizing := false) cs.contains c && Nat.blt fs.length 1000 with | true => .nx σ' (h.set n (.ins c (setF f y' fs))) | false => .err) | _ => .err) | _ => .err) := by
  cases p with
  | ref i =>
    obtain ⟨o, o', z1, z2, z3⟩ := g2.no i
    dsimp only
    rw [z1, z2]
    cases z3 with
    | ins t =>
      dsimp only
      rw [t.length]
      split
      · obtain ⟨a, b⟩ := g2.wr z1 i (.ins (setF2 q t))
        exact ⟨_, _, _, rfl, b, a, as.mono b⟩
      · trivial
    | _ => trivial
  | _ => trivial
instance {cs : List Nat} {f : S} [x : LE ma] [y : LE mb] : LS (sFldM cs f ma mb) := ⟨fun r s h σ σ' g a => (y.run r s h σ σ' g a).bindS a fun r1 s1 h1 v v' e1 g1 q1 => (x.run _ _ _ _ _ g1 (a.mono e1)).bindS (a.mono e1) fun r2 s2 h2 w w' e2 g2 q2 => fld2 g2 ((a.mono e1).mono e2) q2 (q1.mono e2)⟩
instance {cs : List Nat} {f : S} [x : LE ma] : LG (gFld cs f ma) := ⟨fun r s h σ σ' u u' g a q => (x.run r s h σ σ' g a).bindS a fun r2 s2 h2 w w' e2 g2 q2 => fld2 g2 (a.mono e2) q2 (q.mono e2)⟩
instance [z : LE mc] [x : LE ma] [y : LE mb] : LS (sPut ma mb mc) := ⟨fun r s h σ σ' g a => (z.run r s h σ σ' g a).bindS a fun r0 s0 h0 u u' e0 g0 q0 => (x.run _ _ _ _ _ g0 (a.mono e0)).bindS (a.mono e0) fun r1 s1 h1 v v' e1 g1 q1 => (y.run _ _ _ _ _ g1 ((a.mono e0).mono e1)).bindS ((a.mono e0).mono e1) fun r2 s2 h2 w w' e2 g2 q2 => nxO2 g2 (((a.mono e0).mono e1).mono e2) (q1.mono e2) q2 ((q0.mono e1).mono e2)⟩
instance : LS sNx := ⟨fun r s h σ σ' g a => .nx g a⟩
instance : LS sErr := ⟨fun r s h σ σ' g a => trivial⟩
instance : LT tErr := ⟨fun r s h σ σ' g a => trivial⟩
instance : LS sBk := ⟨fun r s h σ σ' g a => ⟨_, _, _, rfl, .refl, g, a⟩⟩
instance : LS sCt := ⟨fun r s h σ σ' g a => ⟨_, _, _, rfl, .refl, g, a⟩⟩
instance : LS sRetN := ⟨fun r s h σ σ' g a => ⟨_, _, _, rfl, .refl, g, .non⟩⟩
instance [x : LS sa] [y : LS sb] : LS (sSeq sa sb) := ⟨fun r s h σ σ' g a => (x.run r s h σ σ' g a).andThen fun r1 s1 h1 t t' e1 g1 q1 => y.run _ _ _ _ _ g1 q1⟩
instance [x : LE ma] : LS (sRet ma) := ⟨fun r s h σ σ' g a => (x.run r s h σ σ' g a).bindS a fun r1 s1 h1 v v' e1 g1 q1 => ⟨_, _, _, rfl, .refl, g1, q1⟩⟩
instance [x : LE ma] : LS (sDrop ma) := ⟨fun r s h σ σ' g a => (x.run r s h σ σ' g a).bindS a fun r1 s1 h1 v v' e1 g1 q1 => .nx g1 (a.mono e1)⟩
instance [x : LT ta] [y : LS sa] [z : LS sb] : LS (sIf ta sa sb) := ⟨fun r s h σ σ' g a => (x.run r s h σ σ' g a).bindS a fun r1 s1 h1 v v' e1 g1 q1 => by
  subst q1
  cases v with
  | true => exact y.run _ _ _ _ _ g1 (a.mono e1)
  | false => exact z.run _ _ _ _ _ g1 (a.mono e1)⟩
instance [x : LE ma] [y : LG ga] : LS (sAsg ma ga) := ⟨fun r s h σ σ' g a => (x.run r s h σ σ' g a).bindS a fun r1 s1 h1 v v' e1 g1 q1 => y.run _ _ _ _ _ _ _ g1 (a.mono e1) q1⟩
instance {known : Nat → Bool} {i : Nat} {f : MF} [x : LF f] [y : LA aa] : LS (sSuper known i f aa) := ⟨fun r s h σ σ' g a => by
  unfold sSuper
  cases z : σ[i]? with
  | none => trivial
  | some o =>
    cases o with
    | none => trivial
    | some v =>
      obtain ⟨w, k1, k2⟩ := a.at_ i v z
      rw [k1]
      cases k2 with
      | ref p =>
        obtain ⟨o, o', z1, z2, z3⟩ := g.no p
        dsimp only
        rw [z1, z2]
        cases z3 with
        | ins t =>
          dsimp only
          split
          · exact (y.run _ _ _ _ _ g a).bindS a fun r1 s1 h1 v v' e1 g1 q1 => (x.run _ _ _ _ _ g1 (.cons (.ref (e1.pre p)) q1)).dropV (a.mono e1)
          · trivial
        | _ => trivial
      | _ => trivial⟩
instance {i j : Nat} [y : LA aa] : LS (sPar i j aa) := ⟨fun r s h σ σ' g a => (y.run r s h σ σ' g a).bindS a fun r1 s1 h1 v v' e1 g1 q1 => by
  cases q1 with
  | nil => trivial
  | cons p t => cases t with
    | nil => trivial
    | cons q t => cases t with
      | cons _ _ => trivial
      | nil => exact .nx g1 (((a.mono e1).set p i).set q j)⟩
instance {i j l : Nat} [y : LA aa] : LS (sPar3 i j l aa) := ⟨fun r s h σ σ' g a => (y.run r s h σ σ' g a).bindS a fun r1 s1 h1 v v' e1 g1 q1 => by
  cases q1 with
  | nil => trivial
  | cons p t => cases t with
    | nil => trivial
    | cons q t => cases t with
      | nil => trivial
      | cons u t => cases t with
        | cons _ _ => trivial
        | nil => exact .nx g1 ((((a.mono e1).set p i).set q j).set u l)⟩
end
end ML
end
section
set_option maxHeartbeats 400000
namespace ML
open PySem L2
section
variable {ma mb mc : ME} {ta tb : MT} {aa ab : MA} {sa sb : MS} {ga : MG}
instance {T : IsT} [x : LE ma] : LE (eIsi T ma) := ⟨fun r s h σ σ' g a => (x.run r s h σ σ' g a).bind fun r1 s1 h1 v v' e1 g1 q1 => by
  have same : isT T v' h1 = isT T v s1 := by
    unfold isT
    cases q1 with
    | ref i =>
      obtain ⟨o, o', z1, z2, z3⟩ := g1.no i
      dsimp only
      rw [z1, z2]
      cases z3 <;> rfl
    | _ => rfl
  rw [same]
  cases isT T v s1 with
  | none => trivial
  | some b => exact .ok g1 (.bl b)⟩
instance {tbl : S → Option VI} [c : CTs tbl] [x : LE ma] : LE (eKd tbl ma) := ⟨fun r s h σ σ' g a => (x.run r s h σ σ' g a).bind fun r1 s1 h1 v v' e1 g1 q1 => by
  cases q1 with
  | str y =>
    dsimp only
    cases z : tbl y with
    | none => trivial
    | some w => exact .ok g1 (c.run _ _ z _)
  | _ => trivial⟩
instance [x : LE ma] [y : LE mb] : LE (eTupRg ma mb) := ⟨fun r s h σ σ' g a => (x.run r s h σ σ' g a).bind fun r1 s1 h1 v v' e1 g1 q1 => (y.run _ _ _ _ _ g1 (a.mono e1)).bind fun r2 s2 h2 w w' e2 g2 q2 => by
  cases q1 with
  | int i => cases q2 with
    | int j =>
      dsimp only
      split
      · exact .ok g2 (.tup (rgI2 _ _))
      · trivial
    | _ => trivial
  | _ => trivial⟩
instance [x : LE ma] [y : LE mb] : LE (eLstRg ma mb) := ⟨fun r s h σ σ' g a => (x.run r s h σ σ' g a).bind fun r1 s1 h1 v v' e1 g1 q1 => (y.run _ _ _ _ _ g1 (a.mono e1)).bind fun r2 s2 h2 w w' e2 g2 q2 => by
  cases q1 with
  | int i => cases q2 with
    | int j =>
      dsimp only
      split
      · exact .new g2 fun r' e => .lst (rgI2 _ _)
      · trivial
    | _ => trivial
  | _ => trivial⟩
instance [y : LE mb] : LE (eTupRg1 mb) := ⟨fun r s h σ σ' g a => (y.run r s h σ σ' g a).bind fun r2 s2 h2 w w' e2 g2 q2 => by
  cases q2 with
  | int j =>
    dsimp only
    split
    · exact .ok g2 (.tup (rgI2 _ _))
    · trivial
  | _ => trivial⟩
instance [y : LE mb] : LE (eLstRg1 mb) := ⟨fun r s h σ σ' g a => (y.run r s h σ σ' g a).bind fun r2 s2 h2 w w' e2 g2 q2 => by
  cases q2 with
  | int j =>
    dsimp only
    split
    · exact .new g2 fun r' e => .lst (rgI2 _ _)
    · trivial
  | _ => trivial⟩
instance {lo hi : MO} [x : LE ma] [y : LO lo] [z : LO hi] : LE (eSl ma lo hi) := ⟨fun r s h σ σ' g a => (x.run r s h σ σ' g a).bind fun r1 s1 h1 v v' e1 g1 q1 => (y.run _ _ _ _ _ g1 (a.mono e1)).bind fun r2 s2 h2 w w' e2 g2 q2 => (z.run _ _ _ _ _ g2 ((a.mono e1).mono e2)).bind fun r3 s3 h3 u u' e3 g3 q3 => by
  subst q2 q3
  have p := (q1.mono e2).mono e3
  refine .ofO ?_
  unfold sliceM
  cases p with
  | tup t => exact .ok g3 (.tup (cutI2 t _ _))
  | ref i =>
    obtain ⟨o, o', z1, z2, z3⟩ := g3.no i
    dsimp only
    rw [z1, z2]
    cases z3 with
    | lst t => exact .new g3 fun r' e => .lst ((cutI2 t _ _).mono e)
    | scr t => exact .new g3 fun r' e => .lst ((cutI2 t _ _).mono e)
    | _ => trivial
  | _ => trivial⟩
instance [x : LE ma] [y : LE mb] [z : LE mc] : LE (eGet2 ma mb mc) := ⟨fun r s h σ σ' g a => (x.run r s h σ σ' g a).bind fun r1 s1 h1 v v' e1 g1 q1 => by
  cases q1 with
  | ref p =>
    obtain ⟨o, o', z1, z2, z3⟩ := g1.no p
    dsimp only
    rw [z1, z2]
    cases z3 with
    | dic t =>
      dsimp only
      exact (y.run _ _ _ _ _ g1 (a.mono e1)).bind fun r2 s2 h2 w w' e2 g2 q2 => (z.run _ _ _ _ _ g2 ((a.mono e1).mono e2)).bind fun r3 s3 h3 u u' e3 g3 q3 => by
        obtain ⟨o, o', k1, k2, k3⟩ := g3.no (e3.pre (e2.pre p))
        rw [k1, k2, isKey2 q2]
        cases k3 with
        | @dic xs ys t =>
          cases isKey w with
          | false => trivial
          | true =>
            dsimp only
            have k := getD2 (q2.mono e3) t
            cases w1 : getD w xs with
            | none => cases w2 : getD w' ys with
              | none => exact .ok g3 q3
              | some _ => rw [w1, w2] at k; exact k.elim
            | some _ => cases w2 : getD w' ys with
              | none => rw [w1, w2] at k; exact k.elim
              | some _ => rw [w1, w2] at k; exact .ok g3 k
        | _ => cases isKey w <;> trivial
    | _ => trivial
  | _ => trivial⟩
instance : LE eDisp0 := ⟨fun r s h σ σ' g a => .new g fun r' e => .dic .nil⟩
end
end ML
end
section
set_option maxHeartbeats 400000
namespace ML
open PySem L2
inductive RI2 (r : List Nat) : Itm → Itm → Prop
  | tup {xs ys : List VI} (t : RVs2 r xs ys) : RI2 r (.tup xs) (.tup ys)
  | lst {n m : Nat} (p : r[n]? = some m) : RI2 r (.lst n) (.lst m)
  | rng (lo : Int) (k : Nat) : RI2 r (.rng lo k) (.rng lo k)
  | enl {n m : Nat} (p : r[n]? = some m) : RI2 r (.enl n) (.enl m)
  | zip {n m n' m' : Nat} (p : r[n]? = some m) (q : r[n']? = some m') : RI2 r (.zip n n') (.zip m m')
  | zlt {n m : Nat} {xs ys : List VI} (p : r[n]? = some m) (t : RVs2 r xs ys) : RI2 r (.zlt n xs) (.zlt m ys)
class LI (m : MI) : Prop where
  run : ∀ r s h σ σ', Ag2 r s h → AS2 r σ σ' → L2R RI2 r h (m σ s) (m σ' h)
section
variable {r r' : List Nat} {h h' s : Hi}
theorem RI2.mono (e : Ex2 r h r' h') {a b : Itm} (k : RI2 r a b) : RI2 r' a b := by
  cases k with
  | tup t => exact .tup (t.mono e)
  | lst p => exact .lst (e.pre p)
  | rng a b => exact .rng a b
  | enl p => exact .enl (e.pre p)
  | zip p q => exact .zip (e.pre p) (e.pre q)
  | zlt p t => exact .zlt (e.pre p) (t.mono e)
def ROs2 (r : List Nat) : Option (List VI) → Option (List VI) → Prop
  | some a, some b => RVs2 r a b
  | none, none => True
  | _, _ => False
theorem listAt2 (g : Ag2 r s h) {n m : Nat} (p : r[n]? = some m) : ROs2 r (listAt n s) (listAt m h) := by
  obtain ⟨o, o', z1, z2, z3⟩ := g.no p
  unfold listAt
  rw [z1, z2]
  cases z3 with
  | lst t => exact t
  | scr t => exact t
  | _ => trivial
theorem gt2 {xs ys : List VI} (i : Nat) (t : RVs2 r xs ys) : ROp2 r xs[i]? ys[i]? := by
  cases z : xs[i]? with
  | none => rw [t.none z]; trivial
  | some v => obtain ⟨w, h1, h2⟩ := t.get z; rw [h1]; exact h2
def ROO2 (r : List Nat) : Option (Option VI) → Option (Option VI) → Prop
  | some a, some b => ROp2 r a b
  | none, none => True
  | _, _ => False
theorem nxt2 (g : Ag2 r s h) {a b : Itm} (k : RI2 r a b) (i : Nat) : ROO2 r (a.nxt i s) (b.nxt i h) := by
  cases k with
  | tup t => exact gt2 i t
  | @lst n m p =>
    have k := listAt2 g p
    show ROO2 r (match (generalizing := false) listAt n s with | some xs => some xs[i]? | none => none) (match (generalizing := false) listAt m h with | some xs => some xs[i]? | none => none)
    cases z1 : listAt n s with
    | none => cases z2 : listAt m h with
      | none => trivial
      | some _ => rw [z1, z2] at k; exact k.elim
    | some xs => cases z2 : listAt m h with
      | none => rw [z1, z2] at k; exact k.elim
      | some ys => rw [z1, z2] at k; exact gt2 i k
  | rng lo k =>
    unfold Itm.nxt
    dsimp only
    cases Nat.blt i k with
    | true => exact RV2.int (r := r) (lo + (i : Nat))
    | false => trivial
  | @enl n m p =>
    have k := listAt2 g p
    unfold Itm.nxt
    dsimp only
    cases z1 : listAt n s with
    | none => cases z2 : listAt m h with
      | none => trivial
      | some _ => rw [z1, z2] at k; exact k.elim
    | some xs => cases z2 : listAt m h with
      | none => rw [z1, z2] at k; exact k.elim
      | some ys =>
        rw [z1, z2] at k
        have j := gt2 i k
        dsimp only
        cases y1 : xs[i]? with
        | none => cases y2 : ys[i]? with
          | none => trivial
          | some _ => rw [y1, y2] at j; exact j.elim
        | some v => cases y2 : ys[i]? with
          | none => rw [y1, y2] at j; exact j.elim
          | some w => rw [y1, y2] at j; exact RV2.tup (r := r) (.cons (.int _) (.cons j .nil))
  | @zip n m n' m' p q =>
    have k := listAt2 g p
    have k' := listAt2 g q
    unfold Itm.nxt
    dsimp only
    cases z1 : listAt n s with
    | none => cases z2 : listAt m h with
      | none => trivial
      | some _ => rw [z1, z2] at k; exact k.elim
    | some xs => cases z2 : listAt m h with
      | none => rw [z1, z2] at k; exact k.elim
      | some ys =>
        rw [z1, z2] at k
        cases u1 : listAt n' s with
        | none => cases u2 : listAt m' h with
          | none => trivial
          | some _ => rw [u1, u2] at k'; exact k'.elim
        | some xs' => cases u2 : listAt m' h with
          | none => rw [u1, u2] at k'; exact k'.elim
          | some ys' =>
            rw [u1, u2] at k'
            have j := gt2 i k
            have j' := gt2 i k'
            dsimp only
            cases y1 : xs[i]? with
            | none => cases y2 : ys[i]? with
              | none => trivial
              | some _ => rw [y1, y2] at j; exact j.elim
            | some v => cases y2 : ys[i]? with
              | none => rw [y1, y2] at j; exact j.elim
              | some w =>
                rw [y1, y2] at j
                cases x1 : xs'[i]? with
                | none => cases x2 : ys'[i]? with
                  | none => trivial
                  | some _ => rw [x1, x2] at j'; exact j'.elim
                | some v => cases x2 : ys'[i]? with
                  | none => rw [x1, x2] at j'; exact j'.elim
                  | some w =>
                    rw [x1, x2] at j'
                    exact RV2.tup (r := r) (.cons j (.cons j' .nil))
  | @zlt n m xs' ys' p t =>
    have k := listAt2 g p
    unfold Itm.nxt
    dsimp only
    cases z1 : listAt n s with
    | none => cases z2 : listAt m h with
      | none => trivial
      | some _ => rw [z1, z2] at k; exact k.elim
    | some xs => cases z2 : listAt m h with
      | none => rw [z1, z2] at k; exact k.elim
      | some ys =>
        rw [z1, z2] at k
        have k : RVs2 r xs ys := k
        have j := gt2 i k
        have j' := gt2 i t
        dsimp only
        rw [k.length, t.length]
        cases (Nat.ble i ys.length && Nat.ble i ys'.length) with
        | false => trivial
        | true =>
          dsimp only
          cases y1 : xs[i]? with
          | none => cases y2 : ys[i]? with
            | none => trivial
            | some _ => rw [y1, y2] at j; exact j.elim
          | some v => cases y2 : ys[i]? with
            | none => rw [y1, y2] at j; exact j.elim
            | some w =>
              rw [y1, y2] at j
              cases x1 : xs'[i]? with
              | none => cases x2 : ys'[i]? with
                | none => trivial
                | some _ => rw [x1, x2] at j'; exact j'.elim
              | some v => cases x2 : ys'[i]? with
                | none => rw [x1, x2] at j'; exact j'.elim
                | some w =>
                  rw [x1, x2] at j'
                  exact RV2.tup (r := r) (.cons j (.cons j' .nil))
theorem fuel2 (g : Ag2 r s h) {a b : Itm} (k : RI2 r a b) : b.fuel h = a.fuel s := by
  have one : ∀ {n m : Nat}, r[n]? = some m → (match (generalizing := false) listAt m h with | some xs => xs.length | none => 0) = (match (generalizing := false) listAt n s with | some xs => xs.length | none => 0) := by
    intro n m p
    have k := listAt2 g p
    cases z1 : listAt n s with
    | none => cases z2 : listAt m h with
      | none => rfl
      | some _ => rw [z1, z2] at k; exact k.elim
    | some xs => cases z2 : listAt m h with
      | none => rw [z1, z2] at k; exact k.elim
      | some ys => rw [z1, z2] at k; exact k.length.symm
  cases k with
  | tup t => exact t.length.symm
  | lst p => exact one p
  | rng a b => rfl
  | enl p => exact one p
  | zip p q => exact one p
  | zlt p t => exact one p
theorem turns2 {ga : MG} {body : MS} [x : LG ga] [y : LS body] : ∀ (k i : Nat) (r : List Nat) (s h : Hi) (σ σ' : Sg) (a b : Itm), Ag2 r s h → AS2 r σ σ' → RI2 r a b → L2S r h (turns a ga body k i σ s) (turns b ga body k i σ' h)
  | 0, i, r, s, h, σ, σ', a, b, g, as, q => by
    have n := nxt2 g q i
    unfold turns
    cases z1 : a.nxt i s with
    | none => trivial
    | some o => cases z2 : b.nxt i h with
      | none => rw [z1, z2] at n; exact n.elim
      | some o' =>
        rw [z1, z2] at n
        cases o with
        | some _ => trivial
        | none => cases o' with
          | some _ => exact n.elim
          | none => exact .nx g as
  | k + 1, i, r, s, h, σ, σ', a, b, g, as, q => by
    have n := nxt2 g q i
    unfold turns
    cases z1 : a.nxt i s with
    | none => trivial
    | some o => cases z2 : b.nxt i h with
      | none => rw [z1, z2] at n; exact n.elim
      | some o' =>
        rw [z1, z2] at n
        cases o with
        | none => cases o' with
          | some _ => exact n.elim
          | none => exact .nx g as
        | some v => cases o' with
          | none => exact n.elim
          | some v' =>
            refine (x.run _ _ _ _ _ _ _ g as n).andThen fun r1 s1 h1 τ τ' e1 g1 a1 => ?_
            have t := y.run _ _ _ _ _ g1 a1
            cases w : body τ s1 with
            | err => trivial
            | nx σ2 s2 =>
              rw [w] at t
              obtain ⟨r2, h2, σ2', k1, k2, k3, k4⟩ := t
              rw [k1]
              exact (turns2 k (i + 1) _ _ _ _ _ _ _ k3 k4 ((q.mono e1).mono k2)).ext k2
            | ct σ2 s2 =>
              rw [w] at t
              obtain ⟨r2, h2, σ2', k1, k2, k3, k4⟩ := t
              rw [k1]
              exact (turns2 k (i + 1) _ _ _ _ _ _ _ k3 k4 ((q.mono e1).mono k2)).ext k2
            | bk σ2 s2 => rw [w] at t; obtain ⟨r2, h2, σ2', k1, k2⟩ := t; rw [k1]; exact ⟨r2, h2, σ2', rfl, k2⟩
            | rt σ2 s2 => rw [w] at t; obtain ⟨r2, h2, σ2', k1, k2⟩ := t; rw [k1]; exact ⟨r2, h2, σ2', rfl, k2⟩
            | ex c n σ2 s2 => rw [w] at t; obtain ⟨r2, h2, σ2', m, k1, k2⟩ := t; rw [k1]; exact ⟨r2, h2, σ2', m, rfl, k2⟩
instance {mi : MI} {ga : MG} {body : MS} [z : LI mi] [x : LG ga] [y : LS body] : LS (sFor mi ga body) := ⟨fun r s h σ σ' g a => (z.run r s h σ σ' g a).bindS a fun r1 s1 h1 v v' e1 g1 q1 => by
  rw [fuel2 g1 q1]
  exact turns2 _ _ _ _ _ _ _ _ _ g1 (a.mono e1) q1⟩
instance {ma : ME} [x : LE ma] : LI (iSeq ma) := ⟨fun r s h σ σ' g a => (x.run r s h σ σ' g a).bind fun r1 s1 h1 v v' e1 g1 q1 => by
  unfold seqOf
  cases q1 with
  | tup t => exact .ok g1 (.tup t)
  | @ref n m p =>
    have k := listAt2 g1 p
    dsimp only
    cases z1 : listAt n s1 with
    | none => trivial
    | some xs => cases z2 : listAt m h1 with
      | none => rw [z1, z2] at k; exact k.elim
      | some ys => exact .ok g1 (.lst p)
  | _ => trivial⟩
instance {ma : ME} [x : LE ma] : LI (iEnumM ma) := ⟨fun r s h σ σ' g a => (x.run r s h σ σ' g a).bind fun r1 s1 h1 v v' e1 g1 q1 => by
  unfold enlOf
  cases q1 with
  | @ref n m p =>
    have k := listAt2 g1 p
    dsimp only
    cases z1 : listAt n s1 with
    | none => trivial
    | some xs => cases z2 : listAt m h1 with
      | none => rw [z1, z2] at k; exact k.elim
      | some ys => exact .ok g1 (.enl p)
  | _ => trivial⟩
instance {ma : MA} [x : LA ma] : LI (iRng ma) := ⟨fun r s h σ σ' g a => (x.run r s h σ σ' g a).bind fun r1 s1 h1 v v' e1 g1 q1 => by
  cases q1 with
  | nil => trivial
  | cons p t => cases t with
    | nil => cases p with
      | int i =>
        unfold rngOf
        dsimp only
        split
        · exact .ok g1 (.rng _ _)
        · trivial
      | _ => trivial
    | cons q t => cases t with
      | cons _ _ => cases p <;> cases q <;> trivial
      | nil => cases p with
        | int i => cases q with
          | int j =>
            unfold rngOf
            dsimp only
            split
            · exact .ok g1 (.rng _ _)
            · trivial
          | _ => trivial
        | _ => cases q <;> trivial⟩
theorem putMany2 : ∀ (is : List Nat) {xs ys : List VI} {σ σ' τ : Sg}, RVs2 r xs ys → AS2 r σ σ' → putMany is xs σ = some τ → ∃ τ', putMany is ys σ' = some τ' ∧ AS2 r τ τ'
  | [], _, _, _, _, _, .nil, a, e => by cases e; exact ⟨_, rfl, a⟩
  | _ :: is, _, _, _, _, _, .cons p t, a, e => putMany2 is t (a.set p _) e
  | [], _, _, _, _, _, .cons _ _, _, e => by cases e
  | _ :: _, _, _, _, _, _, .nil, _, e => by cases e
theorem put2 (t : Tgt) {v v' : VI} {σ σ' τ : Sg} (p : RV2 r v v') (a : AS2 r σ σ') (e : t.put v σ = some τ) : ∃ τ', t.put v' σ' = some τ' ∧ AS2 r τ τ' := by
  cases t with
  | one i => cases e; exact ⟨_, rfl, a.set p i⟩
  | many is =>
    cases p with
    | tup t => exact putMany2 is t a e
    | _ => cases e
theorem wipe2 {σ σ' : Sg} (a : AS2 r σ σ') : ∀ l : List Nat, AS2 r (wipeM σ l) (wipeM σ' l)
  | [] => a
  | i :: l => (wipe2 a l).lose i
instance {t : Tgt} : LG (gTgt t) := ⟨fun r s h σ σ' v v' g a p => by
  unfold gTgt
  cases z : t.put v σ with
  | none => trivial
  | some τ => obtain ⟨τ', e1, e2⟩ := put2 t p a z; rw [e1]; exact .nx g e2⟩
theorem turnsC2 {t : Tgt} {vs : List Nat} {tt : MT} {el : ME} [x : LT tt] [y : LE el] : ∀ (k i : Nat) (r : List Nat) (s h s' : Hi) (σ σ' : Sg) (a b : Itm) (D D' : Nat), Ag2 r s h → AS2 r σ σ' → RI2 r a b → r[D]? = some D' →
    turnsC a t vs tt el D σ k i s = some s' → ∃ r' h', turnsC b t vs tt el D' σ' k i h = some h' ∧ Ex2 r h r' h' ∧ Ag2 r' s' h'
  | 0, i, r, s, h, s', σ, σ', a, b, D, D', g, as, q, d, e => by
    have n := nxt2 g q i
    unfold turnsC at e ⊢
    cases z1 : a.nxt i s with
    | none => rw [z1] at e; cases e
    | some o =>
      rw [z1] at e n
      cases o with
      | some _ => cases e
      | none => cases z2 : b.nxt i h with
        | none => rw [z2] at n; exact n.elim
        | some o' => cases o' with
          | some _ => rw [z2] at n; exact n.elim
          | none => cases e; exact ⟨r, h, rfl, .refl, g⟩
  | k + 1, i, r, s, h, s', σ, σ', a, b, D, D', g, as, q, d, e => by
    have n := nxt2 g q i
    unfold turnsC at e ⊢
    cases z1 : a.nxt i s with
    | none => rw [z1] at e; cases e
    | some o =>
      rw [z1] at e n
      cases z2 : b.nxt i h with
      | none => rw [z2] at n; exact n.elim
      | some o' =>
        rw [z2] at n
        cases o with
        | none => cases o' with
          | some _ => exact n.elim
          | none => cases e; exact ⟨r, h, rfl, .refl, g⟩
        | some v => cases o' with
          | none => exact n.elim
          | some v' =>
            dsimp only at e ⊢
            cases z3 : t.put v (wipeM σ vs) with
            | none => rw [z3] at e; cases e
            | some τ =>
              obtain ⟨τ', w1, w2⟩ := put2 t n (wipe2 as vs) z3
              rw [z3] at e
              rw [w1]
              dsimp only at e ⊢
              have tk := x.run _ _ _ _ _ g w2
              cases z4 : tt τ s with
              | err => rw [z4] at e; cases e
              | ex _ _ _ => rw [z4] at e; cases e
              | ok c s2 =>
                rw [z4] at tk e
                obtain ⟨r2, h2, c', k1, k2, k3, k4⟩ := tk
                subst k4
                rw [k1]
                cases c with
                | false =>
                  dsimp only at e ⊢
                  obtain ⟨r3, h3, j1, j2, j3⟩ := turnsC2 k (i + 1) _ _ _ _ _ _ _ _ _ _ k3 (as.mono k2) (q.mono k2) (k2.pre d) e
                  exact ⟨r3, h3, j1, k2.trans j2, j3⟩
                | true =>
                  dsimp only at e ⊢
                  have ek := y.run _ _ _ _ _ k3 (w2.mono k2)
                  cases z5 : el τ s2 with
                  | err => rw [z5] at e; cases e
                  | ex _ _ _ => rw [z5] at e; cases e
                  | ok u s3 =>
                    rw [z5] at ek e
                    obtain ⟨r3, h3, u', m1, m2, m3, m4⟩ := ek
                    rw [m1]
                    dsimp only at e ⊢
                    obtain ⟨o, o', v1, v2, v3⟩ := m3.no (m2.pre (k2.pre d))
                    rw [v1] at e
                    rw [v2]
                    cases v3 with
                    | lst l =>
                      dsimp only at e ⊢
                      rw [l.length] at e
                      cases z6 : small _ with
                      | false => rw [z6] at e; cases e
                      | true =>
                        rw [z6] at e
                        dsimp only at e ⊢
                        obtain ⟨g4, e4⟩ := m3.wr v1 (m2.pre (k2.pre d)) (.lst (l.append (.cons m4 .nil)))
                        obtain ⟨r5, h5, j1, j2, j3⟩ := turnsC2 k (i + 1) _ _ _ _ _ _ _ _ _ _ g4 (((as.mono k2).mono m2).mono e4) (((q.mono k2).mono m2).mono e4) (e4.pre (m2.pre (k2.pre d))) e
                        exact ⟨r5, h5, j1, ((k2.trans m2).trans e4).trans j2, j3⟩
                    | _ => cases e
instance {mi : MI} {t : Tgt} {vs : List Nat} {tt : MT} {el : ME} [z : LI mi] [x : LT tt] [y : LE el] : LE (eLc mi t vs tt el) := ⟨fun r s h σ σ' g a => (z.run r s h σ σ' g a).bind fun r1 s1 h1 v v' e1 g1 q1 => by
  obtain ⟨g2, e2⟩ := g1.new (o := .lst []) (o' := .lst []) (.lst .nil)
  rw [fuel2 g1 q1]
  cases w : turnsC v t vs tt el s1.length σ (v.fuel s1) 0 (s1 ++ [.lst []]) with
  | none => trivial
  | some s2 =>
    obtain ⟨r3, h3, j1, j2, j3⟩ := turnsC2 _ _ _ _ _ _ _ _ _ _ _ _ g2 ((a.mono e1).mono e2) (q1.mono e2) g1.idx w
    rw [j1]
    exact ⟨r3, h3, _, rfl, e2.trans j2, j3, .ref (j2.pre g1.idx)⟩⟩
class LPs (ps : List (ME × ME)) : Prop where
  run : ∀ r s h σ σ', Ag2 r s h → AS2 r σ σ' → L2R RKs2 r h (aPairs ps σ s) (aPairs ps σ' h)
instance : LPs [] := ⟨fun r s h σ σ' g a => .ok g .nil⟩
instance {k v : ME} {ps : List (ME × ME)} [x : LE k] [y : LE v] [z : LPs ps] : LPs ((k, v) :: ps) := ⟨fun r s h σ σ' g a => (x.run r s h σ σ' g a).bind fun r1 s1 h1 u u' e1 g1 q1 => (y.run _ _ _ _ _ g1 (a.mono e1)).bind fun r2 s2 h2 w w' e2 g2 q2 => (z.run _ _ _ _ _ g2 ((a.mono e1).mono e2)).bind fun r3 s3 h3 l l' e3 g3 q3 => .ok g3 (.cons ((q1.mono e2).mono e3) (q2.mono e3) q3)⟩
instance {ps : List (ME × ME)} [z : LPs ps] : LE (eDisp ps) := ⟨fun r s h σ σ' g a => by
  obtain ⟨g2, e2⟩ := g.new (o := .dic []) (o' := .dic []) (.dic .nil)
  refine L2R.ext e2 ((z.run _ _ _ _ _ g2 (a.mono e2)).bind fun r1 s1 h1 u u' e1 g1 q1 => ?_)
  have d := e1.pre g.idx
  obtain ⟨o, o', v1, v2, v3⟩ := g1.no d
  rw [v1, v2]
  cases v3 with
  | dic t =>
    cases t with
    | cons _ _ _ => trivial
    | nil =>
      dsimp only
      rw [keysOk2 q1, q1.length]
      split
      · obtain ⟨g4, e4⟩ := g1.wr v1 d (.dic (putAll2 q1 .nil))
        exact ⟨_, _, _, rfl, e4, g4, .ref d⟩
      · trivial
  | _ => trivial⟩
theorem nodup_inj {r : List Nat} (nd : r.Nodup) {i j m : Nat} (p : r[i]? = some m) (q : r[j]? = some m) : i = j := by
  obtain ⟨l1, e1⟩ := List.getElem?_eq_some_iff.mp p
  obtain ⟨l2, e2⟩ := List.getElem?_eq_some_iff.mp q
  have pw := List.pairwise_iff_getElem.mp nd
  rcases Nat.lt_trichotomy i j with l | l | l
  · exact absurd (e1.trans e2.symm) (pw i j l1 l2 l)
  · exact l
  · exact absurd (e2.trans e1.symm) (pw j i l2 l1 l)
theorem beq2 (g : Ag2 r s h) {i j m n : Nat} (p : r[i]? = some m) (q : r[j]? = some n) : Nat.beq m n = Nat.beq i j := by
  by_cases e : i = j
  · subst e
    rw [p] at q
    cases q
    rw [Nat.beq_refl, Nat.beq_refl]
  · have e' : m ≠ n := fun z => e (nodup_inj g.nd p (z ▸ q))
    have f1 : Nat.beq i j = false := by
      cases z : Nat.beq i j with
      | false => rfl
      | true => exact absurd (Nat.eq_of_beq_eq_true z) e
    have f2 : Nat.beq m n = false := by
      cases z : Nat.beq m n with
      | false => rfl
      | true => exact absurd (Nat.eq_of_beq_eq_true z) e'
    rw [f1, f2]
instance {e k v : ME} [x : LE e] [y : LE k] [z : LE v] : LE (eMrg e k v) := ⟨fun r s h σ σ' g a => by
  obtain ⟨g2, e2⟩ := g.new (o := .dic []) (o' := .dic []) (.dic .nil)
  refine L2R.ext e2 ((x.run _ _ _ _ _ g2 (a.mono e2)).bind fun r1 s1 h1 u u' e1 g1 q1 => ?_)
  have d := e1.pre g.idx
  obtain ⟨o, o', v1, v2, v3⟩ := g1.no d
  cases q1 with
  | @ref i j p =>
    dsimp only
    rw [beq2 g1 p d]
    obtain ⟨w, w', u1, u2, u3⟩ := g1.no p
    rw [v1, v2, u1, u2]
    cases Nat.beq i s.length with
    | true => trivial
    | false =>
      cases v3 with
      | dic t =>
        cases t with
        | cons _ _ _ => trivial
        | nil =>
          cases u3 with
          | dic t2 =>
            dsimp only
            rw [t2.length]
            cases small _ with
            | false => trivial
            | true =>
              dsimp only
              obtain ⟨g4, e4⟩ := g1.wr v1 d (.dic (putAll2 t2 .nil))
              obtain ⟨g5, e5⟩ := g4.new (o := .dic []) (o' := .dic []) (.dic .nil)
              have e45 := e4.trans e5
              refine L2R.ext e45 ?_
              have idx := g4.idx
              have D5 := e45.pre d
              unfold mrgTail
              have l1 : ∀ o : OI, (List.set s1 s.length o).length = s1.length := fun o => List.length_set
              have l2 : ∀ o : OI, (List.set h1 h.length o).length = h1.length := fun o => List.length_set
              refine (y.run _ _ _ _ _ g5 (((a.mono e2).mono e1).mono e45)).bind fun r6 s6 h6 ky ky' e6 g6 q6 => (z.run _ _ _ _ _ g6 ((((a.mono e2).mono e1).mono e45).mono e6)).bind fun r7 s7 h7 vz vz' e7 g7 q7 => ?_
              have D7 := e7.pre (e6.pre D5)
              have C7 := e7.pre (e6.pre idx)
              obtain ⟨o1, o1', a1, a2, a3⟩ := g7.no D7
              rw [l1, l2] at C7
              obtain ⟨o2, o2', b1, b2, b3⟩ := g7.no C7
              rw [isKey2 q6, a1, a2, b1, b2]
              cases isKey ky with
              | false => trivial
              | true =>
                cases a3 with
                | dic ta =>
                  cases b3 with
                  | dic tb =>
                    cases tb with
                    | cons _ _ _ => trivial
                    | nil =>
                      dsimp only
                      rw [ta.length]
                      cases small _ with
                      | false => trivial
                      | true =>
                        obtain ⟨g8, e8⟩ := g7.wr b1 C7 (.dic (.cons (q6.mono e7) q7 .nil))
                        have nb : ∃ o, (s7.set s1.length (OI.dic [(ky, vz)]))[s.length]? = some o := by
                          have : s.length < s7.length := (List.getElem?_eq_some_iff.mp a1).1
                          exact ⟨_, List.getElem?_eq_getElem (by simpa using this)⟩
                        obtain ⟨o9, n9⟩ := nb
                        obtain ⟨g9, e9⟩ := g8.wr n9 (e8.pre D7) (.dic (((putD2 (q6.mono e7) q7 ta))))
                        exact ⟨_, _, _, rfl, e8.trans e9, g9, .ref D7⟩
                  | _ => trivial
                | _ => trivial
          | _ => trivial
      | _ => trivial
  | _ => trivial⟩
theorem keysAre2 : ∀ (ks : List S) {xs ys : List (VI × VI)}, RKs2 r xs ys → keysAre ks ys = keysAre ks xs
  | [], _, _, .nil => rfl
  | [], _, _, .cons p _ t => by cases p <;> rfl
  | _ :: _, _, _, .nil => rfl
  | k :: ks, _, _, .cons p _ t => by
    cases p with
    | str s => unfold keysAre; rw [keysAre2 ks t]
    | _ => rfl
instance {ks : List S} {gk : MK} {e : ME} [x : LE e] [y : LK gk] : LE (eKwD ks gk e) := ⟨fun r s h σ σ' g a => by
  obtain ⟨g2, e2⟩ := g.new (o := .dic []) (o' := .dic []) (.dic .nil)
  refine L2R.ext e2 ((x.run _ _ _ _ _ g2 (a.mono e2)).bind fun r1 s1 h1 u u' e1 g1 q1 => ?_)
  have d := e1.pre g.idx
  obtain ⟨o, o', v1, v2, v3⟩ := g1.no d
  cases q1 with
  | @ref i j p =>
    dsimp only
    rw [beq2 g1 p d]
    obtain ⟨w, w', u1, u2, u3⟩ := g1.no p
    rw [v1, v2, u1, u2]
    cases Nat.beq i s.length with
    | true => trivial
    | false =>
      cases v3 with
      | dic t =>
        cases t with
        | cons _ _ _ => trivial
        | nil =>
          cases u3 with
          | dic t2 =>
            dsimp only
            rw [keysAre2 ks t2]
            split
            · obtain ⟨g4, e4⟩ := g1.wr v1 d (.dic (putAll2 t2 .nil))
              exact L2R.ext e4 (y.run _ _ _ _ _ _ _ g4 .nil ((vals2 t2).mono e4))
            · trivial
          | _ => trivial
      | _ => trivial
  | _ => trivial⟩
class LGs (gs : List MG) : Prop where
  run : ∀ r s h σ σ' vs vs', Ag2 r s h → AS2 r σ σ' → RVs2 r vs vs' → L2S r h (gSeq gs vs σ s) (gSeq gs vs' σ' h)
instance : LGs [] := ⟨fun r s h σ σ' vs vs' g a t => by
  cases t with
  | nil => exact .nx g a
  | cons _ _ => trivial⟩
instance {x : MG} {gs : List MG} [p : LG x] [q : LGs gs] : LGs (x :: gs) := ⟨fun r s h σ σ' vs vs' g a t => by
  cases t with
  | nil => trivial
  | cons u t => exact (p.run _ _ _ _ _ _ _ g a u).andThen fun r1 s1 h1 τ τ' e1 g1 a1 => q.run _ _ _ _ _ _ _ g1 a1 (t.mono e1)⟩
instance {gs : List MG} [q : LGs gs] : LG (gTupM gs) := ⟨fun r s h σ σ' v v' g a p => by
  unfold gTupM
  cases p with
  | tup t =>
    dsimp only
    rw [t.length]
    split
    · exact q.run _ _ _ _ _ _ _ g a t
    · trivial
  | _ => trivial⟩
instance {i : Nat} {f : Op2} {e : ME} [x : LOp f] [y : LE e] : LS (sAug i f e) := ⟨fun r s h σ σ' g a => by
  unfold sAug
  cases z : σ[i]? with
  | none => trivial
  | some o =>
    cases o with
    | none => trivial
    | some v =>
      obtain ⟨w, k1, k2⟩ := a.at_ i v z
      rw [k1]
      refine (y.run _ _ _ _ _ g a).bindS a fun r1 s1 h1 u u' e1 g1 q1 => ?_
      have t := x.run _ _ _ _ _ _ _ g1 (k2.mono e1) q1
      cases z2 : f v u s1 with
      | none => trivial
      | some p =>
        rw [z2] at t
        obtain ⟨r2, h2, v', m1, m2, m3, m4⟩ := t
        rw [m1]
        exact ⟨r2, h2, _, rfl, m2, m3, ((a.mono e1).mono m2).set m4 i⟩⟩
theorem endB2 {a a' : RS} (k : L2S r h a a') : L2R RV2 r h (endB a) (endB a') := by
  cases a with
  | err => trivial
  | bk _ _ => trivial
  | ct _ _ => trivial
  | nx σ s => obtain ⟨r2, h2, m, rfl, e, g, _⟩ := k; exact ⟨r2, h2, _, rfl, e, g, .non⟩
  | rt v s => obtain ⟨r2, h2, m, rfl, e, g, q⟩ := k; exact ⟨r2, h2, _, rfl, e, g, q⟩
  | ex c n σ s => obtain ⟨r2, h2, m, m2, rfl, e, g, _, q⟩ := k; exact ⟨r2, h2, _, rfl, e, g, q⟩
theorem slots2 (n : Nat) : ∀ {vs vs' : List VI}, RVs2 r vs vs' → AS2 r (vs.map some ++ List.replicate n none) (vs'.map some ++ List.replicate n none) := by
  intro vs vs' t
  refine ⟨by simp [t.length], fun i v e => ?_⟩
  by_cases hi : i < vs.length
  · rw [List.getElem?_append_left (by simpa using hi), List.getElem?_map] at e
    rw [List.getElem?_append_left (by simpa [← t.length] using hi), List.getElem?_map]
    cases z : vs[i]? with
    | none => rw [z] at e; cases e
    | some u =>
      rw [z] at e
      cases e
      obtain ⟨b, h1, h2⟩ := t.get z
      rw [h1]
      exact ⟨b, rfl, h2⟩
  · rw [List.getElem?_append_right (by simpa using Nat.le_of_not_lt hi), List.getElem?_replicate] at e
    split at e <;> cases e
end
theorem lf_runB {np n : Nat} {b : MS} (x : LS b) : LF (runB np n b) := ⟨fun r s h vs vs' g t => by
  unfold runB
  rw [t.length]
  split
  · exact endB2 (x.run _ _ _ _ _ g (slots2 n t))
  · trivial⟩
end ML
end
section
namespace ML
open PySem L2
theorem ty2 {r : List Nat} {s h : Hi} (g : Ag2 r s h) {x y : VI} (p : RV2 r x y) : tyI y h = tyI x s := by
  cases p with
  | ref i =>
    obtain ⟨o, o', z1, z2, z3⟩ := g.no i
    unfold tyI
    dsimp only
    rw [z1, z2]
    cases z3 <;> rfl
  | _ => rfl
theorem L2R.boolR {r : List Nat} {h : Hi} {a b : Res VI} (k : L2R RV2 r h a b) : L2R RV2 r h (boolR a) (boolR b) := by
  cases a with
  | err => trivial
  | ex c n s' =>
    obtain ⟨r', h', m, rfl, e, g, q⟩ := k
    exact ⟨r', h', m, rfl, e, g, q⟩
  | ok v s' =>
    obtain ⟨r', h', v', rfl, e, g, q⟩ := k
    cases q with
    | bl b => exact ⟨r', h', _, rfl, e, g, .bl b⟩
    | _ => trivial
section
variable {ma mb : ME} {f : Op2}
instance {cs : List Nat} {tbl : Nat → Option MF} [c : LTb tbl] [x : LE ma] [y : LE mb] [o : LOp f] : LE (eCmpU cs tbl f ma mb) := ⟨fun r s h σ σ' g a => (x.run r s h σ σ' g a).bind fun r1 s1 h1 v v' e1 g1 q1 => (y.run _ _ _ _ _ g1 (a.mono e1)).bind fun r2 s2 h2 w w' e2 g2 q2 => by
  rw [ins2 g2 (q1.mono e2), ty2 g2 q2]
  cases z : insC v s2 with
  | none => exact .ofO (o.run _ _ _ _ _ _ _ g2 (q1.mono e2) q2)
  | some d =>
    dsimp only
    cases w0 : tbl d with
    | none => trivial
    | some u =>
      cases w1 : nfI cs (tyI w s2) with
      | false => trivial
      | true => exact ((c.run _ _ w0).run _ _ _ _ _ g2 (.cons (q1.mono e2) (.cons q2 .nil))).boolR⟩
end
end ML
end
section
namespace ML
open PySem L2
section
variable {r : List Nat} {s h : Hi}
theorem flK2 : ∀ {ka kb : List (VI × VI)}, RKs2 r ka kb → flK kb = flK ka
  | _, _, .nil => rfl
  | _, _, .cons _ a t => by simp only [flK, flI2 a, flK2 t]
theorem allK2 {la lb : List (VI × VI)} (q : RKs2 r la lb) (fl : flK la = true) : ∀ {ka kb : List (VI × VI)}, RKs2 r ka kb → flK ka = true → allK lb kb = allK la ka
  | _, _, .nil, _ => rfl
  | _, _, .cons (a := a) (b := b) k p t, f => by
    unfold flK at f
    obtain ⟨f1, f2⟩ := Bool.and_eq_true_iff.mp f
    have g := getD2 k q
    simp only [allK]
    cases z : getD a la with
    | none =>
      rw [z] at g
      cases z2 : getD b lb with
      | none => rfl
      | some w => rw [z2] at g; exact g.elim
    | some u =>
      rw [z] at g
      cases z2 : getD b lb with
      | none => rw [z2] at g; exact g.elim
      | some w =>
        rw [z2] at g
        dsimp only
        rw [eqI2 p g, allK2 q fl t f2]
instance : LOp fEqX := ⟨fun r s h x y x' y' g p q => by
  have old := LOp.run (f := fEq) r s h x y x' y' g p q
  unfold fEqX
  cases p with
  | ref i =>
    cases q with
    | ref j =>
      obtain ⟨o, o', z1, z2, z3⟩ := g.no i
      obtain ⟨u, u', y1, y2, y3⟩ := g.no j
      dsimp only
      rw [z1, z2, y1, y2]
      cases z3 with
      | dic t =>
        cases y3 with
        | dic t' =>
          dsimp only
          rw [flK2 t, flK2 t']
          rename_i ka kb la lb
          cases f : flK ka && flK la with
          | false => trivial
          | true =>
            obtain ⟨f1, f2⟩ := Bool.and_eq_true_iff.mp f
            dsimp only
            rw [← t.length, ← t'.length, allK2 t' f2 t f1]
            exact .ok g (.bl _)
        | _ => exact old
      | _ => exact old
    | _ => exact old
  | _ => exact old⟩
end
end ML
end
section
namespace ML
open PySem PySem.Spec PyProof.Rows L2 He
def okI : VI → Bool
  | .non => true
  | .bl _ => true
  | .int _ => true
  | .str s => PyData.strOk (toStr s)
  | _ => false
def alO : List VI → Bool
  | [] => true
  | y :: r => match okI y with
    | true => alO r
    | false => false
def ixF (y : VI) : List VI → Nat → Option Nat
  | [], _ => none
  | x :: r, j => match eqI x y with
    | true => some j
    | false => ixF y r (j + 1)
def mIndex : OpM := fun x vs h => match x with
  | .ref n => match h[n]? with
    | some (.lst xs) => match vs with
      | [y] => match okI y && alO xs with
        | true => match ixF y xs 0 with
          | some j => some (.int (j : Nat), h)
          | none => none
        | false => none
      | _ => none
    | _ => none
  | _ => none
section
variable {G : Gx} {ρ : List Addr} {h : Hi} {H : Hp} {X : Cx}
end
section
variable {r : List Nat}
theorem okI2 {a b : VI} (p : RV2 r a b) : okI b = okI a := by cases p <;> rfl
theorem alO2 : ∀ {xs ys : List VI}, RVs2 r xs ys → alO ys = alO xs
  | _, _, .nil => rfl
  | _, _, .cons q t => by unfold alO; rw [okI2 q, alO2 t]
theorem ixF2 {a b : VI} (p : RV2 r a b) : ∀ {xs ys : List VI} (k : Nat), RVs2 r xs ys → ixF b ys k = ixF a xs k
  | _, _, _, .nil => rfl
  | _, _, _, .cons q t => by unfold ixF; rw [eqI2 q p, ixF2 p _ t]
end
instance : LOm mIndex := ⟨fun r s h x x' vs vs' g p t => by
  unfold mIndex
  cases p with
  | ref i =>
    obtain ⟨o, o', e1, e2, e3⟩ := g.no i
    dsimp only
    rw [e1, e2]
    cases e3 with
    | lst l =>
      cases t with
      | nil => trivial
      | cons q t =>
        cases t with
        | cons _ _ => trivial
        | nil =>
          dsimp only
          rw [okI2 q, alO2 l, ixF2 q 0 l]
          split
          · split
            · exact .ok g (.int _)
            · trivial
          · trivial
    | _ => trivial
  | _ => trivial⟩
end ML
end
section
namespace PySem.W
open PySem PyProof.Rows
section
variable {prog : Program} {w : World} {A A₀ : Around} {E : Value → Shared → Prop} {s : Shared} {K : Frag} {x C L f : Addr} {h₀ : Heap} {m : Str → Option Value} {ox : Obj} {od : Option Obj} {name : Str} {b tb : Value}
theorem ifBound_B {M : Model} {id : String} {args : List Value} {Q : Option Value → Shared → Prop} (X : K.In s.heap) (I : InstAt s.heap x ox C od) (hs : findIn K (.ref C) name = some (some (.builtin id))) (bd : ∀ v, bindSpecial (.builtin id) v = pure (.builtin id, [v]))
    (h : wpAny M A (call (.builtin id) (.ref x :: args)) (fun v => Q (some v)) E s) : wpAny M A (callSpecialIfBound? (.ref x) name args) Q E s := by
  simp only [callSpecialIfBound?, bindSpecialIfBound?]
  refine wpAny_holding (wpAny_bind (wpAny_bind (wpAny_bind (I.type.here ((looks_findIn X hs).here ?_)))))
  refine wpAny_bind (wpAny_askSetting (wpAny_ite ?_))
  have fin : wpAny M A (call (.builtin id) ([.ref x] ++ args) >>= fun v => pure (some v)) Q E s := wpAny_bind (wpAny_mono h (fun v s' h' => wpAny_pure h') fun _ _ h' => h')
  split
  · exact wpAny_bind (wpAny_of_eq (bd _) (wpAny_pure (by exact fin)))
  · exact wpAny_tryCatch (wpAny_bind (wpAny_of_eq (bd _) (wpAny_pure (by exact fin))))
theorem objNe_K {Q : Fin → Shared → Prop} (X : K.In s.heap) (I : InstAt s.heap x ox C od) (hu : A.units < cLine) (hs : findIn K (.ref C) "__eq__" = some (some (.ref f))) (hf : isFn K (.ref f) = true)
    (hcall : wpAny (model prog w) A (call (.ref f) [.ref x, b]) (fun v s' => ∃ c, v = .bool c ∧ Q (.done (.ret (.bool (!c)))) s') E s) :
    wpAny (model prog w) A (Builtin.«object.__ne__» ⟨[.ref x, b], []⟩) Q E s := by
  unfold Builtin.«object.__ne__»
  repeat (first
    | with_reducible refine wpAny_cRoomFor hu ?_
    | (refine wpAny_bind (m := callSpecialIfBound? (.ref x) (Str.ofString "__eq__") [b])
        (ifBound_K X I hs hf (wpAny_mono hcall (fun r s' hr => by
          obtain ⟨b, rfl, hq⟩ := hr
          repeat (first | exact hq | exact wpAny_pure hq | exact wpAny_truthy_bool hq | (refine wpAny_bind (m := truthy (.bool _)) (wpAny_truthy_bool ?_)) | wp_step)) fun _ _ e => e)))
    | wp_step)
theorem ne_K {Q : Value → Shared → Prop} (hu : A.units + 1 < cLine) (F : Fr h₀ L s.heap m) (X₀ : K.In h₀) (I : InstAt s.heap x ox C od) (hb : Looks (model prog w) s.heap (typeOf b) tb) (hn : notFirst K C tb = true)
    (hne : findIn K (.ref C) "__ne__" = some (some (.builtin "object.__ne__"))) (hsub : subIn K (.ref C) (.type "object") = some true) (hs : findIn K (.ref C) "__eq__" = some (some (.ref f))) (hf : isFn K (.ref f) = true)
    (h : wpAny (model prog w) A.in1 (call (.ref f) [.ref x, b]) (fun v s' => ∃ c, v = .bool c ∧ Q (.bool (!c)) s') E s) : wpAny (model prog w) A (richCompare .NotEq (.ref x) b) Q E s := by
  have X := X₀.keeps F.keep
  have one : wpAny (model prog w) A (tryCompare (.ref x) "__ne__" b) (fun r s' => ∃ v, r = some v ∧ Q v s') E s := by
    unfold tryCompare
    refine wpAny_bind (ifBound_B X I hne (PySem.F.slot_object_ne.bind) (wpAny_call (codeAny_call_builtin PySem.F.slot_object_ne.plain PySem.F.entry_object_ne
      (@check_slot (model prog w) _ _ s "object.__ne__" "object" "__ne__" (.ref x) [b] [] _ (by decide +kernel) (by decide +kernel) (I.type.andThen (looks_subIn X hsub)) (PySem.F.args_object_ne_2 _ _)
        (objNe_K X I (A := A.in1) (by show A.units + 1 < _; omega) hs hf (wpAny_mono h (fun v s' hv => ?_) fun _ _ e => e))))))
    obtain ⟨c, rfl, hq⟩ := hv
    refine ⟨c, rfl, ?_⟩
    first | exact wpAny_pure ⟨_, rfl, hq⟩ | exact ⟨_, rfl, wpAny_pure ⟨_, rfl, hq⟩⟩
  unfold richCompare
  simp only [oneThing_ref]
  refine wpAny_holding (wpAny_bind (wpAny_cRoomFor (by omega) ?_))
  refine wpAny_bind (I.type.here (wpAny_bind (hb.here ?_)))
  split
  · rename_i q
    have e : subIn K tb (.ref C) = some false := by
      rcases Bool.or_eq_true_iff.mp hn with e | e
      · rw [beq_iff_eq.mp e] at q; simp at q
      · exact beq_iff_eq.mp e
    refine wpAny_bind ((looks_subIn X e).here ?_)
    simp only [Bool.false_eq_true, if_false]
    refine wpAny_bind (wpAny_mono one (fun r s' z => ?_) fun _ _ e => e)
    obtain ⟨v, rfl, hq⟩ := z
    exact wpAny_pure hq
  · refine wpAny_bind (wpAny_pure ?_)
    simp only [Bool.false_eq_true, if_false]
    refine wpAny_bind (wpAny_mono one (fun r s' z => ?_) fun _ _ e => e)
    obtain ⟨v, rfl, hq⟩ := z
    exact wpAny_pure hq
end
end PySem.W
namespace ML
open PySem PySem.Spec PyProof.Rows L2 He
def negR : Res VI → Res VI
  | .ok (.bl b) h => .ok (.bl (!b)) h
  | .ex c n h => .ex c n h
  | _ => .err
def eNeU (cs : List Nat) (tbl : Nat → Option MF) (f : Op2) (a b : ME) : ME := fun σ h => (a σ h).bind fun x h1 => (b σ h1).bind fun y h2 => match insC x h2 with
  | some c => match tbl c, nfI cs (tyI y h2) with
    | some g, true => negR (g [x, y] h2)
    | _, _ => .err
  | none => ofO (f x y h2)
def neB (K : PySem.W.Frag) (C : Addr) : Bool := eqO (PySem.W.findIn K (.ref C) "__ne__") (some (some (.builtin "object.__ne__"))) && decide (PySem.W.subIn K (.ref C) (.type "object") = some true)
def NeOk (K : PySem.W.Frag) (G : Gx) (tbl : Nat → Option MF) : Prop := ∀ c C g, tbl c = some g → G.ct c = some C → neB K C = true
section
variable {G : Gx} {ρ : List Addr} {h : Hi} {H : Hp} {W : WX} {X : Cx} {A : Around} {e a b c o i v : Expr} {es : List Expr} {pos p pos' apos : Pos} {me mi mo ma mb mv : ME} {mr : MA} {tbl : Nat → Option MF} {σ : L2.St} {cs : List Nat} {f : Op2}
theorem negR_fin {Q : VK} {W : Value → Option Addr → Hp → Prop} (r : Res VI) (fr : FinG G ρ H (RV G) Q W (negR r)) : FinG G ρ H (RV G) (fun x H' => ∃ b, x = V.bl b ∧ Q (V.bl (!b)) H') W r := by
  cases r with
  | ok v h' =>
    cases v with
    | bl b =>
      intro ρ' H' x st ag' rx
      cases rx
      exact ⟨b, rfl, fr ρ' H' _ st ag' (.bl (!b))⟩
    | _ => exact fr.elim
  | ex c n h' => exact fr
  | err => exact fr.elim
def RdN (G : Gx) (W : WX) (σ : L2.St) (cs : List Nat) (tbl : Nat → Option MF) (f : Op2) (Q : VK) (x y : V) (H2 : Hp) : Prop :=
  rd2 G f x y H2 Q ∨ ∃ ρ2 h2 xi yi cn g, Ag G ρ2 h2 H2 ∧ RV G ρ2 H2 xi x ∧ RV G ρ2 H2 yi y ∧ insC xi h2 = some cn ∧ tbl cn = some g ∧ nfI cs (tyI yi h2) = true ∧ FinG G ρ2 H2 (RV G) Q (fun c d H' => W c d σ H') (negR (g [xi, yi] h2))
theorem neU_rd {Q : VK} (q : rdE G W (eNeU cs tbl f ma mb) σ H Q) : rdE G W ma σ H fun x H1 => rdE G W mb σ H1 fun y H2 => RdN G W σ cs tbl f Q x y H2 := by
  obtain ⟨ρ, σi, h, as, ag, fin⟩ := q
  exact rdG_go as ag fin fun ρ1 H1 h1 x x' st as ag r f => rdG_go as ag f fun ρ2 H2 h2 y y' st2 as ag rs f => by
      cases q1 : insC x h2 with
      | none => rw [q1] at f; exact .inl ⟨ρ2, h2, x, y, ag, r.mono st2, rs, FinO.of f⟩
      | some cn =>
        rw [q1] at f
        dsimp only at f
        cases q2 : tbl cn with
        | none => rw [q2] at f; exact f.elim
        | some g =>
          rw [q2] at f
          cases q3 : nfI cs (tyI y h2) with
          | false => rw [q3] at f; exact f.elim
          | true => rw [q3] at f; exact .inr ⟨ρ2, h2, x, y, cn, g, ag, r.mono st2, rs, q1, q2, q3, f⟩
theorem neU_run (hG : G.K = X.K) (hu : X.A.units + 1 < cLine) (sp : SpOk X X.A.in1 G W tbl "__eq__") (ne : NeOk X.K G tbl) (nf : NfOk X.K G cs tbl) (ho : OpR X (compareOp .NotEq) (rd2 G f))
    {pins : List (Addr × Obj)} {s2 : Shared} {H2 : Hp} {x y : V} {v u : Value} {Q : VK} (I2 : Inv X pins σ H2 s2) (rx : RelV x v) (ry : RelV y u) (q : RdN G W σ cs tbl f Q x y H2) : wpAny (model X.prog X.w) X.A (compareOp .NotEq v u) (EP X pins σ Q) X.xe s2 := by
  rcases q with q | ⟨ρ2, h2, xi, yi, cn, g, ag2, r1, r2, q1, q2, q3, fi⟩
  · exact ho pins s2 σ H2 x y v u Q I2 rx ry q
  · obtain ⟨ad, C, dx, gs, ex, hc, hH⟩ := insC_ok ag2 r1 q1
    subst ex
    obtain rfl : v = Value.ref ad := rx
    obtain ⟨f', k1, k2, k3, k4, k5⟩ := sp.at_ cn C g q2 hc
    obtain ⟨m, hF, ox, od, J⟩ := insC_look I2 hH
    have ty : ∃ t, PySem.W.Looks (model X.prog X.w) s2.heap (typeOf u) t ∧ PySem.W.notFirst X.K C t = true := by
      cases q4 : tyI yi h2 with
      | none => rw [q4] at q3; cases q3
      | some T =>
        rcases tyI_ok hG I2 ag2 r2 ry q4 with ⟨t, rfl, mt, lt⟩ | ⟨c', C', rfl, hc', lt⟩
        · exact ⟨_, lt, nf.bt cn C g t q2 hc mt⟩
        · rw [q4] at q3
          exact ⟨_, lt, nf.own cn C g c' C' q2 hc q3 hc'⟩
    obtain ⟨t, lt, nt⟩ := ty
    obtain ⟨n1, n2⟩ := ba (ne cn C g q2 hc)
    have key := negR_fin (G := G) (ρ := ρ2) (H := H2) (Q := Q) (W := fun c d H' => W c d σ H') (g [xi, yi] h2) fi
    show wpAny (model X.prog X.w) X.A (richCompare .NotEq (.ref ad) u) _ _ s2
    refine PySem.W.ne_K (tb := t) hu hF I2.ok.mod.kin J lt nt (eqO_ok n1) (of_decide_eq_true n2) k2 k4 ?_
    refine wpAny_mono (k5 pins s2 σ H2 [.ref ad, u] [.ref ad, y] [xi, yi] ρ2 h2 _ I2 (.cons rfl (.cons ry .nil)) (.cons r1 (.cons r2 .nil)) ag2 key) (fun z s3 hz => ?_) fun _ _ z => z
    obtain ⟨x', H', I', rx', b, eb, q'⟩ := hz
    subst eb
    cases (show z = Value.bool b from rx')
    exact ⟨b, rfl, .bl (!b), H', I', rfl, q'⟩
theorem mt_neU (hG : G.K = X.K) (hu : X.A.units + 1 < cLine) (sp : SpOk X X.A.in1 G W tbl "__eq__") (ne : NeOk X.K G tbl) (nf : NfOk X.K G cs tbl) (ho : OpR X (compareOp .NotEq) (rd2 G f)) (ha : PE X a (rdE G W ma)) (hb : PE X b (rdE G W mb))
    (hm : behindInMarks .NotEq b = false) : PT X (.Compare a [.NotEq] [b] pos) (rdT G W (tOf (eNeU cs tbl f ma mb))) := ⟨fun pins s σ H Q I h =>
  wpAny_isTrue_Compare1 (thn (ha.run pins s σ H _ I (neU_rd (tOf_rd h))) fun v s1 ⟨x, H1, I1, r1, q1⟩ => thn (hb.run pins s1 σ H1 _ I1 q1) fun u s2 ⟨y, H2, I2, r2, q2⟩ =>
    thn (neU_run hG hu sp ne nf ho I2 r1 r2 q2) fun c s3 ⟨z, H3, I3, r3, k, e, q3⟩ => by
      subst e
      cases r3
      exact wpAny_truthy_bool ⟨H3, I3, q3⟩) hm⟩
end
section
variable {K : PySem.W.Frag} {mg : Str → Option Value} {nm : Nat → Option Str}
theorem neOk_nil : NeOk K (GxOf K mg nm) (lkT ([] : List (Nat × MF))) := fun _ _ _ h => nomatch h
theorem neOk_cons {c : Nat} {g : MF} {x : Str} {r : List (Nat × MF)} (hn : nm c = some x) (hB : neB K (ga K x) = true) (t : NeOk K (GxOf K mg nm) (lkT r)) : NeOk K (GxOf K mg nm) (lkT ((c, g) :: r)) := fun c' C w h e => by
  rcases lkT_cons h with ⟨q1, q2⟩ | q
  · subst q1 q2
    rw [gx_ct e hn]
    exact hB
  · exact t c' C w q e
end
end ML
end
section
namespace ML
open PySem PySem.Spec PyProof.Rows L2 He
structure StatOk (K : PySem.W.Frag) (C : Addr) (m : Str) (p f : Addr) : Prop where
  rd : PySem.W.readsIn K C (.type "type") = true
  ga : PySem.W.specialIn K (.ref C) "__getattribute__" = some (some (.builtin "type.__getattribute__"))
  at_ : PySem.W.findCls K (.ref C) (.type "type") m = some (.get (.builtin "staticmethod.__get__") (.ref p) .none (.ref C))
  rc : ∃ rest, PySem.W.recIn K p "staticmethod" = some (.ref f :: rest)
section
variable {G : Gx} {W : WX} {X : Cx} {e : Expr} {es : List Expr} {ma : MA} {x m : Str} {C p f : Addr} {g : MF} {p0 apos pos : Pos} {pl : Sem Bool}
end
end ML
end
section
namespace PySem.W
open PySem PyProof.Rows
section
variable {prog : Program} {w : World} {A : Around} {E : Value → Shared → Prop} {s : Shared} {K : Frag} {x C f : Addr} {ox : Obj} {od : Option Obj} {name : Str}
end
end PySem.W
namespace ML
open PySem PySem.Spec PyProof.Rows L2 He
def lenR : Res VI → Res VI
  | .ok (.int n) h => match decide (0 ≤ n) && decide (n < 2 ^ 62) with
    | true => .ok (.int n) h
    | false => .err
  | .ex c n h => .ex c n h
  | _ => .err
def eLenU (tbl : Nat → Option MF) (a : ME) : ME := fun σ h => (a σ h).bind fun x h1 => match insC x h1 with
  | some c => match tbl c with
    | some g => lenR (g [x] h1)
    | none => .err
  | none => ofO (cLen [x] h1)
section
variable {G : Gx} {ρ : List Addr} {h : Hi} {H : Hp} {W : WX} {X : Cx} {a : Expr} {pos p : Pos} {ma : ME} {tbl : Nat → Option MF} {σ : L2.St}
end
end ML
end
section
namespace ML
open PySem PyProof.Rows
section
variable {prog : Program} {w : World} {A : Around} {E : Value → Shared → Prop} {s : Shared}
end
end ML
namespace ML
open PySem PyProof.Rows
section
variable {prog : Program} {w : World} {A : Around} {E : Value → Shared → Prop} {s : Shared}
end
end ML
namespace ML
open PySem PySem.Spec PyProof.Rows L2 He
def insI (x : Int) : List Int → List Int
  | [] => [x]
  | y :: r => match decide (x ≤ y) with
    | true => x :: y :: r
    | false => y :: insI x r
def srtI : List Int → List Int
  | [] => []
  | x :: r => insI x (srtI r)
def intsI : List VI → Option (List Int)
  | [] => some []
  | .int i :: r => match intsI r with
    | some l => some (i :: l)
    | none => none
  | _ :: _ => none
def cSortK : OpC := fun vs h => match vs with
  | [.tup xs] => match intsI xs with
    | some l => some (.ref h.length, h ++ [.lst ((srtI l).map .int)])
    | none => none
  | [.ref n] => match h[n]? with
    | some (.lst xs) => match intsI xs with
      | some l => some (.ref h.length, h ++ [.lst ((srtI l).map .int)])
      | none => none
    | some (.scr xs) => match intsI xs with
      | some l => some (.ref h.length, h ++ [.lst ((srtI l).map .int)])
      | none => none
    | _ => none
  | _ => none
section
variable {G : Gx} {ρ : List Addr} {h : Hi} {H : Hp}
end
section
variable {G : Gx} {W : WX} {X : Cx} {e : Expr} {es : List Expr} {mr : MA} {p p2 kp pos : Pos}
end
end ML
end
section
namespace ML
open PySem PyProof.Rows
section
variable {prog : Program} {w : World} {A : Around} {E : Value → Shared → Prop} {s : Shared}
end
section
open PySem.Spec L2 He
variable {G : Gx} {W : WX} {X : Cx} {e : Expr} {es : List Expr} {mr : MA} {p p2 kp pos : Pos}
end
end ML
end
section
namespace ML
open PySem L2 NdefX
open PyProof.Rows hiding wpAt
structure SupX (X : Cx) (C : Addr) : Prop where
  cd : ∃ cd, PySem.W.clsIn X.K C = some cd
  mro : PySem.W.mroIn X.K C (.ref C) = some true
  sup : PySem.W.ks_superIn X.K C C "__init__" = some (some (.builtin "ValueError.__init__"))
  sub : PySem.W.subIn X.K (.ref C) (.type "ValueError") = some true
structure SupD (X : Cx) (f D : Addr) (slf : Str) : Prop where
  fn : X.env.func = some f
  at_ : ∃ (o : Obj) (fd : FuncData) (ar : Arg), X.K.lookup f = some o ∧ o.data = .func fd ∧ (fd.params.posonlyargs ++ fd.params.args).head? = some ar ∧ ar.arg = slf
  code : ∃ (c : Addr) (o : Obj) (vs : Array Value) (file : Str) (tf : Tok), X.env.code = .ref c ∧ X.K.lookup c = some o ∧ o.data = .fields vs ∧ vs[2]? = some (.str file tf) ∧ ((X.prog.main.file : Str) == file) = true
  top : (X.prog.main.scope.names.lookup ("super" : Str)).isSome = false
  any : PySem.W.nsIn X.K cStatics "thirdparty.any" = some none
def tSupX (X : Cx) (j i : Nat) (D : Addr) (ta : TA) : TS := fun Dn σ H => σ[j]? = some (some (.ref D)) ∧ ∃ a, σ[i]? = some (some (.ref a)) ∧ H a = some (exo a D none) ∧ OexC X.K D ∧ SupX X D ∧
  ta σ H fun vs H1 => vs.length ≤ 1000 ∧ H1 a = some (exo a D none) ∧ Dn.nx σ H1
theorem init_bw {X : Cx} {pins : List (Addr × Obj)} {σ : L2.St} {H : Hp} {s : Shared} {A : Around} {E : Value → Shared → Prop} {b a C : Addr} {us : List Value} {Q : Value → Shared → Prop} (T : OexC X.K C) (I : Inv X pins σ H s) (e : H a = some (exo a C none)) (hb : s.heap.get? b = some (PySem.W.kxs_mw "ValueError.__init__" a)) (hl : us.length ≤ sizeLine)
    (h : ∀ s', Inv X pins σ H s' → Q .none s') : wpAny (model X.prog X.w) A (call (.ref b) us) Q E s := by
  obtain ⟨nm, q, N, bs, bm, sn, sub, ab, col, dd, k0, k1, k2, k3, k5, hC, hbm⟩ := T.cls
  obtain ⟨t1, ho⟩ := exo_at I.hok e
  have hC' := I.kIn _ _ hC
  obtain ⟨hh, g, d, tk, os⟩ := s
  have fin : ∀ h', (∀ b o, b ≠ a → hh.get? b = some o → h'.get? b = some o) → h'.get? a = some ({ cls := .ref C, dict := none, data := .fields #[.ref hh.objs.size, .none, .none, .none, .bool false, .none] } : Obj) → Q .none ⟨h', g, d, tk, os⟩ := fun h' k hx => by
    have J := I.write (t' := tk) (x := a) (e := a) (o := exo a C none) (by rw [e]; exact True.intro) (.inl rfl) k ⟨_, hx⟩ (exo_ok hx)
    have eu : upd H a (exo a C none) = H := by
      funext b
      by_cases hb : b = a
      · rw [hb, upd_same, e]
      · rw [upd_ne hb]
    rw [eu] at J
    exact h _ J
  refine wpAny_call (codeAny_of_tree ?_)
  show wpAny _ A.in1 (callAny (.ref b) ⟨us, []⟩) _ _ _
  simp only [callAny]
  refine wpAny_bind (wpAny_load hb ?_)
  simp only [PySem.W.kxs_mw, show (Value.type "method-wrapper" == Value.type "method" || Value.type "method-wrapper" == Value.type "builtin_function_or_method" || Value.type "method-wrapper" == Value.type "method-wrapper") = true by decide, if_true]
  refine PySem.W.KFB.if_so (by decide) ?_
  refine wpAny_bind (PySem.W.check_bound_init F.excBase_ValueError.toExcCallFacts hC' ho rfl ?_)
  refine wpAny_bind (wpAny_pure (wpAny_pure ?_))
  refine ⟨plainId_quiet F.excBase_ValueError.init.plain _, codeAny_builtin F.excBase_ValueError.initEntry ?_⟩
  exact PySem.W.exc_init_tree (cls := .ref C) (t0 := t1) (dv := none) (c2 := .none) (c3 := .none) (b4 := .bool false) ho hl fun h' k hx _ => fin h' k hx
section
variable {X : Cx} {body : List Stmt} {f D : Addr} {slf : Str} {i j : Nat} {e : Expr} {es : List Expr} {ta : TA} {p0 p1 apos cpos spos : Pos}
theorem pst_superX (S : SupD X f D slf) (hks : Gl X "super") (hm : X.mg "super" = none) (hkc : X.env.kindOf "__class__" = some .free) (hNc : X.N[j]? = some "__class__") (hvc : Vis X.env.scope "__class__")
    (hNs : X.N[i]? = some slf) (hvs : Vis X.env.scope slf) (hcs : (slf == ("__classdict__" : Str)) = false) (ha : PA X (e :: es) ta) (hi : interactive X.env = false)
    (hst : starEach (e :: es) X.env = (false, eval e X.env) :: starEach es X.env := by rfl) (hpl : (backTo cpos (starEach es X.env)).any (·.1) = false := by rfl)
    (hsw : swapsWith (.Call (.Attribute (.Call (.Name "super" p0) [] [] p1) "__init__" apos) (e :: es) [] cpos) none spos.line X.env = pure false := by rfl)
    (ht : eval (.Call (.Attribute (.Call (.Name "super" p0) [] [] p1) "__init__" apos) (e :: es) [] cpos) X.env = (do
      let ov ← attributeBase (.Call (.Name "super" p0) [] [] p1) "__init__" X.env (eval (.Call (.Name "super" p0) [] [] p1) X.env)
      standAt apos.atName
      let (f, first) ← holding [ov] (getMethod ov "__init__" (pure false))
      callWith cpos f first (backTo cpos (starEach (e :: es) X.env)) []) := by rfl) :
    PST X body (.Expr (.Call (.Attribute (.Call (.Name "super" p0) [] [] p1) "__init__" apos) (e :: es) [] cpos) spos) (tSupX X j i D ta) := by
  refine ⟨fun pins s σ H Dn I ⟨hD, a, hxs, hH, T, SX, hta⟩ => ?_⟩
  obtain ⟨t1, hoa⟩ := exo_at I.hok hH
  have J : PySem.W.InstAt s.heap a { cls := .ref D, dict := none, data := .fields #[.ref t1, .none, .none, .none, .bool false, .none] } D none := ⟨hoa, rfl, rfl, trivial⟩
  obtain ⟨of, fd, ar, hf1, hf2, hf3, hf4⟩ := S.at_
  obtain ⟨cc, oc, vs, file, tf, hc1, hc2, hc3, hc4, hc5⟩ := S.code
  obtain ⟨cdD, hcD⟩ := SX.cd
  have KX := I.kIn
  refine ks_wpAt_Expr_any (ks_wpAt_MethodCall (args := e :: es) (pl := pure false) ?_ ht) hi hsw
  refine ks_wpAt_super_base hks hkc rfl S.fn (KX _ _ hf1) hf2 hf3 hc1 (KX _ _ hc2) hc3 hc4 hc5 S.top ?_
  refine load_blt I hks hm boot_super (by decide +kernel) ⟨rfl, ?_⟩
  refine load_slot I hNc hD hvc (by decide) fun u ru => ?_
  obtain rfl : u = Value.ref D := ru
  rw [hf4]
  refine load_slot I hNs hxs hvs hcs fun u2 ru2 => ?_
  obtain rfl : u2 = Value.ref a := ru2
  obtain ⟨hD1o, hD1, hD2⟩ : ∃ oD, s.heap.get? D = some oD ∧ oD.data = .cls cdD := by
    unfold PySem.W.clsIn at hcD
    split at hcD
    · rename_i c' d' cd' sl' ho
      cases hcD
      exact ⟨_, KX _ _ ho, rfl⟩
    · cases hcD
  have hxC : a ≠ D := PySem.W.ks_ne KX J hcD
  obtain ⟨hh, gg, dd, tt, os⟩ := s
  refine PySem.ks_wpAny_isType_cls hD1 hD2 ⟨rfl, ?_⟩
  refine PySem.ks_wpAny_call_super hD1 hD2 J.at_ J.cls (fun c' e' => ?_) (PySem.W.looks_mroIn KX SX.mro) (fun h' eq kp => ?_)
  · cases e'
  have I2 : Inv X pins σ H ⟨h', gg, dd, tt, os⟩ := Inv.kept (s := ⟨hh, gg, dd, tt, os⟩) (t' := tt) I kp
  have KX2 := I2.kIn
  have hsup := SX.sup
  unfold PySem.W.ks_superIn at hsup
  rw [hcD] at hsup
  have hmr : PySem.W.Looks (model X.prog X.w) h' (mroOf (.ref D)) cdD.mro := fun A Q E s k q => wpAny_bind ((PySem.W.looks_clsIn KX2 hcD) A _ E s k (wpAny_pure q))
  have J2 : PySem.W.InstAt h' a { cls := .ref D, dict := none, data := .fields #[.ref t1, .none, .none, .none, .bool false, .none] } D none := ⟨kp _ _ hoa, rfl, rfl, trivial⟩
  have hI : PySem.W.Looks (model X.prog X.w) h' (isInstance (.ref a) (.type "ValueError")) true := J2.type.andThen (PySem.W.looks_subIn KX2 SX.sub)
  refine PySem.W.kxs_getMethod PySem.W.kxs_ValueError eq (PySem.W.looks_opaque KX2 S.any) hmr rfl KX2 hsup hI hxC rfl ?_
  have I3 : Inv X ((h'.objs.size, PySem.W.kxs_mw "ValueError.__init__" a) :: pins) σ H ⟨h'.push (PySem.W.kxs_mw "ValueError.__init__" a), gg, dd, tt + 1, os⟩ :=
    ClX.pin_new I2 (fun _ _ z => Heap.get?_push_of_some _ z) (Nat.le_refl _) (Heap.get?_push_size h' rfl) (fun v z => nomatch z)
  generalize h'.objs.size = b at I3 ⊢
  refine thn (Q := EP X pins σ fun _ H' => Dn.nx σ H') ?_ fun v s' ⟨z, H', I', _, q⟩ => ⟨σ, H', I', q⟩
  show wpAny _ _ (callWith cpos (.ref b) [] (backTo cpos (starEach (e :: es) X.env)) []) _ _ _
  have run := ha.run cpos _ _ σ H _ I3 hta
  rw [hst] at run ⊢
  refine PySem.W.kxs_callWith (i := "ValueError.__init__") (x := a) (by show (false || (backTo cpos (starEach es X.env)).any (·.1)) = false; rw [hpl]; rfl)
    (Calls.evalArgs_plain (thn run fun us s4 ⟨vs, H4, I4, r4, hl4, ea4, q4⟩ => ?_))
  have hb4 : s4.heap.get? b = some (PySem.W.kxs_mw "ValueError.__init__" a) := ClX.pin_at I4
  refine ⟨hb4, ?_⟩
  have I5 : Inv X pins σ H4 s4 := ClX.unpin I4
  refine init_bw T I5 ea4 hb4 (by show us.length ≤ sizeLine; rw [← r4.length, sizeLine_eq]; omega) fun s5 I6 => ⟨.non, H4, I6, rfl, q4⟩
end
theorem psst_cons {X : Cx} {body : List Stmt} {st : Stmt} {rest : List Stmt} {t1 t2 : TS} (h : PST X body st t1) (h2 : PSs X rest t2) : PSsT X body (st :: rest) (fun D σ H => t1 { D with nx := fun σ' H' => t2 D σ' H' } σ H) := ⟨fun pins s σ H D I q => by
  refine ks_wpAt_execs_cons (ks_wpAt_mono (h.run pins s σ H _ I q) (fun fl s' q => ?_) fun _ _ z => z)
  cases fl with
  | next => obtain ⟨σ', H', J, q⟩ := q; exact wpAt_of_wpAny (h2.run pins s' σ' H' D J q)
  | ret u => exact q
  | brk => exact q
  | cont => exact q⟩
def spI (D : Addr) (fld : Str) : Sp := fun vs H Q _ => ∃ a y, vs = [.ref a, y] ∧ H a = some (exo a D none) ∧ ∀ dx, H dx = none → dx ≠ a → Q .non (upd (upd H dx (exd dx [(fld, y)])) a (exo a D (some dx)))
def tIni (X : Cx) (D : Addr) (m fld : Str) : TS := fun Dn σ H => tSupX X 2 0 D (tCons (tC (.str m)) tNil) { Dn with nx := fun σ' H' => tOst X.K fld (tVar 0) (tVar 1) Dn σ' H' } σ H
section
variable {P : Program} {w : World} {K : PySem.W.Frag} {mg : Str → Option Value} {base : Heap} {x qual m fld par : Str} {params : Arguments} {body : List Stmt} {scope : Scope} {dvs : List V} {kws : List (Str × V)} {f cc D c : Addr} {fd : FuncData} {file : Str} {N : List Str} {k : Nat}
theorem exFn (F : FunS K x qual params body scope dvs kws f fd cc D c file) (S : NScope ["self", par, "__class__"] ["self", par] ["__class__"] scope) (T : OexC K D) (hno : PySem.W.findIn K (.ref D) fld = some none)
    (SX : ∀ (A : Around) (outer : List Env) (s : Shared) (H : Hp) (E : XK), SupX (ncx (L2.CX P w) P w K mg base ["self", par, "__class__"] (nfS x qual params body scope cc c) f A outer s H E) D)
    (hb : ∀ (A : Around) (outer : List Env) (s : Shared) (H : Hp) (E : XK), PSsT (ncx (L2.CX P w) P w K mg base ["self", par, "__class__"] (nfS x qual params body scope cc c) f A outer s H E) body body
      (tIni (ncx (L2.CX P w) P w K mg base ["self", par, "__class__"] (nfS x qual params body scope cc c) f A outer s H E) D m fld)) : FnOk P w K mg base (L2.CX P w) (k + 1) f fd ["self", par] (spI D fld) :=
  F.ok S (fun vs H Q E ⟨a, y, e, _⟩ => by rw [e] <;> rfl) fun A outer s H vs Q E hr ⟨a, y, e, h1, h2⟩ => by
    subst e
    refine ⟨_, hb A outer s H E, rfl, a, rfl, h1, T, SX A outer s H E, ?_⟩
    refine ⟨by simp, h1, ?_⟩
    exact ⟨y, rfl, .ref a, rfl, a, D, rfl, T, hno, .inl ⟨h1, fun dx n ne => h2 dx n ne⟩⟩
end
end ML
end
section
namespace ML
open PySem PySem.Spec PyProof.Rows L2 He
abbrev goneE (D : Ends) (i : Nat) : Ends := { nx := fun σ' H' => D.nx (σ'.set i none) H', rt := D.rt, bk := fun σ' H' => D.bk (σ'.set i none) H', ct := fun σ' H' => D.ct (σ'.set i none) H' }
def wManyA (K : PySem.W.Frag) (Wout : WX) (D : Ends) : List (Value × Nat × (Addr → Value → Option Addr → TS)) → WX
  | [] => Wout
  | (c, i, ts) :: r => fun cls d σ H => ∃ b, PySem.W.exmOne K cls c = some b ∧ (b = true → ∀ a, H a = none → ts a cls d (goneE D i) (σ.set i (some (.ref a))) H) ∧ (b = false → wManyA K Wout D r cls d σ H)
inductive HdsA (X : Cx) : List ExceptHandler → List (Value × Nat × (Addr → Value → Option Addr → TS)) → Prop
  | nil : HdsA X [] []
  | cons {x n : Str} {i : Nat} {c : Value} {ts : Addr → Value → Option Addr → TS} {b₀ : Stmt} {suite : List Stmt} {np pos' : Pos} {hds : List ExceptHandler} {l : List (Value × Nat × (Addr → Value → Option Addr → TS))} (hc : Names X x c)
      (hi : X.N[i]? = some n) (hln : X.env.kindOf n = some .local)
      (hsu : ∀ (a : Addr) (oe : Obj) (cls : Value) (d : Option Addr) (pn : List (Addr × Obj)), Zc cls d oe → (∃ vs, oe.data = .fields vs) → PSs (X.suite a ((a, oe) :: pn)) (b₀ :: suite) (ts a cls d)) (r : HdsA X hds l) :
      HdsA X (.ExceptHandler (some (.Name x np)) (some n) (b₀ :: suite) pos' :: hds) ((c, i, ts) :: l)
section
variable {X : Cx} {body : List Stmt} {h₀ : ExceptHandler} {hds : List ExceptHandler} {l : List (Value × Nat × (Addr → Value → Option Addr → TS))} {pos : Pos} {tb : WX → TS} {Wout : WX}
theorem ps_try_asMany (hs : X.stack = X.env :: X.outer) (hf : X.env.frame = some X.env.locals) (hN : X.N.Nodup) (tk : Takes X Wout)
    (hb : ∀ (W : WX) (pn : List (Addr × Obj)) (xe : Value → Shared → Prop), Takes (X.tr pn xe) W → PassesOwn (model X.prog X.w) X.A X.env xe → PSs (X.tr pn xe) body (tb W))
    (hh : HdsA X (h₀ :: hds) l) : PS X (.Try body (h₀ :: hds) [] [] pos) (fun D σ H => tb (wManyA X.K Wout D l) D σ H) := by
  refine ⟨fun pins s σ H D I h => ?_⟩
  have ok := I.ok
  have hfr : X.A.frames = some (X.env :: X.outer) := by rw [ok.frames, hs]
  refine wpAny_Try_except ?_
  refine wpAny_mono ((hb (wManyA X.K Wout D l) (X.pn ++ pins) (fun e s₁ => wpAny (model X.prog X.w) X.A (noteFrame e X.env) (fun _ s₂ => wpAny (model X.prog X.w) X.A (setFlight e none) (fun _ s₃ =>
    wpAny (model X.prog X.w) X.A (handleBy e X.env (h₀ :: hds)) (SP X pins D) X.xe s₃) X.xe s₂) X.xe s₁) (fun u s' xx => ?_) PassesOwn.looking).run [] s σ H D (I.toTry _) h) (fun f s1 hsp => ?_) (fun e s1 he => he)
  · -- the catch
    obtain ⟨a, B, sI, pins', σ', H', cls, d, rfl, J', nb, up, sky, na, os, ag, w⟩ := xx
    have J : Inv X pins σ' H' sI := J'.ofTry ok
    have sky' : Sky B (X.env :: X.outer) a (Zc cls d) X.env.locals s'.heap := by rw [← hs]; exact sky
    show wpAny (model X.prog X.w) X.A (noteFrame (.ref a) X.env) _ _ _
    refine Sky.land Zc.steady hfr hf sky' fun h3 fl3 up3 => ?_
    have J3 : Inv X pins σ' H' { s' with heap := h3 } := J.landed nb fl3.1 (up.trans up3) os ag
    obtain ⟨oe3, vs3, he3, hz3, hd3⟩ := fl3.there
    have notFr : ∀ {h : Heap} {o : Obj} {vs : Array Value}, h.FunFrames B (X.env :: X.outer) → h.get? a = some o → o.data = .fields vs → a ∉ frs (X.env :: X.outer) := fun {h o vs} ff e dd hm => by
      obtain ⟨_, o', e', hnf⟩ := ff.mem hm
      rw [e] at e'; cases e'
      exact hnf _ dd
    have nfr := notFr fl3.2.2.1 he3 hd3
    have nL : a ≠ X.env.locals := fun z => nfr (List.mem_filterMap.mpr ⟨X.env, List.mem_cons_self, by rw [hf, z]⟩)
    have nF : a ∉ X.fs := fun hm => by
      obtain ⟨e, he, q⟩ := List.mem_filterMap.mp hm
      exact nfr (List.mem_filterMap.mpr ⟨e, List.mem_cons_of_mem _ he, q⟩)
    have S3 := J3.suite he3 hd3 na nL nF
    have go : ∀ {hds' : List ExceptHandler} {l' : List (Value × Nat × (Addr → Value → Option Addr → TS))}, HdsA X hds' l' → wManyA X.K Wout D l' cls d σ' H' →
        wpAny (model X.prog X.w) X.A (handleBy (.ref a) X.env hds') (SP X pins D) X.xe { s' with heap := h3 } := by
      intro hds' l' hk
      induction hk with
      | nil =>
        intro w
        refine wpAny_handleBy_nil ?_
        obtain ⟨k1, k2, k3, oe, vs, T, oT, ts', he, hz, hd, h1, hr⟩ := id fl3
        unfold PySem.passOn
        refine wpAny_bind (wpAny_field he hd h1 ?_)
        rw [if_neg (show ¬ ((Value.ref T == Value.none) = true) from by simp)]
        have fin : wpAny (model X.prog X.w) X.A (setFlight (.ref a) X.env.frame) (fun _ s4 => wpAny (model X.prog X.w) X.A (throw (.ref a) : Sem Flow) (SP X pins D) X.xe s4) X.xe { s' with heap := h3 } := by
          rw [hf]
          refine HandSPX.setFlight_upZ fl3 fun h4 hh4 up4 => wpAny_throw (tk _ _ ?_)
          exact ⟨a, B, sI, pins, σ', H', cls, d, rfl, J, nb, (up.trans up3).trans up4, .inr (.inr (by rw [hs]; exact hh4)), na, os, ag, w⟩
        first
          | exact wpAny_bind (wpAny_pure (wpAny_bind fin))
          | exact wpAny_bind fin
      | @cons x n i c ts b₀ suite np pos' hds2 l2 hc hi hln hsu r ih =>
        intro w
        obtain ⟨b, hb1, hyes, hno⟩ := w
        have hloc : Loc X.env.scope n := .inl hln
        refine wpAny_handleBy_cons (codeAny_handlers_test ?_) (by intro q; cases q)
        have LT : PySem.W.Looks (model X.prog X.w) h3 (typeOf (.ref a)) cls := fun A Q E s k q => wpAny_typeOf_ref (k _ _ he3) (by rw [hz3.1]; exact q)
        have LM := PySem.W.exm_one (M := model X.prog X.w) (J3.kIn) LT hb1
        have test : ∀ {Q : Value → Shared → Prop} {E : Value → Shared → Prop}, Q c { s' with heap := h3 } → wpAny (model X.prog X.w) (X.A.mark (some (.ref a))) (eval (.Name x np) X.env) Q E { s' with heap := h3 } := fun {Q E} q => by
          obtain ⟨hg, hdbg, hm | ⟨hm, hv, hnn⟩⟩ := hc
          · exact ld_glob (X := X.suite a ((a, oe3) :: (X.pn ++ pins))) S3 hg hm q hdbg
          · exact ld_blt (X := X.suite a ((a, oe3) :: (X.pn ++ pins))) S3 hg hm hv q hnn hdbg
        refine test (LM.here ?_)
        cases b with
        | true =>
          refine codeAny_handlers_suite_as ?_
          refine HandSPX.lands_againZ fl3 fun h4 fl4 up4 => ?_
          have J4 : Inv X pins σ' H' { s' with heap := h4 } := J.landed nb fl4.1 ((up.trans up3).trans up4) os ag
          obtain ⟨oe4, vs4, he4, hz4, hd4⟩ := fl4.there
          have S4 := J4.suite he4 hd4 na nL nF
          refine store_ok (X := X.suite a ((a, oe4) :: (X.pn ++ pins))) (v := .ref a) S4 hN hi hloc rfl (fun s5 S5 => ?_) (.inr hln)
          refine wpAny_mono ((hsu a oe4 cls d (X.pn ++ pins) hz4 ⟨_, hd4⟩).run [] s5 _ H' _ S5 (hyes rfl a na)) (fun f s6 hsp => ?_) (fun _ _ z => False.elim z)
          have end_ : ∀ {σ6 : L2.St} {H6 : Hp} {Q : Shared → Prop}, Inv (X.suite a ((a, oe4) :: (X.pn ++ pins))) [] σ6 H6 s6 → (∀ s7, Inv X pins (σ6.set i none) H6 s7 → Q s7) →
              wpAny (model X.prog X.w) X.A (do bindName X.env n .none; unbindBehindTheSuite X.env n pos') (fun _ s7 => Q s7) X.xe s6 := fun {σ6 H6 Q} S6 hq => gone_ok (S6.unsuite ok) hN hi hln hq
          cases f with
          | next =>
            obtain ⟨σ6, H6, S6, q6⟩ := hsp
            exact end_ S6 fun s7 J7 => ⟨_, _, J7, q6⟩
          | brk =>
            obtain ⟨σ6, H6, S6, q6⟩ := hsp
            exact end_ S6 fun s7 J7 => ⟨_, _, J7, q6⟩
          | cont =>
            obtain ⟨σ6, H6, S6, q6⟩ := hsp
            exact end_ S6 fun s7 J7 => ⟨_, _, J7, q6⟩
          | ret u =>
            obtain ⟨v6, σ6, H6, S6, r6, q6⟩ := hsp
            exact end_ S6 fun s7 J7 => ⟨_, _, _, J7, r6, q6⟩
        | false =>
          show wpAny _ X.A (handleBy (.ref a) X.env hds2) _ _ _
          exact ih (hno rfl)
    exact go hh w
  · cases f with
    | next =>
      obtain ⟨σ', H', J', q⟩ := hsp
      exact wpAny_execs_nil ⟨σ', H', J'.ofTry ok, q⟩
    | brk =>
      obtain ⟨σ', H', J', q⟩ := hsp
      exact ⟨σ', H', J'.ofTry ok, q⟩
    | cont =>
      obtain ⟨σ', H', J', q⟩ := hsp
      exact ⟨σ', H', J'.ofTry ok, q⟩
    | ret u =>
      obtain ⟨v, σ', H', J', r, q⟩ := hsp
      exact ⟨v, σ', H', J'.ofTry ok, r, q⟩
end
def sRaise (c : Nat) (fld : S) (e : ME) : MS := fun σ h => (e σ h).bindS σ fun v h1 => .ex c h1.length σ (h1 ++ [.xd [(fld, v)]])
section
variable {G : Gx} {W : WX} {X : Cx} {e : Expr} {me : ME} {c k : Nat} {C fI : Addr} {fd : FuncData} {ps : List Str} {fld : S} {x : Str} {p pos pos' : Pos}
theorem ms_raise (hc : X.calm = true) (tk : Takes X W) (hct : G.ct c = some C) (T : OexC X.K C) (iC : PySem.W.findIn X.K (.ref C) "__init__" = some (some (.ref fI))) (tI : PySem.W.typeIn X.K (.ref fI) = some (.type "function"))
    (F1 : FnOk X.prog X.w X.K X.mg X.base (L2.CX X.prog X.w) k fI fd ps (spI C (toStr fld))) (hr : Room (k + 1) X.A) (hb : Binds X.K fd ps []) (hg : Gl X x) (hm : X.mg x = some (.ref C)) (he : PE X e (rdE G W me))
    (hdb : (x == ("__debug__" : Str)) = false := by decide) (hst : starEach [e] X.env = (false, eval e X.env) :: starEach [] X.env := by rfl) (hpl : (backTo pos (starEach [] X.env)).any (·.1) = false := by rfl) :
    PS X (.Raise (some (.Call (.Name x p) [e] [] pos)) none pos') (rdS G W (sRaise c fld me)) := by
  have hx : Passes (L2.CX X.prog X.w) X (fun _ _ _ => False) := fun pins σ H s e s' I ⟨_, _, _, _, _, _, _, _, _, _, _, _, z⟩ => z.elim
  have pa : PA X [e] (tCons (rdE G W me) tNil) := pa_cons he pa_nil hst
  refine PS.imp' (ps_raise hc tk (pmk_oex (sp := spI C (toStr fld)) T iC tI F1 hr hb .nil hx hg hm pa hdb hst hpl)) fun D σ H ⟨ρ, σi, h, as, ag, f⟩ => ?_
  refine rdS_go as ag f fun ρ1 H1 h1 v y st as1 ag1 rv f1 => ?_
  show ([y].length ≤ 1000) ∧ _
  refine ⟨by simp, fun a na => ⟨a, y, rfl, upd_same, fun dx ndx ne => ?_⟩⟩
  have n1 : H1 dx = none := by rw [upd_ne ne] at ndx; exact ndx
  refine ⟨rfl, dx, [(toStr fld, y)], upd_same, by rw [upd_ne ne, upd_same], n1, ?_⟩
  have eh : upd (del (upd (upd (upd H1 a (exo a C none)) dx (exd dx [(toStr fld, y)])) a (exo a C (some dx))) a) dx (.xd [(toStr fld, y)]) = upd H1 dx (.xd [(toStr fld, y)]) := by
    funext b
    by_cases h1 : b = dx
    · rw [h1, upd_same, upd_same]
    · rw [upd_ne h1, upd_ne h1]
      by_cases h2 : b = a
      · rw [h2, del_same, na]
      · rw [del_ne h2, upd_ne h2, upd_ne h1, upd_ne h2]
  rw [eh]
  exact f1 (ρ1 ++ [dx]) _ dx C σ (Stp.new n1) (ag1.new n1 ⟨_, upd_same, .cons rfl (rv.mono (Stp.new n1)) .nil⟩) (as1.mono (Stp.new n1)) (by rw [← ag1.len]; simp) hct
end
end ML
end
section
namespace ML
open PySem PySem.Spec PyProof.Rows L2 He
def goneS (i : Nat) : RS → RS
  | .nx σ h => .nx (σ.set i none) h
  | .bk σ h => .bk (σ.set i none) h
  | .ct σ h => .ct (σ.set i none) h
  | .rt v h => .rt v h
  | _ => .err
abbrev Hd := (Nat → Option Bool) × Nat × (Nat → Nat → MS)
def runH : List Hd → Nat → Nat → MS
  | [], c, n => fun σ h => .ex c n σ h
  | (mt, i, su) :: r, c, n => fun σ h => match mt c with
    | some true => match Nat.blt i σ.length with
      | true => goneS i (su c n (σ.set i none) h)
      | false => .err
    | some false => runH r c n σ h
    | none => .err
def sTry (body : MS) (hs : List Hd) : MS := fun σ h => match body σ h with
  | .ex c n σ' h' => runH hs c n σ' h'
  | r => r
def rdGX {α β : Type} (G : Gx) (n : Nat) (dd : Addr) (i : Nat) (a : Addr) (R : List Addr → Hp → α → β → Prop) (W : WX) (m : Sg → Hi → Res α) : L2.St → Hp → (β → Hp → Prop) → Prop := fun σ H Q =>
  ∃ ρ σi h, ρ[n]? = some dd ∧ σ[i]? = some (some (V.ref a)) ∧ AgS G ρ H σi σ ∧ Ag G ρ h H ∧ FinG G ρ H R Q (fun c d H' => W c d σ H') (m σi h)
abbrev rdEX (G : Gx) (n : Nat) (dd : Addr) (i : Nat) (a : Addr) (W : WX) (m : ME) : TE := rdGX G n dd i a (RV G) W m
abbrev rdAX (G : Gx) (n : Nat) (dd : Addr) (i : Nat) (a : Addr) (W : WX) (m : MA) : TA := rdGX G n dd i a (RVs G) W m
def rdSX (G : Gx) (n : Nat) (dd : Addr) (i : Nat) (a : Addr) (W : WX) (m : MS) : TS := fun D σ H =>
  ∃ ρ σi h, ρ[n]? = some dd ∧ σ[i]? = some (some (V.ref a)) ∧ AgS G ρ H σi σ ∧ Ag G ρ h H ∧ FinS G ρ H D W (m σi h)
section
variable {G : Gx} {ρ : List Addr} {H : Hp} {W : WX} {X : Cx} {σ : L2.St} {σi : Sg} {h : Hi} {n i : Nat} {dd a : Addr} {e : Expr} {es : List Expr} {me : ME} {ma mr : MA} {pos : Pos}
theorem rdGX_go {α β γ δ : Type} {R : List Addr → Hp → α → β → Prop} {R' : List Addr → Hp → γ → δ → Prop} {m : Sg → Hi → Res α} {k : α → Hi → Res γ} {Q : δ → Hp → Prop} {N : β → Hp → Prop}
    (hn : ρ[n]? = some dd) (hs : σ[i]? = some (some (V.ref a))) (as : AgS G ρ H σi σ) (ag : Ag G ρ h H) (f : FinG G ρ H R' Q (fun c d H' => W c d σ H') ((m σi h).bind k))
    (nx : ∀ ρ1 H1 h1 x y, Stp G ρ H ρ1 H1 → ρ1[n]? = some dd → AgS G ρ1 H1 σi σ → Ag G ρ1 h1 H1 → R ρ1 H1 x y → FinG G ρ1 H1 R' Q (fun c d H' => W c d σ H') (k x h1) → N y H1) : rdGX G n dd i a R W m σ H N := by
  refine ⟨ρ, σi, h, hn, hs, as, ag, ?_⟩
  cases e : m σi h with
  | err => rw [e] at f; exact f
  | ex c n' h' => rw [e] at f; exact f
  | ok v h' =>
    rw [e] at f
    exact fun ρ' H' x st a' r => nx ρ' H' h' v x st (st.pre _ _ hn) (as.mono st) a' r (FinG.later st f)
theorem mex_of {m : ME} (hp : PE X e (rdE G W m)) : PE X e (rdEX G n dd i a W m) := PE.imp' hp fun σ H Q ⟨ρ, σi, h, _, _, as, ag, f⟩ => ⟨ρ, σi, h, as, ag, f⟩
theorem mex_nil : PA X [] (rdAX G n dd i a W aNil) := PA.imp' pa_nil fun σ H Q ⟨ρ, σi, h, _, _, as, ag, f⟩ => f.ok ag .nil
theorem mex_cons (ha : PE X e (rdEX G n dd i a W me)) (hr : PA X es (rdAX G n dd i a W mr)) (hs : starEach (e :: es) X.env = (false, eval e X.env) :: starEach es X.env := by rfl) : PA X (e :: es) (rdAX G n dd i a W (aCons me mr)) :=
  PA.imp' (pa_cons ha hr hs) fun σ H Q ⟨ρ, σi, h, h1, h2, as, ag, f⟩ => rdGX_go h1 h2 as ag f fun ρ1 H1 h1' x y st k1 as ag r f => rdGX_go k1 h2 as ag f fun ρ2 H2 h2' xs ys st2 k2 as ag rs f => f.ok ag (.cons (r.mono st2) rs)
theorem mex_lst (hp : PA X es (rdAX G n dd i a W mr)) : PE X (.List es pos) (rdEX G n dd i a W (eLst mr)) :=
  PE.imp' (pe_lst hp) fun σ H Q ⟨ρ, σi, h, h1, h2, as, ag, f⟩ => rdGX_go h1 h2 as ag f fun ρ1 H1 h1' xs ys st k1 as ag rs f => by
    cases e : small xs.length with
    | false => rw [e] at f; exact f.elim
    | true =>
      rw [e] at f
      refine ⟨by rw [← rs.length]; exact small_ok e, fun p hp => ?_⟩
      exact f (ρ1 ++ [p]) _ _ (Stp.new hp) (ag.new hp ⟨ys, upd_same, rs.mono (Stp.new hp)⟩) (.ref (by rw [← ag.len]; simp))
theorem mex_cb {f : OpC} {id : String} {x : Str} {p : Pos} (hc : CallR X (.builtin id) (rdC G f)) (hg : Gl X x) (hm : X.mg x = none) (hv : bootBuiltins x = some (.builtin id)) (ha : PA X (e :: es) (rdAX G n dd i a W mr)) (hn : x ≠ "__name__" := by decide) (hdb : (x == ("__debug__" : Str)) = false := by decide)
    (he : starEach (e :: es) X.env = (false, eval e X.env) :: starEach es X.env := by rfl) (hpl : (backTo pos (starEach es X.env)).any (·.1) = false := by rfl) : PE X (.Call (.Name x p) (e :: es) [] pos) (rdEX G n dd i a W (eCB f mr)) :=
  PE.imp' (pe_callB hc hg hm hv ha hn hdb he hpl) fun σ H Q ⟨ρ, σi, h, h1, h2, as, ag, fi⟩ => rdGX_go h1 h2 as ag fi fun ρ1 H1 h1' xs ys st k1 as ag rs f => ⟨ρ1, h1', xs, ag, rs, FinO.of f⟩
def eXf (cs : List Nat) (c n : Nat) (f : S) : ME := fun _ h => match cs.contains c, h[n]? with
  | true, some (.xd fs) => match getF f fs with
    | some v => .ok v h
    | none => .err
  | _, _ => .err
def XcOk (K : PySem.W.Frag) (G : Gx) (cs : List Nat) (f : S) : Prop := ∀ c C, cs.contains c = true → G.ct c = some C → XfC K C ∧ PySem.W.findIn K (.ref C) (toStr f) = some none
theorem mex_fld {cs : List Nat} {c : Nat} {C : Addr} {fn : S} {fs en : Str} {oe : Obj} {pn : List (Addr × Obj)} {np : Pos} (ef : fs = toStr fn) (hX : XcOk X.K G cs fn) (hct : G.ct c = some C) (hz : Zc (.ref C) (some dd) oe) (hf : ∃ vs, oe.data = .fields vs)
    (hN : X.N[i]? = some en) (hv : Vis X.env.scope en) (hb : attributeBase (.Name en np) fs X.env (eval (.Name en np) X.env) = eval (.Name en np) X.env) (hd : (en == ("__debug__" : Str)) = false := by decide) (hcd : (en == ("__classdict__" : Str)) = false := by decide) :
    PE (X.suite a ((a, oe) :: pn)) (.Attribute (.Name en np) fs pos) (rdEX G n dd i a W (eXf cs c n fn)) := by
  subst ef
  refine PE.dispatch fun σ H Q ⟨ρ, σi, h, h1, h2, as, ag, f⟩ => ?_
  unfold eXf at f
  cases q1 : cs.contains c with
  | false => rw [q1] at f; exact f.elim
  | true =>
    rw [q1] at f
    cases q2 : h[n]? with
    | none => rw [q2] at f; exact f.elim
    | some ob =>
      rw [q2] at f
      cases ob with
      | xd gs =>
        dsimp only at f
        obtain ⟨T, hno⟩ := hX c C q1 hct
        obtain ⟨ls, hH, rf⟩ := ag.at_ q2 h1
        have g := RFs.getF fn rf
        cases q3 : getF fn gs with
        | none => rw [q3] at f; exact f.elim
        | some v =>
          rw [q3] at f g
          obtain ⟨x, gx, rx⟩ := g
          exact ⟨_, pe_xf T hno hz hf (pe_var (X := X.suite a ((a, oe) :: pn)) hN hv hd hcd) hb, _, h2, rfl, rfl, dd, ls, x, rfl, hH, gx, f.ok ag rx⟩
      | _ => exact f.elim
end
end ML
end
section
namespace ML
open PySem PySem.Spec PyProof.Rows L2 He
theorem kitx_excD {K : PySem.W.Frag} {x D : Addr} {ox : Obj} {od : Option Obj} (T : ExcC K D) : PySem.W.KitX K (.ref x) (.ref D) (fun h => PySem.W.InstAt h x ox D od) where
  ty := fun _ _ _ I => I.type
  it := fun _ _ X _ => by
    obtain ⟨cdD, hcD, _⟩ := PySem.W.any_some T.hd
    unfold PySem.W.clsIn at hcD
    split at hcD
    · rename_i c' d' cd' sl' ho
      intro A' Q' E' s' k q
      unfold isType loadHead
      exact wpAny_bind (wpAny_loadPart (k _ _ (X _ _ ho)) (wpAny_pure q))
    · cases hcD
  ne := fun h tp dd its n sl X htp => by
    obtain ⟨cdD, hcD, _⟩ := PySem.W.any_some T.hd
    refine Bool.eq_false_iff.mpr fun q => ?_
    have e : D = tp := Value.ref.inj (beq_iff_eq.mp q)
    subst e
    unfold PySem.W.clsIn at hcD
    split at hcD
    · rename_i c' d' cd' sl' ho
      have z := (X _ _ ho).symm.trans htp
      cases z
    · cases hcD
  ca := fun X I k => PySem.W.kx_classE X I T.hg T.hk T.hs (PySem.W.findObj_dataE (by obtain ⟨cd, hc, _⟩ := PySem.W.any_some T.hd; rw [hc]; rfl) T.ha T.hn T.ht) T.hm k
def rIsED (K : PySem.W.Frag) (D a dd : Addr) : List V → Hp → VK → Prop := fun xs H Q => ∃ (c : V) (cv : Value) (b : Bool) (fs : List (Str × V)), xs = [.ref a, c] ∧ H dd = some (.xd fs) ∧ (∀ u, RelV c u → u = cv) ∧ PySem.W.kitOne K (.ref D) cv = some b ∧ Q (.bl b) H
theorem call_isED {X : Cx} {a D dd : Addr} {oe : Obj} {pn : List (Addr × Obj)} (C : ExcC X.K D) (hz : Zc (.ref D) (some dd) oe) (hf : ∃ vs, oe.data = .fields vs) : CallR (X.suite a ((a, oe) :: pn)) (.builtin "isinstance") (rIsED X.K D a dd) := by
  intro pins s σ H xs us Q I r h
  obtain ⟨c, cv, b, fs, rfl, hx, hcv, e, q⟩ := h
  cases r with
  | cons rx rr =>
    cases rr with
    | cons rt rr =>
      cases rr
      cases rx
      have ec := hcv _ rt
      subst ec
      obtain ⟨hget, _⟩ := I.pin (a, oe) (List.mem_append.mpr (.inl List.mem_cons_self))
      obtain ⟨vs, hv⟩ := hf
      have ho : ObjOk X.prog X.w H s.heap dd (.xd fs) := I.hok dd _ hx
      obtain ⟨mA, hns, hr⟩ := ho
      obtain ⟨od, ho, hl⟩ := lookIn_ns hns
      have J : PySem.W.InstAt s.heap a oe D (some od) := ⟨hget, hz.1, by unfold PySem.W.notCls; rw [hv] <;> rfl, by rw [hz.2]; exact ho⟩
      exact PySem.W.kia_one (kitx_excD C) I.kIn J e (fun z => nomatch z) fun tk => ⟨.bl b, H, I.kept (t' := tk) fun _ _ z => z, rfl, q⟩
def eXi (tbl : Nat → Option Bool) (c n : Nat) : ME := fun _ h => match tbl c, h[n]? with
  | some b, some (.xd _) => .ok (.bl b) h
  | _, _ => .err
def XiOk (K : PySem.W.Frag) (G : Gx) (tbl : Nat → Option Bool) (cv : Value) : Prop := ∀ c C b, tbl c = some b → G.ct c = some C → ExcC K C ∧ PySem.W.kitOne K (.ref C) cv = some b
section
variable {G : Gx} {ρ : List Addr} {H : Hp} {W : WX} {X : Cx} {σ : L2.St} {σi : Sg} {h : Hi} {n i : Nat} {dd a : Addr} {e : Expr} {es : List Expr} {me : ME} {ma mr : MA} {pos : Pos}
theorem mex_isi {tbl : Nat → Option Bool} {c : Nat} {C : Addr} {cv : V} {u : Value} {en : Str} {oe : Obj} {pn : List (Addr × Obj)} {np p : Pos} {ce : Expr} (hX : XiOk X.K G tbl u) (hct : G.ct c = some C) (hz : Zc (.ref C) (some dd) oe) (hf : ∃ vs, oe.data = .fields vs)
    (hN : X.N[i]? = some en) (hv : Vis X.env.scope en) (hg : Gl X "isinstance") (hm : X.mg "isinstance" = none) (hc : PE (X.suite a ((a, oe) :: pn)) ce (tC cv)) (cl : ClsV cv u)
    (hs1 : starEach [.Name en np, ce] X.env = (false, eval (.Name en np) X.env) :: starEach [ce] X.env := by rfl) (hs2 : starEach [ce] X.env = (false, eval ce X.env) :: starEach [] X.env := by rfl) (hpl : (backTo pos (starEach [ce] X.env)).any (·.1) = false := by rfl)
    (hd : (en == ("__debug__" : Str)) = false := by decide) (hcd : (en == ("__classdict__" : Str)) = false := by decide) :
    PE (X.suite a ((a, oe) :: pn)) (.Call (.Name "isinstance" p) [.Name en np, ce] [] pos) (rdEX G n dd i a W (eXi tbl c n)) := by
  refine PE.dispatch fun σ H Q ⟨ρ, σi, h, h1, h2, as, ag, f⟩ => ?_
  unfold eXi at f
  cases q1 : tbl c with
  | none => rw [q1] at f; exact f.elim
  | some b =>
    rw [q1] at f
    cases q2 : h[n]? with
    | none => rw [q2] at f; exact f.elim
    | some ob =>
      rw [q2] at f
      cases ob with
      | xd gs =>
        dsimp only at f
        obtain ⟨T, hk⟩ := hX c C b q1 hct
        obtain ⟨ls, hH, rf⟩ := ag.at_ q2 h1
        exact ⟨_, pe_callB (call_isED T hz hf) hg hm boot_isinstance (pa_cons (pe_var (X := X.suite a ((a, oe) :: pn)) hN hv hd hcd) (pa_cons hc pa_nil hs2) hs1) (by decide) (by decide) hs1 hpl, _, h2, _, u, b, ls, rfl, hH, (fun u2 r2 => cl.eq r2), hk, f.ok ag (.bl b)⟩
      | _ => exact f.elim
theorem rdSX_go {α β : Type} {R : List Addr → Hp → α → β → Prop} {m : Sg → Hi → Res α} {k : α → Hi → RS} {D : Ends} {N : β → Hp → Prop}
    (hn : ρ[n]? = some dd) (hs : σ[i]? = some (some (V.ref a))) (as : AgS G ρ H σi σ) (ag : Ag G ρ h H) (f : FinS G ρ H D W ((m σi h).bindS σi k))
    (nx : ∀ ρ1 H1 h1 x y, Stp G ρ H ρ1 H1 → ρ1[n]? = some dd → AgS G ρ1 H1 σi σ → Ag G ρ1 h1 H1 → R ρ1 H1 x y → FinS G ρ1 H1 D W (k x h1) → N y H1) : rdGX G n dd i a R W m σ H N := by
  have z : rdG G R W m σ H fun y H1 => N y H1 ∨ True := rdS_go as ag f fun ρ1 H1 h1 x y st as1 ag1 r f1 => .inr trivial
  refine ⟨ρ, σi, h, hn, hs, as, ag, ?_⟩
  cases e : m σi h with
  | err => rw [e] at f; exact f
  | ex c n' h' => rw [e] at f; exact fun ρ' H' d C st a' q1 q2 => f ρ' H' d C σ st a' (as.mono st) q1 q2
  | ok v h' =>
    rw [e] at f
    exact fun ρ' H' x st a' r => nx ρ' H' h' v x st (st.pre _ _ hn) (as.mono st) a' r (FinS.later st f)
theorem msx_ret (he : PE X e (rdEX G n dd i a W me)) : PS X (.Return (some e) pos) (rdSX G n dd i a W (sRet me)) :=
  PS.imp' (ps_ret he) fun D σ H ⟨ρ, σi, h, h1, h2, as, ag, f⟩ => rdSX_go h1 h2 as ag f fun ρ1 H1 h1' x y st k1 as ag r f => f ρ1 H1 y .refl ag r
theorem msx_one {st : Stmt} {t : TS} (h : PS X st t) : PSs X [st] t := pss_one h
end
def tSu (G : Gx) (mt : Nat → Option Bool) (su : Nat → Nat → MS) (i : Nat) : Addr → Value → Option Addr → TS := fun a cls d D σ H => ∃ c n C dd, cls = .ref C ∧ d = some dd ∧ G.ct c = some C ∧ mt c = some true ∧ rdSX G n dd i a W0 (su c n) D σ H
inductive HdM (X : Cx) (G : Gx) : List ExceptHandler → List Hd → List (Value × Nat × (Addr → Value → Option Addr → TS)) → Prop
  | nil : HdM X G [] [] []
  | cons {x n : Str} {i : Nat} {cv : Value} {mt : Nat → Option Bool} {su : Nat → Nat → MS} {b₀ : Stmt} {suite : List Stmt} {np pos' : Pos} {hds : List ExceptHandler} {hs : List Hd} {l : List (Value × Nat × (Addr → Value → Option Addr → TS))} (hc : Names X x cv)
      (hi : X.N[i]? = some n) (hln : X.env.kindOf n = some .local) (hmt : ∀ c C b, mt c = some b → G.ct c = some C → PySem.W.exmOne X.K (.ref C) cv = some b)
      (hsu : ∀ (a : Addr) (oe : Obj) (C dd : Addr) (pn : List (Addr × Obj)) (c n : Nat), G.ct c = some C → mt c = some true → Zc (.ref C) (some dd) oe → (∃ vs, oe.data = .fields vs) → PSs (X.suite a ((a, oe) :: pn)) (b₀ :: suite) (rdSX G n dd i a W0 (su c n)))
      (r : HdM X G hds hs l) : HdM X G (.ExceptHandler (some (.Name x np)) (some n) (b₀ :: suite) pos' :: hds) ((mt, i, su) :: hs) ((cv, i, tSu G mt su i) :: l)
theorem PSs.dispatch {X : Cx} {st : List Stmt} {t : TS} (h : ∀ D σ H, t D σ H → ∃ t', PSs X st t' ∧ t' D σ H) : PSs X st t := ⟨fun pins s σ H D I q => let ⟨_, p, q'⟩ := h D σ H q; p.run pins s σ H D I q'⟩
theorem HdM.hds {X : Cx} {G : Gx} {hds : List ExceptHandler} {hs : List Hd} {l : List (Value × Nat × (Addr → Value → Option Addr → TS))} (m : HdM X G hds hs l) : HdsA X hds l := by
  induction m with
  | nil => exact .nil
  | cons hc hi hln hmt hsu r ih =>
    refine .cons hc hi hln (fun a oe cls d pn hz hf => PSs.dispatch fun D σ H ⟨c, n, C, dd, e1, e2, hct, hm, q⟩ => ?_) ih
    subst e1 e2
    exact ⟨_, hsu a oe C dd pn c n hct hm hz hf, q⟩
theorem runH_ok {X : Cx} {G : Gx} {W : WX} {D : Ends} {hds : List ExceptHandler} {hs : List Hd} {l : List (Value × Nat × (Addr → Value → Option Addr → TS))} (m : HdM X G hds hs l) : ∀ {ρ : List Addr} {H : Hp} {σi : Sg} {σ : L2.St} {h : Hi} {c n : Nat} {dd C : Addr},
    ρ[n]? = some dd → G.ct c = some C → AgS G ρ H σi σ → Ag G ρ h H → FinS G ρ H D W (runH hs c n σi h) → wManyA X.K W D l (.ref C) (some dd) σ H := by
  induction m with
  | nil => intro ρ H σi σ h c n dd C hn hct as ag f; exact f ρ H dd C σ .refl ag as hn hct
  | @cons x nm i cv mt su b₀ suite np pos' hds hs l hc hi hln hmt hsu r ih =>
    intro ρ H σi σ h c n dd C hn hct as ag f
    unfold runH at f
    cases q : mt c with
    | none => rw [q] at f; exact f.elim
    | some b =>
      rw [q] at f
      refine ⟨b, hmt c C b q hct, fun hb a na => ?_, fun hb => ?_⟩
      · subst hb
        dsimp only at f
        cases ql : Nat.blt i σi.length with
        | false => rw [ql] at f; exact f.elim
        | true =>
          rw [ql] at f
          dsimp only at f
          have hl : i < σ.length := by rw [Nat.blt_eq] at ql; rw [← as.len]; exact ql
          refine ⟨c, n, C, dd, rfl, rfl, hct, q, ρ, σi.set i none, h, hn, by rw [List.getElem?_set_self hl], as.lose i _, ag, ?_⟩
          cases e : su c n (σi.set i none) h with
          | nx σ' h' => rw [e] at f; exact fun ρ' H' σ3 st a' as' => f ρ' H' _ st a' (as'.lose i none)
          | bk σ' h' => rw [e] at f; exact fun ρ' H' σ3 st a' as' => f ρ' H' _ st a' (as'.lose i none)
          | ct σ' h' => rw [e] at f; exact fun ρ' H' σ3 st a' as' => f ρ' H' _ st a' (as'.lose i none)
          | rt v h' => rw [e] at f; exact f
          | ex c' n' σ' h' => rw [e] at f; exact f.elim
          | err => rw [e] at f; exact f.elim
      · subst hb
        exact ih hn hct as ag f
end ML
end
section
namespace ML
open PySem PySem.Spec PyProof.Rows L2 He
section
variable {G : Gx} {W : WX} {X : Cx} {body : List Stmt} {h₀ : ExceptHandler} {hds : List ExceptHandler} {hs : List Hd} {l : List (Value × Nat × (Addr → Value → Option Addr → TS))} {pos : Pos} {mb : MS}
theorem ms_try (tk : Takes X W) (hN : X.N.Nodup) (hb : ∀ (W' : WX) (pn : List (Addr × Obj)) (xe : Value → Shared → Prop), Takes (X.tr pn xe) W' → PassesOwn (model X.prog X.w) X.A X.env xe → PSs (X.tr pn xe) body (rdS G W' mb))
    (hh : HdM X G (h₀ :: hds) hs l) (hst : X.stack = X.env :: X.outer := by rfl) (hf : X.env.frame = some X.env.locals := by rfl) : PS X (.Try body (h₀ :: hds) [] [] pos) (rdS G W (sTry mb hs)) :=
  PS.imp' (ps_try_asMany (tb := fun W' => rdS G W' mb) (Wout := W) hst hf hN tk hb hh.hds) fun D σ H ⟨ρ, σi, h, as, ag, f⟩ => by
    refine ⟨ρ, σi, h, as, ag, ?_⟩
    unfold sTry at f
    cases e : mb σi h with
    | ex c n σ' h' =>
      rw [e] at f
      exact fun ρ' H' d C σ3 st ag' as' hn hct => runH_ok hh hn hct as' ag' (FinS.later st f)
    | nx σ' h' => rw [e] at f; exact f
    | bk σ' h' => rw [e] at f; exact f
    | ct σ' h' => rw [e] at f; exact f
    | rt v h' => rw [e] at f; exact f
    | err => rw [e] at f; exact f.elim
end
end ML
namespace ML
open PySem PySem.Spec PyProof.Rows L2 He
end ML
end
section
namespace ML
open PySem PySem.Spec PyProof.Rows L2 He
def oexB (K : PySem.W.Frag) (C : Addr) : Bool := match K.lookup C with
  | some ⟨.type "type", _, .cls cd, sl⟩ => (match cd.mro, sl.toList with
    | .ref C' :: bm, [_, _, _, _, some (.builtin n), _] => (C' == C && n == "ValueError.__new__" && !cd.hasDel) && (cd.hasDict && PySem.HandSPX.refsVE bm)
    | _, _ => false)
  | _ => false
theorem oexB_ok {K : PySem.W.Frag} {C : Addr} (q : oexB K C = true) : ∃ nm qn N bs bm sn sub ab col dd k0 k1 k2 k3 k5, K.lookup C = some (excClassObj nm qn C N bs bm true sn sub ab col dd k0 k1 k2 k3 k5 "ValueError.__new__") ∧ PySem.HandSPX.refsVE bm = true := by
  unfold oexB at q
  split at q
  · rename_i dd cd sl ho
    split at q
    · rename_i C' bm k0 k1 k2 k3 n k5 hm hs
      simp only [Bool.and_eq_true, beq_iff_eq, Bool.not_eq_true'] at q
      obtain ⟨⟨⟨rfl, rfl⟩, hdel⟩, hdi, hr⟩ := q
      obtain ⟨nm, bs, mro, ns, qn, hd, sn, sub, ab, col, del⟩ := cd
      dsimp only at hm hdel hdi
      subst hm hdel hdi
      have hsl : sl = #[k0, k1, k2, k3, some (.builtin "ValueError.__new__"), k5] := by
        obtain ⟨l⟩ := sl
        simp only at hs
        rw [hs]
      subst hsl
      exact ⟨nm, qn, ns, bs, bm, sn, sub, ab, col, dd, k0, k1, k2, k3, k5, ho, hr⟩
    · cases q
  · cases q
def excB (K : PySem.W.Frag) (x : Str) : Bool := oexB K (ga K x) && (eqO (PySem.W.findIn K (.ref (ga K x)) "__setattr__") (some (some (.builtin "object.__setattr__"))) && (decide (PySem.W.subIn K (.ref (ga K x)) (.type "BaseException") = some true) &&
  (decide (PySem.W.typeIn K (.ref (ga K x)) = some (.type "type")) && PySem.W.keepIn K (.ref (ga K x)))))
theorem excB_ok {K : PySem.W.Frag} {x : Str} (h : excB K x = true) : OexC K (ga K x) := by
  obtain ⟨h1, h⟩ := ba h
  obtain ⟨h2, h⟩ := ba h
  obtain ⟨h3, h⟩ := ba h
  obtain ⟨h4, h5⟩ := ba h
  exact ⟨oexB_ok h1, eqO_ok h2, of_decide_eq_true h3, of_decide_eq_true h4, h5⟩
def exiB (K : PySem.W.Frag) (x fld : Str) (d : Defn) : Bool := eqO (PySem.W.findIn K (.ref (ga K x)) "__init__") (some (some (.ref (d K)))) && (decide (PySem.W.typeIn K (.ref (d K)) = some (.type "function")) && (eqO (PySem.W.findIn K (.ref (ga K x)) fld) (some none) &&
  ((PySem.W.clsIn K (ga K x)).isSome && (decide (PySem.W.mroIn K (ga K x) (.ref (ga K x)) = some true) && (eqO (PySem.W.ks_superIn K (ga K x) (ga K x) "__init__") (some (some (.builtin "ValueError.__init__"))) &&
  (decide (PySem.W.subIn K (.ref (ga K x)) (.type "ValueError") = some true) && eqO (PySem.W.nsIn K cStatics "thirdparty.any") (some none)))))))
structure ExiOk (K : PySem.W.Frag) (x fld : Str) (d : Defn) : Prop where
  ini : PySem.W.findIn K (.ref (ga K x)) "__init__" = some (some (.ref (d K)))
  ty : PySem.W.typeIn K (.ref (d K)) = some (.type "function")
  no : PySem.W.findIn K (.ref (ga K x)) fld = some none
  cd : ∃ cd, PySem.W.clsIn K (ga K x) = some cd
  mro : PySem.W.mroIn K (ga K x) (.ref (ga K x)) = some true
  sup : PySem.W.ks_superIn K (ga K x) (ga K x) "__init__" = some (some (.builtin "ValueError.__init__"))
  sub : PySem.W.subIn K (.ref (ga K x)) (.type "ValueError") = some true
  any : PySem.W.nsIn K cStatics "thirdparty.any" = some none
theorem exiB_ok {K : PySem.W.Frag} {x fld : Str} {d : Defn} (h : exiB K x fld d = true) : ExiOk K x fld d := by
  obtain ⟨h1, h⟩ := ba h
  obtain ⟨h2, h⟩ := ba h
  obtain ⟨h3, h⟩ := ba h
  obtain ⟨h4, h⟩ := ba h
  obtain ⟨h5, h⟩ := ba h
  obtain ⟨h6, h⟩ := ba h
  obtain ⟨h7, h8⟩ := ba h
  exact ⟨eqO_ok h1, of_decide_eq_true h2, eqO_ok h3, Option.isSome_iff_exists.mp h4, of_decide_eq_true h5, eqO_ok h6, of_decide_eq_true h7, eqO_ok h8⟩
theorem ExiOk.supX {X : Cx} {x fld : Str} {d : Defn} (e : ExiOk X.K x fld d) : SupX X (ga X.K x) := ⟨e.cd, e.mro, e.sup, e.sub⟩
def exmL (K : PySem.W.Frag) (nm : Nat → Option Str) (y : Str) (l : List (Nat × Bool)) : Bool := l.all fun q => match nm q.1 with
  | some x => decide (PySem.W.exmOne K (.ref (ga K x)) (.ref (ga K y)) = some q.2)
  | none => false
theorem lkT_mem {α : Type} : ∀ {l : List (Nat × α)} {c : Nat} {b : α}, lkT l c = some b → (c, b) ∈ l
  | [], _, _, h => by cases h
  | (d, x) :: r, c, b, h => by
    rcases lkT_cons h with ⟨rfl, rfl⟩ | h
    · exact List.mem_cons_self
    · exact List.mem_cons_of_mem _ (lkT_mem h)
theorem exmL_ok {K : PySem.W.Frag} {mg : Str → Option Value} {nm : Nat → Option Str} {y : Str} {l : List (Nat × Bool)} (h : exmL K nm y l = true) : ∀ c C b, lkT l c = some b → (GxOf K mg nm).ct c = some C → PySem.W.exmOne K (.ref C) (.ref (ga K y)) = some b := fun c C b e hc => by
  have z := List.all_eq_true.mp h _ (lkT_mem e)
  dsimp only at z
  cases q : nm c with
  | none => rw [q] at z; cases z
  | some x =>
    rw [q] at z
    rw [gx_ct hc q]
    exact of_decide_eq_true z
def xcB (K : PySem.W.Frag) (nm : Nat → Option Str) (cs : List Nat) (f : Str) : Bool := cs.all fun c => match nm c with
  | some x => xfB K (ga K x) && eqO (PySem.W.findIn K (.ref (ga K x)) f) (some none)
  | none => false
theorem xcB_ok {K : PySem.W.Frag} {mg : Str → Option Value} {nm : Nat → Option Str} {cs : List Nat} {f : S} (h : xcB K nm cs (toStr f) = true) : XcOk K (GxOf K mg nm) cs f := fun c C e hc => by
  have z := List.all_eq_true.mp h c (List.contains_iff_mem.mp e)
  cases q : nm c with
  | none => rw [q] at z; cases z
  | some x =>
    rw [q] at z
    rw [gx_ct hc q]
    obtain ⟨z1, z2⟩ := ba z
    exact ⟨xfB_ok z1, eqO_ok z2⟩
def eccB (K : PySem.W.Frag) (x : Str) : Bool := xfB K (ga K x) && (eqO (PySem.W.findIn K (.ref (ga K x)) "__class__") (some (some (.builtin "object.__class__"))) && (eqO (PySem.W.specialIn K (.builtin "object.__class__") "__get__") (some (some (.builtin "getset_descriptor.__get__"))) &&
  (decide (PySem.W.takesIn K (.builtin "object.__class__") = some true) && decide (PySem.W.mroIn K (ga K x) (.type "object") = some true))))
theorem eccB_ok {K : PySem.W.Frag} {x : Str} (h : eccB K x = true) : ExcC K (ga K x) := by
  obtain ⟨h1, h⟩ := ba h
  obtain ⟨h2, h⟩ := ba h
  obtain ⟨h3, h⟩ := ba h
  obtain ⟨h4, h5⟩ := ba h
  have z := xfB_ok h1
  exact ⟨z.ga, z.gg, z.exC, z.hdC, eqO_ok h2, eqO_ok h3, of_decide_eq_true h4, of_decide_eq_true h5⟩
def xiB (K : PySem.W.Frag) (nm : Nat → Option Str) (r : ClsR) (l : List (Nat × Bool)) : Bool := l.all fun q => match nm q.1 with
  | some x => eccB K x && decide (PySem.W.kitOne K (.ref (ga K x)) (r.val K) = some q.2)
  | none => false
theorem xiB_ok {K : PySem.W.Frag} {mg : Str → Option Value} {nm : Nat → Option Str} {r : ClsR} {l : List (Nat × Bool)} (h : xiB K nm r l = true) : XiOk K (GxOf K mg nm) (lkT l) (r.val K) := fun c C b e hc => by
  have z := List.all_eq_true.mp h _ (lkT_mem e)
  dsimp only at z
  cases q : nm c with
  | none => rw [q] at z; cases z
  | some x =>
    rw [q] at z
    rw [gx_ct hc q]
    obtain ⟨z1, z2⟩ := ba z
    exact ⟨eccB_ok z1, of_decide_eq_true z2⟩
section
variable {X : Cx} {x qual : Str} {params : Arguments} {body : List Stmt} {scope : Scope} {dvs : List V} {kws : List (Str × V)} {f cc D c : Addr} {fd : FuncData} {file sf : Str} {ar : Arg}
theorem supD_of (F : FunS X.K x qual params body scope dvs kws f fd cc D c file) (hfn : X.env.func = some f) (hcode : X.env.code = .ref c) (har : (params.posonlyargs ++ params.args).head? = some ar) (hs : ar.arg = sf)
    (hfile : ((X.prog.main.file : Str) == file) = true) (htop : (X.prog.main.scope.names.lookup ("super" : Str)).isSome = false) (any : PySem.W.nsIn X.K cStatics "thirdparty.any" = some none) : SupD X f D sf := by
  obtain ⟨oc, od, dV, kV, doc, pm, an, ct, osl, e1, e2, _, _⟩ := F.ex
  obtain ⟨o, vs, tf, e3, e4, e5⟩ := F.file
  exact ⟨hfn, ⟨_, fd, ar, e2, rfl, by rw [e1]; exact har, hs⟩, ⟨c, o, vs, file, tf, hcode, e3, e4, e5, hfile⟩, htop, any⟩
end
theorem ex_body {X : Cx} {body : List Stmt} {f D : Addr} {par fld m : Str} {j1 : Nat} {p0 p1 p2 apos cpos spos q0 q1 q2 q3 : Pos} (S : SupD X f D "self") (hks : Gl X "super") (hm : X.mg "super" = none) (hkc : X.env.kindOf "__class__" = some .free) (hNc : X.N[2]? = some ("__class__" : Str)) (hvc : Vis X.env.scope "__class__")
    (hNs : X.N[0]? = some ("self" : Str)) (hvs : Vis X.env.scope "self") (hNp : X.N[1]? = some par) (hvp : Vis X.env.scope par) (hi : interactive X.env = false)
    (hst : starEach [.Constant (.str m) j1 p2] X.env = (false, eval (.Constant (.str m) j1 p2) X.env) :: starEach [] X.env) (hpl : (backTo cpos (starEach [] X.env)).any (·.1) = false)
    (hsw : swapsWith (.Call (.Attribute (.Call (.Name "super" p0) [] [] p1) "__init__" apos) [.Constant (.str m) j1 p2] [] cpos) none spos.line X.env = pure false)
    (ht : eval (.Call (.Attribute (.Call (.Name "super" p0) [] [] p1) "__init__" apos) [.Constant (.str m) j1 p2] [] cpos) X.env = (do
      let ov ← attributeBase (.Call (.Name "super" p0) [] [] p1) "__init__" X.env (eval (.Call (.Name "super" p0) [] [] p1) X.env)
      standAt apos.atName
      let (f, first) ← holding [ov] (getMethod ov "__init__" (pure false))
      callWith cpos f first (backTo cpos (starEach [.Constant (.str m) j1 p2] X.env)) []))
    (hs2 : swapsWith (.Name par q1) (some (.Attribute (.Name "self" q0) fld q2)) q3.line X.env = pure false) (hd : (par == ("__debug__" : Str)) = false) (hcd : (par == ("__classdict__" : Str)) = false) :
    PSsT X body [.Expr (.Call (.Attribute (.Call (.Name "super" p0) [] [] p1) "__init__" apos) [.Constant (.str m) j1 p2] [] cpos) spos, .Assign [.Attribute (.Name "self" q0) fld q2] (.Name par q1) q3] (tIni X D m fld) :=
  psst_cons (t1 := tSupX X 2 0 D (tCons (tC (.str m)) tNil)) (t2 := tOst X.K fld (tVar 0) (tVar 1)) (pst_superX (j := 2) (i := 0) (slf := "self") S hks hm hkc hNc hvc hNs hvs (by decide) (pa_cons pe_str pa_nil hst) hi hst hpl hsw ht) (pss_one (ps_ost (pe_var (i := 0) hNs hvs) (pe_var (i := 1) hNp hvp hd hcd) hs2))
end ML
end
section
namespace ML
open PySem L2
theorem L2R.negR {r : List Nat} {h : Hi} {a b : Res VI} (k : L2R RV2 r h a b) : L2R RV2 r h (negR a) (negR b) := by
  cases a with
  | err => trivial
  | ex c n s' =>
    obtain ⟨r', h', m, rfl, e, g, q⟩ := k
    exact ⟨r', h', m, rfl, e, g, q⟩
  | ok v s' =>
    obtain ⟨r', h', v', rfl, e, g, q⟩ := k
    cases q with
    | bl b => exact ⟨r', h', _, rfl, e, g, .bl (!b)⟩
    | _ => trivial
instance {ma mb : ME} {f : Op2} {cs : List Nat} {tbl : Nat → Option MF} [c : LTb tbl] [x : LE ma] [y : LE mb] [o : LOp f] : LE (eNeU cs tbl f ma mb) := ⟨fun r s h σ σ' g a => (x.run r s h σ σ' g a).bind fun r1 s1 h1 v v' e1 g1 q1 => (y.run _ _ _ _ _ g1 (a.mono e1)).bind fun r2 s2 h2 w w' e2 g2 q2 => by
  rw [ins2 g2 (q1.mono e2), ty2 g2 q2]
  cases z : insC v s2 with
  | none => exact .ofO (o.run _ _ _ _ _ _ _ g2 (q1.mono e2) q2)
  | some d =>
    dsimp only
    cases w0 : tbl d with
    | none => trivial
    | some u =>
      cases w1 : nfI cs (tyI w s2) with
      | false => trivial
      | true => exact ((c.run _ _ w0).run _ _ _ _ _ g2 (.cons (q1.mono e2) (.cons q2 .nil))).negR⟩
instance {c : Nat} {f : S} {ma : ME} [x : LE ma] : LS (sRaise c f ma) := ⟨fun r s h σ σ' g a => (x.run r s h σ σ' g a).bindS a fun r1 s1 h1 v v' e1 g1 q1 => by
  have e0 : Ex2 r1 h1 (r1 ++ [h1.length]) (h1 ++ [OI.xd [(f, v')]]) := ⟨⟨[h1.length], rfl, fun m hm => by rw [List.mem_singleton] at hm; omega⟩, by simp, fun m _ hlt => List.getElem?_append_left hlt⟩
  obtain ⟨g', e⟩ := g1.new (o := OI.xd [(f, v)]) (o' := OI.xd [(f, v')]) (.xd (.cons (q1.mono e0) .nil))
  exact ⟨_, _, _, _, rfl, e, g', (a.mono e1).mono e, g1.idx⟩⟩
class LE2 (n m : Nat) (e e' : ME) : Prop where
  run : ∀ r s h σ σ', r[n]? = some m → Ag2 r s h → AS2 r σ σ' → L2R RV2 r h (e σ s) (e' σ' h)
class LA2 (n m : Nat) (e e' : MA) : Prop where
  run : ∀ r s h σ σ', r[n]? = some m → Ag2 r s h → AS2 r σ σ' → L2R RVs2 r h (e σ s) (e' σ' h)
class LS2 (n m : Nat) (e e' : MS) : Prop where
  run : ∀ r s h σ σ', r[n]? = some m → Ag2 r s h → AS2 r σ σ' → L2S r h (e σ s) (e' σ' h)
theorem Ex2.at_ {r r' : List Nat} {h h' : Hi} {n m : Nat} (e : Ex2 r h r' h') (q : r[n]? = some m) : r'[n]? = some m := e.pre q
section
variable {n m c : Nat}
instance (priority := low) {e : ME} [x : LE e] : LE2 n m e e := ⟨fun r s h σ σ' _ g a => x.run r s h σ σ' g a⟩
instance {cs : List Nat} {f : S} : LE2 n m (eXf cs c n f) (eXf cs c m f) := ⟨fun r s h σ σ' q g a => by
  unfold eXf
  obtain ⟨o, o', z1, z2, z3⟩ := g.no q
  rw [z1, z2]
  cases z3 with
  | xd t =>
    cases cs.contains c with
    | false => trivial
    | true =>
      have k := getF2 (f := f) t
      dsimp only
      rename_i xs ys
      cases w : getF f xs with
      | none => trivial
      | some v =>
        rw [w] at k
        cases w2 : getF f ys with
        | none => rw [w2] at k; exact k.elim
        | some v' => rw [w2] at k; exact .ok g k
  | _ => cases cs.contains c <;> trivial⟩
instance {t : Nat → Option Bool} : LE2 n m (eXi t c n) (eXi t c m) := ⟨fun r s h σ σ' q g a => by
  unfold eXi
  obtain ⟨o, o', z1, z2, z3⟩ := g.no q
  rw [z1, z2]
  cases t c with
  | none => trivial
  | some b => cases z3 <;> first | exact .ok g (.bl b) | trivial⟩
instance : LA2 n m aNil aNil := ⟨fun r s h σ σ' q g a => .ok g .nil⟩
instance {a a' : ME} {b b' : MA} [x : LE2 n m a a'] [y : LA2 n m b b'] : LA2 n m (aCons a b) (aCons a' b') := ⟨fun r s h σ σ' q g a => (x.run r s h σ σ' q g a).bind fun r1 s1 h1 v v' e1 g1 q1 => (y.run _ _ _ _ _ (e1.at_ q) g1 (a.mono e1)).bind fun r2 s2 h2 w w' e2 g2 q2 => .ok g2 (.cons (q1.mono e2) q2)⟩
instance {b b' : MA} [y : LA2 n m b b'] : LE2 n m (eLst b) (eLst b') := ⟨fun r s h σ σ' q g a => (y.run _ _ _ _ _ q g a).bind fun r2 s2 h2 w w' e2 g2 q2 => by
  rw [← q2.length]
  split
  · exact .new g2 fun r' e => .lst (q2.mono e)
  · trivial⟩
instance {a a' : ME} [x : LE2 n m a a'] : LS2 n m (sRet a) (sRet a') := ⟨fun r s h σ σ' q g a => (x.run r s h σ σ' q g a).bindS a fun r1 s1 h1 v v' e1 g1 q1 => ⟨_, _, _, rfl, .refl, g1, q1⟩⟩
instance : LS2 n m sNx sNx := ⟨fun r s h σ σ' q g a => .nx g a⟩
instance {a a' : ME} {b b' : MS} {j : Nat} [x : LE2 n m a a'] [y : LS2 n m b b'] : LS2 n m (sSeq (sAsg a (gNm j)) b) (sSeq (sAsg a' (gNm j)) b') := ⟨fun r s h σ σ' q g a =>
  L2S.andThen ((x.run r s h σ σ' q g a).bindS a fun r1 s1 h1 v v' e1 g1 q1 => .nx g1 ((a.mono e1).set q1 j)) fun r1 s1 h1 t t' e1 g1 a1 => y.run _ _ _ _ _ (e1.at_ q) g1 a1⟩
end
theorem goneS2 {r : List Nat} {h : Hi} {i : Nat} {a b : RS} (k : L2S r h a b) : L2S r h (goneS i a) (goneS i b) := by
  cases a with
  | err => trivial
  | nx σ s' => obtain ⟨r2, h2, m, rfl, e2, g, a⟩ := k; exact ⟨r2, h2, _, rfl, e2, g, a.lose i⟩
  | bk σ s' => obtain ⟨r2, h2, m, rfl, e2, g, a⟩ := k; exact ⟨r2, h2, _, rfl, e2, g, a.lose i⟩
  | ct σ s' => obtain ⟨r2, h2, m, rfl, e2, g, a⟩ := k; exact ⟨r2, h2, _, rfl, e2, g, a.lose i⟩
  | rt σ s' => obtain ⟨r2, h2, m, rfl, e2, g, a⟩ := k; exact ⟨r2, h2, _, rfl, e2, g, a⟩
  | ex c n σ s' => trivial
class LHs (hs : List Hd) : Prop where
  run : ∀ c n m r s h σ σ', r[n]? = some m → Ag2 r s h → AS2 r σ σ' → L2S r h (runH hs c n σ s) (runH hs c m σ' h)
instance : LHs [] := ⟨fun c n m r s h σ σ' q g a => ⟨_, _, _, _, rfl, .refl, g, a, q⟩⟩
instance {mt : Nat → Option Bool} {i : Nat} {su : Nat → Nat → MS} {hs : List Hd} [x : ∀ c n m, LS2 n m (su c n) (su c m)] [y : LHs hs] : LHs ((mt, i, su) :: hs) := ⟨fun c n m r s h σ σ' q g a => by
  unfold runH
  cases mt c with
  | none => trivial
  | some b =>
    cases b with
    | false => exact y.run _ _ _ _ _ _ _ _ q g a
    | true =>
      dsimp only
      rw [← a.len]
      split
      · exact goneS2 ((x c n m).run _ _ _ _ _ q g (a.lose i))
      · trivial⟩
instance {body : MS} {hs : List Hd} [x : LS body] [y : LHs hs] : LS (sTry body hs) := ⟨fun r s h σ σ' g a => by
  have k := x.run r s h σ σ' g a
  unfold sTry
  cases z : body σ s with
  | err => trivial
  | nx σ1 s' => rw [z] at k; obtain ⟨r2, h2, m, e1, e2, g2, a2⟩ := k; rw [e1]; exact ⟨r2, h2, _, rfl, e2, g2, a2⟩
  | bk σ1 s' => rw [z] at k; obtain ⟨r2, h2, m, e1, e2, g2, a2⟩ := k; rw [e1]; exact ⟨r2, h2, _, rfl, e2, g2, a2⟩
  | ct σ1 s' => rw [z] at k; obtain ⟨r2, h2, m, e1, e2, g2, a2⟩ := k; rw [e1]; exact ⟨r2, h2, _, rfl, e2, g2, a2⟩
  | rt v s' => rw [z] at k; obtain ⟨r2, h2, m, e1, e2, g2, a2⟩ := k; rw [e1]; exact ⟨r2, h2, _, rfl, e2, g2, a2⟩
  | ex c n σ1 s' =>
    rw [z] at k
    obtain ⟨r2, h2, σ2, m, e1, e2, g2, a2, q⟩ := k
    rw [e1]
    exact (y.run c n m r2 s' h2 σ1 σ2 q g2 a2).ext e2⟩
end ML
end
section
namespace ML
open PySem L2
theorem L2R.lenR {r : List Nat} {h : Hi} {a b : Res VI} (k : L2R RV2 r h a b) : L2R RV2 r h (lenR a) (lenR b) := by
  cases a with
  | err => trivial
  | ex c n s' =>
    obtain ⟨r', h', m, rfl, e, g, q⟩ := k
    exact ⟨r', h', m, rfl, e, g, q⟩
  | ok v s' =>
    obtain ⟨r', h', v', rfl, e, g, q⟩ := k
    cases q with
    | int n =>
      have e1 : ∀ hh, ML.lenR (.ok (.int n) hh) = (match decide (0 ≤ n) && decide (n < 2 ^ 62) with | true => Res.ok (.int n) hh | false => Res.err) := fun _ => rfl
      rw [e1, e1]
      cases decide (0 ≤ n) && decide (n < 2 ^ 62) with
      | true => exact ⟨r', h', _, rfl, e, g, .int n⟩
      | false => trivial
    | _ => trivial
instance {ma : ME} {tbl : Nat → Option MF} [c : LTb tbl] [x : LE ma] [o : LOc cLen] : LE (eLenU tbl ma) := ⟨fun r s h σ σ' g a => (x.run r s h σ σ' g a).bind fun r1 s1 h1 v v' e1 g1 q1 => by
  rw [ins2 g1 q1]
  cases z : insC v s1 with
  | none => exact .ofO (o.run _ _ _ _ _ g1 (.cons q1 .nil))
  | some d =>
    dsimp only
    cases w0 : tbl d with
    | none => trivial
    | some u => exact ((c.run _ _ w0).run _ _ _ _ _ g1 (.cons q1 .nil)).lenR⟩
end ML
end
section
namespace ML
open PySem L2 PyProof.Rows
def sFldAug (cs : List Nat) (fn : S) (f : Op2) (o e : ME) : MS := fun σ h => (o σ h).bindS σ fun x h1 => match x with
  | .ref n => match h1[n]? with
    | some (.ins c fs) => match cs.contains c, getF fn fs with
      | true, some v => (e σ h1).bindS σ fun y h2 => match f v y h2 with
        | some (z, h3) => match h3[n]? with
          | some (.ins c' fs') => match cs.contains c' && (Nat.beq c' c && Nat.blt fs'.length 1000) with
            | true => .nx σ (h3.set n (.ins c' (setF fn z fs')))
            | false => .err
          | _ => .err
        | none => .err
      | _, _ => .err
    | _ => .err
  | _ => .err
section
variable {G : Gx} {W : WX} {X : Cx} {o e : Expr} {pos pos' : Pos} {mo me : ME}
end
section
variable {r : List Nat}
theorem intsI2 : ∀ {xs ys : List VI}, RVs2 r xs ys → intsI ys = intsI xs
  | _, _, .nil => rfl
  | _, _, .cons q t => by cases q <;> unfold intsI <;> first | rw [intsI2 t] | rfl
theorem rvs2_ints (l : List Int) : RVs2 r (l.map VI.int) (l.map VI.int) := by
  induction l with
  | nil => exact .nil
  | cons a b ih => exact .cons (.int a) ih
end
instance : LOc cSortK := ⟨fun r s h vs vs' g t => by
  unfold cSortK
  cases t with
  | nil => trivial
  | cons q t =>
    cases t with
    | cons _ _ => cases q <;> trivial
    | nil =>
      cases q with
      | tup l =>
        dsimp only
        rw [intsI2 l]
        split
        · exact .new g fun r' e => .lst (rvs2_ints _)
        · trivial
      | ref i =>
        obtain ⟨o, o', e1, e2, e3⟩ := g.no i
        dsimp only
        rw [e1, e2]
        cases e3 with
        | lst l =>
          dsimp only
          rw [intsI2 l]
          split
          · exact .new g fun r' e => .lst (rvs2_ints _)
          · trivial
        | scr l =>
          dsimp only
          rw [intsI2 l]
          split
          · exact .new g fun r' e => .lst (rvs2_ints _)
          · trivial
        | _ => trivial
      | _ => trivial⟩
end ML
namespace ML
open PySem L2
instance : LOp iAdd := ⟨fun r s h x y x' y' g a b => by
  unfold iAdd
  cases a <;> cases b <;> first | exact ⟨_, _, _, rfl, .refl, g, .int _⟩ | trivial⟩
instance : LOp iSub := ⟨fun r s h x y x' y' g a b => by
  unfold iSub
  cases a <;> cases b <;> first | exact ⟨_, _, _, rfl, .refl, g, .int _⟩ | trivial⟩
instance {cs : List Nat} {fn : S} {f : Op2} {mo me : ME} [x : LE mo] [o : LOp f] [y : LE me] : LS (sFldAug cs fn f mo me) := ⟨fun r s h σ σ' g a => (x.run r s h σ σ' g a).bindS a fun r1 s1 h1 v v' e1 g1 q1 => by
  cases q1 with
  | @ref n m i =>
    obtain ⟨ob, ob', z1, z2, z3⟩ := g1.no i
    dsimp only
    rw [z1, z2]
    cases z3 with
    | @ins c fs fs' t =>
      dsimp only
      cases cs.contains c with
      | false => trivial
      | true =>
        have k := getF2 (f := fn) t
        cases w : getF fn fs with
        | none => trivial
        | some u =>
          rw [w] at k
          cases w2 : getF fn fs' with
          | none => rw [w2] at k; exact k.elim
          | some u' =>
            rw [w2] at k
            dsimp only
            refine (y.run _ _ _ _ _ g1 (a.mono e1)).bindS (a.mono e1) fun r2 s2 h2 p p' e2 g2 q2 => ?_
            have kk := o.run _ _ _ _ _ _ _ g2 (k.mono e2) q2
            cases z5 : f u p s2 with
            | none => trivial
            | some zh =>
              obtain ⟨z, s3⟩ := zh
              rw [z5] at kk
              obtain ⟨r3, h3, z', e, e3, g3, q3⟩ := kk
              rw [e]
              dsimp only
              have i3 := e3.pre (e2.pre i)
              obtain ⟨o3, o3', y1, y2, y3⟩ := g3.no i3
              rw [y1, y2]
              cases y3 with
              | ins t3 =>
                dsimp only
                rw [t3.length]
                split
                · obtain ⟨aa, b⟩ := g3.wr y1 i3 (.ins (setF2 q3 t3))
                  exact ⟨_, _, _, rfl, e3.trans b, aa, (((a.mono e1).mono e2).mono e3).mono b⟩
                · trivial
              | _ => trivial
    | _ => trivial
  | _ => trivial⟩
end ML
end
section
namespace ML
open PySem L2
def turnsD (it : Itm) (t : Tgt) (vs : List Nat) (tt : MT) (mi1 : MI) (t1 : Tgt) (vs1 : List Nat) (tt1 : MT) (el : ME) (D : Nat) (σ : Sg) : Nat → Nat → Hi → Option Hi
  | 0, i, h => match it.nxt i h with
    | some none => some h
    | _ => none
  | k + 1, i, h => match it.nxt i h with
    | some none => some h
    | some (some x) => match t.put x (wipeM σ vs) with
      | some σ2 => match tt σ2 h with
        | .ok true h2 => match mi1 σ2 h2 with
          | .ok it1 h3 => match turnsC it1 t1 vs1 tt1 el D σ2 (it1.fuel h3) 0 h3 with
            | some h4 => turnsD it t vs tt mi1 t1 vs1 tt1 el D σ k (i + 1) h4
            | none => none
          | _ => none
        | .ok false h2 => turnsD it t vs tt mi1 t1 vs1 tt1 el D σ k (i + 1) h2
        | _ => none
      | none => none
    | none => none
def eLc2 (mi : MI) (t : Tgt) (vs : List Nat) (tt : MT) (mi1 : MI) (t1 : Tgt) (vs1 : List Nat) (tt1 : MT) (el : ME) : ME := fun σ h => (mi σ h).bind fun it h1 => match turnsD it t vs tt mi1 t1 vs1 tt1 el h1.length σ (it.fuel h1) 0 (h1 ++ [.lst []]) with
  | some h2 => .ok (.ref h1.length) h2
  | none => .err
section
variable {G : Gx} {W : WX} {X : Cx} {ρ ρ1 : List Addr} {H H1 : Hp} {h : Hi} {tg iter tg1 iter1 elt c c1 : Expr} {ifs : List Expr} {scope : Scope} {own : List (Str × Nat)} {vs1 : List Nat} {pos spos py : Pos} {mi mi1 : MI} {mt mt1 : MT} {ml : ME} {t t1 : Tgt} {i : Nat} {y : Str}
end
theorem turnsD2 {t t1 : Tgt} {vs vs1 : List Nat} {tt tt1 : MT} {el : ME} {mi1 : MI} [x : LT tt] [x1 : LT tt1] [y : LE el] [z : LI mi1] : ∀ (k i : Nat) (r : List Nat) (s h s' : Hi) (σ σ' : Sg) (a b : Itm) (D D' : Nat), Ag2 r s h → AS2 r σ σ' → RI2 r a b → r[D]? = some D' →
    turnsD a t vs tt mi1 t1 vs1 tt1 el D σ k i s = some s' → ∃ r' h', turnsD b t vs tt mi1 t1 vs1 tt1 el D' σ' k i h = some h' ∧ Ex2 r h r' h' ∧ Ag2 r' s' h'
  | 0, i, r, s, h, s', σ, σ', a, b, D, D', g, as, q, d, e => by
    have n := nxt2 g q i
    unfold turnsD at e ⊢
    cases z1 : a.nxt i s with
    | none => rw [z1] at e; cases e
    | some o =>
      rw [z1] at e n
      cases o with
      | some _ => cases e
      | none => cases z2 : b.nxt i h with
        | none => rw [z2] at n; exact n.elim
        | some o' => cases o' with
          | some _ => rw [z2] at n; exact n.elim
          | none => cases e; exact ⟨r, h, rfl, .refl, g⟩
  | k + 1, i, r, s, h, s', σ, σ', a, b, D, D', g, as, q, d, e => by
    have n := nxt2 g q i
    unfold turnsD at e ⊢
    cases z1 : a.nxt i s with
    | none => rw [z1] at e; cases e
    | some o =>
      rw [z1] at e n
      cases z2 : b.nxt i h with
      | none => rw [z2] at n; exact n.elim
      | some o' =>
        rw [z2] at n
        cases o with
        | none => cases o' with
          | some _ => exact n.elim
          | none => cases e; exact ⟨r, h, rfl, .refl, g⟩
        | some v => cases o' with
          | none => exact n.elim
          | some v' =>
            dsimp only at e ⊢
            cases z3 : t.put v (wipeM σ vs) with
            | none => rw [z3] at e; cases e
            | some τ =>
              obtain ⟨τ', w1, w2⟩ := put2 t n (wipe2 as vs) z3
              rw [z3] at e
              rw [w1]
              dsimp only at e ⊢
              have tk := x.run _ _ _ _ _ g w2
              cases z4 : tt τ s with
              | err => rw [z4] at e; cases e
              | ex _ _ _ => rw [z4] at e; cases e
              | ok c s2 =>
                rw [z4] at tk e
                obtain ⟨r2, h2, c', k1, k2, k3, k4⟩ := tk
                subst k4
                rw [k1]
                cases c with
                | false =>
                  dsimp only at e ⊢
                  obtain ⟨r3, h3, j1, j2, j3⟩ := turnsD2 k (i + 1) _ _ _ _ _ _ _ _ _ _ k3 (as.mono k2) (q.mono k2) (k2.pre d) e
                  exact ⟨r3, h3, j1, k2.trans j2, j3⟩
                | true =>
                  dsimp only at e ⊢
                  have ek := z.run _ _ _ _ _ k3 (w2.mono k2)
                  cases z5 : mi1 τ s2 with
                  | err => rw [z5] at e; cases e
                  | ex _ _ _ => rw [z5] at e; cases e
                  | ok it1 s3 =>
                    rw [z5] at ek e
                    obtain ⟨r3, h3, it1', j1, j2, j3, j4⟩ := ek
                    rw [j1]
                    dsimp only at e ⊢
                    rw [fuel2 j3 j4]
                    cases z6 : turnsC it1 t1 vs1 tt1 el D τ (it1.fuel s3) 0 s3 with
                    | none => rw [z6] at e; cases e
                    | some s4 =>
                      rw [z6] at e
                      obtain ⟨r4, h4, m1, m2, m3⟩ := turnsC2 _ _ _ _ _ _ _ _ _ _ _ _ j3 ((w2.mono k2).mono j2) j4 (j2.pre (k2.pre d)) z6
                      rw [m1]
                      dsimp only at e ⊢
                      have ee := (k2.trans j2).trans m2
                      obtain ⟨r5, h5, n1, n2, n3⟩ := turnsD2 k (i + 1) _ _ _ _ _ _ _ _ _ _ m3 (as.mono ee) (q.mono ee) (ee.pre d) e
                      exact ⟨r5, h5, n1, ee.trans n2, n3⟩
instance {mi mi1 : MI} {t t1 : Tgt} {vs vs1 : List Nat} {tt tt1 : MT} {el : ME} [z : LI mi] [x : LT tt] [z1 : LI mi1] [x1 : LT tt1] [y : LE el] : LE (eLc2 mi t vs tt mi1 t1 vs1 tt1 el) := ⟨fun r s h σ σ' g a => (z.run r s h σ σ' g a).bind fun r1 s1 h1 v v' e1 g1 q1 => by
  obtain ⟨g2, e2⟩ := g1.new (o := .lst []) (o' := .lst []) (.lst .nil)
  rw [fuel2 g1 q1]
  cases w : turnsD v t vs tt mi1 t1 vs1 tt1 el s1.length σ (v.fuel s1) 0 (s1 ++ [.lst []]) with
  | none => trivial
  | some s2 =>
    obtain ⟨r3, h3, j1, j2, j3⟩ := turnsD2 _ _ _ _ _ _ _ _ _ _ _ _ g2 ((a.mono e1).mono e2) (q1.mono e2) g1.idx w
    rw [j1]
    exact ⟨r3, h3, _, rfl, e2.trans j2, j3, .ref (j2.pre g1.idx)⟩⟩
end ML
end
section
namespace ML
open PySem PySem.Spec PyProof.Rows L2 He
def lkF : List (S × MF) → S → Option MF
  | [], _ => none
  | (k, g) :: r, s => match decide (k = s) with
    | true => some g
    | false => lkF r s
def eCallL (i : Nat) (tbl : S → Option MF) (ma : MA) : ME := fun σ h => match σ[i]? with
  | some (some (.glo x)) => match tbl x with
    | some g => (ma σ h).bind fun vs h1 => g vs h1
    | none => .err
  | _ => .err
section
variable {G : Gx} {W : WX} {X : Cx} {x : Str} {p pos : Pos} {e : Expr} {es : List Expr} {ma : MA} {i : Nat} {tbl : S → Option MF}
end
class LTf (tbl : S → Option MF) : Prop where
  run : ∀ x g, tbl x = some g → LF g
instance : LTf (lkF []) := ⟨fun _ _ h => nomatch h⟩
instance {x : S} {f : MF} {r : List (S × MF)} [a : LF f] [b : LTf (lkF r)] : LTf (lkF ((x, f) :: r)) := ⟨fun y g h => by
  unfold lkF at h
  cases q : decide (x = y) with
  | true => rw [q] at h; cases h; exact a
  | false => rw [q] at h; exact b.run y g h⟩
instance {i : Nat} {tbl : S → Option MF} {ma : MA} [c : LTf tbl] [x : LA ma] : LE (eCallL i tbl ma) := ⟨fun r s h σ σ' g a => by
  unfold eCallL
  cases z : σ[i]? with
  | none => trivial
  | some o =>
    cases o with
    | none => trivial
    | some v =>
      obtain ⟨w, k1, k2⟩ := a.at_ i v z
      rw [k1]
      cases k2 with
      | glo y =>
        dsimp only
        cases q : tbl y with
        | none => trivial
        | some f => exact (x.run r s h σ σ' g a).bind fun r1 s1 h1 vs vs' e1 g1 q1 => (c.run y f q).run _ _ _ _ _ g1 q1
      | _ => trivial⟩
end ML
end
section
set_option maxHeartbeats 400000
namespace ML
open PySem L2
section
variable {α β : Type} {σ σ1 : Sg} {h h1 : Hi}
end
end ML
end
section
namespace GQ
open PySem
open Sem (wp)
def bad : GenState → GenState
  | .suspended _ l c p fs cl => .suspended (fun _ => .unsupported "") l c p fs cl
  | x => x
def isSus : GenState → Bool
  | .suspended .. => true
  | _ => false
theorem seen_bad (x : GenState) : (bad x).seen = x.seen := by cases x <;> rfl
theorem bare_bad (x : GenState) : (bad x).bare = x.bare := by cases x <;> rfl
def Cln (x : GenState) : Prop := match x with
  | .suspended _ _ _ _ fs _ => splitAtGen fs = none
  | _ => True
def PR (x y : GenState) : Prop := (x = y ∧ Cln x) ∨ (isSus y = true ∧ x = bad y)
theorem PR.seen {x y : GenState} (h : PR x y) : x.seen = y.seen := by
  rcases h with ⟨rfl, _⟩ | ⟨_, rfl⟩
  · rfl
  · exact seen_bad y
theorem PR.bare {x y : GenState} (h : PR x y) : x.bare = y.bare := by
  rcases h with ⟨rfl, _⟩ | ⟨_, rfl⟩
  · rfl
  · exact bare_bad y
structure GR (g : Nat) (st : GenState) (a b : Array GenState) : Prop where
  size : a.size = b.size
  at_ : ∀ (i : Nat) (x : GenState), a[i]? = some x → ∃ y, b[i]? = some y ∧ PR x y
  l : a[g]? = some (bad st)
  r : b[g]? = some st
variable {g : Nat} {st : GenState} {a b : Array GenState}
theorem GR.push (h : GR g st a b) (c : Code) : GR g st (a.push (.fresh c)) (b.push (.fresh c)) where
  size := by rw [Array.size_push, Array.size_push, h.size]
  at_ := fun i x e => by
    rw [Array.getElem?_push] at e
    by_cases hi : i = a.size
    · rw [if_pos hi] at e
      cases e
      exact ⟨_, by rw [Array.getElem?_push, if_pos (by rw [hi, h.size])], .inl ⟨rfl, trivial⟩⟩
    · rw [if_neg hi] at e
      obtain ⟨y, e2, r⟩ := h.at_ i x e
      exact ⟨y, by rw [Array.getElem?_push, if_neg (by rw [← h.size]; exact hi)]; exact e2, r⟩
  l := by
    have := h.l
    rw [Array.getElem?_push, if_neg]
    · exact this
    · intro z
      obtain ⟨hh, _⟩ := Array.getElem?_eq_some_iff.mp this
      omega
  r := by
    have := h.r
    rw [Array.getElem?_push, if_neg]
    · exact this
    · intro z
      obtain ⟨hh, _⟩ := Array.getElem?_eq_some_iff.mp this
      omega
theorem GR.set (h : GR g st a b) {i : Nat} {x : GenState} (hi : i ≠ g) (hx : Cln x) : GR g st (a.setIfInBounds i x) (b.setIfInBounds i x) where
  size := by rw [Array.size_setIfInBounds, Array.size_setIfInBounds, h.size]
  at_ := fun j y e => by
    rw [Array.getElem?_setIfInBounds] at e
    by_cases hj : i = j
    · rw [if_pos hj] at e
      by_cases hs : i < a.size
      · rw [if_pos hs] at e
        cases e
        exact ⟨x, by rw [Array.getElem?_setIfInBounds, if_pos hj, if_pos (by rw [← h.size]; exact hs)], .inl ⟨rfl, hx⟩⟩
      · rw [if_neg hs] at e; cases e
    · rw [if_neg hj] at e
      obtain ⟨z, e2, r⟩ := h.at_ j y e
      exact ⟨z, by rw [Array.getElem?_setIfInBounds, if_neg hj]; exact e2, r⟩
  l := by rw [Array.getElem?_setIfInBounds, if_neg hi]; exact h.l
  r := by rw [Array.getElem?_setIfInBounds, if_neg hi]; exact h.r
theorem splitApp : ∀ {x y : List Frame}, splitAtGen x = none → splitAtGen y = none → splitAtGen (x ++ y) = none
  | [], _, _, h => h
  | .gen .. :: _, _, h, _ => by cases h
  | .ret _ _ _ _ _ _ _ :: x, y, e, h => by
    have e2 : splitAtGen x = none := by
      have : (splitAtGen x).map _ = none := e
      cases q : splitAtGen x with
      | none => rfl
      | some z => rw [q] at this; cases this
    show (splitAtGen (x ++ y)).map _ = none
    rw [splitApp e2 h]
    rfl
theorem splitTail {k h g l c p kp} {x : List Frame} (e : splitAtGen (.ret k h g l c p kp :: x) = none) : splitAtGen x = none := by
  have : (splitAtGen x).map _ = none := e
  cases q : splitAtGen x with
  | none => rfl
  | some z => rw [q] at this; cases this
theorem noRun {M : Model} {Γ : Ctx} {p : Pos} {t : Sem PySem.Fin} {fs : List Frame} {s : Shared} {e : End} {s' : Shared} {w : String} (h : Runs M Γ p t fs s e s') : t ≠ .unsupported w := by
  induction h <;> first | (intro z; cases z; done) | assumption
def CleanE : End → Prop
  | .ret _ => True
  | .susp _ _ _ _ _ _ fs => splitAtGen fs = none
theorem cln_end {e : End} (h : CleanE e) : Cln e.genState := by
  cases e with
  | ret _ => trivial
  | susp v g l k c p fs => exact h
theorem GR.plain (h : GR g st a b) (hs : isSus st = true) {i : Nat} {x : GenState} (e : a[i]? = some x) (hx : isSus x = false) : b[i]? = some x ∧ i ≠ g := by
  obtain ⟨y, e2, r⟩ := h.at_ i x e
  refine ⟨?_, fun z => ?_⟩
  · rcases r with ⟨rfl, _⟩ | ⟨hy, rfl⟩
    · exact e2
    · cases y <;> first | (cases hy; done) | cases hx
  · subst z
    rw [h.l] at e
    cases e
    cases st <;> first | (cases hs; done) | cases hx
theorem GR.woke {M : Model} {Γ : Ctx} {p : Pos} {r : Resume} {s : Shared} {e : End} {s' : Shared} (h : GR g st a b) (hs : isSus st = true) {i : Nat} {k l c q fs cl} (e1 : a[i]? = some (.suspended k l c q fs cl)) (hr : Runs M Γ p (k r) fs s e s') :
    b[i]? = some (.suspended k l c q fs cl) ∧ i ≠ g ∧ splitAtGen fs = none := by
  have nb : ∀ y, isSus y = true → GenState.suspended k l c q fs cl ≠ bad y := fun y hy z => by
    cases y with
    | suspended k2 l2 c2 q2 fs2 cl2 =>
      cases z
      exact noRun hr rfl
    | _ => cases hy
  obtain ⟨y, e2, rr⟩ := h.at_ i _ e1
  rcases rr with ⟨rfl, hc⟩ | ⟨hy, z⟩
  · refine ⟨e2, fun z => ?_, hc⟩
    subst z
    rw [h.l] at e1
    exact nb st hs (Option.some.inj e1).symm
  · exact absurd z (nb y hy)
theorem runs_sim {M : Model} {Γ : Ctx} {p : Pos} {t : Sem PySem.Fin} {fs : List Frame} {s : Shared} {e : End} {s' : Shared} (hs : isSus st = true) (h : Runs M Γ p t fs s e s') :
    splitAtGen fs = none → ∀ b, GR g st s.gens b → ∃ b', GR g st s'.gens b' ∧ CleanE e ∧ Runs M Γ p t fs { s with gens := b } e { s' with gens := b' } := by
  induction h with
  | done => exact fun _ b hb => ⟨b, hb, trivial, .done⟩
  | raise => exact fun _ b hb => ⟨b, hb, trivial, .raise⟩
  | again hq _ ih => exact fun hf b hb => let ⟨b', h1, h2, h3⟩ := ih hf b hb; ⟨b', h1, h2, .again hq h3⟩
  | rule _ ih => exact fun hf b hb => let ⟨b', h1, h2, h3⟩ := ih hf b hb; ⟨b', h1, h2, .rule h3⟩
  | «at» _ ih => exact fun hf b hb => let ⟨b', h1, h2, h3⟩ := ih hf b hb; ⟨b', h1, h2, .at h3⟩
  | load ho _ ih => exact fun hf b hb => let ⟨b', h1, h2, h3⟩ := ih hf b hb; ⟨b', h1, h2, .load ho h3⟩
  | update ho _ ih => exact fun hf b hb => let ⟨b', h1, h2, h3⟩ := ih hf b hb; ⟨b', h1, h2, .update ho h3⟩
  | loadIfAlive _ ih => exact fun hf b hb => let ⟨b', h1, h2, h3⟩ := ih hf b hb; ⟨b', h1, h2, .loadIfAlive h3⟩
  | point _ ih => exact fun hf b hb => let ⟨b', h1, h2, h3⟩ := ih hf b hb; ⟨b', h1, h2, .point h3⟩
  | alloc _ ih => exact fun hf b hb => let ⟨b', h1, h2, h3⟩ := ih hf b hb; ⟨b', h1, h2, .alloc h3⟩
  | fresh _ ih => exact fun hf b hb => let ⟨b', h1, h2, h3⟩ := ih hf b hb; ⟨b', h1, h2, .fresh h3⟩
  | ask _ ih => exact fun hf b hb => let ⟨b', h1, h2, h3⟩ := ih hf b hb; ⟨b', h1, h2, .ask h3⟩
  | choose hn _ ih => exact fun hf b hb => let ⟨b', h1, h2, h3⟩ := ih hf b hb; ⟨b', h1, h2, .choose hn h3⟩
  | os _ ih => exact fun hf b hb => let ⟨b', h1, h2, h3⟩ := ih hf b hb; ⟨b', h1, h2, .os h3⟩
  | handled _ ih => exact fun hf b hb => let ⟨b', h1, h2, h3⟩ := ih hf b hb; ⟨b', h1, h2, .handled h3⟩
  | stack _ ih => exact fun hf b hb => let ⟨b', h1, h2, h3⟩ := ih hf b hb; ⟨b', h1, h2, .stack h3⟩
  | thread _ ih => exact fun hf b hb => let ⟨b', h1, h2, h3⟩ := ih hf b hb; ⟨b', h1, h2, .thread h3⟩
  | genState hg _ ih => 
      intro hf b hb
      obtain ⟨y, e2, r⟩ := hb.at_ _ _ hg
      obtain ⟨b', h1, h2, h3⟩ := ih hf b hb
      exact ⟨b', h1, h2, .genState e2 (by rw [← r.seen]; exact h3)⟩
  | newGen _ ih => 
      intro hf b hb
      obtain ⟨b', h1, h2, h3⟩ := ih hf (b.push (.fresh _)) (hb.push _)
      refine ⟨b', h1, h2, .newGen ?_⟩
      rename_i k _ _ _ _ _
      show Runs _ _ _ (k b.size) _ _ _ _
      rw [← hb.size]
      exact h3
  | call _ _ ih1 ih2 => 
      intro hf b hb
      obtain ⟨b1, h1, _, h3⟩ := ih1 rfl b hb
      obtain ⟨b2, k1, k2, k3⟩ := ih2 hf b1 h1
      exact ⟨b2, k1, k2, .call h3 k3⟩
  | callSusp _ ih => 
      intro hf b hb
      obtain ⟨b1, h1, h2, h3⟩ := ih rfl b hb
      exact ⟨b1, h1, splitApp h2 rfl, .callSusp h3⟩
  | yield => exact fun _ b hb => ⟨b, hb, rfl, .yield⟩
  | resumeFresh hg _ hq _ ih1 ih2 => 
      intro hf b hb
      obtain ⟨e2, ng⟩ := hb.plain hs hg rfl
      obtain ⟨b1, h1, h2, h3⟩ := ih1 rfl _ (hb.set (x := .running) ng trivial)
      obtain ⟨b2, k1, k2, k3⟩ := ih2 hf _ (h1.set ng (cln_end h2))
      exact ⟨b2, k1, k2, .resumeFresh e2 h3 hq k3⟩
  | resumeSuspended hg hr hq _ ih1 ih2 => 
      intro hf b hb
      obtain ⟨e2, ng, hc⟩ := hb.woke hs hg hr
      obtain ⟨b1, h1, h2, h3⟩ := ih1 hc _ (hb.set (x := .running) ng trivial)
      obtain ⟨b2, k1, k2, k3⟩ := ih2 hf _ (h1.set ng (cln_end h2))
      exact ⟨b2, k1, k2, .resumeSuspended e2 h3 hq k3⟩
  | resumeJustStarted hg hv _ ih => 
      intro hf b hb
      obtain ⟨e2, ng⟩ := hb.plain hs hg rfl
      obtain ⟨b', h1, h2, h3⟩ := ih hf b hb
      exact ⟨b', h1, h2, .resumeJustStarted e2 hv h3⟩
  | resumeThrowFresh hg _ ih => 
      intro hf b hb
      obtain ⟨e2, ng⟩ := hb.plain hs hg rfl
      obtain ⟨b', h1, h2, h3⟩ := ih hf _ (hb.set (x := .finished) ng trivial)
      exact ⟨b', h1, h2, .resumeThrowFresh e2 h3⟩
  | resumeRunning hg _ ih => 
      intro hf b hb
      obtain ⟨e2, ng⟩ := hb.plain hs hg rfl
      obtain ⟨b', h1, h2, h3⟩ := ih hf b hb
      exact ⟨b', h1, h2, .resumeRunning e2 h3⟩
  | resumeFinished hg _ ih => 
      intro hf b hb
      obtain ⟨e2, ng⟩ := hb.plain hs hg rfl
      obtain ⟨b', h1, h2, h3⟩ := ih hf b hb
      exact ⟨b', h1, h2, .resumeFinished e2 h3⟩
  | segRet _ _ ih1 ih2 => 
      intro hf b hb
      obtain ⟨b1, h1, _, h3⟩ := ih1 rfl b hb
      obtain ⟨b2, k1, k2, k3⟩ := ih2 (splitTail hf) b1 h1
      exact ⟨b2, k1, k2, .segRet h3 k3⟩
  | segGen _ _ _ _ => exact fun hf => by cases hf
  | segSuspOut hsp _ ih => 
      intro hf b hb
      obtain ⟨b1, h1, h2, h3⟩ := ih rfl b hb
      exact ⟨b1, h1, splitApp h2 hf, .segSuspOut hsp h3⟩
  | segSuspGen hsp _ _ _ _ _ => exact fun hf => by rw [hf] at hsp; cases hsp
theorem wakes_sim {M : Model} {Γ : Ctx} {p : Pos} {i : Nat} {r : Resume} {s : Shared} {res : GenResult} {s' : Shared} (hs : isSus st = true) (h : Wakes M Γ p i r s res s') (hb : GR g st s.gens b) :
    ∃ b', GR g st s'.gens b' ∧ Wakes M Γ p i r { s with gens := b } res { s' with gens := b' } := by
  unfold Wakes at h
  split at h
  · exact h.elim
  · rename_i c hg
    obtain ⟨e2, ng⟩ := hb.plain hs hg rfl
    split at h
    · obtain ⟨e₁, s₁, hr, hq, hres, rfl⟩ := h
      obtain ⟨b1, h1, h2, h3⟩ := runs_sim hs hr rfl _ (hb.set (x := .running) ng trivial)
      refine ⟨_, h1.set ng (cln_end h2), ?_⟩
      unfold Wakes
      rw [show ({ s with gens := b } : Shared).gens[i]? = some (.fresh c) from e2]
      exact ⟨e₁, _, h3, hq, hres, rfl⟩
    · obtain ⟨hres, rfl⟩ := h
      refine ⟨b, hb, ?_⟩
      unfold Wakes
      rw [show ({ s' with gens := b } : Shared).gens[i]? = some (.fresh c) from e2]
      rename_i v hne
      cases v <;> first | exact ⟨hres, rfl⟩ | exact absurd rfl hne
    · obtain ⟨hres, rfl⟩ := h
      refine ⟨_, hb.set (x := .finished) ng trivial, ?_⟩
      unfold Wakes
      rw [show ({ s with gens := b } : Shared).gens[i]? = some (.fresh c) from e2]
      exact ⟨hres, rfl⟩
  · rename_i hg
    obtain ⟨e₁, s₁, hr, hq, hres, rfl⟩ := h
    obtain ⟨e2, ng, hc⟩ := hb.woke hs hg hr
    obtain ⟨b1, h1, h2, h3⟩ := runs_sim hs hr hc _ (hb.set (x := .running) ng trivial)
    refine ⟨_, h1.set ng (cln_end h2), ?_⟩
    unfold Wakes
    rw [show ({ s with gens := b } : Shared).gens[i]? = _ from e2]
    exact ⟨e₁, _, h3, hq, hres, rfl⟩
  · rename_i hg
    obtain ⟨e2, ng⟩ := hb.plain hs hg rfl
    obtain ⟨hres, rfl⟩ := h
    refine ⟨b, hb, ?_⟩
    unfold Wakes
    rw [show ({ s' with gens := b } : Shared).gens[i]? = _ from e2]
    exact ⟨hres, rfl⟩
  · rename_i hg
    obtain ⟨e2, ng⟩ := hb.plain hs hg rfl
    obtain ⟨hres, rfl⟩ := h
    refine ⟨b, hb, ?_⟩
    unfold Wakes
    rw [show ({ s' with gens := b } : Shared).gens[i]? = _ from e2]
    exact ⟨hres, rfl⟩
def Via {α : Type} (g : Nat) (st : GenState) (Q : α → Pos → Shared → Prop) (x : α) (p : Pos) (s : Shared) : Prop := ∃ a, GR g st a s.gens ∧ Q x p { s with gens := a }
theorem wp_sim {α : Type} {M : Model} {Γ : Ctx} (hs : isSus st = true) (t : Sem α) : ∀ (Q : α → Pos → Shared → Prop) (E : Value → Pos → Shared → Prop) (p : Pos) (s : Shared) (b : Array GenState), GR g st s.gens b → wp M Γ t Q E p s → wp M Γ t (Via g st Q) (Via g st E) p { s with gens := b } := by
  induction t with
  | pure x => intro Q E p s b hb h; exact ⟨_, hb, h⟩
  | raise e => intro Q E p s b hb h; exact ⟨_, hb, h⟩
  | unsupported _ => intro Q E p s b _ h; exact h
  | finish _ => intro Q E p s b _ h; exact h
  | rule _ k ih => intro Q E p s b hb h; exact ih () Q E p s b hb h
  | «at» p' k ih => intro Q E p s b hb h; exact ih () Q E p' s b hb h
  | load a _ k ih => intro Q E p s b hb h; obtain ⟨o, ho, h⟩ := h; exact ⟨o, ho, ih o Q E p s b hb h⟩
  | update a _ f k ih => intro Q E p s b hb h; exact ⟨h.1, ih () Q E p { s with heap := s.heap.update a f } b hb h.2⟩
  | loadIfAlive a k ih => intro Q E p s b hb h; exact ih _ Q E p s b hb h
  | point _ k ih => intro Q E p s b hb h; exact ih () Q E p s b hb h
  | register _ _ => intro Q E p s b _ h; exact h
  | alloc o k ih => intro Q E p s b hb h; exact ih _ Q E p { s with heap := s.heap.push o } b hb h
  | fresh k ih => intro Q E p s b hb h; exact ih _ Q E p { s with toks := s.toks + 1 } b hb h
  | ask k ih => intro Q E p s b hb h; exact ih _ Q E p s b hb h
  | choose src m k ih => intro Q E p s b hb h; exact ⟨h.1, ih _ Q E p { s with drawn := s.drawn.bump src } b hb h.2⟩
  | os q _ k ih => intro Q E p s b hb h; exact ih _ Q E p { s with os := (Os.step s.os q).1 } b hb h
  | call c hd _ _ k ih =>
    intro Q E p s b hb h
    obtain ⟨r, s', hr, h⟩ := h
    obtain ⟨b1, h1, _, h3⟩ := runs_sim hs hr rfl b hb
    exact ⟨r, _, h3, ih r Q E p s' b1 h1 h⟩
  | handled own k ih => intro Q E p s b hb h; exact ih _ Q E p s b hb h
  | genState i k ih =>
    intro Q E p s b hb h
    obtain ⟨x, hg, h⟩ := h
    obtain ⟨y, e2, r⟩ := hb.at_ _ _ hg
    refine ⟨y, e2, ?_⟩
    rw [← r.seen]
    exact ih _ Q E p s b hb h
  | newGen c k ih =>
    intro Q E p s b hb h
    have := ih s.gens.size Q E p { s with gens := s.gens.push (.fresh c) } (b.push (.fresh c)) (hb.push c) h
    show wp M Γ (k b.size) _ _ _ _
    rw [← hb.size]
    exact this
  | resume i r _ k ih =>
    intro Q E p s b hb h
    obtain ⟨res, s', hw, h⟩ := h
    obtain ⟨b1, h1, h2⟩ := wakes_sim hs hw hb
    exact ⟨res, _, h2, ih res Q E p s' b1 h1 h⟩
  | yield _ _ _ _ => intro Q E p s b _ h; exact h
  | stack k ih => intro Q E p s b hb h; exact ih _ Q E p s b hb h
  | fork _ _ => intro Q E p s b _ h; exact h
  | thread k ih => intro Q E p s b hb h; exact ih _ Q E p s b hb h
  | await _ _ _ _ _ => intro Q E p s b _ h; exact h
def ViaS {α : Type} (g : Nat) (st : GenState) (Q : α → Shared → Prop) (x : α) (s : Shared) : Prop := ∃ a, GR g st a s.gens ∧ Q x { s with gens := a }
theorem wpAny_sim {α : Type} {M : Model} {A : Around} {t : Sem α} {Q : α → Shared → Prop} {E : Value → Shared → Prop} {s : Shared} (hs : isSus st = true) (hb : GR g st a s.gens) (h : wpAny M A t Q E { s with gens := a }) : wpAny M A t (ViaS g st Q) (ViaS g st E) s :=
  fun Γ p hΓ => wp_sim hs t _ _ p { s with gens := a } s.gens hb (h Γ p hΓ)
def badAll (b : Array GenState) : Array GenState := b.map bad
theorem gr_bad (hs : isSus st = true) (h : b[g]? = some st) : GR g st (badAll b) b where
  size := by unfold badAll; rw [Array.size_map]
  at_ := fun i x e => by
    unfold badAll at e
    rw [Array.getElem?_map] at e
    cases q : b[i]? with
    | none => rw [q] at e; cases e
    | some y =>
      rw [q] at e
      cases e
      refine ⟨y, rfl, ?_⟩
      cases q2 : isSus y with
      | true => exact .inr ⟨q2, rfl⟩
      | false =>
        refine .inl ⟨?_, ?_⟩
        · cases y <;> first | rfl | cases q2
        · cases y <;> first | trivial | cases q2
  l := by unfold badAll; rw [Array.getElem?_map, h]; rfl
  r := h
theorem GR.allL (h : GR g st a b) (hb : ∀ y ∈ b, y.bare = true) : ∀ x ∈ a, x.bare = true := fun x hx => by
  obtain ⟨i, hi, e⟩ := Array.mem_iff_getElem.mp hx
  obtain ⟨y, e2, r⟩ := h.at_ i x (by rw [Array.getElem?_eq_getElem hi, e])
  rw [r.bare]
  exact hb y (Array.mem_of_getElem? e2)
theorem GR.allR (h : GR g st a b) (ha : ∀ y ∈ a, y.bare = true) : ∀ x ∈ b, x.bare = true := fun y hy => by
  obtain ⟨i, hi, e⟩ := Array.mem_iff_getElem.mp hy
  have hi2 : i < a.size := by rw [h.size]; exact hi
  obtain ⟨z, e2, r⟩ := h.at_ i _ (Array.getElem?_eq_getElem hi2)
  rw [Array.getElem?_eq_getElem hi, e] at e2
  cases e2
  rw [← r.bare]
  exact ha _ (Array.getElem_mem hi2)
end GQ
end
section
namespace GQ
open PySem PySem.Spec PyProof.Rows L2 GenW
def cut (h : Heap) (n : Nat) : Heap := { h with objs := h.objs.extract 0 n }
theorem cut_size (h : Heap) (n : Nat) : (cut h n).objs.size = min n h.objs.size := by
  unfold cut
  simp
theorem cut_get {h : Heap} {n b : Nat} (hb : b < n) : (cut h n).get? b = h.get? b := by
  unfold cut Heap.get?
  dsimp only
  rw [show (h.objs.extract 0 n)[b]? = h.objs[b]? from by
    rw [Array.getElem?_extract]
    simp
    omega]
theorem cut_none {h : Heap} {n b : Nat} (hb : n ≤ b) : (cut h n).get? b = none := Heap.get?_none_of_le (by rw [cut_size]; omega)
theorem cut_some {h : Heap} {n b : Nat} {o : Obj} (e : (cut h n).get? b = some o) : b < n ∧ h.get? b = some o := by
  by_cases hb : b < n
  · exact ⟨hb, by rw [← cut_get hb]; exact e⟩
  · rw [cut_none (Nat.le_of_not_lt hb)] at e
    cases e
def past (h : Heap) (n : Nat) : List Addr := (List.range h.objs.size).filter fun b => decide (n ≤ b)
theorem mem_past {h : Heap} {n b : Nat} : b ∈ past h n ↔ b < h.objs.size ∧ n ≤ b := by
  unfold past
  rw [List.mem_filter, List.mem_range]
  simp
theorem un_cut {fs : List Addr} {H H' : Hp} {h h' : Heap} {n : Nat} (u : Un fs [] H H' (cut h n) h') : Un fs (past h n) H H' h h' := by
  have low : ∀ (b : Addr) (o : Obj), h.get? b = some o → b ∉ past h n → (cut h n).get? b = some o := fun b o e hb => by
    have hlt := Heap.lt_size e
    rw [cut_get (Nat.lt_of_not_le fun z => hb (mem_past.mpr ⟨hlt, z⟩))]
    exact e
  have no : ∀ b : Addr, b ∉ ([] : List Addr) := fun b z => by cases z
  exact ⟨fun b o e n hf hx => u.keep b o (low b o e hx) n hf (no b), fun b o e n hf hx => u.slot b o (low b o e hx) n hf (no b), fun b o e n hx => u.free b o (low b o e hx) n (no b), fun b o e hx => u.there b o (low b o e hx) (no b), u.tups, u.frzs, u.tbls⟩
section
variable {X : Cx} {pins ip : List (Addr × Obj)} {σ : L2.St} {H H' : Hp} {s s' : Shared}
structure Old (X : Cx) (pins : List (Addr × Obj)) (n : Nat) : Prop where
  s0 : X.s_0.heap.objs.size ≤ n
  loc : X.env.locals < n
  cel : ∀ x c, X.env.cells.lookup x = some c → c < n
  pin : ∀ p ∈ X.pn ++ pins, p.1 < n
theorem old_size (I : Inv X pins σ H s) : Old X pins s.heap.objs.size where
  s0 := I.sz
  loc := I.lt
  cel := fun x c e => let ⟨v, q⟩ := I.cell x c e; q.lt
  pin := fun p hp => Heap.lt_size (I.pin p hp).1
theorem Old.mono {n m : Nat} (o : Old X pins n) (h : n ≤ m) : Old X pins m := ⟨Nat.le_trans o.s0 h, Nat.lt_of_lt_of_le o.loc h, fun x c e => Nat.lt_of_lt_of_le (o.cel x c e) h, fun p hp => Nat.lt_of_lt_of_le (o.pin p hp) h⟩
def rbX (X : Cx) (s : Shared) (H : Hp) (n : Nat) (pn : List (Addr × Obj)) (xe : Value → Shared → Prop) : Cx := { X with s_0 := { s with heap := cut s.heap n }, H_0 := H, pn := pn, xe := xe }
def PinOk (X : Cx) (H : Hp) (s : Shared) (p : Addr × Obj) : Prop := s.heap.get? p.1 = some p.2 ∧ H p.1 = none ∧ p.1 ≠ X.env.locals ∧ p.1 ∉ X.fs ∧ ∀ v, p.2.data ≠ .cell v
structure Woke (X : Cx) (own pins : List (Addr × Obj)) (H' : Hp) (s s' : Shared) : Prop where
  os : s'.os = s.os
  bare : AllBare s'.gens
  hok : HOk X.prog X.w H' s'.heap
  bs : ∀ b o, X.base.get? b = some o → s'.heap.get? b = some o ∧ H' b = none
  funs : s'.heap.FunFrames X.base X.outer
  frf : ∀ b ∈ X.fs, H' b = none
  loc : ∀ o, s.heap.get? X.env.locals = some o → s'.heap.get? X.env.locals = some o
  free : H' X.env.locals = none
  pin : ∀ p ∈ own ++ pins, s'.heap.get? p.1 = some p.2 ∧ H' p.1 = none
theorem Woke.refl (I : Inv X pins σ H s) : Woke X X.pn pins H s s :=
  ⟨rfl, I.bare, I.hok, I.bs, I.funs, fun b hb => by
    have hx : b ∉ X.ex := fun z => I.ok.exfs b z hb
    obtain ⟨_, o, ho, _⟩ := I.ok.funs.mem hb
    exact I.base.free b o ho (I.ok.frf b hb) hx, fun _ e => e, I.free, fun p hp => ⟨(I.pin p hp).1, (I.pin p hp).2.1⟩⟩
theorem funs_cut {h base : Heap} {n : Nat} : ∀ {l : List Env}, h.FunFrames base l → (∀ b ∈ frs l, b < n) → (cut h n).FunFrames base l
  | [], _, _ => trivial
  | env :: r, ⟨hk, ⟨L, o, hf, hn, ho, hd⟩, hr⟩, hl =>
    have hL : L < n := hl L (by unfold frs; rw [List.filterMap_cons, hf]; exact List.mem_cons_self)
    ⟨hk, ⟨L, o, hf, hn, by rw [cut_get hL]; exact ho, hd⟩, funs_cut hr fun b hb => hl b (by unfold frs; rw [List.filterMap_cons, hf]; exact List.mem_cons_of_mem _ hb)⟩
theorem Woke.inv {own pn : List (Addr × Obj)} {xe : Value → Shared → Prop} (I : Inv X pins σ H s) (w : Woke X own pins H' s s') (hex : X.ex = []) (hc : X.env.cells = []) (hown : ∀ p ∈ own, p ∈ X.pn) (hpn : ∀ p ∈ pn, p ∈ own ∨ PinOk X H' s' p) : Inv (rbX X s' H' X.s_0.heap.objs.size pn xe) pins σ H' s' := by
  have noc : ∀ x c, X.env.cells.lookup x = some c → False := fun x c e => by rw [hc] at e; cases e
  have nox : ∀ b, b ∉ X.ex := fun b z => by rw [hex] at z; cases z
  have old : ∀ b ∈ frs X.outer, b < X.s_0.heap.objs.size := fun b hb => let ⟨_, o, ho, _⟩ := I.ok.funs.mem hb; Heap.lt_size ho
  have oldb : ∀ b o, X.base.get? b = some o → b < X.s_0.heap.objs.size := fun b o e => Nat.lt_of_lt_of_le (Heap.lt_size e) I.ok.bsz
  obtain ⟨m, ⟨o, es, ep, ho, r⟩, hl⟩ := id I.loc
  have ho' := w.loc o ho
  have big : X.s_0.heap.objs.size ≤ s'.heap.objs.size := Nat.le_trans I.ok.above (Nat.le_of_lt (Heap.lt_size ho'))
  have csz : (cut s'.heap X.s_0.heap.objs.size).objs.size = X.s_0.heap.objs.size := by rw [cut_size]; omega
  refine ⟨⟨I.ok.mod, I.ok.kind, I.ok.glob, I.ok.blt, ?_, I.ok.inj, I.ok.has, fun x c _ e => (noc x c e).elim, I.ok.hd, I.ok.frames, I.ok.stk, fun b z => absurd z (nox b), fun b ob e => ?_, ?_, fun b ob e => nox b, fun b z => absurd z (nox b), ?_, ?_⟩,
    rfl, w.bare, ?_, ⟨m, ⟨o, es, ep, ho', r⟩, fun i x v h1 h2 h3 => ?_⟩, fun x c e => (noc x c e).elim, w.free, fun x c e => (noc x c e).elim, fun p hp => ?_, w.hok, I.len⟩
  · show (cut s'.heap X.s_0.heap.objs.size).objs.size ≤ X.env.locals
    rw [csz]; exact I.ok.above
  · show (cut s'.heap X.s_0.heap.objs.size).get? b = some ob ∧ H' b = none
    rw [cut_get (oldb b ob e)]
    exact w.bs b ob e
  · show X.base.objs.size ≤ (cut s'.heap X.s_0.heap.objs.size).objs.size
    rw [csz]; exact I.ok.bsz
  · exact funs_cut w.funs old
  · exact w.frf
  · show Un X.fs X.ex H' H' (cut s'.heap X.s_0.heap.objs.size) s'.heap
    exact ⟨fun b ob e _ _ _ => (cut_some e).2, fun b ob e _ _ _ => ⟨ob.slots, (cut_some e).2⟩, fun b ob _ n _ => n, fun b ob e _ => ⟨ob, (cut_some e).2⟩, fun _ _ e => e, fun _ _ _ e => e, fun b ps e => ⟨#[], by rw [e]; simp⟩⟩
  · obtain ⟨u, ru, k⟩ := hl i x v h1 h2 h3
    refine ⟨u, ru, ?_⟩
    rcases k with k | ⟨_, c, e, _⟩
    · exact .inl k
    · exact (noc x c e).elim
  · have old : ∀ p ∈ own ++ pins, PinOk X H' s' p := fun p hp => by
      obtain ⟨_, _, q3, q4, q5⟩ := I.pin p ((List.mem_append.mp hp).elim (fun z => List.mem_append_left _ (hown p z)) fun z => List.mem_append_right _ z)
      exact ⟨(w.pin p hp).1, (w.pin p hp).2, q3, q4, q5⟩
    rcases List.mem_append.mp hp with z | z
    · rcases hpn p z with z | z
      · exact old p (List.mem_append_left _ z)
      · exact z
    · exact old p (List.mem_append_right _ z)
theorem rebase {pn : List (Addr × Obj)} {xe : Value → Shared → Prop} (I : Inv X pins σ H s) (hex : X.ex = []) (hc : X.env.cells = []) (hpn : ∀ p ∈ pn, p ∈ X.pn ∨ PinOk X H s p) : Inv (rbX X s H X.s_0.heap.objs.size pn xe) pins σ H s := (Woke.refl I).inv I hex hc (fun _ h => h) hpn
end
def CXP (P : Program) (w : World) (outer : List Env) (H : Hp) (s : Shared) (E : XK) (pn : List (Addr × Obj)) (u : Value) (s' : Shared) : Prop :=
  ∃ (a : Addr) (B : Heap) (H' : Hp) (cls : Value) (d : Option Addr), u = .ref a ∧ HandSPX.FlyingZ B outer a (Zc cls d) s'.heap ∧ HOk P w H' B ∧ UB (frs outer) H H' s.heap B s'.heap ∧ H' a = none ∧ s'.os = s.os ∧ AllBare s'.gens ∧ E cls d H' ∧ ∀ p ∈ pn, s'.heap.get? p.1 = some p.2 ∧ H' p.1 = none
theorem CXP.cx {P : Program} {w : World} {outer : List Env} {H : Hp} {s : Shared} {E : XK} {pn : List (Addr × Obj)} {u : Value} {s' : Shared} (x : CXP P w outer H s E pn u s') : CX P w outer H s E u s' :=
  let ⟨a, B, H', cls, d, e, fl, ok, ub, na, os, ag, w, _⟩ := x
  ⟨a, B, H', cls, d, e, fl, ok, ub, na, os, ag, w⟩
theorem CXP.pins {P : Program} {w : World} {outer : List Env} {H : Hp} {s : Shared} {E : XK} {pn : List (Addr × Obj)} {u : Value} {s' : Shared} (x : CXP P w outer H s E pn u s') : ∀ p ∈ pn, s'.heap.get? p.1 = some p.2 := fun p hp =>
  let ⟨_, _, _, _, _, _, _, _, _, _, _, _, _, q⟩ := x
  (q p hp).1
theorem leaveP {X : Cx} {W : WX} {E : XK} {s' : Shared} (hs : X.stack = X.env :: X.outer) (hf : X.env.frame = some X.env.locals) (hex : X.ex = []) {E₁ : Value → Shared → Prop} (hW : ∀ cls d σ H, W cls d σ H → E cls d H) {u : Value} (x : XE X W u s') :
    wpAny (model X.prog X.w) X.A (leaving X.env u) (fun _ s'' => CXP X.prog X.w X.outer X.H_0 X.s_0 E X.pn u s'') E₁ s' := by
  obtain ⟨a, B, sI, pins, σ, H, cls, d, rfl, I, nb, up, sky, na, os, ag, w⟩ := x
  have hfr : X.A.frames = some (X.env :: X.outer) := by rw [I.ok.frames, hs]
  have nst : ∀ b o, X.s_0.heap.get? b = some o → b ∉ X.fs → b ∉ frs X.stack := fun b o e hb hm => by
    rcases List.mem_cons.mp (I.stkSub b hm) with z | z
    · have h1 := Heap.lt_size e
      have h2 := I.ok.above
      rw [z] at h1
      exact absurd (Nat.lt_of_lt_of_le h1 h2) (Nat.lt_irrefl _)
    · exact hb z
  have hex' : ∀ b, b ∉ X.ex := fun b hb => by rw [hex] at hb; cases hb
  have hokB := I.inGround nb
  have pinB : ∀ p ∈ X.pn, B.get? p.1 = some p.2 := fun p hp => by
    obtain ⟨h1, _, h3, h4, _⟩ := I.pin p (List.mem_append_left _ hp)
    refine nb p.1 p.2 h1 fun hm => ?_
    rcases List.mem_cons.mp (I.stkSub p.1 hm) with z | z
    · exact h3 z
    · exact h4 z
  have fin : ∀ h', HandSPX.FlyingZ B X.outer a (Zc cls d) h' → s'.heap.UpToSlots h' → CXP X.prog X.w X.outer X.H_0 X.s_0 E X.pn (.ref a) { s' with heap := h' } := fun h' fl up' => by
    refine ⟨a, B, H, cls, d, rfl, fl, hokB, ⟨fun b o e n hb => nb b o (I.base.keep b o e n hb (hex' b)) (nst b o e hb), fun b o e hb => ?_, fun b o e n => I.base.free b o e n (hex' b), fun b o e hb => ?_, I.base.tups, I.base.frzs, I.base.tbls⟩,
      na, os.trans I.os, ag, hW _ _ _ _ w, fun p hp => ⟨fl.1 p.1 p.2 (pinB p hp), (I.pin p (List.mem_append_left _ hp)).2.1⟩⟩
    · obtain ⟨_, o₀, e₀, hnf⟩ := I.ok.funs.mem hb
      rw [e] at e₀; cases e₀
      obtain ⟨sl, e1⟩ := I.base.slot b o e (I.ok.frf b hb) hb (hex' b)
      obtain ⟨sl2, e2⟩ := up b _ e1 hnf
      obtain ⟨sl3, e3⟩ := up' b _ e2 hnf
      exact ⟨sl3, e3⟩
    · obtain ⟨o', e1⟩ := I.base.there b o e (hex' b)
      exact ⟨o', nb b o' e1 (nst b o e hb)⟩
  rw [hs] at sky
  rcases sky with ⟨hB, hn, hl, oe, vs, he, hz, hd, h1⟩ | fl | hd
  · exact HandSPX.leaving_firstZ Zc.steady hfr hl hf he hB hn hd h1 hz fin
  · exact HandSPX.leaves_onZ Zc.steady hfr hf fl fin
  · exact HandSPX.leaves_heldZ hf hd fin
end GQ
end
section
namespace ML
open PySem PySem.Spec PyProof.Rows L2 GenW GQ
structure Rb (κ : Type) where
  s : Shared
  H : Hp
  c : κ
  E : XK
  pn : List (Addr × Obj)
inductive RG (C : Type) where
  | nx (b : Bool) (σ : Sg) (c : C) (n : Nat) (h : Hi) | out (r : RS) | ex (k i : Nat) (c : C) (h : Hi) | err
inductive RC (C : Type) where
  | go (c : C) (h : Hi) | stop (r : RS) | err
abbrev CB (C : Type) := VI → C → Hi → RC C
abbrev GMS (C : Type) := CB C → Bool → Sg → C → Nat → Hi → RG C
section
variable {C : Type}
def yPl (m : MS) : GMS C := fun _ b σ c n h => match m σ h with
  | .nx σ' h' => .nx b σ' c n h'
  | .ex k i _ h' => match b with
    | true => .ex k i c h'
    | false => .err
  | _ => .err
def yNx : GMS C := fun _ b σ c n h => .nx b σ c n h
def ySeq (x y : GMS C) : GMS C := fun cb b σ c n h => match x cb b σ c n h with
  | .nx b1 σ1 c1 n1 h1 => y cb b1 σ1 c1 n1 h1
  | r => r
def yEv {α : Type} (b : Bool) (c : C) (r : Res α) (k : α → Hi → RG C) : RG C := match r with
  | .ok x h => k x h
  | .ex k i h => match b with
    | true => .ex k i c h
    | false => .err
  | .err => .err
def yAns (σ : Sg) (n : Nat) : RC C → RG C
  | .go c h => .nx false σ c n h
  | .stop r => .out r
  | .err => .err
def yYld (e : ME) : GMS C := fun cb b σ c n h => match n with
  | 0 => .err
  | n + 1 => yEv b c (e σ h) fun x h1 => yAns σ n (cb x c h1)
def yIf (t : MT) (x y : GMS C) : GMS C := fun cb b σ c n h => yEv b c (t σ h) fun v h1 => match v with
  | true => x cb b σ c n h1
  | false => y cb b σ c n h1
def yTurns (it : Itm) (g : MG) (body : GMS C) : Nat → Nat → GMS C
  | 0, i, _, b, σ, c, n, h => match it.nxt i h with
    | some none => .nx b σ c n h
    | _ => .err
  | k + 1, i, cb, b, σ, c, n, h => match it.nxt i h with
    | some none => .nx b σ c n h
    | some (some x) => match g x σ h with
      | .nx σ1 h1 => match body cb b σ1 c n h1 with
        | .nx b2 σ2 c2 n2 h2 => yTurns it g body k (i + 1) cb b2 σ2 c2 n2 h2
        | r => r
      | _ => .err
    | none => .err
def yFor (mi : MI) (g : MG) (body : GMS C) : GMS C := fun cb b σ c n h => yEv b c (mi σ h) fun it h1 => yTurns it g body (it.fuel h1) 0 cb b σ c n h1
end
def noE : XK := fun _ _ _ => False
structure Cons (G : Gx) (κ C : Type) where
  cb : CB C
  AC : List Addr → Hp → C → κ → Prop
  P : RS → List Addr → Hp → Prop
  exf : Nat → Nat → C → Hi → RS
  fin : C → Hi → RS
  CI : Rb κ → Prop
  fst : Rb κ → Prop
  E0 : XK
  acL : ∀ {ρ H ρ' H' c k}, Stp G ρ H ρ' H' → AC ρ H c k → AC ρ' H' c k
  pL : ∀ {r ρ H ρ' H'}, Stp G ρ H ρ' H' → P r ρ H → P r ρ' H'
  exE : ∀ {k i c h ρ H}, P (exf k i c h) ρ H → ∀ ρ' H' d D r, fst r → Stp G ρ H ρ' H' → Ag G ρ' h H' → AC ρ' H' c r.c → ρ'[i]? = some d → G.ct k = some D → E0 (.ref D) (some d) H'
variable {G : Gx} {κ C : Type}
def Cons.Md (Z : Cons G κ C) : Bool → Rb κ → Prop
  | true, r => r.E = Z.E0 ∧ Z.fst r
  | false, r => r.E = noE
def gxe (X : Cx) (r : Rb κ) (e : Value) (s' : Shared) : Prop :=
  wpAny (model X.prog X.w) X.A (leaving X.env e) (fun _ s'' => CXP X.prog X.w X.outer r.H { r.s with heap := cut r.s.heap X.s_0.heap.objs.size } r.E (X.pn ++ r.pn) e s'') (fun _ _ => False) s'
def gF (X : Cx) (r : Rb κ) : Cx := rbX X r.s r.H X.s_0.heap.objs.size (X.pn ++ r.pn) (gxe X r)
def AnsY {C : Type} (go : C → Hi → Prop) (stop : RS → Prop) : RC C → Prop
  | .go c h => go c h
  | .stop q => stop q
  | .err => False
def YG (X : Cx) (Z : Cons G κ C) : Protocol := fun _ _ v s kap => ∃ (r : Rb κ) (ip : List (Addr × Obj)) (σ : L2.St) (ρ : List Addr) (h : Hi) (H : Hp) (x : VI) (xv : V) (c : C), RelV xv v ∧ RV G ρ H x xv ∧ Inv (gF X r) ip σ H s ∧ Ag G ρ h H ∧ Z.AC ρ H c r.c ∧ Z.CI r ∧ (∀ p ∈ r.pn, ∀ q ∈ ip, q.1 ≠ p.1) ∧ AnsY (fun c' h' => ∀ ρ' H' k' s' pn', Stp G ρ H ρ' H' → Ag G ρ' h' H' → Z.AC ρ' H' c' k' → Woke (gF X r) X.pn ip H' s s' → (∀ p ∈ pn', PinOk X H' s' p ∧ ∀ q ∈ ip, q.1 ≠ p.1) → Z.CI ⟨s', H', k', noE, pn'⟩ → kap (.send .none) s') (fun q => Z.P q ρ H) (Z.cb x c h)
abbrev PostG (C : Type) := Bool → Sg → C → Nat → Hi → List Addr → Hp → Prop
def NxK (Z : Cons G κ C) (Post : PostG C) : RG C → List Addr → Hp → Prop
  | .nx b σ c n h, ρ, H => Post b σ c n h ρ H
  | .out r, ρ, H => Z.P r ρ H
  | .ex k i c h, ρ, H => Z.P (Z.exf k i c h) ρ H
  | .err, _, _ => False
def PostL (G : Gx) (Post : PostG C) : Prop := ∀ b σi cc n h ρ H ρ' H', Stp G ρ H ρ' H' → Post b σi cc n h ρ H → Post b σi cc n h ρ' H'
structure GSt (X : Cx) (Z : Cons G κ C) (ip : List (Addr × Obj)) (r : Rb κ) (b : Bool) (σi : Sg) (cc : C) (h : Hi) (ρ : List Addr) (σ : L2.St) (H : Hp) (s : Shared) : Prop where
  inv : Inv (gF X r) ip σ H s
  as : AgS G ρ H σi σ
  ag : Ag G ρ h H
  ac : Z.AC ρ H cc r.c
  ci : Z.CI r
  md : Z.Md b r
  sz : X.s_0.heap.objs.size ≤ r.s.heap.objs.size
  ap : ∀ p ∈ r.pn, ∀ q ∈ ip, q.1 ≠ p.1
structure GCt (X : Cx) (A : Around) (c : Code) (fs : List Frame) (gd : Bool → Bool) : Prop where
  over : A.over c fs = X.A
  split : splitAtGen fs = none
  guard : fs.any Frame.guarded = false
  gd : gd false = false
structure GK (X : Cx) (Z : Cons G κ C) (ip : List (Addr × Obj)) (A : Around) (R : GenEnd) (c : Code) (fs : List Frame) (K : Flow → Sem PySem.Fin) (J : Value → Sem PySem.Fin) (Post : PostG C) : Prop where
  ok : ∀ n s₀ s r b σi cc h ρ σ H, GSt X Z ip r b σi cc h ρ σ H s → Post b σi cc n h ρ H → Seg (model X.prog X.w) A R (YG X Z) n s₀ c (K .next) fs s
  cl : PostL G Post
  exc : ∀ n s₀ s b (r : Rb κ) e, Z.CI r → Z.Md b r → (gF X r).xe e s → Seg (model X.prog X.w) A R (YG X Z) n s₀ c (J e) fs s
theorem NxK.later {Z : Cons G κ C} {Post : PostG C} {ρ ρ' : List Addr} {H H' : Hp} (cl : PostL G Post) (st : Stp G ρ H ρ' H') : ∀ {q : RG C}, NxK Z Post q ρ H → NxK Z Post q ρ' H'
  | .nx .., f => cl _ _ _ _ _ _ _ _ _ st f
  | .out _, f => Z.pL st f
  | .ex .., f => Z.pL st f
  | .err, f => f
structure GSM (X : Cx) (Z : Cons G κ C) (st : Stmt) (g : GMS C) : Prop where
  run : ∀ (A : Around) (R : GenEnd) (n : Nat) (s₀ : Shared) (c : Code) (fs : List Frame) (K : Flow → Sem PySem.Fin) (J : Value → Sem PySem.Fin) (gd : Bool → Bool) (lv : List Value → List Value) (s : Shared) (r : Rb κ) (ip : List (Addr × Obj)) (b : Bool) (σ : L2.St) (σi : Sg) (ρ : List Addr) (h : Hi) (H : Hp) (cc : C) (Post : PostG C),
    GCt X A c fs gd → GK X Z ip A R c fs K J Post → GSt X Z ip r b σi cc h ρ σ H s → NxK Z Post (g Z.cb b σi cc n h) ρ H → Seg (model X.prog X.w) A R (YG X Z) n s₀ c ((exec st X.env).wrap K J gd lv) fs s
structure GSMs (X : Cx) (Z : Cons G κ C) (st : List Stmt) (g : GMS C) : Prop where
  run : ∀ (A : Around) (R : GenEnd) (n : Nat) (s₀ : Shared) (c : Code) (fs : List Frame) (K : Flow → Sem PySem.Fin) (J : Value → Sem PySem.Fin) (gd : Bool → Bool) (lv : List Value → List Value) (s : Shared) (r : Rb κ) (ip : List (Addr × Obj)) (b : Bool) (σ : L2.St) (σi : Sg) (ρ : List Addr) (h : Hi) (H : Hp) (cc : C) (Post : PostG C),
    GCt X A c fs gd → GK X Z ip A R c fs K J Post → GSt X Z ip r b σi cc h ρ σ H s → NxK Z Post (g Z.cb b σi cc n h) ρ H → Seg (model X.prog X.w) A R (YG X Z) n s₀ c ((execs st X.env).wrap K J gd lv) fs s
section
variable {X : Cx} {Z : Cons G κ C} {ip : List (Addr × Obj)} {r : Rb κ} {b : Bool} {σi : Sg} {cc : C} {h : Hi} {ρ : List Addr} {σ : L2.St} {H : Hp} {s : Shared} {st : Stmt} {rest : List Stmt} {ms : MS} {me : ME} {mt : MT} {g g1 g2 : GMS C} {e : Expr} {pos yp : Pos}
abbrev gW (r : Rb κ) : WX := fun c d _ H => r.E c d H
theorem exG {c i : Nat} {h' : Hi} {ρ' : List Addr} {H' : Hp} {d D : Addr} (q : GSt X Z ip r true σi cc h ρ σ H s) (p : Z.P (Z.exf c i cc h') ρ H) (st : Stp G ρ H ρ' H') (a : Ag G ρ' h' H') (hn : ρ'[i]? = some d) (hc : G.ct c = some D) : r.E (.ref D) (some d) H' := by
  rw [q.md.1]
  exact Z.exE p ρ' H' d D r q.md.2 st a (Z.acL st q.ac) hn hc
theorem rdG_gen {α β : Type} {Rr : List Addr → Hp → α → β → Prop} {m : Sg → Hi → Res α} {N : β → Hp → Prop} {Post : PostG C} {A : Around} {R : GenEnd} {c : Code} {fs : List Frame} {K : Flow → Sem PySem.Fin} {J : Value → Sem PySem.Fin} (q : GSt X Z ip r b σi cc h ρ σ H s) (k : GK X Z ip A R c fs K J Post) {gg : α → Hi → RG C}
    (f : NxK Z Post (yEv b cc (m σi h) gg) ρ H)
    (nx : ∀ ρ1 H1 h1 x y, Stp G ρ H ρ1 H1 → Ag G ρ1 h1 H1 → Rr ρ1 H1 x y → NxK Z Post (gg x h1) ρ1 H1 → N y H1) : rdG G Rr (gW r) m σ H N := by
  refine ⟨ρ, σi, h, q.as, q.ag, ?_⟩
  cases e : m σi h with
  | err => rw [e] at f; exact f
  | ex c i h1 =>
    rw [e] at f
    cases b with
    | false => exact f.elim
    | true => exact fun ρ' H' d D st a hn hc => exG q f st a hn hc
  | ok x h1 =>
    rw [e] at f
    exact fun ρ' H' y st a rr => nx ρ' H' h1 x y st a rr (NxK.later k.cl st f)
theorem GSt.at_ {ρ1 : List Addr} {H1 : Hp} {h1 : Hi} {s1 : Shared} (q : GSt X Z ip r b σi cc h ρ σ H s) (I : Inv (gF X r) ip σ H1 s1) (st : Stp G ρ H ρ1 H1) (a : Ag G ρ1 h1 H1) : GSt X Z ip r b σi cc h1 ρ1 σ H1 s1 :=
  ⟨I, q.as.mono st, a, Z.acL st q.ac, q.ci, q.md, q.sz, q.ap⟩
theorem gsm_pl (hp : ∀ r : Rb κ, PS (gF X r) st (rdS G (gW r) ms)) : GSM X Z st (yPl ms) := by
  refine ⟨fun A R n s₀ c fs K J gd lv s r ip b σ σi ρ h H cc Post g k q f => ?_⟩
  refine seg_wrap ?_
  rw [g.over]
  let D : Ends := { nx := fun σ' H' => ∃ ρ' σi' h', Stp G ρ H ρ' H' ∧ AgS G ρ' H' σi' σ' ∧ Ag G ρ' h' H' ∧ Post b σi' cc n h' ρ' H', rt := fun _ _ => False }
  have fin : rdS G (gW r) ms D σ H := by
    refine ⟨ρ, σi, h, q.as, q.ag, ?_⟩
    unfold yPl at f
    cases e : ms σi h with
    | nx σ' h' => rw [e] at f; exact fun ρ' H' σ2 st a as => ⟨ρ', σ', h', st, as, a, k.cl _ _ _ _ _ _ _ _ _ st f⟩
    | ex c i σ' h' =>
      rw [e] at f
      cases b with
      | false => exact f.elim
      | true => exact fun ρ' H' d D σ2 st a _ hn hc => exG q f st a hn hc
    | rt v h' => rw [e] at f; exact f.elim
    | bk σ' h' => rw [e] at f; exact f.elim
    | ct σ' h' => rw [e] at f; exact f.elim
    | err => rw [e] at f; exact f.elim
  refine wpAny_mono ((hp r).run ip s σ H D q.inv fin) (fun fl s' hs => ?_) fun x s' hx => k.exc n s₀ s' b r x q.ci q.md hx
  cases fl with
  | next =>
    obtain ⟨σ', H', I', ρ', σi', h', st, as, a, p⟩ := hs
    exact k.ok n s₀ s' r b σi' cc h' ρ' σ' H' ⟨I', as, a, Z.acL st q.ac, q.ci, q.md, q.sz, q.ap⟩ p
  | brk => obtain ⟨_, _, _, z⟩ := hs; exact z.elim
  | cont => obtain ⟨_, _, _, z⟩ := hs; exact z.elim
  | ret v => obtain ⟨_, _, _, _, _, z⟩ := hs; exact z.elim
theorem gsms_nil : GSMs X Z [] yNx := ⟨fun A R n s₀ c fs K J gd lv s r ip b σ σi ρ h H cc Post g k q f => seg_execs_nil (k.ok n s₀ s r b σi cc h ρ σ H q f)⟩
theorem gsms_cons (x : GSM X Z st g1) (y : GSMs X Z rest g2) : GSMs X Z (st :: rest) (ySeq g1 g2) := by
  refine ⟨fun A R n s₀ c fs K J gd lv s r ip b σ σi ρ h H cc Post g k q f => ?_⟩
  refine seg_execs_cons ?_
  refine x.run A R n s₀ c fs _ J gd lv s r ip b σ σi ρ h H cc (fun b' σ' c' n' h' ρ' H' => NxK Z Post (g2 Z.cb b' σ' c' n' h') ρ' H') g ⟨fun n' s₀' s' r' b' σi' cc' h' ρ' σ' H' q' f' => ?_, fun _ _ _ _ _ _ _ _ _ st f => NxK.later k.cl st f, k.exc⟩ q ?_
  · exact y.run A R n' s₀' c fs K J gd lv s' r' ip b' σ' σi' ρ' h' H' cc' Post g k q' f'
  · unfold ySeq at f
    cases e : g1 Z.cb b σi cc n h with
    | nx b1 σ1 c1 n1 h1 => rw [e] at f; exact f
    | out q => rw [e] at f; exact f
    | ex c i cc h1 => rw [e] at f; exact f
    | err => rw [e] at f; exact f
theorem gF_size (h : X.s_0.heap.objs.size ≤ r.s.heap.objs.size) : (gF X r).s_0.heap.objs.size = X.s_0.heap.objs.size := by
  show (cut r.s.heap X.s_0.heap.objs.size).objs.size = _
  rw [cut_size]
  omega
theorem gsm_yield (he : ∀ r : Rb κ, PE (gF X r) e (rdE G (gW r) me)) (hex : X.ex = []) (hcl : X.env.cells = []) (hco : X.env.scope.isCoroutine = false := by rfl) (hi : interactive X.env = false := by rfl) : GSM X Z (.Expr (.Yield (some e) yp) pos) (yYld me) := by
  refine ⟨fun A R n s₀ c fs K J gd lv s r ip b σ σi ρ h H cc Post g k q f => ?_⟩
  cases n with
  | zero => exact f.elim
  | succ n =>
    refine seg_Expr_Yield g.split g.gd g.guard ?_ hco hi
    rw [g.over]
    refine wpAny_mono ((he r).run ip s σ H (fun xv H1 => ∃ ρ1 h1 x, Stp G ρ H ρ1 H1 ∧ Ag G ρ1 h1 H1 ∧ RV G ρ1 H1 x xv ∧ NxK Z Post (yAns σi n (Z.cb x cc h1)) ρ1 H1) q.inv (rdG_gen q k f fun ρ1 H1 h1 x y st a rr f1 => ⟨ρ1, h1, x, st, a, rr, f1⟩)) (fun v s' hv => ?_) fun x s' hx => k.exc _ s₀ s' b r x q.ci q.md hx
    obtain ⟨xv, H1, I1, rv, ρ1, h1, x, st, a, rx, f1⟩ := hv
    intro kap hk
    refine ⟨r, ip, σ, ρ1, h1, H1, x, xv, cc, rv, rx, I1, a, Z.acL st q.ac, q.ci, q.ap, ?_⟩
    cases e2 : Z.cb x cc h1 with
    | go c' h' =>
      rw [e2] at f1
      intro ρ' H' k' s'' pn' st' a' ac' w hpn ci'
      refine hk .none s'' ?_
      have I2 := w.inv (pn := X.pn ++ pn') (xe := gxe X ⟨s'', H', k', noE, pn'⟩) I1 hex hcl (fun p hp => List.mem_append_left _ hp) fun p hp => (List.mem_append.mp hp).imp id fun z => (hpn p z).1
      rw [gF_size q.sz] at I2
      obtain ⟨_, ⟨o, _, _, ho, _⟩, _⟩ := I2.loc
      have hlt := Heap.lt_size ho
      have hab := I1.ok.above
      rw [gF_size q.sz] at hab
      exact k.ok n s'' s'' ⟨s'', H', k', noE, pn'⟩ false σi c' h' ρ' σ H' ⟨I2, (q.as.mono st).mono st', a', ac', ci', rfl, Nat.le_trans hab (Nat.le_of_lt hlt), fun p hp => (hpn p hp).2⟩ (k.cl _ _ _ _ _ _ _ _ _ st' f1)
    | stop q => rw [e2] at f1; exact f1
    | err => rw [e2] at f1; exact f1
end
end ML
end
section
namespace ML
open PySem PySem.Spec PyProof.Rows L2 GenW GQ
section
variable {prog : Program} {w : World} {A : Around} {R : GenEnd} {Y : Protocol} {n : Nat} {s₀ : Shared} {c : Code} {fs : List Frame} {s : Shared} {env : Env}
abbrev outE (env : Env) (e : Value) : Sem PySem.Fin := Sem.bind (do noteFrame e env; theTreesLotGoes e : Sem Unit) fun _ => Sem.raise e
theorem seg_runOwnG {M : Model} {c' : Code} {K : Flow → Sem PySem.Fin} {J : Value → Sem PySem.Fin} {gd : Bool → Bool} {lv : List Value → List Value}
    (h : ∀ p, Seg M A R Y n s₀ c' (M.den c') (.ret (fun r => ((match r with | .ok f => (.pure f : Sem Flow) | .error e => .raise e).onRaise (cameBack env)).wrap K J gd lv) none (gd false) (lv []) c p [] :: fs) s) :
    Seg M A R Y n s₀ c ((runOwn c' env).wrap K J gd lv) fs s := seg_call h
theorem seg_forLoop {tg : Expr} {it : Value} {body : List Stmt} {Ex : Value → Shared → Prop} (hE : ∀ e s', Ex e s' → Seg (model prog w) A R Y n s₀ c (outE env e) fs s')
    (h : wpAny (model prog w) (A.over c fs) (pyNext it) (fun r s1 => match r with
      | none => Seg (model prog w) A R Y n s₀ c (.pure (.again (.block [] env))) fs s1
      | some v => wpAny (model prog w) (A.over c fs) (letOwnedTupleGo tg it v) (fun _ s2 => wpAny (model prog w) (A.over c fs) (assign tg env v) (fun _ s3 =>
          Seg (model prog w) A R Y n s₀ c ((execs body env).wrap (fun f => match f with
            | .next | .cont => .pure (.again (.forLoop tg it body [] env))
            | .brk => .pure (.done .next)
            | .ret v => .pure (.done (.ret v))) (outE env) id id) fs s3) Ex s2) Ex s1) Ex s) :
    Seg (model prog w) A R Y n s₀ c ((model prog w).den (.forLoop tg it body [] env)) fs s := by
  show Seg _ A R Y n s₀ c ((forTurn tg it body [] env).onRaise (fun x => do noteFrame x env; theTreesLotGoes x)) fs s
  unfold forTurn
  rw [Sem.onRaise_eq_wrap]
  refine seg_bind_wrap (wpAny_standAt ?_)
  refine seg_bind_wrap (wpAny_onRaise (wpAny_mono h (fun r s1 h1 => ?_) fun e s1 h1 => wpAny_standAt (hE e s1 h1)))
  cases r with
  | none => exact h1
  | some v =>
    refine seg_bind_wrap (wpAny_mono h1 (fun _ s2 h2 => ?_) fun e s2 h2 => hE e s2 h2)
    refine seg_bind_wrap (wpAny_mono h2 (fun _ s3 h3 => ?_) fun e s3 h3 => hE e s3 h3)
    rw [Sem.bind_eq_wrap', Sem.wrap_wrap]
    refine Eq.mp (congrArg (fun t => Seg (model prog w) A R Y n s₀ c t fs s3) ?_) h3
    exact Sem.wrap_congr (execs body env) id id (fun f => by cases f <;> rfl) (fun e => rfl)
theorem seg_block0 (hq : (Code.block [] env).quiet = true) (h : Seg (model prog w) A R Y n s₀ (.block [] env) (.pure (.done .next)) fs s) : Seg (model prog w) A R Y n s₀ c (.pure (.again (.block [] env))) fs s := by
  refine seg_again hq ?_
  exact h
end
section
variable {G : Gx} {κ C : Type} {X : Cx} {Z : Cons G κ C} {ip : List (Addr × Obj)} {r : Rb κ} {tg iter : Expr} {body : List Stmt} {pos : Pos} {mi : MI} {mg : MG} {g1 : GMS C}
theorem seg_cameBackG {A : Around} {R : GenEnd} {c : Code} {fs : List Frame} {K : Flow → Sem PySem.Fin} {J : Value → Sem PySem.Fin} {gd : Bool → Bool} {lv : List Value → List Value} {Post : PostG C} {n : Nat} {s₀ s : Shared} {e : Value} {b : Bool}
    (g : GCt X A c fs gd) (k : GK X Z ip A R c fs K J Post) (hc : Z.CI r) (hm : Z.Md b r) (h : cameBackBy (model X.prog X.w) X.A X.env (gF X r).xe e s) :
    Seg (model X.prog X.w) A R (YG X Z) n s₀ c (((Sem.raise e : Sem Flow).onRaise (cameBack X.env)).wrap K J gd lv) fs s := by
  show Seg _ _ _ _ _ _ _ (((cameBack X.env e).bind fun _ => (Sem.raise e : Sem Flow)).wrap K J gd lv) _ _
  rw [Sem.bind_eq_wrap, Sem.wrap_wrap]
  refine seg_wrap ?_
  rw [g.over]
  exact wpAny_mono h (fun _ s' hx => k.exc n s₀ s' b r e hc hm hx) fun x s' hx => k.exc n s₀ s' b r x hc hm hx
theorem gct_loop {A : Around} {c c' : Code} {fs : List Frame} {gd : Bool → Bool} {k : Result → Sem PySem.Fin} {l kp : List Value} {p : Pos} (g : GCt X A c fs gd) (hw : c'.weight = 0) (hu : c'.cUnits = 0) :
    GCt X A c' (.ret k none (gd false) l c p kp :: fs) id where
  over := (over_loop hw hu).trans g.over
  split := by
    show (splitAtGen fs).map _ = none
    rw [g.split]; rfl
  guard := by
    show (gd false || fs.any Frame.guarded) = false
    rw [g.gd, g.guard]; rfl
  gd := rfl
theorem gsm_for (hp : ∀ r : Rb κ, PassesOwn (model X.prog X.w) X.A X.env (gF X r).xe) (hc : X.calm = true) (hi : ∀ r : Rb κ, PI (gF X r) tg iter (rdI G (gW r) mi)) (hg : ∀ r : Rb κ, PG (gF X r) tg (rdGt G (gW r) mg)) (hb : GSMs X Z body g1)
    (hs : ∀ x, foldedSetIterable iter X.env x = pure x := by intro _; rfl) : GSM X Z (.For tg iter body [] pos) (yFor mi mg g1) := by
  refine ⟨fun A R n s₀ c fs K J gd lv s r ip b σ σi ρ h H cc Post g k q f => ?_⟩
  rw [exec_For]
  refine seg_bind_wrap (wpAny_standAt ?_)
  refine seg_bind_wrap ?_
  rw [g.over]
  refine wpAny_mono ((hi r).run ip s σ H (fun J1 H1 => ∃ ρ1 h1 it, Stp G ρ H ρ1 H1 ∧ Ag G ρ1 h1 H1 ∧ ItOk G ρ1 H1 J1 it ∧ NxK Z Post (yTurns it mg g1 (it.fuel h1) 0 Z.cb b σi cc n h1) ρ1 H1) q.inv ?_) (fun v s1 hv => ?_) fun x s' hx => k.exc n s₀ s' b r x q.ci q.md hx
  · refine ⟨ρ, σi, h, q.as, q.ag, ?_⟩
    unfold yFor at f
    cases e : mi σi h with
    | err => rw [e] at f; exact f
    | ex c i h1 =>
      rw [e] at f
      cases b with
      | false => exact f.elim
      | true => exact fun ρ' H' d D st a hn hc => exG q f st a hn hc
    | ok it h1 =>
      rw [e] at f
      exact fun ρ1 H1 J1 st a io => ⟨ρ1, h1, it, st, a, io, NxK.later k.cl st f⟩
  refine seg_bind_wrap (wpAny_of_eq (hs v) ?_)
  refine seg_bind_wrap (wpAny_standAt ?_)
  refine seg_bind_wrap (wpAny_holding ?_)
  rw [g.over]
  refine wpAny_mono hv (fun itv s2 h2 => ?_) fun x s' hx => k.exc n s₀ s' b r x q.ci q.md hx
  obtain ⟨ita, fp, tn, J1, H2, e, I2, T, st2, f2, ρ1, h1, it, stp, ag2, io, f⟩ := h2
  subst e
  have q2 := q.at_ I2 stp ag2
  -- what stays true of the iterator's objects
  have stat : ∀ {r' : Rb κ} {H' : Hp}, X.s_0.heap.objs.size ≤ r'.s.heap.objs.size → (∀ b ∈ fp, ∀ p ∈ r'.pn, p.1 ≠ b) → (∀ b ∈ fp, H' b = none) → ∀ b ∈ fp, FpOk (gF X r') ip H' b := fun {r' H'} hz hp' hn b hb => by
    obtain ⟨_, z1, z2, z3, z4, z5⟩ := f2 b hb
    refine ⟨hn b hb, z1, z2, z3.imp id fun y => ?_, z4, fun p hp => ?_⟩
    · rw [gF_size q.sz] at y
      rw [gF_size hz]
      exact y
    · rcases List.mem_append.mp hp with z | z
      · rcases List.mem_append.mp z with z | z
        · exact z5 p (List.mem_append_left _ (List.mem_append_left _ z))
        · exact hp' b hb p z
      · exact z5 p (List.mem_append_right _ z)
  refine seg_runOwnG fun p => ?_
  have gl := fun (kk : Result → Sem PySem.Fin) => gct_loop (k := kk) (c' := .forLoop tg (.ref ita) body [] X.env) (l := lv []) (kp := []) (p := p) g rfl rfl
  have gb := fun (kk : Result → Sem PySem.Fin) => gct_loop (k := kk) (c' := .block [] X.env) (l := lv []) (kp := []) (p := p) g rfl rfl
  have loop : ∀ (m i n : Nat) (s₀ s : Shared) (r : Rb κ) (b : Bool) (σi : Sg) (cc : C) (h : Hi) (ρ : List Addr) (σ : L2.St) (H : Hp), GSt X Z ip r b σi cc h ρ σ H s → tn i s.heap → (∀ b ∈ fp, ∀ p ∈ r.pn, p.1 ≠ b) → (∀ b ∈ fp, H b = none) → Stp G ρ1 H2 ρ H → NxK Z Post (yTurns it mg g1 m i Z.cb b σi cc n h) ρ H →
      Seg (model X.prog X.w) A R (YG X Z) n s₀ (.forLoop tg (.ref ita) body [] X.env) ((model X.prog X.w).den (.forLoop tg (.ref ita) body [] X.env))
        (.ret (fun r => ((match r with | .ok f => (.pure f : Sem Flow) | .error e => .raise e).onRaise (cameBack X.env)).wrap K J gd lv) none (gd false) (lv []) c p [] :: fs) s := by
    intro m
    induction m with
    | zero =>
      intro i n s₀ s r b σi cc h ρ σ H q st fq fr sp f
      have ee : ∀ (x : Value) (s' : Shared), (gF X r).xe x s' → Seg (model X.prog X.w) A R (YG X Z) n s₀ (.forLoop tg (.ref ita) body [] X.env) (outE X.env x)
          (.ret (fun r => ((match r with | .ok f => (.pure f : Sem Flow) | .error e => .raise e).onRaise (cameBack X.env)).wrap K J gd lv) none (gd false) (lv []) c p [] :: fs) s' := fun x s' hx => by
        unfold outE
        rw [Sem.bind_eq_wrap]
        refine seg_wrap ?_
        rw [(gl _).over]
        refine wpAny_bind (wpAny_mono (hp r x s' hx) (fun _ s'' hcb => wpAny_theTreesLotGoes ?_) fun y s'' hcb => ?_)
        · exact seg_leaf (.error x) (seg_cameBackG g k q.ci q.md hcb)
        · exact seg_leaf (.error y) (seg_cameBackG g k q.ci q.md hcb)
      have ok := io i ρ h H sp q.ag
      refine seg_forLoop ee ?_
      rw [(gl _).over]
      unfold yTurns at f
      cases e : it.nxt i h with
      | none => rw [e] at f; exact f.elim
      | some o =>
        cases o with
        | some v => rw [e] at f; exact f.elim
        | none =>
          rw [e] at f ok
          refine wpAny_mono (T.done (gF X r) rfl rfl rfl hc i ip s σ H (gF X r).xe q.inv (stat q.sz fq fr) st ok) (fun rr s4 ⟨hr, I4⟩ => ?_) fun _ _ z => z
          subst hr
          exact seg_block0 rfl (seg_leaf (.ok .next) (k.ok n s₀ s4 r b σi cc h ρ σ H ⟨I4, q.as, q.ag, q.ac, q.ci, q.md, q.sz, q.ap⟩ f))
    | succ m ih =>
      intro i n s₀ s r b σi cc h ρ σ H q st fq fr sp f
      have ee : ∀ (n : Nat) (s₀ : Shared) (b : Bool) (r : Rb κ), Z.CI r → Z.Md b r → ∀ (x : Value) (s' : Shared), (gF X r).xe x s' → Seg (model X.prog X.w) A R (YG X Z) n s₀ (.forLoop tg (.ref ita) body [] X.env) (outE X.env x)
          (.ret (fun r => ((match r with | .ok f => (.pure f : Sem Flow) | .error e => .raise e).onRaise (cameBack X.env)).wrap K J gd lv) none (gd false) (lv []) c p [] :: fs) s' := fun n s₀ b r ci md x s' hx => by
        unfold outE
        rw [Sem.bind_eq_wrap]
        refine seg_wrap ?_
        rw [(gl _).over]
        refine wpAny_bind (wpAny_mono (hp r x s' hx) (fun _ s'' hcb => wpAny_theTreesLotGoes ?_) fun y s'' hcb => ?_)
        · exact seg_leaf (.error x) (seg_cameBackG g k ci md hcb)
        · exact seg_leaf (.error y) (seg_cameBackG g k ci md hcb)
      have ok := io i ρ h H sp q.ag
      refine seg_forLoop (ee n s₀ b r q.ci q.md) ?_
      rw [(gl _).over]
      unfold yTurns at f
      cases e : it.nxt i h with
      | none => rw [e] at f; exact f.elim
      | some o =>
        cases o with
        | none =>
          rw [e] at f ok
          refine wpAny_mono (T.done (gF X r) rfl rfl rfl hc i ip s σ H (gF X r).xe q.inv (stat q.sz fq fr) st ok) (fun rr s4 ⟨hr, I4⟩ => ?_) fun _ _ z => z
          subst hr
          exact seg_block0 rfl (seg_leaf (.ok .next) (k.ok n s₀ s4 r b σi cc h ρ σ H ⟨I4, q.as, q.ag, q.ac, q.ci, q.md, q.sz, q.ap⟩ f))
        | some v =>
          rw [e] at f ok
          dsimp only at f ok
          obtain ⟨go, yl⟩ := ok
          refine wpAny_mono (T.item (gF X r) rfl rfl rfl hc i ip s σ H (gF X r).xe q.inv (stat q.sz fq fr) st go) (fun rr s4 ⟨u, hr, h4⟩ => ?_) fun _ _ z => z
          subst hr
          refine wpAny_mono h4 (fun _ s5 ⟨x, H5, I5, r5, y5, st5, fr5⟩ => ?_) fun _ _ z => z
          obtain ⟨st3, ag3, rv⟩ := yl x H5 y5
          have I5' := I5.pinned (stat q.sz fq fr5) (T.obj _ _ st5)
          cases e2 : mg v σi h with
          | nx σ1 h1' =>
            rw [e2] at f
            dsimp only at f
            refine wpAny_mono ((hg r).run _ s5 σ H5 x u (fun σ6 H6 => ∃ ρ6, Stp G ρ H5 ρ6 H6 ∧ AgS G ρ6 H6 σ1 σ6 ∧ Ag G ρ6 h1' H6) I5' r5 ⟨ρ, σi, h, v, q.as.mono st3, ag3, rv, ?_⟩) (fun _ s6 ⟨σ6, H6, I6, ρ6, st6, as6, ag6⟩ => ?_) fun _ _ z => z
            · rw [e2]
              exact fun ρ' H' σ' st a as => ⟨ρ', st, as, a⟩
            · have st36 := st3.trans st6
              have q6 : GSt X Z (ip ++ pinsAt fp s5.heap) r b σ1 cc h1' ρ6 σ6 H6 s6 := ⟨I6, as6, ag6, Z.acL st36 q.ac, q.ci, q.md, q.sz, fun p hp y hy => (List.mem_append.mp hy).elim (q.ap p hp y) fun z => Ne.symm (fq y.1 (of_pinsAt z).1 p hp)⟩
              refine hb.run A R n s₀ _ _ _ _ id id s6 r (ip ++ pinsAt fp s5.heap) b σ6 σ1 ρ6 h1' H6 cc (fun b σ c n h ρ H => Stp G ρ1 H2 ρ H ∧ NxK Z Post (yTurns it mg g1 m (i + 1) Z.cb b σ c n h) ρ H) (gl _) ⟨fun n' s₀' s' r' b' σi' cc' h' ρ' σ' H' q' f' => ?_, fun _ _ _ _ _ _ _ _ _ st f => ⟨f.1.trans st, NxK.later k.cl st f.2⟩, fun n' s₀' s' b' r' x' ci md hx => ee n' s₀' b' r' ci md x' s' hx⟩ q6 ?_
              · refine seg_again rfl (ih (i + 1) n' s₀' s' r' b' σi' cc' h' ρ' σ' H' ⟨q'.inv.unpinned, q'.as, q'.ag, q'.ac, q'.ci, q'.md, q'.sz, fun p hp y hy => q'.ap p hp y (List.mem_append_left _ hy)⟩ (T.keep _ _ _ st5 fun b hb o e => (q'.inv.pin (b, o) (List.mem_append_right _ (List.mem_append_right _ (mem_pinsAt hb e)))).1) (fun b hb p hp => ?_) (fun b hb => ?_) f'.1 f'.2)
                · obtain ⟨o, e, d⟩ := T.obj _ _ st5 b hb
                  exact Ne.symm (q'.ap p hp (b, o) (List.mem_append_right _ (mem_pinsAt hb e)))
                obtain ⟨o, e, d⟩ := T.obj _ _ st5 b hb
                exact (q'.inv.pin (b, o) (List.mem_append_right _ (List.mem_append_right _ (mem_pinsAt hb e)))).2.1
              · have f6 := NxK.later k.cl st36 f
                have sp6 := sp.trans st36
                cases e7 : g1 Z.cb b σ1 cc n h1' with
                | nx b2 σ2 c2 n2 h2 => rw [e7] at f6; exact ⟨sp6, f6⟩
                | out q => rw [e7] at f6; exact f6
                | ex c i cc h1 => rw [e7] at f6; exact f6
                | err => rw [e7] at f6; exact f6
          | rt _ _ => rw [e2] at f; exact f.elim
          | bk _ _ => rw [e2] at f; exact f.elim
          | ct _ _ => rw [e2] at f; exact f.elim
          | ex _ _ _ _ => rw [e2] at f; exact f.elim
          | err => rw [e2] at f; exact f.elim
  exact loop _ 0 n s₀ s2 r b σi cc h1 ρ1 σ H2 q2 st2 (fun b hb p hp => (f2 b hb).2.2.2.2.2 p (List.mem_append_left _ (List.mem_append_right _ hp))) (fun b hb => (f2 b hb).1) .refl f
end
end ML
end
section
namespace ML
open PySem PySem.Spec PyProof.Rows L2 He
def spGM (G : Gx) (np : Nat) (cs : List Nat) (g : MF) : SpG := fun vs H Q E => ∃ ρ h args, args.length = np ∧ Ag G ρ h H ∧ RVs G ρ H args vs ∧ match g args h with
  | .ex c n h' => cs.contains c = true ∧ ∀ ρ' H' d C, Stp G ρ H ρ' H' → Ag G ρ' h' H' → ρ'[n]? = some d → G.ct c = some C → E (.ref C) (some d) H'
  | _ => False
section
variable {G : Gx} {W : WX} {X : Cx} {k : Nat} {f : Addr} {fd : FuncData} {ps : List Str} {g : MF} {cs : List Nat}
def NoSt (K : PySem.W.Frag) (G : Gx) (cs : List Nat) : Prop := ∀ c ∈ cs, ∀ C, G.ct c = some C → PySem.W.subIn K (.ref C) (.type "StopIteration") = some false
end
structure DOkL (P : Program) (w : World) (K : PySem.W.Frag) (mg : Str → Option Value) (base : Heap) (nm : Nat → Option Str) (k : Nat) (p : Defn) (ps : List Str) (cs : List Nat) (g : MF) : Prop where
  ok : GFn P w K mg base k (p K) (fdOf K p) ps (spGM (GxOf K mg nm) ps.length cs g)
  ar : Arity ps.length g
  kp : PySem.W.keepIn K (.ref (p K)) = true
section
variable {X : Cx} {k k' : Nat} {ps : List Str} {g : MF} {cs : List Nat} {nm : Nat → Option Str}
def nsB (K : PySem.W.Frag) (x : Str) : Bool := decide (PySem.W.subIn K (.ref (ga K x)) (.type "StopIteration") = some false)
theorem noSt_nil {K : PySem.W.Frag} {G : Gx} : NoSt K G [] := fun c h => nomatch h
theorem noSt_cons {K : PySem.W.Frag} {mg : Str → Option Value} {c : Nat} {x : Str} {cs : List Nat} (hn : nm c = some x) (hB : nsB K x = true) (t : NoSt K (GxOf K mg nm) cs) : NoSt K (GxOf K mg nm) (c :: cs) := fun c' h C e => by
  rcases List.mem_cons.mp h with z | z
  · subst z
    rw [gx_ct e hn]
    exact of_decide_eq_true hB
  · exact t c' z C e
end
end ML
end
section
namespace ML
open PySem PySem.Spec PyProof.Rows L2 GenW GQ
variable {G : Gx} {κ C : Type}
def endPost (Z : Cons G κ C) : PostG C := fun _ _ c _ h ρ H => Z.P (Z.fin c h) ρ H
def REndG (X : Cx) (Z : Cons G κ C) : GenEnd := fun _ _ r s1 =>
  ((r = .ok (.ret .none) ∨ r = .ok .next) ∧ ∃ (rb : Rb κ) (σ : L2.St) (ρ : List Addr) (h : Hi) (H : Hp) (cc : C), Inv (gF X rb) [] σ H s1 ∧ Ag G ρ h H ∧ Z.AC ρ H cc rb.c ∧ Z.CI rb ∧ Z.P (Z.fin cc h) ρ H) ∨
  ∃ e : Value, r = .error e ∧ ∃ (rb : Rb κ) (b : Bool), Z.CI rb ∧ Z.Md b rb ∧ CXP X.prog X.w X.outer rb.H { rb.s with heap := cut rb.s.heap X.s_0.heap.objs.size } rb.E (X.pn ++ rb.pn) e s1
abbrev GMA := {C : Type} → GMS C
def GMadeM (P : Program) (w : World) (K : PySem.W.Frag) (mg : Str → Option Value) (base : Heap) (G : Gx) (k : Nat) (outer : List Env) (H : Hp) (s : Shared) (gm : GMA) (m : Nat) (vs : List V) (u : Value) (s' : Shared) : Prop :=
  ∃ (a : Addr) (g : Nat) (c : Code) (N : List Str) (qual : Str) (scope : Scope) (f : Addr) (cdv : Value) (go : Obj) (nm qn : Value), u = .ref a ∧ s.heap.objs.size ≤ a ∧ s'.heap.get? a = some go ∧ go.cls = .type "generator" ∧ go.data = .fields #[.int g 0, nm, qn] ∧ go.slots = #[] ∧ s'.gens[g]? = some (.fresh c) ∧ s'.os = s.os ∧ AllBare s'.gens ∧ s'.heap.NoLimit ∧ (∀ b o, s.heap.get? b = some o → s'.heap.get? b = some o) ∧ (∀ n, cellsFrom n scope.names [] = []) ∧
    ∀ (A : Around) (κ C : Type) (Z : Cons G κ C) (s2 : Shared) (c0 : κ) (ρ : List Addr) (h : Hi) (args : List VI) (cc : C) (n : Nat) (pn : List (Addr × Obj)) (H2 : Hp), Room k A → A.frames = some outer → Un (frs outer) [] H H2 s'.heap s2.heap → HOk P w H2 s2.heap → s2.os = s.os → AllBare s2.gens →
      RVs G ρ H2 args vs → Ag G ρ h H2 → Z.AC ρ H2 cc c0 → (∀ p ∈ pn, s2.heap.get? p.1 = some p.2 ∧ H2 p.1 = none ∧ s'.heap.objs.size ≤ p.1 ∧ ∀ v, p.2.data ≠ .cell v) → Z.CI ⟨s2, H2, c0, Z.E0, pn⟩ → Z.fst ⟨s2, H2, c0, Z.E0, pn⟩ → NxK Z (endPost Z) (gm Z.cb true (args.map some ++ List.replicate m none) cc n h) ρ H2 →
      Seg (model P w) A (REndG (gcxOf P w K mg base N qual scope f cdv A outer s H noE [(a, go)]) Z) (YG (gcxOf P w K mg base N qual scope f cdv A outer s H noE [(a, go)]) Z) n s2 c ((model P w).den c) [] s2
structure GFnM (P : Program) (w : World) (K : PySem.W.Frag) (mg : Str → Option Value) (base : Heap) (G : Gx) (k : Nat) (f : Addr) (fd : FuncData) (ps : List Str) (gm : GMA) (m : Nat) : Prop where
  run : ∀ (A : Around) (outer : List Env) (s : Shared) (H : Hp) (args : Args) (us : List Value) (vs : List V), Room k A → Env0 P w K mg base A outer s H → BindsTo s fd args (ps.zip us) → Vals vs us → vs.length = ps.length →
    codeAny (model P w) A (.call (.ref f) args) (fun r s' => match r with | .ok (.ret u) => GMadeM P w K mg base G k outer H s gm m vs u s' | _ => False) s
section
variable {P : Program} {w : World} {K : PySem.W.Frag} {mg : Str → Option Value} {base : Heap} {N ps : List Str} {qual : Str} {scope : Scope} {f : Addr} {A : Around} {outer : List Env} {s : Shared} {H : Hp} {pn : List (Addr × Obj)} {cdv : Value}
theorem takes_gF {E : XK} (r : Rb κ) : Takes (gF (gcxOf P w K mg base N qual scope f cdv A outer s H E pn) r) (gW r) := fun u s' x =>
  leaveP (X := gF (gcxOf P w K mg base N qual scope f cdv A outer s H E pn) r) (W := gW r) (E := r.E) rfl rfl rfl (fun _ _ _ _ h => h) x
theorem owns_gF {E : XK} (r : Rb κ) : PassesOwn (model P w) (gcxOf P w K mg base N qual scope f cdv A outer s H E pn).A (gcxOf P w K mg base N qual scope f cdv A outer s H E pn).env (gF (gcxOf P w K mg base N qual scope f cdv A outer s H E pn) r).xe :=
  passes_of (X := gF (gcxOf P w K mg base N qual scope f cdv A outer s H E pn) r) (K := fun e s'' => CXP P w outer r.H { r.s with heap := cut r.s.heap s.heap.objs.size } r.E (pn ++ r.pn) e s'') (E₁ := fun _ _ => False) rfl
theorem un_more {fs fs' ex : List Addr} {H H' : Hp} {h h' : Heap} (u : Un fs ex H H' h h') (hs : ∀ b ∈ fs, b ∈ fs') : Un fs' ex H H' h h' :=
  ⟨fun b o e n hb hx => u.keep b o e n (fun z => hb (hs b z)) hx, fun b o e n _ hx => u.any e n hx, u.free, u.there, u.tups, u.frzs, u.tbls⟩
theorem gfnM_of {k m : Nat} {name : Str} {params : Arguments} {body : List Stmt} {dV kV doc pm ct oc : Value} {an od : Option Addr} {osl : Array (Option Value)} {gm : GMA} (lk : K.lookup f = some ⟨oc, od, .func (PySem.W.fnOf name qual params body scope dV kV doc pm an cdv ct), osl⟩) (hcd : PySem.W.codeIn K cdv qual = true) (S : GScope N ps scope)
    (hcl : ∀ n, cellsFrom n scope.names [] = []) (hn : N.length = ps.length + m)
    (hbody : ∀ (A : Around) (outer : List Env) (s : Shared) (H : Hp) (pn : List (Addr × Obj)) (κ C : Type) (Z : Cons G κ C), Room k (A.deeper (envOfC qual scope s.heap.objs.size f cdv)) → GSMs (gcxOf P w K mg base N qual scope f cdv A outer s H noE pn) Z body (gm (C := C))) :
    GFnM P w K mg base G (k + 1) f (PySem.W.fnOf name qual params body scope dV kV doc pm an cdv ct) ps gm m := by
  refine ⟨fun A outer s H args us vs hr e0 hb r hl => ?_⟩
  have KX : K.In s.heap := e0.mod.kin.keeps fun b o e => (e0.bs b o e).1
  have lim : s.heap.NoLimit := e0.mod.nolimit.keeps fun b o e => (e0.bs b o e).1
  have hkind : ∀ y ∈ ps.zip us, scope.names.lookup y.1 = some .local ∨ (scope.names.lookup y.1 = some .cell ∧ ((cellsFrom (s.heap.objs.size + 1) scope.names []).lookup y.1).isSome = true) := fun ⟨n, v⟩ hy => by
    rcases S.par n (List.of_mem_zip hy).1 with q | q
    · exact .inl q
    · exact .inr ⟨q, PySem.W.cellsFrom_some _ _ _ (.inl q)⟩
  refine codeAny_call_generator hr.depth (KX _ _ lk) rfl S.co S.gen rfl (PySem.W.codeRec_of KX hcd) (hb _ _ _ _ ?_)
  refine wpAny_newFunctionEnv_cells S.kind hkind fun env he s1 x => ?_
  subst he
  have lim1 : s1.heap.NoLimit := lim.keeps x.toInCall.keep
  refine ⟨lim1, ?_⟩
  obtain ⟨h1, tk, es1, hk1⟩ := x.done
  have os1 : s1.os = s.os := by rw [es1]
  have gen1 : s1.gens = s.gens := by rw [es1]
  have lt1 : s.heap.objs.size < s1.heap.objs.size := x.toInCall.ns.lt
  have sz1 : s.heap.objs.size ≤ s1.heap.objs.size := Nat.le_of_lt lt1
  have kp1 : ∀ b o, s.heap.get? b = some o → s1.heap.get? b = some o := x.toInCall.keep
  have main : ∀ (go : Obj) (nm qn : Value) (tk2 : Nat), go.cls = .type "generator" → go.data = .fields #[.int s1.gens.size 0, nm, qn] → go.slots = #[] → (∀ h : Heap, (h.push go).get? h.objs.size = some go) →
      GMadeM P w K mg base G (k + 1) outer H s gm m vs (.ref s1.heap.objs.size) { s1 with gens := s1.gens.push (.fresh (.func body (envOfC qual scope s.heap.objs.size f cdv))), toks := tk2, heap := s1.heap.push go } := by
    intro go nm qn tk2 hgc hgd0 hgs hgp
    have hpushed : (s1.heap.push go).get? s1.heap.objs.size = some go := hgp _
    refine ⟨s1.heap.objs.size, s1.gens.size, _, N, qual, scope, f, cdv, go, nm, qn, rfl, sz1, hpushed, hgc, hgd0, hgs, Array.getElem?_push_size .., os1, ?_, lim1.keeps fun b o e => Heap.get?_push_of_some _ e, fun b o e => Heap.get?_push_of_some _ (kp1 b o e), hcl, ?_⟩
    · exact AllBare.push (by rw [gen1]; exact e0.bare) rfl
    intro Aw κ C Z s2 c0 ρ h args cc n pn H2 hrw hfr hun hok2 hos hba ra ag ac hpn ci hf hq
    have e0w : Env0 P w K mg base Aw outer s H := ⟨hfr, e0.mod, e0.bs, e0.bsz, e0.funs, e0.frf, e0.hok, e0.bare⟩
    have I1 : Inv (gcxOf P w K mg base N qual scope f cdv Aw outer s H noE []) [] (start N vs) H s1 := inv_startG S hrw.hd e0w hl r x
    have I1g : Inv (gcxOf P w K mg base N qual scope f cdv Aw outer s H noE []) [] (start N vs) H { s1 with heap := s1.heap.push go } := I1.kept (t' := s1.toks) fun b o e => Heap.get?_push_of_some _ e
    have I2 : Inv (gcxOf P w K mg base N qual scope f cdv Aw outer s H noE []) [] (start N vs) H2 s2 :=
      I1g.call' (ch := []) (hos.trans os1.symm) (un_more hun fun b hb => by unfold frs; exact List.mem_cons_of_mem _ hb) hok2 hba fun b z => by simp at z
    have hea : s2.heap.get? s1.heap.objs.size = some go := hun.keep _ go hpushed (I1.hok.fresh (Nat.le_refl _)) (I1.nofs (Nat.le_refl _)) (by simp)
    have hgd : ∀ v, go.data ≠ .cell v := fun v q => by rw [hgd0] at q; cases q
    have young : ∀ b, s1.heap.objs.size ≤ b → b ≠ s.heap.objs.size ∧ b ∉ frs outer := fun b hb =>
      ⟨Nat.ne_of_gt (Nat.lt_of_lt_of_le lt1 hb), I1.nofs hb⟩
    have I3 : Inv (gcxOf P w K mg base N qual scope f cdv Aw outer s H noE [(s1.heap.objs.size, go)]) [] (start N vs) H2 s2 := Inv.pinnedG I2 fun p hp => by
      have z : p ∈ [(s1.heap.objs.size, go)] := by simpa using hp
      rw [List.mem_singleton.mp z]
      obtain ⟨y2, y3⟩ := young s1.heap.objs.size (Nat.le_refl _)
      exact ⟨hea, hun.free _ go hpushed (I1.hok.fresh (Nat.le_refl _)) (by simp), y2, y3, hgd⟩
    have I4 : Inv (gF (gcxOf P w K mg base N qual scope f cdv Aw outer s H noE [(s1.heap.objs.size, go)]) ⟨s2, H2, c0, Z.E0, pn⟩) [] (start N vs) H2 s2 := rebase I3 rfl (hcl _) fun p hp => (List.mem_append.mp hp).imp id fun z => by
      obtain ⟨q1, q2, q3, q4⟩ := hpn p z
      have q3' : (s1.heap.push go).objs.size ≤ p.1 := q3
      rw [Heap.size_push] at q3'
      obtain ⟨y2, y3⟩ := young p.1 (Nat.le_of_succ_le q3')
      exact ⟨q1, q2, y2, y3, q4⟩
    have szs : s.heap.objs.size ≤ s2.heap.objs.size := I2.sz
    refine seg_func ?_
    refine (hbody Aw outer s H [(s1.heap.objs.size, go)] κ C Z (hrw.deeper _)).run Aw _ n s2 _ [] _ _ id id s2 ⟨s2, H2, c0, Z.E0, pn⟩ [] true (start N vs) _ ρ h H2 cc (endPost Z) ⟨over_func, rfl, rfl, rfl⟩ ⟨fun n' s₀' s' r' b' σi' cc' h' ρ' σ' H' q' f' => ?_, fun _ _ _ _ _ _ _ _ _ st f => Z.pL st f, fun n' s₀' s' b' r' e ci' md' hx => ?_⟩ ⟨I4, ags_start ra (by rw [hl]; exact hn), ag, ac, ci, ⟨rfl, hf⟩, szs, fun p hp q hq => by cases hq⟩ hq
    · exact seg_end (.ok (.ret .none)) (.inl ⟨.inl rfl, r', σ', ρ', h', H', cc', q'.inv, q'.ag, q'.ac, q'.ci, f'⟩)
    · refine seg_wrap ?_
      rw [over_func]
      refine wpAny_mono (show wpAny (model P w) (Aw.deeper (envOfC qual scope s.heap.objs.size f cdv)) (leaving (envOfC qual scope s.heap.objs.size f cdv) e) (fun _ s'' => CXP P w outer r'.H { r'.s with heap := cut r'.s.heap s.heap.objs.size } r'.E ([(s1.heap.objs.size, go)] ++ r'.pn) e s'') (fun _ _ => False) s' from hx) (fun _ s'' q => ?_) fun _ s'' q => q.elim
      exact seg_end (.error e) (.inr ⟨e, rfl, r', b', ci', md', q⟩)
  exact main _ _ _ _ rfl rfl rfl fun h => Heap.get?_push_size _ rfl
theorem gfn_MM {k m : Nat} {x : Str} {params : Arguments} {body : List Stmt} {dvs : List V} {kws : List (Str × V)} {fd : FuncData} {gm : GMA} (F : FunD K x qual params body scope dvs kws f fd) (S : GScope N ps scope) (hcl : ∀ n, cellsFrom n scope.names [] = []) (hn : N.length = ps.length + m)
    (hb : ∀ (cdv : Value) (A : Around) (outer : List Env) (s : Shared) (H : Hp) (pn : List (Addr × Obj)) (κ C : Type) (Z : Cons G κ C), Room k (gcxOf P w K mg base N qual scope f cdv A outer s H noE pn).A → (gcxOf P w K mg base N qual scope f cdv A outer s H noE pn).env.cells = [] →
      (∀ r : Rb κ, Takes (gF (gcxOf P w K mg base N qual scope f cdv A outer s H noE pn) r) (gW r)) →
      (∀ r : Rb κ, PassesOwn (model P w) (gcxOf P w K mg base N qual scope f cdv A outer s H noE pn).A (gcxOf P w K mg base N qual scope f cdv A outer s H noE pn).env (gF (gcxOf P w K mg base N qual scope f cdv A outer s H noE pn) r).xe) →
      GSMs (gcxOf P w K mg base N qual scope f cdv A outer s H noE pn) Z body (gm (C := C))) : GFnM P w K mg base G (k + 1) f fd ps gm m := by
  obtain ⟨oc, od, dV, kV, doc, pm, an, cdv, ct, osl, rfl, lk, hcd, _, _⟩ := F.ex
  exact gfnM_of lk hcd S hcl hn fun A outer s H pn κ C Z hr => hb cdv A outer s H pn κ C Z hr (hcl _) (takes_gF ·) (owns_gF ·)
end
end ML
end
section
namespace GQ
open PySem PySem.Spec PyProof.Rows L2 GenW
section
variable {M : Model}
def GoesN (M : Model) (A : Around) (R : GenEnd) (Y : Protocol) (gs : GenState) : Nat → Resume → Shared → Prop
  | 0, _, _ => False
  | m + 1, r, s => gs.Goes M A R Y m r s
theorem wpAny_resumeS {A : Around} {R : GenEnd} {Y : Protocol} {n : Nat} {E : Value → Shared → Prop} {s : Shared} {g : Nat} {gs : GenState}
    {r : Resume} {l : List Value} {α : Type} {k : GenResult → Sem α} {Q : α → Shared → Prop} (hg : s.gens[g]? = some gs)
    (hgo : gs.Goes M A R Y n r (s.setGen g .running))
    (hR : ∀ x s₁, R n (s.setGen g .running) x s₁ → wpAny M A (k (End.ret x).result) Q E (s₁.setGen g .finished))
    (hY : ∀ v s₁ gs', isSus gs' = true → gs'.bare = true → g < s₁.gens.size → Y (n - 1) (s.setGen g .running) v s₁ (fun r' s'' => GoesN M A R Y gs' n r' s'') →
      wpAny M A (k (.yielded v)) Q E (s₁.setGen g gs')) :
    wpAny M A (.resume g r l k) Q E s := by
  intro Γ p hΓ
  rw [Sem.wp_resume]
  have hB : ∀ c, (Γ.wake c p).Woken A := fun c => hΓ.wake c p
  have hlt : g < (s.setGen g .running).gens.size := by
    rw [setGen_size]
    exact (Array.getElem?_eq_some_iff.mp hg).1
  have fin : ∀ {Γ' p' t fs} e₁ s₁, Runs M Γ' p' t fs (s.setGen g .running) e₁ s₁ → SegEnd R Y n (Seg.next M A R Y n) (s.setGen g .running) e₁ s₁ →
      Sem.wp M Γ (k e₁.result) (fun a _ s' => Q a s') (fun e _ s' => E e s') p (s₁.setGen g e₁.genState) := by
    intro Γ' p' t fs e₁ s₁ hr he
    cases e₁ with
    | ret x => exact hR x s₁ he Γ p hΓ
    | susp v g₀ l₀ k₀ c₀ p₀ fs₀ =>
      refine hY v s₁ _ rfl (End.bare_of_quiet he.1) (Nat.lt_of_lt_of_le hlt (runs_gsz hr)) ?_ Γ p hΓ
      cases n with
      | zero => exact he.2
      | succ m => exact he.2
  have hqt : ∀ e₁ s₁, SegEnd R Y n (Seg.next M A R Y n) (s.setGen g .running) e₁ s₁ → e₁.quiet = true := by
    intro e₁ s₁ he
    cases e₁ with
    | ret x => rfl
    | susp v g₀ l₀ k₀ c₀ p₀ fs₀ => exact he.1
  cases gs with
  | fresh c =>
    obtain ⟨rfl, hs⟩ := hgo
    obtain ⟨e₁, s₁, hr, he⟩ := seg_iff.mp hs (Γ.wake c p) p rfl (hB c)
    exact ⟨_, _, by unfold Wakes; rw [hg]; exact ⟨e₁, s₁, hr, hqt e₁ s₁ he, rfl, rfl⟩, fin e₁ s₁ hr he⟩
  | suspended k₀ l₀ c₀ p₀ fs₀ cl =>
    obtain ⟨e₁, s₁, hr, he⟩ := seg_iff.mp hgo (Γ.wake c₀ p) p₀ rfl (hB c₀)
    exact ⟨_, _, by unfold Wakes; rw [hg]; exact ⟨e₁, s₁, hr, hqt e₁ s₁ he, rfl, rfl⟩, fin e₁ s₁ hr he⟩
  | running => exact hgo.elim
  | finished => exact hgo.elim
end
section
variable {P : Program} {w : World} {A : Around} {E : Value → Shared → Prop} {s : Shared}
theorem next_genS {a : Addr} {g n : Nat} {gs : GenState} {F : Nat → Shared → Shared → Prop} {Er : Value → Shared → Prop} {Y : Protocol} {Q : Option Value → Shared → Prop} (hh : A.handled = none)
    (hl : s.heap.NoLimit) (hroom : A.depth < recursionLimit) (hg : s.heap.IsGen a g) (hgs : s.gens[g]? = some gs)
    (hgo : gs.Goes (model P w) A.in1 (fun n s₀ r s₁ => ((r = .ok (.ret .none) ∨ r = .ok .next) ∧ F n s₀ s₁) ∨ ∃ e, r = .error e ∧ Er e s₁) Y n (.send .none) (s.setGen g .running))
    (hY : ∀ v s₁ gs', isSus gs' = true → gs'.bare = true → g < s₁.gens.size → Y (n - 1) (s.setGen g .running) v s₁ (fun r' s'' => GoesN (model P w) A.in1 (fun n s₀ r s₁ => ((r = .ok (.ret .none) ∨ r = .ok .next) ∧ F n s₀ s₁) ∨ ∃ e, r = .error e ∧ Er e s₁) Y gs' n r' s'') → Q (some v) (s₁.setGen g gs'))
    (hP : ∀ s₁, F n (s.setGen g .running) s₁ → ∀ h', (∀ b o, s₁.heap.get? b = some o → h'.get? b = some o) → Q none { s₁.setGen g .finished with heap := h' })
    (hE : ∀ e s₁, Er e s₁ → s₁.heap.IsGen a g ∧ NotStop (model P w) e s₁.heap ∧ E e (s₁.setGen g .finished)) :
    wpAny (model P w) A (pyNext (.ref a)) Q E s := by
  unfold pyNext
  refine wpAny_bind (wpAny_attempt (wpAny_callSpecial?_slot (name := Str.ofString "__next__") hg.typeIs slot_gen_next
    (wpAny_call_entry slot_gen_next hg.typeIs entry_gen_next ?_ (args_gen_next _))))
  show wpAny _ A.in1 (Builtin.Generator.genWake (.ref a) (.send .none)) _ _ s
  unfold Builtin.Generator.genWake
  refine wpAny_bind (wpAny_holding (wpAny_genNumber hg (wpAny_bind (wpAny_genState hgs ?_))))
  cases gs with
  | running => exact hgo.elim
  | finished => exact hgo.elim
  | _ =>
    refine wpAny_bind (wpAny_roomToWake hl hroom ?_)
    show wpAny _ A.in1 (.resume g (.send .none) [] _) _ _ s
    refine wpAny_resumeS hgs hgo (fun x s₁ hx => ?_) (fun v s₁ gs' hz hb hlt hv => ?_)
    · rcases hx with ⟨hr, hp⟩ | ⟨e, rfl, he⟩
      · have hres : End.result (.ret x) = .returned .none := by
          rcases hr with hr | hr <;> rw [hr] <;> rfl
        first | rw [hres] | simp only [hres]
        show wpAny _ A.in1 (newExc (.type "StopIteration") [] >>= _) _ _ _
        refine wpAny_bind ?_
        simp only [newExc, newTuple]
        refine wpAny_bind (wpAny_newObj_type ?_ (by size_fits))
        refine wpAny_bind (m := firstArgMember _ _) (wpAny_of_eq (a := Value.none) (by first | rfl | (simp only [firstArgMember]; rfl)) ?_)
        refine wpAny_newObj_type ?_ (by size_fits)
        simp only [raiseNew]
        refine wpAny_bind (wpAny_bind (wpAny_handled ?_))
        first | rw [show A.in1.handled = none from hh] | rw [hh]
        refine wpAny_throw ?_
        refine wpAny_bind (wpAny_isInstance (T := "StopIteration") (b := true) ⟨_, Heap.get?_push_size _ rfl, rfl⟩ isSubtype_stop ?_)
        exact wpAny_pure (hP s₁ hp _ fun b o hb => Heap.get?_push_of_some _ (Heap.get?_push_of_some _ hb))
      · obtain ⟨hg1, hns, hq⟩ := hE e s₁ he
        obtain ⟨o, nm, qn, ho, hc, hd, hsl⟩ := hg1
        show wpAny _ A.in1 (Builtin.Generator.genLeft (.ref a) e) _ _ _
        unfold Builtin.Generator.genLeft Builtin.Generator.madeByALambda
        refine wpAny_bind (wpAny_bind (wpAny_load (o := o) ho (wpAny_pure ?_)))
        refine wpAny_bind (hns _ _ _ _ rfl ?_)
        rw [Bool.and_false, if_neg Bool.false_ne_true]
        unfold Builtin.Generator.genEscaped
        first
          | refine wpAny_bind (hns _ _ _ _ rfl ?_)
          | refine wpAny_bind (wpAny_pure (wpAny_bind (hns _ _ _ _ rfl ?_)))
        rw [if_pos (show (!false) = true from rfl)]
        first
          | refine wpAny_throw ?_
          | refine wpAny_bind (wpAny_throw ?_)
        refine wpAny_bind (hns _ _ _ _ rfl ?_)
        rw [if_neg Bool.false_ne_true]
        exact wpAny_throw hq
    · exact wpAny_pure ⟨v, rfl, wpAny_pure (hY v s₁ gs' hz hb hlt hv)⟩
end
end GQ
end
section
namespace ML
open PySem PySem.Spec PyProof.Rows L2 GenW GQ
def yRun {C : Type} (np m : Nat) (gm : GMS C) (cb : CB C) (vs : List VI) (cc : C) (h : Hi) : RG C := match Nat.beq vs.length np with
  | true => gm cb true (vs.map some ++ List.replicate m none) cc 1000000 h
  | false => .err
def cbFor (g : MG) (mb : MS) : CB Sg := fun x σ h => match (g x σ h).andThen mb with
  | .nx σ' h' => .go σ' h'
  | .ct σ' h' => .go σ' h'
  | .bk σ' h' => .stop (.nx σ' h')
  | .rt v h' => .stop (.rt v h')
  | _ => .err
def exY (cs : List Nat) (k i : Nat) (σ : Sg) (h : Hi) : RS := match cs.contains k with
  | true => .ex k i σ h
  | false => .err
def finY (cs : List Nat) : RG Sg → RS
  | .nx _ _ σ _ h => .nx σ h
  | .out r => r
  | .ex k i σ h => exY cs k i σ h
  | .err => .err
def sForG (cs : List Nat) (np m : Nat) (gm : GMA) (ma : MA) (g : MG) (mb : MS) : MS := fun σ h => (ma σ h).bindS σ fun vs h1 => finY cs (yRun np m gm (cbFor g mb) vs σ h1)
structure PGenM (X : Cx) (G : Gx) (k : Nat) (e : Expr) (gm : GMA) (m np : Nat) (t : TA) : Prop where
  run : ∀ (pins : List (Addr × Obj)) (s : Shared) (σ : L2.St) (H : Hp) (Q : List V → Hp → Prop), Inv X pins σ H s → (t σ H fun vs H1 => vs.length = np ∧ Q vs H1) → wpAny (model X.prog X.w) X.A (eval e X.env)
    (fun u s' => ∃ vs H1 sc, Inv X pins σ H1 sc ∧ GMadeM X.prog X.w X.K X.mg X.base G k X.stack H1 sc gm m vs u s' ∧ Q vs H1) X.xe s
theorem pgenM_call {X : Cx} {G : Gx} {k m : Nat} {f : Addr} {fd : FuncData} {ps : List Str} {gm : GMA} {x : Str} {p pos' : Pos} {e : Expr} {es : List Expr} {t : TA} (F : GFnM X.prog X.w X.K X.mg X.base G k f fd ps gm m) (hr : Room k X.A) (hg : Gl X x) (hm : X.mg x = some (.ref f)) (hk : PySem.W.keepIn X.K (.ref f) = true) (hb : Binds X.K fd ps [])
    (ha : PA X (e :: es) t) (hdb : (x == ("__debug__" : Str)) = false := by decide) (he : starEach (e :: es) X.env = (false, eval e X.env) :: starEach es X.env := by rfl) (hpl : (backTo pos' (starEach es X.env)).any (·.1) = false := by rfl) :
    PGenM X G k (.Call (.Name x p) (e :: es) [] pos') gm m ps.length t := by
  refine ⟨fun pins s σ H Q I h => ?_⟩
  refine wpAny_Call_Name_kw (ld_glob I hg hm ?_ hdb)
  refine PySem.W.callWith_K (h₀ := X.base) I.ok.mod.kin hk (thn (ha.run pos' pins s σ H _ I h) fun us s1 ⟨vs, H1, I1, r, hl, q⟩ => ⟨I1.kIn, ?_⟩) he hpl
  have hl2 : us.length = ps.length := by rw [← r.length]; exact hl
  have hb2 := hb s1 us I1.kIn (by rw [List.append_nil]; exact hl2)
  rw [List.append_nil] at hb2
  refine wpAny_call (codeAny_mono (F.run X.A X.stack s1 H1 ⟨us, []⟩ us vs hr I1.env0 hb2 r hl) fun r s' hq => ?_)
  cases r with
  | error e => exact False.elim hq
  | ok fl =>
    cases fl with
    | ret u => exact ⟨vs, H1, s1, I1, hq, q⟩
    | next => exact False.elim hq
    | brk => exact False.elim hq
    | cont => exact False.elim hq
section
variable {G : Gx} {W : WX} {X : Cx} {pins : List (Addr × Obj)} {σ : L2.St} {H : Hp} {s : Shared}
theorem withG {s' : Shared} (I : Inv X pins σ H s) (hh : s'.heap = s.heap) (ho : s'.os = s.os) (hb : AllBare s'.gens) : Inv X pins σ H s' := by
  obtain ⟨h', g', d', t', o'⟩ := s'
  obtain rfl : h' = s.heap := hh
  obtain rfl : o' = s.os := ho
  exact ⟨I.ok, I.os, hb, I.base, I.loc, I.cell, I.free, I.freeC, I.pin, I.hok, I.len⟩
def noStW (X : Cx) (W : WX) (σ : L2.St) : XK := fun c d H => WE W σ c d H ∧ PySem.W.subIn X.K c (.type "StopIteration") = some false
end
end ML
end
section
namespace ML
open PySem PySem.Spec PyProof.Rows L2 GenW GQ
def cbLst : CB (List VI) := fun x acc h => match small (acc.length + 1) with
  | true => .go (acc ++ [x]) h
  | false => .err
def finL (cs : List Nat) : RG (List VI) → Res VI
  | .nx _ _ acc _ h => .ok (.ref h.length) (h ++ [.lst acc])
  | .ex k i _ h => match cs.contains k with
    | true => .ex k i h
    | false => .err
  | _ => .err
def eListY (cs : List Nat) (np m : Nat) (gm : GMA) (ma : MA) : ME := fun σ h => (ma σ h).bind fun vs h1 => finL cs (yRun np m gm cbLst vs [] h1)
section
variable {G : Gx} {W : WX} {X : Cx} {pins : List (Addr × Obj)} {σ : L2.St} {H : Hp} {s : Shared} {Q : VK}
end
end ML
end
section
namespace ML
open PySem PySem.Spec PyProof.Rows L2 He GenW GQ
structure DOkY (P : Program) (w : World) (K : PySem.W.Frag) (mg : Str → Option Value) (base : Heap) (nm : Nat → Option Str) (k : Nat) (p : Defn) (ps : List Str) (gm : GMA) (m : Nat) : Prop where
  ok : GFnM P w K mg base (GxOf K mg nm) k (p K) (fdOf K p) ps gm m
  kp : PySem.W.keepIn K (.ref (p K)) = true
theorem xgenY {X : Cx} {W : WX} {k k' m : Nat} {ps : List Str} {gm : GMA} {nm : Nat → Option Str} {ma : MA} {x : Str} {p pos' : Pos} {e : Expr} {es : List Expr} (d : DOkY X.prog X.w X.K X.mg X.base nm k (gA x) ps gm m) (bn : BOk X.K (gA x) ps) (hr : Room k' X.A) (hm : X.mg x = some (.ref (ga X.K x)))
    (ha : PA X (e :: es) (rdA (GxOf X.K X.mg nm) W ma)) (h : k + 3 ≤ k' := by decide) (hg : Gl X x := by rfl) (hdb : (x == ("__debug__" : Str)) = false := by decide)
    (he : starEach (e :: es) X.env = (false, eval e X.env) :: starEach es X.env := by rfl) (hpl : (backTo pos' (starEach es X.env)).any (·.1) = false := by rfl) : PGenM X (GxOf X.K X.mg nm) k (.Call (.Name x p) (e :: es) [] pos') gm m ps.length (rdA (GxOf X.K X.mg nm) W ma) :=
  pgenM_call d.ok (hr.mono (Nat.le_trans (Nat.le_add_right k 3) h)) hg hm d.kp bn ha hdb he hpl
end ML
end
section
namespace ML
open PySem PySem.Spec PyProof.Rows L2 He
def fEqZ : Op2 := fun x y h => match x, y with
  | .ref a, .ref b => match h[a]?, h[b]? with
    | some (.lst xa), some (.lst xb) => match Nat.beq xa.length xb.length with
      | true => fEqX x y h
      | false => some (.bl false, h)
    | _, _ => fEqX x y h
  | _, _ => fEqX x y h
section
variable {G : Gx} {ρ : List Addr} {h : Hi} {H : Hp} {X : Cx} {Q : VK}
end
section
variable {r : List Nat} {s h : Hi}
instance : LOp fEqZ := ⟨fun r s h x y x' y' g p q => by
  have old := LOp.run (f := fEqX) r s h x y x' y' g p q
  unfold fEqZ
  cases p with
  | ref i =>
    cases q with
    | ref j =>
      obtain ⟨o, o', z1, z2, z3⟩ := g.no i
      obtain ⟨u, u', y1, y2, y3⟩ := g.no j
      dsimp only
      rw [z1, z2, y1, y2]
      cases z3 with
      | lst t =>
        cases y3 with
        | lst t' =>
          dsimp only
          rw [← t.length, ← t'.length]
          rename_i ka kb la lb
          cases f : Nat.beq ka.length la.length with
          | true => exact old
          | false => exact .ok g (.bl _)
        | _ => exact old
      | _ => exact old
    | _ => exact old
  | _ => exact old⟩
end
end ML
end
section
namespace L2
open PySem PySem.Spec PyProof.Rows
section
variable {X : Cx}
end
end L2
namespace ML
open PySem L2
def fMulX : Op2 := fun x y h => match x, y with
  | .tup xs, .int k => match decide (k = 1) with
    | true => some (.tup xs, h)
    | false => match decide (k = 0) && !xs.isEmpty with
      | true => some (.tup [], h)
      | false => fMul x y h
  | x, y => fMul x y h
variable {X : Cx} {G : Gx}
instance : LOp fMulX := ⟨fun r s h x y x' y' g p q => by
  have fb := LOp.run (f := fMul) r s h _ _ _ _ g p q
  unfold fMulX
  cases p with
  | tup i =>
    cases q with
    | int j =>
      dsimp only
      rw [isEmp2 i]
      split
      · exact .ok g (.tup i)
      · split
        · exact .ok g (.tup .nil)
        · exact fb
    | _ => exact fb
  | _ => exact fb⟩
end ML
end
section
namespace ML
open PySem PySem.Spec PyProof.Rows L2 He
section
variable {G : Gx} {W : WX} {X : Cx} {A : Around} {ρ : List Addr} {h : Hi} {H : Hp} {σ : L2.St} {k np : Nat} {f C : Addr} {fd : FuncData} {ps : List Str} {g : MF} {e : Expr} {es : List Expr} {pos p pos' : Pos} {ma : MA} {me : ME} {i : Nat} {x : Str} {tbl : Nat → Option MF}
def eCallI (i : Nat) (tbl : Nat → Option MF) (ma : MA) : ME := fun σ h => match σ[i]? with
  | some (some x) => match insC x h with
    | some _ => (ma σ h).bind fun vs h1 => match insC x h1 with
      | some c => match tbl c with
        | some g => g (x :: vs) h1
        | none => .err
      | none => .err
    | none => .err
  | _ => .err
def sAugU (i : Nat) (tbl : Nat → Option MF) (e : ME) : MS := fun σ h => match σ[i]? with
  | some (some x) => (e σ h).bindS σ fun y h1 => match insC x h1 with
    | some c => match tbl c with
      | some g => match g [x, y] h1 with
        | .ok z h2 => .nx (σ.set i (some z)) h2
        | _ => .err
      | none => .err
    | none => .err
  | _ => .err
end
def ipB (K : PySem.W.Frag) (x m : Str) (d : PySem.W.Frag → Addr) : Bool := PySem.W.selfFirst K (ga K x) && (eqO (PySem.W.findIn K (.ref (ga K x)) m) (some (some (.ref (d K)))) && PySem.W.isFn K (.ref (d K)))
section
variable {Y : Cx} {W : WX} {nm : Nat → Option Str} {mg : Str → Option Value}
end
section
variable {X : Cx} {W : WX} {nm : Option Str}
end
section
variable {X : Cx} {W : WX} {nm : Nat → Option Str} {e : Expr} {es : List Expr} {p pos : Pos} {ma : MA}
end
section
variable {ma : MA} {me : ME}
instance {i : Nat} {tbl : Nat → Option MF} [c : LTb tbl] [x : LA ma] : LE (eCallI i tbl ma) := ⟨fun r s h σ σ' g a => by
  unfold eCallI
  cases z : σ[i]? with
  | none => trivial
  | some o =>
    cases o with
    | none => trivial
    | some v =>
      obtain ⟨w, k1, k2⟩ := a.at_ i v z
      rw [k1]
      dsimp only
      rw [ins2 g k2]
      cases z0 : insC v s with
      | none => trivial
      | some d0 =>
        dsimp only
        refine (x.run r s h σ σ' g a).bind fun r1 s1 h1 vs vs' e1 g1 q1 => ?_
        rw [ins2 g1 (k2.mono e1)]
        cases z1 : insC v s1 with
        | none => trivial
        | some d =>
          dsimp only
          cases w0 : tbl d with
          | none => trivial
          | some u => exact (c.run _ _ w0).run _ _ _ _ _ g1 (.cons (k2.mono e1) q1)⟩
instance {i : Nat} {tbl : Nat → Option MF} [c : LTb tbl] [y : LE me] : LS (sAugU i tbl me) := ⟨fun r s h σ σ' g a => by
  unfold sAugU
  cases z : σ[i]? with
  | none => trivial
  | some o =>
    cases o with
    | none => trivial
    | some v =>
      obtain ⟨w, k1, k2⟩ := a.at_ i v z
      rw [k1]
      refine (y.run _ _ _ _ _ g a).bindS a fun r1 s1 h1 u u' e1 g1 q1 => ?_
      rw [ins2 g1 (k2.mono e1)]
      cases z1 : insC v s1 with
      | none => trivial
      | some d =>
        dsimp only
        cases w0 : tbl d with
        | none => trivial
        | some f =>
          have t := (c.run _ _ w0).run _ _ _ _ _ g1 (.cons (k2.mono e1) (.cons q1 .nil))
          cases z2 : f [v, u] s1 with
          | err => simp only [z2]; trivial
          | ex _ _ _ => simp only [z2]; trivial
          | ok z h2 =>
            rw [z2] at t
            obtain ⟨r2, h2, v', m1, m2, m3, m4⟩ := t
            simp only [m1, z2]
            exact ⟨r2, h2, _, rfl, m2, m3, ((a.mono e1).mono m2).set m4 i⟩⟩
end
end ML
end
section
namespace ML
open PySem PySem.Spec PyProof.Rows L2 He
def IpOkW (X : Cx) (G : Gx) (W : WX) (op : Operator) (tbl : Nat → Option MF) : Prop := ∀ c C g, tbl c = some g → G.ct c = some C → ∃ f, PySem.W.selfFirst X.K C = true ∧ PySem.W.findIn X.K (.ref C) (dunderI op.info.2) = some (some (.ref f)) ∧ PySem.W.isFn X.K (.ref f) = true ∧ CallAt X X.A G W (.ref f) g
def augEK (i : Nat) (tbl : Nat → Option MF) (σ : Sg) (x y : VI) (h1 : Hi) : RS := match insC x h1 with
  | some c => match tbl c with
    | some g => (g [x, y] h1).bindS σ fun z h2 => .nx (σ.set i (some z)) h2
    | none => .err
  | none => .err
def sAugE (i : Nat) (tbl : Nat → Option MF) (e : ME) : MS := fun σ h => match σ[i]? with
  | some (some x) => (e σ h).bindS σ (augEK i tbl σ x)
  | _ => .err
section
variable {G : Gx} {W : WX} {X : Cx} {op : Operator} {tbl : Nat → Option MF} {e : Expr} {me : ME} {i : Nat} {x : Str} {pos pos' : Pos}
theorem inplaceE (hT : IpOkW X G W op tbl) {pins : List (Addr × Obj)} {s : Shared} {σ : L2.St} {H : Hp} {xv yv : V} {v u : Value} {xi yi : VI} {ρ : List Addr} {h : Hi} {c : Nat} {g : MF} {Q : VK}
    (I : Inv X pins σ H s) (rv : RelV xv v) (ru : RelV yv u) (ag : Ag G ρ h H) (rx : RV G ρ H xi xv) (ry : RV G ρ H yi yv) (q1 : insC xi h = some c) (q2 : tbl c = some g)
    (f : FinG G ρ H (RV G) Q (fun c d H' => W c d σ H') (g [xi, yi] h)) : wpAny (model X.prog X.w) X.A (inplaceOp op v u) (EP X pins σ Q) X.xe s := by
  obtain ⟨ad, C, dx, gs, ex, hc, hH⟩ := insC_ok ag rx q1
  subst ex
  obtain rfl : v = Value.ref ad := rv
  obtain ⟨f', k1, k2, k3, k4⟩ := hT c C g q2 hc
  obtain ⟨m, hF, ox, od, J⟩ := insC_look I hH
  refine PySem.W.ksp_inplace hF I.ok.mod.kin J k1 k2 k3 (wpAny_mono (k4 pins s σ H [.ref ad, u] [.ref ad, yv] [xi, yi] ρ h Q I (.cons rfl (.cons ru .nil)) (.cons rx (.cons ry .nil)) ag f) (fun z s3 ⟨x', H', I', rz, q'⟩ => ?_) fun _ _ z => z)
  unfold PySem.W.CmpBack
  split
  · exfalso
    cases x' <;> first | (cases rz; done) | (obtain ⟨_, k⟩ := rz; cases k)
  · exact ⟨x', H', I', rz, q'⟩
theorem ms_augE (hN : X.N.Nodup) (hi : X.N[i]? = some x) (hx : Loc X.env.scope x) (he : PE X e (rdE G W me)) (hT : IpOkW X G W op tbl) (hf : X.fn x = true ∨ X.env.scope.names.lookup x = some .local := by first | exact .inl rfl | exact .inr rfl | assumption)
    (hl : X.env.scope.names.lookup x = some .local := by first | rfl | assumption) : PS X (.AugAssign (.Name x pos') op e pos) (rdS G W (sAugE i tbl me)) := by
  refine ⟨fun pins s σ H D I ⟨ρ, σi, h, as, ag, fin⟩ => ?_⟩
  unfold sAugE at fin
  cases q : σi[i]? with
  | none => rw [q] at fin; exact fin.elim
  | some o =>
    cases o with
    | none => rw [q] at fin; exact fin.elim
    | some xi =>
      rw [q] at fin
      dsimp only at fin
      obtain ⟨xv, ex, rx⟩ := as.at_ i xi q
      obtain ⟨m, hn, hL⟩ := I.loc
      obtain ⟨v, rv, l⟩ := hL i x xv hi ex (.inl hl)
      have body : wpAny (model X.prog X.w) X.A (eval e X.env) (fun w s₂ => wpAny (model X.prog X.w) X.A (inplaceOp op v w) (fun r s₃ => wpAny (model X.prog X.w) X.A (storeName X.env x r) (fun _ => SP X pins D .next) X.xe s₃) X.xe s₂) X.xe s := by
        have E := he.run pins s σ H (fun y H1 => ∃ ρ1 h1 yi, AgS G ρ1 H1 σi σ ∧ Ag G ρ1 h1 H1 ∧ RV G ρ1 H1 xi xv ∧ RV G ρ1 H1 yi y ∧ FinS G ρ1 H1 D W (augEK i tbl σi xi yi h1)) I
          (rdS_go as ag fin fun ρ1 H1 h1 yi y st as1 ag1 r f1 => ⟨ρ1, h1, yi, as1, ag1, rx.mono st, r, f1⟩)
        refine thn E fun w s1 ⟨y, H1, I1, ry, ρ1, h1, yi, as1, ag1, rx1, ryi, f1⟩ => ?_
        unfold augEK at f1
        cases q1 : insC xi h1 with
        | none => rw [q1] at f1; exact f1.elim
        | some c =>
          rw [q1] at f1
          dsimp only at f1
          cases q2 : tbl c with
          | none => rw [q2] at f1; exact f1.elim
          | some g =>
            rw [q2] at f1
            dsimp only at f1
            refine thn (inplaceE (Q := fun z H2 => D.nx (σ.set i (some z)) H2) hT I1 rv ry ag1 rx1 ryi q1 q2 ?_) fun z s2 ⟨zv, H2, I2, r2, q2⟩ => store_ok I2 hN hi hx r2 (fun s3 I3 => ⟨_, H2, I3, q2⟩) hf
            cases q3 : g [xi, yi] h1 with
            | err => rw [q3] at f1; exact f1.elim
            | ex c' n' h' => rw [q3] at f1; exact fun ρ' H' d C st a hn hc => f1 ρ' H' d C σ st a (as1.mono st) hn hc
            | ok z h' => rw [q3] at f1; exact fun ρ' H' z' st a rz => f1 ρ' H' _ st a ((as1.mono st).set rz i)
      refine wpAny_AugAssign_Name ?_
      rcases l with ⟨hk, hm⟩ | ⟨hk, c, hc, hcell⟩
      · exact wpAny_loadName_local I.ok.kind hk hn hm body
      · rcases hk with hk | hk
        · exact wpAny_loadName_cell I.ok.kind hk hc hcell body
        · have hk : X.env.scope.names.lookup x = some .free := hk
          rw [hl] at hk
          cases hk
def onlyS (mt : Nat → Option Bool) (su : MS) (c n : Nat) (σ : Sg) (h : Hi) : RS := match mt c with
  | some true => match su σ h with
    | .ex _ _ _ _ => .err
    | r => r
  | some false => .ex c n σ h
  | none => .err
def sTryO (body : MS) (mt : Nat → Option Bool) (su : MS) : MS := fun σ h => match body σ h with
  | .ex c n σ' h' => onlyS mt su c n σ' h'
  | r => r
end
section
variable {Y : Cx} {W : WX} {nm : Nat → Option Str} {mg : Str → Option Value}
theorem ipOkW_nil {op : Operator} : IpOkW Y (GxOf Y.K mg nm) W op (lkT []) := fun c C v h _ => nomatch h
theorem ipOkW_cons {op : Operator} {c : Nat} {g : MF} {x m : Str} {d : PySem.W.Frag → Addr} {r : List (Nat × MF)} (hm : dunderI op.info.2 = m) (hn : nm c = some x) (hB : ipB Y.K x m d = true) (cm : CallAt Y Y.A (GxOf Y.K mg nm) W (.ref (d Y.K)) g)
    (t : IpOkW Y (GxOf Y.K mg nm) W op (lkT r)) : IpOkW Y (GxOf Y.K mg nm) W op (lkT ((c, g) :: r)) := fun c' C w h e => by
  rcases lkT_cons h with ⟨q1, q2⟩ | q
  · subst q1 q2
    rw [gx_ct e hn]
    obtain ⟨b3, b4⟩ := ba hB
    obtain ⟨b5, b6⟩ := ba b4
    exact ⟨_, b3, by rw [hm]; exact eqO_ok b5, b6, cm⟩
  · exact t c' C w q e
end
def gLstM (gs : List MG) : MG := fun v σ h => match v with
  | .ref n => match listAt n h with
    | some xs => match Nat.beq xs.length gs.length with
      | true => gSeq gs xs σ h
      | false => .err
    | none => .err
  | _ => .err
section
variable {G : Gx} {W : WX} {X : Cx} {es : List Expr} {gs : List MG} {k : Nat} {pos : Pos}
end
end ML
end
section
namespace ML
open PySem PySem.Spec PyProof.Rows L2 He
def reprS (i : Int) : S := (Str.ofString (toString i)).cps.toList
def cRepr : OpC := fun vs h => match vs with
  | [.int i] => match decide (i.natAbs.log2 < 1920) with
    | true => some (.str (reprS i), h)
    | false => none
  | _ => none
section
variable {G : Gx} {X : Cx}
end
instance : LOc cRepr := ⟨fun r s h vs vs' g t => by
  unfold cRepr
  cases t with
  | nil => trivial
  | cons p t =>
    cases t with
    | cons _ _ => cases p <;> trivial
    | nil =>
      cases p with
      | int i =>
        dsimp only
        cases decide (i.natAbs.log2 < 1920) with
        | false => trivial
        | true => exact .ok g (.str _)
      | _ => trivial⟩
end ML
end
section
namespace ML
open PySem PySem.Spec PyProof.Rows L2 He
def kM (n : Nat) (gk : MK) : MF := fun vs h => match Nat.beq vs.length n with
  | true => gk vs [] h
  | false => .err
instance {n : Nat} {g : MF} {arr : List VI → List VI → List VI} [x : LF g] [y : LAr arr] : LF (kM n (fnK g arr)) := ⟨fun r s h vs vs' a t => by
  unfold kM
  rw [t.length]
  cases Nat.beq vs'.length n with
  | true => exact x.run _ _ _ _ _ a (y.run _ _ _ _ _ t .nil)
  | false => trivial⟩
instance {n m : Nat} {k : OpC} {b b' : MA} [x : LOc k] [y : LA2 n m b b'] : LE2 n m (eCB k b) (eCB k b') := ⟨fun r s h σ σ' q g a => (y.run r s h σ σ' q g a).bind fun r1 s1 h1 v v' e1 g1 q1 => .ofO (x.run _ _ _ _ _ g1 q1)⟩
end ML
end
section
namespace ML
open PySem PySem.Spec PyProof.Rows L2 He
open AutoSeq1 (wpAny_loadPart')
open MeetsSeq
section
variable {prog : Program} {w : World} {A : Around} {E : Value → Shared → Prop} {s : Shared}
end
section
variable {prog : Program} {w : World} {A : Around} {E : Value → Shared → Prop} {s : Shared} {x : Addr} {o : Obj}
end
end ML
end
section
namespace ML
open PySem PySem.Spec PyProof.Rows L2 He
def pch (c : Nat) : Bool := Nat.ble 32 c && (Nat.ble c 126 && (!Nat.beq c 39 && !Nat.beq c 92))
def digS (n : Nat) : S := (Nat.toDigits 10 n).map Char.toNat
def intS : Int → S
  | .ofNat n => digS n
  | .negSucc n => 45 :: digS (n + 1)
def joinS : List S → S
  | [] => []
  | [x] => x
  | x :: y :: r => x ++ ([44, 32] ++ joinS (y :: r))
mutual
def shD : PyData → Option S
  | .none => some [78, 111, 110, 101]
  | .bool b => some (if b then [84, 114, 117, 101] else [70, 97, 108, 115, 101])
  | .int i => if i.natAbs.log2 < 1920 then some (intS i) else none
  | .str x => if x.cps.toList.all pch then some (39 :: (x.cps.toList ++ [39])) else none
  | .list xs => match shDs xs with
    | some ts => some (91 :: (joinS ts ++ [93]))
    | none => none
  | .tuple xs => match shDs xs with
    | some ts => some (40 :: (joinS ts ++ (if ts.length == 1 then [44, 41] else [41])))
    | none => none
  | .dict _ => none
def shDs : List PyData → Option (List S)
  | [] => some []
  | x :: xs => match shD x with
    | some t => match shDs xs with
      | some ts => some (t :: ts)
      | none => none
    | none => none
end
theorem toStr_app (a b : S) : toStr (a ++ b) = toStr a ++ toStr b := by
  show (⟨(a ++ b).toArray⟩ : Str) = ⟨a.toArray ++ b.toArray⟩
  simp
theorem toStr_str (s : String) : (Str.ofString s) = toStr (s.toList.map Char.toNat) := by rw [Str.ofString_eq_toList]; rfl
theorem pch_print : ∀ c < 127, pch c = true → PySem.Unicode.isPrintable c = true := by decide +kernel
theorem rch {c : Nat} (h : pch c = true) : PySem.Builtin.Str.reprChar 39 c = [c] := by
  have h0 := h
  unfold pch at h
  simp only [Bool.and_eq_true, Bool.not_eq_true'] at h
  obtain ⟨h1, h2, h3, h4⟩ := h
  have a1 := Nat.le_of_ble_eq_true h1
  have a2 := Nat.le_of_ble_eq_true h2
  have a3 : c ≠ 39 := fun z => by rw [z] at h3; cases h3
  have a4 : c ≠ 92 := fun z => by rw [z] at h4; cases h4
  have p := pch_print c (by omega) h0
  unfold PySem.Builtin.Str.reprChar
  have b1 : (c == 39) = false := beq_eq_false_iff_ne.mpr a3
  have b2 : (c == 92) = false := beq_eq_false_iff_ne.mpr a4
  have b3 : (c == 10) = false := beq_eq_false_iff_ne.mpr (by omega)
  have b4 : (c == 13) = false := beq_eq_false_iff_ne.mpr (by omega)
  have b5 : (c == 9) = false := beq_eq_false_iff_ne.mpr (by omega)
  simp only [b1, b2, b3, b4, b5, p, Bool.or_self, Bool.false_eq_true, if_false, if_true]
theorem rtext {x : Str} (h : x.cps.toList.all pch = true) : reprText x = toStr (39 :: (x.cps.toList ++ [39])) := by
  have q : reprQuote x = 39 := by
    unfold reprQuote
    have n : x.cps.contains 39 = false := by
      rw [← Array.contains_toList]
      rw [Bool.eq_false_iff]
      intro z
      have := List.all_eq_true.mp h 39 (by simpa using z)
      cases this
    rw [n]
    rfl
  unfold reprText
  rw [q, ← Array.foldl_toList]
  have go : ∀ (l : List Nat) (acc : Array Nat), l.all pch = true → l.foldl (fun out c => out ++ (PySem.Builtin.Str.reprChar 39 c).toArray) acc = (acc.toList ++ l).toArray := by
    intro l
    induction l with
    | nil => intro acc _; simp
    | cons c l ih =>
      intro acc ha
      rw [List.all_cons, Bool.and_eq_true] at ha
      rw [List.foldl_cons, rch ha.1, ih _ ha.2]
      simp
  rw [go _ _ h]
  unfold toStr
  simp
theorem textFrom_join : ∀ (ts : List S) (k : Nat) (acc : Str), textFrom k acc (ts.map toStr) = acc ++ toStr (if k > 0 then (ts.flatMap fun t => [44, 32] ++ t) else joinS ts)
  | [], k, acc => by
    show acc = _
    have e : toStr ([] : S) = ⟨#[]⟩ := rfl
    split
    · show acc = acc ++ toStr []; rw [e]; show acc = ⟨acc.cps ++ #[]⟩; simp
    · show acc = acc ++ toStr []; rw [e]; show acc = ⟨acc.cps ++ #[]⟩; simp
  | t :: r, k, acc => by
    show textFrom (k + 1) (acc ++ (if k > 0 then ", " else "" : String) ++ toStr t) (r.map toStr) = _
    rw [textFrom_join r (k + 1), if_pos (Nat.succ_pos k)]
    have fl : ∀ (x : S) (r : List S), x ++ (r.flatMap fun t => [44, 32] ++ t) = joinS (x :: r) := by
      intro x r
      induction r generalizing x with
      | nil => simp [joinS]
      | cons y r ih => rw [List.flatMap_cons, joinS, ← ih y]; simp
    by_cases hk : k > 0
    · rw [if_pos hk, if_pos hk]
      have c : (Str.ofString ", ") = toStr [44, 32] := toStr_str _
      show (acc ++ Str.ofString ", " ++ toStr t) ++ _ = _
      rw [c, List.flatMap_cons]
      simp only [toStr_app]
      show (⟨_⟩ : Str) = ⟨_⟩
      congr 1
      show (acc.cps ++ _ ++ _) ++ _ = acc.cps ++ ((_ ++ _) ++ _)
      simp only [Array.append_assoc]
    · rw [if_neg hk, if_neg hk, ← fl]
      have c : (Str.ofString "") = toStr [] := toStr_str _
      show (acc ++ Str.ofString "" ++ toStr t) ++ _ = _
      rw [c]
      simp only [toStr_app]
      show (⟨_⟩ : Str) = ⟨_⟩
      congr 1
      show (acc.cps ++ (#[] : Array Nat) ++ _) ++ _ = acc.cps ++ (_ ++ _)
      simp only [Array.append_assoc, Array.append_empty, Array.empty_append]
theorem join_join : ∀ ts : List S, Str.join ", " (ts.map toStr) = toStr (joinS ts)
  | [] => rfl
  | [x] => rfl
  | x :: y :: r => by
    show toStr x ++ Str.ofString ", " ++ Str.join ", " ((y :: r).map toStr) = _
    rw [join_join (y :: r), toStr_str]
    show _ = toStr (x ++ ([44, 32] ++ joinS (y :: r)))
    simp only [toStr_app]
    show (⟨_⟩ : Str) = ⟨_⟩
    congr 1
    show (_ ++ _) ++ _ = _ ++ (_ ++ _)
    simp only [Array.append_assoc]
    rfl
theorem list_text (ts : List S) : listText (ts.map toStr) = toStr (91 :: (joinS ts ++ [93])) := by
  unfold listText
  rw [textFrom_join]
  show Str.ofString "[" ++ _ ++ Str.ofString "]" = _
  rw [if_neg (by decide), toStr_str, toStr_str, ← toStr_app, ← toStr_app]
  rfl
theorem tuple_text (ts : List S) : tupleText (ts.map toStr) = toStr (40 :: (joinS ts ++ (if ts.length == 1 then [44, 41] else [41]))) := by
  unfold tupleText
  rw [join_join, List.length_map]
  have e : (Str.ofString (if ts.length == 1 then ",)" else ")")) = toStr (if ts.length == 1 then [44, 41] else [41]) := by
    split
    · rw [toStr_str]; rfl
    · rw [toStr_str]; rfl
  show Str.ofString "(" ++ _ ++ Str.ofString _ = _
  rw [e, toStr_str, ← toStr_app, ← toStr_app]
  rfl
theorem int_text (i : Int) : (Str.ofString (toString i)) = toStr (intS i) := by
  rw [toStr_str]
  congr 1
  cases i with
  | ofNat n =>
    show (toString (Int.ofNat n)).toList.map Char.toNat = digS n
    have : toString (Int.ofNat n) = Nat.repr n := rfl
    rw [this, Nat.repr]
    unfold digS
    simp
  | negSucc n =>
    have : toString (Int.negSucc n) = "-" ++ Nat.repr (n + 1) := rfl
    rw [this, Nat.repr]
    show _ = 45 :: digS (n + 1)
    unfold digS
    simp
mutual
theorem shD_ok : ∀ (d : PyData) (s : S), shD d = some s → d.shown = toStr s ∧ d.showable = true
  | .none, s, e => by
    cases e
    refine ⟨?_, rfl⟩
    show Str.ofString "None" = _
    rw [toStr_str]; rfl
  | .bool b, s, e => by
    cases e
    refine ⟨?_, rfl⟩
    simp only [PyData.shown]
    cases b
    · exact toStr_str "False"
    · exact toStr_str "True"
  | .int i, s, e => by
    unfold shD at e
    split at e
    · cases e
      rename_i q
      refine ⟨?_, ?_⟩
      · show Str.ofString (toString i) = _
        exact int_text i
      · simp only [PyData.showable, decide_eq_true_eq]; exact q
    · cases e
  | .str x, s, e => by
    unfold shD at e
    split at e
    · cases e
      rename_i q
      exact ⟨rtext q, rfl⟩
    · cases e
  | .list xs, s, e => by
    unfold shD at e
    cases q : shDs xs with
    | none => rw [q] at e; cases e
    | some ts =>
      rw [q] at e
      cases e
      obtain ⟨h1, h2⟩ := shDs_ok xs ts q
      refine ⟨?_, by simp only [PyData.showable]; exact h2⟩
      simp only [PyData.shown]
      rw [h1]
      exact list_text ts
  | .tuple xs, s, e => by
    unfold shD at e
    cases q : shDs xs with
    | none => rw [q] at e; cases e
    | some ts =>
      rw [q] at e
      cases e
      obtain ⟨h1, h2⟩ := shDs_ok xs ts q
      refine ⟨?_, by simp only [PyData.showable]; exact h2⟩
      simp only [PyData.shown]
      rw [h1]
      exact tuple_text ts
  | .dict _, s, e => by cases e
theorem shDs_ok : ∀ (ds : List PyData) (ts : List S), shDs ds = some ts → PyData.shownAll ds = ts.map toStr ∧ PyData.showableAll ds = true
  | [], ts, e => by cases e; exact ⟨rfl, rfl⟩
  | d :: ds, ts, e => by
    unfold shDs at e
    cases q : shD d with
    | none => rw [q] at e; cases e
    | some t =>
      rw [q] at e
      cases q2 : shDs ds with
      | none => rw [q2] at e; cases e
      | some us =>
        rw [q2] at e
        cases e
        obtain ⟨h1, h2⟩ := shD_ok d t q
        obtain ⟨h3, h4⟩ := shDs_ok ds us q2
        refine ⟨?_, ?_⟩
        · simp only [PyData.shownAll, List.map_cons]
          rw [h1, h3]
        · simp only [PyData.showableAll, h2, h4, Bool.and_self]
end
def cRepD : OpC := fun vs h => match vs with
  | [v] => match dat 12 h v with
    | some d => match shD d with
      | some s => match Nat.ble d.depth 20 && small s.length with
        | true => some (.str s, h)
        | false => none
      | none => none
    | none => none
  | _ => none
section
variable {G : Gx} {X : Cx}
theorem dat_noDict : ∀ (n : Nat) (h : Hi) (v : VI) (d : PyData), dat n h v = some d → d.hasDict = false := by
  have all : ∀ (f : VI → Option PyData), (∀ v d, f v = some d → d.hasDict = false) → ∀ (vs : List VI) (ds : List PyData), datL f vs = some ds → PyData.hasDictAll ds = false := by
    intro f hf vs
    induction vs with
    | nil => intro ds e; cases e; simp only [PyData.hasDictAll]
    | cons v vs ih =>
      intro ds e
      unfold datL at e
      cases e1 : f v with
      | none => rw [e1] at e; cases e
      | some d =>
        rw [e1] at e
        cases e2 : datL f vs with
        | none => rw [e2] at e; cases e
        | some es =>
          rw [e2] at e
          cases e
          simp only [PyData.hasDictAll, hf v d e1, ih es e2, Bool.or_self]
  intro n
  induction n with
  | zero => intro h v d e; cases e
  | succ n ih =>
    intro h v d e
    unfold dat at e
    cases v with
    | non => cases e; simp only [PyData.hasDict]
    | bl b => cases e; simp only [PyData.hasDict]
    | int i => cases e; simp only [PyData.hasDict]
    | str s => cases e; simp only [PyData.hasDict]
    | glo g => cases e
    | tup xs =>
      dsimp only at e
      cases q : datL (dat n h) xs with
      | none => rw [q] at e; cases e
      | some ds =>
        rw [q] at e
        cases e
        simp only [PyData.hasDict]
        exact all _ (fun v d => ih h v d) xs ds q
    | ref a =>
      dsimp only at e
      cases q0 : h[a]? with
      | none => rw [q0] at e; cases e
      | some o =>
        rw [q0] at e
        cases o with
        | lst xs =>
          dsimp only at e
          cases q : datL (dat n h) xs with
          | none => rw [q] at e; cases e
          | some ds =>
            rw [q] at e
            cases e
            simp only [PyData.hasDict]
            exact all _ (fun v d => ih h v d) xs ds q
        | scr xs =>
          dsimp only at e
          cases q : datL (dat n h) xs with
          | none => rw [q] at e; cases e
          | some ds =>
            rw [q] at e
            cases e
            simp only [PyData.hasDict]
            exact all _ (fun v d => ih h v d) xs ds q
        | _ => cases e
theorem mc_repD (hG : G.K = X.K) (hgd : X.A.guards = some []) (hu : X.A.units + 64 < cLine) : CallR X (.builtin "repr") (rdC G cRepD) := callR_at fun ρ h H args xs Q ag ra fi => by
  unfold cRepD at fi
  cases ra with
  | nil => exact fi.elim
  | @cons v x vs zs r t =>
    cases t with
    | cons _ _ => exact fi.elim
    | nil =>
      dsimp only at fi
      cases q : dat 12 h v with
      | none => rw [q] at fi; exact fi.elim
      | some d =>
        rw [q] at fi
        dsimp only at fi
        cases q2 : shD d with
        | none => rw [q2] at fi; exact fi.elim
        | some s =>
          rw [q2] at fi
          dsimp only at fi
          cases q3 : Nat.ble d.depth 20 && small s.length with
          | false => rw [q3] at fi; exact fi.elim
          | true =>
            rw [q3] at fi
            rw [Bool.and_eq_true] at q3
            obtain ⟨z1, z2⟩ := q3
            have z1 := Nat.le_of_ble_eq_true z1
            have z2 := small_ok z2
            obtain ⟨e1, e2⟩ := shD_ok d s q2
            have dp := dat_ok ag 12 v x d r q
            have sz : d.shown.length ≤ sizeLine := by rw [e1]; show s.toArray.size ≤ _; rw [List.size_toArray]; exact z2
            have fin : Q (.str d.shown) H := fi.ok ag (.str e1)
            refine ⟨fun ys H' Q' => ys = [x] ∧ H' = H ∧ Q' (.str d.shown) H, ?_, rfl, rfl, fin⟩
            intro pins s0 σ H' ys us Q' I rv hh
            obtain ⟨rfl, rfl, q'⟩ := hh
            obtain ⟨u, rfl, ru⟩ := vals1 rv
            obtain ⟨as, rd⟩ := Dp.reads I d x u (hG ▸ dp) ru
            have nd := dat_noDict 12 h v d q
            cases rd with
            | none => exact PySem.P.repr_of_none ⟨.str _, _, I.tok _, ⟨_, rfl⟩, q'⟩
            | bool b =>
              refine PySem.P.repr_of_bool ⟨.str _, _, I.tok _, ⟨_, rfl⟩, ?_⟩
              simpa only [PyData.shown] using q'
            | int i t =>
              have hi : i.natAbs.log2 < 1920 := by simpa only [PyData.showable, decide_eq_true_eq] using e2
              exact PySem.P.repr_of_int hi ⟨.str _, _, I.tok _, ⟨_, rfl⟩, q'⟩
            | str y t => exact PySem.P.repr_of_str ⟨.str _, _, I.tok _, ⟨_, rfl⟩, q'⟩ sz
            | list h1 h2 h3 h4 =>
              exact repr_of_reads' (.list h1 h2 h3 h4) e2 (PyData.noDict_hsm nd) hgd (by omega) (fun _ _ e => e) (fun h' u tk k => ⟨.str _, _, I.kept k, ⟨_, rfl⟩, q'⟩) sz
            | tuple h1 h2 h3 h4 =>
              exact repr_of_reads' (.tuple h1 h2 h3 h4) e2 (PyData.noDict_hsm nd) hgd (by omega) (fun _ _ e => e) (fun h' u tk k => ⟨.str _, _, I.kept k, ⟨_, rfl⟩, q'⟩) sz
            | dict h1 h2 h3 h4 h5 => simp only [PyData.hasDict] at nd; cases nd
end
end ML
end
section
namespace ML
open PySem PySem.Spec PyProof.Rows L2 He
structure FnOkG (P : Program) (w : World) (K : PySem.W.Frag) (mg : Str → Option Value) (base : Heap) (k : Nat) (f : Addr) (fd : FuncData) (ps : List Str) (sp : Sp) : Prop where
  gl : ∀ vs H Q E, sp vs H Q E → vs.length = ps.length
  go : ∀ (B : Around) (out : List Env) (t : Shared) (H : Hp) (a : Args) (us : List Value) (vs : List V) (Q : VK) (E : XK), B.guards = some [] → Room k B → Env0 P w K mg base B out t H → BindsTo t fd a (ps.zip us) → Vals vs us → sp vs H Q E →
    codeAny (model P w) B (.call (.ref f) a) (CR (L2.CX P w) out P w H t Q E) t
theorem guards_deeper (B : Around) (env : Env) (h : B.guards = some []) : (B.deeper env).guards = some [] := by
  show B.guards = _
  exact h
section
variable {G : Gx} {W : WX} {X : Cx} {k np : Nat} {f : Addr} {fd : FuncData} {ps : List Str} {g : MF} {P : Program} {w : World} {K : PySem.W.Frag} {mg : Str → Option Value} {base : Heap}
theorem fnG_M {x qual : Str} {params : Arguments} {body : List Stmt} {scope : Scope} {dvs : List V} {kws : List (Str × V)} {N : List Str} {n : Nat} {mb : MS}
    (F : FunD K x qual params body scope dvs kws f fd) (S : FnScope N ps scope) (hn : N.length = ps.length + n)
    (hb : ∀ (cdv : Value) (B : Around) (out : List Env) (t : Shared) (H : Hp) (E : XK), Room k (cxOf (L2.CX P w) P w K mg base N qual scope f cdv B out t H E).A →
      Takes (cxOf (L2.CX P w) P w K mg base N qual scope f cdv B out t H E) (fun c d _ H => E c d H) →
      PassesOwn (model P w) (cxOf (L2.CX P w) P w K mg base N qual scope f cdv B out t H E).A (cxOf (L2.CX P w) P w K mg base N qual scope f cdv B out t H E).env (cxOf (L2.CX P w) P w K mg base N qual scope f cdv B out t H E).xe →
      (cxOf (L2.CX P w) P w K mg base N qual scope f cdv B out t H E).A.guards = some [] →
      PSs (cxOf (L2.CX P w) P w K mg base N qual scope f cdv B out t H E) body (rdS G (fun c d _ H => E c d H) mb)) : FnOkG P w K mg base (k + 1) f fd ps (spM G ps.length (runB ps.length n mb)) := by
  obtain ⟨oc, od, dV, kV, doc, pm, an, cdv, ct, osl, rfl, lk, cdI, _, _⟩ := F.ex
  refine ⟨fun vs H Q E h => spM_len h, fun B out t H a us vs Q E gd room env0 bnd rel want => ?_⟩
  have few := spM_len want
  have inT : K.In t.heap := env0.mod.kin.keeps fun b o e => (env0.bs b o e).1
  have noL : t.heap.NoLimit := env0.mod.nolimit.keeps fun b o e => (env0.bs b o e).1
  have kinds : ∀ y ∈ ps.zip us, scope.names.lookup y.1 = some .local ∨ (scope.names.lookup y.1 = some .cell ∧ ((cellsFrom (t.heap.objs.size + 1) scope.names []).lookup y.1).isSome = true) := by
    rintro ⟨nm, v⟩ hy
    cases S.par nm (List.of_mem_zip hy).1 with
    | inl q => exact .inl q
    | inr q => exact .inr ⟨q, PySem.W.cellsFrom_some _ _ _ (.inl q)⟩
  refine codeAny_call_function room.depth (inT _ _ lk) rfl S.co S.gen rfl (PySem.W.codeRec_of inT cdI) (bnd _ _ _ _ ?_)
  refine wpAny_newFunctionEnv_cells S.kind kinds ?_
  intro env he t1 inC
  subst he
  refine ⟨noL.keeps inC.toInCall.keep, codeAny_func ?_⟩
  have st := inv_start (CX := L2.CX P w) (E := E) S room.hd env0 few rel inC
  obtain ⟨ρ, h, args, l, ag, r, fin⟩ := want
  have body_ok := hb cdv B out t H E (room.deeper _) (takes_of rfl rfl rfl rfl) (passes_of rfl) (guards_deeper B _ gd)
  have asks : rdS G (fun c d _ H => E c d H) mb { nx := fun _ H' => Q .non H', rt := Q } (L2.start N vs) H := by
    refine ⟨ρ, _, h, ags_start r (by rw [← r.length, l]; exact hn), ag, ?_⟩
    unfold runB at fin
    rw [show Nat.beq args.length ps.length = true from by rw [l]; exact Nat.beq_refl _] at fin
    dsimp only at fin
    cases e : mb (args.map some ++ List.replicate n none) h with
    | nx σ' h' => rw [e] at fin; exact fun ρ' H' σ2 st a' as' => fin ρ' H' .non st a' .non
    | rt v h' => rw [e] at fin; exact fin
    | bk σ' h' => rw [e] at fin; exact fin.elim
    | ct σ' h' => rw [e] at fin; exact fin.elim
    | ex c n σ' h' => rw [e] at fin; exact fun ρ' H' d C σ2 st a' as' hn hc => fin ρ' H' d C st a' hn hc
    | err => rw [e] at fin; exact fin
  refine wpAny_mono (body_ok.run [] t1 (L2.start N vs) H _ st asks) (fun fl t2 out => ?_) fun e t2 q => q
  match fl, out with
  | .ret u, ⟨v, σ', H', J, rv, q⟩ => exact ⟨v, H', J.os, J.bare, J.base, J.hok, rv, q⟩
  | .next, ⟨σ', H', J, q⟩ => exact ⟨V.non, H', J.os, J.bare, J.base, J.hok, rfl, q⟩
  | .brk, ⟨_, _, _, q⟩ => exact False.elim q
  | .cont, ⟨_, _, _, q⟩ => exact False.elim q
theorem callM_fnG (F : FnOkG X.prog X.w X.K X.mg X.base k f fd ps (spM G ps.length g)) (ar : Arity ps.length g) (gd : X.A.guards = some []) (hr : Room k X.A) (hb : Binds X.K fd ps []) (tk : Takes X W) : CallM X G W (.ref f) g := by
  intro pins s σ H us vs args ρ h Q I r ra ag fin
  by_cases hl : args.length = ps.length
  · have wants : spM G ps.length g vs H Q (WE W σ) := ⟨ρ, h, args, hl, ag, ra, fin⟩
    have lu : us.length = ps.length := by rw [← r.length, ← ra.length]; exact hl
    have b := hb s us I.kIn (by rw [List.append_nil]; exact lu)
    rw [List.append_nil] at b
    refine wpAny_call (codeAny_mono (F.go _ _ s H ⟨us, []⟩ us vs Q (WE W σ) gd hr I.env0 b r wants) fun res s' hq => ?_)
    match res, hq with
    | .error e, hq => exact passAt tk σ pins H s e s' I hq
    | .ok (.ret u), hq => exact I.after hq
  · rw [ar args h hl] at fin
    exact fin.elim
end
structure DOkG (P : Program) (w : World) (K : PySem.W.Frag) (mg : Str → Option Value) (base : Heap) (nm : Nat → Option Str) (k : Nat) (p : Defn) (ps : List Str) (g : MF) : Prop where
  ok : FnOkG P w K mg base k (p K) (fdOf K p) ps (spM (GxOf K mg nm) ps.length g)
  ar : Arity ps.length g
  kp : PySem.W.keepIn K (.ref (p K)) = true
section
variable {G : Gx} {W : WX} {X : Cx} {e : Expr} {es : List Expr} {pos p : Pos} {ma : MA} {nm : Nat → Option Str}
theorem xcmG {k k' : Nat} {q : Defn} {ps : List Str} {g : MF} (d : DOkG X.prog X.w X.K X.mg X.base nm k q ps g) (bn : BOk X.K q ps) (hr : Room k' X.A) (gd : X.A.guards = some []) (tk : Takes X W) (h : k + 2 ≤ k' := by decide) : CallM X (GxOf X.K X.mg nm) W (.ref (q X.K)) g :=
  callM_fnG d.ok d.ar gd (hr.mono (by omega)) bn tk
theorem xcallG {k k' : Nat} {x : Str} {ps : List Str} {g : MF} (d : DOkG X.prog X.w X.K X.mg X.base nm k (gA x) ps g) (bn : BOk X.K (gA x) ps) (hr : Room k' X.A) (gd : X.A.guards = some []) (tk : Takes X W) (hm : X.mg x = some (.ref (ga X.K x))) (ha : PA X (e :: es) (rdA (GxOf X.K X.mg nm) W ma)) (h : k + 2 ≤ k' := by decide)
    (hg : Gl X x := by rfl) (hdb : (x == ("__debug__" : Str)) = false := by decide) (he : starEach (e :: es) X.env = (false, eval e X.env) :: starEach es X.env := by rfl) (hpl : (backTo pos (starEach es X.env)).any (·.1) = false := by rfl) :
    PE X (.Call (.Name x p) (e :: es) [] pos) (rdE (GxOf X.K X.mg nm) W (eCall g ma)) := me_call (xcmG d bn hr gd tk h) hg hm d.kp ha hdb he hpl
end
section
variable {P : Program} {w : World} {K : PySem.W.Frag} {mg mb : Str → Option Value} {k : Nat} {fa a : Addr} {fd : FuncData} {x : Str} {sp : Sp} {s1 : Shared} {vs : List Value} {ns : List Int}
theorem lawG_core (H : Hp) (kin : K.In s1.heap) (hg : s1.heap.Ns mainGlobals mg) (hbn : s1.heap.Ns builtinsNs mb) (hbb : ∀ x : Str, x ≠ "__name__" → mb x = bootBuiltins x) (noL : s1.heap.NoLimit) (hgens : s1.gens = #[])
    (obj : s1.heap.get? a = some { cls := .type "list", data := .seq vs.toArray }) (room : Room k callerA) (F : ∀ base : Heap, K.In base → base.Ns mainGlobals mg → FnOkG P w K mg base k fa fd [x] sp)
    (bnd : ∀ (s : Shared) (u : Value), BindsTo s fd ⟨[u], []⟩ [(x, u)]) (only : Only H) (hok : HOk P w H s1.heap) (hA : ∀ b, H b ≠ none → b = a) (hK : H a ≠ none → K.lookup a = none)
    (want : sp [.ref a] H (fun v _ => v = .bl true) fun _ _ _ => False) : codeAny (model P w) callerA (.call (.ref fa) ⟨[.ref a], []⟩) (fun r s' => r = .ok (.ret (.bool true)) ∧ OldK s1.heap s'.heap ∧ s'.os = s1.os ∧ AllBare s'.gens) s1 := by
  have stands : ∀ {b : Addr} {o : Obj}, s1.heap.get? b = some o → (∀ v n, o.data ≠ .seq v n) → (hidT s1.heap H).get? b = some o := fun {b o} e nd => by
    refine hidT_get e ?_
    cases q : H b with
    | none => rfl
    | some u =>
      have z : b = a := hA b (by rw [q]; exact fun z => nomatch z)
      rw [z, obj] at e
      cases e
      exact absurd rfl (nd _ _)
  have names : ∀ {b : Addr} {m : Str → Option Value}, s1.heap.Ns b m → (hidT s1.heap H).Ns b m := by
    rintro b m ⟨o, es, ep, e, d, r⟩
    exact ⟨o, es, ep, stands e (fun v n z => by rw [d] at z; cases z), d, r⟩
  have kb : K.In (hidT s1.heap H) := by
    intro b o e
    refine hidT_get (kin b o e) ?_
    cases q : H b with
    | none => rfl
    | some u =>
      have z : b = a := hA b (by rw [q]; exact fun z => nomatch z)
      subst z
      rw [hK (by rw [q]; exact fun z => nomatch z)] at e
      cases e
  obtain ⟨mc, l1, l2⟩ := noL
  have env0 : Env0 P w K mg (hidT s1.heap H) callerA [] s1 H := by
    refine ⟨rfl, ⟨kb, names hg, ⟨mb, names hbn, hbb⟩, ⟨mc, names l1, l2⟩⟩, fun b o e => of_hidT e, Nat.le_of_eq (hidT_size _ _), trivial, ?_, hok, .of_eq hgens⟩
    intro b hb
    cases hb
  have run := (F _ kb (names hg)).go callerA [] s1 H ⟨[.ref a], []⟩ [.ref a] [.ref a] (fun v _ => v = .bl true) (fun _ _ _ => False) rfl room env0 (bnd s1 (.ref a)) (.cons rfl .nil) want
  refine codeAny_mono run ?_
  intro r s' h
  match r, h with
  | .error e, ⟨_, _, _, _, _, _, _, _, _, _, _, _, z⟩ => exact z.elim
  | .ok (.ret u), ⟨v, H', os, bare, un, hok', rv, q⟩ =>
    subst q
    have eu : u = Value.bool true := rv
    subst eu
    refine ⟨rfl, OldK.of_keep ?_, os, bare⟩
    intro b o e
    cases q : H b with
    | none => exact un.keep b o e q (fun z => nomatch z) (by simp)
    | some u =>
      cases only b with
      | inl z => rw [q] at z; cases z
      | inr z =>
        obtain ⟨ob, xs, z⟩ := z
        have later := un.frzs b ob _ z
        obtain ⟨e1, _⟩ := hok b _ z
        obtain ⟨e2, _⟩ := hok' b _ later
        rw [e] at e1
        cases e1
        exact e2
theorem law_callG (kin : K.In s1.heap) (hg : s1.heap.Ns mainGlobals mg) (hbn : s1.heap.Ns builtinsNs mb) (hbb : ∀ x : Str, x ≠ "__name__" → mb x = bootBuiltins x) (noL : s1.heap.NoLimit) (hgens : s1.gens = #[])
    (obj : s1.heap.get? a = some { cls := .type "list", data := .seq vs.toArray }) (hi : IntsAre vs ns) (few : ns.length ≤ sizeLine) (room : Room k callerA) (F : ∀ base : Heap, K.In base → base.Ns mainGlobals mg → FnOkG P w K mg base k fa fd [x] sp)
    (bnd : ∀ (s : Shared) (u : Value), BindsTo s fd ⟨[u], []⟩ [(x, u)]) (want : ∀ H : Hp, Only H → SqL K H a (ns.map V.int) → sp [.ref a] H (fun v _ => v = .bl true) fun _ _ _ => False) :
    codeAny (model P w) callerA (.call (.ref fa) ⟨[.ref a], []⟩) (fun r s' => r = .ok (.ret (.bool true)) ∧ OldK s1.heap s'.heap ∧ s'.os = s1.os ∧ AllBare s'.gens) s1 := by
  have rel := vals_ints hi
  have lens := hi.length
  cases hk : K.lookup a with
  | some o =>
    have e := kin a o hk
    rw [obj] at e
    cases e
    have told : SqL K (fun _ => none) a (ns.map V.int) := .inr ⟨_, vs.toArray, _, hk, rfl, rfl, rfl, by rw [List.size_toArray, lens]; exact few, by simpa using rel⟩
    have no : Only (fun _ => none) := fun _ => .inl rfl
    exact lawG_core _ kin hg hbn hbb noL hgens obj room F bnd no (fun b u z => nomatch (show (none : Option HO) = some u from z)) (fun b z => (z rfl).elim) (fun z => (z rfl).elim) (want _ no told)
  | none =>
    obtain ⟨H, eH⟩ : ∃ H : Hp, H = fun b => if b = a then some (.frz { cls := .type "list", data := .seq vs.toArray } (.lst (ns.map V.int))) else none := ⟨_, rfl⟩
    have at_a : H a = some (.frz { cls := .type "list", data := .seq vs.toArray } (.lst (ns.map V.int))) := by rw [eH]; exact if_pos rfl
    have off : ∀ b, b ≠ a → H b = none := fun b n => by rw [eH]; exact if_neg n
    have only : Only H := fun b => by
      by_cases z : b = a
      · subst z; exact .inr ⟨_, _, at_a⟩
      · exact .inl (off b z)
    have ok : HOk P w H s1.heap := fun b u z => by
      by_cases q : b = a
      · subst q
        rw [at_a] at z
        cases z
        exact ⟨obj, by rw [List.length_map]; exact few, vs, _, rel, obj⟩
      · rw [off b q] at z; cases z
    exact lawG_core H kin hg hbn hbb noL hgens obj room F bnd only ok (fun b n => Classical.byContradiction fun z => n (off b z)) (fun _ => hk) (want H only (.inl (.inr ⟨_, at_a⟩)))
end
theorem walk_ofG {l : PySem.W.OpenLaw} {n k : Nat} {q : Program} {loose : List Str} {XP : (Str → Option Value) → Heap → Prop} {YP : World → Heap → Prop} {d : DefRec} {x : Str}
    (hn : l.most = some n) (hn2 : n ≤ sizeLine) (hdf : d.params.defaults = []) (room : Room k callerA)
    (F : ∀ (w : World) (mg : Str → Option Value) (fa : Addr) (h : Heap), YP w h → h.Ns mainGlobals mg → mg d.name = some (.ref fa) →
      ∃ (K : PySem.W.Frag) (fd : FuncData) (sp : Sp), K.In h ∧ (∀ (s : Shared) (u : Value), BindsTo s fd ⟨[u], []⟩ [(x, u)]) ∧
        (∀ (H : Hp) (a : Addr) (ns : List Int), ns.length ≤ n → Only H → SqL K H a (ns.map V.int) → sp [.ref a] H (fun v _ => v = .bl true) fun _ _ _ => False) ∧
        ∀ base : Heap, K.In base → base.Ns mainGlobals mg → FnOkG l.prog w K mg base k fa fd [x] sp) :
    PySem.W.WalkO q loose XP YP l.row.toRowW d [] (fun f vs => PySem.call f vs) := by
  refine Att.attach_call hn hdf ?_
  intro w s0 s1 mg mb fa o pm cd doc a vs ns Gr Y _ _ _ hmg obj hints len hgens
  obtain ⟨K, fd, sp, kin, bnd, want, hF⟩ := F w mg fa _ Y Gr.T.g hmg
  exact law_callG kin Gr.T.g Gr.T.b Gr.T.builtins Gr.T.nolimit hgens obj hints (Nat.le_trans len hn2) room hF bnd fun H hO hS => want H a ns len hO hS
end ML
end
section
namespace PySem
open Sem (wp)
open AutoSeq1 (wpAny_loadPart')
section
variable {prog : Program} {w : World} {A : Around} {E : Value → Shared → Prop} {s : Shared}
end
end PySem
namespace L2
open PySem PySem.Spec PyProof.Rows
end L2
namespace ML
open PySem PySem.Spec PyProof.Rows L2 He
def enumV (xs : List VI) : List VI := xs.mapIdx fun i x => .tup [.int (i : Nat), x]
def enuOf : VI → Hi → Option Itm := fun v h => match v with
  | .tup xs => some (.tup (enumV xs))
  | v => enlOf v h
def iEnumU (e : ME) : MI := fun σ h => (e σ h).bind fun v h1 => ofI (enuOf v h1) h1
section
variable {G : Gx} {W : WX} {X : Cx} {e : Expr} {me : ME} {ρ : List Addr} {H : Hp} {p pos tpos : Pos} {elts : List Expr} {kk : Nat}
end
end ML
namespace ML
open PySem PySem.Spec PyProof.Rows L2 He
theorem enumV_r2 {r : List Nat} {xs ys : List VI} (t : RVs2 r xs ys) : RVs2 r (enumV xs) (enumV ys) := by
  have go : ∀ (xs ys : List VI) (k : Nat), RVs2 r xs ys → RVs2 r (xs.mapIdx fun i x => .tup [.int ((i + k : Nat)), x]) (ys.mapIdx fun i x => .tup [.int ((i + k : Nat)), x]) := by
    intro xs
    induction xs with
    | nil => intro ys k t; cases t; exact .nil
    | cons x xs ih =>
      intro ys k t
      cases t with
      | @cons _ y _ ys' p q =>
        simp only [List.mapIdx_cons]
        refine .cons (.tup (.cons (.int _) (.cons p .nil))) ?_
        have := ih ys' (k + 1) q
        simpa [Nat.add_assoc, Nat.add_comm 1 k] using this
  have := go xs ys 0 t
  simpa [enumV] using this
instance {ma : ME} [x : LE ma] : LI (iEnumU ma) := ⟨fun r s h σ σ' g a => (x.run r s h σ σ' g a).bind fun r1 s1 h1 v v' e1 g1 q1 => by
  unfold enuOf
  cases q1 with
  | @ref n m p =>
    have k := listAt2 g1 p
    unfold enlOf
    dsimp only
    cases z1 : listAt n s1 with
    | none => trivial
    | some xs => cases z2 : listAt m h1 with
      | none => rw [z1, z2] at k; exact k.elim
      | some ys => exact .ok g1 (.enl p)
  | tup t => exact .ok g1 (.tup (enumV_r2 t))
  | _ => trivial⟩
end ML
end
section
namespace ML
open PySem L2
def kdInK (neg : Bool) (tbl : S → Option VI) : VI → Hi → Res VI := fun v h1 => match v with
  | .str s => match tbl s with
    | some _ => .ok (.bl (!neg)) h1
    | none => .err
  | _ => .err
def eKdIn (neg : Bool) (tbl : S → Option VI) (b : ME) : ME := fun σ h => (b σ h).bind (kdInK neg tbl)
section
variable {G : Gx} {W : WX} {X : Cx} {b : Expr} {pos p : Pos} {mb : ME}
end
end ML
end
section
namespace ML
open PySem L2
instance {neg : Bool} {tbl : S → Option VI} {ma : ME} [x : LE ma] : LE (eKdIn neg tbl ma) := ⟨fun r s h σ σ' g a => (x.run r s h σ σ' g a).bind fun r1 s1 h1 v v' e1 g1 q1 => by
  cases q1 with
  | str y =>
    dsimp only [kdInK]
    cases z : tbl y with
    | none => trivial
    | some w => exact .ok g1 (.bl _)
  | _ => trivial⟩
end ML
end
section
namespace HT
open PySem PySem.Spec PyProof.Rows L2
section
variable {prog : Program} {w : World} {A : Around} {E : Value → Shared → Prop} {s : Shared}
end
end HT
namespace L2
open PySem PySem.Spec PyProof.Rows
section
variable {X : Cx}
end
end L2
namespace ML
open PySem L2
section
variable {G : Gx} {W : WX} {X : Cx} {e : Expr} {me : ME} {ρ : List Addr} {H : Hp}
theorem RVs.reverse : ∀ {xs : List VI} {ys : List V}, RVs G ρ H xs ys → RVs G ρ H xs.reverse ys.reverse
  | _, _, .nil => .nil
  | _, _, .cons h t => by
    rw [List.reverse_cons, List.reverse_cons]
    exact (RVs.reverse t).append (.cons h .nil)
def revM (x : VI) (h : Hi) : Option (VI × Hi) := match x with
  | .tup xs => some (.tup xs.reverse, h)
  | .ref n => match h[n]? with
    | some (.lst xs) => some (.ref h.length, h ++ [.lst xs.reverse])
    | some (.scr xs) => some (.ref h.length, h ++ [.lst xs.reverse])
    | _ => none
  | _ => none
def eRev (e : ME) : ME := fun σ h => (e σ h).bind fun x h1 => ofO (revM x h1)
end
end ML
end
section
namespace ML
open PySem L2
theorem RVs2.reverse {r : List Nat} : ∀ {v x : List VI}, RVs2 r v x → RVs2 r v.reverse x.reverse
  | _, _, .nil => .nil
  | _, _, .cons a t => by
    rw [List.reverse_cons, List.reverse_cons]
    exact (RVs2.reverse t).append (.cons a .nil)
instance {ma : ME} [x : LE ma] : LE (eRev ma) := ⟨fun r s h σ σ' g a => (x.run r s h σ σ' g a).bind fun r1 s1 h1 v v' e1 g1 q1 => by
  refine .ofO ?_
  unfold revM
  cases q1 with
  | tup t => exact .ok g1 (.tup t.reverse)
  | ref i =>
    obtain ⟨o, o', z1, z2, z3⟩ := g1.no i
    dsimp only
    rw [z1, z2]
    cases z3 with
    | lst t => exact .new g1 fun r' e => .lst (t.reverse.mono e)
    | scr t => exact .new g1 fun r' e => .lst (t.reverse.mono e)
    | _ => trivial
  | _ => trivial⟩
end ML
end
section
namespace ML
open PySem L2
instance {i : Nat} {tbl : Nat → Option MF} {me : ME} [c : LTb tbl] [y : LE me] : LS (sAugE i tbl me) := ⟨fun r s h σ σ' g a => by
  unfold sAugE
  cases z : σ[i]? with
  | none => trivial
  | some o =>
    cases o with
    | none => trivial
    | some v =>
      obtain ⟨w, k1, k2⟩ := a.at_ i v z
      rw [k1]
      refine (y.run _ _ _ _ _ g a).bindS a fun r1 s1 h1 u u' e1 g1 q1 => ?_
      unfold augEK
      rw [ins2 g1 (k2.mono e1)]
      cases z1 : insC v s1 with
      | none => trivial
      | some d =>
        dsimp only
        cases w0 : tbl d with
        | none => trivial
        | some f => exact ((c.run _ _ w0).run _ _ _ _ _ g1 (.cons (k2.mono e1) (.cons q1 .nil))).bindS (a.mono e1) fun r2 s2 h2 z z' e2 g2 q2 => ⟨r2, h2, _, rfl, .refl, g2, ((a.mono e1).mono e2).set q2 i⟩⟩
instance {body su : MS} {mt : Nat → Option Bool} [x : LS body] [y : LS su] : LS (sTryO body mt su) := ⟨fun r s h σ σ' g a => by
  have k := x.run r s h σ σ' g a
  unfold sTryO
  cases z : body σ s with
  | err => trivial
  | nx σ1 s' => rw [z] at k; obtain ⟨r2, h2, m, e1, e2, g2, a2⟩ := k; rw [e1]; exact ⟨r2, h2, _, rfl, e2, g2, a2⟩
  | bk σ1 s' => rw [z] at k; obtain ⟨r2, h2, m, e1, e2, g2, a2⟩ := k; rw [e1]; exact ⟨r2, h2, _, rfl, e2, g2, a2⟩
  | ct σ1 s' => rw [z] at k; obtain ⟨r2, h2, m, e1, e2, g2, a2⟩ := k; rw [e1]; exact ⟨r2, h2, _, rfl, e2, g2, a2⟩
  | rt v s' => rw [z] at k; obtain ⟨r2, h2, m, e1, e2, g2, a2⟩ := k; rw [e1]; exact ⟨r2, h2, _, rfl, e2, g2, a2⟩
  | ex c n σ1 s' =>
    rw [z] at k
    obtain ⟨r2, h2, σ2, m, e1, e2, g2, a2, q⟩ := k
    rw [e1]
    refine L2S.ext e2 ?_
    show L2S r2 h2 (onlyS mt su c n σ1 s') (onlyS mt su c m σ2 h2)
    unfold onlyS
    cases w : mt c with
    | none => trivial
    | some b =>
      cases b with
      | false => exact ⟨r2, h2, σ2, m, rfl, .refl, g2, a2, q⟩
      | true =>
        have t := y.run r2 s' h2 σ1 σ2 g2 a2
        dsimp only
        cases z2 : su σ1 s' with
        | err => trivial
        | ex _ _ _ _ => trivial
        | nx σ3 s3 => rw [z2] at t; obtain ⟨r3, h3, m, e1, e2, g2, a2⟩ := t; rw [e1]; exact ⟨r3, h3, _, rfl, e2, g2, a2⟩
        | bk σ3 s3 => rw [z2] at t; obtain ⟨r3, h3, m, e1, e2, g2, a2⟩ := t; rw [e1]; exact ⟨r3, h3, _, rfl, e2, g2, a2⟩
        | ct σ3 s3 => rw [z2] at t; obtain ⟨r3, h3, m, e1, e2, g2, a2⟩ := t; rw [e1]; exact ⟨r3, h3, _, rfl, e2, g2, a2⟩
        | rt v s3 => rw [z2] at t; obtain ⟨r3, h3, m, e1, e2, g2, a2⟩ := t; rw [e1]; exact ⟨r3, h3, _, rfl, e2, g2, a2⟩⟩
instance {gs : List MG} [q : LGs gs] : LG (gLstM gs) := ⟨fun r s h σ σ' v v' g a p => by
  unfold gLstM
  cases p with
  | @ref n m t =>
    dsimp only
    have k := listAt2 g t
    cases z1 : listAt n s with
    | none => trivial
    | some xs =>
      cases z2 : listAt m h with
      | none => rw [z1, z2] at k; cases k
      | some ys =>
        rw [z1, z2] at k
        have k : RVs2 r xs ys := k
        dsimp only
        rw [k.length]
        split
        · exact q.run _ _ _ _ _ _ _ g a k
        · trivial
  | _ => trivial⟩
end ML
end
section
namespace ML
open PySem L2
instance : LOc cRepD := ⟨fun r s h vs vs' g t => by
  unfold cRepD
  cases t with
  | nil => trivial
  | cons p t =>
    cases t with
    | cons _ _ => trivial
    | nil =>
      dsimp only
      rename_i v w
      cases z : dat 12 s v with
      | none => trivial
      | some d =>
        rw [dat2 g _ _ _ _ p z]
        dsimp only
        cases shD d with
        | none => trivial
        | some x =>
          dsimp only
          cases Nat.ble d.depth 20 && small x.length with
          | false => trivial
          | true => exact .ok g (.str _)⟩
end ML
end
section
namespace ML
open PySem PySem.Spec PyProof.Rows L2 He
def sameRef : VI → VI → Bool
  | .ref m, .ref n => Nat.beq m n
  | _, _ => false
def bltI : Option TyI → Option String
  | some (.bt "NoneType") => some "NoneType"
  | some (.bt "int") => some "int"
  | some (.bt "str") => some "str"
  | some (.bt "list") => some "list"
  | some (.bt "tuple") => some "tuple"
  | _ => none
def eqRefU (cs : List Nat) (tbl : Nat → Option MF) (c : Nat) (y x : VI) (h : Hi) : Res VI := match sameRef y x with
  | true => .ok (.bl true) h
  | false => match insC y h with
    | some c' => match tbl c', nfI cs (tyI x h) with
      | some g, true => boolR (g [y, x] h)
      | _, _ => .err
    | none => match bltI (tyI y h), tbl c with
      | some _, some g => boolR (g [x, y] h)
      | _, _ => .err
def inTurnsU (cs : List Nat) (tbl : Nat → Option MF) (n : Nat) (c : Nat) (x : VI) : Nat → Nat → Hi → Res VI
  | 0, i, h => match listAt n h with
    | some ys => match Nat.ble ys.length i with
      | true => .ok (.bl false) h
      | false => .err
    | none => .err
  | k + 1, i, h => match listAt n h with
    | none => .err
    | some ys => match ys[i]? with
      | none => .ok (.bl false) h
      | some y => match insC x h with
        | some d => match Nat.beq d c with
          | true => (eqRefU cs tbl c y x h).bind fun v h' => match v with
            | .bl true => .ok (.bl true) h'
            | .bl false => inTurnsU cs tbl n c x k (i + 1) h'
            | _ => .err
          | false => .err
        | none => .err
def eInU (neg : Bool) (cs : List Nat) (tbl : Nat → Option MF) (f : Op2) (a b : ME) : ME := fun σ h => (a σ h).bind fun x h1 => (b σ h1).bind fun y h2 => match insC x h2 with
  | some c => match y with
    | .ref n => match listAt n h2 with
      | some ys => (inTurnsU cs tbl n c x ys.length 0 h2).bind fun v h3 => match v with
        | .bl b => .ok (.bl (neg != b)) h3
        | _ => .err
      | none => .err
    | _ => .err
  | none => ofO (f x y h2)
section
variable {G : Gx} {ρ : List Addr} {h : Hi} {H : Hp} {W : WX} {X : Cx} {A : Around} {a b : Expr} {pos : Pos} {ma mb : ME} {tbl : Nat → Option MF} {σ : L2.St} {cs : List Nat} {f : Op2} {neg : Bool}
end
section
variable {K : PySem.W.Frag} {mg : Str → Option Value} {nm : Nat → Option Str}
end
theorem same2 {r : List Nat} (nd : r.Nodup) {x y x' y' : VI} (p : RV2 r x x') (q : RV2 r y y') : sameRef x' y' = sameRef x y := by
  cases p with
  | @ref n m e =>
    cases q with
    | @ref n' m' e' =>
      show Nat.beq m m' = Nat.beq n n'
      by_cases z : n = n'
      · subst z
        rw [e] at e'
        cases e'
        rw [Nat.beq_refl, Nat.beq_refl]
      · have z' : m ≠ m' := fun w => z ((List.getElem?_inj (List.getElem?_eq_some_iff.mp e).1 nd).mp (by rw [e, e', w]))
        rw [Bool.eq_false_iff.mpr (fun w => z (Nat.eq_of_beq_eq_true w)), Bool.eq_false_iff.mpr (fun w => z' (Nat.eq_of_beq_eq_true w))]
    | _ => rfl
  | _ => cases q <;> rfl
section
variable {r : List Nat} {s h : Hi} {cs : List Nat} {tbl : Nat → Option MF}
theorem eqRef2 [c : LTb tbl] {d : Nat} (g : Ag2 r s h) {x y x' y' : VI} (p : RV2 r x x') (q : RV2 r y y') : L2R RV2 r h (eqRefU cs tbl d x y s) (eqRefU cs tbl d x' y' h) := by
  unfold eqRefU
  rw [same2 g.nd p q, ins2 g p, ty2 g p, ty2 g q]
  cases sameRef x y with
  | true => exact .ok g (.bl true)
  | false =>
    dsimp only
    cases insC x s with
    | some c' =>
      dsimp only
      cases w0 : tbl c' with
      | none => trivial
      | some u =>
        cases nfI cs (tyI y s) with
        | false => trivial
        | true => exact ((c.run _ _ w0).run _ _ _ _ _ g (.cons p (.cons q .nil))).boolR
    | none =>
      dsimp only
      cases bltI (tyI x s) with
      | none => trivial
      | some T =>
        cases w0 : tbl d with
        | none => trivial
        | some u => exact ((c.run _ _ w0).run _ _ _ _ _ g (.cons q (.cons p .nil))).boolR
theorem inTurns2 [c : LTb tbl] {d n n' : Nat} {x x' : VI} : ∀ (k i : Nat) {r : List Nat} {s h : Hi}, Ag2 r s h → RV2 r x x' → r[n]? = some n' → L2R RV2 r h (inTurnsU cs tbl n d x k i s) (inTurnsU cs tbl n' d x' k i h)
  | 0, i, r, s, h, g, p, e => by
    unfold inTurnsU
    have k := listAt2 g e
    cases z1 : listAt n s with
    | none => trivial
    | some xs =>
      cases z2 : listAt n' h with
      | none => rw [z1, z2] at k; cases k
      | some ys =>
        rw [z1, z2] at k
        have k : RVs2 r xs ys := k
        dsimp only
        rw [k.length]
        cases Nat.ble ys.length i with
        | true => exact .ok g (.bl false)
        | false => trivial
  | j + 1, i, r, s, h, g, p, e => by
    unfold inTurnsU
    have k := listAt2 g e
    cases z1 : listAt n s with
    | none => trivial
    | some xs =>
      cases z2 : listAt n' h with
      | none => rw [z1, z2] at k; cases k
      | some ys =>
        rw [z1, z2] at k
        have k : RVs2 r xs ys := k
        dsimp only
        cases z3 : xs[i]? with
        | none =>
          have : ys[i]? = none := by
            have := k.length
            rw [List.getElem?_eq_none_iff] at z3 ⊢
            omega
          rw [this]
          exact .ok g (.bl false)
        | some y =>
          obtain ⟨y', hy, py⟩ := k.get z3
          rw [hy]
          dsimp only
          rw [ins2 g p]
          cases insC x s with
          | none => trivial
          | some d' =>
            dsimp only
            cases Nat.beq d' d with
            | false => trivial
            | true =>
              refine (eqRef2 g py p).bind fun r1 s1 h1 v v' e1 g1 q1 => ?_
              cases q1 with
              | bl b =>
                cases b with
                | true => exact .ok g1 (.bl true)
                | false => exact inTurns2 j (i + 1) g1 (p.mono e1) (e1.pre e)
              | _ => trivial
end
instance {neg : Bool} {cs : List Nat} {tbl : Nat → Option MF} {f : Op2} {ma mb : ME} [c : LTb tbl] [x : LE ma] [y : LE mb] [o : LOp f] : LE (eInU neg cs tbl f ma mb) := ⟨fun r s h σ σ' g a => (x.run r s h σ σ' g a).bind fun r1 s1 h1 v v' e1 g1 q1 => (y.run _ _ _ _ _ g1 (a.mono e1)).bind fun r2 s2 h2 w w' e2 g2 q2 => by
  rw [ins2 g2 (q1.mono e2)]
  cases z : insC v s2 with
  | none => exact .ofO (o.run _ _ _ _ _ _ _ g2 (q1.mono e2) q2)
  | some d =>
    cases q2 with
    | @ref n n' e =>
      dsimp only
      have k := listAt2 g2 e
      cases z1 : listAt n s2 with
      | none => trivial
      | some xs =>
        cases z2 : listAt n' h2 with
        | none => rw [z1, z2] at k; cases k
        | some ys =>
          rw [z1, z2] at k
          have k : RVs2 r2 xs ys := k
          dsimp only
          rw [← k.length]
          refine (inTurns2 xs.length 0 g2 (q1.mono e2) e).bind fun r3 s3 h3 v3 v3' e3 g3 q3 => ?_
          cases q3 with
          | bl b => exact .ok g3 (.bl _)
          | _ => trivial
    | _ => trivial⟩
end ML
end
section
namespace PySem.W
open PySem PyProof.Rows
section
variable {prog : Program} {w : World} {A : Around} {E : Value → Shared → Prop} {s : Shared} {K : Frag} {x C f : Addr} {ox : Obj} {od : Option Obj} {name : Str}
end
end PySem.W
namespace ML
open PySem PySem.Spec PyProof.Rows L2 He
def ctR (neg : Bool) : Res VI → Res VI
  | .ok (.bl b) h => .ok (.bl (neg != b)) h
  | .ex c n h => .ex c n h
  | _ => .err
def eCtU (neg : Bool) (tbl : Nat → Option MF) (f : Op2) (a b : ME) : ME := fun σ h => (a σ h).bind fun x h1 => (b σ h1).bind fun y h2 => match insC y h2 with
  | some c => match tbl c with
    | some g => ctR neg (g [y, x] h2)
    | none => .err
  | none => ofO (f x y h2)
section
variable {G : Gx} {ρ : List Addr} {h : Hi} {H : Hp} {W : WX} {X : Cx} {A : Around} {a b : Expr} {pos : Pos} {ma mb : ME} {tbl : Nat → Option MF} {σ : L2.St} {f : Op2} {neg : Bool}
end
theorem L2R.ctR {neg : Bool} {r : List Nat} {h : Hi} {a b : Res VI} (k : L2R RV2 r h a b) : L2R RV2 r h (ctR neg a) (ctR neg b) := by
  cases a with
  | err => trivial
  | ex c n s' =>
    obtain ⟨r', h', m, rfl, e, g, q⟩ := k
    exact ⟨r', h', m, rfl, e, g, q⟩
  | ok v s' =>
    obtain ⟨r', h', v', rfl, e, g, q⟩ := k
    cases q with
    | bl b => exact ⟨r', h', _, rfl, e, g, .bl _⟩
    | _ => trivial
instance {ma mb : ME} {f : Op2} {neg : Bool} {tbl : Nat → Option MF} [c : LTb tbl] [x : LE ma] [y : LE mb] [o : LOp f] : LE (eCtU neg tbl f ma mb) := ⟨fun r s h σ σ' g a => (x.run r s h σ σ' g a).bind fun r1 s1 h1 v v' e1 g1 q1 => (y.run _ _ _ _ _ g1 (a.mono e1)).bind fun r2 s2 h2 w w' e2 g2 q2 => by
  rw [ins2 g2 q2]
  cases z : insC w s2 with
  | none => exact .ofO (o.run _ _ _ _ _ _ _ g2 (q1.mono e2) q2)
  | some d =>
    dsimp only
    cases w0 : tbl d with
    | none => trivial
    | some u => exact ((c.run _ _ w0).run _ _ _ _ _ g2 (.cons q2 (.cons (q1.mono e2) .nil))).ctR⟩
end ML
end
section
namespace ML
open PySem L2 He
def kdInK2 (neg : Bool) (tbl : S → Option VI) (ab : List S) : VI → Hi → Res VI := fun v h1 => match v with
  | .str s => match tbl s with
    | some _ => .ok (.bl (!neg)) h1
    | none => match ab.any fun z => decide (z = s) with
      | true => .ok (.bl neg) h1
      | false => .err
  | _ => .err
def eKdIn2 (neg : Bool) (tbl : S → Option VI) (ab : List S) (b : ME) : ME := fun σ h => (b σ h).bind (kdInK2 neg tbl ab)
section
variable {G : Gx} {W : WX} {X : Cx} {b : Expr} {pos p : Pos} {mb : ME}
end
instance {neg : Bool} {tbl : S → Option VI} {ab : List S} {ma : ME} [x : LE ma] : LE (eKdIn2 neg tbl ab ma) := ⟨fun r s h σ σ' g a => (x.run r s h σ σ' g a).bind fun r1 s1 h1 v v' e1 g1 q1 => by
  cases q1 with
  | str y =>
    dsimp only [kdInK2]
    cases z : tbl y with
    | none =>
      dsimp only
      cases z2 : ab.any fun u => decide (u = y) with
      | true => exact .ok g1 (.bl _)
      | false => trivial
    | some w => exact .ok g1 (.bl _)
  | _ => trivial⟩
end ML
end
section
namespace ML
open PySem PySem.Spec PyProof.Rows L2
section
variable {prog : Program} {w : World} {A : Around} {E : Value → Shared → Prop} {s : Shared}
end
def putSl (x v : VI) (h : Hi) : Option Hi := match x with
  | .ref n => match v with
    | .ref m => match h[n]? with
      | some (.lst xs) => match h[m]? with
        | some (.lst ys) => match !Nat.beq n m && small (xs.length + ys.length) with
          | true => some (h.set n (.lst ys))
          | false => none
        | _ => none
      | _ => none
    | _ => none
  | _ => none
def gSlA (o : ME) : MG := fun v σ h => (o σ h).bindS σ fun x h1 => nxO σ (putSl x v h1)
section
variable {G : Gx} {W : WX} {X : Cx} {o : Expr} {pos p2 : Pos} {mo : ME}
end
end ML
end
section
namespace ML
open PySem PySem.Spec PyProof.Rows L2 He
def restO (us : List Value) : Obj := { cls := .type "tuple", data := .seq us.toArray }
def withRest (s : Shared) (us : List Value) : Shared := { s with heap := s.heap.push (restO us) }
def BindsR (fd : FuncData) (ps : List Str) (m : Nat) (s : Shared) (us : List Value) : Prop :=
  ∀ (M : Model) (A : Around) (E : Value → Shared → Prop) (Q : List (Str × Value) → Shared → Prop), Q (ps.zip (us.take m ++ [.ref s.heap.objs.size])) (withRest s (us.drop m)) → wpAny M A (bindArgs fd ⟨us, []⟩) Q E s
section
variable {P : Program} {w : World} {K : PySem.W.Frag} {mg : Str → Option Value} {base : Heap} {B : Around} {out : List Env} {s : Shared} {H H2 : Hp} {us : List Value} {xs : List V} {fs : List Addr} {a : Addr} {o : HO}
structure FnOkR (P : Program) (w : World) (K : PySem.W.Frag) (mg : Str → Option Value) (base : Heap) (k : Nat) (f : Addr) (fd : FuncData) (ps : List Str) (sp : Sp) : Prop where
  go : ∀ (B : Around) (out : List Env) (t : Shared) (H : Hp) (m : Nat) (us : List Value) (vs : List V) (Q : VK) (E : XK), Room k B → Env0 P w K mg base B out t H → BindsR fd ps m t us → Vals vs us → us.length ≤ sizeLine → m ≤ us.length → ps.length = m + 1 →
    sp (vs.take m ++ [.ref t.heap.objs.size]) (upd H t.heap.objs.size (.tup (vs.drop m))) Q E → codeAny (model P w) B (.call (.ref f) ⟨us, []⟩) (CR (L2.CX P w) out P w H t Q E) t
end
section
variable {G : Gx} {W : WX} {X : Cx} {k np : Nat} {f : Addr} {fd : FuncData} {ps : List Str} {g : MF} {P : Program} {w : World} {K : PySem.W.Frag} {mg : Str → Option Value} {base : Heap}
def restM (m : Nat) (g : MF) : MF := fun args h => match Nat.ble m args.length && Nat.ble args.length 100000 with
  | true => g (args.take m ++ [.tup (args.drop m)]) h
  | false => .err
end
section
variable {K : PySem.W.Frag} {x qual : Str} {body : List Stmt} {scope : Scope} {kws : List (Str × V)} {f : Addr} {fd : FuncData}
end
end ML
end
section
namespace ML
open PySem PySem.Spec PyProof.Rows L2 He
def starV (x : VI) (h : Hi) : Option (List VI) := match x with
  | .tup xs => some xs
  | .ref n => listAt n h
  | _ => none
def starK (mr : MA) (σ : Sg) (x : VI) (h : Hi) : Res (List VI) := match starV x h with
  | some xs => (mr σ h).bind fun ys h2 => .ok (xs ++ ys) h2
  | none => .err
def aStar (me : ME) (mr : MA) : MA := fun σ h => (me σ h).bind (starK mr σ)
section
variable {G : Gx} {W : WX} {X : Cx} {e : Expr} {es : List Expr} {p : Pos} {me : ME} {mr : MA}
variable {f : Addr} {g : MF} {x : Str} {pos : Pos} {ma : MA} {sp_ : Pos}
end
end ML
end
section
namespace ML
open PySem PySem.Spec PyProof.Rows L2 He
def RunM (X : Cx) (G : Gx) (W : WX) (fa : Addr) (f : MF) : Prop :=
  ∀ (pins : List (Addr × Obj)) (s : Shared) (σ : L2.St) (H : Hp) (us : List Value) (vs : List V) (args : List VI) (ρ : List Addr) (h : Hi) (Q : VK), Inv X pins σ H s → Vals vs us → RVs G ρ H args vs → Ag G ρ h H →
    FinG G ρ H (RV G) Q (fun c d H' => W c d σ H') (f args h) →
      codeAny (model X.prog X.w) X.A (.call (.ref fa) ⟨us, []⟩) (fun r s' => match r with | .ok (.ret v) => EP X pins σ Q v s' | .ok _ => False | .error e => X.xe e s') s
section
variable {G : Gx} {W : WX} {X : Cx} {k np m : Nat} {f : Addr} {fd : FuncData} {ps : List Str} {g : MF}
theorem RunM.call (r : RunM X G W f g) : CallM X G W (.ref f) g := fun pins s σ H us vs args ρ h Q I rv ra ag fin => wpAny_call (r pins s σ H us vs args ρ h Q I rv ra ag fin)
variable {o e : Expr} {mo : ME} {i : Nat} {y : Str} {p ep apos pos : Pos}
end
end ML
end
section
namespace ML
open PySem PySem.Spec PyProof.Rows L2 He
structure DOkR (P : Program) (w : World) (K : PySem.W.Frag) (mg : Str → Option Value) (base : Heap) (nm : Nat → Option Str) (k : Nat) (p : Defn) (ps : List Str) (m : Nat) (g : MF) : Prop where
  ok : FnOkR P w K mg base k (p K) (fdOf K p) ps (spM (GxOf K mg nm) ps.length g)
  bn : ∀ (s : Shared) (us : List Value), K.In s.heap → m ≤ us.length → us.length ≤ sizeLine → BindsR (fdOf K p) ps m s us
  pl : ps.length = m + 1
  kp : PySem.W.keepIn K (.ref (p K)) = true
section
variable {G : Gx} {W : WX} {X : Cx} {nm : Nat → Option Str} {k k' m : Nat} {q : Defn} {ps : List Str} {g : MF}
end
def pairsV : List VI → Option (List (VI × VI))
  | [] => some []
  | .tup [a, b] :: r => match isKey a with
    | true => match pairsV r with
      | some l => some ((a, b) :: l)
      | none => none
    | false => none
  | _ => none
def cDictP : OpC := fun vs h => match vs with
  | [.ref n] => match h[n]? with
    | some (.lst xs) => match pairsV xs with
      | some kvs => some (.ref h.length, h ++ [.dic (putAll kvs [])])
      | none => none
    | some (.dic kvs) => some (.ref h.length, h ++ [.dic kvs])
    | _ => none
  | _ => none
section
variable {G : Gx} {X : Cx}
end
end ML
end
section
namespace ML
open PySem PySem.Spec PyProof.Rows L2 He
def mClear : OpM := fun x vs h => match x with
  | .ref n => match h[n]? with
    | some (.lst _) => match vs with
      | [] => some (.non, h.set n (.lst []))
      | _ => none
    | _ => none
  | _ => none
section
variable {G : Gx} {ρ : List Addr} {h : Hi} {H : Hp} {W : WX} {X : Cx}
end
end ML
end
section
namespace ML
open PySem L2
theorem putSl2 {r : List Nat} {s h s' : Hi} (g : Ag2 r s h) {x x' z z' : VI} (p : RV2 r x x') (k : RV2 r z z') (e : putSl x z s = some s') : ∃ h', putSl x' z' h = some h' ∧ Ex2 r h r h' ∧ Ag2 r s' h' := by
  unfold putSl at e ⊢
  cases p with
  | @ref n a i =>
    cases k with
    | @ref m b j =>
      obtain ⟨o, o', z1, z2, z3⟩ := g.no i
      obtain ⟨u, u', y1, y2, y3⟩ := g.no j
      dsimp only at e ⊢
      rw [z1] at e
      rw [z2]
      cases z3 with
      | lst t =>
        dsimp only at e ⊢
        rw [y1] at e
        rw [y2]
        cases y3 with
        | lst t2 =>
          dsimp only at e ⊢
          rw [← t.length, ← t2.length]
          cases q : !Nat.beq n m && small (_ + _) with
          | false => rw [q] at e; cases e
          | true =>
            rw [q] at e
            cases e
            obtain ⟨q4, q5⟩ := Bool.and_eq_true_iff.mp q
            have hnm : n ≠ m := fun z => by subst z; simp at q4
            have hab : a ≠ b := fun z => by
              subst z
              obtain ⟨i1, j1⟩ := List.getElem?_eq_some_iff.mp i
              obtain ⟨i2, j2⟩ := List.getElem?_eq_some_iff.mp j
              have pw := List.pairwise_iff_getElem.mp g.nd
              rcases Nat.lt_trichotomy n m with l | l | l
              · exact pw n m i1 i2 l (j1.trans j2.symm)
              · exact hnm l
              · exact pw m n i2 i1 l (j2.trans j1.symm)
            have hb : Nat.beq a b = false := Bool.eq_false_iff.mpr fun z => hab (Nat.eq_of_beq_eq_true z)
            rw [hb, q5]
            obtain ⟨c1, c2⟩ := g.wr z1 i (.lst t2)
            exact ⟨_, rfl, c2, c1⟩
        | _ => cases e
      | _ => cases e
    | _ => cases e
  | _ => cases e
instance {ma : ME} [x : LE ma] : LG (gSlA ma) := ⟨fun r s h σ σ' u u' g a q => (x.run r s h σ σ' g a).bindS a fun r1 s1 h1 v v' e1 g1 q1 => by
  cases e : putSl v u s1 with
  | none => trivial
  | some s' => obtain ⟨h', z1, z2, z3⟩ := putSl2 g1 q1 (q.mono e1) e; rw [z1]; exact ⟨_, _, _, rfl, z2, z3, (a.mono e1).mono z2⟩⟩
end ML
end
section
namespace ML
open PySem L2
theorem rvs2_take {r : List Nat} : ∀ {a b : List VI} (m : Nat), RVs2 r a b → RVs2 r (a.take m) (b.take m)
  | _, _, 0, _ => .nil
  | _, _, _ + 1, .nil => .nil
  | _, _, m + 1, .cons a t => .cons a (rvs2_take m t)
theorem rvs2_drop {r : List Nat} : ∀ {a b : List VI} (m : Nat), RVs2 r a b → RVs2 r (a.drop m) (b.drop m)
  | _, _, 0, t => t
  | _, _, _ + 1, .nil => .nil
  | _, _, m + 1, .cons _ t => rvs2_drop m t
theorem rvs2_app {r : List Nat} : ∀ {a b c d : List VI}, RVs2 r a b → RVs2 r c d → RVs2 r (a ++ c) (b ++ d)
  | _, _, _, _, .nil, k => k
  | _, _, _, _, .cons h t, k => .cons h (rvs2_app t k)
instance {m : Nat} {g : MF} [x : LF g] : LF (restM m g) := ⟨fun r s h vs vs' g2 k => by
  unfold restM
  rw [← k.length]
  cases (Nat.ble m vs.length && Nat.ble vs.length 100000) with
  | false => trivial
  | true => exact x.run r s h _ _ g2 (rvs2_app (rvs2_take m k) (.cons (.tup (rvs2_drop m k)) .nil))⟩
instance {me : ME} {mr : MA} [x : LE me] [y : LA mr] : LA (aStar me mr) := ⟨fun r s h σ σ' g a => (x.run r s h σ σ' g a).bind fun r1 s1 h1 v v' e1 g1 q1 => by
  unfold starK starV
  cases q1 with
  | tup t =>
    dsimp only
    exact (y.run _ _ _ _ _ g1 (a.mono e1)).bind fun r2 s2 h2 ws ws' e2 g2 q2 => .ok g2 (rvs2_app (t.mono e2) q2)
  | @ref n m p =>
    dsimp only
    have k := listAt2 g1 p
    cases z1 : listAt n s1 with
    | none => trivial
    | some xs =>
      rw [z1] at k
      cases z2 : listAt m h1 with
      | none => rw [z2] at k; exact k.elim
      | some ys =>
        rw [z2] at k
        dsimp only
        exact (y.run _ _ _ _ _ g1 (a.mono e1)).bind fun r2 s2 h2 ws ws' e2 g2 q2 => .ok g2 (rvs2_app (RVs2.mono e2 k) q2)
  | _ => trivial⟩
end ML
end
section
namespace ML
open PySem L2
theorem pairsV2 {r : List Nat} : ∀ {xs ys : List VI}, RVs2 r xs ys → match pairsV xs, pairsV ys with
    | some a, some b => RKs2 r a b
    | none, none => True
    | _, _ => False
  | _, _, .nil => .nil
  | x :: xs, y :: ys, .cons p t => by
    have ih := pairsV2 t
    cases p with
    | tup q =>
      cases q with
      | nil => unfold pairsV; trivial
      | cons q1 q =>
        cases q with
        | nil => unfold pairsV; trivial
        | cons q2 q =>
          cases q with
          | cons _ _ => unfold pairsV; trivial
          | nil =>
            unfold pairsV
            rw [← isKey2 q1]
            generalize isKey _ = kk
            cases kk with
            | false => trivial
            | true =>
              dsimp only
              cases z1 : pairsV xs with
              | none =>
                cases z2 : pairsV ys with
                | none => trivial
                | some _ => rw [z1, z2] at ih; exact ih.elim
              | some a =>
                cases z2 : pairsV ys with
                | none => rw [z1, z2] at ih; exact ih.elim
                | some b => rw [z1, z2] at ih; exact .cons q1 q2 ih
    | _ => unfold pairsV; trivial
instance : LOc cDictP := ⟨fun r s h vs vs' g t => by
  unfold cDictP
  cases t with
  | nil => trivial
  | cons p t =>
    cases t with
    | cons _ _ => cases p <;> trivial
    | nil =>
      cases p with
      | ref i =>
        obtain ⟨o, o', e1, e2, e3⟩ := g.no i
        dsimp only
        rw [e1, e2]
        cases e3 with
        | dic t => exact .new g fun r' e => .dic (t.mono e)
        | @lst xs ys t =>
          have q := pairsV2 t
          dsimp only
          cases z1 : pairsV xs with
          | none => trivial
          | some a =>
            cases z2 : pairsV ys with
            | none => rw [z1, z2] at q; exact q.elim
            | some b =>
              rw [z1, z2] at q
              exact .new g fun r' e => .dic (putAll2 (q.mono e) .nil)
        | _ => trivial
      | _ => trivial⟩
end ML
end
section
namespace ML
open PySem L2
instance : LOm mClear := ⟨fun r s h x x' vs vs' g p t => by
  unfold mClear
  cases p with
  | ref i =>
    obtain ⟨o, o', e1, e2, e3⟩ := g.no i
    dsimp only
    rw [e1, e2]
    cases e3 with
    | @lst xs ys l =>
      cases t with
      | cons _ _ => trivial
      | nil => exact .wr g e1 i (.lst .nil) .non
    | _ => trivial
  | _ => trivial⟩
end ML
end
section
namespace ML
open PySem L2
structure CRel (C : Type) where
  R : List Nat → C → C → Prop
  mono : ∀ {r r' : List Nat} {h h' : Hi} {c c' : C}, Ex2 r h r' h' → R r c c' → R r' c c'
variable {C : Type}
def L2C (Q : CRel C) (r : List Nat) (h : Hi) (a a' : RC C) : Prop := match a with
  | .go c s' => ∃ r' h' c', a' = .go c' h' ∧ Ex2 r h r' h' ∧ Ag2 r' s' h' ∧ Q.R r' c c'
  | .stop q => ∃ q', a' = .stop q' ∧ L2S r h q q'
  | .err => True
def L2G (Q : CRel C) (r : List Nat) (h : Hi) (a a' : RG C) : Prop := match a with
  | .nx b σ c n s' => ∃ r' h' σ' c', a' = .nx b σ' c' n h' ∧ Ex2 r h r' h' ∧ Ag2 r' s' h' ∧ AS2 r' σ σ' ∧ Q.R r' c c'
  | .out q => ∃ q', a' = .out q' ∧ L2S r h q q'
  | .ex k i c s' => ∃ r' h' c' m, a' = .ex k m c' h' ∧ Ex2 r h r' h' ∧ Ag2 r' s' h' ∧ Q.R r' c c' ∧ r'[i]? = some m
  | .err => True
theorem L2G.ext {Q : CRel C} {r r' : List Nat} {h h' : Hi} {a a' : RG C} (x : Ex2 r h r' h') (k : L2G Q r' h' a a') : L2G Q r h a a' := by
  cases a with
  | err => trivial
  | nx b σ c n s' => obtain ⟨r2, h2, m, c', e1, e2, e3⟩ := k; exact ⟨r2, h2, m, c', e1, x.trans e2, e3⟩
  | out q => obtain ⟨q', e1, e2⟩ := k; exact ⟨q', e1, e2.ext x⟩
  | ex k i c s' => obtain ⟨r2, h2, c', m, e1, e2, e3⟩ := k; exact ⟨r2, h2, c', m, e1, x.trans e2, e3⟩
def LCb (Q : CRel C) (cb cb' : CB C) : Prop := ∀ r s h x x' c c', Ag2 r s h → RV2 r x x' → Q.R r c c' → L2C Q r h (cb x c s) (cb' x' c' h)
def RunG (Q : CRel C) (cb cb' : CB C) (g : GMS C) : Prop := ∀ r s h σ σ' c c' b n, Ag2 r s h → AS2 r σ σ' → Q.R r c c' → L2G Q r h (g cb b σ c n s) (g cb' b σ' c' n h)
class LY (g : GMA) : Prop where
  run : ∀ {C : Type} (Q : CRel C) (cb cb' : CB C), LCb Q cb cb' → RunG Q cb cb' g
theorem L2R.yEv {α : Type} {R : List Nat → α → α → Prop} {Q : CRel C} {r : List Nat} {h : Hi} {a a' : Res α} {k k' : α → Hi → RG C} {b : Bool} {c c' : C} (h1 : L2R R r h a a') (hc : Q.R r c c')
    (h2 : ∀ r1 s1 h1 x x', Ex2 r h r1 h1 → Ag2 r1 s1 h1 → R r1 x x' → L2G Q r1 h1 (k x s1) (k' x' h1)) : L2G Q r h (yEv b c a k) (yEv b c' a' k') := by
  cases a with
  | err => trivial
  | ex k n s' =>
    obtain ⟨r', h', m, rfl, e, g, q⟩ := h1
    cases b with
    | true => exact ⟨r', h', c', m, rfl, e, g, Q.mono e hc, q⟩
    | false => trivial
  | ok v s' =>
    obtain ⟨r', h', v', rfl, e, g, q⟩ := h1
    exact (h2 r' s' h' v v' e g q).ext e
instance : LY (fun {C} => yNx (C := C)) := ⟨fun Q cb cb' _ r s h σ σ' c c' b n g a q => ⟨_, _, _, _, rfl, .refl, g, a, q⟩⟩
instance {m : MS} [x : LS m] : LY (fun {C} => yPl (C := C) m) := ⟨fun Q cb cb' _ r s h σ σ' c c' b n g a q => by
  have t := x.run _ _ _ _ _ g a
  unfold yPl
  cases e : m σ s with
  | nx σ2 s2 => rw [e] at t; obtain ⟨r2, h2, σ2', k1, k2, k3, k4⟩ := t; rw [k1]; exact ⟨r2, h2, σ2', c', rfl, k2, k3, k4, Q.mono k2 q⟩
  | ex k i σ2 s2 =>
    rw [e] at t
    obtain ⟨r2, h2, σ2', m', k1, k2, k3, k4, k5⟩ := t
    rw [k1]
    cases b with
    | true => exact ⟨r2, h2, c', m', rfl, k2, k3, Q.mono k2 q, k5⟩
    | false => trivial
  | rt _ _ => trivial
  | bk _ _ => trivial
  | ct _ _ => trivial
  | err => trivial⟩
instance {x y : GMA} [a : LY x] [b : LY y] : LY (fun {C} => ySeq (C := C) x y) := ⟨fun Q cb cb' hc r s h σ σ' c c' bb n g as q => by
  have t := a.run Q cb cb' hc r s h σ σ' c c' bb n g as q
  unfold ySeq
  cases w : x cb bb σ c n s with
  | err => trivial
  | nx b2 σ2 c2 n2 s2 => rw [w] at t; obtain ⟨r2, h2, m, c2', k1, e2, e3, e4, e5⟩ := t; rw [k1]; exact (b.run Q cb cb' hc _ _ _ _ _ _ _ _ _ e3 e4 e5).ext e2
  | out q => rw [w] at t; obtain ⟨q', k1, e2⟩ := t; rw [k1]; exact ⟨q', rfl, e2⟩
  | ex k i c2 s2 => rw [w] at t; obtain ⟨r2, h2, c2', m, k1, e2⟩ := t; rw [k1]; exact ⟨r2, h2, c2', m, rfl, e2⟩⟩
instance {e : ME} [x : LE e] : LY (fun {C} => yYld (C := C) e) := ⟨fun Q cb cb' hc r s h σ σ' c c' b n g a q => by
  cases n with
  | zero => trivial
  | succ n =>
    refine (x.run _ _ _ _ _ g a).yEv q fun r1 s1 h1 v v' e1 g1 rv => ?_
    have t := hc _ _ _ _ _ _ _ g1 rv (Q.mono e1 q)
    cases z : cb v c s1 with
    | go c2 s2 => rw [z] at t; obtain ⟨r2, h2, c2', k1, k2, k3, k4⟩ := t; rw [k1]; exact ⟨r2, h2, σ', c2', rfl, k2, k3, (a.mono e1).mono k2, k4⟩
    | stop q => rw [z] at t; obtain ⟨q', k1, k2⟩ := t; rw [k1]; exact ⟨q', rfl, k2⟩
    | err => trivial⟩
instance {t : MT} {x y : GMA} [z : LT t] [a : LY x] [b : LY y] : LY (fun {C} => yIf (C := C) t x y) := ⟨fun Q cb cb' hc r s h σ σ' c c' bb n g as q =>
  (z.run _ _ _ _ _ g as).yEv q fun r1 s1 h1 v v' e1 g1 rv => by
    subst rv
    cases v with
    | true => exact a.run Q cb cb' hc _ _ _ _ _ _ _ _ _ g1 (as.mono e1) (Q.mono e1 q)
    | false => exact b.run Q cb cb' hc _ _ _ _ _ _ _ _ _ g1 (as.mono e1) (Q.mono e1 q)⟩
theorem yTurns2 {Q : CRel C} {cb cb' : CB C} {ga : MG} {body : GMS C} [x : LG ga] (y : RunG Q cb cb' body) : ∀ (k i : Nat) (r : List Nat) (s h : Hi) (σ σ' : Sg) (a b : Itm) (c c' : C) (bb : Bool) (n : Nat), Ag2 r s h → AS2 r σ σ' → RI2 r a b → Q.R r c c' → L2G Q r h (yTurns a ga body k i cb bb σ c n s) (yTurns b ga body k i cb' bb σ' c' n h)
  | 0, i, r, s, h, σ, σ', a, b, c, c', bb, n, g, as, q, hc => by
    have n := nxt2 g q i
    unfold yTurns
    cases z1 : a.nxt i s with
    | none => trivial
    | some o => cases z2 : b.nxt i h with
      | none => rw [z1, z2] at n; exact n.elim
      | some o' =>
        rw [z1, z2] at n
        cases o with
        | some _ => trivial
        | none => cases o' with
          | some _ => exact n.elim
          | none => exact ⟨_, _, _, _, rfl, .refl, g, as, hc⟩
  | k + 1, i, r, s, h, σ, σ', a, b, c, c', bb, m, g, as, q, hc => by
    have n := nxt2 g q i
    unfold yTurns
    cases z1 : a.nxt i s with
    | none => trivial
    | some o => cases z2 : b.nxt i h with
      | none => rw [z1, z2] at n; exact n.elim
      | some o' =>
        rw [z1, z2] at n
        cases o with
        | none => cases o' with
          | some _ => exact n.elim
          | none => exact ⟨_, _, _, _, rfl, .refl, g, as, hc⟩
        | some v => cases o' with
          | none => exact n.elim
          | some v' =>
            dsimp only
            have t := x.run _ _ _ _ _ _ _ g as n
            cases w : ga v σ s with
            | nx σ2 s2 =>
              rw [w] at t
              obtain ⟨r2, h2, σ2', k1, k2, k3, k4⟩ := t
              rw [k1]
              dsimp only
              have u := y _ _ _ _ _ _ _ bb m k3 k4 (Q.mono k2 hc)
              refine L2G.ext k2 ?_
              cases w2 : body cb bb σ2 c m s2 with
              | nx b3 σ3 c3 n3 s3 =>
                rw [w2] at u
                obtain ⟨r3, h3, σ3', c3', j1, j2, j3, j4, j5⟩ := u
                rw [j1]
                exact (yTurns2 y k (i + 1) _ _ _ _ _ _ _ _ _ _ _ j3 j4 ((q.mono k2).mono j2) j5).ext j2
              | out q => rw [w2] at u; obtain ⟨q', j1, j2⟩ := u; rw [j1]; exact ⟨q', rfl, j2⟩
              | ex kk ii c3 s3 => rw [w2] at u; obtain ⟨r3, h3, c3', m3, j1, j2⟩ := u; rw [j1]; exact ⟨r3, h3, c3', m3, rfl, j2⟩
              | err => trivial
            | rt _ _ => trivial
            | bk _ _ => trivial
            | ct _ _ => trivial
            | ex _ _ _ _ => trivial
            | err => trivial
instance {mi : MI} {ga : MG} {body : GMA} [z : LI mi] [x : LG ga] [y : LY body] : LY (fun {C} => yFor (C := C) mi ga body) := ⟨fun Q cb cb' hc r s h σ σ' c c' bb n g as q =>
  (z.run _ _ _ _ _ g as).yEv q fun r1 s1 h1 v v' e1 g1 rv => by
    rw [fuel2 g1 rv]
    exact yTurns2 (y.run Q cb cb' hc) _ _ _ _ _ _ _ _ _ _ _ _ _ g1 (as.mono e1) rv (Q.mono e1 q)⟩
theorem yRun2 {Q : CRel C} {cb cb' : CB C} (gm : GMA) [y : LY gm] (hcb : LCb Q cb cb') {np m : Nat} {r : List Nat} {s h : Hi} {vs vs' : List VI} {c c' : C} (g : Ag2 r s h) (t : RVs2 r vs vs') (q : Q.R r c c') : L2G Q r h (yRun np m gm cb vs c s) (yRun np m gm cb' vs' c' h) := by
  unfold yRun
  rw [t.length]
  cases Nat.beq vs'.length np with
  | false => trivial
  | true => exact y.run Q cb cb' hcb _ _ _ _ _ _ _ _ _ g (slots2 m t) q
def qSg : CRel Sg := ⟨AS2, fun e a => a.mono e⟩
def qLs : CRel (List VI) := ⟨RVs2, fun e a => a.mono e⟩
instance {cs : List Nat} {np m : Nat} {gm : GMA} {ma : MA} {ga : MG} {mb : MS} [y : LY gm] [a : LA ma] [x : LG ga] [b : LS mb] : LS (sForG cs np m gm ma ga mb) := ⟨fun r s h σ σ' g as => (a.run r s h σ σ' g as).bindS as fun r1 s1 h1 v v' e1 g1 t1 => by
  have hcb : LCb qSg (cbFor ga mb) (cbFor ga mb) := fun r s h x x' c c' g rx rc => by
    unfold cbFor
    have t := (LG.run (g := ga) r s h c c' x x' g rc rx).andThen (f := mb) (f' := mb) fun r1 s1 h1 σ σ' e1 g1 a1 => b.run _ _ _ _ _ g1 a1
    cases w : (ga x c s).andThen mb with
    | nx σ2 s2 => rw [w] at t; obtain ⟨r2, h2, σ2', k1, k2⟩ := t; rw [k1]; exact ⟨r2, h2, σ2', rfl, k2⟩
    | ct σ2 s2 => rw [w] at t; obtain ⟨r2, h2, σ2', k1, k2⟩ := t; rw [k1]; exact ⟨r2, h2, σ2', rfl, k2⟩
    | bk σ2 s2 => rw [w] at t; obtain ⟨r2, h2, σ2', k1, k2⟩ := t; rw [k1]; exact ⟨_, rfl, r2, h2, σ2', rfl, k2⟩
    | rt σ2 s2 => rw [w] at t; obtain ⟨r2, h2, σ2', k1, k2⟩ := t; rw [k1]; exact ⟨_, rfl, r2, h2, σ2', rfl, k2⟩
    | ex _ _ _ _ => trivial
    | err => trivial
  have t := yRun2 gm (np := np) (m := m) hcb g1 t1 (show qSg.R r1 σ σ' from as.mono e1)
  cases w : yRun np m gm (cbFor ga mb) v σ s1 with
  | nx b σ2 c2 n2 s2 => rw [w] at t; obtain ⟨r2, h2, σ2', c2', k1, k2, k3, k4, k5⟩ := t; rw [k1]; exact ⟨r2, h2, c2', rfl, k2, k3, k5⟩
  | out q => rw [w] at t; obtain ⟨q', k1, k2⟩ := t; rw [k1]; exact k2
  | ex k i c2 s2 =>
    rw [w] at t
    obtain ⟨r2, h2, c2', m2, k1, k2, k3, k4, k5⟩ := t
    rw [k1]
    unfold finY exY
    dsimp only
    cases cs.contains k with
    | true => exact ⟨r2, h2, c2', m2, rfl, k2, k3, k4, k5⟩
    | false => trivial
  | err => trivial⟩
instance {cs : List Nat} {np m : Nat} {gm : GMA} {ma : MA} [y : LY gm] [a : LA ma] : LE (eListY cs np m gm ma) := ⟨fun r s h σ σ' g as => (a.run r s h σ σ' g as).bind fun r1 s1 h1 v v' e1 g1 t1 => by
  have hcb : LCb qLs cbLst cbLst := fun r s h x x' c c' g rx rc => by
    unfold cbLst
    rw [RVs2.length (show RVs2 r c c' from rc)]
    cases small (c'.length + 1) with
    | true => exact ⟨r, h, _, rfl, .refl, g, RVs2.append (show RVs2 r c c' from rc) (.cons rx .nil)⟩
    | false => trivial
  have t := yRun2 gm (np := np) (m := m) hcb g1 t1 (show qLs.R r1 [] [] from .nil)
  cases w : yRun np m gm cbLst v [] s1 with
  | nx b σ2 c2 n2 s2 =>
    rw [w] at t
    obtain ⟨r2, h2, σ2', c2', k1, k2, k3, k4, k5⟩ := t
    rw [k1]
    unfold finL
    dsimp only
    have k5' : RVs2 r2 c2 c2' := k5
    obtain ⟨g4, e4⟩ := k3.new (o := .lst c2) (o' := .lst c2') (.lst (k5'.mono (show Ex2 r2 h2 (r2 ++ [h2.length]) h2 from ⟨⟨[h2.length], rfl, fun m hm => by rw [List.mem_singleton] at hm; omega⟩, Nat.le_refl _, fun _ _ _ => rfl⟩)))
    exact ⟨_, _, .ref h2.length, rfl, k2.trans e4, g4, .ref (by rw [← k3.len]; simp)⟩
  | out q => trivial
  | ex k i c2 s2 =>
    rw [w] at t
    obtain ⟨r2, h2, c2', m2, k1, k2, k3, k4, k5⟩ := t
    rw [k1]
    unfold finL
    dsimp only
    cases cs.contains k with
    | true => exact ⟨r2, h2, m2, rfl, k2, k3, k5⟩
    | false => trivial
  | err => trivial⟩
end ML
end
section
namespace ML
open PySem PySem.Spec PyProof.Rows L2 GenW GQ
def cbLc (t : Tgt) (vs : List Nat) (el : ME) (D : Nat) (σ : Sg) : CB Unit := fun x _ h => match t.put x (wipeM σ vs) with
  | some σ2 => match el σ2 h with
    | .ok y h3 => match h3[D]? with
      | some (.lst acc) => match small (acc.length + 1) with
        | true => .go () (h3.set D (.lst (acc ++ [y])))
        | false => .err
      | _ => .err
    | _ => .err
  | none => .err
def finC (D : Nat) : RG Unit → Res VI
  | .nx _ _ _ _ h => .ok (.ref D) h
  | _ => .err
def eLcY (np m : Nat) (gm : GMA) (ma : MA) (t : Tgt) (vs : List Nat) (el : ME) : ME := fun σ h => (ma σ h).bind fun as h1 => finC h1.length (yRun np m gm (cbLc t vs el h1.length σ) as () (h1 ++ [.lst []]))
section
variable {G : Gx} {W : WX} {X : Cx} {pins : List (Addr × Obj)} {σ : L2.St} {H : Hp} {s : Shared} {Q : VK}
def ZLc (B : Cx) (σw : L2.St) (cb : CB Unit) (σi : Sg) (σ : L2.St) (D C : Addr) (d : Nat) (Q : VK) : Cons G Unit Unit where
  cb := cb
  AC := fun ρ H _ _ => AgS G ρ H σi σ ∧ ρ[d]? = some D
  P := fun r ρ H => match r with
    | .rt _ h => ∀ ρ' H', Stp G ρ H ρ' H' → Ag G ρ' h H' → Q (.ref D) H'
    | _ => False
  exf := fun _ _ _ _ => .err
  fin := fun _ h => .rt .non h
  CI := fun r => Inv B [] σw r.H r.s ∧ (∃ xs, r.H D = some (.lst xs)) ∧ ∃ oC, r.pn = [(C, oC)] ∧ r.s.heap.get? C = some oC
  fst := fun _ => True
  E0 := noE
  acL := fun st a => ⟨a.1.mono st, st.pre _ _ a.2⟩
  pL := fun {r ρ H ρ' H'} st f => by
    cases r with
    | rt v h => exact fun ρ2 H2 s2 => f ρ2 H2 (st.trans s2)
    | _ => exact f
  exE := fun f => f.elim
theorem objThere {P : Program} {w : World} {H : Hp} {h : Heap} {a : Addr} {o : HO} (x : L2.ObjOk P w H h a o) : ∃ ob, h.get? a = some ob := by
  cases o with
  | lst xs => obtain ⟨_, _, _, _, e⟩ := x; exact ⟨_, e⟩
  | tup xs => obtain ⟨_, _, _, p⟩ := x; exact let ⟨o, e, _⟩ := p; ⟨o, e⟩
  | dK kvs => obtain ⟨_, _, _, _, o, _, _, e, _⟩ := x; exact ⟨_, e⟩
  | dT kvs => obtain ⟨_, _, _, _, o, _, _, e, _⟩ := x; exact ⟨_, e⟩
  | set S n => obtain ⟨o, _, _, _, e, _⟩ := x; exact ⟨_, e⟩
  | ins C dx fs => obtain ⟨_, _, _, e, _⟩ := x; exact ⟨_, e⟩
  | own y => exact x
  | xd fs => obtain ⟨_, ⟨_, _, _, e, _⟩, _⟩ := x; exact ⟨_, e⟩
  | rng lo hi => obtain ⟨_, _, _, e⟩ := x; exact ⟨_, e⟩
  | frz ob u => obtain ⟨e, _⟩ := x; exact ⟨_, e⟩
  | tbl ps => exact ⟨_, (show h.get? a = some _ from x)⟩
  | met f y => exact ⟨_, (show h.get? a = some _ from x)⟩
  | ext φ => obtain ⟨_, e, _⟩ := x; exact e
theorem noClo {cs : List (Str × Addr)} : ∀ {ns : List (Str × NameKind)}, ns.all (fun y => !(y.2 == .cell) && !(y.2 == .free)) = true → cloFrom cs ns [] = []
  | [], _ => rfl
  | (n, k) :: r, h => by
    rw [List.all_cons, Bool.and_eq_true, Bool.and_eq_true] at h
    have hf : (k == NameKind.free) = false := by simpa using h.1.2
    unfold cloFrom
    rw [hf]
    exact noClo h.2
theorem noCell : ∀ {ns : List (Str × NameKind)}, ns.all (fun y => !(y.2 == .cell) && !(y.2 == .free)) = true → ∀ n, cellsFrom n ns [] = []
  | [], _, _ => rfl
  | (x, k) :: r, h, n => by
    rw [List.all_cons, Bool.and_eq_true, Bool.and_eq_true] at h
    have hf : (k == NameKind.cell) = false := by simpa using h.1.1
    unfold cellsFrom
    rw [hf]
    exact noCell h.2 n
end
end ML
end
section
namespace GQ
open PySem PySem.Spec PySem.W
section
variable {prog : Program} {w : World} {K : Frag} {h₀ : Heap} {L : Addr} {m : Str → Option Value} {A : Around} {E : Value → Shared → Prop} {s : Shared} {x C f f' : Addr} {ox : Obj} {od : Option Obj}
theorem binT_any {op : Operator} {b : Value} {T : String} {fo ro rc : Option Value} {Q : Value → Shared → Prop} (X : K.In s.heap) (I : InstAt s.heap x ox C od) (L2 : Looks (model prog w) s.heap (typeOf b) (.type T)) (hc : selfFirst K C = true)
    (hs : findIn K (.ref C) (PySem.dunder op.info.2) = some (some (.ref f))) (hf : isFn K (.ref f) = true) (hr : findIn K (.ref C) (dunderR op.info.2) = some rc) (hp : rc = none ∨ ∃ g : Addr, rc = some (.ref g))
    (h1 : findIn K (.type T) (PySem.dunder op.info.2) = some fo) (h2 : findIn K (.type T) (dunderR op.info.2) = some ro) (hsub : subIn K (.type T) (.ref C) = some false)
    (h : wpAny (model prog w) A (call (.ref f) [.ref x, b]) (PySem.W.CmpBack Q) E s) : wpAny (model prog w) A (binaryOp op (.ref x) b) Q E s := by
  obtain ⟨cd, rest, hcd, hm⟩ := ksp_first hc
  rcases hi : op.info with ⟨sym, nm'⟩
  rw [hi] at hs hr h1 h2
  dsimp only at hs hr h1 h2
  have one := ksp_try X I hs hf h
  obtain ⟨hh, g, d, tt, os⟩ := s
  have L1 : Looks (model prog w) hh (typeOf (.ref x)) (.ref C) := I.type
  have L3 : Looks (model prog w) hh (fillsNumberSlot (.ref C) nm') true := fills_K X hcd hm hs
  have L4 : Looks (model prog w) hh (fillsNumberSlot (.type T) nm') ((fo.isSome && !isSeqSlot fo) || (ro.isSome && !isSeqSlot ro)) := ksp_fillsT X h1 h2
  have L5 : Looks (model prog w) hh (isSubtype (.type T) (.ref C)) false := looks_subIn X hsub
  have L6 : Looks (model prog w) hh (numberSlotInPython (.ref C) nm') true := ksp_inPy X hs hr hp
  have L7 : Looks (model prog w) hh (numberSlotInPython (.type T) nm') false := Looks.of_pure rfl
  have L8 : Looks (model prog w) hh (typeLookup (.type T) (dunderR nm')) ro := looks_findIn X h2
  generalize ((fo.isSome && !isSeqSlot fo) || (ro.isSome && !isSeqSlot ro)) = right at L4
  have hne : (Value.ref C == Value.type T) = false := Bool.eq_false_iff.mpr fun q => by cases beq_iff_eq.mp q
  simp only [binaryOp, hi]
  refine wpAny_holding (wpAny_bind ?_)
  unfold binaryOp1
  refine wpAny_bind (L1.at (wpAny_bind (L2.at (wpAny_bind (L3.at ?_)))))
  simp only [hne, Bool.false_eq_true, if_false]
  cases right with
  | false =>
    ksp_lk
    refine wpAny_mono one (fun r s' hr' => ?_) fun _ _ e => e
    obtain ⟨v, rfl, hq⟩ := hr'
    ksp_lk
    exact hq
  | true =>
    ksp_lk
    refine wpAny_mono one (fun r s' hr' => ?_) fun _ _ e => e
    obtain ⟨v, rfl, hq⟩ := hr'
    ksp_lk
    exact hq
theorem binS {op : Operator} {y : Addr} {Q : Value → Shared → Prop} (X : K.In s.heap) (I : InstAt s.heap x ox C od) (L2 : Looks (model prog w) s.heap (typeOf (.ref y)) (.ref C)) (hc : selfFirst K C = true)
    (hs : findIn K (.ref C) (PySem.dunder op.info.2) = some (some (.ref f))) (hf : isFn K (.ref f) = true)
    (h : wpAny (model prog w) A (call (.ref f) [.ref x, .ref y]) (PySem.W.CmpBack Q) E s) : wpAny (model prog w) A (binaryOp op (.ref x) (.ref y)) Q E s := by
  obtain ⟨cd, rest, hcd, hm⟩ := ksp_first hc
  rcases hi : op.info with ⟨sym, nm'⟩
  rw [hi] at hs
  dsimp only at hs
  have one := ksp_try X I hs hf h
  obtain ⟨hh, g, d, tt, os⟩ := s
  have L1 : Looks (model prog w) hh (typeOf (.ref x)) (.ref C) := I.type
  have L3 : Looks (model prog w) hh (fillsNumberSlot (.ref C) nm') true := fills_K X hcd hm hs
  have hne : (Value.ref C == Value.ref C) = true := beq_self_eq_true _
  simp only [binaryOp, hi]
  refine wpAny_holding (wpAny_bind ?_)
  unfold binaryOp1
  refine wpAny_bind (L1.at (wpAny_bind (L2.at (wpAny_bind (L3.at ?_)))))
  simp only [hne, if_true]
  ksp_lk
  refine wpAny_mono one (fun r s' hr' => ?_) fun _ _ e => e
  obtain ⟨v, rfl, hq⟩ := hr'
  ksp_lk
  exact hq
def IntNo (prog : Program) (w : World) (nm : String) : Prop := ∀ (A : Around) (E : Value → Shared → Prop) (s : Shared) (i : Int) (t : Tok) (y : Addr) (o : Obj) (Q : Option Value → Shared → Prop), s.heap.get? y = some o → (∀ v, o.data ≠ .prim v) → Q none s → wpAny (model prog w) A (tryMethod (.int i t) (PySem.dunder nm) (.ref y)) Q E s
theorem binR {op : Operator} {i : Int} {t : Tok} {fo ro : Option Value} {Q : Value → Shared → Prop} (X : K.In s.heap) (I : InstAt s.heap x ox C od) (hd : ∀ v, ox.data ≠ .prim v) (hn : IntNo prog w op.info.2) (hc : selfFirst K C = true)
    (hs : findIn K (.ref C) (PySem.dunder op.info.2) = some (some (.ref f))) (hr : findIn K (.ref C) (dunderR op.info.2) = some (some (.ref f'))) (hf : isFn K (.ref f') = true)
    (h1 : findIn K (.type "int") (PySem.dunder op.info.2) = some fo) (h2 : findIn K (.type "int") (dunderR op.info.2) = some ro) (hsl : ((fo.isSome && !isSeqSlot fo) || (ro.isSome && !isSeqSlot ro)) = true) (hsub : subIn K (.ref C) (.type "int") = some false)
    (h : wpAny (model prog w) A (call (.ref f') [.ref x, .int i t]) (PySem.W.CmpBack Q) E s) : wpAny (model prog w) A (binaryOp op (.int i t) (.ref x)) Q E s := by
  obtain ⟨cd, rest, hcd, hm⟩ := ksp_first hc
  rcases hi : op.info with ⟨sym, nm'⟩
  rw [hi] at hs hr h1 h2 hn
  dsimp only at hs hr h1 h2 hn
  have one := ksp_try X I hr hf h
  obtain ⟨hh, g, d, tt, os⟩ := s
  have L1 : Looks (model prog w) hh (typeOf (.ref x)) (.ref C) := I.type
  have L2 : Looks (model prog w) hh (typeOf (.int i t)) (.type "int") := .now
  have L3 : Looks (model prog w) hh (fillsNumberSlot (.ref C) nm') true := fills_K X hcd hm hs
  have L4 : Looks (model prog w) hh (fillsNumberSlot (.type "int") nm') true := by rw [← hsl]; exact ksp_fillsT X h1 h2
  have L5 : Looks (model prog w) hh (isSubtype (.ref C) (.type "int")) false := looks_subIn X hsub
  have L7 : Looks (model prog w) hh (numberSlotInPython (.type "int") nm') false := Looks.of_pure rfl
  have hne : (Value.type "int" == Value.ref C) = false := Bool.eq_false_iff.mpr fun q => by cases beq_iff_eq.mp q
  simp only [binaryOp, hi]
  refine wpAny_holding (wpAny_bind ?_)
  unfold binaryOp1
  refine wpAny_bind (L2.at (wpAny_bind (L1.at (wpAny_bind (L4.at ?_)))))
  simp only [hne, Bool.false_eq_true, if_false]
  ksp_lk
  refine hn _ _ _ i t x ox _ I.at_ hd ?_
  ksp_lk
  refine wpAny_mono one (fun r s' hr' => ?_) fun _ _ e => e
  obtain ⟨v, rfl, hq⟩ := hr'
  ksp_lk
  exact hq
end
end GQ
namespace GQ
open PySem PySem.Spec PyProof.Rows
section
variable {prog : Program} {w : World}
theorem asIntNo {M : Model} {A : Around} {E : Value → Shared → Prop} {s : Shared} {y : Addr} {o : Obj} {Q : Option Int → Shared → Prop} (ho : s.heap.get? y = some o) (hd : ∀ v, o.data ≠ .prim v) (h : Q none s) : wpAny M A (asInt? (.ref y)) Q E s := by
  unfold asInt?
  refine wpAny_bind (wpAny_load ho ?_)
  obtain ⟨c, d, data, sl⟩ := o
  cases data <;> first | exact wpAny_pure h | exact absurd rfl (hd _)
theorem intCall {A : Around} {E : Value → Shared → Prop} {s : Shared} {i : Int} {t : Tok} {y : Addr} {Q : Value → Shared → Prop} (h : wpAny (model prog w) A.in1 (Builtin.«int.__add__» ⟨[.int i t, .ref y], []⟩) (fun fin s' => ∃ v, fin = .done (.ret v) ∧ Q v s') E s) : wpAny (model prog w) A (call (.builtin "int.__add__") [.int i t, .ref y]) Q E s :=
  wpAny_call_entry (name := dunder "add") (T := "int") slot_int_add (typeIs_int s i t) entry_int_add h (args_int_add _ _)
theorem intNo_add : IntNo prog w "add" := fun A E s i t y o Q ho hd h => by
  refine wpAny_tryMethod_declines (M := model prog w) (A := A) (E := E) (s := s) (self := .int i t) (other := .ref y) (name := dunder "add") (Q := Q) (T := "int") (id := "int.__add__") (typeIs_int s i t) slot_int_add ?_
  refine intCall ?_
  show wpAny _ _ (asInt? (.ref y) >>= _) _ _ s
  refine wpAny_bind (asIntNo ho hd ?_)
  exact wpAny_bind (wpAny_rule (wpAny_pure ⟨_, rfl, rfl, h⟩))
end
end GQ
namespace ML
open PySem PySem.Spec PyProof.Rows L2 He
def eBinU (tF tR : Nat → Option MF) (f : Op2) (a b : ME) : ME := fun σ h => (a σ h).bind fun x h1 => (b σ h1).bind fun y h2 => match insC x h2 with
  | some c => match tF c, tyI y h2 with
    | some g, some (.bt _) => g [x, y] h2
    | some g, some (.own c') => match Nat.beq c c' with
      | true => g [x, y] h2
      | false => .err
    | _, _ => .err
  | none => match insC y h2 with
    | some c => match tR c, x with
      | some g, .int _ => g [y, x] h2
      | _, _ => .err
    | none => ofO (f x y h2)
structure BiOk (X : Cx) (G : Gx) (W : WX) (nm : String) (tF tR : Nat → Option MF) : Prop where
  fw : ∀ c C g, tF c = some g → G.ct c = some C → ∃ f, PySem.W.selfFirst X.K C = true ∧ PySem.W.findIn X.K (.ref C) (PySem.dunder nm) = some (some (.ref f)) ∧ PySem.W.isFn X.K (.ref f) = true ∧ (∃ rc, PySem.W.findIn X.K (.ref C) (dunderR nm) = some rc ∧ (rc = none ∨ ∃ g : Addr, rc = some (.ref g))) ∧
    (∀ T ∈ ["NoneType", "bool", "int", "str", "tuple", "list", "dict"], (∃ fo, PySem.W.findIn X.K (.type T) (PySem.dunder nm) = some fo) ∧ (∃ ro, PySem.W.findIn X.K (.type T) (dunderR nm) = some ro) ∧ PySem.W.subIn X.K (.type T) (.ref C) = some false) ∧ CallAt X X.A G W (.ref f) g
  rv : ∀ c C g, tR c = some g → G.ct c = some C → GQ.IntNo X.prog X.w nm ∧ ∃ f f' fo ro, PySem.W.selfFirst X.K C = true ∧ PySem.W.findIn X.K (.ref C) (PySem.dunder nm) = some (some (.ref f)) ∧ PySem.W.findIn X.K (.ref C) (dunderR nm) = some (some (.ref f')) ∧ PySem.W.isFn X.K (.ref f') = true ∧
    PySem.W.findIn X.K (.type "int") (PySem.dunder nm) = some fo ∧ PySem.W.findIn X.K (.type "int") (dunderR nm) = some ro ∧ ((fo.isSome && !isSeqSlot fo) || (ro.isSome && !isSeqSlot ro)) = true ∧ PySem.W.subIn X.K (.ref C) (.type "int") = some false ∧ CallAt X X.A G W (.ref f') g
section
variable {G : Gx} {ρ : List Addr} {h : Hi} {H : Hp} {W : WX} {X : Cx} {a b : Expr} {pos : Pos} {ma mb : ME} {tF tR : Nat → Option MF} {σ : L2.St} {f : Op2}
def RdB (G : Gx) (W : WX) (σ : L2.St) (tF tR : Nat → Option MF) (f : Op2) (Q : VK) (x y : V) (H2 : Hp) : Prop :=
  rd2 G f x y H2 Q ∨ (∃ ρ2 h2 xi yi cn g T, Ag G ρ2 h2 H2 ∧ RV G ρ2 H2 xi x ∧ RV G ρ2 H2 yi y ∧ insC xi h2 = some cn ∧ tF cn = some g ∧ tyI yi h2 = some T ∧ ((∃ t, T = .bt t) ∨ T = .own cn) ∧ FinG G ρ2 H2 (RV G) Q (fun c d H' => W c d σ H') (g [xi, yi] h2)) ∨
  ∃ ρ2 h2 i yi cn g, Ag G ρ2 h2 H2 ∧ x = V.int i ∧ RV G ρ2 H2 yi y ∧ insC yi h2 = some cn ∧ tR cn = some g ∧ FinG G ρ2 H2 (RV G) Q (fun c d H' => W c d σ H') (g [yi, .int i] h2)
theorem binU_rd {Q : VK} (q : rdE G W (eBinU tF tR f ma mb) σ H Q) : rdE G W ma σ H fun x H1 => rdE G W mb σ H1 fun y H2 => RdB G W σ tF tR f Q x y H2 := by
  obtain ⟨ρ, σi, h, as, ag, fin⟩ := q
  exact rdG_go as ag fin fun ρ1 H1 h1 x x' st as ag r f => rdG_go as ag f fun ρ2 H2 h2 y y' st2 as ag rs f => by
      cases q1 : insC x h2 with
      | some cn =>
        rw [q1] at f
        dsimp only at f
        cases q2 : tF cn with
        | none => rw [q2] at f; exact f.elim
        | some g =>
          rw [q2] at f
          cases q3 : tyI y h2 with
          | none => rw [q3] at f; exact f.elim
          | some T =>
            rw [q3] at f
            cases T with
            | bt t => exact .inr (.inl ⟨ρ2, h2, x, y, cn, g, _, ag, r.mono st2, rs, q1, q2, q3, .inl ⟨t, rfl⟩, f⟩)
            | own c' =>
              dsimp only at f
              cases q4 : Nat.beq cn c' with
              | false => rw [q4] at f; exact f.elim
              | true =>
                rw [q4] at f
                have e : cn = c' := Nat.eq_of_beq_eq_true q4
                exact .inr (.inl ⟨ρ2, h2, x, y, cn, g, _, ag, r.mono st2, rs, q1, q2, q3, .inr (by rw [e]), f⟩)
      | none =>
        rw [q1] at f
        dsimp only at f
        cases q2 : insC y h2 with
        | none => rw [q2] at f; exact .inl ⟨ρ2, h2, x, y, ag, r.mono st2, rs, FinO.of f⟩
        | some cn =>
          rw [q2] at f
          dsimp only at f
          cases q3 : tR cn with
          | none => rw [q3] at f; exact f.elim
          | some g =>
            rw [q3] at f
            cases r with
            | int i => exact .inr (.inr ⟨ρ2, h2, i, y, cn, g, ag, rfl, rs, q2, q3, f⟩)
            | _ => exact f.elim
theorem back_EP {pins : List (Addr × Obj)} {Q : VK} {z : Value} {s : Shared} (hz : EP X pins σ Q z s) : PySem.W.CmpBack (EP X pins σ Q) z s := by
  have nz : z ≠ .notImplemented := by
    obtain ⟨x', H', I', rx', q'⟩ := hz
    intro e
    subst e
    cases x' <;> first | (cases rx'; done) | (obtain ⟨_, h⟩ := rx'; cases h)
  unfold PySem.W.CmpBack
  split
  · exact absurd rfl nz
  · exact hz
theorem binU_run {op : Operator} {nm : String} (hnm : op.info.2 = nm) (hG : G.K = X.K) (bi : BiOk X G W nm tF tR) (ho : OpR X (binaryOp op) (rd2 G f))
    {pins : List (Addr × Obj)} {s2 : Shared} {H2 : Hp} {x y : V} {v u : Value} {Q : VK} (I2 : Inv X pins σ H2 s2) (rx : RelV x v) (ry : RelV y u) (q : RdB G W σ tF tR f Q x y H2) : wpAny (model X.prog X.w) X.A (binaryOp op v u) (EP X pins σ Q) X.xe s2 := by
  subst hnm
  rcases q with q | ⟨ρ2, h2, xi, yi, cn, g, T, ag2, r1, r2, q1, q2, q3, q4, fi⟩ | ⟨ρ2, h2, i, yi, cn, g, ag2, ex, r2, q1, q2, fi⟩
  · exact ho pins s2 σ H2 x y v u Q I2 rx ry q
  · obtain ⟨ad, C, dx, gs, ex, hc, hH⟩ := insC_ok ag2 r1 q1
    subst ex
    obtain rfl : v = Value.ref ad := rx
    obtain ⟨f', k1, k2, k3, ⟨rc, k4, k5⟩, k6, k7⟩ := bi.fw cn C g q2 hc
    obtain ⟨m, hF, ox, od, J⟩ := insC_look I2 hH
    have call := wpAny_mono (k7 pins s2 σ H2 [.ref ad, u] [.ref ad, y] [xi, yi] ρ2 h2 _ I2 (.cons rfl (.cons ry .nil)) (.cons r1 (.cons r2 .nil)) ag2 fi) (fun z s3 hz => back_EP hz) fun _ _ z => z
    rcases tyI_ok hG I2 ag2 r2 ry q3 with ⟨t, rfl, mt, lt⟩ | ⟨c', C', rfl, hc', lt⟩
    · obtain ⟨⟨fo, h1⟩, ⟨ro, h2'⟩, h3⟩ := k6 t mt
      exact GQ.binT_any I2.kIn J lt k1 k2 k3 k4 k5 h1 h2' h3 call
    · rcases q4 with ⟨t, e⟩ | e
      · cases e
      · cases e
        rw [hc] at hc'
        cases hc'
        obtain ⟨ad2, rfl⟩ : ∃ ad2, u = Value.ref ad2 := by
          unfold tyI at q3
          cases r2 with
          | ref _ => exact ⟨_, ry⟩
          | _ => cases q3
        exact GQ.binS I2.kIn J lt k1 k2 k3 call
  · subst ex
    obtain ⟨t, rfl⟩ := (show ∃ t, v = Value.int i t from rx)
    obtain ⟨ad, C, dx, gs, ex, hc, hH⟩ := insC_ok ag2 r2 q1
    subst ex
    obtain rfl : u = Value.ref ad := ry
    obtain ⟨k0, f1, f', fo, ro, k1, k2, k3, k4, k5, k6, k7, k8, k9⟩ := bi.rv cn C g q2 hc
    obtain ⟨mA, O, _, _, _, _⟩ := ins_get I2.hok hH
    obtain ⟨od, J, _⟩ := O.look
    have call := wpAny_mono (k9 pins s2 σ H2 [.ref ad, .int i t] [.ref ad, .int i] [yi, .int i] ρ2 h2 _ I2 (.cons rfl (.cons ⟨t, rfl⟩ .nil)) (.cons r2 (.cons (.int i) .nil)) ag2 fi) (fun z s3 hz => back_EP hz) fun _ _ z => z
    exact GQ.binR I2.kIn J (fun v z => by cases z) k0 k1 k2 k3 k4 k5 k6 k7 k8 call
theorem me_binU {op : Operator} {nm : String} (hnm : op.info.2 = nm) (hG : G.K = X.K) (bi : BiOk X G W nm tF tR) (ho : OpR X (binaryOp op) (rd2 G f)) (ha : PE X a (rdE G W ma)) (hb : PE X b (rdE G W mb)) : PE X (.BinOp a op b pos) (rdE G W (eBinU tF tR f ma mb)) := ⟨fun pins s σ H Q I h =>
  wpAny_BinOp (binT ha hb I (binU_rd h) fun v u s2 x y H2 I2 rx ry q => binU_run hnm hG bi ho I2 rx ry q)⟩
end
end ML
namespace ML
open PySem PySem.Spec PyProof.Rows L2 He
def biB (K : PySem.W.Frag) (x f r : Str) (d : PySem.W.Frag → Addr) : Bool := PySem.W.selfFirst K (ga K x) && (eqO (PySem.W.findIn K (.ref (ga K x)) f) (some (some (.ref (d K)))) && (PySem.W.isFn K (.ref (d K)) && ((match PySem.W.findIn K (.ref (ga K x)) r with
  | some none => true
  | some (some (.ref _)) => true
  | _ => false) && ["NoneType", "bool", "int", "str", "tuple", "list", "dict"].all fun T => (PySem.W.findIn K (.type T) f).isSome && ((PySem.W.findIn K (.type T) r).isSome && (match PySem.W.subIn K (.type T) (.ref (ga K x)) with
  | some false => true
  | _ => false)))))
def brB (K : PySem.W.Frag) (x f r : Str) (d d' : PySem.W.Frag → Addr) : Bool := PySem.W.selfFirst K (ga K x) && (eqO (PySem.W.findIn K (.ref (ga K x)) f) (some (some (.ref (d K)))) && (eqO (PySem.W.findIn K (.ref (ga K x)) r) (some (some (.ref (d' K)))) && (PySem.W.isFn K (.ref (d' K)) && ((match PySem.W.findIn K (.type "int") f, PySem.W.findIn K (.type "int") r with
  | some fo, some ro => (fo.isSome && !isSeqSlot fo) || (ro.isSome && !isSeqSlot ro)
  | _, _ => false) && (match PySem.W.subIn K (.ref (ga K x)) (.type "int") with
  | some false => true
  | _ => false)))))
section
variable {Y : Cx} {W : WX} {nm : Nat → Option Str} {mg : Str → Option Value} {n : String}
theorem fw_of {x f r : Str} {d : PySem.W.Frag → Addr} (hf : PySem.dunder n = f) (hr : dunderR n = r) (hB : biB Y.K x f r d = true) : ∃ q, PySem.W.selfFirst Y.K (ga Y.K x) = true ∧ PySem.W.findIn Y.K (.ref (ga Y.K x)) (PySem.dunder n) = some (some (.ref q)) ∧ q = d Y.K ∧ PySem.W.isFn Y.K (.ref q) = true ∧ (∃ rc, PySem.W.findIn Y.K (.ref (ga Y.K x)) (dunderR n) = some rc ∧ (rc = none ∨ ∃ g : Addr, rc = some (.ref g))) ∧
    (∀ T ∈ ["NoneType", "bool", "int", "str", "tuple", "list", "dict"], (∃ fo, PySem.W.findIn Y.K (.type T) (PySem.dunder n) = some fo) ∧ (∃ ro, PySem.W.findIn Y.K (.type T) (dunderR n) = some ro) ∧ PySem.W.subIn Y.K (.type T) (.ref (ga Y.K x)) = some false) := by
  subst hf hr
  obtain ⟨b1, b⟩ := ba hB
  obtain ⟨b2, b⟩ := ba b
  obtain ⟨b3, b⟩ := ba b
  obtain ⟨b4, b5⟩ := ba b
  refine ⟨_, b1, eqO_ok b2, rfl, b3, ?_, fun T hT => ?_⟩
  · split at b4
    · rename_i e; exact ⟨_, e, .inl rfl⟩
    · rename_i e; exact ⟨_, e, .inr ⟨_, rfl⟩⟩
    · cases b4
  · have z := List.all_eq_true.mp b5 T hT
    obtain ⟨z1, z⟩ := ba z
    obtain ⟨z2, z3⟩ := ba z
    refine ⟨Option.isSome_iff_exists.mp z1, Option.isSome_iff_exists.mp z2, ?_⟩
    split at z3
    · rename_i e; exact e
    · cases z3
theorem biOk1 {c : Nat} {g : MF} {x f r : Str} {d : PySem.W.Frag → Addr} (hf : PySem.dunder n = f) (hr : dunderR n = r) (hn : nm c = some x) (hB : biB Y.K x f r d = true) (cm : CallAt Y Y.A (GxOf Y.K mg nm) W (.ref (d Y.K)) g) : BiOk Y (GxOf Y.K mg nm) W n (lkT [(c, g)]) (lkT []) := ⟨(fun c' C w h e => by
  rcases lkT_cons h with ⟨q1, q2⟩ | q
  · subst q1 q2
    rw [gx_ct e hn]
    obtain ⟨q, a1, a2, a3, a4, a5, a6⟩ := fw_of hf hr hB
    exact ⟨q, a1, a2, a4, a5, a6, by rw [a3]; exact cm⟩
  · cases q), (fun c' C w h e => nomatch h)⟩
theorem biOk2 {c : Nat} {g g' : MF} {x f r : Str} {d d' : PySem.W.Frag → Addr} (hf : PySem.dunder n = f) (hr : dunderR n = r) (hn : nm c = some x) (hB : biB Y.K x f r d = true) (cm : CallAt Y Y.A (GxOf Y.K mg nm) W (.ref (d Y.K)) g) (hI : GQ.IntNo Y.prog Y.w n) (hB' : brB Y.K x f r d d' = true) (cm' : CallAt Y Y.A (GxOf Y.K mg nm) W (.ref (d' Y.K)) g') : BiOk Y (GxOf Y.K mg nm) W n (lkT [(c, g)]) (lkT [(c, g')]) := ⟨(biOk1 hf hr hn hB cm).fw, fun c' C w h e => by
  rcases lkT_cons h with ⟨q1, q2⟩ | q
  · subst q1 q2
    rw [gx_ct e hn]
    subst hf hr
    obtain ⟨b1, b⟩ := ba hB'
    obtain ⟨b2, b⟩ := ba b
    obtain ⟨b3, b⟩ := ba b
    obtain ⟨b4, b⟩ := ba b
    obtain ⟨b5, b6⟩ := ba b
    split at b5
    · rename_i fo ro e1 e2
      refine ⟨hI, _, _, fo, ro, b1, eqO_ok b2, eqO_ok b3, b4, e1, e2, b5, ?_, cm'⟩
      split at b6
      · rename_i e; exact e
      · cases b6
    · cases b5
  · cases q⟩
end
end ML
end
section
namespace ML
open PySem L2
def qLc (σ σ' : Sg) (d d' : Nat) : CRel Unit := ⟨fun r _ _ => AS2 r σ σ' ∧ r[d]? = some d', fun e a => ⟨a.1.mono e, e.pre a.2⟩⟩
instance {np m : Nat} {gm : GMA} {ma : MA} {t : Tgt} {vs : List Nat} {el : ME} [y : LY gm] [a : LA ma] [x : LE el] : LE (eLcY np m gm ma t vs el) := ⟨fun r s h σ σ' g as => (a.run r s h σ σ' g as).bind fun r1 s1 h1 v v' e1 g1 t1 => by
  obtain ⟨g2, e2⟩ := g1.new (o := .lst []) (o' := .lst []) (.lst .nil)
  have hcb : LCb (qLc σ σ' s1.length h1.length) (cbLc t vs el s1.length σ) (cbLc t vs el h1.length σ') := fun r s h w w' c c' g rx rc => by
    obtain ⟨as3, d3⟩ : AS2 r σ σ' ∧ r[s1.length]? = some h1.length := rc
    unfold cbLc
    cases z3 : t.put w (wipeM σ vs) with
    | none => trivial
    | some τ =>
      obtain ⟨τ', w1, w2⟩ := put2 t rx (wipe2 as3 vs) z3
      rw [w1]
      dsimp only
      have ek := x.run _ _ _ _ _ g w2
      cases z5 : el τ s with
      | err => trivial
      | ex _ _ _ => trivial
      | ok u s3 =>
        rw [z5] at ek
        obtain ⟨r3, h3, u', m1, m2, m3, m4⟩ := ek
        rw [m1]
        dsimp only
        obtain ⟨o, o', v1, v2, v3⟩ := m3.no (m2.pre d3)
        rw [v1, v2]
        cases v3 with
        | lst l =>
          dsimp only
          rw [l.length]
          cases z6 : small _ with
          | false => trivial
          | true =>
            dsimp only
            obtain ⟨g4, e4⟩ := m3.wr v1 (m2.pre d3) (.lst (l.append (.cons m4 .nil)))
            exact ⟨_, _, (), rfl, m2.trans e4, g4, (as3.mono m2).mono e4, e4.pre (m2.pre d3)⟩
        | _ => trivial
  have tt := yRun2 gm (np := np) (m := m) hcb g2 (t1.mono e2) (show (qLc σ σ' s1.length h1.length).R _ () () from ⟨(as.mono e1).mono e2, g1.idx⟩)
  cases w : yRun np m gm (cbLc t vs el s1.length σ) v () (s1 ++ [.lst []]) with
  | nx b σ2 c2 n2 s2 =>
    rw [w] at tt
    obtain ⟨r2, h2, σ2', c2', k1, k2, k3, k4, k5⟩ := tt
    rw [k1]
    exact ⟨_, _, .ref h1.length, rfl, e2.trans k2, k3, .ref (k2.pre g1.idx)⟩
  | out q => trivial
  | ex k i c2 s2 => trivial
  | err => trivial⟩
instance {tF tR : Nat → Option MF} {f : Op2} {ma mb : ME} [c : LTb tF] [d : LTb tR] [x : LE ma] [y : LE mb] [o : LOp f] : LE (eBinU tF tR f ma mb) := ⟨fun r s h σ σ' g a => (x.run r s h σ σ' g a).bind fun r1 s1 h1 v v' e1 g1 q1 => (y.run _ _ _ _ _ g1 (a.mono e1)).bind fun r2 s2 h2 w w' e2 g2 q2 => by
  have q1' := q1.mono e2
  rw [ins2 g2 q1', ty2 g2 q2]
  cases z : insC v s2 with
  | some k =>
    dsimp only
    cases w0 : tF k with
    | none => trivial
    | some u =>
      have run := (c.run _ _ w0).run _ _ _ _ _ g2 (.cons q1' (.cons q2 .nil))
      cases w1 : tyI w s2 with
      | none => trivial
      | some T =>
        cases T with
        | bt t => exact run
        | own k' =>
          dsimp only
          cases Nat.beq k k' with
          | true => exact run
          | false => trivial
  | none =>
    dsimp only
    rw [ins2 g2 q2]
    cases z2 : insC w s2 with
    | none => exact .ofO (o.run _ _ _ _ _ _ _ g2 q1' q2)
    | some k =>
      dsimp only
      cases w0 : tR k with
      | none => trivial
      | some u =>
        cases q1' with
        | int i => exact (d.run _ _ w0).run _ _ _ _ _ g2 (.cons q2 (.cons (.int i) .nil))
        | _ => trivial⟩
end ML
end
section
namespace GQ
open PySem PySem.Spec PyProof.Rows L2 GenW ML
section
variable {M : Model} {A : Around} {E : Value → Shared → Prop} {s : Shared} {env : Env}
def compPostF (M : Model) (A : Around) (E : Value → Shared → Prop) (Q : Value → Shared → Prop) (acc : Value) (C : Addr) (F : Option Addr) (r : Result) (s' : Shared) : Prop :=
  match r with
  | .ok _ => ∃ m, s'.heap.Ns C m ∧ ∀ h', Heap.SameBut C s'.heap h' → Q acc { s' with heap := h' }
  | .error x => ∃ m, s'.heap.Ns C m ∧ ∀ h', Heap.SameBut C s'.heap h' → ∀ cenv : Env, cenv.locals = C → cenv.frame = F → wpAny M A (PySem.passOn "comprehension.variables-let-go" x cenv : Sem Value) (fun _ _ => False) E { s' with heap := h' }
theorem comp_freeF {e : Expr} {scope : Scope} {pos : Pos} {newAcc first : Sem Value} {g : Comprehension} {gs : List Comprehension} {cl : List (Str × Addr)} {Q : Value → Shared → Prop}
    (hcl : clausesOf e = g :: gs) (hs : ∀ x, foldedSetIterable g.iter env x = pure x) (hclos : closureFor scope env = pure cl)
    (hkind : scope.kind = .function) (hnames : ∀ x ∈ scope.names, x.2 = .local → scope.names.lookup x.1 = some .local)
    (h : wpAny M A first (fun x s₁ => wpAny M A (pyIter x) (fun it s₂ => wpAny M A newAcc (fun acc s₃ =>
      wpAny M A (newFunctionEnv scope env.globals cl [] env.qual none .none (some env)) (fun cenv s₄ =>
        codeAny M A (.compStart e 0 it acc { cenv with scope := relabel scope env }) (compPostF M A E Q acc cenv.locals cenv.frame) s₄) E s₃) E s₂) E s₁) E s) :
    wpAny M A (comprehension e scope env pos newAcc false first none) Q E s := by
  unfold comprehension
  rw [hclos, hcl]
  refine wpAny_bind (wpAny_mono h (fun x s₁ h₁ => wpAny_bind (wpAny_standAt (wpAny_bind (wpAny_of_eq (hs x) (wpAny_bind (wpAny_holding (wpAny_mono h₁ (fun it s₂ h₂ =>
    wpAny_standIf (wpAny_bind (wpAny_mono h₂ (fun acc s₃ h₃ => wpAny_bind (wpAny_pure (wpAny_bind (wpAny_mono h₃ (fun cenv s₄ h₄ => ?_) fun _ _ h' => h')))) fun _ _ h' => h')))
      fun _ _ h' => h'))))))) fun _ _ h' => h')
  dsimp only
  have hv : ∀ x ∈ (scope.names.filter fun x => (x.2 == .local || x.2 == .cell) && x.1 != (".0" : Str)).reverse, x.2 = .local →
      Env.kindOf { cenv with scope := relabel scope env } x.1 = some .local := fun x hx hl => lookup_relabel_local (hnames x (List.mem_filter.mp (List.mem_reverse.mp hx)).1 hl)
  refine wpAny_holding (wpAny_bind (wpAny_attempt (wpAny_holding (wpAny_run (codeAny_mono h₄ fun r s' hr => ?_)))))
  cases r with
  | ok f =>
    obtain ⟨m, hn, hr⟩ := hr
    exact wpAny_bind (wpAny_holding (wpAny_comp_letGo (cenv := { cenv with scope := relabel scope env }) hkind _ s' m hv hn fun h' m' _ hs' => wpAny_pure (hr h' hs')))
  | error x =>
    obtain ⟨m, hn, hr⟩ := hr
    exact wpAny_bind (wpAny_holding (wpAny_comp_letGo (cenv := { cenv with scope := relabel scope env }) hkind _ s' m hv hn fun h' m' _ hs' => wpAny_mono (hr h' hs' _ rfl rfl) (fun _ _ f => f.elim) fun _ _ y => y))
end
theorem frames_but {base h h' : Heap} {C : Addr} (hs : ∀ b, b ≠ C → h'.get? b = h.get? b) : ∀ {l : List Env}, h.FunFrames base l → C ∉ frs l → h'.FunFrames base l
  | [], _, _ => trivial
  | env :: r, ⟨hk, ⟨L, o, hf, hb, ho, hd⟩, hr⟩, hC => by
    have hL : C ≠ L := fun z => hC (by unfold frs; rw [List.filterMap_cons, hf, z]; exact List.mem_cons_self)
    exact ⟨hk, ⟨L, o, hf, hb, (hs L (Ne.symm hL)).trans ho, hd⟩, frames_but hs hr fun z => hC (by unfold frs; rw [List.filterMap_cons, hf]; exact List.mem_cons_of_mem _ z)⟩
theorem frames_base {base base' h : Heap} (hb : ∀ b, base.get? b = none → base'.get? b = none) : ∀ {l : List Env}, h.FunFrames base l → h.FunFrames base' l
  | [], _ => trivial
  | _ :: _, ⟨hk, ⟨L, o, hf, hn, ho, hd⟩, hr⟩ => ⟨hk, ⟨L, o, hf, hb L hn, ho, hd⟩, frames_base hb hr⟩
theorem hok_but {P : Program} {w : World} {H : Hp} {B B' : Heap} {C : Addr} (x : HOk P w H B) (hC : H C = none) (hs : ∀ b, b ≠ C → B'.get? b = B.get? b) : HOk P w H B' := fun a o e =>
  (x a o e).stay (fun b u hb hu => by
    have : b ≠ C := fun z => by
      rcases hb with q | q
      · rw [← q, z, hC] at e; cases e
      · rw [z, hC] at q; cases q
    rw [hs b this]; exact hu) (fun _ h => h) fun _ _ h => h
theorem cxp_but {P : Program} {w : World} {outer : List Env} {H : Hp} {s s' : Shared} {E : XK} {pn : List (Addr × Obj)} {u : Value} {C : Addr} (x : CXP P w outer H s E pn u s') (hC : ∀ o, s.heap.get? C ≠ some o) (hp : ∃ o, (C, o) ∈ pn) :
    ∃ (a : Addr) (B : Heap) (H' : Hp) (cls : Value) (d : Option Addr), u = .ref a ∧ B.get? C = none ∧ HandSPX.FlyingZ B outer a (Zc cls d) s'.heap ∧ HOk P w H' B ∧ UB (frs outer) H H' s.heap B s'.heap ∧ H' a = none ∧ s'.os = s.os ∧ AllBare s'.gens ∧ E cls d H' := by
  obtain ⟨a, B, H', cls, d, rfl, ⟨f1, f2, f3, f4⟩, ok, ub, na, os, ag, w, pins⟩ := x
  obtain ⟨o, ho⟩ := hp
  obtain ⟨B', g1, g2⟩ := restrict B fun b => !decide (b = C)
  have hs : ∀ b, b ≠ C → B'.get? b = B.get? b := fun b hb => g1 b (by simp [hb])
  have hn : B'.get? C = none := g2 C (by simp)
  have sub : ∀ b q, B'.get? b = some q → B.get? b = some q := fun b q e => by
    by_cases z : b = C
    · rw [z, hn] at e; cases e
    · rw [← hs b z]; exact e
  have none' : ∀ b, B.get? b = none → B'.get? b = none := fun b e => by
    by_cases z : b = C
    · rw [z]; exact hn
    · rw [hs b z]; exact e
  have ne : ∀ b q, s.heap.get? b = some q → b ≠ C := fun b q e z => hC q (by rw [← z]; exact e)
  refine ⟨a, B', H', cls, d, rfl, hn, ⟨fun b q e => f1 b q (sub b q e), none' a f2, frames_base none' f3, ?_⟩, hok_but ok (pins _ ho).2 hs, ⟨fun b q e n hb => by rw [hs b (ne b q e)]; exact ub.keep b q e n hb, ub.slot, ub.free, fun b q e hb => by rw [hs b (ne b q e)]; exact ub.there b q e hb, ub.tups, ub.frzs, ub.tbls⟩, na, os, ag, w⟩
  obtain ⟨oe, vs, T, oT, ts, he, hz, hd, h1, hnT, r⟩ := f4
  exact ⟨oe, vs, T, oT, ts, he, hz, hd, h1, none' T hnT, r⟩
section
variable {X : Cx} {pins : List (Addr × Obj)} {σ : L2.St} {H : Hp} {sc s : Shared} {W : WX} {C : Addr} {ce : Env} {u : Value} {m : Str → Option Value}
theorem xe_sky {sI s' : Shared} {a : Addr} {B : Heap} {H' : Hp} {cls : Value} {d : Option Addr} (I : Inv X pins σ H sI) (st : B.StaysIn s'.heap) (sky : Sky B X.stack a (Zc cls d) X.env.locals s'.heap) (hok : HOk X.prog X.w H' B) (ub : UB (frs X.stack) H H' sI.heap B s'.heap) (na : H' a = none) (os : s'.os = sI.os) (ag : AllBare s'.gens) (hW : W cls d σ H') : XE X W (.ref a) s' := by
  obtain ⟨G, g1, g2⟩ := restrict s'.heap fun b => (B.get? b).isSome || decide (b ∈ frs X.stack)
  have gB : ∀ b o, B.get? b = some o → G.get? b = some o := fun b o e => by
    rw [g1 b (by simp [e])]
    exact st b o e
  have gF : ∀ b, b ∈ frs X.stack → G.get? b = s'.heap.get? b := fun b hb => g1 b (by simp [hb])
  have og : ∀ b o, G.get? b = some o → s'.heap.get? b = some o ∧ ((B.get? b).isSome = true ∨ b ∈ frs X.stack) := fun b o e => by
    cases q : ((B.get? b).isSome || decide (b ∈ frs X.stack)) with
    | false => rw [g2 b q] at e; cases e
    | true =>
      rw [g1 b q] at e
      exact ⟨e, by simpa [Bool.or_eq_true] using q⟩
  refine ⟨a, B, { sI with heap := G, gens := s'.gens, drawn := s'.drawn, toks := s'.toks }, pins, σ, H', cls, d, rfl, ?_, fun b o e hb => ?_, Heap.UpToSlots.of_keeps fun b o e => (og b o e).1, sky, na, os, ag, hW⟩
  · refine I.call (ch := []) ⟨fun b o e n hb _ => gB b o (ub.keep b o e n hb), fun b o e n hb _ => ?_, fun b o e n _ => ub.free b o e n, fun b o e _ => ?_, ub.tups, ub.frzs, ub.tbls⟩ (hok.kept gB) ag (fun _ z => nomatch z)
    · obtain ⟨sl, q⟩ := ub.slot b o e hb
      exact ⟨sl, by rw [gF b hb]; exact q⟩
    · by_cases hb : b ∈ frs X.stack
      · obtain ⟨sl, q⟩ := ub.slot b o e hb
        exact ⟨_, by rw [gF b hb]; exact q⟩
      · obtain ⟨o', q⟩ := ub.there b o e hb
        exact ⟨o', gB b o' q⟩
  · obtain ⟨e', h⟩ := og b o e
    rcases h with h | h
    · obtain ⟨o', q⟩ := Option.isSome_iff_exists.mp h
      have z := st b o' q
      rw [e'] at z; cases z
      exact q
    · exact absurd h hb
theorem comp_exc {pn : List (Addr × Obj)} (tk : Takes X W) (I : Inv X pins σ H sc) (cxp : CXP X.prog X.w X.stack H sc (WE W σ) pn u s) (hst : X.stack = X.env :: X.outer) (hf : X.env.frame = some X.env.locals) (hce : ce.frame = X.env.frame) (hCn : sc.heap.objs.size ≤ C) (hNs : s.heap.Ns C m) (hp : ∃ o, (C, o) ∈ pn) {Q : Value → Shared → Prop} {acc : Value} :
    notedBy (model X.prog X.w) X.A ce (fun e s' => compPostF (model X.prog X.w) X.A X.xe Q acc C X.env.frame (.error e) s') u s := by
  have hCs : ∀ o, sc.heap.get? C ≠ some o := fun o e => absurd (Heap.lt_size e) (Nat.not_lt_of_le hCn)
  have frC : C ∉ frs X.stack := fun z => by
    rcases List.mem_cons.mp (I.stkSub C z) with z | z
    · have := I.lt
      rw [← z] at this
      exact absurd this (Nat.not_lt_of_le hCn)
    · exact I.nofs hCn z
  obtain ⟨a, B, H', cls, d, rfl, hBC, fl, ok, ub, na, os, ag, w⟩ := cxp_but cxp hCs hp
  have hfr : X.A.frames = some (X.env :: X.outer) := by rw [I.ok.frames, hst]
  obtain ⟨oC, es, ep, hoC, hdC, rC⟩ := hNs
  have nfC : ∀ vs, oC.data ≠ .fields vs := fun vs z => by rw [hdC] at z; cases z
  show wpAny _ _ (noteFrame (.ref a) ce) _ _ s
  rw [show noteFrame (.ref a) ce = noteFrame (.ref a) X.env from by unfold noteFrame PySem.frameOf; rw [hce]]
  rw [hst] at fl
  refine HandSPX.looks_onZ Zc.steady hfr hf fl fun h1 hh1 up1 => ?_
  obtain ⟨sl1, hC1⟩ := up1 C oC hoC nfC
  refine ⟨m, ⟨_, es, ep, hC1, hdC, rC⟩, fun h2 sb cenv hl hcf => ?_⟩
  have hh2 : HandSPX.HeldZ B (X.env :: X.outer) a (Zc cls d) X.env.locals h2 := by
    obtain ⟨f1, f2, f3, oe, vs, T, oT, ts, he, hz, hd, h1', hnT, hTe, hT, hdT, h3⟩ := hh1
    have ne : a ≠ C := fun z => by
      rw [z, hC1] at he
      cases he
      exact nfC vs hd
    have nT : T ≠ C := fun z => by
      rw [z, hC1] at hT
      cases hT
      exact nfC ts hdT
    refine ⟨fun b o e => ?_, f2, frames_but sb.2 f3 (by rw [← hst]; exact frC), oe, vs, T, oT, ts, (sb.2 a ne).trans he, hz, hd, h1', hnT, hTe, (sb.2 T nT).trans hT, hdT, h3⟩
    have : b ≠ C := fun z => by rw [z, hBC] at e; cases e
    rw [sb.2 b this]
    exact f1 b o e
  have hcf' : cenv.frame = some X.env.locals := hcf.trans hf
  unfold PySem.passOn
  obtain ⟨oe, vs, T, _, _, he, _, hd, h1', _⟩ := hh2.2.2.2
  refine wpAny_bind (wpAny_field (s := { s with heap := h2 }) he hd h1' ?_)
  rw [if_neg (by simp)]
  rw [hcf']
  refine wpAny_bind (HandSPX.setFlight_onZ (s := { s with heap := h2 }) hh2 fun h3 hh3 up3 => ?_)
  refine wpAny_throw (tk _ _ ?_)
  refine xe_sky (s' := { s with heap := h3 }) I hh3.1 (.inr (.inr (by rw [hst]; exact hh3))) ok ⟨ub.keep, fun b o e hb => ?_, ub.free, ub.there, ub.tups, ub.frzs, ub.tbls⟩ na os ag w
  obtain ⟨_, o₀, e₀, hnf⟩ := I.stack.mem hb
  rw [e] at e₀
  cases e₀
  obtain ⟨q1, e1⟩ := ub.slot b o e hb
  obtain ⟨q2, e2⟩ := up1 b _ e1 hnf
  have hbC : b ≠ C := fun z => frC (by rw [← z]; exact hb)
  obtain ⟨q3, e3⟩ := up3 b _ ((sb.2 b hbC).trans e2) hnf
  exact ⟨q3, e3⟩
theorem cxp_back {P : Program} {w : World} {outer : List Env} {H H1 : Hp} {s s' s2 : Shared} {E E' : XK} {pn : List (Addr × Obj)} {u : Value} (c : CXP P w outer H s2 E pn u s') (hE : ∀ c d H, E c d H → E' c d H) (ho : s2.os = s.os) (k : ∀ b o, s.heap.get? b = some o → s2.heap.get? b = some o) (kn : ∀ b o, s.heap.get? b = some o → H1 b = none → H b = none) {D : Addr} (kd : ∀ b o, H1 b = some o → b ≠ D) (kh : ∀ b, b ≠ D → H b = H1 b) : CXP P w outer H1 s E' pn u s' := by
  obtain ⟨a, B, H', cls, d, e, fl, hok, ub, na, os, ag, w, q⟩ := c
  exact ⟨a, B, H', cls, d, e, fl, hok, ⟨fun b o e n hb => ub.keep b o (k b o e) (kn b o e n) hb, fun b o e hb => ub.slot b o (k b o e) hb, fun b o e n => ub.free b o (k b o e) (kn b o e n), fun b o e hb => ub.there b o (k b o e) hb, fun b xs e => ub.tups b xs (by rw [kh b (kd b _ e)]; exact e), fun b o xs e => ub.frzs b o xs (by rw [kh b (kd b _ e)]; exact e), fun b ps e => ub.tbls b ps (by rw [kh b (kd b _ e)]; exact e)⟩, na, os.trans ho, ag, hE _ _ _ w, q⟩
end
end GQ
namespace ML
open PySem PySem.Spec PyProof.Rows L2 GenW GQ
def finX (cs : List Nat) (D : Nat) : RG Unit → Res VI
  | .nx _ _ _ _ h => .ok (.ref D) h
  | .ex k i _ h => match cs.contains k with
    | true => .ex k i h
    | false => .err
  | _ => .err
def eLcX (cs : List Nat) (np m : Nat) (gm : GMA) (ma : MA) (t : Tgt) (vs : List Nat) (el : ME) : ME := fun σ h => (ma σ h).bind fun as h1 => finX cs h1.length (yRun np m gm (cbLc t vs el h1.length σ) as () (h1 ++ [.lst []]))
section
variable {G : Gx} {W : WX} {X : Cx} {pins : List (Addr × Obj)} {σ : L2.St} {H : Hp} {s : Shared} {Q : VK}
def ZLx (cs : List Nat) (ns : NoSt X.K G cs) (W : WX) (B : Cx) (σw : L2.St) (cb : CB Unit) (σi : Sg) (σ : L2.St) (D C : Addr) (d : Nat) (Q : VK) (H0 : Hp) (s0 : Shared) : Cons G Unit Unit where
  cb := cb
  AC := fun ρ H _ _ => AgS G ρ H σi σ ∧ ρ[d]? = some D
  P := fun r ρ H => match r with
    | .rt _ h => ∀ ρ' H', Stp G ρ H ρ' H' → Ag G ρ' h H' → Q (.ref D) H'
    | .ex k i _ h => cs.contains k = true ∧ ∀ ρ' H' d C, Stp G ρ H ρ' H' → Ag G ρ' h H' → ρ'[i]? = some d → G.ct k = some C → W (.ref C) (some d) σ H'
    | _ => False
  exf := fun k i _ h => .ex k i [] h
  fin := fun _ h => .rt .non h
  CI := fun r => Inv B [] σw r.H r.s ∧ (∃ xs, r.H D = some (.lst xs)) ∧ ∃ oC, r.pn = [(C, oC)] ∧ r.s.heap.get? C = some oC
  fst := fun r => r.H = H0 ∧ r.s = s0
  E0 := noStW X W σ
  acL := fun st a => ⟨a.1.mono st, st.pre _ _ a.2⟩
  pL := fun {r ρ H ρ' H'} st f => by
    cases r with
    | rt v h => exact fun ρ2 H2 s2 => f ρ2 H2 (st.trans s2)
    | ex k i q h => exact ⟨f.1, fun ρ2 H2 d C s2 => f.2 ρ2 H2 d C (st.trans s2)⟩
    | _ => exact f
  exE := fun {k i c h ρ H} f ρ' H' d D r _ st ag _ hn hc => ⟨f.2 ρ' H' d D st ag hn hc, ns k (by simpa using f.1) D hc⟩
theorem me_lcX {k m np : Nat} {cs : List Nat} {gm : GMA} {ma : MA} {t : Tgt} {el : ME} {tg iter elt : Expr} {scope : Scope} {own : List (Str × Nat)} {pos : Pos} (tk : Takes X W) (hG : G.K = X.K) (ns : NoSt X.K G cs) (hc : X.calm = true) (hN : X.N.Nodup) (hr : Room (k + 3) X.A) (pg : PGenM X G k iter gm m np (rdA G W ma)) (ok : BlkOk X.N X.env.scope scope own) (hnc : scope.names.all (fun y => !(y.2 == .cell) && !(y.2 == .free)) = true)
    (hsl : ∀ j ∈ t.slots, j ∈ own.map (·.2)) (hg : ∀ (s : Shared) (H : Hp) (C : Addr) (cl : List (Str × Addr)) (fp : List Addr), PG (X.blk s H scope (compEnvC scope cl C X.env) fp) tg (t.tg X.K))
    (he : ∀ (s : Shared) (H : Hp) (C : Addr) (cl : List (Str × Addr)) (fp : List Addr), PE (X.blk s H scope (compEnvC scope cl C X.env) fp) elt (rdE G W0 el))
    (hst : X.stack = X.env :: X.outer := by rfl) (hf : X.env.frame = some X.env.locals := by rfl) (hs : ∀ x, foldedSetIterable iter X.env x = pure x := by intro _; rfl) :
    PE X (.ListComp elt [⟨tg, iter, [], 0⟩] scope pos) (rdE G W (eLcX cs np m gm ma t (own.map (·.2)) el)) := by
  refine ⟨fun pins s σ H Q I ⟨ρ, σi, h, as, ag, fin⟩ => ?_⟩
  rw [eval_ListComp]
  have hfree : ∀ y ∈ scope.names, y.2 = .free → ∃ c, X.env.cells.lookup y.1 = some c := fun y hy e => by
    have := List.all_eq_true.mp hnc y hy
    rw [e] at this
    exact absurd this (by decide)
  refine comp_freeF rfl hs (closure_ok hfree) ok.kind (fun y hy e => by rw [ok.uniq y hy, e])
    (thn (pg.run pins s σ H (fun vs H1 => ∃ ρ1 h1 args, AgS G ρ1 H1 σi σ ∧ Ag G ρ1 h1 H1 ∧ RVs G ρ1 H1 args vs ∧ args.length = np ∧ FinG G ρ1 H1 (RV G) Q (fun c d H' => W c d σ H') (finX cs h1.length (yRun np m gm (cbLc t (own.map (·.2)) el h1.length σi) args () (h1 ++ [.lst []])))) I (rdG_go as ag fin fun ρ1 H1 h1 x y st as1 ag1 rr f1 => ?_)) fun u s1 ⟨vs, H1, sc, I1, hGm, ρ1, h1, args, as1, ag1, ra, hl, f1⟩ => ?_)
  · by_cases hl : x.length = np
    · exact ⟨by rw [← rr.length, hl], ρ1, h1, x, as1, ag1, rr, hl, f1⟩
    · have : Nat.beq x.length np = false := by
        cases q : Nat.beq x.length np with
        | false => rfl
        | true => exact absurd (Nat.eq_of_beq_eq_true q) hl
      unfold yRun at f1
      rw [this] at f1
      exact f1.elim
  obtain ⟨a, g, c, N, qual, scp, f, cdv, go, nm', qn, rfl, hsa, hga, hgc, hgd, hgs, hge, hos, hba, hlim, hkp, hcl, wake⟩ := hGm
  have isgen : ∀ {h : Heap}, h.get? a = some go → h.IsGen a g := fun e => ⟨go, nm', qn, e, hgc, hgd, hgs⟩
  refine wpAny_pyIter_gen (isgen hga) ?_
  have Is1 : Inv X pins σ H1 s1 := I1.call' (ch := []) hos (Un.kept hkp) (I1.hok.kept hkp) hba fun b z => by simp at z
  have old : Old X pins sc.heap.objs.size := old_size I1
  have ha2 : a < s1.heap.objs.size := Heap.lt_size hga
  refine wpAny_newObj_type (newEnv_comp ?_) (by show 0 ≤ sizeLine; decide)
  generalize hD : s1.heap.objs.size = D
  have hDn : H1 D = none := Is1.hok.fresh (Nat.le_of_eq hD)
  generalize hs3 : ({ s1 with heap := s1.heap.push { cls := .type "list", data := .seq ([] : List Value).toArray } } : Shared) = s3
  have I3 : Inv X pins σ (upd H1 D (.lst [])) s3 := by
    rw [← hs3]
    refine Is1.laid (t' := s1.toks) (fun b o e => Heap.get?_push_of_some _ e) (Nat.le_of_eq hD) ⟨Nat.zero_le _, [], 0, .nil, ?_⟩
    rw [← hD]
    exact Heap.get?_push_size _ rfl
  have h3 : s3.heap = s1.heap.push { cls := .type "list", data := .seq ([] : List Value).toArray } := by rw [← hs3]
  have z3 : s3.heap.objs.size = D + 1 := by rw [h3, Heap.size_push, hD]
  have hnL : ∀ b, sc.heap.objs.size ≤ b → H1 b = none := fun b hb => I1.hok.fresh hb
  obtain ⟨fp, hfp⟩ : ∃ fp, fp = past s1.heap sc.heap.objs.size := ⟨_, rfl⟩
  have mfp : ∀ b, b ∈ fp ↔ b < D ∧ sc.heap.objs.size ≤ b := fun b => by rw [hfp, mem_past, hD]
  have hLD : sc.heap.objs.size < D := by rw [← hD]; exact Nat.lt_of_le_of_lt hsa ha2
  have f3 : ∀ b ∈ fp, FpOk X pins (upd H1 D (.lst [])) b ∧ b < s3.heap.objs.size := fun b hb => by
    obtain ⟨b1, b2⟩ := (mfp b).mp hb
    refine ⟨⟨?_, Nat.ne_of_gt (Nat.lt_of_lt_of_le old.loc b2), I1.nofs b2, .inr (Nat.le_trans old.s0 b2), fun x c e => Nat.ne_of_lt (Nat.lt_of_lt_of_le (old.cel x c e) b2), fun p hp => Nat.ne_of_lt (Nat.lt_of_lt_of_le (old.pin p hp) b2)⟩, Nat.lt_of_lt_of_le (Nat.lt_succ_of_lt b1) (Nat.le_of_eq z3.symm)⟩
    rw [upd_ne (Nat.ne_of_lt b1)]
    exact hnL b b2
  have I4 := block_start I3 ok hN f3
  have pgt := hg s3 (upd H1 D (.lst [])) s3.heap.objs.size (cellsFrom (s3.heap.objs.size + 1) scope.names (cloFrom X.env.cells scope.names [])) fp
  have pel := he s3 (upd H1 D (.lst [])) s3.heap.objs.size (cellsFrom (s3.heap.objs.size + 1) scope.names (cloFrom X.env.cells scope.names [])) fp
  show codeAny _ _ (.compStart (.ListComp elt [⟨tg, iter, [], 0⟩] scope pos) 0 (.ref a) (.ref D) (compEnvC scope (cellsFrom (s3.heap.objs.size + 1) scope.names (cloFrom X.env.cells scope.names [])) s3.heap.objs.size X.env)) (compPostF (model X.prog X.w) X.A X.xe (EP X pins σ Q) (.ref D) s3.heap.objs.size X.env.frame) { s3 with heap := pushCells (s3.heap.push { cls := .type "dict", data := .dict #[] }) scope.names }
  have ncel : cellsFrom (s3.heap.objs.size + 1) scope.names (cloFrom X.env.cells scope.names []) = [] := by rw [noClo hnc]; exact noCell hnc _
  generalize hce : compEnvC scope (cellsFrom (s3.heap.objs.size + 1) scope.names (cloFrom X.env.cells scope.names [])) s3.heap.objs.size X.env = ce at I4 pgt pel ⊢
  have cL : ce.locals = D + 1 := by subst hce; exact z3
  have cC : ce.cells = [] := by subst hce; exact ncel
  have hcef : ce.frame = X.env.frame := by subst hce; rfl
  generalize hH3 : upd H1 D (.lst []) = H3 at I3 I4 pgt pel f3
  have hs4k : ∀ b o, s1.heap.get? b = some o → (pushCells (s3.heap.push { cls := .type "dict", data := .dict #[] }) scope.names).get? b = some o := fun b o e => pushCells_keeps _ _ _ _ (Heap.get?_push_of_some _ (by rw [h3]; exact Heap.get?_push_of_some _ e))
  have os3 : s3.os = s1.os := by rw [← hs3]
  have ge3 : s3.gens = s1.gens := by rw [← hs3]
  rw [z3]
  generalize hs4 : ({ s3 with heap := pushCells (s3.heap.push { cls := .type "dict", data := .dict #[] }) scope.names } : Shared) = s4 at I4 ⊢
  have k4 : ∀ b o, s1.heap.get? b = some o → s4.heap.get? b = some o := fun b o e => by rw [← hs4]; exact hs4k b o e
  have os4 : s4.os = s1.os := by rw [← hs4]; exact os3
  have ge4 : s4.gens = s1.gens := by rw [← hs4]; exact ge3
  have b4 : AllBare (s4.setGen g .running).gens := allBare_setGen (by rw [ge4]; exact hba) rfl
  obtain ⟨mC, ⟨oC, esC, epC, hoC, hdC, rC⟩, _⟩ := id I4.loc
  have hoC : s4.heap.get? ce.locals = some oC := hoC
  rw [cL] at hoC
  have hC3 : H3 (D + 1) = none := by
    have z : H3 ce.locals = none := I4.free
    rw [cL] at z
    exact z
  have un13 : Un (frs X.stack) [] H1 H3 s1.heap s4.heap := by
    rw [← hH3]
    refine ⟨fun b o e n _ _ => k4 b o e, fun b o e n _ _ => ⟨o.slots, k4 b o e⟩, fun b o e n _ => ?_, fun b o e _ => ⟨o, k4 b o e⟩, fun b xs e => ?_, fun b o u e => ?_, fun b ps e => ⟨#[], ?_⟩⟩
    · rw [upd_ne (by have := Heap.lt_size e; rw [hD] at this; exact Nat.ne_of_lt this)]; exact n
    · rw [upd_ne (fun z => by rw [z, hDn] at e; cases e)]; exact e
    · rw [upd_ne (fun z => by rw [z, hDn] at e; cases e)]; exact e
    · rw [upd_ne (fun z => by rw [z, hDn] at e; cases e)]; simpa using e
  have frT : ∀ b, sc.heap.objs.size ≤ b → b ∉ frs X.stack := fun b hb z => by
    rcases List.mem_cons.mp (I1.stkSub b z) with z | z
    · exact absurd old.loc (by rw [← z]; exact Nat.not_lt_of_le hb)
    · exact I1.nofs hb z
  have hok4 : HOk X.prog X.w H3 s4.heap := I4.hok
  generalize hB : X.blk s3 H3 scope ce fp = B at I4 pgt pel
  have hBs : B.stack = X.stack := by rw [← hB]
  have hBo : B.fs = frs X.stack := by rw [← hB]
  have hBl : B.env.locals = D + 1 := by rw [← hB]; exact cL
  have hBc : B.env.cells = [] := by rw [← hB]; exact cC
  have hBp : B.pn = [] := by rw [← hB]
  have hBe : B.ex = fp := by rw [← hB]
  have hB0 : B.s_0.heap.objs.size = D + 1 := by rw [← hB]; exact z3
  generalize hσw : L2.wipe σ (own.map (·.2)) = σw at I4
  let Z : Cons G Unit Unit := ZLx (G := G) (X := X) cs ns W B σw (cbLc t (own.map (·.2)) el h1.length σi) σi σ D (D + 1) h1.length Q H3 (s4.setGen g .running)
  let XX : Cx := gcxOf X.prog X.w X.K X.mg X.base N qual scp f cdv X.A.in1 X.stack sc H1 noE [(a, go)]
  have room : Room k X.A.in1 := (hr.mono (by omega : k + 1 ≤ k + 3)).in1
  have ag3 : Ag G (ρ1 ++ [D]) (h1 ++ [.lst []]) H3 := by rw [← hH3]; exact ag1.new hDn ⟨[], upd_same, .nil⟩
  have st3 : Stp G ρ1 H1 (ρ1 ++ [D]) H3 := by rw [← hH3]; exact Stp.new hDn
  have atD : (ρ1 ++ [D])[h1.length]? = some D := by rw [← ag1.len]; simp
  have hD3 : H3 D = some (.lst []) := by rw [← hH3]; exact upd_same
  have seg0 := wake X.A.in1 Unit Unit Z (s4.setGen g .running) () (ρ1 ++ [D]) (h1 ++ [.lst []]) args () 1000000 [(D + 1, oC)] H3 room I1.ok.frames un13 hok4 (os4.trans hos) b4 (RVs.mono st3 ra) ag3 ⟨as1.mono st3, atD⟩ (fun p hp => by
      rw [List.mem_singleton.mp hp]
      exact ⟨hoC, hC3, by show s1.heap.objs.size ≤ D + 1; rw [hD]; exact Nat.le_succ D, fun v z => by rw [hdC] at z; cases z⟩) (show Inv B [] σw H3 _ ∧ (∃ xs, H3 D = some (.lst xs)) ∧ _ from ⟨withG I4 rfl rfl b4, ⟨_, hD3⟩, oC, rfl, hoC⟩) ⟨rfl, rfl⟩ (by
    unfold yRun at f1
    rw [show Nat.beq args.length np = true from by rw [hl]; exact Nat.beq_refl _] at f1
    show NxK Z (endPost Z) (gm (cbLc t (own.map (·.2)) el h1.length σi) true (args.map some ++ List.replicate m none) () 1000000 (h1 ++ [.lst []])) (ρ1 ++ [D]) H3
    cases q : gm (cbLc t (own.map (·.2)) el h1.length σi) true (args.map some ++ List.replicate m none) () 1000000 (h1 ++ [.lst []]) with
    | nx b σ' c' n' h' =>
      dsimp only at f1
      rw [q] at f1
      exact fun ρ' H' st ag' => f1 ρ' H' (.ref D) (st3.trans st) ag' (.ref (st.pre _ _ atD))
    | out r => dsimp only at f1; rw [q] at f1; exact f1.elim
    | ex k i c' h' =>
      dsimp only at f1
      rw [q] at f1
      unfold finX at f1
      dsimp only at f1
      cases q2 : cs.contains k with
      | false => rw [q2] at f1; exact f1.elim
      | true => rw [q2] at f1; exact ⟨q2, fun ρ' H' d C st => f1 ρ' H' d C (st3.trans st)⟩
    | err => dsimp only at f1; rw [q] at f1; exact f1.elim)
  have pgR : ∀ (pins : List (Addr × Obj)) (s : Shared) (σ : L2.St) (H : Hp) (x : V) (u : Value) (N : L2.St → Hp → Prop), Inv B pins σ H s → RelV x u → t.tg X.K x σ H N → wpAny (model X.prog X.w) X.A (assign tg ce u) (fun _ s' => ∃ σ' H', Inv B pins σ' H' s' ∧ N σ' H') (fun _ _ => False) s := by
    subst hB
    exact fun pins s σ H x u N I r h => pgt.run pins s σ H x u N I r h
  have peR : ∀ (pins : List (Addr × Obj)) (s : Shared) (σ : L2.St) (H : Hp) (N : VK), Inv B pins σ H s → rdE G W0 el σ H N → wpAny (model X.prog X.w) X.A (eval elt ce) (fun u s' => ∃ y H', Inv B pins σ H' s' ∧ RelV y u ∧ N y H') (fun _ _ => False) s := by
    subst hB
    exact fun pins s σ H N I h => pel.run pins s σ H N I h
  have apR : ∀ (pins : List (Addr × Obj)) (s : Shared) (σ : L2.St) (H : Hp) (xs : List V) (y : V) (u : Value) (N : Value → Shared → Prop), Inv B pins σ H s → H D = some (.lst xs) → xs.length < sizeLine → RelV y u → (∀ s', Inv B pins σ (upd H D (.lst (xs ++ [y]))) s' → N .none s') → wpAny (model X.prog X.w) X.A (call (.builtin "list.append") [.ref D, u]) N (fun _ _ => False) s := by
    subst hB
    exact fun pins s σ H xs y u N I h1 h2 h3 h4 => app_ok (X := X.blk s3 H3 scope ce fp) I h1 h2 h3 h4
  have backB : ∀ {rb : Rb Unit} {ip : List (Addr × Obj)} {σg : L2.St} {H6 : Hp} {s6 : Shared}, Inv (gF XX rb) ip σg H6 s6 → Z.CI rb → (∃ o, H6 D = some o) → Inv B [] σw H6 s6 := by
    rintro rb ip σg H6 s6 Ig ci ⟨oD, hoD⟩
    obtain ⟨ciI, ⟨xs, hxs⟩, oC', hpn, hoC'⟩ : Inv B [] σw rb.H rb.s ∧ (∃ xs, rb.H D = some (.lst xs)) ∧ ∃ oC, rb.pn = [(D + 1, oC)] ∧ rb.s.heap.get? (D + 1) = some oC := ci
    have pinC := Ig.pin (D + 1, oC') (List.mem_append_left _ (List.mem_append_right _ (by rw [hpn]; exact List.mem_singleton.mpr rfl)))
    have pC1 : s6.heap.get? (D + 1) = some oC' := pinC.1
    have pC2 : H6 (D + 1) = none := pinC.2.1
    have u0 : Un (frs X.stack) (past rb.s.heap sc.heap.objs.size) rb.H H6 rb.s.heap s6.heap := un_cut Ig.base
    have hok6 : HOk X.prog X.w H6 s6.heap := Ig.hok
    obtain ⟨o6, ho6⟩ : ∃ o, s6.heap.get? D = some o := objThere (hok6 D oD hoD)
    have low : ∀ b, b ≠ D → b ≠ D + 1 → b ∉ (past rb.s.heap sc.heap.objs.size).filter (fun b => !(b == D) && !(b == D + 1)) → b ∉ past rb.s.heap sc.heap.objs.size := fun b h1 h2 hx hp => hx (List.mem_filter.mpr ⟨hp, by simp [h1, h2]⟩)
    have notD : ∀ b, rb.H b = none → b ≠ D := fun b n z => by rw [z, hxs] at n; cases n
    have sameC : ∀ o, rb.s.heap.get? (D + 1) = some o → s6.heap.get? (D + 1) = some o := fun o e => by rw [hoC'] at e; rw [pC1]; exact e
    have hBok : HOk B.prog B.w H6 s6.heap := by rw [← hB]; exact hok6
    refine ciI.call' (ch := (past rb.s.heap sc.heap.objs.size).filter fun b => !(b == D) && !(b == D + 1)) Ig.os ?_ hBok Ig.bare fun b hb => ?_
    · rw [hBs]
      refine ⟨fun b o e n hf hx => ?_, fun b o e n hf hx => ?_, fun b o e n hx => ?_, fun b o e hx => ?_, u0.tups, u0.frzs, u0.tbls⟩
      · by_cases z : b = D + 1
        · rw [z] at e ⊢; exact sameC o e
        · exact u0.keep b o e n hf (low b (notD b n) z hx)
      · by_cases z : b = D + 1
        · rw [z] at e ⊢; exact ⟨o.slots, sameC o e⟩
        · exact u0.slot b o e n hf (low b (notD b n) z hx)
      · by_cases z : b = D + 1
        · rw [z]; exact pC2
        · exact u0.free b o e n (low b (notD b n) z hx)
      · by_cases z : b = D + 1
        · rw [z]; exact ⟨_, pC1⟩
        · by_cases z2 : b = D
          · rw [z2]; exact ⟨_, ho6⟩
          · exact u0.there b o e (low b z2 z hx)
    · obtain ⟨hb1, hb2⟩ := List.mem_filter.mp hb
      obtain ⟨hb3, hb4⟩ := mem_past.mp hb1
      have hbD : b ≠ D ∧ b ≠ D + 1 := by simpa using hb2
      refine ⟨?_, (by rw [hBl]; exact hbD.2), (fun x c e => by rw [hBc] at e; cases e), (fun p hp => by rw [hBp] at hp; cases hp)⟩
      rw [hBe, hB0]
      by_cases z : b < D
      · exact .inl ((mfp b).mpr ⟨z, hb4⟩)
      · exact .inr (Nat.succ_le_of_lt (Nat.lt_of_le_of_ne (Nat.le_of_not_lt z) (Ne.symm hbD.1)))
  have got6 : ∀ {ρ6 : List Addr} {h6 : Hi} {H6 : Hp}, Ag G ρ6 h6 H6 → ρ6[h1.length]? = some D → ∃ o, H6 D = some o := by
    intro ρ6 h6 H6 ag6 atD6
    have hlt : h1.length < h6.length := by rw [← ag6.len]; exact (List.getElem?_eq_some_iff.mp atD6).1
    obtain ⟨a', ha', r⟩ := ag6.ob h1.length _ (List.getElem?_eq_getElem hlt)
    rw [atD6] at ha'
    cases ha'
    obtain ⟨o, ho, _⟩ := r.some
    exact ⟨o, ho⟩
  have loop : codeAny (model X.prog X.w) X.A (.compLoop (.ListComp elt [⟨tg, iter, [], 0⟩] scope pos) 0 (.ref a) (.ref D) ce) (compPostF (model X.prog X.w) X.A X.xe (EP X pins σ Q) (.ref D) (D + 1) X.env.frame) s4 := by
    refine compLoop_any (fun n s' => ∃ (H' : Hp) (gs : GenState), Inv B [] σw H' s' ∧ (∃ xs, H' D = some (.lst xs)) ∧ s'.heap.get? a = some go ∧ s'.gens[g]? = some gs ∧ gs.Goes (model X.prog X.w) X.A.in1 (REndG XX Z) (YG XX Z) n (.send .none) (s'.setGen g .running)) ?_ 1000000 ⟨H3, .fresh c, I4, ⟨_, hD3⟩, k4 a go hga, by rw [ge4]; exact hge, rfl, seg0⟩
    rintro n s5 ⟨H5, gs, I5, hD5, hga5, hge5, goes⟩
    refine next_genS (show X.A.handled = none from I1.ok.hd hc) I5.nolimit hr.depth (isgen hga5) hge5 goes (fun v s6 gs' sus bare hlt hY => ?_) (fun s6 hF h' hk => ?_) fun e s6 hE => ?_
    · obtain ⟨rb, ip, σg, ρ6, h6, H6, x, xv, c6, rv, rx, Ig, ag6, ac6, ci6, ap6, hm⟩ := hY
      obtain ⟨as6, atD6⟩ : AgS G ρ6 H6 σi σ ∧ ρ6[h1.length]? = some D := ac6
      have I6 : Inv B [] σw H6 s6 := backB Ig ci6 (got6 ag6 atD6)
      obtain ⟨_, _, oC', hpn, _⟩ : Inv B [] σw rb.H rb.s ∧ (∃ xs, rb.H D = some (.lst xs)) ∧ ∃ oC, rb.pn = [(D + 1, oC)] ∧ rb.s.heap.get? (D + 1) = some oC := ci6
      have memC : (D + 1, oC') ∈ rb.pn := by rw [hpn]; exact List.mem_singleton.mpr rfl
      have pinA := Ig.pin (a, go) (List.mem_append_left _ (List.mem_append_left _ (List.mem_singleton.mpr rfl)))
      have bare7 : AllBare (s6.setGen g gs').gens := allBare_setGen Ig.bare bare
      have I7 : Inv B [] σw H6 (s6.setGen g gs') := withG I6 rfl rfl bare7
      refine go_of (s := s6.setGen g gs') (show (s6.setGen g gs').heap.get? a = some go from pinA.1) hgc hgd (by decide) ?_
      obtain ⟨_, ⟨oL, es, ep, hoL, hdL, _⟩, _⟩ := Ig.loc
      have hoL' : s6.heap.get? sc.heap.objs.size = some oL := hoL
      have haD : a < D := by rw [← hD]; exact ha2
      have priv : ∀ p ∈ (a, go) :: (sc.heap.objs.size, oL) :: ip, s6.heap.get? p.1 = some p.2 ∧ H6 p.1 = none ∧ p.1 ≠ D + 1 ∧ p.1 ∉ frs X.stack ∧ ∀ v, p.2.data ≠ .cell v := fun p hp => by
        rcases List.mem_cons.mp hp with hp | hp
        · obtain ⟨q1, q2, _, q4, q5⟩ := pinA
          rw [hp]
          exact ⟨q1, q2, Nat.ne_of_lt (Nat.lt_succ_of_lt haD), q4, q5⟩
        · rcases List.mem_cons.mp hp with hp | hp
          · rw [hp]
            exact ⟨hoL', Ig.free, Nat.ne_of_lt (Nat.lt_succ_of_lt hLD), frT _ (Nat.le_refl _), fun v z => by rw [hdL] at z; cases z⟩
          · obtain ⟨q1, q2, _, q4, q5⟩ := Ig.pin p (List.mem_append_right _ hp)
            exact ⟨q1, q2, ap6 _ memC p hp, q4, q5⟩
      have I8 : Inv B ([] ++ ((a, go) :: (sc.heap.objs.size, oL) :: ip)) σw H6 (s6.setGen g gs') := I7.pins_of fun p hp => by
        obtain ⟨q1, q2, q3, q4, q5⟩ := priv p (by simpa using hp)
        exact ⟨q1, q2, by rw [hBl]; exact q3, by rw [hBo]; exact q4, q5⟩
      have gr0 : GR g gs' (badAll (s6.setGen g gs').gens) (s6.setGen g gs').gens := gr_bad sus (setGen_at hlt)
      have I9 : Inv B ([] ++ ((a, go) :: (sc.heap.objs.size, oL) :: ip)) σw H6 { s6.setGen g gs' with gens := badAll (s6.setGen g gs').gens } := withG I8 rfl rfl (gr0.allL bare7)
      have hm' : AnsY (fun c' h' => ∀ ρ' H' k' s' (pn' : List (Addr × Obj)), Stp G ρ6 H6 ρ' H' → Ag G ρ' h' H' → (AgS G ρ' H' σi σ ∧ ρ'[h1.length]? = some D) → Woke (gF XX rb) XX.pn ip H' s6 s' → (∀ p ∈ pn', PinOk XX H' s' p ∧ ∀ q ∈ ip, q.1 ≠ p.1) → Z.CI ⟨s', H', k', noE, pn'⟩ → GoesN (model X.prog X.w) X.A.in1 (REndG XX Z) (YG XX Z) gs' n (.send .none) s') (fun q => Z.P q ρ6 H6) (cbLc t (own.map (·.2)) el h1.length σi x c6 h6) := hm
      unfold cbLc at hm'
      cases hpt : t.put x (wipeM σi (own.map (·.2))) with
      | none => rw [hpt] at hm'; exact hm'.elim
      | some σ2 =>
        rw [hpt] at hm'
        dsimp only at hm'
        cases hel : el σ2 h6 with
        | err => rw [hel] at hm'; exact hm'.elim
        | ex _ _ _ => rw [hel] at hm'; exact hm'.elim
        | ok y h7 =>
          rw [hel] at hm'
          dsimp only at hm'
          have asw : AgS G ρ6 H6 (wipeM σi (own.map (·.2))) σw := by rw [← hσw]; exact AgS.wipe _ as6
          refine wpAny_mono (wpAny_sim sus gr0 (pgR _ _ σw H6 xv v (fun σ8 H8 => H8 = H6 ∧ AgS G ρ6 H6 σ2 σ8 ∧ L2.wipe σ8 (own.map (·.2)) = σw) I9 rv (tgt_put hG asw rx hpt fun σ' as' hj hl => ⟨rfl, as', (wipe_eq _ (by rw [hl, ← hσw, L2.wipe_length]) fun j hv => by rw [hj j (fun z => hv (hsl j z)), ← hσw, L2.wipe_out hv]).trans hσw⟩))) (fun _ s8 ⟨G8, gr8, σ8, H8, I10, eH8, as8, ew8⟩ => ?_) fun e s' ⟨_, _, z⟩ => z.elim
          rw [eH8] at I10
          refine wpAny_tests_nil ?_
          show wpAny _ _ (eval elt ce) _ _ _
          refine wpAny_mono (wpAny_sim sus gr8 (peR _ _ σ8 H6 (fun y9 H9 => ∃ ρ9, Stp G ρ6 H6 ρ9 H9 ∧ Ag G ρ9 h7 H9 ∧ RV G ρ9 H9 y y9) I10 ⟨ρ6, σ2, h6, as8, ag6, by
            rw [hel]
            exact fun ρ' H' x' st a r => ⟨ρ', st, a, r⟩⟩)) (fun u9 s9 ⟨G9, gr9, y9, H9, I11, r9, ρ9, st9, ag9, ry9⟩ => ?_) fun e s' ⟨_, _, z⟩ => z.elim
          cases e4 : h7[h1.length]? with
          | none => rw [e4] at hm'; exact hm'.elim
          | some ob =>
            rw [e4] at hm'
            cases ob with
            | lst acc =>
              dsimp only at hm'
              cases e5 : small (acc.length + 1) with
              | false => rw [e5] at hm'; exact hm'.elim
              | true =>
                rw [e5] at hm'
                have hD9 := st9.pre _ _ atD6
                obtain ⟨ys, hy, rs⟩ := ag9.at_ e4 hD9
                have stW : Stp G ρ9 H9 ρ9 (upd H9 D (.lst (ys ++ [y9]))) := Stp.wr ag9 e4 hD9
                have agW : Ag G ρ9 (h7.set h1.length (.lst (acc ++ [y]))) (upd H9 D (.lst (ys ++ [y9]))) := ag9.wr (u' := .lst (acc ++ [y])) e4 hD9 ⟨_, upd_same, (rs.append (.cons ry9 .nil)).mono stW⟩
                refine wpAny_mono (wpAny_sim sus gr9 (apR _ _ σ8 H9 ys y9 u9 (fun _ s' => Inv B ([] ++ ((a, go) :: (sc.heap.objs.size, oL) :: ip)) σ8 (upd H9 D (.lst (ys ++ [y9]))) s') I11 hy (by rw [← rs.length]; exact small_lt e5) r9 fun s' I' => I')) (fun _ s10 ⟨G10, gr10, I12⟩ => ?_) fun e s' ⟨_, _, z⟩ => z.elim
                have J : Inv B ([] ++ ((a, go) :: (sc.heap.objs.size, oL) :: ip)) σ8 (upd H9 D (.lst (ys ++ [y9]))) s10 := withG (s := { s10 with gens := G10 }) I12 rfl rfl (gr10.allR I12.bare)
                have J0 : Inv B [] σw (upd H9 D (.lst (ys ++ [y9]))) s10 := by
                  refine (J.unpinned (pins := [])).weak (by rw [← ew8, L2.wipe_length]) fun j v e => ?_
                  rw [← ew8] at e
                  exact (L2.wipe_some e).1
                have hb10 : AllBare (s10.setGen g .running).gens := allBare_setGen J.bare rfl
                have own' : ∀ p ∈ (a, go) :: (sc.heap.objs.size, oL) :: ip, s10.heap.get? p.1 = some p.2 ∧ upd H9 D (.lst (ys ++ [y9])) p.1 = none := fun p hp => ⟨(J.pin p (List.mem_append_right _ (List.mem_append_right _ hp))).1, (J.pin p (List.mem_append_right _ (List.mem_append_right _ hp))).2.1⟩
                have JX : Inv X pins σ (upd H9 D (.lst (ys ++ [y9]))) s10 := by
                  have J1 := J0
                  rw [← hB] at J1
                  exact I3.call' (ch := fp) J1.os J1.base J1.hok J1.bare fun b hb => ⟨(f3 b hb).1.2.2.2.1, (f3 b hb).1.2.1, (f3 b hb).1.2.2.2.2.1, (f3 b hb).1.2.2.2.2.2⟩
                obtain ⟨m10, ⟨oD, es10, ep10, hoD, hdD, _⟩, _⟩ := id J0.loc
                rw [hBl] at hoD
                have hC10 : upd H9 D (.lst (ys ++ [y9])) (D + 1) = none := by
                  have z := J0.free
                  rw [hBl] at z
                  exact z
                have wk : Woke (gF XX rb) XX.pn ip (upd H9 D (.lst (ys ++ [y9]))) s6 (s10.setGen g .running) := {
                  os := J0.os.trans I6.os.symm
                  bare := hb10
                  hok := JX.hok
                  bs := JX.bs
                  funs := JX.stack
                  frf := JX.stkFree
                  loc := fun o e => by
                    have e' : s6.heap.get? sc.heap.objs.size = some o := e
                    rw [hoL'] at e'
                    cases e'
                    exact (own' (sc.heap.objs.size, oL) (by simp)).1
                  free := (own' (sc.heap.objs.size, oL) (by simp)).2
                  pin := fun p hp => own' p (by
                    rcases List.mem_append.mp hp with z | z
                    · rw [List.mem_singleton.mp z]; simp
                    · simp [z]) }
                have gn := hm' ρ9 _ () (s10.setGen g .running) [(D + 1, oD)] (st9.trans stW) agW ⟨as6.mono (st9.trans stW), stW.pre _ _ hD9⟩ wk (fun p hp => by
                  rw [List.mem_singleton.mp hp]
                  exact ⟨⟨hoD, hC10, Nat.ne_of_gt (Nat.lt_succ_of_lt hLD), frT _ (Nat.le_of_lt (Nat.lt_succ_of_lt hLD)), fun v z => by rw [hdD] at z; cases z⟩, ap6 (D + 1, oC') memC⟩) (show Inv B [] σw (upd H9 D (.lst (ys ++ [y9]))) (s10.setGen g .running) ∧ (∃ xs, upd H9 D (.lst (ys ++ [y9])) D = some (.lst xs)) ∧ ∃ oC, [(D + 1, oD)] = [(D + 1, oC)] ∧ (s10.setGen g .running).heap.get? (D + 1) = some oC from ⟨withG J0 rfl rfl hb10, ⟨_, upd_same⟩, oD, rfl, hoD⟩)
                cases n with
                | zero => exact gn.elim
                | succ m => exact ⟨m, Nat.lt_succ_self m, upd H9 D (.lst (ys ++ [y9])), gs', J0, ⟨_, upd_same⟩, (own' (a, go) (by simp)).1, gr10.r, gn⟩
            | _ => exact hm'.elim
    · obtain ⟨rb, σg, ρ6, h6, H6, cc, Ig, ag6, ac6, ci6, hfin⟩ := hF
      have I6 : Inv B [] σw H6 s6 := backB Ig ci6 (got6 ag6 ac6.2)
      have I7 : Inv B [] σw H6 { s6.setGen g .finished with heap := h' } := (withG I6 rfl rfl (allBare_setGen Ig.bare rfl) : Inv B [] σw H6 (s6.setGen g .finished)).kept (t' := s6.toks) hk
      have I8 : Inv X pins σ H6 { s6.setGen g .finished with heap := h' } := by
        rw [← hB] at I7
        exact I3.call' (ch := fp) I7.os I7.base I7.hok I7.bare fun b hb => ⟨(f3 b hb).1.2.2.2.1, (f3 b hb).1.2.1, (f3 b hb).1.2.2.2.2.1, (f3 b hb).1.2.2.2.2.2⟩
      have nC : H6 (D + 1) = none := by
        have z : H6 B.env.locals = none := I7.free
        rw [hBl] at z
        exact z
      obtain ⟨mm, hn, _⟩ := I7.loc
      rw [hBl] at hn
      refine ⟨mm, hn, fun h'' sb => ?_⟩
      obtain ⟨f0, f1', f2, f3', f4, f5⟩ := I3.fpOk (H' := H6) (b := D + 1) (Nat.le_of_eq z3) nC
      exact ⟨.ref D, H6, I8.turned (t' := s6.toks) (fun b o hb e => (sb.2 b hb).trans e) f0 f1' f3' f4 f5, rfl, (show ∀ ρ' H', Stp G ρ6 H6 ρ' H' → Ag G ρ' h6 H' → Q (.ref D) H' from hfin) ρ6 H6 .refl ag6⟩
    · obtain ⟨rb, b, ci6, md6, cxp⟩ := hE
      cases b with
      | false =>
        have cx := cxp.cx
        obtain ⟨_, _, _, _, _, _, _, _, _, _, _, _, w⟩ := cx
        have md' : rb.E = noE := md6
        rw [md'] at w
        exact w.elim
      | true =>
        obtain ⟨hE0, hH0, hs0⟩ := md6
        obtain ⟨_, _, oC', hpn, hoC6⟩ : Inv B [] σw rb.H rb.s ∧ (∃ xs, rb.H D = some (.lst xs)) ∧ ∃ oC, rb.pn = [(D + 1, oC)] ∧ rb.s.heap.get? (D + 1) = some oC := ci6
        have ooC : oC' = oC := by
          rw [hs0] at hoC6
          have z : s4.heap.get? (D + 1) = some oC' := hoC6
          rw [hoC] at z
          exact (Option.some.inj z).symm
        have cx0 : CXP X.prog X.w X.stack H1 sc (noStW X W σ) ([(a, go)] ++ rb.pn) e s6 := by
          refine cxp_back (D := D) cxp (fun c d H w => by rw [hE0] at w; exact w) (by rw [hs0]; exact (os4.trans hos)) (fun b o eb => ?_) (fun b o eb n => ?_) (fun b o eb => ?_) fun b o => ?_
          · show (cut rb.s.heap sc.heap.objs.size).get? b = some o
            rw [hs0, cut_get (Heap.lt_size eb)]
            exact k4 b o (hkp b o eb)
          · rw [hH0, ← hH3, upd_ne (Nat.ne_of_lt (Nat.lt_trans (Heap.lt_size eb) hLD))]
            exact n
          · exact fun z => by rw [z, hDn] at eb; cases eb
          · rw [hH0, ← hH3, upd_ne o]
        have cx1 := cx0.cx
        have kin : X.K.In s6.heap := by
          obtain ⟨a', B, H', cls, d, _, fl, _, ub, _⟩ := id cx1
          refine I1.ok.mod.kin.keeps fun b o eb => fl.1 b o (ub.keep b o (I1.bs b o eb).1 (I1.bs b o eb).2 fun hm => ?_)
          rcases List.mem_cons.mp (I1.stkSub b hm) with z | z
          · have h1 := Heap.lt_size eb
            have h2 := Nat.le_trans I1.ok.bsz I1.ok.above
            rw [z] at h1
            exact absurd (Nat.lt_of_lt_of_le h1 h2) (Nat.lt_irrefl _)
          · exact I1.ok.nofr eb z
        refine ⟨isgen (cx0.pins (a, go) (List.mem_append_left _ (List.mem_singleton.mpr rfl))), notStop_of (fun _ _ _ z => z.2) kin cx1, ?_⟩
        have cx2 : CXP X.prog X.w X.stack H1 sc (WE W σ) ([(a, go)] ++ rb.pn) e (s6.setGen g .finished) := by
          obtain ⟨a', B, H', cls, d, z1, fl, z2, ub, z3, z4, z5, z6, z7⟩ := cx0
          exact ⟨a', B, H', cls, d, z1, fl, z2, ub, z3, z4, allBare_setGen z5 rfl, z6.1, z7⟩
        have gC : s6.heap.get? (D + 1) = some oC := by
          have := cx0.pins (D + 1, oC') (List.mem_append_right _ (by rw [hpn]; exact List.mem_singleton.mpr rfl))
          rw [ooC] at this
          exact this
        exact comp_exc (C := D + 1) (ce := ce) tk I1 cx2 hst hf hcef (Nat.le_of_lt (Nat.lt_succ_of_lt hLD)) (m := mC) ⟨oC, esC, epC, gC, hdC, rC⟩ ⟨oC', List.mem_append_right _ (by rw [hpn]; exact List.mem_singleton.mpr rfl)⟩
  refine codeAny_compStart_list loop (wpAny_pyIter_gen (isgen (k4 a go hga)) loop)
end
theorem boot_ValueError : bootBuiltins "ValueError" = some (.type "ValueError") := by kernel_rfl
end ML
end
section
namespace ML
open PySem L2
instance {cs : List Nat} {np m : Nat} {gm : GMA} {ma : MA} {t : Tgt} {vs : List Nat} {el : ME} [y : LY gm] [a : LA ma] [x : LE el] : LE (eLcX cs np m gm ma t vs el) := ⟨fun r s h σ σ' g as => (a.run r s h σ σ' g as).bind fun r1 s1 h1 v v' e1 g1 t1 => by
  obtain ⟨g2, e2⟩ := g1.new (o := .lst []) (o' := .lst []) (.lst .nil)
  have hcb : LCb (qLc σ σ' s1.length h1.length) (cbLc t vs el s1.length σ) (cbLc t vs el h1.length σ') := fun r s h w w' c c' g rx rc => by
    obtain ⟨as3, d3⟩ : AS2 r σ σ' ∧ r[s1.length]? = some h1.length := rc
    unfold cbLc
    cases z3 : t.put w (wipeM σ vs) with
    | none => trivial
    | some τ =>
      obtain ⟨τ', w1, w2⟩ := put2 t rx (wipe2 as3 vs) z3
      rw [w1]
      dsimp only
      have ek := x.run _ _ _ _ _ g w2
      cases z5 : el τ s with
      | err => trivial
      | ex _ _ _ => trivial
      | ok u s3 =>
        rw [z5] at ek
        obtain ⟨r3, h3, u', m1, m2, m3, m4⟩ := ek
        rw [m1]
        dsimp only
        obtain ⟨o, o', v1, v2, v3⟩ := m3.no (m2.pre d3)
        rw [v1, v2]
        cases v3 with
        | lst l =>
          dsimp only
          rw [l.length]
          cases z6 : small _ with
          | false => trivial
          | true =>
            dsimp only
            obtain ⟨g4, e4⟩ := m3.wr v1 (m2.pre d3) (.lst (l.append (.cons m4 .nil)))
            exact ⟨_, _, (), rfl, m2.trans e4, g4, (as3.mono m2).mono e4, e4.pre (m2.pre d3)⟩
        | _ => trivial
  have tt := yRun2 gm (np := np) (m := m) hcb g2 (t1.mono e2) (show (qLc σ σ' s1.length h1.length).R _ () () from ⟨(as.mono e1).mono e2, g1.idx⟩)
  cases w : yRun np m gm (cbLc t vs el s1.length σ) v () (s1 ++ [.lst []]) with
  | nx b σ2 c2 n2 s2 =>
    rw [w] at tt
    obtain ⟨r2, h2, σ2', c2', k1, k2, k3, k4, k5⟩ := tt
    rw [k1]
    exact ⟨_, _, .ref h1.length, rfl, e2.trans k2, k3, .ref (k2.pre g1.idx)⟩
  | out q => trivial
  | ex k i c2 s2 =>
    rw [w] at tt
    obtain ⟨r2, h2, c2', m2, k1, k2, k3, k4, k5⟩ := tt
    rw [k1]
    unfold finX
    dsimp only
    cases cs.contains k with
    | true => exact ⟨r2, h2, m2, rfl, e2.trans k2, k3, k5⟩
    | false => trivial
  | err => trivial⟩
end ML
end
section
set_option maxHeartbeats 0
namespace Lw
open PySem PySem.Spec PyProof.Rows L2 He ML
abbrev P : Program := PySem.Challenge.pw_epochrooms_k02_wraps_refused
def top (i : Nat) : Stmt := PySem.Challenge.pw_epochrooms_k02_wraps_refused.main.body.getD i (.Pass ⟨0, 0, 0, 0⟩)
def clsBody (s : Stmt) : List Stmt := match s with
  | .ClassDef _ _ _ b _ _ _ _ _ _ _ => b
  | _ => []
def clsAt (i j : Nat) : Stmt := (clsBody (top i)).getD j (.Pass ⟨0, 0, 0, 0⟩)
def nm (c : Nat) : Option Str := match c with
  | 32 => some "Wrap"
  | 11 => some "NoNumber"
  | 12 => some "NoSize"
  | _ => none
def s_3 : S := [51]
theorem t_3 : ("3" : Str) = toStr s_3 := by decide +kernel
def s_value : S := [118, 97, 108, 117, 101]
theorem t_value : ("value" : Str) = toStr s_value := by decide +kernel
def s_size : S := [115, 105, 122, 101]
theorem t_size : ("size" : Str) = toStr s_size := by decide +kernel
def s_held : S := [104, 101, 108, 100]
theorem t_held : ("held" : Str) = toStr s_held := by decide +kernel
def s_wide : S := [119, 105, 100, 101]
theorem t_wide : ("wide" : Str) = toStr s_wide := by decide +kernel
def s_number : S := [110, 117, 109, 98, 101, 114]
theorem t_number : ("number" : Str) = toStr s_number := by decide +kernel
def s_now : S := [110, 111, 119]
theorem t_now : ("now" : Str) = toStr s_now := by decide +kernel
def s_modulus : S := [109, 111, 100, 117, 108, 117, 115]
theorem t_modulus : ("modulus" : Str) = toStr s_modulus := by decide +kernel
def s_7 : S := [55]
theorem t_7 : ("7" : Str) = toStr s_7 := by decide +kernel
def i_int : IsS := ⟨(some false), (some true), (some true), (some false), (some false), (some false), (some false), [(32, false)]⟩
def i_bool : IsS := ⟨(some false), (some true), (some false), (some false), (some false), (some false), (some false), [(32, false)]⟩
def i_Wrap : IsS := ⟨(some false), (some false), (some false), (some false), (some false), (some false), (some false), [(32, true)]⟩
def m__law_odd : MS := (sRet (eLst (aCons (eC .non) (aCons (eC (.bl true)) (aCons (eC (.str s_3)) (aCons (eLst (aCons (eC (.int 4)) aNil)) (aCons (eTup (aCons (eC (.int 5)) aNil)) aNil)))))))
def f__law_odd : MF := runB 0 0 m__law_odd
def m_is_whole : MS := (sRet (eAnd (eIsi i_int.t (eV 0)) (eNot (eIsi i_bool.t (eV 0)))))
def f_is_whole : MF := runB 1 0 m_is_whole
def m_look_at_whole : MS := (sIf (tNotM (tOf (eCall f_is_whole (aCons (eV 0) aNil)))) (sRaise 11 s_value (eV 0)) sNx)
def f_look_at_whole : MF := runB 1 0 m_look_at_whole
def m_is_number : MS := (sRet (eAnd (eCall f_is_whole (aCons (eV 0) aNil)) (eChain fLe fLe (eV 1) (eV 0) (eV 2))))
def f_is_number : MF := runB 3 0 m_is_number
def m_look_at_size : MS := (sIf (tNotM (tOf (eCall f_is_number (aCons (eV 0) (aCons (eC (.int 2)) (aCons (eC (.int 64)) aNil)))))) (sRaise 12 s_size (eV 0)) sNx)
def f_look_at_size : MF := runB 1 0 m_look_at_size
def m_WrapD_initD : MS := (sSeq (sDrop (eCall f_look_at_whole (aCons (eV 1) aNil))) (sSeq (sDrop (eCall f_look_at_size (aCons (eV 2) aNil))) (sSeq (sFldM [32] s_held (eV 0) (eBin fMod (eV 1) (eV 2))) (sSeq (sFldM [32] s_wide (eV 0) (eV 2)) sNx))))
def f_WrapD_initD : MF := runB 3 0 m_WrapD_initD
def m__law_made : MS := (sTry (sRet (eBin fIsN (eCall (mkM 32 f_WrapD_initD) (aCons (eV 0) (aCons (eV 1) aNil))) (eC .non))) ((lkT [(11, true), (12, false)], 2, fun c n => (sRet (eLst (aCons (eC (.str s_number)) (aCons (eCB cRepD (aCons (eXf [11] c n s_value) aNil)) (aCons (eXi (lkT [(11, true), (12, true)]) c n) aNil)))))) :: ((lkT [(11, false), (12, true)], 2, fun c n => (sRet (eLst (aCons (eC (.str s_size)) (aCons (eCB cRepD (aCons (eXf [12] c n s_size) aNil)) (aCons (eXi (lkT [(11, true), (12, true)]) c n) aNil)))))) :: [])))
def f__law_made : MF := runB 2 1 m__law_made
def m_all_wraps {C : Type} : GMS C := (ySeq (yPl (sDrop (eCall f_look_at_size (aCons (eV 0) aNil)))) (ySeq (yFor (iRng (aCons (eV 0) aNil)) (gNm 1) (ySeq (yYld (eCall (mkM 32 f_WrapD_initD) (aCons (eV 1) (aCons (eV 0) aNil)))) yNx)) yNx))
def m_Wrap_now : MS := (sRet (eFld [32] s_held (eV 0)))
def f_Wrap_now : MF := runB 1 0 m_Wrap_now
def m__law_first : MS := (sTry (sRet (eLcX [12] 1 1 m_all_wraps (aCons (eV 0) aNil) (.one 1) [1] (eProp (lkT [(32, f_Wrap_now)]) (eV 1)))) ((lkT [(11, false), (12, true)], 2, fun c n => (sRet (eLst (aCons (eC (.str s_size)) (aCons (eCB cRepD (aCons (eXf [12] c n s_size) aNil)) aNil))))) :: []))
def f__law_first : MF := runB 1 2 m__law_first
def m_WrapD_addD : MS := (sSeq (sDrop (eCall f_look_at_whole (aCons (eV 1) aNil))) (sSeq (sRet (eCall (mkM 32 f_WrapD_initD) (aCons (eBin fAdd (eFld [32] s_held (eV 0)) (eV 1)) (aCons (eFld [32] s_wide (eV 0)) aNil)))) sNx))
def f_WrapD_addD : MF := runB 2 0 m_WrapD_addD
def m_WrapD_raddD : MS := (sSeq (sDrop (eCall f_look_at_whole (aCons (eV 1) aNil))) (sSeq (sRet (eCall (mkM 32 f_WrapD_initD) (aCons (eBin fAdd (eFld [32] s_held (eV 0)) (eV 1)) (aCons (eFld [32] s_wide (eV 0)) aNil)))) sNx))
def f_WrapD_raddD : MF := runB 2 0 m_WrapD_raddD
def m_Wrap_modulus : MS := (sRet (eFld [32] s_wide (eV 0)))
def f_Wrap_modulus : MF := runB 1 0 m_Wrap_modulus
def m_WrapD_subD : MS := (sSeq (sIf (tOf (eIsi i_Wrap.t (eV 1))) (sSeq (sIf (tOf (eBin fNe (eProp (lkT [(32, f_Wrap_modulus)]) (eV 1)) (eFld [32] s_wide (eV 0)))) (sRaise 12 s_size (eProp (lkT [(32, f_Wrap_modulus)]) (eV 1))) sNx) (sSeq (sRet (eBin fMod (eBin fSub (eFld [32] s_held (eV 0)) (eProp (lkT [(32, f_Wrap_now)]) (eV 1))) (eFld [32] s_wide (eV 0)))) sNx)) sNx) (sSeq (sDrop (eCall f_look_at_whole (aCons (eV 1) aNil))) (sSeq (sRet (eCall (mkM 32 f_WrapD_initD) (aCons (eBin fSub (eFld [32] s_held (eV 0)) (eV 1)) (aCons (eFld [32] s_wide (eV 0)) aNil)))) sNx)))
def f_WrapD_subD : MF := runB 2 0 m_WrapD_subD
def m_WrapD_iaddD : MS := (sSeq (sDrop (eCall f_look_at_whole (aCons (eV 1) aNil))) (sSeq (sFldM [32] s_held (eV 0) (eBin fMod (eBin fAdd (eFld [32] s_held (eV 0)) (eV 1)) (eFld [32] s_wide (eV 0)))) (sSeq (sRet (eV 0)) sNx)))
def f_WrapD_iaddD : MF := runB 2 0 m_WrapD_iaddD
def m__law_moved : MS := (sTry (sSeq (sIf (tOf (eBin fEq (eV 2) (eC (.int 0)))) (sRet (eLst (aCons (eBinU (lkT [(32, f_WrapD_addD)]) (lkT [(32, f_WrapD_raddD)]) fAdd (eV 0) (eV 1)) aNil))) sNx) (sSeq (sIf (tOf (eBin fEq (eV 2) (eC (.int 1)))) (sRet (eLst (aCons (eBinU (lkT [(32, f_WrapD_subD)]) (lkT []) fSub (eV 0) (eV 1)) aNil))) sNx) (sSeq (sAugE 0 (lkT [(32, f_WrapD_iaddD)]) (eV 1)) (sSeq (sRet (eLst (aCons (eV 0) aNil))) sNx)))) ((lkT [(11, true), (12, false)], 3, fun c n => (sRet (eLst (aCons (eC (.str s_number)) (aCons (eCB cRepD (aCons (eXf [11] c n s_value) aNil)) (aCons (eXi (lkT [(11, true), (12, true)]) c n) aNil)))))) :: ((lkT [(11, false), (12, true)], 3, fun c n => (sRet (eLst (aCons (eC (.str s_size)) (aCons (eCB cRepD (aCons (eXf [12] c n s_size) aNil)) aNil))))) :: [])))
def f__law_moved : MF := runB 3 1 m__law_moved
def m_WrapD_eqD : MS := (sRet (eAnd (eIsi i_Wrap.t (eV 1)) (eAnd (eBin fEqX (eFld [32] s_wide (eV 0)) (eFld [32] s_wide (eV 1))) (eBin fEqX (eFld [32] s_held (eV 0)) (eFld [32] s_held (eV 1))))))
def f_WrapD_eqD : MF := runB 2 0 m_WrapD_eqD
def m_law : MS := (sSeq (sFor (iSeq (eCall f__law_odd aNil)) (gNm 1) (sFor (iSeq (eLst (aCons (eC (.int 5)) (aCons (eC .non) (aCons (eC (.int 1)) aNil))))) (gNm 2) (sIf (tOf (eBin fNe (eCall f__law_made (aCons (eV 1) (aCons (eV 2) aNil))) (eLst (aCons (eC (.str s_number)) (aCons (eCB cRepD (aCons (eV 1) aNil)) (aCons (eC (.bl true)) aNil)))))) (sRet (eC (.bl false))) sNx))) (sSeq (sFor (iSeq (eBin fAdd (eCall f__law_odd aNil) (eLst (aCons (eC (.int 0)) (aCons (eC (.int 1)) (aCons (eC (.int 65)) (aCons (eNeg (eC (.int 2))) aNil))))))) (gNm 1) (sIf (tOrM (tOf (eBin fNe (eCall f__law_made (aCons (eC (.int 3)) (aCons (eV 1) aNil))) (eLst (aCons (eC (.str s_size)) (aCons (eCB cRepD (aCons (eV 1) aNil)) (aCons (eC (.bl true)) aNil)))))) (tOf (eBin fNe (eCall f__law_first (aCons (eV 1) aNil)) (eLst (aCons (eC (.str s_size)) (aCons (eCB cRepD (aCons (eV 1) aNil)) aNil)))))) (sRet (eC (.bl false))) sNx)) (sSeq (sPar 3 4 (aCons (eCall (mkM 32 f_WrapD_initD) (aCons (eC (.int 3)) (aCons (eC (.int 5)) aNil))) (aCons (eCall (mkM 32 f_WrapD_initD) (aCons (eC (.int 3)) (aCons (eC (.int 5)) aNil))) aNil))) (sSeq (sFor (iSeq (eCall f__law_odd aNil)) (gNm 1) (sFor (iRng (aCons (eC (.int 3)) aNil)) (gNm 5) (sIf (tOrM (tOf (eBin fNe (eCall f__law_moved (aCons (eV 3) (aCons (eV 1) (aCons (eV 5) aNil)))) (eLst (aCons (eC (.str s_number)) (aCons (eCB cRepD (aCons (eV 1) aNil)) (aCons (eC (.bl true)) aNil)))))) (tOf (eNeU [32] (lkT [(32, f_WrapD_eqD)]) fNe (eV 3) (eV 4)))) (sRet (eC (.bl false))) sNx))) (sSeq (sRet (eAnd (eBin fEq (eCall f__law_moved (aCons (eV 3) (aCons (eCall (mkM 32 f_WrapD_initD) (aCons (eC (.int 2)) (aCons (eC (.int 7)) aNil))) (aCons (eC (.int 1)) aNil)))) (eLst (aCons (eC (.str s_size)) (aCons (eC (.str s_7)) aNil)))) (eAnd (eBin fEq (eCall f__law_first (aCons (eC (.int 2)) aNil)) (eLst (aCons (eC (.int 0)) (aCons (eC (.int 1)) aNil)))) (eCmpU [32] (lkT [(32, f_WrapD_eqD)]) fEqX (eV 3) (eV 4))))) sNx)))))
def f_law : MF := runB 1 5 m_law
abbrev st__law_odd : Stmt := top 16
abbrev a__law_odd : Defn := gA "_law_odd"
abbrev st_is_whole : Stmt := top 7
abbrev a_is_whole : Defn := gA "is_whole"
abbrev st_NoNumberD_initD : Stmt := clsAt 3 0
abbrev a_NoNumberD_initD : Defn := mA "NoNumber" "__init__"
abbrev st_look_at_whole : Stmt := top 12
abbrev a_look_at_whole : Defn := gA "look_at_whole"
abbrev st_is_number : Stmt := top 6
abbrev a_is_number : Defn := gA "is_number"
abbrev st_NoSizeD_initD : Stmt := clsAt 4 0
abbrev a_NoSizeD_initD : Defn := mA "NoSize" "__init__"
abbrev st_look_at_size : Stmt := top 11
abbrev a_look_at_size : Defn := gA "look_at_size"
abbrev st_WrapD_initD : Stmt := clsAt 13 0
abbrev a_WrapD_initD : Defn := mA "Wrap" "__init__"
abbrev st__law_made : Stmt := top 17
abbrev a__law_made : Defn := gA "_law_made"
abbrev st_all_wraps : Stmt := top 14
abbrev a_all_wraps : Defn := gA "all_wraps"
abbrev st_Wrap_now : Stmt := clsAt 13 1
abbrev a_Wrap_now : Defn := getAd "Wrap" "now"
abbrev st__law_first : Stmt := top 19
abbrev a__law_first : Defn := gA "_law_first"
abbrev st_WrapD_addD : Stmt := clsAt 13 5
abbrev a_WrapD_addD : Defn := mA "Wrap" "__add__"
abbrev st_WrapD_raddD : Stmt := clsAt 13 6
abbrev a_WrapD_raddD : Defn := mA "Wrap" "__radd__"
abbrev st_Wrap_modulus : Stmt := clsAt 13 2
abbrev a_Wrap_modulus : Defn := getAd "Wrap" "modulus"
abbrev st_WrapD_subD : Stmt := clsAt 13 8
abbrev a_WrapD_subD : Defn := mA "Wrap" "__sub__"
abbrev st_WrapD_iaddD : Stmt := clsAt 13 7
abbrev a_WrapD_iaddD : Defn := mA "Wrap" "__iadd__"
abbrev st__law_moved : Stmt := top 18
abbrev a__law_moved : Defn := gA "_law_moved"
abbrev st_WrapD_eqD : Stmt := clsAt 13 4
abbrev a_WrapD_eqD : Defn := mA "Wrap" "__eq__"
abbrev st_law : Stmt := top 20
abbrev a_law : Defn := gA "law"
def gd__law_odd : GDef := ⟨a__law_odd, "_law_odd", "_law_odd", defArgs st__law_odd, defBody st__law_odd, defScope st__law_odd, [], []⟩
def gd_is_whole : GDef := ⟨a_is_whole, "is_whole", "is_whole", defArgs st_is_whole, defBody st_is_whole, defScope st_is_whole, [], []⟩
def gd_look_at_whole : GDef := ⟨a_look_at_whole, "look_at_whole", "look_at_whole", defArgs st_look_at_whole, defBody st_look_at_whole, defScope st_look_at_whole, [], []⟩
def gd_is_number : GDef := ⟨a_is_number, "is_number", "is_number", defArgs st_is_number, defBody st_is_number, defScope st_is_number, [], []⟩
def gd_look_at_size : GDef := ⟨a_look_at_size, "look_at_size", "look_at_size", defArgs st_look_at_size, defBody st_look_at_size, defScope st_look_at_size, [], []⟩
def gd_WrapD_initD : GDef := ⟨a_WrapD_initD, "__init__", "Wrap.__init__", defArgs st_WrapD_initD, defBody st_WrapD_initD, defScope st_WrapD_initD, [], []⟩
def gd__law_made : GDef := ⟨a__law_made, "_law_made", "_law_made", defArgs st__law_made, defBody st__law_made, defScope st__law_made, [], []⟩
def gd_all_wraps : GDef := ⟨a_all_wraps, "all_wraps", "all_wraps", defArgs st_all_wraps, defBody st_all_wraps, defScope st_all_wraps, [], []⟩
def gd_Wrap_now : GDef := ⟨a_Wrap_now, "now", "Wrap.now", defArgs st_Wrap_now, defBody st_Wrap_now, defScope st_Wrap_now, [], []⟩
def gd__law_first : GDef := ⟨a__law_first, "_law_first", "_law_first", defArgs st__law_first, defBody st__law_first, defScope st__law_first, [], []⟩
def gd_WrapD_addD : GDef := ⟨a_WrapD_addD, "__add__", "Wrap.__add__", defArgs st_WrapD_addD, defBody st_WrapD_addD, defScope st_WrapD_addD, [], []⟩
def gd_WrapD_raddD : GDef := ⟨a_WrapD_raddD, "__radd__", "Wrap.__radd__", defArgs st_WrapD_raddD, defBody st_WrapD_raddD, defScope st_WrapD_raddD, [], []⟩
def gd_Wrap_modulus : GDef := ⟨a_Wrap_modulus, "modulus", "Wrap.modulus", defArgs st_Wrap_modulus, defBody st_Wrap_modulus, defScope st_Wrap_modulus, [], []⟩
def gd_WrapD_subD : GDef := ⟨a_WrapD_subD, "__sub__", "Wrap.__sub__", defArgs st_WrapD_subD, defBody st_WrapD_subD, defScope st_WrapD_subD, [], []⟩
def gd_WrapD_iaddD : GDef := ⟨a_WrapD_iaddD, "__iadd__", "Wrap.__iadd__", defArgs st_WrapD_iaddD, defBody st_WrapD_iaddD, defScope st_WrapD_iaddD, [], []⟩
def gd__law_moved : GDef := ⟨a__law_moved, "_law_moved", "_law_moved", defArgs st__law_moved, defBody st__law_moved, defScope st__law_moved, [], []⟩
def gd_WrapD_eqD : GDef := ⟨a_WrapD_eqD, "__eq__", "Wrap.__eq__", defArgs st_WrapD_eqD, defBody st_WrapD_eqD, defScope st_WrapD_eqD, [], []⟩
def gd_law : GDef := ⟨a_law, "law", "law", defArgs st_law, defBody st_law, defScope st_law, [], []⟩
def sd_NoNumberD_initD : SDef := ⟨a_NoNumberD_initD, "__init__", "NoNumber.__init__", defArgs st_NoNumberD_initD, defBody st_NoNumberD_initD, defScope st_NoNumberD_initD, [], "NoNumber", P.main.file⟩
def sd_NoSizeD_initD : SDef := ⟨a_NoSizeD_initD, "__init__", "NoSize.__init__", defArgs st_NoSizeD_initD, defBody st_NoSizeD_initD, defScope st_NoSizeD_initD, [], "NoSize", P.main.file⟩
def fnL : List GDef := [gd__law_odd, gd_is_whole, gd_look_at_whole, gd_is_number, gd_look_at_size, gd_WrapD_initD, gd__law_made, gd_all_wraps, gd_Wrap_now, gd__law_first, gd_WrapD_addD, gd_WrapD_raddD, gd_Wrap_modulus, gd_WrapD_subD, gd_WrapD_iaddD, gd__law_moved, gd_WrapD_eqD, gd_law]
def sfL : List SDef := [sd_NoNumberD_initD, sd_NoSizeD_initD]
def tsL : List Tab := []
def exL : List (PySem.W.Frag → Bool) := [fun K => (Fa.glo "_law_odd").ok K,
  fun K => (Fa.free "int").ok K,
  fun K => isB K nm [.ty "int"] i_int,
  fun K => (Fa.free "isinstance").ok K,
  fun K => (Fa.free "bool").ok K,
  fun K => isB K nm [.ty "bool"] i_bool,
  fun K => (Fa.glo "is_whole").ok K,
  fun K => excB K "NoNumber",
  fun K => exiB K "NoNumber" "value" a_NoNumberD_initD,
  fun K => (Fa.glo "NoNumber").ok K,
  fun K => (Fa.glo "look_at_whole").ok K,
  fun K => gvB K "MOST_SIZE" (.int 64),
  fun K => gvB K "LEAST_SIZE" (.int 2),
  fun K => (Fa.glo "is_number").ok K,
  fun K => excB K "NoSize",
  fun K => exiB K "NoSize" "size" a_NoSizeD_initD,
  fun K => (Fa.glo "NoSize").ok K,
  fun K => (Fa.glo "look_at_size").ok K,
  fun K => fldB K "Wrap" (toStr s_held),
  fun K => fldB K "Wrap" (toStr s_wide),
  fun K => mkB K "Wrap" a_WrapD_initD,
  fun K => (Fa.glo "Wrap").ok K,
  fun K => (Fa.glo "RoomsError").ok K,
  fun K => xiB K nm (.own "RoomsError") [(11, true), (12, true)],
  fun K => xcB K nm [12] (toStr s_size),
  fun K => (Fa.free "repr").ok K,
  fun K => exmL K nm "NoSize" [(11, false), (12, true)],
  fun K => xcB K nm [11] (toStr s_value),
  fun K => exmL K nm "NoNumber" [(11, true), (12, false)],
  fun K => (Fa.glo "_law_made").ok K,
  fun K => (Fa.free "range").ok K,
  fun K => (Fa.glo "all_wraps").ok K,
  fun K => propB K "Wrap" (toStr s_now) a_Wrap_now,
  fun K => nsB K "NoSize",
  fun K => (Fa.glo "_law_first").ok K,
  fun K => biB K "Wrap" "__add__" "__radd__" a_WrapD_addD,
  fun K => brB K "Wrap" "__add__" "__radd__" a_WrapD_addD a_WrapD_raddD,
  fun K => isB K nm [.own "Wrap"] i_Wrap,
  fun K => propB K "Wrap" (toStr s_modulus) a_Wrap_modulus,
  fun K => biB K "Wrap" "__sub__" "__rsub__" a_WrapD_subD,
  fun K => ipB K "Wrap" "__iadd__" a_WrapD_iaddD,
  fun K => (Fa.free "ValueError").ok K,
  fun K => xiB K nm (.ty "ValueError") [(11, true), (12, true)],
  fun K => (Fa.glo "_law_moved").ok K,
  fun K => spB K "Wrap" "__eq__" a_WrapD_eqD,
  fun K => nfB1 K nm "Wrap" [32],
  fun K => neB K (ga K "Wrap"),
  fun K => (Fa.free "super").ok K,
  fun K => (Fa.glo "law").ok K,
  noLstB]
def spec : MSpec := ⟨fnL, sfL, tsL, exL⟩
section
variable {w : World} {K : PySem.W.Frag} {mg : Str → Option Value} {base : Heap}
theorem bn__law_odd (E : Ev spec w K mg) : BOk K a__law_odd [] := FunD.bindsN (E.says.def_ 0 (d := gd__law_odd)) fun _ _ _ _ _ _ us hl => match us, hl with | [], _ => rfl
theorem sc__law_odd : FnScope [] [] (defScope st__law_odd) := ⟨rfl, rfl, rfl, by decide +kernel, rfl, by decide +kernel, by decide +kernel⟩
theorem ok__law_odd (E : Ev spec w K mg) : DOk P w K mg base nm 1 a__law_odd [] f__law_odd := by
  obtain ⟨hX, XI, Gn⟩ := E.hh
  have sc := sc__law_odd
  refine ⟨fn_M (N := []) (E.says.def_ 0 (d := gd__law_odd)) sc rfl (fun cdv A outer s H Ex hr tk hp => ?_), arity_runB, (E.says.def_ 0 (d := gd__law_odd)).kp⟩
  exact (ms_one (ms_ret (me_lst (ma_cons me_non (ma_cons me_bl (ma_cons (me_str t_3) (ma_cons (me_lst (ma_cons me_int ma_nil)) (ma_cons (me_tup (ma_cons me_int ma_nil)) ma_nil))))))))
theorem bn_is_whole (E : Ev spec w K mg) : BOk K a_is_whole ["value"] := FunD.bindsN (E.says.def_ 1 (d := gd_is_whole)) fun _ _ _ _ _ _ us hl => match us, hl with | [_], _ => rfl
theorem sc_is_whole : FnScope ["value"] ["value"] (defScope st_is_whole) := ⟨rfl, rfl, rfl, by decide +kernel, rfl, by decide +kernel, by decide +kernel⟩
theorem ok_is_whole (E : Ev spec w K mg) : DOk P w K mg base nm 1 a_is_whole ["value"] f_is_whole := by
  obtain ⟨hX, XI, Gn⟩ := E.hh
  have sc := sc_is_whole
  refine ⟨fn_M (N := ["value"]) (E.says.def_ 1 (d := gd_is_whole)) sc rfl (fun cdv A outer s H Ex hr tk hp => ?_), arity_runB, (E.says.def_ 1 (d := gd_is_whole)).kp⟩
  exact (ms_one (ms_ret (me_and (me_isi rfl (isOk_of (cs := [.ty "int"]) (E.says.ex 2)) rfl (E.free 3) (xv 0) (pe_ty rfl (E.free 1) boot_int) (ClsR.ok _ (.ty "int"))) (me_one (me_not (me_isi rfl (isOk_of (cs := [.ty "bool"]) (E.says.ex 5)) rfl (E.free 3) (xv 0) (pe_ty rfl (E.free 4) boot_bool) (ClsR.ok _ (.ty "bool"))))))))
theorem bn_NoNumberD_initD (E : Ev spec w K mg) : BOk K a_NoNumberD_initD ["self", "value"] := FunS.bindsN (E.says.sup 0 (d := sd_NoNumberD_initD)) fun _ _ _ _ _ _ us hl => match us, hl with | [_, _], _ => rfl
theorem sc_NoNumberD_initD : NdefX.NScope ["self", "value", "__class__"] ["self", "value"] ["__class__"] (defScope st_NoNumberD_initD) := NdefX.nscope_by (by decide +kernel)
theorem ix_NoNumberD_initD (E : Ev spec w K mg) : FnOk P w K mg base (L2.CX P w) 1 (a_NoNumberD_initD K) (fdOf K a_NoNumberD_initD) ["self", "value"] (spI (ga K "NoNumber") (toStr s_value)) := by
  rw [← t_value]
  refine exFn (k := 0) (m := "a value is no number that is allowed") (E.says.sup 0 (d := sd_NoNumberD_initD)) sc_NoNumberD_initD (excB_ok (E.says.ex 7)) (exiB_ok (E.says.ex 8)).no (fun _ _ _ _ _ => (exiB_ok (E.says.ex 8)).supX) (fun A outer s H Ex => ?_)
  exact ex_body (supD_of (E.says.sup 0 (d := sd_NoNumberD_initD)) rfl rfl (by rfl) rfl (by kernel_rfl) (by kernel_rfl) (exiB_ok (E.says.ex 8)).any) rfl (E.free 47) rfl rfl (.inr (.inr rfl)) rfl (by first | exact .inl rfl | exact .inr (.inl rfl)) rfl (by first | exact .inl rfl | exact .inr (.inl rfl)) rfl rfl rfl rfl rfl rfl (by decide) (by decide)
theorem bn_look_at_whole (E : Ev spec w K mg) : BOk K a_look_at_whole ["value"] := FunD.bindsN (E.says.def_ 2 (d := gd_look_at_whole)) fun _ _ _ _ _ _ us hl => match us, hl with | [_], _ => rfl
theorem sc_look_at_whole : FnScope ["value"] ["value"] (defScope st_look_at_whole) := ⟨rfl, rfl, rfl, by decide +kernel, rfl, by decide +kernel, by decide +kernel⟩
theorem ok_look_at_whole (E : Ev spec w K mg) : DOk P w K mg base nm 4 a_look_at_whole ["value"] f_look_at_whole := by
  obtain ⟨hX, XI, Gn⟩ := E.hh
  have sc := sc_look_at_whole
  refine ⟨fn_M (N := ["value"]) (E.says.def_ 2 (d := gd_look_at_whole)) sc rfl (fun cdv A outer s H Ex hr tk hp => ?_), arity_runB, (E.says.def_ 2 (d := gd_look_at_whole)).kp⟩
  exact (ms_one (ms_if (mt_not (mt_val (xcall (ok_is_whole E) (bn_is_whole E) hr tk (E.glo 6) (ma_cons (xv 0) ma_nil)))) (ms_one (ms_raise (c := 11) (fld := s_value) rfl tk rfl (excB_ok (E.says.ex 7)) (exiB_ok (E.says.ex 8)).ini (exiB_ok (E.says.ex 8)).ty (ix_NoNumberD_initD E) (hr.mono (by decide)) (bn_NoNumberD_initD E) rfl (E.glo 9) (xv 0))) ms_nil))
theorem bn_is_number (E : Ev spec w K mg) : BOk K a_is_number ["value", "low", "high"] := FunD.bindsN (E.says.def_ 3 (d := gd_is_number)) fun _ _ _ _ _ _ us hl => match us, hl with | [_, _, _], _ => rfl
theorem sc_is_number : FnScope ["value", "low", "high"] ["value", "low", "high"] (defScope st_is_number) := ⟨rfl, rfl, rfl, by decide +kernel, rfl, by decide +kernel, by decide +kernel⟩
theorem ok_is_number (E : Ev spec w K mg) : DOk P w K mg base nm 4 a_is_number ["value", "low", "high"] f_is_number := by
  obtain ⟨hX, XI, Gn⟩ := E.hh
  have sc := sc_is_number
  refine ⟨fn_M (N := ["value", "low", "high"]) (E.says.def_ 3 (d := gd_is_number)) sc rfl (fun cdv A outer s H Ex hr tk hp => ?_), arity_runB, (E.says.def_ 3 (d := gd_is_number)).kp⟩
  exact (ms_one (ms_ret (me_and (xcall (ok_is_whole E) (bn_is_whole E) hr tk (E.glo 6) (ma_cons (xv 0) ma_nil)) (me_one (me_chain mo_le mo_le (xv 1) (xv 0) (xv 2))))))
theorem bn_NoSizeD_initD (E : Ev spec w K mg) : BOk K a_NoSizeD_initD ["self", "size"] := FunS.bindsN (E.says.sup 1 (d := sd_NoSizeD_initD)) fun _ _ _ _ _ _ us hl => match us, hl with | [_, _], _ => rfl
theorem sc_NoSizeD_initD : NdefX.NScope ["self", "size", "__class__"] ["self", "size"] ["__class__"] (defScope st_NoSizeD_initD) := NdefX.nscope_by (by decide +kernel)
theorem ix_NoSizeD_initD (E : Ev spec w K mg) : FnOk P w K mg base (L2.CX P w) 1 (a_NoSizeD_initD K) (fdOf K a_NoSizeD_initD) ["self", "size"] (spI (ga K "NoSize") (toStr s_size)) := by
  rw [← t_size]
  refine exFn (k := 0) (m := "a size is none that wrapping numbers can have") (E.says.sup 1 (d := sd_NoSizeD_initD)) sc_NoSizeD_initD (excB_ok (E.says.ex 14)) (exiB_ok (E.says.ex 15)).no (fun _ _ _ _ _ => (exiB_ok (E.says.ex 15)).supX) (fun A outer s H Ex => ?_)
  exact ex_body (supD_of (E.says.sup 1 (d := sd_NoSizeD_initD)) rfl rfl (by rfl) rfl (by kernel_rfl) (by kernel_rfl) (exiB_ok (E.says.ex 15)).any) rfl (E.free 47) rfl rfl (.inr (.inr rfl)) rfl (by first | exact .inl rfl | exact .inr (.inl rfl)) rfl (by first | exact .inl rfl | exact .inr (.inl rfl)) rfl rfl rfl rfl rfl rfl (by decide) (by decide)
theorem bn_look_at_size (E : Ev spec w K mg) : BOk K a_look_at_size ["size"] := FunD.bindsN (E.says.def_ 4 (d := gd_look_at_size)) fun _ _ _ _ _ _ us hl => match us, hl with | [_], _ => rfl
theorem sc_look_at_size : FnScope ["size"] ["size"] (defScope st_look_at_size) := ⟨rfl, rfl, rfl, by decide +kernel, rfl, by decide +kernel, by decide +kernel⟩
theorem ok_look_at_size (E : Ev spec w K mg) : DOk P w K mg base nm 7 a_look_at_size ["size"] f_look_at_size := by
  obtain ⟨hX, XI, Gn⟩ := E.hh
  have sc := sc_look_at_size
  refine ⟨fn_M (N := ["size"]) (E.says.def_ 4 (d := gd_look_at_size)) sc rfl (fun cdv A outer s H Ex hr tk hp => ?_), arity_runB, (E.says.def_ 4 (d := gd_look_at_size)).kp⟩
  exact (ms_one (ms_if (mt_not (mt_val (xcall (ok_is_number E) (bn_is_number E) hr tk (E.glo 13) (ma_cons (xv 0) (ma_cons (xval E 12 rfl) (ma_cons (xval E 11 rfl) ma_nil)))))) (ms_one (ms_raise (c := 12) (fld := s_size) rfl tk rfl (excB_ok (E.says.ex 14)) (exiB_ok (E.says.ex 15)).ini (exiB_ok (E.says.ex 15)).ty (ix_NoSizeD_initD E) (hr.mono (by decide)) (bn_NoSizeD_initD E) rfl (E.glo 16) (xv 0))) ms_nil))
theorem bn_WrapD_initD (E : Ev spec w K mg) : BOk K a_WrapD_initD ["self", "value", "size"] := FunD.bindsN (E.says.def_ 5 (d := gd_WrapD_initD)) fun _ _ _ _ _ _ us hl => match us, hl with | [_, _, _], _ => rfl
theorem sc_WrapD_initD : FnScope ["self", "value", "size"] ["self", "value", "size"] (defScope st_WrapD_initD) := ⟨rfl, rfl, rfl, by decide +kernel, rfl, by decide +kernel, by decide +kernel⟩
theorem ok_WrapD_initD (E : Ev spec w K mg) : DOk P w K mg base nm 10 a_WrapD_initD ["self", "value", "size"] f_WrapD_initD := by
  obtain ⟨hX, XI, Gn⟩ := E.hh
  have sc := sc_WrapD_initD
  refine ⟨fn_M (N := ["self", "value", "size"]) (E.says.def_ 5 (d := gd_WrapD_initD)) sc rfl (fun cdv A outer s H Ex hr tk hp => ?_), arity_runB, (E.says.def_ 5 (d := gd_WrapD_initD)).kp⟩
  exact (ms_cons (ms_expr (xcall (ok_look_at_whole E) (bn_look_at_whole E) hr tk (E.glo 10) (ma_cons (xv 1) ma_nil))) (ms_cons (ms_expr (xcall (ok_look_at_size E) (bn_look_at_size E) hr tk (E.glo 17) (ma_cons (xv 2) ma_nil))) (ms_cons (ms_fld t_held (fldOk_cons rfl (E.says.ex 18) fldOk_nil) (xv 0) (me_bin mo_mod (xv 1) (xv 2)) rfl) (ms_cons (ms_fld t_wide (fldOk_cons rfl (E.says.ex 19) fldOk_nil) (xv 0) (xv 2) rfl) ms_nil))))
theorem bn__law_made (E : Ev spec w K mg) : BOk K a__law_made ["_law_value", "_law_size"] := FunD.bindsN (E.says.def_ 6 (d := gd__law_made)) fun _ _ _ _ _ _ us hl => match us, hl with | [_, _], _ => rfl
theorem sc__law_made : FnScope ["_law_value", "_law_size", "e"] ["_law_value", "_law_size"] (defScope st__law_made) := ⟨rfl, rfl, rfl, by decide +kernel, rfl, by decide +kernel, by decide +kernel⟩
theorem ok__law_made (E : Ev spec w K mg) : DOkG P w K mg base nm 13 a__law_made ["_law_value", "_law_size"] f__law_made := by
  obtain ⟨hX, XI, Gn⟩ := E.hh
  have sc := sc__law_made
  refine ⟨fnG_M (N := ["_law_value", "_law_size", "e"]) (E.says.def_ 6 (d := gd__law_made)) sc rfl (fun cdv A outer s H Ex hr tk hp hgd => ?_), arity_runB, (E.says.def_ 6 (d := gd__law_made)).kp⟩
  exact (ms_one (ms_try tk sc.nd (fun W' pn xe tk hp => (ms_one (ms_ret (me_cmp mo_isN (xmkc (xmk (c := 32) E (ok_WrapD_initD E) (bn_WrapD_initD E) (by exact hr) tk 20 rfl) (E.glo 21) (ma_cons (xv 0) (ma_cons (xv 1) ma_nil))) me_non rfl)))) (.cons (x := "NoNumber") (i := 2) ⟨rfl, rfl, .inl (E.glo 9)⟩ rfl rfl (exmL_ok (E.says.ex 28)) (fun a oe C dd pn c n hct hmt hz hf => (msx_one (msx_ret (mex_lst (mex_cons (mex_of (me_str t_number)) (mex_cons (mex_cb (mc_repD rfl hgd (have z := hu64 hr; z)) rfl (E.free 25) boot_repr (mex_cons (mex_fld (i := 2) t_value (xcB_ok (E.says.ex 27)) hct hz hf rfl (by first | exact .inl rfl | exact .inr (.inl rfl)) rfl) mex_nil)) (mex_cons (mex_isi (i := 2) (xiB_ok (r := .own "RoomsError") (E.says.ex 23)) hct hz hf rfl (by first | exact .inl rfl | exact .inr (.inl rfl)) rfl (E.free 3) (pe_cl rfl (E.glo 22)) (ClsR.ok _ (.own "RoomsError"))) mex_nil))))))) (.cons (x := "NoSize") (i := 2) ⟨rfl, rfl, .inl (E.glo 16)⟩ rfl rfl (exmL_ok (E.says.ex 26)) (fun a oe C dd pn c n hct hmt hz hf => (msx_one (msx_ret (mex_lst (mex_cons (mex_of (me_str t_size)) (mex_cons (mex_cb (mc_repD rfl hgd (have z := hu64 hr; z)) rfl (E.free 25) boot_repr (mex_cons (mex_fld (i := 2) t_size (xcB_ok (E.says.ex 24)) hct hz hf rfl (by first | exact .inl rfl | exact .inr (.inl rfl)) rfl) mex_nil)) (mex_cons (mex_isi (i := 2) (xiB_ok (r := .own "RoomsError") (E.says.ex 23)) hct hz hf rfl (by first | exact .inl rfl | exact .inr (.inl rfl)) rfl (E.free 3) (pe_cl rfl (E.glo 22)) (ClsR.ok _ (.own "RoomsError"))) mex_nil))))))) .nil))))
theorem bn_all_wraps (E : Ev spec w K mg) : BOk K a_all_wraps ["size"] := FunD.bindsN (E.says.def_ 7 (d := gd_all_wraps)) fun _ _ _ _ _ _ us hl => match us, hl with | [_], _ => rfl
theorem sc_all_wraps : GScope ["size", "value"] ["size"] (defScope st_all_wraps) := ⟨rfl, rfl, rfl, by decide +kernel, rfl, by decide +kernel, by decide +kernel⟩
theorem ok_all_wraps (E : Ev spec w K mg) : DOkY P w K mg base nm 13 a_all_wraps ["size"] m_all_wraps 1 := by
  obtain ⟨hX, XI, Gn⟩ := E.hh
  have sc := sc_all_wraps
  refine ⟨gfn_MM (N := ["size", "value"]) (E.says.def_ 7 (d := gd_all_wraps)) sc (fun _ => rfl) rfl (fun cdv A outer s H pn κ C Z hr hcl tks hps => ?_), (E.says.def_ 7 (d := gd_all_wraps)).kp⟩
  exact (gsms_cons (gsm_pl (fun r => have tk := tks r; have hp := hps r; (ms_expr (xcall (ok_look_at_size E) (bn_look_at_size E) hr tk (E.glo 17) (ma_cons (xv 0) ma_nil))))) (gsms_cons (gsm_for hps rfl (fun r => have tk := tks r; have hp := hps r; (mi_rng1 rfl (E.free 30) (ma_cons (xv 0) ma_nil) rfl aCons1)) (fun r => have tk := tks r; have hp := hps r; (mg_name sc.nd rfl (by first | exact .inl rfl | exact .inr rfl))) (gsms_cons (gsm_yield (fun r => have tk := tks r; have hp := hps r; (xmkc (xmk (c := 32) E (ok_WrapD_initD E) (bn_WrapD_initD E) (by exact hr) tk 20 rfl) (E.glo 21) (ma_cons (xv 1) (ma_cons (xv 0) ma_nil)))) rfl hcl) gsms_nil)) gsms_nil))
theorem bn_Wrap_now (E : Ev spec w K mg) : BOk K a_Wrap_now ["self"] := FunD.bindsN (E.says.def_ 8 (d := gd_Wrap_now)) fun _ _ _ _ _ _ us hl => match us, hl with | [_], _ => rfl
theorem sc_Wrap_now : FnScope ["self"] ["self"] (defScope st_Wrap_now) := ⟨rfl, rfl, rfl, by decide +kernel, rfl, by decide +kernel, by decide +kernel⟩
theorem ok_Wrap_now (E : Ev spec w K mg) : DOk P w K mg base nm 1 a_Wrap_now ["self"] f_Wrap_now := by
  obtain ⟨hX, XI, Gn⟩ := E.hh
  have sc := sc_Wrap_now
  refine ⟨fn_M (N := ["self"]) (E.says.def_ 8 (d := gd_Wrap_now)) sc rfl (fun cdv A outer s H Ex hr tk hp => ?_), arity_runB, (E.says.def_ 8 (d := gd_Wrap_now)).kp⟩
  exact (ms_one (ms_ret (me_fld t_held (fldOk_cons rfl (E.says.ex 18) fldOk_nil) (xv 0) rfl)))
theorem bn__law_first (E : Ev spec w K mg) : BOk K a__law_first ["_law_size"] := FunD.bindsN (E.says.def_ 9 (d := gd__law_first)) fun _ _ _ _ _ _ us hl => match us, hl with | [_], _ => rfl
theorem sc__law_first : FnScope ["_law_size", "_law_wrap", "e"] ["_law_size"] (defScope st__law_first) := ⟨rfl, rfl, rfl, by decide +kernel, rfl, by decide +kernel, by decide +kernel⟩
theorem ok__law_first (E : Ev spec w K mg) : DOkG P w K mg base nm 17 a__law_first ["_law_size"] f__law_first := by
  obtain ⟨hX, XI, Gn⟩ := E.hh
  have sc := sc__law_first
  refine ⟨fnG_M (N := ["_law_size", "_law_wrap", "e"]) (E.says.def_ 9 (d := gd__law_first)) sc rfl (fun cdv A outer s H Ex hr tk hp hgd => ?_), arity_runB, (E.says.def_ 9 (d := gd__law_first)).kp⟩
  exact (ms_one (ms_try tk sc.nd (fun W' pn xe tk hp => (ms_one (ms_ret (me_lcX (t := .one 1) (own := [(("_law_wrap" : Str), 1)]) tk rfl (noSt_cons rfl (E.says.ex 33) noSt_nil) rfl sc.nd (hr.mono (by decide)) (xgenY (ok_all_wraps E) (bn_all_wraps E) hr (E.glo 31) (ma_cons (xv 0) ma_nil)) (blkOk_by (by kernel_rfl)) (by kernel_rfl) (by decide) (fun _ _ _ _ _ => (pg_name sc.nd rfl (by first | exact .inl rfl | exact .inr rfl))) (fun _ _ _ _ _ => (me_prop t_now (propOk_cons rfl (E.says.ex 32) ((ok_Wrap_now E).fp hr) (bn_Wrap_now E) propOk_nil) (xv 1) rfl)))))) (.cons (x := "NoSize") (i := 2) ⟨rfl, rfl, .inl (E.glo 16)⟩ rfl rfl (exmL_ok (E.says.ex 26)) (fun a oe C dd pn c n hct hmt hz hf => (msx_one (msx_ret (mex_lst (mex_cons (mex_of (me_str t_size)) (mex_cons (mex_cb (mc_repD rfl hgd (have z := hu64 hr; z)) rfl (E.free 25) boot_repr (mex_cons (mex_fld (i := 2) t_size (xcB_ok (E.says.ex 24)) hct hz hf rfl (by first | exact .inl rfl | exact .inr (.inl rfl)) rfl) mex_nil)) mex_nil)))))) .nil)))
theorem bn_WrapD_addD (E : Ev spec w K mg) : BOk K a_WrapD_addD ["self", "many"] := FunD.bindsN (E.says.def_ 10 (d := gd_WrapD_addD)) fun _ _ _ _ _ _ us hl => match us, hl with | [_, _], _ => rfl
theorem sc_WrapD_addD : FnScope ["self", "many"] ["self", "many"] (defScope st_WrapD_addD) := ⟨rfl, rfl, rfl, by decide +kernel, rfl, by decide +kernel, by decide +kernel⟩
theorem ok_WrapD_addD (E : Ev spec w K mg) : DOk P w K mg base nm 13 a_WrapD_addD ["self", "many"] f_WrapD_addD := by
  obtain ⟨hX, XI, Gn⟩ := E.hh
  have sc := sc_WrapD_addD
  refine ⟨fn_M (N := ["self", "many"]) (E.says.def_ 10 (d := gd_WrapD_addD)) sc rfl (fun cdv A outer s H Ex hr tk hp => ?_), arity_runB, (E.says.def_ 10 (d := gd_WrapD_addD)).kp⟩
  exact (ms_cons (ms_expr (xcall (ok_look_at_whole E) (bn_look_at_whole E) hr tk (E.glo 10) (ma_cons (xv 1) ma_nil))) (ms_cons (ms_ret (xmkc (xmk (c := 32) E (ok_WrapD_initD E) (bn_WrapD_initD E) (by exact hr) tk 20 rfl) (E.glo 21) (ma_cons (me_bin (mo_add rfl) (me_fld t_held (fldOk_cons rfl (E.says.ex 18) fldOk_nil) (xv 0) rfl) (xv 1)) (ma_cons (me_fld t_wide (fldOk_cons rfl (E.says.ex 19) fldOk_nil) (xv 0) rfl) ma_nil)))) ms_nil))
theorem bn_WrapD_raddD (E : Ev spec w K mg) : BOk K a_WrapD_raddD ["self", "many"] := FunD.bindsN (E.says.def_ 11 (d := gd_WrapD_raddD)) fun _ _ _ _ _ _ us hl => match us, hl with | [_, _], _ => rfl
theorem sc_WrapD_raddD : FnScope ["self", "many"] ["self", "many"] (defScope st_WrapD_raddD) := ⟨rfl, rfl, rfl, by decide +kernel, rfl, by decide +kernel, by decide +kernel⟩
theorem ok_WrapD_raddD (E : Ev spec w K mg) : DOk P w K mg base nm 13 a_WrapD_raddD ["self", "many"] f_WrapD_raddD := by
  obtain ⟨hX, XI, Gn⟩ := E.hh
  have sc := sc_WrapD_raddD
  refine ⟨fn_M (N := ["self", "many"]) (E.says.def_ 11 (d := gd_WrapD_raddD)) sc rfl (fun cdv A outer s H Ex hr tk hp => ?_), arity_runB, (E.says.def_ 11 (d := gd_WrapD_raddD)).kp⟩
  exact (ms_cons (ms_expr (xcall (ok_look_at_whole E) (bn_look_at_whole E) hr tk (E.glo 10) (ma_cons (xv 1) ma_nil))) (ms_cons (ms_ret (xmkc (xmk (c := 32) E (ok_WrapD_initD E) (bn_WrapD_initD E) (by exact hr) tk 20 rfl) (E.glo 21) (ma_cons (me_bin (mo_add rfl) (me_fld t_held (fldOk_cons rfl (E.says.ex 18) fldOk_nil) (xv 0) rfl) (xv 1)) (ma_cons (me_fld t_wide (fldOk_cons rfl (E.says.ex 19) fldOk_nil) (xv 0) rfl) ma_nil)))) ms_nil))
theorem bn_Wrap_modulus (E : Ev spec w K mg) : BOk K a_Wrap_modulus ["self"] := FunD.bindsN (E.says.def_ 12 (d := gd_Wrap_modulus)) fun _ _ _ _ _ _ us hl => match us, hl with | [_], _ => rfl
theorem sc_Wrap_modulus : FnScope ["self"] ["self"] (defScope st_Wrap_modulus) := ⟨rfl, rfl, rfl, by decide +kernel, rfl, by decide +kernel, by decide +kernel⟩
theorem ok_Wrap_modulus (E : Ev spec w K mg) : DOk P w K mg base nm 1 a_Wrap_modulus ["self"] f_Wrap_modulus := by
  obtain ⟨hX, XI, Gn⟩ := E.hh
  have sc := sc_Wrap_modulus
  refine ⟨fn_M (N := ["self"]) (E.says.def_ 12 (d := gd_Wrap_modulus)) sc rfl (fun cdv A outer s H Ex hr tk hp => ?_), arity_runB, (E.says.def_ 12 (d := gd_Wrap_modulus)).kp⟩
  exact (ms_one (ms_ret (me_fld t_wide (fldOk_cons rfl (E.says.ex 19) fldOk_nil) (xv 0) rfl)))
theorem bn_WrapD_subD (E : Ev spec w K mg) : BOk K a_WrapD_subD ["self", "other"] := FunD.bindsN (E.says.def_ 13 (d := gd_WrapD_subD)) fun _ _ _ _ _ _ us hl => match us, hl with | [_, _], _ => rfl
theorem sc_WrapD_subD : FnScope ["self", "other"] ["self", "other"] (defScope st_WrapD_subD) := ⟨rfl, rfl, rfl, by decide +kernel, rfl, by decide +kernel, by decide +kernel⟩
theorem ok_WrapD_subD (E : Ev spec w K mg) : DOk P w K mg base nm 13 a_WrapD_subD ["self", "other"] f_WrapD_subD := by
  obtain ⟨hX, XI, Gn⟩ := E.hh
  have sc := sc_WrapD_subD
  refine ⟨fn_M (N := ["self", "other"]) (E.says.def_ 13 (d := gd_WrapD_subD)) sc rfl (fun cdv A outer s H Ex hr tk hp => ?_), arity_runB, (E.says.def_ 13 (d := gd_WrapD_subD)).kp⟩
  exact (ms_cons (ms_if (mt_val (me_isi rfl (isOk_of (cs := [.own "Wrap"]) (E.says.ex 37)) rfl (E.free 3) (xv 1) (pe_cl rfl (E.glo 21)) (ClsR.ok _ (.own "Wrap")))) (ms_cons (ms_if (mt_cmpR (mo_ne rfl (hu64 hr)) (me_prop t_modulus (propOk_cons rfl (E.says.ex 38) ((ok_Wrap_modulus E).fp hr) (bn_Wrap_modulus E) propOk_nil) (xv 1) rfl) (me_fld t_wide (fldOk_cons rfl (E.says.ex 19) fldOk_nil) (xv 0) rfl) rfl) (ms_one (ms_raise (c := 12) (fld := s_size) rfl tk rfl (excB_ok (E.says.ex 14)) (exiB_ok (E.says.ex 15)).ini (exiB_ok (E.says.ex 15)).ty (ix_NoSizeD_initD E) (hr.mono (by decide)) (bn_NoSizeD_initD E) rfl (E.glo 16) (me_prop t_modulus (propOk_cons rfl (E.says.ex 38) ((ok_Wrap_modulus E).fp hr) (bn_Wrap_modulus E) propOk_nil) (xv 1) rfl))) ms_nil) (ms_cons (ms_ret (me_bin mo_mod (me_bin mo_sub (me_fld t_held (fldOk_cons rfl (E.says.ex 18) fldOk_nil) (xv 0) rfl) (me_prop t_now (propOk_cons rfl (E.says.ex 32) ((ok_Wrap_now E).fp hr) (bn_Wrap_now E) propOk_nil) (xv 1) rfl)) (me_fld t_wide (fldOk_cons rfl (E.says.ex 19) fldOk_nil) (xv 0) rfl))) ms_nil)) ms_nil) (ms_cons (ms_expr (xcall (ok_look_at_whole E) (bn_look_at_whole E) hr tk (E.glo 10) (ma_cons (xv 1) ma_nil))) (ms_cons (ms_ret (xmkc (xmk (c := 32) E (ok_WrapD_initD E) (bn_WrapD_initD E) (by exact hr) tk 20 rfl) (E.glo 21) (ma_cons (me_bin mo_sub (me_fld t_held (fldOk_cons rfl (E.says.ex 18) fldOk_nil) (xv 0) rfl) (xv 1)) (ma_cons (me_fld t_wide (fldOk_cons rfl (E.says.ex 19) fldOk_nil) (xv 0) rfl) ma_nil)))) ms_nil)))
theorem bn_WrapD_iaddD (E : Ev spec w K mg) : BOk K a_WrapD_iaddD ["self", "many"] := FunD.bindsN (E.says.def_ 14 (d := gd_WrapD_iaddD)) fun _ _ _ _ _ _ us hl => match us, hl with | [_, _], _ => rfl
theorem sc_WrapD_iaddD : FnScope ["self", "many"] ["self", "many"] (defScope st_WrapD_iaddD) := ⟨rfl, rfl, rfl, by decide +kernel, rfl, by decide +kernel, by decide +kernel⟩
theorem ok_WrapD_iaddD (E : Ev spec w K mg) : DOk P w K mg base nm 7 a_WrapD_iaddD ["self", "many"] f_WrapD_iaddD := by
  obtain ⟨hX, XI, Gn⟩ := E.hh
  have sc := sc_WrapD_iaddD
  refine ⟨fn_M (N := ["self", "many"]) (E.says.def_ 14 (d := gd_WrapD_iaddD)) sc rfl (fun cdv A outer s H Ex hr tk hp => ?_), arity_runB, (E.says.def_ 14 (d := gd_WrapD_iaddD)).kp⟩
  exact (ms_cons (ms_expr (xcall (ok_look_at_whole E) (bn_look_at_whole E) hr tk (E.glo 10) (ma_cons (xv 1) ma_nil))) (ms_cons (ms_fld t_held (fldOk_cons rfl (E.says.ex 18) fldOk_nil) (xv 0) (me_bin mo_mod (me_bin (mo_add rfl) (me_fld t_held (fldOk_cons rfl (E.says.ex 18) fldOk_nil) (xv 0) rfl) (xv 1)) (me_fld t_wide (fldOk_cons rfl (E.says.ex 19) fldOk_nil) (xv 0) rfl)) rfl) (ms_cons (ms_ret (xv 0)) ms_nil)))
theorem bn__law_moved (E : Ev spec w K mg) : BOk K a__law_moved ["_law_wrap", "_law_many", "_law_way"] := FunD.bindsN (E.says.def_ 15 (d := gd__law_moved)) fun _ _ _ _ _ _ us hl => match us, hl with | [_, _, _], _ => rfl
theorem sc__law_moved : FnScope ["_law_wrap", "_law_many", "_law_way", "e"] ["_law_wrap", "_law_many", "_law_way"] (defScope st__law_moved) := ⟨rfl, rfl, rfl, by decide +kernel, rfl, by decide +kernel, by decide +kernel⟩
theorem ok__law_moved (E : Ev spec w K mg) : DOkG P w K mg base nm 16 a__law_moved ["_law_wrap", "_law_many", "_law_way"] f__law_moved := by
  obtain ⟨hX, XI, Gn⟩ := E.hh
  have sc := sc__law_moved
  refine ⟨fnG_M (N := ["_law_wrap", "_law_many", "_law_way", "e"]) (E.says.def_ 15 (d := gd__law_moved)) sc rfl (fun cdv A outer s H Ex hr tk hp hgd => ?_), arity_runB, (E.says.def_ 15 (d := gd__law_moved)).kp⟩
  exact (ms_one (ms_try tk sc.nd (fun W' pn xe tk hp => (ms_cons (ms_if (mt_cmpR (mo_eq rfl (hu64 hr)) (xv 2) me_int rfl) (ms_one (ms_ret (me_lst (ma_cons (me_binU (nm := "add") rfl rfl (biOk2 (n := "add") (f := "__add__") (r := "__radd__") (by kernel_rfl) (by kernel_rfl) rfl (E.says.ex 35) (xca0 (ok_WrapD_addD E) (bn_WrapD_addD E) hr tk) GQ.intNo_add (E.says.ex 36) (xca0 (ok_WrapD_raddD E) (bn_WrapD_raddD E) hr tk)) (mo_add rfl) (xv 0) (xv 1)) ma_nil)))) ms_nil) (ms_cons (ms_if (mt_cmpR (mo_eq rfl (hu64 hr)) (xv 2) me_int rfl) (ms_one (ms_ret (me_lst (ma_cons (me_binU (nm := "sub") rfl rfl (biOk1 (n := "sub") (f := "__sub__") (r := "__rsub__") (by kernel_rfl) (by kernel_rfl) rfl (E.says.ex 39) (xca0 (ok_WrapD_subD E) (bn_WrapD_subD E) hr tk)) mo_sub (xv 0) (xv 1)) ma_nil)))) ms_nil) (ms_cons (ms_augE sc.nd rfl (by first | exact .inl rfl | exact .inr rfl) (xv 1) (ipOkW_cons (m := "__iadd__") (by kernel_rfl) rfl (E.says.ex 40) (xca0 (ok_WrapD_iaddD E) (bn_WrapD_iaddD E) hr tk) ipOkW_nil)) (ms_cons (ms_ret (me_lst (ma_cons (xv 0) ma_nil))) ms_nil))))) (.cons (x := "NoNumber") (i := 3) ⟨rfl, rfl, .inl (E.glo 9)⟩ rfl rfl (exmL_ok (E.says.ex 28)) (fun a oe C dd pn c n hct hmt hz hf => (msx_one (msx_ret (mex_lst (mex_cons (mex_of (me_str t_number)) (mex_cons (mex_cb (mc_repD rfl hgd (have z := hu64 hr; z)) rfl (E.free 25) boot_repr (mex_cons (mex_fld (i := 3) t_value (xcB_ok (E.says.ex 27)) hct hz hf rfl (by first | exact .inl rfl | exact .inr (.inl rfl)) rfl) mex_nil)) (mex_cons (mex_isi (i := 3) (xiB_ok (r := .ty "ValueError") (E.says.ex 42)) hct hz hf rfl (by first | exact .inl rfl | exact .inr (.inl rfl)) rfl (E.free 3) (pe_ty rfl (E.free 41) boot_ValueError) (ClsR.ok _ (.ty "ValueError"))) mex_nil))))))) (.cons (x := "NoSize") (i := 3) ⟨rfl, rfl, .inl (E.glo 16)⟩ rfl rfl (exmL_ok (E.says.ex 26)) (fun a oe C dd pn c n hct hmt hz hf => (msx_one (msx_ret (mex_lst (mex_cons (mex_of (me_str t_size)) (mex_cons (mex_cb (mc_repD rfl hgd (have z := hu64 hr; z)) rfl (E.free 25) boot_repr (mex_cons (mex_fld (i := 3) t_size (xcB_ok (E.says.ex 24)) hct hz hf rfl (by first | exact .inl rfl | exact .inr (.inl rfl)) rfl) mex_nil)) mex_nil)))))) .nil))))
theorem bn_WrapD_eqD (E : Ev spec w K mg) : BOk K a_WrapD_eqD ["self", "other"] := FunD.bindsN (E.says.def_ 16 (d := gd_WrapD_eqD)) fun _ _ _ _ _ _ us hl => match us, hl with | [_, _], _ => rfl
theorem sc_WrapD_eqD : FnScope ["self", "other"] ["self", "other"] (defScope st_WrapD_eqD) := ⟨rfl, rfl, rfl, by decide +kernel, rfl, by decide +kernel, by decide +kernel⟩
theorem ok_WrapD_eqD (E : Ev spec w K mg) : DOk P w K mg base nm 1 a_WrapD_eqD ["self", "other"] f_WrapD_eqD := by
  obtain ⟨hX, XI, Gn⟩ := E.hh
  have sc := sc_WrapD_eqD
  refine ⟨fn_M (N := ["self", "other"]) (E.says.def_ 16 (d := gd_WrapD_eqD)) sc rfl (fun cdv A outer s H Ex hr tk hp => ?_), arity_runB, (E.says.def_ 16 (d := gd_WrapD_eqD)).kp⟩
  exact (ms_one (ms_ret (me_and (me_isi rfl (isOk_of (cs := [.own "Wrap"]) (E.says.ex 37)) rfl (E.free 3) (xv 1) (pe_cl rfl (E.glo 21)) (ClsR.ok _ (.own "Wrap"))) (me_and (me_cmp (mo_eqX rfl (hu64 hr)) (me_fld t_wide (fldOk_cons rfl (E.says.ex 19) fldOk_nil) (xv 0) rfl) (me_fld t_wide (fldOk_cons rfl (E.says.ex 19) fldOk_nil) (xv 1) rfl) rfl) (me_one (me_cmp (mo_eqX rfl (hu64 hr)) (me_fld t_held (fldOk_cons rfl (E.says.ex 18) fldOk_nil) (xv 0) rfl) (me_fld t_held (fldOk_cons rfl (E.says.ex 18) fldOk_nil) (xv 1) rfl) rfl))))))
theorem sc_law : FnScope ["_law_script", "_law_odd_here", "_law_size", "_law_wrap", "_law_before", "_law_way"] ["_law_script"] (defScope st_law) := ⟨rfl, rfl, rfl, by decide +kernel, rfl, by decide +kernel, by decide +kernel⟩
theorem ok_law (E : Ev spec w K mg) : DOkG P w K mg base nm 20 a_law ["_law_script"] f_law := by
  obtain ⟨hX, XI, Gn⟩ := E.hh
  have sc := sc_law
  refine ⟨fnG_M (N := ["_law_script", "_law_odd_here", "_law_size", "_law_wrap", "_law_before", "_law_way"]) (E.says.def_ 17 (d := gd_law)) sc rfl (fun cdv A outer s H Ex hr tk hp hgd => ?_), arity_runB, (E.says.def_ 17 (d := gd_law)).kp⟩
  exact (ms_cons (ms_for hp rfl (mi_seq rfl (xcall0 (ok__law_odd E) (bn__law_odd E) hr tk (E.glo 0))) (mg_name sc.nd rfl (by first | exact .inl rfl | exact .inr rfl)) (onlyNx_name _) (ms_one (ms_for hp rfl (mi_seq rfl (me_lst (ma_cons me_int (ma_cons me_non (ma_cons me_int ma_nil))))) (mg_name sc.nd rfl (by first | exact .inl rfl | exact .inr rfl)) (onlyNx_name _) (ms_one (ms_if (mt_cmpR (mo_ne rfl (hu64 hr)) (xcallG (ok__law_made E) (bn__law_made E) hr hgd tk (E.glo 29) (ma_cons (xv 1) (ma_cons (xv 2) ma_nil))) (me_lst (ma_cons (me_str t_number) (ma_cons (me_cb (mc_repD rfl hgd (hu64 hr)) rfl (E.free 25) boot_repr (ma_cons (xv 1) ma_nil)) (ma_cons me_bl ma_nil)))) rfl) (ms_one (ms_ret me_bl)) ms_nil))))) (ms_cons (ms_for hp rfl (mi_seq rfl (me_bin (mo_add rfl) (xcall0 (ok__law_odd E) (bn__law_odd E) hr tk (E.glo 0)) (me_lst (ma_cons me_int (ma_cons me_int (ma_cons me_int (ma_cons (me_neg me_int) ma_nil))))))) (mg_name sc.nd rfl (by first | exact .inl rfl | exact .inr rfl)) (onlyNx_name _) (ms_one (ms_if (PW.pt (mw_or (mt_cmpR (mo_ne rfl (hu64 hr)) (xcallG (ok__law_made E) (bn__law_made E) hr hgd tk (E.glo 29) (ma_cons me_int (ma_cons (xv 1) ma_nil))) (me_lst (ma_cons (me_str t_size) (ma_cons (me_cb (mc_repD rfl hgd (hu64 hr)) rfl (E.free 25) boot_repr (ma_cons (xv 1) ma_nil)) (ma_cons me_bl ma_nil)))) rfl) (mw_or1 (mt_cmpR (mo_ne rfl (hu64 hr)) (xcallG (ok__law_first E) (bn__law_first E) hr hgd tk (E.glo 34) (ma_cons (xv 1) ma_nil)) (me_lst (ma_cons (me_str t_size) (ma_cons (me_cb (mc_repD rfl hgd (hu64 hr)) rfl (E.free 25) boot_repr (ma_cons (xv 1) ma_nil)) ma_nil))) rfl)))) (ms_one (ms_ret me_bl)) ms_nil))) (ms_cons (ms_par (i := 3) (j := 4) rfl sc.nd rfl rfl (by decide) rfl rfl (ma_cons (xmkc (xmk (c := 32) E (ok_WrapD_initD E) (bn_WrapD_initD E) (by exact hr) tk 20 rfl) (E.glo 21) (ma_cons me_int (ma_cons me_int ma_nil))) (ma_cons (xmkc (xmk (c := 32) E (ok_WrapD_initD E) (bn_WrapD_initD E) (by exact hr) tk 20 rfl) (E.glo 21) (ma_cons me_int (ma_cons me_int ma_nil))) ma_nil)) rfl) (ms_cons (ms_for hp rfl (mi_seq rfl (xcall0 (ok__law_odd E) (bn__law_odd E) hr tk (E.glo 0))) (mg_name sc.nd rfl (by first | exact .inl rfl | exact .inr rfl)) (onlyNx_name _) (ms_one (ms_for hp rfl (mi_rng1 rfl (E.free 30) (ma_cons me_int ma_nil) rfl aCons1) (mg_name sc.nd rfl (by first | exact .inl rfl | exact .inr rfl)) (onlyNx_name _) (ms_one (ms_if (PW.pt (mw_or (mt_cmpR (mo_ne rfl (hu64 hr)) (xcallG (ok__law_moved E) (bn__law_moved E) hr hgd tk (E.glo 43) (ma_cons (xv 3) (ma_cons (xv 1) (ma_cons (xv 5) ma_nil)))) (me_lst (ma_cons (me_str t_number) (ma_cons (me_cb (mc_repD rfl hgd (hu64 hr)) rfl (E.free 25) boot_repr (ma_cons (xv 1) ma_nil)) (ma_cons me_bl ma_nil)))) rfl) (mw_or1 (mt_neU rfl (hu1 hr) (spOk_cons rfl (E.says.ex 44) (xca1 (ok_WrapD_eqD E) (bn_WrapD_eqD E) hr tk) spOk_nil) (neOk_cons rfl (E.says.ex 46) neOk_nil) (nfOk_cons rfl (E.says.ex 45) nfOk_nil) (mo_ne rfl (hu64 hr)) (xv 3) (xv 4) rfl)))) (ms_one (ms_ret me_bl)) ms_nil))))) (ms_cons (ms_ret (me_and (me_cmp (mo_eq rfl (hu64 hr)) (xcallG (ok__law_moved E) (bn__law_moved E) hr hgd tk (E.glo 43) (ma_cons (xv 3) (ma_cons (xmkc (xmk (c := 32) E (ok_WrapD_initD E) (bn_WrapD_initD E) (by exact hr) tk 20 rfl) (E.glo 21) (ma_cons me_int (ma_cons me_int ma_nil))) (ma_cons me_int ma_nil)))) (me_lst (ma_cons (me_str t_size) (ma_cons (me_str t_7) ma_nil))) rfl) (me_and (me_cmp (mo_eq rfl (hu64 hr)) (xcallG (ok__law_first E) (bn__law_first E) hr hgd tk (E.glo 34) (ma_cons me_int ma_nil)) (me_lst (ma_cons me_int (ma_cons me_int ma_nil))) rfl) (me_one (me_cmpU (nm := "__eq__") (fun _ _ => rfl) rfl rfl (Nat.lt_of_succ_lt (hu1 hr)) (spOk_cons rfl (E.says.ex 44) (xca0 (ok_WrapD_eqD E) (bn_WrapD_eqD E) hr tk) spOk_nil) (nfOk_cons rfl (E.says.ex 45) nfOk_nil) (mo_eqX rfl (hu64 hr)) (xv 3) (xv 4) rfl))))) ms_nil)))))
end
end Lw
end
section
set_option synthInstance.maxHeartbeats 0
set_option synthInstance.maxSize 1000000
namespace Lw
open PySem L2 ML
instance : LF f__law_odd := lf_runB (by unfold m__law_odd; infer_instance)
instance : LF f_is_whole := lf_runB (by unfold m_is_whole; infer_instance)
instance : LF f_look_at_whole := lf_runB (by unfold m_look_at_whole; infer_instance)
instance : LF f_is_number := lf_runB (by unfold m_is_number; infer_instance)
instance : LF f_look_at_size := lf_runB (by unfold m_look_at_size; infer_instance)
instance : LF f_WrapD_initD := lf_runB (by unfold m_WrapD_initD; infer_instance)
instance : LF f__law_made := lf_runB (by unfold m__law_made; infer_instance)
instance : LY (fun {C} => m_all_wraps (C := C)) := by unfold m_all_wraps; infer_instance
instance : LF f_Wrap_now := lf_runB (by unfold m_Wrap_now; infer_instance)
instance : LF f__law_first := lf_runB (by unfold m__law_first; infer_instance)
instance : LF f_WrapD_addD := lf_runB (by unfold m_WrapD_addD; infer_instance)
instance : LF f_WrapD_raddD := lf_runB (by unfold m_WrapD_raddD; infer_instance)
instance : LF f_Wrap_modulus := lf_runB (by unfold m_Wrap_modulus; infer_instance)
instance : LF f_WrapD_subD := lf_runB (by unfold m_WrapD_subD; infer_instance)
instance : LF f_WrapD_iaddD := lf_runB (by unfold m_WrapD_iaddD; infer_instance)
instance : LF f__law_moved := lf_runB (by unfold m__law_moved; infer_instance)
instance : LF f_WrapD_eqD := lf_runB (by unfold m_WrapD_eqD; infer_instance)
instance : LF f_law := lf_runB (by unfold m_law; infer_instance)
end Lw
end
section
namespace ML
open PySem PySem.Spec PyProof.Rows L2 He
theorem ints_rv {G : Gx} {ρ : List Addr} {H : Hp} : ∀ ns : List Int, RVs G ρ H (ns.map VI.int) (ns.map V.int)
  | [] => .nil
  | n :: ns => .cons (.int n) (ints_rv ns)
theorem scr_ag {G : Gx} {K : PySem.W.Frag} {H : Hp} {a : Addr} {ns : List Int} (nl : noLstB K = true) (hO : Only H) (hS : SqL K H a (ns.map V.int)) : Ag G [a] [.scr (ns.map VI.int)] H := by
  refine ⟨by simp, rfl, fun n o e => ?_⟩
  cases n with
  | succ n => simp at e
  | zero =>
    cases e
    refine ⟨a, rfl, ?_⟩
    rcases hS with (h | ⟨ob, h⟩) | ⟨o, its, n, h, hc, _⟩
    · rcases hO a with z | ⟨o, xs, z⟩
      · rw [z] at h; cases h
      · rw [z] at h; cases h
    · exact ⟨ob, _, h, ints_rv ns⟩
    · exact absurd hc (noLst_ok nl h)
theorem law_sp {G : Gx} {K : PySem.W.Frag} {H : Hp} {a : Addr} {ns : List Int} {g : MF} {h' : Hi} (nl : noLstB K = true) (hO : Only H) (hS : SqL K H a (ns.map V.int)) (e : g [.ref 0] [.scr (ns.map VI.int)] = .ok (.bl true) h') :
    spM G 1 g [.ref a] H (fun v _ => v = .bl true) fun _ _ _ => False := by
  refine ⟨[a], [.scr (ns.map VI.int)], [.ref 0], rfl, scr_ag nl hO hS, .cons (.ref rfl) .nil, ?_⟩
  rw [e]
  intro ρ' H' x _ _ r
  cases r
  rfl
end ML
end
section
namespace ML
open PySem PySem.Spec PyProof.Rows L2 He
def obsLG (as : List Addr) (m : MSpec) (g : Addr → Option Obj) : AlM := obsM m (frG g as)
def hookL (as : List Addr) (m : MSpec) : PySem.W.Hook where
  α := AlM
  obs := fun s => obsLG as m s.heap.get?
  val := fun w => valM m w
  says := fun w h => ∃ K : PySem.W.Frag, K.In h ∧ SaysM m w K
  of := fun _ _ e => ⟨_, frG_in, e⟩
  keeps := fun _ _ _ ⟨K, hK, c⟩ k => ⟨K, PySem.W.Frag.In.keeps hK k, c⟩
theorem obsLG_eq {as : List Addr} {m : MSpec} {g : Addr → Option Obj} {s : Shared} (h : ∀ a, g a = s.heap.get? a) : obsLG as m g = (hookL as m).obs s := by
  have e : g = s.heap.get? := funext h
  rw [e] <;> rfl
end ML
end
section
noncomputable section
namespace MHP
open PySem PySem.W PySem.Calls PyProof.Rows HandSHeadRun
section
variable (st : SharedT → Thread → Option (SharedT × Thread)) (n0 : Nat) (ann : Option Value)
def segF (b : Nat) : Nat → SharedT → Thread → Option (Flow × SharedT × Code × Pos)
  | 0, _, _ => none
  | m + 1, s, t => match endAt b t with
    | some f => some (f, s, t.code, t.pos)
    | none => match stepOk n0 ann t with
      | false => none
      | true => match st s t with
        | some (s', t') => frS s' fun s' => segF b m s' t'
        | none => none
def topF : Nat → SharedT → Thread → Option (SharedT × Thread)
  | 0, s, t => some (s, t)
  | m + 1, s, t => match through t with
    | true => none
    | false => match stepOk n0 ann t with
      | false => none
      | true => match st s t with
        | some (s', t') => frS s' fun s' => topF m s' t'
        | none => none
end
section
variable {tb : String → Option Builtin} {p : Program} {w : World} {n0 : Nat} {ann : Option Value} {b : Nat}
theorem segF_ok : ∀ {m : Nat} {s s' : SharedT} {t : Thread} {f : Flow} {c : Code} {q : Pos}, segF (stepT (denote tb) p w) n0 ann b m s t = some (f, s', c, q) → segRun tb p w n0 ann b m s.abs t = some (f, s'.abs, c, q)
  | 0, _, _, _, _, _, _, h => by cases h
  | m + 1, s, s', t, f, c, q, h => by
    unfold segF at h
    unfold segRun
    cases he : endAt b t with
    | some x => rw [he] at h; cases h; rfl
    | none =>
      rw [he] at h
      cases hk : stepOk n0 ann t with
      | false => rw [hk] at h; cases h
      | true =>
        rw [hk] at h
        cases hs : stepT (denote tb) p w s t with
        | none => rw [hs] at h; cases h
        | some r =>
          obtain ⟨s2, t2⟩ := r
          rw [hs] at h
          dsimp only at h
          rw [frS_eq] at h
          rw [stepT_spec hs]
          exact segF_ok h
theorem topF_ok : ∀ {m : Nat} {s s' : SharedT} {t t' : Thread}, topF (stepT (denote tb) p w) n0 ann m s t = some (s', t') → topGo tb p w n0 ann m s.abs t = some (s'.abs, t')
  | 0, _, _, _, _, h => by cases h; rfl
  | m + 1, s, s', t, t', h => by
    unfold topF at h
    unfold topGo
    cases he : through t with
    | true => rw [he] at h; cases h
    | false =>
      rw [he] at h
      cases hk : stepOk n0 ann t with
      | false => rw [hk] at h; cases h
      | true =>
        rw [hk] at h
        cases hs : stepT (denote tb) p w s t with
        | none => rw [hs] at h; cases h
        | some r =>
          obtain ⟨s2, t2⟩ := r
          rw [hs] at h
          dsimp only at h
          rw [frS_eq] at h
          rw [stepT_spec hs]
          exact topF_ok h
end
def preF (st : SharedT → Thread → Option (SharedT × Thread)) (n0 : Nat) (ann : Option Value) (k : Nat) (p : Program) (w : World) (os : OsState) : Option (SharedT × Thread) := match putAll (boot_heap w.params).objs.toList .nil 0 with
  | some (t, n) => topF st n0 ann k (bootT w os (t, n)) (topStub p)
  | none => none
theorem preF_ok {tb : String → Option Builtin} {n0 k : Nat} {ann : Option Value} {p : Program} {w : World} {os : OsState} {s : SharedT} {t : Thread} (h : preF (stepT (denote tb) p w) n0 ann k p w os = some (s, t)) :
    topGo tb p w n0 ann k ⟨boot_heap w.params, #[], boot_drawn, boot_toks, os⟩ (topStub p) = some (s.abs, t) := by
  unfold preF at h
  cases e : putAll (boot_heap w.params).objs.toList .nil 0 with
  | none => rw [e] at h; cases h
  | some r =>
    obtain ⟨T, n⟩ := r
    rw [e] at h
    have q := topF_ok h
    have eh := putAll_heap e
    have eb : (bootT w os (T, n)).abs = ⟨boot_heap w.params, #[], boot_drawn, boot_toks, os⟩ := by
      show (⟨absHeap T n (boot_heap w.params).life, #[], boot_drawn, boot_toks, os⟩ : Shared) = _
      rw [eh]
    rw [eb] at q
    exact q
theorem fin_ok {p : Program} {w : World} {n0 m : Nat} {ann : Option Value} {s s' : SharedT} {t : Thread} (h : goF (stepQ (denQ tabQ) p w) n0 ann m s t = some s') : topRun treeTable p w n0 ann m s.abs t = some s'.abs :=
  goF_ok (by rw [stepQ_eq, denQ_eq, tabQ_eq]; exact h)
theorem seg_ok {p : Program} {w : World} {n0 m : Nat} {ann : Option Value} {s s' : SharedT} {t : Thread} {c : Code} {q : Pos} (h : segF (stepQ (denQ tabQ) p w) n0 ann 1 m s t = some (.next, s', c, q)) : segRun treeTable p w n0 ann 1 m s.abs t = some (.next, s'.abs, c, q) :=
  segF_ok (by rw [stepQ_eq, denQ_eq, tabQ_eq]; exact h)
theorem left_pc {p q : Program} {loose : List Str} {Xt : Shared → Bool} {α : Type} {Yf : Shared → α} {Ya : World → α} {N k0 M1 m0 : Nat} {ann : Option Value} {A Z : World → OsState → SharedT} {th : Thread}
    (e : opening p = plainProg p.main.scope.names) (hN : Nat.ble 600 N = true) (f : ∀ s, fenceModules? p s = some s) (le : Nat.ble (k0 + M1) N = true)
    (hm : ∀ w : World, (boot_heap w.params).objs.size = m0) (ha : ∀ w : World, bootAnn w = ann)
    (pre : ∀ (w : World) (os : OsState), preF (stepQ (denQ tabQ) p w) m0 ann k0 p w os = some (A w os, th))
    (rest : ∀ (w : World) (os : OsState), topRun treeTable p w m0 ann M1 (A w os).abs th = some (Z w os).abs)
    (l1 : ∀ (w : World) (os : OsState), looksF p (boot_heap w.params) (Z w os).abs = true)
    (l2 : ∀ (w : World) (os : OsState), seenQ q loose (importedModules p.main.body) Xt (Z w os).abs = openGood q loose)
    (l3 : ∀ (w : World) (os : OsState), Yf (Z w os).abs = Ya w) : LeftO p q loose Xt Yf Ya N true := fun w => by
  obtain ⟨⟨h, gs, d, k, os⟩, a, a'⟩ := Option.map_eq_some_iff.mp (boot_open e hN f w)
  obtain ⟨rfl, rfl, rfl, rfl⟩ : h = boot_heap w.params ∧ gs = Array.mk [] ∧ d = boot_drawn ∧ k = boot_toks := by simpa using a'
  have pr := pre w os
  rw [← stepQ_eq, ← denQ_eq, ← tabQ_eq] at pr
  have r0 := go_top (preF_ok pr) (rest w os)
  rw [← hm w, ← ha w] at r0
  have r := topRun_mono (N - (k0 + M1)) _ _ _ _ r0
  rw [show k0 + M1 + (N - (k0 + M1)) = N by have := Nat.le_of_ble_eq_true le; omega] at r
  have l1' : (staticsOk (importedModules p.main.body) (boot_heap w.params) (Z w os).abs.heap && namesBound p (Z w os).abs.heap && gensDone (Z w os).abs && laidKept (boot_heap w.params) (Z w os).abs.heap) = true := l1 w os
  have t : topFrom treeTable p w N ⟨boot_heap w.params, Array.mk [], boot_drawn, boot_toks, os⟩ = some (Z w os).abs := by
    unfold topFrom
    dsimp only
    rw [boot_ns]
    show (topRun treeTable p w (boot_heap w.params).objs.size (bootAnn w) N ⟨boot_heap w.params, #[], boot_drawn, boot_toks, os⟩ (topStub p)).bind _ = _
    rw [r]
    show (match staticsOk (importedModules p.main.body) (boot_heap w.params) (Z w os).abs.heap && namesBound p (Z w os).abs.heap && gensDone (Z w os).abs && laidKept (boot_heap w.params) (Z w os).abs.heap with | true => some (Z w os).abs | false => none) = _
    rw [l1']
  have l2' := l2 w os
  rw [← seenQ_eq] at l2'
  unfold openEnds
  rw [a]
  show (topFrom treeTable p w N _).map _ = _
  rw [t]
  exact congrArg some (Prod.ext l2' (l3 w os))
theorem head_left {r : OpenRow} {q : Program} {H : Hook} {N : Nat} {loose : List PySem.Str} {d : DefRec} {kwd : List (PySem.Str × PySem.Expr)}
    (left : LeftO r.prog q loose (fun s => xlAt q [] s && recOk r.toRowW.records s) H.obs H.val N true)
    (hdef : defOf q r.name = some (d, kwd)) (hp : r.prog.theDef r.name = some (d.params, d.body, d.scope)) (hk : kwWritten? d.params.kwonlyargs d.params.kw_defaults = some kwd)
    (hwr : (!r.writes || r.records.isEmpty) = true) (k1 : r.wellSaid = true) (ok : (chainsOk q && opensWell r.prog && (frees r.toRowW && r.within.isEmpty)) = true) (hb : r.prog.bare) (hw : r.toRowW.promised)
    (call : WalkO q loose (XL q []) H.says r.toRowW d kwd fun f vs => PySem.call f vs) : r.Holds :=
  holds_open (r := r) (q := q) (loose := loose) (XP := XL q []) (YP := H.says) (d := d) (kwd := kwd) left H.of H.keeps (fun s z => xl_of s (Bool.and_eq_true_iff.mp z).1) XL.keeps hdef hp hk (fun s z => recFacts_of (Bool.and_eq_true_iff.mp z).2) hwr k1 ok hb hw call
def tS (p : Program) (i : Nat) : Stmt := p.main.body.getD i (.Pass ⟨0, 0, 0, 0⟩)
def cS (p : Program) (i j : Nat) : Stmt := (match tS p i with
  | .ClassDef _ _ _ b _ _ _ _ _ _ _ => b
  | _ => []).getD j (.Pass ⟨0, 0, 0, 0⟩)
def sub (l : List Stmt) (a n : Nat) : List Stmt := (l.drop a).take n
end MHP
end
section
set_option maxHeartbeats 0
namespace Lw
open PySem PySem.Spec PyProof.Rows PySem.W L2 He MHP HandSHeadRun
abbrev Rr : OpenRow := OpenLaw.row PySem.Challenge.rw_epochrooms_k02_wraps_refused
abbrev PP : Program := PySem.Challenge.pw_epochrooms_k02_wraps_refused
abbrev zA (i : Nat) := defArgs (tS PP i)
abbrev zAC (i j : Nat) := defArgs (cS PP i j)
abbrev zB (i : Nat) := defBody (tS PP i)
abbrev zBC (i j : Nat) := defBody (cS PP i j)
abbrev zS (i : Nat) := defScope (tS PP i)
abbrev zSC (i j : Nat) := defScope (cS PP i j)
abbrev zo (x : String) : Str := .ofString x
abbrev zi (n : Int) : Value := .int n 0
abbrev N := @BT.node
abbrev Z := BT.nil
abbrev zhK (P : Params) (x : String) := PyData.keyHash P (.ofString x)
abbrev zsK (x : String) (n : Nat) : Value := .str (.ofString x) n
abbrev zt (l : List Value) : Obj := ⟨.type "tuple", none, .seq l.toArray 0, #[]⟩
abbrev zc (l : List Value) : Obj := ⟨.type "code", none, .fields l.toArray, #[]⟩
abbrev zf (f : FuncData) : Obj := ⟨.type "function", none, .func f, #[]⟩
abbrev zm (x y : String) (a b c d e f : Nat) (q : String) (n r : Nat) : Obj := zf ⟨.ofString x, .ofString y, zAC a b, .stmts (zBC c d), zSC e f, 3, [], .none, .none, .none, zsK q n, none, .ref r, .none, 0⟩
abbrev zn (l : List Value) : Obj := ⟨.none, none, .fields l.toArray, #[]⟩
def B11 : Obj := zt []
def B12 : Obj := zn []
def B13 : Obj := zc [(zsK "<module>" 182), (zsK "<module>" 183), (zsK "/claim/cut.py" 184), (zi 1), (zi 0), (zi 0), (zi 0), (zi 0), (.ref 11), (.bool false), (zi 181), (.ref 12), .none, .none, .none, .none, (zi 185), (zi 1), (zsK "/claim/cut.py" 186)]
def B14 : Obj := ⟨(.type "frame"), none, .plain, #[(some (.ref 13)), (some (.ref 3)), (some (.ref 3)), none, (some (zsK "__main__" 164)), none, (some (.ref 0))]⟩
def C3 (P : Params) : Obj := ⟨(.type "dict"), none, (.dict #[⟨(zhK P "__name__"), (zsK "__name__" 165), (zsK "law_epochrooms_k02_wraps_refused" 409)⟩, ⟨(zhK P "__doc__"), (zsK "__doc__" 166), .none⟩, ⟨(zhK P "__package__"), (zsK "__package__" 167), .none⟩, ⟨(zhK P "__loader__"), (zsK "__loader__" 168), (.builtin "__main__.__loader__#opaque")⟩, ⟨(zhK P "__spec__"), (zsK "__spec__" 169), .none⟩, ⟨(zhK P "__annotations__"), (zsK "__annotations__" 170), (.ref 6)⟩, ⟨(zhK P "__builtins__"), (zsK "__builtins__" 171), (.ref 4)⟩, ⟨(zhK P "__file__"), (zsK "__file__" 173), (zsK "/claim/cut.py" 172)⟩, ⟨(zhK P "__cached__"), (zsK "__cached__" 174), .none⟩, ⟨(zhK P "_wall"), (zsK "_wall" 193), (.ref 21)⟩, ⟨(zhK P "RoomsError"), (zsK "RoomsError" 213), (.ref 31)⟩, ⟨(zhK P "NoNumber"), (zsK "NoNumber" 240), (.ref 53)⟩, ⟨(zhK P "NoSize"), (zsK "NoSize" 267), (.ref 74)⟩, ⟨(zhK P "is_number"), (zsK "is_number" 278), (.ref 83)⟩, ⟨(zhK P "is_whole"), (zsK "is_whole" 285), (.ref 90)⟩, ⟨(zhK P "LEAST_SIZE"), (zsK "LEAST_SIZE" 289), (.int 2 288)⟩, ⟨(zhK P "MOST_SIZE"), (zsK "MOST_SIZE" 291), (.int 64 290)⟩, ⟨(zhK P "look_at_size"), (zsK "look_at_size" 298), (.ref 97)⟩, ⟨(zhK P "look_at_whole"), (zsK "look_at_whole" 305), (.ref 104)⟩, ⟨(zhK P "Wrap"), (zsK "Wrap" 400), (.ref 179)⟩, ⟨(zhK P "all_wraps"), (zsK "all_wraps" 408), (.ref 190)⟩, ⟨(zhK P "_law_odd"), (zsK "_law_odd" 416), (.ref 197)⟩, ⟨(zhK P "_law_made"), (zsK "_law_made" 425), (.ref 204)⟩, ⟨(zhK P "_law_moved"), (zsK "_law_moved" 435), (.ref 211)⟩, ⟨(zhK P "_law_first"), (zsK "_law_first" 441), (.ref 216)⟩, ⟨(zhK P "law"), (zsK "law" 453), (.ref 223)⟩] 26), #[]⟩
def C12 : Obj := zn [(zi 1), (zi 0), (.ref 20), (zi 5), (zi 0), (.ref 27), (zi 7), (zi 0), (.ref 41), (zi 12), (zi 0), (.ref 62), (zi 18), (zi 0), (.ref 82), (zi 20), (zi 0), (.ref 89), (zi 25), (zi 0), (.ref 96), (zi 28), (zi 0), (.ref 103), (zi 31), (zi 0), (.ref 110), (zi 73), (zi 0), (.ref 189), (zi 78), (zi 0), (.ref 196), (zi 80), (zi 0), (.ref 203), (zi 87), (zi 0), (.ref 210), (zi 99), (zi 0), (.ref 215), (zi 104), (zi 0), (.ref 222)]
def C15 : Obj := zt []
def C16 : Obj := zn []
def C17 : Obj := zt [(zsK "k" 190)]
def C18 : Obj := zt []
def C19 : Obj := ⟨.none, none, (.func ⟨(zo "_wall"), (zo "_wall"), (zA 0), (.stmts (zB 0)), (zS 0), 0, [], .none, .none, .none, .none, none, .none, .none, 0⟩), #[]⟩
def C20 : Obj := zc [(zsK "_wall" 187), (zsK "_wall" 188), (zsK "/claim/cut.py" 189), (zi 1), (zi 1), (zi 0), (zi 0), (zi 3), (.ref 15), (.bool true), (zi 181), (.ref 16), .none, (.ref 17), (.ref 18), (.ref 19), (zi 191), (zi 1), (zsK "/claim/cut.py" 192)]
def C21 : Obj := zf ⟨(zo "_wall"), (zo "_wall"), (zA 0), (.stmts (zB 0)), (zS 0), 3, [], .none, .none, .none, (zsK "__main__" 164), none, (.ref 20), .none, 0⟩
def C22 : Obj := zt [(.type "ValueError")]
def C23 : Obj := ⟨(.type "builtin_function_or_method"), none, (.fields #[(.builtin "type.__prepare__"), (.type "type")]), #[]⟩
def C24 (P : Params) : Obj := ⟨(.type "dict"), none, (.dict #[⟨(zhK P "__module__"), (zsK "__module__" 203), (zsK "epochrooms.errors" 194)⟩, ⟨(zhK P "__qualname__"), (zsK "__qualname__" 205), (zsK "RoomsError" 204)⟩, ⟨(zhK P "__firstlineno__"), (zsK "__firstlineno__" 207), (.int 5 206)⟩, ⟨(zhK P "__static_attributes__"), (zsK "__static_attributes__" 208), (.ref 29)⟩] 4), #[]⟩
def C25 : Obj := zt []
def C26 : Obj := zn []
def C27 : Obj := zc [(zsK "RoomsError" 198), (zsK "RoomsError" 199), (zsK "/claim/cut.py" 200), (zi 5), (zi 0), (zi 0), (zi 0), (zi 0), (.ref 25), (.bool false), (zi 181), (.ref 26), .none, .none, .none, .none, (zi 201), (zi 5), (zsK "/claim/cut.py" 202)]
def C28 : Obj := ⟨(.type "frame"), none, .plain, #[(some (.ref 27)), (some (.ref 3)), (some (.ref 24)), none, (some (zsK "epochrooms.errors" 194)), none, (some (.ref 0))]⟩
def C29 : Obj := zt []
def C30 (P : Params) : Obj := ⟨(.type "dict"), none, (.dict #[⟨(zhK P "__module__"), (zsK "__module__" 203), (zsK "epochrooms.errors" 194)⟩, ⟨(zhK P "__firstlineno__"), (zsK "__firstlineno__" 207), (.int 5 206)⟩, ⟨(zhK P "__static_attributes__"), (zsK "__static_attributes__" 208), (.ref 29)⟩, ⟨(zhK P "__weakref__"), (zsK "__weakref__" 210), (.ref 32)⟩, ⟨(zhK P "__doc__"), (zsK "__doc__" 211), .none⟩] 3), #[]⟩
def C31 : Obj := ⟨(.type "type"), none, (.cls ⟨(zo "RoomsError"), [(.type "ValueError")], [(.ref 31), (.type "ValueError"), (.type "Exception"), (.type "BaseException"), (.type "object")], 30, (zo "RoomsError"), true, [], [(.ref 53), (.ref 74)], false, none, false⟩), #[(some (.ref 22)), none, (some (zsK "RoomsError" 196)), (some (zsK "RoomsError" 204)), (some (.builtin "ValueError.__new__")), (some (.bool true))]⟩
def C32 : Obj := ⟨(.type "getset_descriptor"), none, (.fields #[(zsK "__weakref__" 209), (.ref 31), (.builtin "ExceptionGroup.__weakref__"), .none]), #[]⟩
def C33 : Obj := ⟨(.type "super"), none, (.fields #[(.ref 31), (.ref 31), (.ref 31)]), #[]⟩
def C34 : Obj := ⟨(.type "builtin_function_or_method"), none, (.fields #[(.builtin "object.__init_subclass__"), (.ref 31)]), #[]⟩
def C35 : Obj := zt [(.ref 31)]
def C36 : Obj := ⟨(.type "builtin_function_or_method"), none, (.fields #[(.builtin "type.__prepare__"), (.type "type")]), #[]⟩
def C37 (P : Params) : Obj := ⟨(.type "dict"), none, (.dict #[⟨(zhK P "__module__"), (zsK "__module__" 221), (zsK "epochrooms.errors" 194)⟩, ⟨(zhK P "__qualname__"), (zsK "__qualname__" 223), (zsK "NoNumber" 222)⟩, ⟨(zhK P "__firstlineno__"), (zsK "__firstlineno__" 225), (.int 7 224)⟩, ⟨(zhK P "__init__"), (zsK "__init__" 234), (.ref 50)⟩, ⟨(zhK P "__static_attributes__"), (zsK "__static_attributes__" 236), (.ref 51)⟩, ⟨(zhK P "__classcell__"), (zsK "__classcell__" 237), (.ref 38)⟩] 6), #[]⟩
def C38 : Obj := ⟨(.type "cell"), none, (.cell (some (.ref 53))), #[]⟩
def C39 : Obj := zt []
def C40 : Obj := zn [(zi 9), (zi 4), (.ref 49)]
def C41 : Obj := zc [(zsK "NoNumber" 216), (zsK "NoNumber" 217), (zsK "/claim/cut.py" 218), (zi 7), (zi 0), (zi 0), (zi 0), (zi 0), (.ref 39), (.bool false), (zi 181), (.ref 40), .none, .none, .none, .none, (zi 219), (zi 7), (zsK "/claim/cut.py" 220)]
def C42 : Obj := ⟨(.type "frame"), none, .plain, #[(some (.ref 41)), (some (.ref 3)), (some (.ref 37)), none, (some (zsK "epochrooms.errors" 194)), none, (some (.ref 0))]⟩
def C43 : Obj := zt [(.ref 38)]
def C44 : Obj := zt [(zsK "__class__" 229)]
def C45 : Obj := zn []
def C46 : Obj := zt [(zsK "self" 230), (zsK "value" 231)]
def C47 : Obj := zt []
def C48 : Obj := ⟨.none, none, (.func ⟨(zo "__init__"), (zo "NoNumber.__init__"), (zAC 3 0), (.stmts (zBC 3 0)), (zSC 3 0), 0, [], .none, .none, .none, .none, none, .none, .none, 0⟩), #[]⟩
def C49 : Obj := zc [(zsK "__init__" 226), (zsK "NoNumber.__init__" 227), (zsK "/claim/cut.py" 228), (zi 9), (zi 2), (zi 0), (zi 0), (zi 3), (.ref 44), (.bool true), (zi 181), (.ref 45), .none, (.ref 46), (.ref 47), (.ref 48), (zi 232), (zi 9), (zsK "/claim/cut.py" 233)]
def C50 : Obj := zf ⟨(zo "__init__"), (zo "NoNumber.__init__"), (zAC 3 0), (.stmts (zBC 3 0)), (zSC 3 0), 3, [((zo "__class__"), 38)], .none, .none, .none, (zsK "epochrooms.errors" 194), none, (.ref 49), (.ref 43), 0⟩
def C51 : Obj := zt [(zsK "value" 235)]
def C52 (P : Params) : Obj := ⟨(.type "dict"), none, (.dict #[⟨(zhK P "__module__"), (zsK "__module__" 221), (zsK "epochrooms.errors" 194)⟩, ⟨(zhK P "__firstlineno__"), (zsK "__firstlineno__" 225), (.int 7 224)⟩, ⟨(zhK P "__init__"), (zsK "__init__" 234), (.ref 50)⟩, ⟨(zhK P "__static_attributes__"), (zsK "__static_attributes__" 236), (.ref 51)⟩, ⟨(zhK P "__doc__"), (zsK "__doc__" 238), .none⟩] 3), #[]⟩
def C53 : Obj := ⟨(.type "type"), none, (.cls ⟨(zo "NoNumber"), [(.ref 31)], [(.ref 53), (.ref 31), (.type "ValueError"), (.type "Exception"), (.type "BaseException"), (.type "object")], 52, (zo "NoNumber"), true, [], [], false, none, false⟩), #[(some (.ref 35)), none, (some (zsK "NoNumber" 214)), (some (zsK "NoNumber" 222)), (some (.builtin "ValueError.__new__")), (some (.bool true))]⟩
def C54 : Obj := ⟨(.type "super"), none, (.fields #[(.ref 53), (.ref 53), (.ref 53)]), #[]⟩
def C55 : Obj := ⟨(.type "builtin_function_or_method"), none, (.fields #[(.builtin "object.__init_subclass__"), (.ref 53)]), #[]⟩
def C56 : Obj := zt [(.ref 31)]
def C57 : Obj := ⟨(.type "builtin_function_or_method"), none, (.fields #[(.builtin "type.__prepare__"), (.type "type")]), #[]⟩
def C58 (P : Params) : Obj := ⟨(.type "dict"), none, (.dict #[⟨(zhK P "__module__"), (zsK "__module__" 248), (zsK "epochrooms.errors" 194)⟩, ⟨(zhK P "__qualname__"), (zsK "__qualname__" 250), (zsK "NoSize" 249)⟩, ⟨(zhK P "__firstlineno__"), (zsK "__firstlineno__" 252), (.int 12 251)⟩, ⟨(zhK P "__init__"), (zsK "__init__" 261), (.ref 71)⟩, ⟨(zhK P "__static_attributes__"), (zsK "__static_attributes__" 263), (.ref 72)⟩, ⟨(zhK P "__classcell__"), (zsK "__classcell__" 264), (.ref 59)⟩] 6), #[]⟩
def C59 : Obj := ⟨(.type "cell"), none, (.cell (some (.ref 74))), #[]⟩
def C60 : Obj := zt []
def C61 : Obj := zn [(zi 14), (zi 4), (.ref 70)]
def C62 : Obj := zc [(zsK "NoSize" 243), (zsK "NoSize" 244), (zsK "/claim/cut.py" 245), (zi 12), (zi 0), (zi 0), (zi 0), (zi 0), (.ref 60), (.bool false), (zi 181), (.ref 61), .none, .none, .none, .none, (zi 246), (zi 12), (zsK "/claim/cut.py" 247)]
def C63 : Obj := ⟨(.type "frame"), none, .plain, #[(some (.ref 62)), (some (.ref 3)), (some (.ref 58)), none, (some (zsK "epochrooms.errors" 194)), none, (some (.ref 0))]⟩
def C64 : Obj := zt [(.ref 59)]
def C65 : Obj := zt [(zsK "__class__" 256)]
def C66 : Obj := zn []
def C67 : Obj := zt [(zsK "self" 257), (zsK "size" 258)]
def C68 : Obj := zt []
def C69 : Obj := ⟨.none, none, (.func ⟨(zo "__init__"), (zo "NoSize.__init__"), (zAC 4 0), (.stmts (zBC 4 0)), (zSC 4 0), 0, [], .none, .none, .none, .none, none, .none, .none, 0⟩), #[]⟩
def C70 : Obj := zc [(zsK "__init__" 253), (zsK "NoSize.__init__" 254), (zsK "/claim/cut.py" 255), (zi 14), (zi 2), (zi 0), (zi 0), (zi 3), (.ref 65), (.bool true), (zi 181), (.ref 66), .none, (.ref 67), (.ref 68), (.ref 69), (zi 259), (zi 14), (zsK "/claim/cut.py" 260)]
def C71 : Obj := zf ⟨(zo "__init__"), (zo "NoSize.__init__"), (zAC 4 0), (.stmts (zBC 4 0)), (zSC 4 0), 3, [((zo "__class__"), 59)], .none, .none, .none, (zsK "epochrooms.errors" 194), none, (.ref 70), (.ref 64), 0⟩
def C72 : Obj := zt [(zsK "size" 262)]
def C73 (P : Params) : Obj := ⟨(.type "dict"), none, (.dict #[⟨(zhK P "__module__"), (zsK "__module__" 248), (zsK "epochrooms.errors" 194)⟩, ⟨(zhK P "__firstlineno__"), (zsK "__firstlineno__" 252), (.int 12 251)⟩, ⟨(zhK P "__init__"), (zsK "__init__" 261), (.ref 71)⟩, ⟨(zhK P "__static_attributes__"), (zsK "__static_attributes__" 263), (.ref 72)⟩, ⟨(zhK P "__doc__"), (zsK "__doc__" 265), .none⟩] 3), #[]⟩
def C74 : Obj := ⟨(.type "type"), none, (.cls ⟨(zo "NoSize"), [(.ref 31)], [(.ref 74), (.ref 31), (.type "ValueError"), (.type "Exception"), (.type "BaseException"), (.type "object")], 73, (zo "NoSize"), true, [], [], false, none, false⟩), #[(some (.ref 56)), none, (some (zsK "NoSize" 241)), (some (zsK "NoSize" 249)), (some (.builtin "ValueError.__new__")), (some (.bool true))]⟩
def C75 : Obj := ⟨(.type "super"), none, (.fields #[(.ref 74), (.ref 74), (.ref 74)]), #[]⟩
def C76 : Obj := ⟨(.type "builtin_function_or_method"), none, (.fields #[(.builtin "object.__init_subclass__"), (.ref 74)]), #[]⟩
def C77 : Obj := zt []
def C78 : Obj := zn []
def C79 : Obj := zt [(zsK "value" 273), (zsK "low" 274), (zsK "high" 275)]
def C80 : Obj := zt []
def C81 : Obj := ⟨.none, none, (.func ⟨(zo "is_number"), (zo "is_number"), (zA 6), (.stmts (zB 6)), (zS 6), 0, [], .none, .none, .none, .none, none, .none, .none, 0⟩), #[]⟩
def C82 : Obj := zc [(zsK "is_number" 270), (zsK "is_number" 271), (zsK "/claim/cut.py" 272), (zi 18), (zi 3), (zi 0), (zi 0), (zi 3), (.ref 77), (.bool true), (zi 181), (.ref 78), .none, (.ref 79), (.ref 80), (.ref 81), (zi 276), (zi 18), (zsK "/claim/cut.py" 277)]
def C83 : Obj := zf ⟨(zo "is_number"), (zo "is_number"), (zA 6), (.stmts (zB 6)), (zS 6), 3, [], .none, .none, .none, (zsK "epochrooms.numbers" 268), none, (.ref 82), .none, 0⟩
def C84 : Obj := zt []
def C85 : Obj := zn []
def C86 : Obj := zt [(zsK "value" 282)]
def C87 : Obj := zt []
def C88 : Obj := ⟨.none, none, (.func ⟨(zo "is_whole"), (zo "is_whole"), (zA 7), (.stmts (zB 7)), (zS 7), 0, [], .none, .none, .none, .none, none, .none, .none, 0⟩), #[]⟩
def C89 : Obj := zc [(zsK "is_whole" 279), (zsK "is_whole" 280), (zsK "/claim/cut.py" 281), (zi 20), (zi 1), (zi 0), (zi 0), (zi 3), (.ref 84), (.bool true), (zi 181), (.ref 85), .none, (.ref 86), (.ref 87), (.ref 88), (zi 283), (zi 20), (zsK "/claim/cut.py" 284)]
def C90 : Obj := zf ⟨(zo "is_whole"), (zo "is_whole"), (zA 7), (.stmts (zB 7)), (zS 7), 3, [], .none, .none, .none, (zsK "epochrooms.numbers" 268), none, (.ref 89), .none, 0⟩
def C91 : Obj := zt []
def C92 : Obj := zn []
def C93 : Obj := zt [(zsK "size" 295)]
def C94 : Obj := zt []
def C95 : Obj := ⟨.none, none, (.func ⟨(zo "look_at_size"), (zo "look_at_size"), (zA 11), (.stmts (zB 11)), (zS 11), 0, [], .none, .none, .none, .none, none, .none, .none, 0⟩), #[]⟩
def C96 : Obj := zc [(zsK "look_at_size" 292), (zsK "look_at_size" 293), (zsK "/claim/cut.py" 294), (zi 25), (zi 1), (zi 0), (zi 0), (zi 3), (.ref 91), (.bool true), (zi 181), (.ref 92), .none, (.ref 93), (.ref 94), (.ref 95), (zi 296), (zi 25), (zsK "/claim/cut.py" 297)]
def C97 : Obj := zf ⟨(zo "look_at_size"), (zo "look_at_size"), (zA 11), (.stmts (zB 11)), (zS 11), 3, [], .none, .none, .none, (zsK "epochrooms.wraps" 286), none, (.ref 96), .none, 0⟩
def C98 : Obj := zt []
def C99 : Obj := zn []
def C100 : Obj := zt [(zsK "value" 302)]
def C101 : Obj := zt []
def C102 : Obj := ⟨.none, none, (.func ⟨(zo "look_at_whole"), (zo "look_at_whole"), (zA 12), (.stmts (zB 12)), (zS 12), 0, [], .none, .none, .none, .none, none, .none, .none, 0⟩), #[]⟩
def C103 : Obj := zc [(zsK "look_at_whole" 299), (zsK "look_at_whole" 300), (zsK "/claim/cut.py" 301), (zi 28), (zi 1), (zi 0), (zi 0), (zi 3), (.ref 98), (.bool true), (zi 181), (.ref 99), .none, (.ref 100), (.ref 101), (.ref 102), (zi 303), (zi 28), (zsK "/claim/cut.py" 304)]
def C104 : Obj := zf ⟨(zo "look_at_whole"), (zo "look_at_whole"), (zA 12), (.stmts (zB 12)), (zS 12), 3, [], .none, .none, .none, (zsK "epochrooms.wraps" 286), none, (.ref 103), .none, 0⟩
def C105 : Obj := zt []
def C106 : Obj := ⟨(.type "builtin_function_or_method"), none, (.fields #[(.builtin "type.__prepare__"), (.type "type")]), #[]⟩
def C107 (P : Params) : Obj := ⟨(.type "dict"), none, (.dict #[⟨(zhK P "__module__"), (zsK "__module__" 313), (zsK "epochrooms.wraps" 286)⟩, ⟨(zhK P "__qualname__"), (zsK "__qualname__" 315), (zsK "Wrap" 314)⟩, ⟨(zhK P "__firstlineno__"), (zsK "__firstlineno__" 317), (.int 31 316)⟩, ⟨(zhK P "__init__"), (zsK "__init__" 326), (.ref 118)⟩, ⟨(zhK P "now"), (zsK "now" 334), (.ref 126)⟩, ⟨(zhK P "modulus"), (zsK "modulus" 342), (.ref 134)⟩, ⟨(zhK P "twin"), (zsK "twin" 349), (.ref 141)⟩, ⟨(zhK P "__eq__"), (zsK "__eq__" 357), (.ref 148)⟩, ⟨(zhK P "__add__"), (zsK "__add__" 365), (.ref 155)⟩, ⟨(zhK P "__radd__"), (zsK "__radd__" 373), (.ref 162)⟩, ⟨(zhK P "__iadd__"), (zsK "__iadd__" 381), (.ref 169)⟩, ⟨(zhK P "__sub__"), (zsK "__sub__" 389), (.ref 176)⟩, ⟨(zhK P "__static_attributes__"), (zsK "__static_attributes__" 392), (.ref 177)⟩] 13), #[]⟩
def C108 : Obj := zt []
def C109 : Obj := zn [(zi 33), (zi 4), (.ref 117), (zi 40), (zi 4), (.ref 124), (zi 44), (zi 4), (.ref 132), (zi 47), (zi 4), (.ref 140), (zi 50), (zi 4), (.ref 147), (zi 53), (zi 4), (.ref 154), (zi 57), (zi 4), (.ref 161), (zi 61), (zi 4), (.ref 168), (zi 66), (zi 4), (.ref 175)]
def C110 : Obj := zc [(zsK "Wrap" 308), (zsK "Wrap" 309), (zsK "/claim/cut.py" 310), (zi 31), (zi 0), (zi 0), (zi 0), (zi 0), (.ref 108), (.bool false), (zi 181), (.ref 109), .none, .none, .none, .none, (zi 311), (zi 31), (zsK "/claim/cut.py" 312)]
def C111 : Obj := ⟨(.type "frame"), none, .plain, #[(some (.ref 110)), (some (.ref 3)), (some (.ref 107)), none, (some (zsK "epochrooms.wraps" 286)), none, (some (.ref 0))]⟩
def C112 : Obj := zt []
def C113 : Obj := zn []
def C114 : Obj := zt [(zsK "self" 321), (zsK "value" 322), (zsK "size" 323)]
def C115 : Obj := zt []
def C116 : Obj := ⟨.none, none, (.func ⟨(zo "__init__"), (zo "Wrap.__init__"), (zAC 13 0), (.stmts (zBC 13 0)), (zSC 13 0), 0, [], .none, .none, .none, .none, none, .none, .none, 0⟩), #[]⟩
def C117 : Obj := zc [(zsK "__init__" 318), (zsK "Wrap.__init__" 319), (zsK "/claim/cut.py" 320), (zi 33), (zi 3), (zi 0), (zi 0), (zi 3), (.ref 112), (.bool true), (zi 181), (.ref 113), .none, (.ref 114), (.ref 115), (.ref 116), (zi 324), (zi 33), (zsK "/claim/cut.py" 325)]
def C118 : Obj := zm "__init__" "Wrap.__init__" 13 0 13 0 13 0 "epochrooms.wraps" 286 117
def C119 : Obj := zt []
def C120 : Obj := zn []
def C121 : Obj := zt [(zsK "self" 330)]
def C122 : Obj := zt []
def C123 : Obj := ⟨.none, none, (.func ⟨(zo "now"), (zo "Wrap.now"), (zAC 13 1), (.stmts (zBC 13 1)), (zSC 13 2), 0, [], .none, .none, .none, .none, none, .none, .none, 0⟩), #[]⟩
def C124 : Obj := zc [(zsK "now" 327), (zsK "Wrap.now" 328), (zsK "/claim/cut.py" 329), (zi 39), (zi 1), (zi 0), (zi 0), (zi 3), (.ref 119), (.bool true), (zi 181), (.ref 120), .none, (.ref 121), (.ref 122), (.ref 123), (zi 331), (zi 39), (zsK "/claim/cut.py" 332)]
def C125 : Obj := zm "now" "Wrap.now" 13 1 13 1 13 2 "epochrooms.wraps" 286 124
def C126 : Obj := ⟨(.type "property"), none, (.fields #[(.ref 125), .none, .none, .none, (zsK "now" 334), (.bool false)]), #[]⟩
def C127 : Obj := zt []
def C128 : Obj := zn []
def C129 : Obj := zt [(zsK "self" 338)]
def C130 : Obj := zt []
def C131 : Obj := ⟨.none, none, (.func ⟨(zo "modulus"), (zo "Wrap.modulus"), (zAC 13 2), (.stmts (zBC 13 2)), (zSC 13 2), 0, [], .none, .none, .none, .none, none, .none, .none, 0⟩), #[]⟩
def C132 : Obj := zc [(zsK "modulus" 335), (zsK "Wrap.modulus" 336), (zsK "/claim/cut.py" 337), (zi 43), (zi 1), (zi 0), (zi 0), (zi 3), (.ref 127), (.bool true), (zi 181), (.ref 128), .none, (.ref 129), (.ref 130), (.ref 131), (zi 339), (zi 43), (zsK "/claim/cut.py" 340)]
def C133 : Obj := zm "modulus" "Wrap.modulus" 13 2 13 2 13 2 "epochrooms.wraps" 286 132
def C134 : Obj := ⟨(.type "property"), none, (.fields #[(.ref 133), .none, .none, .none, (zsK "modulus" 342), (.bool false)]), #[]⟩
def C135 : Obj := zt []
def C136 : Obj := zn []
def C137 : Obj := zt [(zsK "self" 346)]
def C138 : Obj := zt []
def C139 : Obj := ⟨.none, none, (.func ⟨(zo "twin"), (zo "Wrap.twin"), (zAC 13 3), (.stmts (zBC 13 3)), (zSC 13 3), 0, [], .none, .none, .none, .none, none, .none, .none, 0⟩), #[]⟩
def C140 : Obj := zc [(zsK "twin" 343), (zsK "Wrap.twin" 344), (zsK "/claim/cut.py" 345), (zi 47), (zi 1), (zi 0), (zi 0), (zi 3), (.ref 135), (.bool true), (zi 181), (.ref 136), .none, (.ref 137), (.ref 138), (.ref 139), (zi 347), (zi 47), (zsK "/claim/cut.py" 348)]
def C141 : Obj := zm "twin" "Wrap.twin" 13 3 13 3 13 3 "epochrooms.wraps" 286 140
def C142 : Obj := zt []
def C143 : Obj := zn []
def C144 : Obj := zt [(zsK "self" 353), (zsK "other" 354)]
def C145 : Obj := zt []
def C146 : Obj := ⟨.none, none, (.func ⟨(zo "__eq__"), (zo "Wrap.__eq__"), (zAC 13 4), (.stmts (zBC 13 4)), (zSC 13 4), 0, [], .none, .none, .none, .none, none, .none, .none, 0⟩), #[]⟩
def C147 : Obj := zc [(zsK "__eq__" 350), (zsK "Wrap.__eq__" 351), (zsK "/claim/cut.py" 352), (zi 50), (zi 2), (zi 0), (zi 0), (zi 3), (.ref 142), (.bool true), (zi 181), (.ref 143), .none, (.ref 144), (.ref 145), (.ref 146), (zi 355), (zi 50), (zsK "/claim/cut.py" 356)]
def C148 : Obj := zm "__eq__" "Wrap.__eq__" 13 4 13 4 13 4 "epochrooms.wraps" 286 147
def C149 : Obj := zt []
def C150 : Obj := zn []
def C151 : Obj := zt [(zsK "self" 361), (zsK "many" 362)]
def C152 : Obj := zt []
def C153 : Obj := ⟨.none, none, (.func ⟨(zo "__add__"), (zo "Wrap.__add__"), (zAC 13 5), (.stmts (zBC 13 5)), (zSC 13 6), 0, [], .none, .none, .none, .none, none, .none, .none, 0⟩), #[]⟩
def C154 : Obj := zc [(zsK "__add__" 358), (zsK "Wrap.__add__" 359), (zsK "/claim/cut.py" 360), (zi 53), (zi 2), (zi 0), (zi 0), (zi 3), (.ref 149), (.bool true), (zi 181), (.ref 150), .none, (.ref 151), (.ref 152), (.ref 153), (zi 363), (zi 53), (zsK "/claim/cut.py" 364)]
def C155 : Obj := zm "__add__" "Wrap.__add__" 13 5 13 5 13 6 "epochrooms.wraps" 286 154
def C156 : Obj := zt []
def C157 : Obj := zn []
def C158 : Obj := zt [(zsK "self" 369), (zsK "many" 370)]
def C159 : Obj := zt []
def C160 : Obj := ⟨.none, none, (.func ⟨(zo "__radd__"), (zo "Wrap.__radd__"), (zAC 13 6), (.stmts (zBC 13 6)), (zSC 13 6), 0, [], .none, .none, .none, .none, none, .none, .none, 0⟩), #[]⟩
def C161 : Obj := zc [(zsK "__radd__" 366), (zsK "Wrap.__radd__" 367), (zsK "/claim/cut.py" 368), (zi 57), (zi 2), (zi 0), (zi 0), (zi 3), (.ref 156), (.bool true), (zi 181), (.ref 157), .none, (.ref 158), (.ref 159), (.ref 160), (zi 371), (zi 57), (zsK "/claim/cut.py" 372)]
def C162 : Obj := zm "__radd__" "Wrap.__radd__" 13 6 13 6 13 6 "epochrooms.wraps" 286 161
def C163 : Obj := zt []
def C164 : Obj := zn []
def C165 : Obj := zt [(zsK "self" 377), (zsK "many" 378)]
def C166 : Obj := zt []
def C167 : Obj := ⟨.none, none, (.func ⟨(zo "__iadd__"), (zo "Wrap.__iadd__"), (zAC 13 7), (.stmts (zBC 13 7)), (zSC 13 7), 0, [], .none, .none, .none, .none, none, .none, .none, 0⟩), #[]⟩
def C168 : Obj := zc [(zsK "__iadd__" 374), (zsK "Wrap.__iadd__" 375), (zsK "/claim/cut.py" 376), (zi 61), (zi 2), (zi 0), (zi 0), (zi 3), (.ref 163), (.bool true), (zi 181), (.ref 164), .none, (.ref 165), (.ref 166), (.ref 167), (zi 379), (zi 61), (zsK "/claim/cut.py" 380)]
def C169 : Obj := zm "__iadd__" "Wrap.__iadd__" 13 7 13 7 13 7 "epochrooms.wraps" 286 168
def C170 : Obj := zt []
def C171 : Obj := zn []
def C172 : Obj := zt [(zsK "self" 385), (zsK "other" 386)]
def C173 : Obj := zt []
def C174 : Obj := ⟨.none, none, (.func ⟨(zo "__sub__"), (zo "Wrap.__sub__"), (zAC 13 8), (.stmts (zBC 13 8)), (zSC 13 8), 0, [], .none, .none, .none, .none, none, .none, .none, 0⟩), #[]⟩
def C175 : Obj := zc [(zsK "__sub__" 382), (zsK "Wrap.__sub__" 383), (zsK "/claim/cut.py" 384), (zi 66), (zi 2), (zi 0), (zi 0), (zi 3), (.ref 170), (.bool true), (zi 181), (.ref 171), .none, (.ref 172), (.ref 173), (.ref 174), (zi 387), (zi 66), (zsK "/claim/cut.py" 388)]
def C176 : Obj := zm "__sub__" "Wrap.__sub__" 13 8 13 8 13 8 "epochrooms.wraps" 286 175
def C177 : Obj := zt [(zsK "held" 390), (zsK "wide" 391)]
def C178 (P : Params) : Obj := ⟨(.type "dict"), none, (.dict #[⟨(zhK P "__module__"), (zsK "__module__" 313), (zsK "epochrooms.wraps" 286)⟩, ⟨(zhK P "__firstlineno__"), (zsK "__firstlineno__" 317), (.int 31 316)⟩, ⟨(zhK P "__init__"), (zsK "__init__" 326), (.ref 118)⟩, ⟨(zhK P "now"), (zsK "now" 334), (.ref 126)⟩, ⟨(zhK P "modulus"), (zsK "modulus" 342), (.ref 134)⟩, ⟨(zhK P "twin"), (zsK "twin" 349), (.ref 141)⟩, ⟨(zhK P "__eq__"), (zsK "__eq__" 357), (.ref 148)⟩, ⟨(zhK P "__add__"), (zsK "__add__" 365), (.ref 155)⟩, ⟨(zhK P "__radd__"), (zsK "__radd__" 373), (.ref 162)⟩, ⟨(zhK P "__iadd__"), (zsK "__iadd__" 381), (.ref 169)⟩, ⟨(zhK P "__sub__"), (zsK "__sub__" 389), (.ref 176)⟩, ⟨(zhK P "__static_attributes__"), (zsK "__static_attributes__" 392), (.ref 177)⟩, ⟨(zhK P "__dict__"), (zsK "__dict__" 394), (.ref 180)⟩, ⟨(zhK P "__weakref__"), (zsK "__weakref__" 396), (.ref 181)⟩, ⟨(zhK P "__doc__"), (zsK "__doc__" 397), .none⟩, ⟨(zhK P "__hash__"), (zsK "__hash__" 398), .none⟩] 5), #[]⟩
def C179 : Obj := ⟨(.type "type"), none, (.cls ⟨(zo "Wrap"), [(.type "object")], [(.ref 179), (.type "object")], 178, (zo "Wrap"), true, [], [], false, none, false⟩), #[none, none, (some (zsK "Wrap" 306)), (some (zsK "Wrap" 314)), (some (.builtin "object.__new__")), (some (.bool true))]⟩
def C180 : Obj := ⟨(.type "getset_descriptor"), none, (.fields #[(zsK "__dict__" 393), (.ref 179), (.builtin "function.__dict__"), (.builtin "function.__dict__#set")]), #[]⟩
def C181 : Obj := ⟨(.type "getset_descriptor"), none, (.fields #[(zsK "__weakref__" 395), (.ref 179), (.builtin "ExceptionGroup.__weakref__"), .none]), #[]⟩
def C182 : Obj := ⟨(.type "super"), none, (.fields #[(.ref 179), (.ref 179), (.ref 179)]), #[]⟩
def C183 : Obj := ⟨(.type "builtin_function_or_method"), none, (.fields #[(.builtin "object.__init_subclass__"), (.ref 179)]), #[]⟩
def C184 : Obj := zt []
def C185 : Obj := zn []
def C186 : Obj := zt [(zsK "size" 404), (zsK "value" 405)]
def C187 : Obj := zt []
def C188 : Obj := ⟨.none, none, (.func ⟨(zo "all_wraps"), (zo "all_wraps"), (zA 14), (.stmts (zB 14)), (zS 14), 0, [], .none, .none, .none, .none, none, .none, .none, 0⟩), #[]⟩
def C189 : Obj := zc [(zsK "all_wraps" 401), (zsK "all_wraps" 402), (zsK "/claim/cut.py" 403), (zi 73), (zi 1), (zi 0), (zi 0), (zi 35), (.ref 184), (.bool true), (zi 181), (.ref 185), .none, (.ref 186), (.ref 187), (.ref 188), (zi 406), (zi 73), (zsK "/claim/cut.py" 407)]
def C190 : Obj := zf ⟨(zo "all_wraps"), (zo "all_wraps"), (zA 14), (.stmts (zB 14)), (zS 14), 3, [], .none, .none, .none, (zsK "epochrooms.wraps" 286), none, (.ref 189), .none, 0⟩
def C191 : Obj := zt []
def C192 : Obj := zn []
def C193 : Obj := zt []
def C194 : Obj := zt []
def C195 : Obj := ⟨.none, none, (.func ⟨(zo "_law_odd"), (zo "_law_odd"), (zA 16), (.stmts (zB 16)), (zS 16), 0, [], .none, .none, .none, .none, none, .none, .none, 0⟩), #[]⟩
def C196 : Obj := zc [(zsK "_law_odd" 411), (zsK "_law_odd" 412), (zsK "/claim/cut.py" 413), (zi 78), (zi 0), (zi 0), (zi 0), (zi 3), (.ref 191), (.bool true), (zi 181), (.ref 192), .none, (.ref 193), (.ref 194), (.ref 195), (zi 414), (zi 78), (zsK "/claim/cut.py" 415)]
def C197 : Obj := zf ⟨(zo "_law_odd"), (zo "_law_odd"), (zA 16), (.stmts (zB 16)), (zS 16), 3, [], .none, .none, .none, (zsK "law_epochrooms_k02_wraps_refused" 409), none, (.ref 196), .none, 0⟩
def C198 : Obj := zt []
def C199 : Obj := zn []
def C200 : Obj := zt [(zsK "_law_value" 420), (zsK "_law_size" 421), (zsK "e" 422)]
def C201 : Obj := zt []
def C202 : Obj := ⟨.none, none, (.func ⟨(zo "_law_made"), (zo "_law_made"), (zA 17), (.stmts (zB 17)), (zS 17), 0, [], .none, .none, .none, .none, none, .none, .none, 0⟩), #[]⟩
def C203 : Obj := zc [(zsK "_law_made" 417), (zsK "_law_made" 418), (zsK "/claim/cut.py" 419), (zi 80), (zi 2), (zi 0), (zi 0), (zi 3), (.ref 198), (.bool true), (zi 181), (.ref 199), .none, (.ref 200), (.ref 201), (.ref 202), (zi 423), (zi 80), (zsK "/claim/cut.py" 424)]
def C204 : Obj := zf ⟨(zo "_law_made"), (zo "_law_made"), (zA 17), (.stmts (zB 17)), (zS 17), 3, [], .none, .none, .none, (zsK "law_epochrooms_k02_wraps_refused" 409), none, (.ref 203), .none, 0⟩
def C205 : Obj := zt []
def C206 : Obj := zn []
def C207 : Obj := zt [(zsK "_law_wrap" 429), (zsK "_law_many" 430), (zsK "_law_way" 431), (zsK "e" 432)]
def C208 : Obj := zt []
def C209 : Obj := ⟨.none, none, (.func ⟨(zo "_law_moved"), (zo "_law_moved"), (zA 18), (.stmts (zB 18)), (zS 18), 0, [], .none, .none, .none, .none, none, .none, .none, 0⟩), #[]⟩
def C210 : Obj := zc [(zsK "_law_moved" 426), (zsK "_law_moved" 427), (zsK "/claim/cut.py" 428), (zi 87), (zi 3), (zi 0), (zi 0), (zi 3), (.ref 205), (.bool true), (zi 181), (.ref 206), .none, (.ref 207), (.ref 208), (.ref 209), (zi 433), (zi 87), (zsK "/claim/cut.py" 434)]
def C211 : Obj := zf ⟨(zo "_law_moved"), (zo "_law_moved"), (zA 18), (.stmts (zB 18)), (zS 18), 3, [], .none, .none, .none, (zsK "law_epochrooms_k02_wraps_refused" 409), none, (.ref 210), .none, 0⟩
def C212 : Obj := zt []
def C213 : Obj := zn []
def C214 : Obj := ⟨.none, none, (.func ⟨(zo "_law_first"), (zo "_law_first"), (zA 19), (.stmts (zB 19)), (zS 19), 0, [], .none, .none, .none, .none, none, .none, .none, 0⟩), #[]⟩
def C215 : Obj := zc [(zsK "_law_first" 436), (zsK "_law_first" 437), (zsK "/claim/cut.py" 438), (zi 99), (zi 1), (zi 0), (zi 0), (zi 3), (.ref 212), (.bool true), (zi 181), (.ref 213), .none, .none, .none, (.ref 214), (zi 439), (zi 99), (zsK "/claim/cut.py" 440)]
def C216 : Obj := zf ⟨(zo "_law_first"), (zo "_law_first"), (zA 19), (.stmts (zB 19)), (zS 19), 3, [], .none, .none, .none, (zsK "law_epochrooms_k02_wraps_refused" 409), none, (.ref 215), .none, 0⟩
def C217 : Obj := zt []
def C218 : Obj := zn []
def C219 : Obj := zt [(zsK "_law_script" 445), (zsK "_law_odd_here" 446), (zsK "_law_size" 447), (zsK "_law_wrap" 448), (zsK "_law_before" 449), (zsK "_law_way" 450)]
def C220 : Obj := zt []
def C221 : Obj := ⟨.none, none, (.func ⟨(zo "law"), (zo "law"), (zA 20), (.stmts (zB 20)), (zS 20), 0, [], .none, .none, .none, .none, none, .none, .none, 0⟩), #[]⟩
def C222 : Obj := zc [(zsK "law" 442), (zsK "law" 443), (zsK "/claim/cut.py" 444), (zi 104), (zi 1), (zi 0), (zi 0), (zi 3), (.ref 217), (.bool true), (zi 181), (.ref 218), .none, (.ref 219), (.ref 220), (.ref 221), (zi 451), (zi 104), (zsK "/claim/cut.py" 452)]
def C223 : Obj := zf ⟨(zo "law"), (zo "law"), (zA 20), (.stmts (zB 20)), (zS 20), 3, [], .none, .none, .none, (zsK "law_epochrooms_k02_wraps_refused" 409), none, (.ref 222), .none, 0⟩
noncomputable def zTA (P : Params) : BT := (N (boot_o_0 P) (N (boot_o_1 P) (N (boot_o_3 P) (N (boot_o_7 P) Z Z) (N B11 Z Z)) (N (boot_o_5 P) (N (boot_o_9 P) Z Z) (N B13 Z Z))) (N (boot_o_2 P) (N (boot_o_4 P) (N (boot_o_8 P) Z Z) (N B12 Z Z)) (N (boot_o_6 P) (N (boot_o_10 P) Z Z) (N B14 Z Z))))
noncomputable def zStA (w : World) (os : OsState) : SharedT := ⟨zTA w.params, 15, ⟨[], [], [], 0, [], [], false, #[], [], 0, false, false, false, 0, [2000, 10, 10], false, 0, true, [], [], 0, false⟩, #[], ⟨0, 0, 0, 0⟩, 187, os⟩
noncomputable def zT20 (P : Params) : BT := (N (boot_o_0 P) (N (boot_o_1 P) (N (C3 P) (N (boot_o_7 P) (N C15 (N C31 (N C63 (N C127 Z Z) (N C191 Z Z)) (N C95 (N C159 Z Z) (N C223 Z Z))) (N C47 (N C79 (N C143 Z Z) (N C207 Z Z)) (N C111 (N C175 Z Z) Z))) (N C23 (N C39 (N C71 (N C135 Z Z) (N C199 Z Z)) (N C103 (N C167 Z Z) Z)) (N C55 (N C87 (N C151 Z Z) (N C215 Z Z)) (N C119 (N C183 Z Z) Z)))) (N B11 (N C19 (N C35 (N C67 (N C131 Z Z) (N C195 Z Z)) (N C99 (N C163 Z Z) Z)) (N C51 (N C83 (N C147 Z Z) (N C211 Z Z)) (N C115 (N C179 Z Z) Z))) (N C27 (N C43 (N C75 (N C139 Z Z) (N C203 Z Z)) (N (C107 P) (N C171 Z Z) Z)) (N C59 (N C91 (N C155 Z Z) (N C219 Z Z)) (N C123 (N C187 Z Z) Z))))) (N (boot_o_5 P) (N (boot_o_9 P) (N C17 (N C33 (N C65 (N C129 Z Z) (N C193 Z Z)) (N C97 (N C161 Z Z) Z)) (N C49 (N C81 (N C145 Z Z) (N C209 Z Z)) (N C113 (N C177 Z Z) Z))) (N C25 (N C41 (N (C73 P) (N C137 Z Z) (N C201 Z Z)) (N C105 (N C169 Z Z) Z)) (N C57 (N C89 (N C153 Z Z) (N C217 Z Z)) (N C121 (N C185 Z Z) Z)))) (N B13 (N C21 (N (C37 P) (N C69 (N C133 Z Z) (N C197 Z Z)) (N C101 (N C165 Z Z) Z)) (N C53 (N C85 (N C149 Z Z) (N C213 Z Z)) (N C117 (N C181 Z Z) Z))) (N C29 (N C45 (N C77 (N C141 Z Z) (N C205 Z Z)) (N C109 (N C173 Z Z) Z)) (N C61 (N C93 (N C157 Z Z) (N C221 Z Z)) (N C125 (N C189 Z Z) Z)))))) (N (boot_o_2 P) (N (boot_o_4 P) (N (boot_o_8 P) (N C16 (N C32 (N C64 (N C128 Z Z) (N C192 Z Z)) (N C96 (N C160 Z Z) Z)) (N C48 (N C80 (N C144 Z Z) (N C208 Z Z)) (N C112 (N C176 Z Z) Z))) (N (C24 P) (N C40 (N C72 (N C136 Z Z) (N C200 Z Z)) (N C104 (N C168 Z Z) Z)) (N C56 (N C88 (N C152 Z Z) (N C216 Z Z)) (N C120 (N C184 Z Z) Z)))) (N C12 (N C20 (N C36 (N C68 (N C132 Z Z) (N C196 Z Z)) (N C100 (N C164 Z Z) Z)) (N (C52 P) (N C84 (N C148 Z Z) (N C212 Z Z)) (N C116 (N C180 Z Z) Z))) (N C28 (N C44 (N C76 (N C140 Z Z) (N C204 Z Z)) (N C108 (N C172 Z Z) Z)) (N C60 (N C92 (N C156 Z Z) (N C220 Z Z)) (N C124 (N C188 Z Z) Z))))) (N (boot_o_6 P) (N (boot_o_10 P) (N C18 (N C34 (N C66 (N C130 Z Z) (N C194 Z Z)) (N C98 (N C162 Z Z) Z)) (N C50 (N C82 (N C146 Z Z) (N C210 Z Z)) (N C114 (N (C178 P) Z Z) Z))) (N C26 (N C42 (N C74 (N C138 Z Z) (N C202 Z Z)) (N C106 (N C170 Z Z) Z)) (N (C58 P) (N C90 (N C154 Z Z) (N C218 Z Z)) (N C122 (N C186 Z Z) Z)))) (N B14 (N C22 (N C38 (N C70 (N C134 Z Z) (N C198 Z Z)) (N C102 (N C166 Z Z) Z)) (N C54 (N C86 (N C150 Z Z) (N C214 Z Z)) (N C118 (N C182 Z Z) Z))) (N (C30 P) (N C46 (N C78 (N C142 Z Z) (N C206 Z Z)) (N C110 (N C174 Z Z) Z)) (N C62 (N C94 (N C158 Z Z) (N C222 Z Z)) (N C126 (N C190 Z Z) Z)))))))
noncomputable def zSt20 (w : World) (os : OsState) : SharedT := ⟨zT20 w.params, 224, ⟨[], [], [], 0, [], [], false, #[], [], 0, false, false, false, 0, [2000, 10, 10], false, 0, true, [], [], 0, false⟩, #[], ⟨0, 0, 0, 0⟩, 454, os⟩
def envT : Env := { scope := PP.main.scope, locals := mainNs, globals := mainNs, cells := [], code := (.ref 13), frame := some 14 }
def qT : Pos := ⟨0, 0, 0, 0⟩
def annT : Option Value := (some (.ref 6))
abbrev bodyT : List Stmt := behindTheImports PP
abbrev codeT : Code := .body bodyT envT
noncomputable def thT : Thread := ⟨denote treeTable codeT, codeT, ⟨0, 0, 0, 0⟩, [topFrame qT]⟩
noncomputable def thQ : Thread := ⟨denQ tabQ codeT, codeT, ⟨0, 0, 0, 0⟩, [topFrame qT]⟩
open ML
def lo0 : List Str := ["_wall", "RoomsError", "NoNumber", "NoSize", "is_number", "is_whole", "LEAST_SIZE", "MOST_SIZE", "look_at_size", "look_at_whole", "Wrap", "all_wraps", "_law_odd", "_law_made", "_law_moved", "_law_first"]
def loA : List Str := lo0
def adL : List Addr := [2, 3, 6, 4, 21, 31, 53, 74, 83, 90, 97, 104, 179, 190, 197, 204, 211, 216, 223, 0, 20, 30, 52, 73, 82, 89, 96, 103, 178, 189, 196, 203, 210, 215, 222, 15, 16, 17, 18, 19, 29, 32, 50, 51, 71, 72, 77, 78, 79, 80, 81, 84, 85, 86, 87, 88, 91, 92, 93, 94, 95, 98, 99, 100, 101, 102, 118, 126, 134, 141, 148, 155, 162, 169, 176, 177, 180, 181, 184, 185, 186, 187, 188, 191, 192, 193, 194, 195, 198, 199, 200, 201, 202, 205, 206, 207, 208, 209, 212, 213, 214, 217, 218, 219, 220, 221, 49, 38, 70, 59, 117, 125, 133, 140, 147, 154, 161, 168, 175, 44, 45, 46, 47, 48, 65, 66, 67, 68, 69, 112, 113, 114, 115, 116, 124, 132, 135, 136, 137, 138, 139, 142, 143, 144, 145, 146, 149, 150, 151, 152, 153, 156, 157, 158, 159, 160, 163, 164, 165, 166, 167, 170, 171, 172, 173, 174, 119, 120, 121, 122, 123, 127, 128, 129, 130, 131]
abbrev hk : Hook := hookL adL spec
def ob (s : SharedT) : AlM := obsLG adL spec (getT s)
theorem ob_eq (s : SharedT) : ob s = hk.obs s.abs := obsLG_eq (getT_eq s)
abbrev qV : Program := view PP [20]
theorem look1 (w : World) (os : OsState) : looksF PP (boot_heap w.params) (zSt20 w os).abs = true := by kernel_rfl
theorem look2 (w : World) (os : OsState) : seenQ qV loA (importedModules PP.main.body) (fun s => xlAt qV [] s && recOk Rr.toRowW.records s) (zSt20 w os).abs = openGood qV loA := by kernel_rfl
theorem look3a (w : World) (os : OsState) : ob (zSt20 w os) = hk.val w := by kernel_rfl
theorem th_eq : thQ = thT := by
  unfold thQ thT
  rw [← denQ_eq, ← tabQ_eq]
theorem preQ (w : World) (os : OsState) : preF (stepQ (denQ tabQ) PP w) 11 annT 12 PP w os = some (zStA w os, thQ) := by kernel_rfl
theorem preT (w : World) (os : OsState) : preF (stepQ (denQ tabQ) PP w) 11 annT 12 PP w os = some (zStA w os, thT) := by
  rw [← th_eq]
  exact preQ w os
theorem sizeT (w : World) : (boot_heap w.params).objs.size = 11 := by kernel_rfl
theorem annT_ok (w : World) : bootAnn w = annT := by kernel_rfl
theorem blockT (w : World) (os : OsState) : segRun treeTable PP w 11 annT 1 1 (zStA w os).abs (blockOf bodyT envT codeT ⟨0, 0, 0, 0⟩ [topFrame qT]) = some (.next, (zStA w os).abs, codeT, ⟨0, 0, 0, 0⟩) := by kernel_rfl
theorem seg20 (w : World) : ∀ os : OsState, segF (stepQ (denQ tabQ) PP (w)) 11 annT 1 1690 (zStA (w) os) (piecesOf (sub bodyT 0 21) envT codeT ⟨0, 0, 0, 0⟩ [topFrame qT]) = some (.next, zSt20 (w) os, codeT, ⟨104, 0, 117, 123⟩) := by
  intro os
  kernel_rfl
theorem finT (w : World) (os : OsState) : goF (stepQ (denQ tabQ) PP w) 11 annT 2 (zSt20 w os) (restOf [] envT codeT ⟨104, 0, 117, 123⟩ [topFrame qT]) = some (zSt20 w os) := by kernel_rfl
theorem bodyT_eq : bodyT = (sub bodyT 0 21 ++ []) := by kernel_rfl
theorem restT (w : World) (os : OsState) : topRun treeTable PP w 11 annT (1 + (1690 + (2))) (zStA w os).abs thT = some (zSt20 w os).abs := by
  have z : topRun treeTable PP w 11 annT (1690 + (2)) (zStA w os).abs (restOf (sub bodyT 0 21 ++ []) envT codeT ⟨0, 0, 0, 0⟩ [topFrame qT]) = some (zSt20 w os).abs := piece_app (seg_ok (seg20 w os)) (fin_ok (finT w os))
  rw [← bodyT_eq] at z
  exact piece_block (blockT w os) z
end Lw
end
section
set_option maxHeartbeats 400000
namespace ML
open PySem L2
mutual
def flatV : VI → Bool
  | .ref _ => false
  | .tup xs => flatVs xs
  | _ => true
def flatVs : List VI → Bool
  | [] => true
  | x :: xs => flatV x && flatVs xs
end
def flatF : List (S × VI) → Bool
  | [] => true
  | (_, v) :: r => flatV v && flatF r
def flatK : List (VI × VI) → Bool
  | [] => true
  | (k, v) :: r => flatV k && (flatV v && flatK r)
def flatO : OI → Bool
  | .lst xs => flatVs xs
  | .scr xs => flatVs xs
  | .dic kvs => flatK kvs
  | .ins _ fs => flatF fs
  | .xd fs => flatF fs
section
variable {r : List Nat}
mutual
theorem RV2.flat : ∀ {v w : VI}, RV2 r v w → flatV v = true → w = v
  | _, _, .non, _ => rfl
  | _, _, .bl _, _ => rfl
  | _, _, .int _, _ => rfl
  | _, _, .str _, _ => rfl
  | _, _, .glo _, _ => rfl
  | _, _, .ref _, e => by simp [flatV] at e
  | _, _, .tup t, e => by rw [RVs2.flat t (by simpa [flatV] using e)]
theorem RVs2.flat : ∀ {v w : List VI}, RVs2 r v w → flatVs v = true → w = v
  | _, _, .nil, _ => rfl
  | _, _, .cons a t, e => by
    simp only [flatVs, Bool.and_eq_true] at e
    rw [RV2.flat a e.1, RVs2.flat t e.2]
end
mutual
theorem RV2.self : ∀ (v : VI), flatV v = true → RV2 r v v
  | .non, _ => .non
  | .bl b, _ => .bl b
  | .int b, _ => .int b
  | .str b, _ => .str b
  | .glo b, _ => .glo b
  | .ref n, e => by simp [flatV] at e
  | .tup xs, e => .tup (RVs2.self xs (by simpa [flatV] using e))
theorem RVs2.self : ∀ (v : List VI), flatVs v = true → RVs2 r v v
  | [], _ => .nil
  | x :: xs, e => by
    simp only [flatVs, Bool.and_eq_true] at e
    exact .cons (RV2.self x e.1) (RVs2.self xs e.2)
end
theorem RFs2.flat : ∀ {v w : List (S × VI)}, RFs2 r v w → flatF v = true → w = v
  | _, _, .nil, _ => rfl
  | _, _, .cons a t, e => by
    simp only [flatF, Bool.and_eq_true] at e
    rw [a.flat e.1, RFs2.flat t e.2]
theorem RKs2.flat : ∀ {v w : List (VI × VI)}, RKs2 r v w → flatK v = true → w = v
  | _, _, .nil, _ => rfl
  | _, _, .cons a b t, e => by
    simp only [flatK, Bool.and_eq_true] at e
    rw [a.flat e.1, b.flat e.2.1, RKs2.flat t e.2.2]
theorem RFs2.self : ∀ (v : List (S × VI)), flatF v = true → RFs2 r v v
  | [], _ => .nil
  | (f, x) :: xs, e => by
    simp only [flatF, Bool.and_eq_true] at e
    exact .cons (RV2.self x e.1) (RFs2.self xs e.2)
theorem RKs2.self : ∀ (v : List (VI × VI)), flatK v = true → RKs2 r v v
  | [], _ => .nil
  | (f, x) :: xs, e => by
    simp only [flatK, Bool.and_eq_true] at e
    exact .cons (RV2.self f e.1) (RV2.self x e.2.1) (RKs2.self xs e.2.2)
theorem RO2.flat {o o' : OI} (k : RO2 r o o') (e : flatO o = true) : o' = o := by
  cases k with
  | lst t => rw [t.flat e]
  | scr t => rw [t.flat e]
  | dic t => rw [t.flat e]
  | ins t => rw [t.flat e]
  | xd t => rw [t.flat e]
theorem RO2.self (o : OI) (e : flatO o = true) : RO2 r o o := by
  cases o with
  | lst t => exact .lst (.self _ e)
  | scr t => exact .scr (.self _ e)
  | dic t => exact .dic (.self _ e)
  | ins c t => exact .ins (.self _ e)
  | xd t => exact .xd (.self _ e)
end
theorem Ag2.of {r : List Nat} {s h : Hi} (nd : r.Nodup) (len : r.length = s.length) (k : ∀ (n : Nat) (o : OI), s[n]? = some o → ∃ (m : Nat) (o' : OI), r[n]? = some m ∧ h[m]? = some o' ∧ RO2 r o o') : Ag2 r s h := ⟨nd, len, k⟩
theorem Ag2.one {p : Nat} {o o' : OI} {h : Hi} (e : h[p]? = some o') (k : RO2 [p] o o') : Ag2 [p] [o] h := ⟨by simp, rfl, fun n u q => by
  cases n with
  | zero => cases q; exact ⟨p, o', rfl, e, k⟩
  | succ n => simp at q⟩
theorem Ag2.two {p p2 : Nat} {o o' u u' : OI} {h : Hi} (ne : p ≠ p2) (e : h[p]? = some o') (k : RO2 [p, p2] o o') (e2 : h[p2]? = some u') (k2 : RO2 [p, p2] u u') : Ag2 [p, p2] [o, u] h := ⟨by simp [ne], rfl, fun n w q => by
  match n with
  | 0 => cases q; exact ⟨p, o', rfl, e, k⟩
  | 1 => cases q; exact ⟨p2, u', rfl, e2, k2⟩
  | n + 2 => simp at q⟩
structure Fr (ps : List Nat) (h h' : Hi) : Prop where
  len : h.length ≤ h'.length
  at_ : ∀ (m : Nat) (o : OI), m ∉ ps → h[m]? = some o → h'[m]? = some o
theorem Fr.refl {ps : List Nat} {h : Hi} : Fr ps h h := ⟨Nat.le_refl _, fun _ _ _ e => e⟩
theorem Fr.trans {ps : List Nat} {h h1 h2 : Hi} (a : Fr ps h h1) (b : Fr ps h1 h2) : Fr ps h h2 := ⟨Nat.le_trans a.len b.len, fun m o n e => b.at_ m o n (a.at_ m o n e)⟩
theorem Fr.weak {ps qs : List Nat} {h h1 : Hi} (a : Fr ps h h1) (k : ∀ m ∈ ps, m ∈ qs) : Fr qs h h1 := ⟨a.len, fun m o n e => a.at_ m o (fun z => n (k m z)) e⟩
theorem Ex2.fresh {r r' : List Nat} {h h' : Hi} (e : Ex2 r h r' h') {n m : Nat} (q : r'[n]? = some m) (l : r.length ≤ n) : h.length ≤ m := by
  obtain ⟨z, rfl, k⟩ := e.more
  rw [List.getElem?_append_right l] at q
  exact k m (List.mem_of_getElem? q)
end ML
end
section
set_option maxHeartbeats 400000
namespace ML
open PySem L2
section
variable {α β : Type} {σ σ1 : Sg} {h h1 : Hi}
@[simp] theorem x_bind (a : α) (f : α → Hi → Res β) : Res.bind (.ok a h) f = f a h := rfl
@[simp] theorem x_bindS (a : α) (f : α → Hi → RS) : Res.bindS (.ok a h) σ f = f a h := rfl
@[simp] theorem x_nx (f : MS) : RS.andThen (.nx σ h) f = f σ h := rfl
@[simp] theorem x_rt (v : VI) (f : MS) : RS.andThen (.rt v h) f = .rt v h := rfl
@[simp] theorem x_endN : endB (.nx σ h) = .ok .non h := rfl
@[simp] theorem x_endR (v : VI) : endB (.rt v h) = .ok v h := rfl
@[simp] theorem x_eV (i : Nat) : eV i σ h = match σ[i]? with
  | some (some v) => .ok v h
  | _ => .err := rfl
@[simp] theorem x_eC (v : VI) : eC v σ h = .ok v h := rfl
@[simp] theorem x_aNil : aNil σ h = .ok [] h := rfl
@[simp] theorem x_aCons (a : ME) (r : MA) : aCons a r σ h = (a σ h).bind fun x h1 => (r σ h1).bind fun xs h2 => .ok (x :: xs) h2 := rfl
@[simp] theorem x_eBin (f : Op2) (a b : ME) : eBin f a b σ h = (a σ h).bind fun x h1 => (b σ h1).bind fun y h2 => ofO (f x y h2) := rfl
@[simp] theorem x_ofO (v : α) : ofO (some (v, h)) = .ok v h := rfl
@[simp] theorem x_tOf (e : ME) : tOf e σ h = (e σ h).bind fun v h1 => match v with
  | .bl b => .ok b h1
  | _ => .err := rfl
@[simp] theorem x_tAnd (a b : MT) : tAndM a b σ h = (a σ h).bind fun c h1 => match c with
  | true => b σ h1
  | false => .ok false h1 := rfl
@[simp] theorem x_tOr (a b : MT) : tOrM a b σ h = (a σ h).bind fun c h1 => match c with
  | true => .ok true h1
  | false => b σ h1 := rfl
@[simp] theorem x_tNot (a : MT) : tNotM a σ h = (a σ h).bind fun c h1 => .ok (!c) h1 := rfl
@[simp] theorem x_eIf (t : MT) (a b : ME) : eIf t a b σ h = (t σ h).bind fun c h1 => match c with
  | true => a σ h1
  | false => b σ h1 := rfl
@[simp] theorem x_sNx : sNx σ h = .nx σ h := rfl
@[simp] theorem x_sSeq (a b : MS) : sSeq a b σ h = (a σ h).andThen b := rfl
@[simp] theorem x_sRet (e : ME) : sRet e σ h = (e σ h).bindS σ fun v h1 => .rt v h1 := rfl
@[simp] theorem x_sDrop (e : ME) : sDrop e σ h = (e σ h).bindS σ fun _ h1 => .nx σ h1 := rfl
@[simp] theorem x_sIf (t : MT) (a b : MS) : sIf t a b σ h = (t σ h).bindS σ fun c h1 => match c with
  | true => a σ h1
  | false => b σ h1 := rfl
@[simp] theorem x_gNm (i : Nat) (v : VI) : gNm i v σ h = .nx (σ.set i (some v)) h := rfl
@[simp] theorem x_sAsg (e : ME) (g : MG) : sAsg e g σ h = (e σ h).bindS σ fun v h1 => g v σ h1 := rfl
@[simp] theorem x_eCall (g : MF) (ma : MA) : eCall g ma σ h = (ma σ h).bind fun vs h1 => g vs h1 := rfl
@[simp] theorem x_eCB (f : OpC) (ma : MA) : eCB f ma σ h = (ma σ h).bind fun vs h1 => ofO (f vs h1) := rfl
@[simp] theorem x_sFor (mi : MI) (g : MG) (b : MS) : sFor mi g b σ h = (mi σ h).bindS σ fun it h1 => turns it g b (it.fuel h1) 0 σ h1 := rfl
@[simp] theorem x_iSeq (e : ME) : iSeq e σ h = (e σ h).bind fun v h1 => ofI (seqOf v h1) h1 := rfl
@[simp] theorem x_iRng (a : MA) : iRng a σ h = (a σ h).bind fun vs h1 => ofI (rngOf vs) h1 := rfl
@[simp] theorem x_ofI (it : Itm) : ofI (some it) h = .ok it h := rfl
@[simp] theorem x_dropV (v : VI) : dropV σ (.ok v h) = .nx σ h := rfl
@[simp] theorem x_nxO : nxO σ (some h) = .nx σ h := rfl
@[simp] theorem x_okM (v : VI) : okM (.ok v h) = .ok v h := rfl
end
@[simp] theorem x_run0 (n : Nat) (b : MS) (h : Hi) : runB 0 n b [] h = endB (b (List.replicate n none) h) := rfl
@[simp] theorem x_run1 (n : Nat) (b : MS) (a0 : VI) (h : Hi) : runB 1 n b [a0] h = endB (b (some a0 :: List.replicate n none) h) := rfl
@[simp] theorem x_run2 (n : Nat) (b : MS) (a0 a1 : VI) (h : Hi) : runB 2 n b [a0, a1] h = endB (b (some a0 :: some a1 :: List.replicate n none) h) := rfl
@[simp] theorem x_run3 (n : Nat) (b : MS) (a0 a1 a2 : VI) (h : Hi) : runB 3 n b [a0, a1, a2] h = endB (b (some a0 :: some a1 :: some a2 :: List.replicate n none) h) := rfl
@[simp] theorem x_run4 (n : Nat) (b : MS) (a0 a1 a2 a3 : VI) (h : Hi) : runB 4 n b [a0, a1, a2, a3] h = endB (b (some a0 :: some a1 :: some a2 :: some a3 :: List.replicate n none) h) := rfl
@[simp] theorem x_run5 (n : Nat) (b : MS) (a0 a1 a2 a3 a4 : VI) (h : Hi) : runB 5 n b [a0, a1, a2, a3, a4] h = endB (b (some a0 :: some a1 :: some a2 :: some a3 :: some a4 :: List.replicate n none) h) := rfl
@[simp] theorem x_run6 (n : Nat) (b : MS) (a0 a1 a2 a3 a4 a5 : VI) (h : Hi) : runB 6 n b [a0, a1, a2, a3, a4, a5] h = endB (b (some a0 :: some a1 :: some a2 :: some a3 :: some a4 :: some a5 :: List.replicate n none) h) := rfl
@[simp] theorem x_run7 (n : Nat) (b : MS) (a0 a1 a2 a3 a4 a5 a6 : VI) (h : Hi) : runB 7 n b [a0, a1, a2, a3, a4, a5, a6] h = endB (b (some a0 :: some a1 :: some a2 :: some a3 :: some a4 :: some a5 :: some a6 :: List.replicate n none) h) := rfl
@[simp] theorem x_run8 (n : Nat) (b : MS) (a0 a1 a2 a3 a4 a5 a6 a7 : VI) (h : Hi) : runB 8 n b [a0, a1, a2, a3, a4, a5, a6, a7] h = endB (b (some a0 :: some a1 :: some a2 :: some a3 :: some a4 :: some a5 :: some a6 :: some a7 :: List.replicate n none) h) := rfl
@[simp] theorem x_run9 (n : Nat) (b : MS) (a0 a1 a2 a3 a4 a5 a6 a7 a8 : VI) (h : Hi) : runB 9 n b [a0, a1, a2, a3, a4, a5, a6, a7, a8] h = endB (b (some a0 :: some a1 :: some a2 :: some a3 :: some a4 :: some a5 :: some a6 :: some a7 :: some a8 :: List.replicate n none) h) := rfl
@[simp] theorem x_rep0 : (List.replicate 0 none : Sg) = [] := rfl
@[simp] theorem x_rep1 : (List.replicate 1 none : Sg) = [none] := rfl
@[simp] theorem x_rep2 : (List.replicate 2 none : Sg) = [none, none] := rfl
@[simp] theorem x_rep3 : (List.replicate 3 none : Sg) = [none, none, none] := rfl
@[simp] theorem x_rep4 : (List.replicate 4 none : Sg) = [none, none, none, none] := rfl
@[simp] theorem x_rep5 : (List.replicate 5 none : Sg) = [none, none, none, none, none] := rfl
end ML
end
section
set_option maxHeartbeats 400000
namespace ML
open PySem L2
section
variable {r : List Nat}
mutual
theorem RV2.fn : ∀ {v x y : VI}, RV2 r v x → RV2 r v y → y = x
  | _, _, _, .non, .non => rfl
  | _, _, _, .bl _, .bl _ => rfl
  | _, _, _, .int _, .int _ => rfl
  | _, _, _, .str _, .str _ => rfl
  | _, _, _, .glo _, .glo _ => rfl
  | _, _, _, .ref e, .ref e' => by rw [e] at e'; cases e'; rfl
  | _, _, _, .tup t, .tup t' => by rw [RVs2.fn t t']
theorem RVs2.fn : ∀ {v x y : List VI}, RVs2 r v x → RVs2 r v y → y = x
  | _, _, _, .nil, .nil => rfl
  | _, _, _, .cons a t, .cons a' t' => by rw [RV2.fn a a', RVs2.fn t t']
end
theorem RFs2.fn : ∀ {v x y : List (S × VI)}, RFs2 r v x → RFs2 r v y → y = x
  | _, _, _, .nil, .nil => rfl
  | _, _, _, .cons a t, .cons a' t' => by rw [RV2.fn a a', RFs2.fn t t']
theorem RKs2.fn : ∀ {v x y : List (VI × VI)}, RKs2 r v x → RKs2 r v y → y = x
  | _, _, _, .nil, .nil => rfl
  | _, _, _, .cons k a t, .cons k' a' t' => by rw [RV2.fn k k', RV2.fn a a', RKs2.fn t t']
theorem RO2.fn {o x y : OI} (a : RO2 r o x) (b : RO2 r o y) : y = x := by
  cases a with
  | lst t => cases b with | lst t' => rw [t.fn t']
  | scr t => cases b with | scr t' => rw [t.fn t']
  | dic t => cases b with | dic t' => rw [t.fn t']
  | ins t => cases b with | ins t' => rw [t.fn t']
  | xd t => cases b with | xd t' => rw [t.fn t']
end
end ML
end
section
namespace Lw
open PySem L2 ML
def hpAt : Res VI → Hi
  | .ok _ h => h
  | _ => []
theorem pure_law (ns : List Int) (hl : ns.length ≤ 63) : ∃ h', f_law [.ref 0] [.scr (ns.map VI.int)] = .ok (.bl true) h' := ⟨hpAt (f_law [.ref 0] [.scr (ns.map VI.int)]), by kernel_rfl⟩
end Lw
end
set_option maxHeartbeats 0
namespace Lw
open PySem PySem.Spec PyProof.Rows PySem.W L2 He ML MHP HandSHeadRun
theorem leftT : LeftO PP qV loA (fun s => xlAt qV [] s && recOk Rr.toRowW.records s) hk.obs hk.val 2404 true :=
  left_pc (A := zStA) (Z := zSt20) (th := thT) (k0 := 12) (M1 := 1 + (1690 + (2))) (by kernel_rfl) (by decide +kernel) (fun s => by kernel_rfl) (by decide +kernel) sizeT annT_ok preT restT look1 look2 fun w os => by rw [← ob_eq]; exact look3a w os
theorem facts {w : World} {K : PySem.W.Frag} {h : Heap} {mg : Str → Option Value} {f : Addr} (X : K.In h) (Gn : h.Ns mainGlobals mg) (hfa : mg ("law" : Str) = some (.ref f)) (c : SaysM spec w K) :
    ∃ fd : FuncData, (∀ (s : Shared) (v : Value), BindsTo s fd ⟨[v], []⟩ [("_law_script", v)]) ∧ ∀ base : Heap, K.In base → base.Ns mainGlobals mg → FnOkG P w K mg base 20 f fd ["_law_script"] (spM (GxOf K mg nm) 1 f_law) := by
  have E : Ev spec w K mg := ⟨c, h, X, Gn⟩
  have e := hfa.symm.trans (glo_ok X Gn (c.ex 48 (f := fun K => (Fa.glo "law").ok K) rfl))
  cases e
  have b := FunD.bindsA (ps := ["_law_script"]) (c.def_ 17 (d := gd_law) rfl) fun _ _ _ _ _ _ us hl => match us, hl with | [_], _ => rfl
  exact ⟨_, fun s v => b s [v] rfl, fun base _ _ => (ok_law (base := base) E).ok⟩
end Lw
open PySem PySem.W PySem.Calls PyProof.Rows
theorem PySem.Challenge.cw_epochrooms_k02_wraps_refused_holds : PySem.Challenge.rw_epochrooms_k02_wraps_refused.Holds := by
  refine Lw.pre_row fun said => ?_
  refine MHP.head_left (r := OpenLaw.row PySem.Challenge.rw_epochrooms_k02_wraps_refused) (q := view (OpenLaw.row PySem.Challenge.rw_epochrooms_k02_wraps_refused).prog [20]) (H := Lw.hk) (loose := Lw.loA) (d := HandSHeadRun.topDef (OpenLaw.row PySem.Challenge.rw_epochrooms_k02_wraps_refused).prog 20) (kwd := []) Lw.leftT
    (by kernel_rfl) (by kernel_rfl) (by kernel_rfl) (by rfl) (by first | assumption | decide +kernel) (by decide +kernel) ⟨rfl, rfl, rfl, rfl, rfl, by decide +kernel⟩ ?hw ?hc
  case hw => w_witness2
  case hc =>
    refine ML.walk_ofG (l := PySem.Challenge.rw_epochrooms_k02_wraps_refused) (n := 63) (k := 20) (x := "_law_script") rfl (by decide) (by kernel_rfl) ⟨rfl, by decide, by decide⟩ ?F
    intro w mg fa h Y G hmg0
    obtain ⟨K, KX, c⟩ := Y
    have hmg : mg ("law" : PySem.Str) = some (.ref fa) := by
      have e : (HandSHeadRun.topDef (OpenLaw.row PySem.Challenge.rw_epochrooms_k02_wraps_refused).prog 20).name = ("law" : PySem.Str) := by kernel_rfl
      rw [← e]
      exact hmg0
    obtain ⟨fd, hb, hF⟩ := Lw.facts (w := w) KX G hmg c
    exact ⟨K, fd, _, KX, hb, fun H a ns hl hO hS => by
      obtain ⟨h', e⟩ := Lw.pure_law ns hl
      exact ML.law_sp (c.ex 49 (f := ML.noLstB) rfl) hO hS e, hF⟩
