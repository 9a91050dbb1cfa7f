import PyProof.Rows.All
import Wide.All
import OpenK.AllK
import Wide.FinOn
import HandS.SortKw
import KE.KSortKeyAny
import PyProof.TupleOfSeq
import HandS.HeadNt
import HandS.ClsMeth
import HandS.DictEq
import HandS.Base
import HandS.Call
import HandS.List
import HandS.Comp
import HandS.Ends
import HandS.Dict
import HandS.More
import HandS.Conv
import HandS.Small
import HandS.Deep
import HandS.TupAny
import HandS.IsInst
import HandS.Iter
import HandS.WordsDict
import KE.KStateDown
import HandS.Exc
import HandS.ExcOwn
import HandS.Property
import HandS.Nested
import HandS.Words
import HandS.Defaults
import HandS.Head0
import HandS.Head1
import HandS.Head2
import HandS.HeadEnd
import HandS.Style
import HandS.HeadHook1
import HandS.HeadHook2
import HandS.HeadHook3
import PyProof.DictUpdate
import KE.KDictCopyH
import HandS.TupMul
import KE.KDictKeyed
import HandS.ExcCtx
import HandS.ExcInit
import KE.KSuper
import KE.KSuperObj
import KE.KOpsOwn
import HandS.MakeKw
import HandS.MakeKwOnly
import KE.KMinBuiltin
import PyProof.WalkInts
import PyProof.WalksMore
import KE.KExcIs
import HandS.SuiteRaise
import HandS.ExcIs
import HandS.ExcField
import HandS.TryMany
import KE.KExcSuper
import KE.KCallOwn
import HandS.Star
import HandS.TryOnly
import HandS.RaiseMore
import PyProof.ReprRoads
import KE.GoesMore
import HandS.GenList
import HandS.GenCall
import HandS.MethStar
import HandS.OwnEq
import PyProof.EqKinds
import KE.KWithOwn
import HandS.DictComp
import KE.KDictDisplayH
import HandS.Flow
import KE.KParD
import HandS.NestedHot
import HandS.ExcInitHot
import HandS.RaiseFrom
import HandS.Zip
import KE.DataFind
import HandS.Strs
import PySem.Challenge.RW_epochrooms_k80_errors_by_hand
section
open PySem PySem.W PySem.Calls PyProof.Rows
set_option maxHeartbeats 0
theorem Lw.pre_row (x : (OpenLaw.row PySem.Challenge.rw_epochrooms_k80_errors_by_hand).wellSaid = true → (OpenLaw.row PySem.Challenge.rw_epochrooms_k80_errors_by_hand).Holds) : PySem.Challenge.rw_epochrooms_k80_errors_by_hand.Holds := by
  w_on; o_law
  exact x (by assumption)
end
set_option Elab.async false
set_option linter.all false
set_option maxRecDepth 100000
set_option maxHeartbeats 4000000
section
namespace MB
open PySem
section
variable {prog : Program} {w : World} {K : Type} [DecidableEq K] {kk : KeyKind prog w K} {A : Around} {E : Value → Shared → Prop} {s : Shared}
end
end MB
end
section
namespace ML
open PySem L2
abbrev S := List Nat
def toStr (s : S) : Str := ⟨s.toArray⟩
theorem toStr_inj {a b : S} (h : toStr a = toStr b) : a = b := by
  unfold toStr at h
  injection h with h
  have := congrArg Array.toList h
  simpa using this
inductive VI where
  | non | bl (b : Bool) | int (i : Int) | str (s : S) | glo (g : S) | ref (n : Nat) | tup (xs : List VI)
inductive OI where
  | lst (xs : List VI) | dic (kvs : List (VI × VI)) | ins (c : Nat) (fs : List (S × VI)) | xd (fs : List (S × VI)) | scr (xs : List VI)
  | dnk (kvs : List (VI × VI)) | dcl (kvs : List (VI × VI)) | dnl (kvs : List (VI × VI)) | exo (c n : Nat)
abbrev Hi := List OI
inductive Res (α : Type) where
  | ok (a : α) (h : Hi) | ex (c n : Nat) (h : Hi) | err
structure Gx where
  w : World
  K : PySem.W.Frag
  mg : Str → Option Value
  ct : Nat → Option Addr
mutual
inductive RV (G : Gx) (ρ : List Addr) (H : Hp) : VI → V → Prop
  | non : RV G ρ H .non .non
  | bl (b : Bool) : RV G ρ H (.bl b) (.bl b)
  | int (i : Int) : RV G ρ H (.int i) (.int i)
  | str {s : S} {x : Str} (e : x = toStr s) : RV G ρ H (.str s) (.str x)
  | glo {g : S} {a : Addr} (e : G.mg (toStr g) = some (.ref a)) : RV G ρ H (.glo g) (.ref a)
  | ref {n : Nat} {a : Addr} (e : ρ[n]? = some a) : RV G ρ H (.ref n) (.ref a)
  | tup {xs : List VI} {ys : List V} {a : Addr} (t : SqT G.K H a ys) (r : RVs G ρ H xs ys) : RV G ρ H (.tup xs) (.ref a)
inductive RVs (G : Gx) (ρ : List Addr) (H : Hp) : List VI → List V → Prop
  | nil : RVs G ρ H [] []
  | cons {v : VI} {x : V} {vs : List VI} {xs : List V} (h : RV G ρ H v x) (t : RVs G ρ H vs xs) : RVs G ρ H (v :: vs) (x :: xs)
end
structure Stp0 (G : Gx) (ρ : List Addr) (H : Hp) (ρ' : List Addr) (H' : Hp) : Prop where
  pre : ∀ (n : Nat) (a : Addr), ρ[n]? = some a → ρ'[n]? = some a
  tup : ∀ a xs, SqT G.K H a xs → SqT G.K H' a xs
structure Stp (G : Gx) (ρ : List Addr) (H : Hp) (ρ' : List Addr) (H' : Hp) : Prop extends Stp0 G ρ H ρ' H' where
  frz : ∀ a o u, H a = some (.frz o u) → H' a = some (.frz o u)
theorem Stp.refl {G : Gx} {ρ : List Addr} {H : Hp} : Stp G ρ H ρ H := ⟨⟨fun _ _ h => h, fun _ _ h => h⟩, fun _ _ _ h => h⟩
theorem Stp.trans {G : Gx} {ρ ρ1 ρ2 : List Addr} {H H1 H2 : Hp} (a : Stp G ρ H ρ1 H1) (b : Stp G ρ1 H1 ρ2 H2) : Stp G ρ H ρ2 H2 :=
  ⟨⟨fun n x h => b.pre n x (a.pre n x h), fun x xs h => b.tup x xs (a.tup x xs h)⟩, fun x o u h => b.frz x o u (a.frz x o u h)⟩
section
variable {G : Gx} {ρ ρ' : List Addr} {H H' : Hp}
mutual
theorem RV.mono0 (st : Stp0 G ρ H ρ' H') : ∀ {v : VI} {x : V}, RV G ρ H v x → RV G ρ' H' v x
  | _, _, .non => .non
  | _, _, .bl b => .bl b
  | _, _, .int i => .int i
  | _, _, .str e => .str e
  | _, _, .glo e => .glo e
  | _, _, .ref e => .ref (st.pre _ _ e)
  | _, _, .tup t r => .tup (st.tup _ _ t) (RVs.mono0 st r)
theorem RVs.mono0 (st : Stp0 G ρ H ρ' H') : ∀ {v : List VI} {x : List V}, RVs G ρ H v x → RVs G ρ' H' v x
  | _, _, .nil => .nil
  | _, _, .cons h t => .cons (RV.mono0 st h) (RVs.mono0 st t)
end
theorem RV.mono (st : Stp G ρ H ρ' H') {v : VI} {x : V} (r : RV G ρ H v x) : RV G ρ' H' v x := r.mono0 st.toStp0
theorem RVs.mono (st : Stp G ρ H ρ' H') {v : List VI} {x : List V} (r : RVs G ρ H v x) : RVs G ρ' H' v x := r.mono0 st.toStp0
theorem RVs.length : ∀ {v : List VI} {x : List V}, RVs G ρ H v x → v.length = x.length
  | _, _, .nil => rfl
  | _, _, .cons _ t => by rw [List.length_cons, List.length_cons, t.length]
theorem RVs.get : ∀ {v : List VI} {x : List V} {i : Nat} {a : VI}, RVs G ρ H v x → v[i]? = some a → ∃ b, x[i]? = some b ∧ RV G ρ H a b
  | _, _, _, _, .nil, e => by simp at e
  | _, _, 0, _, .cons h _, e => by simp at e; subst e; exact ⟨_, rfl, h⟩
  | _, _, i + 1, _, .cons _ t, e => by
    obtain ⟨b, h1, h2⟩ := RVs.get (i := i) t (by simpa using e)
    exact ⟨b, by simpa using h1, h2⟩
theorem RVs.append : ∀ {v w : List VI} {x y : List V}, RVs G ρ H v x → RVs G ρ H w y → RVs G ρ H (v ++ w) (x ++ y)
  | _, _, _, _, .nil, h => h
  | _, _, _, _, .cons h t, k => .cons h (RVs.append t k)
theorem RVs.set : ∀ {v : List VI} {x : List V} {a : VI} {b : V} (i : Nat), RVs G ρ H v x → RV G ρ H a b → RVs G ρ H (v.set i a) (x.set i b)
  | _, _, _, _, _, .nil, _ => .nil
  | _, _, _, _, 0, .cons _ t, r => .cons r t
  | _, _, _, _, i + 1, .cons h t, r => .cons h (RVs.set i t r)
theorem RVs.take : ∀ {v : List VI} {x : List V} (n : Nat), RVs G ρ H v x → RVs G ρ H (v.take n) (x.take n)
  | _, _, 0, _ => .nil
  | _, _, _ + 1, .nil => .nil
  | _, _, n + 1, .cons h t => .cons h (RVs.take n t)
theorem RVs.drop : ∀ {v : List VI} {x : List V} (n : Nat), RVs G ρ H v x → RVs G ρ H (v.drop n) (x.drop n)
  | _, _, 0, r => r
  | _, _, _ + 1, .nil => .nil
  | _, _, n + 1, .cons _ t => RVs.drop n t
end
inductive RFs (G : Gx) (ρ : List Addr) (H : Hp) : List (S × VI) → List (Str × V) → Prop
  | nil : RFs G ρ H [] []
  | cons {f : S} {g : Str} {v : VI} {x : V} {fs : List (S × VI)} {gs : List (Str × V)} (e : g = toStr f) (h : RV G ρ H v x) (t : RFs G ρ H fs gs) : RFs G ρ H ((f, v) :: fs) ((g, x) :: gs)
def RK : VI → Key → Prop
  | .int i, k => k = .inl i
  | .str s, k => k = .inr (toStr s)
  | _, _ => False
inductive RKs (G : Gx) (ρ : List Addr) (H : Hp) : List (VI × VI) → List (Key × V) → Prop
  | nil : RKs G ρ H [] []
  | cons {a : VI} {k : Key} {v : VI} {x : V} {as : List (VI × VI)} {ks : List (Key × V)} (e : RK a k) (h : RV G ρ H v x) (t : RKs G ρ H as ks) : RKs G ρ H ((a, v) :: as) ((k, x) :: ks)
section
variable {G : Gx} {ρ ρ' : List Addr} {H H' : Hp}
theorem RFs.mono0 (st : Stp0 G ρ H ρ' H') : ∀ {v : List (S × VI)} {x : List (Str × V)}, RFs G ρ H v x → RFs G ρ' H' v x
  | _, _, .nil => .nil
  | _, _, .cons e h t => .cons e (h.mono0 st) (RFs.mono0 st t)
theorem RKs.mono0 (st : Stp0 G ρ H ρ' H') : ∀ {v : List (VI × VI)} {x : List (Key × V)}, RKs G ρ H v x → RKs G ρ' H' v x
  | _, _, .nil => .nil
  | _, _, .cons e h t => .cons e (h.mono0 st) (RKs.mono0 st t)
theorem RFs.mono (st : Stp G ρ H ρ' H') {v : List (S × VI)} {x : List (Str × V)} (r : RFs G ρ H v x) : RFs G ρ' H' v x := r.mono0 st.toStp0
theorem RKs.mono (st : Stp G ρ H ρ' H') {v : List (VI × VI)} {x : List (Key × V)} (r : RKs G ρ H v x) : RKs G ρ' H' v x := r.mono0 st.toStp0
theorem RFs.length : ∀ {v : List (S × VI)} {x : List (Str × V)}, RFs G ρ H v x → v.length = x.length
  | _, _, .nil => rfl
  | _, _, .cons _ _ t => by rw [List.length_cons, List.length_cons, t.length]
theorem RKs.length : ∀ {v : List (VI × VI)} {x : List (Key × V)}, RKs G ρ H v x → v.length = x.length
  | _, _, .nil => rfl
  | _, _, .cons _ _ t => by rw [List.length_cons, List.length_cons, t.length]
end
def nksOf (f : VI → Option NestedKey) : List VI → Option (List NestedKey)
  | [] => some []
  | x :: xs => match f x with
    | some k => match nksOf f xs with
      | some ks => some (k :: ks)
      | none => none
    | none => none
def nkLf (v : VI) : Option NestedKey := match v with
  | .non => some .none
  | .bl b => some (.num (if b then 1 else 0))
  | .int i => some (.num i)
  | .str s => some (.text (toStr s))
  | _ => none
def nkOf : Nat → VI → Option NestedKey
  | 0, v => nkLf v
  | n + 1, v => match v with
    | .tup xs => (nksOf (nkOf n) xs).map .tup
    | w => nkLf w
def nkD (v : VI) : Option NestedKey := match v with
  | .tup xs => nkOf 8 (.tup xs)
  | _ => none
def NDt (w : World) (a : Addr) (xs : List (NestedKey × Addr × Value)) (h : Heap) : Prop :=
  xs.length ≤ sizeLine ∧ (a == sysModules) = false ∧ (∃ o es ep, h.get? a = some o ∧ o.ExactDict ∧ o.data = .dict es ep ∧ es.toList = xs.map fun x => ⟨x.1.hash w, .ref x.2.1, x.2.2⟩) ∧ (xs.map (·.1)).Nodup
inductive RNs (G : Gx) (ρ : List Addr) (H : Hp) : List (VI × VI) → List (NestedKey × Addr × Value) → Prop
  | nil : RNs G ρ H [] []
  | cons {k v : VI} {n : NestedKey} {b : Addr} {x : V} {u : Value} {as : List (VI × VI)} {xs : List (NestedKey × Addr × Value)} (e : nkD k = some n) (hk : RV G ρ H k (.ref b)) (h : RV G ρ H v x) (r : RelV x u) (t : RNs G ρ H as xs) : RNs G ρ H ((k, v) :: as) ((n, b, u) :: xs)
theorem RNs.mono0 {G : Gx} {ρ ρ' : List Addr} {H H' : Hp} (st : Stp0 G ρ H ρ' H') : ∀ {v : List (VI × VI)} {x : List (NestedKey × Addr × Value)}, RNs G ρ H v x → RNs G ρ' H' v x
  | _, _, .nil => .nil
  | _, _, .cons e hk h r t => .cons e (hk.mono0 st) (h.mono0 st) r (RNs.mono0 st t)
theorem RNs.mono {G : Gx} {ρ ρ' : List Addr} {H H' : Hp} (st : Stp G ρ H ρ' H') {v : List (VI × VI)} {x : List (NestedKey × Addr × Value)} (r : RNs G ρ H v x) : RNs G ρ' H' v x := r.mono0 st.toStp0
theorem RNs.length {G : Gx} {ρ : List Addr} {H : Hp} : ∀ {v : List (VI × VI)} {x : List (NestedKey × Addr × Value)}, RNs G ρ H v x → v.length = x.length
  | _, _, .nil => rfl
  | _, _, .cons _ _ _ _ t => by rw [List.length_cons, List.length_cons, t.length]
def OR (G : Gx) (ρ : List Addr) (H : Hp) (a : Addr) : OI → Prop
  | .lst xs => ∃ ys, H a = some (.lst ys) ∧ RVs G ρ H xs ys
  | .dic kvs => ∃ ks, H a = some (.dK ks) ∧ RKs G ρ H kvs ks
  | .ins c fs => ∃ C dx gs, G.ct c = some C ∧ H a = some (.ins C dx gs) ∧ RFs G ρ H fs gs
  | .xd fs => ∃ gs, H a = some (.xd gs) ∧ RFs G ρ H fs gs
  | .scr xs => ∃ o ys, H a = some (.frz o (.lst ys)) ∧ RVs G ρ H xs ys
  | .dnk kvs => ∃ xs, H a = some (.ext (NDt G.w a xs)) ∧ RNs G ρ H kvs xs
  | .dcl kvs => ∃ o ks, H a = some (.frz o (.dK ks)) ∧ RKs G ρ H kvs ks
  | .dnl kvs => ∃ o xs, H a = some (.frz o (.ext (NDt G.w a xs))) ∧ RNs G ρ H kvs xs
  | .exo c n => ∃ C d, G.ct c = some C ∧ H a = some (L2.exo a C (some d)) ∧ ρ[n]? = some d
theorem OR.mono0 {G : Gx} {ρ ρ' : List Addr} {H H' : Hp} {a : Addr} (st : Stp0 G ρ H ρ' H') (e : H' a = H a) : ∀ {o : OI}, OR G ρ H a o → OR G ρ' H' a o
  | .lst _, ⟨ys, h, r⟩ => ⟨ys, e.trans h, r.mono0 st⟩
  | .dic _, ⟨ks, h, r⟩ => ⟨ks, e.trans h, r.mono0 st⟩
  | .ins _ _, ⟨C, dx, gs, c, h, r⟩ => ⟨C, dx, gs, c, e.trans h, r.mono0 st⟩
  | .xd _, ⟨gs, h, r⟩ => ⟨gs, e.trans h, r.mono0 st⟩
  | .scr _, ⟨o, ys, h, r⟩ => ⟨o, ys, e.trans h, r.mono0 st⟩
  | .dnk _, ⟨xs, h, r⟩ => ⟨xs, e.trans h, r.mono0 st⟩
  | .dcl _, ⟨o, ks, h, r⟩ => ⟨o, ks, e.trans h, r.mono0 st⟩
  | .dnl _, ⟨o, ks, h, r⟩ => ⟨o, ks, e.trans h, r.mono0 st⟩
  | .exo _ _, ⟨C, d, c, h, r⟩ => ⟨C, d, c, e.trans h, st.pre _ _ r⟩
theorem OR.mono {G : Gx} {ρ ρ' : List Addr} {H H' : Hp} {a : Addr} (st : Stp G ρ H ρ' H') (e : H' a = H a) {o : OI} (r : OR G ρ H a o) : OR G ρ' H' a o := r.mono0 st.toStp0 e
def OI.lk : OI → Bool
  | .scr _ => true
  | .dcl _ => true
  | .dnl _ => true
  | _ => false
theorem OR.nofrz {G : Gx} {ρ : List Addr} {H : Hp} {a : Addr} {o : OI} (r : OR G ρ H a o) (l : o.lk = false) (ob : Obj) (x : HO) : H a ≠ some (.frz ob x) := fun z => by
  cases o with
  | lst _ => obtain ⟨_, h, _⟩ := r; rw [h] at z; cases z
  | dic _ => obtain ⟨_, h, _⟩ := r; rw [h] at z; cases z
  | ins _ _ => obtain ⟨_, _, _, _, h, _⟩ := r; rw [h] at z; cases z
  | xd _ => obtain ⟨_, h, _⟩ := r; rw [h] at z; cases z
  | dnk _ => obtain ⟨_, h, _⟩ := r; rw [h] at z; cases z
  | scr _ => cases l
  | dcl _ => cases l
  | dnl _ => cases l
  | exo _ _ => obtain ⟨_, _, _, h, _⟩ := r; rw [h] at z; exact exo_frz (Option.some.inj z)
theorem OR.some {G : Gx} {ρ : List Addr} {H : Hp} {a : Addr} : ∀ {o : OI}, OR G ρ H a o → ∃ u, H a = some u ∧ (∀ xs, u ≠ .tup xs) ∧ ∀ ob xs, u ≠ .frz ob (.tup xs)
  | .lst _, ⟨ys, h, _⟩ => ⟨_, h, (fun _ z => by cases z), (fun _ _ z => by cases z)⟩
  | .dic _, ⟨ks, h, _⟩ => ⟨_, h, (fun _ z => by cases z), (fun _ _ z => by cases z)⟩
  | .ins _ _, ⟨C, dx, gs, _, h, _⟩ => ⟨_, h, (fun _ z => by cases z), (fun _ _ z => by cases z)⟩
  | .xd _, ⟨gs, h, _⟩ => ⟨_, h, (fun _ z => by cases z), (fun _ _ z => by cases z)⟩
  | .scr _, ⟨o, ys, h, _⟩ => ⟨_, h, (fun _ z => by cases z), (fun _ _ z => by cases z)⟩
  | .dnk _, ⟨xs, h, _⟩ => ⟨_, h, (fun _ z => by cases z), (fun _ _ z => by cases z)⟩
  | .dcl _, ⟨o, ks, h, _⟩ => ⟨_, h, (fun _ z => by cases z), (fun _ _ z => by cases z)⟩
  | .dnl _, ⟨o, ks, h, _⟩ => ⟨_, h, (fun _ z => by cases z), (fun _ _ z => by cases z)⟩
  | .exo _ _, ⟨C, d, _, h, _⟩ => ⟨_, h, (fun _ z => exo_tup z), (fun _ _ z => exo_frz z)⟩
structure Ag (G : Gx) (ρ : List Addr) (h : Hi) (H : Hp) : Prop where
  nd : ρ.Nodup
  len : ρ.length = h.length
  ob : ∀ (n : Nat) (o : OI), h[n]? = some o → ∃ a, ρ[n]? = some a ∧ OR G ρ H a o
structure AgS (G : Gx) (ρ : List Addr) (H : Hp) (σi : List (Option VI)) (σ : St) : Prop where
  len : σi.length = σ.length
  at_ : ∀ (i : Nat) (v : VI), σi[i]? = some (some v) → ∃ x, σ[i]? = some (some x) ∧ RV G ρ H v x
section
variable {G : Gx} {ρ ρ' : List Addr} {H H' : Hp} {h : Hi} {σi : List (Option VI)} {σ : St}
theorem AgS.mono (st : Stp G ρ H ρ' H') (a : AgS G ρ H σi σ) : AgS G ρ' H' σi σ := ⟨a.len, fun i v e => let ⟨x, h1, h2⟩ := a.at_ i v e; ⟨x, h1, h2.mono st⟩⟩
theorem AgS.set (a : AgS G ρ H σi σ) {v : VI} {x : V} (r : RV G ρ H v x) (i : Nat) : AgS G ρ H (σi.set i (some v)) (σ.set i (some x)) := by
  refine ⟨by simp [a.len], fun j w e => ?_⟩
  rw [List.getElem?_set] at e ⊢
  by_cases hj : i = j
  · subst hj
    rw [if_pos rfl] at e ⊢
    by_cases hl : i < σi.length
    · rw [if_pos hl] at e
      rw [if_pos (by rw [← a.len]; exact hl)]
      cases e
      exact ⟨x, rfl, r⟩
    · rw [if_neg hl] at e
      cases e
  · rw [if_neg hj] at e ⊢
    exact a.at_ j w e
theorem AgS.lose (a : AgS G ρ H σi σ) (i : Nat) (y : Option V) : AgS G ρ H (σi.set i none) (σ.set i y) := by
  refine ⟨by simp [a.len], fun j w e => ?_⟩
  rw [List.getElem?_set] at e ⊢
  by_cases hj : i = j
  · subst hj
    rw [if_pos rfl] at e
    by_cases hl : i < σi.length
    · rw [if_pos hl] at e; cases e
    · rw [if_neg hl] at e; cases e
  · rw [if_neg hj] at e ⊢
    exact a.at_ j w e
theorem sqt_ne {K : PySem.W.Frag} {H : Hp} {p : Addr} {o : HO} (hp : H p = none ∨ ∃ u, H p = some u ∧ (∀ xs, u ≠ .tup xs) ∧ ∀ ob xs, u ≠ .frz ob (.tup xs)) : ∀ a xs, SqT K H a xs → SqT K (upd H p o) a xs := by
  intro a xs q
  have hne : ∀ u, H a = some u → ((∃ xs, u = .tup xs) ∨ ∃ ob xs, u = .frz ob (.tup xs)) → a ≠ p := by
    intro u hu k z
    subst z
    rcases hp with hp | ⟨u', hp, n1, n2⟩
    · rw [hu] at hp; cases hp
    · rw [hu] at hp; cases hp
      rcases k with ⟨xs, rfl⟩ | ⟨ob, xs, rfl⟩
      · exact n1 _ rfl
      · exact n2 _ _ rfl
  rcases q with (q | ⟨ob, q⟩) | q
  · exact .inl (.inl (by rw [upd_ne (hne _ q (.inl ⟨_, rfl⟩))]; exact q))
  · exact .inl (.inr ⟨ob, by rw [upd_ne (hne _ q (.inr ⟨_, _, rfl⟩))]; exact q⟩)
  · exact .inr q
theorem Ag.at_ (ag : Ag G ρ h H) {n : Nat} {a : Addr} {o : OI} (e : h[n]? = some o) (p : ρ[n]? = some a) : OR G ρ H a o := by
  obtain ⟨b, hb, r⟩ := ag.ob n o e
  rw [p] at hb
  cases hb
  exact r
theorem Ag.fresh (a : Ag G ρ h H) {p : Addr} (hp : H p = none) : p ∉ ρ := by
  intro hm
  obtain ⟨n, hn, e⟩ := List.mem_iff_getElem.mp hm
  have hl : n < h.length := by rw [← a.len]; exact hn
  obtain ⟨b, hb, r⟩ := a.ob n h[n] (by simp [hl])
  obtain ⟨u, hu, _⟩ := r.some
  have : b = p := by
    have : ρ[n]? = some ρ[n] := by simp [hn]
    rw [this] at hb
    cases hb
    exact e
  subst this
  rw [hp] at hu
  cases hu
theorem frz_ne {p : Addr} {o : HO} (hp : ∀ ob x, H p ≠ some (.frz ob x)) : ∀ a ob u, H a = some (.frz ob u) → upd H p o a = some (.frz ob u) := fun a ob u e => by
  rw [upd_ne (fun z => by subst z; exact hp _ _ e)]
  exact e
theorem Stp.new {p : Addr} {o : HO} (hp : H p = none) : Stp G ρ H (ρ ++ [p]) (upd H p o) :=
  ⟨⟨fun n a e => by rw [List.getElem?_append_left (List.getElem?_eq_some_iff.mp e).1]; exact e, sqt_ne (.inl hp)⟩, frz_ne (fun _ _ z => by rw [hp] at z; cases z)⟩
theorem Stp.more {p : Addr} {o : HO} (hp : H p = none) : Stp G ρ H ρ (upd H p o) := ⟨⟨fun _ _ e => e, sqt_ne (.inl hp)⟩, frz_ne (fun _ _ z => by rw [hp] at z; cases z)⟩
theorem Ag.more (a : Ag G ρ h H) {p : Addr} {o : HO} (hp : H p = none) : Ag G ρ h (upd H p o) :=
  ⟨a.nd, a.len, fun n u e => by
    obtain ⟨b, hb, r⟩ := a.ob n u e
    obtain ⟨_, hu, _⟩ := r.some
    exact ⟨b, hb, r.mono (Stp.more hp) (upd_ne (ne_of_none hu hp))⟩⟩
theorem Ag.new (a : Ag G ρ h H) {p : Addr} {o : HO} {u : OI} (hp : H p = none) (r : OR G (ρ ++ [p]) (upd H p o) p u) : Ag G (ρ ++ [p]) (h ++ [u]) (upd H p o) := by
  refine ⟨?_, by simp [a.len], fun n v e => ?_⟩
  · rw [List.nodup_append]
    refine ⟨a.nd, by simp, fun x hx y hy => ?_⟩
    rw [List.mem_singleton] at hy
    subst hy
    intro z
    subst z
    exact a.fresh hp hx
  · by_cases hn : n < h.length
    · rw [List.getElem?_append_left hn] at e
      obtain ⟨b, hb, q⟩ := a.ob n v e
      obtain ⟨_, hu, _⟩ := q.some
      exact ⟨b, (Stp.new (G := G) (o := o) hp).pre n b hb, q.mono (Stp.new hp) (upd_ne (ne_of_none hu hp))⟩
    · have hle : h.length ≤ n := Nat.le_of_not_lt hn
      rw [List.getElem?_append_right hle] at e
      have hz : n - h.length = 0 := by
        have := (List.getElem?_eq_some_iff.mp e).1
        simp at this
        omega
      rw [hz] at e
      simp at e
      subst e
      have : n = ρ.length := by rw [a.len]; omega
      exact ⟨p, by rw [this]; simp, r⟩
theorem Stp0.wr {p : Addr} {o : HO} {n : Nat} {u : OI} (a : Ag G ρ h H) (hn : h[n]? = some u) (hp : ρ[n]? = some p) : Stp0 G ρ H ρ (upd H p o) :=
  ⟨fun _ _ e => e, by
    obtain ⟨b, hb, r⟩ := a.ob n u hn
    rw [hp] at hb
    cases hb
    exact sqt_ne (.inr r.some)⟩
theorem Stp.wr {p : Addr} {o : HO} {n : Nat} {u : OI} (a : Ag G ρ h H) (hn : h[n]? = some u) (hp : ρ[n]? = some p) (hl : u.lk = false := by rfl) : Stp G ρ H ρ (upd H p o) :=
  ⟨Stp0.wr a hn hp, by
    obtain ⟨b, hb, r⟩ := a.ob n u hn
    rw [hp] at hb
    cases hb
    exact frz_ne (r.nofrz hl)⟩
theorem Ag.wr (a : Ag G ρ h H) {p : Addr} {o : HO} {n : Nat} {u u' : OI} (hn : h[n]? = some u) (hp : ρ[n]? = some p) (r : OR G ρ (upd H p o) p u') : Ag G ρ (h.set n u') (upd H p o) := by
  refine ⟨a.nd, by simp [a.len], fun m v e => ?_⟩
  rw [List.getElem?_set] at e
  by_cases hm : n = m
  · subst hm
    rw [if_pos rfl, if_pos (List.getElem?_eq_some_iff.mp hn).1] at e
    cases e
    exact ⟨p, hp, r⟩
  · rw [if_neg hm] at e
    obtain ⟨b, hb, q⟩ := a.ob m v e
    have hne : b ≠ p := by
      intro z
      subst z
      obtain ⟨h1, e1⟩ := List.getElem?_eq_some_iff.mp hp
      obtain ⟨h2, e2⟩ := List.getElem?_eq_some_iff.mp hb
      have pw := List.pairwise_iff_getElem.mp a.nd
      rcases Nat.lt_trichotomy n m with l | l | l
      · exact pw n m h1 h2 l (e1.trans e2.symm)
      · exact hm l
      · exact pw m n h2 h1 l (e2.trans e1.symm)
    exact ⟨b, hb, q.mono0 (Stp0.wr a hn hp) (upd_ne hne)⟩
end
section
open PySem.Spec PyProof.Rows
def Zz (z : Bool) (cls : Value) (d : Option Addr) : Obj → Prop := match z with | true => L2N.Zn cls d | false => Zc cls d
theorem Zz.zc {z : Bool} {cls : Value} {d : Option Addr} {o : Obj} (h : Zz z cls d o) : Zc cls d o := by cases z; exact h; exact L2N.Zn.zc h
def XE (z : Bool) (X : Cx) (W : WX) (u : Value) (s' : Shared) : Prop :=
  ∃ (a : Addr) (B : Heap) (sI : Shared) (pins : List (Addr × Obj)) (σ : L2.St) (H : Hp) (cls : Value) (d : Option Addr),
    u = .ref a ∧ Inv X pins σ H sI ∧ (∀ b o, sI.heap.get? b = some o → b ∉ frs X.stack → B.get? b = some o) ∧ sI.heap.UpToSlots s'.heap ∧
      Sky B X.stack a (Zz z cls d) X.env.locals s'.heap ∧ H a = none ∧ s'.os = sI.os ∧ AllBare s'.gens ∧ W cls d σ H
def Takes (z : Bool) (X : Cx) (W : WX) : Prop := ∀ u s', XE z X W u s' → X.xe u s'
theorem Takes.f {X : Cx} {W : WX} (t : Takes false X W) : L2.Takes X W := t
theorem Takes.t {X : Cx} {W : WX} (t : Takes true X W) : L2N.Takes X W := t
def CX (z : Bool) (P : Program) (w : World) (outer : List Env) (H : Hp) (s : Shared) (E : XK) (u : Value) (s' : Shared) : Prop :=
  ∃ (a : Addr) (B : Heap) (H' : Hp) (cls : Value) (d : Option Addr), u = .ref a ∧ HandSPX.FlyingZ B outer a (Zz z cls d) s'.heap ∧ HOk P w H' B ∧ UB (frs outer) H H' s.heap B s'.heap ∧ H' a = none ∧ s'.os = s.os ∧ AllBare s'.gens ∧ E cls d H'
theorem takes_of {z : Bool} {X : Cx} {E : XK} (hs : X.stack = X.env :: X.outer) (hf : X.env.frame = some X.env.locals) (hex : X.ex = []) {E₁ : Value → Shared → Prop}
    (hx : X.xe = fun e s' => wpAny (model X.prog X.w) X.A (leaving X.env e) (fun _ s'' => CX z X.prog X.w X.outer X.H_0 X.s_0 E e s'') E₁ s') : Takes z X (fun cls d _ H => E cls d H) := by
  cases z
  · exact L2.takes_of hs hf hex hx
  · exact L2N.takes_of hs hf hex hx
theorem passAt {z : Bool} {X : Cx} {W : WX} (tk : Takes z X W) (σ : L2.St) : PassesAt (CX z X.prog X.w) X σ (WE W σ) := by
  cases z
  · exact L2.passAt tk σ
  · exact L2N.passAt tk σ
end
end ML
end
section
namespace ML
open PySem L2
abbrev Sg := List (Option VI)
abbrev ME := Sg → Hi → Res VI
abbrev MT := Sg → Hi → Res Bool
abbrev MA := Sg → Hi → Res (List VI)
def Res.bind {α β : Type} (r : Res α) (f : α → Hi → Res β) : Res β := match r with
  | .ok a h => f a h
  | .ex c n h => .ex c n h
  | .err => .err
def FinG {α β : Type} (G : Gx) (ρ : List Addr) (H : Hp) (R : List Addr → Hp → α → β → Prop) (Q : β → Hp → Prop) (W : Value → Option Addr → Hp → Prop) : Res α → Prop
  | .ok v h' => ∀ ρ' H' x, Stp G ρ H ρ' H' → Ag G ρ' h' H' → R ρ' H' v x → Q x H'
  | .ex c n h' => ∀ ρ' H' d C, Stp G ρ H ρ' H' → Ag G ρ' h' H' → ρ'[n]? = some d → G.ct c = some C → W (.ref C) (some d) H'
  | .err => False
def rdG {α β : Type} (G : Gx) (R : List Addr → Hp → α → β → Prop) (W : WX) (m : Sg → Hi → Res α) : St → Hp → (β → Hp → Prop) → Prop := fun σ H Q =>
  ∃ ρ σi h, AgS G ρ H σi σ ∧ Ag G ρ h H ∧ FinG G ρ H R Q (fun c d H' => W c d σ H') (m σi h)
abbrev rdE (G : Gx) (W : WX) (m : ME) : TE := rdG G (RV G) W m
abbrev rdT (G : Gx) (W : WX) (m : MT) : TT := rdG G (fun _ _ (b c : Bool) => b = c) W m
abbrev rdA (G : Gx) (W : WX) (m : MA) : TA := rdG G (RVs G) W m
section
variable {G : Gx} {ρ ρ1 : List Addr} {H H1 : Hp} {α β γ δ : Type} {W : WX} {σ : St}
theorem FinG.later {R : List Addr → Hp → α → β → Prop} {Q : β → Hp → Prop} {W : Value → Option Addr → Hp → Prop} (st : Stp G ρ H ρ1 H1) : ∀ {r : Res α}, FinG G ρ H R Q W r → FinG G ρ1 H1 R Q W r
  | .ok _ _, f => fun ρ' H' x s a r => f ρ' H' x (st.trans s) a r
  | .ex _ _ _, f => fun ρ' H' d C s a e c => f ρ' H' d C (st.trans s) a e c
  | .err, f => f
theorem rdG_go {R : List Addr → Hp → α → β → Prop} {R' : List Addr → Hp → γ → δ → Prop} {m : Sg → Hi → Res α} {k : α → Hi → Res γ} {Q : δ → Hp → Prop} {N : β → Hp → Prop} {σi : Sg} {h : Hi}
    (as : AgS G ρ H σi σ) (a : Ag G ρ h H) (f : FinG G ρ H R' Q (fun c d H' => W c d σ H') ((m σi h).bind k))
    (nx : ∀ ρ1 H1 h1 x y, Stp G ρ H ρ1 H1 → AgS G ρ1 H1 σi σ → Ag G ρ1 h1 H1 → R ρ1 H1 x y → FinG G ρ1 H1 R' Q (fun c d H' => W c d σ H') (k x h1) → N y H1) : rdG G R W m σ H N := by
  refine ⟨ρ, σi, h, as, a, ?_⟩
  cases e : m σi h with
  | err => rw [e] at f; exact f
  | ex c n h' => rw [e] at f; exact f
  | ok v h' =>
    rw [e] at f
    exact fun ρ' H' x st a' r => nx ρ' H' h' v x st (as.mono st) a' r (FinG.later st f)
theorem FinG.ok {R : List Addr → Hp → α → β → Prop} {Q : β → Hp → Prop} {W : Value → Option Addr → Hp → Prop} {v : α} {h : Hi} {x : β} (f : FinG G ρ H R Q W (.ok v h)) (a : Ag G ρ h H) (r : R ρ H v x) : Q x H := f ρ H x .refl a r
end
section
variable {X : Cx} {e a b : Expr} {pos : Pos}
theorem PE.imp' {t t' : TE} (h : PE X e t) (i : ∀ σ H Q, t' σ H Q → t σ H Q) : PE X e t' := ⟨fun pins s σ H Q I q => h.run pins s σ H Q I (i σ H Q q)⟩
theorem PT.imp' {t t' : TT} (h : PT X e t) (i : ∀ σ H Q, t' σ H Q → t σ H Q) : PT X e t' := ⟨fun pins s σ H Q I q => h.run pins s σ H Q I (i σ H Q q)⟩
theorem PW.imp' {t t' : TT} (h : PW X e t) (i : ∀ σ H Q, t' σ H Q → t σ H Q) : PW X e t' := ⟨fun wh pins s σ H Q I q => h.run wh pins s σ H Q I (i σ H Q q)⟩
theorem PA.imp' {es : List Expr} {t t' : TA} (h : PA X es t) (i : ∀ σ H Q, t' σ H Q → t σ H Q) : PA X es t' := ⟨fun p pins s σ H Q I q => h.run p pins s σ H Q I (i σ H Q q)⟩
theorem PS.imp' {st : Stmt} {t t' : TS} (h : PS X st t) (i : ∀ D σ H, t' D σ H → t D σ H) : PS X st t' := ⟨fun pins s σ H D I q => h.run pins s σ H D I (i D σ H q)⟩
theorem PSs.imp' {st : List Stmt} {t t' : TS} (h : PSs X st t) (i : ∀ D σ H, t' D σ H → t D σ H) : PSs X st t' := ⟨fun pins s σ H D I q => h.run pins s σ H D I (i D σ H q)⟩
end
def eV (i : Nat) : ME := fun σ h => match σ[i]? with
  | some (some v) => .ok v h
  | _ => .err
def eC (v : VI) : ME := fun _ h => .ok v h
def aNil : MA := fun _ h => .ok [] h
def aCons (a : ME) (r : MA) : MA := fun σ h => (a σ h).bind fun x h1 => (r σ h1).bind fun xs h2 => .ok (x :: xs) h2
def small (n : Nat) : Bool := Nat.ble n 100000
theorem small_ok {n : Nat} (h : small n = true) : n ≤ sizeLine := Nat.le_trans (Nat.le_of_ble_eq_true h) (by decide)
def eTup (a : MA) : ME := fun σ h => (a σ h).bind fun xs h1 => match small xs.length with
  | true => .ok (.tup xs) h1
  | false => .err
def eLst (a : MA) : ME := fun σ h => (a σ h).bind fun xs h1 => match small xs.length with
  | true => .ok (.ref h1.length) (h1 ++ [.lst xs])
  | false => .err
section
variable {G : Gx} {W : WX} {X : Cx} {e a b : Expr} {es : List Expr} {pos : Pos} {me ma mb : ME} {mr : MA}
theorem me_var {i : Nat} {x : Str} (hN : X.N[i]? = some x) (hv : Vis X.env.scope x) (hd : (x == ("__debug__" : Str)) = false := by decide) (hcd : (x == ("__classdict__" : Str)) = false := by decide) : PE X (.Name x pos) (rdE G W (eV i)) :=
  PE.imp' (pe_var hN hv hd hcd) fun σ H Q ⟨ρ, σi, h, as, ag, f⟩ => by
    unfold eV at f
    cases e : σi[i]? with
    | none => rw [e] at f; exact f.elim
    | some o =>
      rw [e] at f
      cases o with
      | none => exact f.elim
      | some v =>
        obtain ⟨x, h1, r⟩ := as.at_ i v e
        exact ⟨x, h1, f.ok ag r⟩
theorem me_c {v : VI} {x : V} (he : PE X e (tC x)) (r : ∀ ρ H, RV G ρ H v x) : PE X e (rdE G W (eC v)) :=
  PE.imp' he fun σ H Q ⟨ρ, σi, h, as, ag, f⟩ => f.ok ag (r ρ H)
theorem me_int {i : Int} {j} : PE X (.Constant (.int i) j pos) (rdE G W (eC (.int i))) := me_c pe_int fun _ _ => .int i
theorem me_bl {i : Bool} {j} : PE X (.Constant (.bool i) j pos) (rdE G W (eC (.bl i))) := me_c pe_bl fun _ _ => .bl i
theorem me_non {j} : PE X (.Constant .none j pos) (rdE G W (eC .non)) := me_c pe_non fun _ _ => .non
theorem me_str {s : S} {x : Str} {j} (h : x = toStr s) : PE X (.Constant (.str x) j pos) (rdE G W (eC (.str s))) := me_c pe_str fun _ _ => .str h
theorem ma_nil : PA X [] (rdA G W aNil) := PA.imp' pa_nil fun σ H Q ⟨ρ, σi, h, as, ag, f⟩ => f.ok ag .nil
theorem ma_cons (ha : PE X e (rdE G W me)) (hr : PA X es (rdA G W mr)) (hs : starEach (e :: es) X.env = (false, eval e X.env) :: starEach es X.env := by rfl) : PA X (e :: es) (rdA G W (aCons me mr)) :=
  PA.imp' (pa_cons ha hr hs) fun σ H Q ⟨ρ, σi, h, as, ag, f⟩ => rdG_go as ag f fun ρ1 H1 h1 x y st as ag r f => rdG_go as ag f fun ρ2 H2 h2 xs ys st2 as ag rs f => f.ok ag (.cons (r.mono st2) rs)
theorem me_tup {x1} (h : PA X es (rdA G W mr)) : PE X (.Tuple es x1 pos) (rdE G W (eTup mr)) :=
  PE.imp' (pe_tup h) fun σ H Q ⟨ρ, σi, h, as, ag, f⟩ => rdG_go as ag f fun ρ1 H1 h1 xs ys st as ag rs f => by
    cases e : small xs.length with
    | false => rw [e] at f; exact f.elim
    | true =>
      rw [e] at f
      refine ⟨by rw [← rs.length]; exact small_ok e, fun p hp => ?_⟩
      exact f ρ1 _ _ (Stp.more hp) (ag.more hp) (.tup (.inl (.inl upd_same)) (rs.mono (Stp.more hp)))
theorem me_lst (h : PA X es (rdA G W mr)) : PE X (.List es pos) (rdE G W (eLst mr)) :=
  PE.imp' (pe_lst h) fun σ H Q ⟨ρ, σi, h, as, ag, f⟩ => rdG_go as ag f fun ρ1 H1 h1 xs ys st as ag rs f => by
    cases e : small xs.length with
    | false => rw [e] at f; exact f.elim
    | true =>
      rw [e] at f
      refine ⟨by rw [← rs.length]; exact small_ok e, fun p hp => ?_⟩
      exact f (ρ1 ++ [p]) _ _ (Stp.new hp) (ag.new hp ⟨ys, upd_same, rs.mono (Stp.new hp)⟩) (.ref (by rw [← ag.len]; simp))
end
end ML
end
section
namespace ML
open PySem L2
def datL (f : VI → Option PyData) : List VI → Option (List PyData)
  | [] => some []
  | x :: xs => match f x with
    | some d => match datL f xs with
      | some ds => some (d :: ds)
      | none => none
    | none => none
def dat : Nat → Hi → VI → Option PyData
  | 0, _, _ => none
  | n + 1, h, v => match v with
    | .non => some .none
    | .bl b => some (.bool b)
    | .int i => some (.int i)
    | .str s => some (.str (toStr s))
    | .glo _ => none
    | .tup xs => (datL (dat n h) xs).map .tuple
    | .ref a => match h[a]? with
      | some (.lst xs) => (datL (dat n h) xs).map .list
      | some (.scr xs) => (datL (dat n h) xs).map .list
      | _ => none
section
variable {G : Gx} {ρ : List Addr} {h : Hi} {H : Hp}
theorem datL_ok {f : VI → Option PyData} (ih : ∀ v x d, RV G ρ H v x → f v = some d → Dp G.K H x d) : ∀ {vs xs ds}, RVs G ρ H vs xs → datL f vs = some ds → DpAll G.K H xs ds
  | _, _, _, .nil, e => by cases e; exact .nil
  | _, _, _, .cons (v := v) (vs := vs) r t, e => by
    unfold datL at e
    cases e1 : f v with
    | none => rw [e1] at e; cases e
    | some d =>
      rw [e1] at e
      cases e2 : datL f vs with
      | none => rw [e2] at e; cases e
      | some ds =>
        rw [e2] at e
        cases e
        exact .cons (ih _ _ _ r e1) (datL_ok ih t e2)
theorem dat_ok (ag : Ag G ρ h H) : ∀ (n : Nat) (v : VI) (x : V) (d : PyData), RV G ρ H v x → dat n h v = some d → Dp G.K H x d
  | 0, _, _, _, _, e => by cases e
  | n + 1, v, x, d, r, e => by
    cases r with
    | non => cases e; exact .non
    | bl b => cases e; exact .bl b
    | int i => cases e; exact .int i
    | str q => cases e; subst q; exact .str _
    | glo q => cases e
    | @tup xs ys a t rs =>
      have e' : (datL (dat n h) xs).map PyData.tuple = some d := e
      cases e1 : datL (dat n h) xs with
      | none => rw [e1] at e'; cases e'
      | some ds =>
        rw [e1] at e'
        cases e'
        exact .tup t (datL_ok (fun v x d => dat_ok ag n v x d) rs e1)
    | @ref k a q =>
      cases e0 : h[k]? with
      | none => unfold dat at e; dsimp only at e; rw [e0] at e; cases e
      | some o =>
        obtain ⟨b, hb, ob⟩ := ag.ob k o e0
        rw [q] at hb
        cases hb
        unfold dat at e
        dsimp only at e
        rw [e0] at e
        cases o with
        | lst xs =>
          obtain ⟨ys, hy, rs⟩ := ob
          have e' : (datL (dat n h) xs).map PyData.list = some d := e
          cases e1 : datL (dat n h) xs with
          | none => rw [e1] at e'; cases e'
          | some ds =>
            rw [e1] at e'
            cases e'
            exact .lst (.inl (.inl hy)) (datL_ok (fun v x d => dat_ok ag n v x d) rs e1)
        | scr xs =>
          obtain ⟨ob, ys, hy, rs⟩ := ob
          have e' : (datL (dat n h) xs).map PyData.list = some d := e
          cases e1 : datL (dat n h) xs with
          | none => rw [e1] at e'; cases e'
          | some ds =>
            rw [e1] at e'
            cases e'
            exact .lst (.inl (.inr ⟨_, hy⟩)) (datL_ok (fun v x d => dat_ok ag n v x d) rs e1)
        | dic kvs => cases e
        | ins c fs => cases e
        | xd fs => cases e
        | dnk kvs => cases e
        | dcl kvs => cases e
        | dnl kvs => cases e
        | exo _ _ => cases e
end
abbrev Op2 := VI → VI → Hi → Option (VI × Hi)
def ofO {α : Type} : Option (α × Hi) → Res α
  | some (a, h) => .ok a h
  | none => .err
def eBin (f : Op2) (a b : ME) : ME := fun σ h => (a σ h).bind fun x h1 => (b σ h1).bind fun y h2 => ofO (f x y h2)
def FinO {α β : Type} (G : Gx) (ρ : List Addr) (H : Hp) (R : List Addr → Hp → α → β → Prop) (Q : β → Hp → Prop) : Option (α × Hi) → Prop
  | some (v, h') => ∀ ρ' H' x, Stp G ρ H ρ' H' → Ag G ρ' h' H' → R ρ' H' v x → Q x H'
  | none => False
def rd2 (G : Gx) (f : Op2) : R2 := fun x y H Q => ∃ ρ h xi yi, Ag G ρ h H ∧ RV G ρ H xi x ∧ RV G ρ H yi y ∧ FinO G ρ H (RV G) Q (f xi yi h)
section
variable {G : Gx} {ρ : List Addr} {h : Hi} {H : Hp} {W : WX} {X : Cx} {e a b c : Expr} {pos : Pos} {ma mb mc : ME} {f : Op2}
theorem FinO.of {α β : Type} {R : List Addr → Hp → α → β → Prop} {Q : β → Hp → Prop} {W : Value → Option Addr → Hp → Prop} {r : Option (α × Hi)} (f : FinG G ρ H R Q W (ofO r)) : FinO G ρ H R Q r := by
  cases r with
  | none => exact f
  | some p => exact f
theorem FinO.ok {α β : Type} {R : List Addr → Hp → α → β → Prop} {Q : β → Hp → Prop} {v : α} {x : β} (f : FinO G ρ H R Q (some (v, h))) (a : Ag G ρ h H) (r : R ρ H v x) : Q x H := f ρ H x .refl a r
theorem me_bin {op : Operator} (ho : OpR X (binaryOp op) (rd2 G f)) (ha : PE X a (rdE G W ma)) (hb : PE X b (rdE G W mb)) : PE X (.BinOp a op b pos) (rdE G W (eBin f ma mb)) :=
  PE.imp' (pe_op ho ha hb) fun σ H Q ⟨ρ, σi, h, as, ag, f⟩ => rdG_go as ag f fun ρ1 H1 h1 x x' st as ag r f => rdG_go as ag f fun ρ2 H2 h2 y y' st2 as ag rs f => ⟨ρ2, h2, x, y, ag, r.mono st2, rs, FinO.of f⟩
theorem me_cmp {op : CmpOp} (ho : OpR X (compareOp op) (rd2 G f)) (ha : PE X a (rdE G W ma)) (hb : PE X b (rdE G W mb)) (hm : behindInMarks op b = false) : PE X (.Compare a [op] [b] pos) (rdE G W (eBin f ma mb)) :=
  PE.imp' (pe_cmpR ho ha hb hm) fun σ H Q ⟨ρ, σi, h, as, ag, f⟩ => rdG_go as ag f fun ρ1 H1 h1 x x' st as ag r f => rdG_go as ag f fun ρ2 H2 h2 y y' st2 as ag rs f => ⟨ρ2, h2, x, y, ag, r.mono st2, rs, FinO.of f⟩
theorem OpR.imp' {g : Value → Value → Sem Value} {r r' : R2} (h : OpR X g r) (i : ∀ x y H Q, r' x y H Q → r x y H Q) : OpR X g r' := fun pins s σ H x y v u Q I r1 r2 q => h pins s σ H x y v u Q I r1 r2 (i x y H Q q)
theorem opR_at {g : Value → Value → Sem Value} (h : ∀ ρ h H xi yi x y Q, Ag G ρ h H → RV G ρ H xi x → RV G ρ H yi y → FinO G ρ H (RV G) Q (f xi yi h) → ∃ r : R2, OpR X g r ∧ r x y H Q) : OpR X g (rd2 G f) :=
  fun pins s σ H x y v u Q I r1 r2 ⟨ρ, hi, xi, yi, ag, a1, a2, q⟩ => by
    obtain ⟨r, ho, hr⟩ := h ρ hi H xi yi x y Q ag a1 a2 q
    exact ho pins s σ H x y v u Q I r1 r2 hr
end
def fAdd : Op2 := fun x y h => match x, y with
  | .int i, .int j => some (.int (i + j), h)
  | .str s, .str t => match small (s.length + t.length) with
    | true => some (.str (s ++ t), h)
    | false => none
  | .tup xs, .tup ys => match small (xs.length + ys.length) with
    | true => some (.tup (xs ++ ys), h)
    | false => none
  | .ref a, .ref b => match h[a]?, h[b]? with
    | some (.lst xs), some (.lst ys) => match small (xs.length + ys.length) with
      | true => some (.ref h.length, h ++ [.lst (xs ++ ys)])
      | false => none
    | _, _ => none
  | _, _ => none
def fSub : Op2 := fun x y h => match x, y with
  | .int i, .int j => some (.int (i - j), h)
  | _, _ => none
def bnd (i : Int) : Bool := decide (-(2 ^ 64) < i) && decide (i < 2 ^ 64)
def repL (xs : List VI) : Nat → List VI
  | 0 => []
  | n + 1 => xs ++ repL xs n
def fMul : Op2 := fun x y h => match x, y with
  | .int i, .int j => match bnd i || bnd j with
    | true => some (.int (i * j), h)
    | false => none
  | .ref a, .int k => match h[a]? with
    | some (.lst xs) => match (decide (0 ≤ k) && decide (k ≤ 1000)) && small (xs.length * k.toNat) with
      | true => some (.ref h.length, h ++ [.lst (repL xs k.toNat)])
      | false => none
    | _ => none
  | .tup xs, .int k => match (decide (2 ≤ k) && decide (k ≤ 1000)) && (Nat.ble xs.length 1000 && !xs.isEmpty) with
    | true => some (.tup (repL xs k.toNat), h)
    | false => none
  | _, _ => none
def fMod : Op2 := fun x y h => match x, y with
  | .int i, .int j => match decide (0 < j) with
    | true => some (.int (i % j), h)
    | false => none
  | _, _ => none
def fFdiv : Op2 := fun x y h => match x, y with
  | .int i, .int j => match decide (0 < j) && decide (j < 1073741824) with
    | true => some (.int (i / j), h)
    | false => none
  | _, _ => none
def fPow : Op2 := fun x y h => match x, y with
  | .int i, .int j => match decide (0 ≤ j) && (decide (j ≤ 1000) && decide (i.natAbs < 2 ^ 64)) with
    | true => some (.int (i ^ j.toNat), h)
    | false => none
  | _, _ => none
theorem toStr_append (s t : S) : toStr s ++ toStr t = toStr (s ++ t) := by
  show PySem.Str.append (toStr s) (toStr t) = _
  unfold PySem.Str.append toStr
  simp
theorem toStr_length (s : S) : (toStr s).length = s.length := by
  show (toStr s).cps.size = _
  unfold toStr
  simp
section
variable {G : Gx} {ρ : List Addr} {H : Hp}
theorem RVs.rep {xs : List VI} {ys : List V} (r : RVs G ρ H xs ys) : ∀ n, RVs G ρ H (repL xs n) (List.replicate n ys).flatten
  | 0 => .nil
  | n + 1 => by
    rw [List.replicate_succ, List.flatten_cons]
    exact RVs.append r (RVs.rep r n)
variable {X : Cx}
theorem RVs.nil_iff {xs : List VI} {ys : List V} (r : RVs G ρ H xs ys) : xs = [] ↔ ys = [] := by
  cases r with
  | nil => exact ⟨fun _ => rfl, fun _ => rfl⟩
  | cons _ _ => exact ⟨fun z => (by cases z), fun z => (by cases z)⟩
theorem FinO.new {h : Hi} {Q : VK} {p : Addr} {o : HO} {u : OI} (f : FinO G ρ H (RV G) Q (some (.ref h.length, h ++ [u]))) (ag : Ag G ρ h H) (hp : H p = none) (r : OR G (ρ ++ [p]) (upd H p o) p u) : Q (.ref p) (upd H p o) :=
  f (ρ ++ [p]) _ _ (Stp.new hp) (ag.new hp r) (.ref (by rw [← ag.len]; simp))
theorem mo_add (hG : G.K = X.K) : OpR X (binaryOp .Add) (rd2 G fAdd) := opR_at fun ρ h H xi yi x y Q ag r1 r2 f => by
  unfold fAdd at f
  cases r1 with
  | int i =>
    cases r2 with
    | int j => exact ⟨_, op_add, i, j, rfl, rfl, f.ok ag (.int _)⟩
    | _ => exact f.elim
  | @str s _ e =>
    cases r2 with
    | @str t _ e' =>
      subst e e'
      dsimp only at f
      cases q : small (s.length + t.length) with
      | false => rw [q] at f; exact f.elim
      | true =>
        rw [q] at f
        exact ⟨_, op_add_str, _, _, rfl, rfl, by rw [toStr_length, toStr_length]; exact small_ok q, f.ok ag (.str (toStr_append s t))⟩
    | _ => exact f.elim
  | @tup xs ys a t1 s1 =>
    cases r2 with
    | @tup xs2 ys2 b t2 s2 =>
      dsimp only at f
      cases q : small (xs.length + xs2.length) with
      | false => rw [q] at f; exact f.elim
      | true =>
        rw [q] at f
        refine ⟨_, op_catA, a, b, ys, ys2, rfl, rfl, hG ▸ t1, hG ▸ t2, by rw [← s1.length, ← s2.length]; exact small_ok q, fun z => ?_, fun z1 z2 => ?_, fun z1 z2 p hp => ?_⟩
        · have e := s1.nil_iff.mpr z
          subst e
          exact f.ok ag (.tup t2 s2)
        · have e := s2.nil_iff.mpr z2
          subst e
          rw [List.append_nil] at f
          exact f.ok ag (.tup t1 s1)
        · exact f ρ _ _ (Stp.more hp) (ag.more hp) (.tup (.inl (.inl upd_same)) ((s1.append s2).mono (Stp.more hp)))
    | _ => exact f.elim
  | @ref n a e =>
    cases r2 with
    | @ref m b e' =>
      dsimp only at f
      cases q : h[n]? with
      | none => rw [q] at f; exact f.elim
      | some o =>
        rw [q] at f
        cases o with
        | lst xs =>
          cases q2 : h[m]? with
          | none => rw [q2] at f; exact f.elim
          | some o2 =>
            rw [q2] at f
            cases o2 with
            | lst ys =>
              dsimp only at f
              obtain ⟨xv, hx, rx⟩ := ag.at_ q e
              obtain ⟨yv, hy, ry⟩ := ag.at_ q2 e'
              cases z : small (xs.length + ys.length) with
              | false => rw [z] at f; exact f.elim
              | true =>
                rw [z] at f
                exact ⟨_, op_cat, a, b, xv, yv, rfl, rfl, hx, hy, by rw [← rx.length, ← ry.length]; exact small_ok z, fun p hp => FinO.new f ag hp ⟨_, upd_same, (rx.append ry).mono (Stp.new hp)⟩⟩
            | _ => exact f.elim
        | _ => exact f.elim
    | _ => exact f.elim
  | _ => exact f.elim
theorem bnd_ok {i : Int} (h : bnd i = true) : -(2 ^ 64) < i ∧ i < 2 ^ 64 := by
  unfold bnd at h
  obtain ⟨h1, h2⟩ := Bool.and_eq_true_iff.mp h
  exact ⟨of_decide_eq_true h1, of_decide_eq_true h2⟩
theorem mo_mul (hG : G.K = X.K) : OpR X (binaryOp .Mult) (rd2 G fMul) := opR_at fun ρ h H xi yi x y Q ag r1 r2 f => by
  unfold fMul at f
  cases r1 with
  | int i =>
    cases r2 with
    | int j =>
      dsimp only at f
      cases q : bnd i || bnd j with
      | false => rw [q] at f; exact f.elim
      | true =>
        rw [q] at f
        exact ⟨_, op_mul, i, j, rfl, rfl, (Bool.or_eq_true_iff.mp q).elim (fun z => .inl (bnd_ok z)) (fun z => .inr (bnd_ok z)), f.ok ag (.int _)⟩
    | _ => exact f.elim
  | @tup xs ys a t1 s1 =>
    cases r2 with
    | int k =>
      dsimp only at f
      cases q : (decide (2 ≤ k) && decide (k ≤ 1000)) && (Nat.ble xs.length 1000 && !xs.isEmpty) with
      | false => rw [q] at f; exact f.elim
      | true =>
        rw [q] at f
        obtain ⟨q1, q2⟩ := Bool.and_eq_true_iff.mp q
        obtain ⟨k1, k2⟩ := Bool.and_eq_true_iff.mp q1
        obtain ⟨l1, l2⟩ := Bool.and_eq_true_iff.mp q2
        refine ⟨_, op_repT, a, k, ys, rfl, rfl, hG ▸ t1, fun z => ?_, of_decide_eq_true k1, of_decide_eq_true k2, by rw [← s1.length]; exact Nat.le_of_ble_eq_true l1, fun p hp => ?_⟩
        · have e := s1.nil_iff.mpr z
          subst e
          cases l2
        · exact f ρ _ _ (Stp.more hp) (ag.more hp) (.tup (.inl (.inl upd_same)) ((s1.rep _).mono (Stp.more hp)))
    | _ => exact f.elim
  | @ref n a e =>
    cases r2 with
    | int k =>
      dsimp only at f
      cases q : h[n]? with
      | none => rw [q] at f; exact f.elim
      | some o =>
        rw [q] at f
        cases o with
        | lst xs =>
          dsimp only at f
          obtain ⟨xv, hx, rx⟩ := ag.at_ q e
          cases z : (decide (0 ≤ k) && decide (k ≤ 1000)) && small (xs.length * k.toNat) with
          | false => rw [z] at f; exact f.elim
          | true =>
            rw [z] at f
            obtain ⟨q1, q2⟩ := Bool.and_eq_true_iff.mp z
            obtain ⟨k1, k2⟩ := Bool.and_eq_true_iff.mp q1
            have k1 := of_decide_eq_true k1
            have k2 := of_decide_eq_true k2
            exact ⟨_, op_rep, a, k, xv, rfl, rfl, hx, by omega, by omega, by rw [← rx.length]; exact small_ok q2, fun p hp => FinO.new f ag hp ⟨_, upd_same, (rx.rep _).mono (Stp.new hp)⟩⟩
        | _ => exact f.elim
    | _ => cases q : h[n]? <;> exact f.elim
  | _ => exact f.elim
def eqD (h : Hi) (x y : VI) : Option Bool := match dat 66 h x, dat 66 h y with
  | some d, some e => match SeqAt.shaped d && SeqAt.shaped e with
    | true => some (PyData.eqv d e)
    | false => none
  | _, _ => none
def fEq : Op2 := fun x y h => match eqD h x y with
  | some b => some (.bl b, h)
  | none => none
def fNe : Op2 := fun x y h => match eqD h x y with
  | some b => some (.bl (!b), h)
  | none => none
def fInt (p : Int → Int → Bool) : Op2 := fun x y h => match x, y with
  | .int i, .int j => some (.bl (p i j), h)
  | _, _ => none
def fLt : Op2 := fInt fun i j => decide (i < j)
def fLe : Op2 := fInt fun i j => decide (i ≤ j)
def fGt : Op2 := fInt fun i j => decide (j < i)
def fGe : Op2 := fInt fun i j => decide (j ≤ i)
def fIsN : Op2 := fun x y h => match y with
  | .non => some (.bl (match x with | .non => true | _ => false), h)
  | _ => none
def fNotN : Op2 := fun x y h => match y with
  | .non => some (.bl (match x with | .non => false | _ => true), h)
  | _ => none
theorem eqD_ok {h : Hi} {xi yi : VI} {x y : V} {b : Bool} (ag : Ag G ρ h H) (r1 : RV G ρ H xi x) (r2 : RV G ρ H yi y) (e : eqD h xi yi = some b) : ∃ d d', Dp G.K H x d ∧ Dp G.K H y d' ∧ SeqAt.shaped d = true ∧ SeqAt.shaped d' = true ∧ b = PyData.eqv d d' := by
  unfold eqD at e
  cases e1 : dat 66 h xi with
  | none => rw [e1] at e; cases e
  | some d =>
    cases e2 : dat 66 h yi with
    | none => rw [e1, e2] at e; cases e
    | some d' =>
      rw [e1, e2] at e
      dsimp only at e
      cases q : SeqAt.shaped d && SeqAt.shaped d' with
      | false => rw [q] at e; cases e
      | true =>
        rw [q] at e
        cases e
        obtain ⟨q1, q2⟩ := Bool.and_eq_true_iff.mp q
        exact ⟨d, d', dat_ok ag _ _ _ _ r1 e1, dat_ok ag _ _ _ _ r2 e2, q1, q2, rfl⟩
theorem mo_eq (hG : G.K = X.K) (hu : X.A.units + 64 < cLine) : OpR X (compareOp .Eq) (rd2 G fEq) := opR_at fun ρ h H xi yi x y Q ag r1 r2 f => by
  unfold fEq at f
  cases e : eqD h xi yi with
  | none => rw [e] at f; exact f.elim
  | some b =>
    rw [e] at f
    obtain ⟨d, d', p1, p2, s1, s2, rfl⟩ := eqD_ok ag r1 r2 e
    exact ⟨_, op_eqD hu, d, d', hG ▸ p1, hG ▸ p2, s1, s2, f.ok ag (.bl _)⟩
theorem mo_ne (hG : G.K = X.K) (hu : X.A.units + 64 < cLine) : OpR X (compareOp .NotEq) (rd2 G fNe) := opR_at fun ρ h H xi yi x y Q ag r1 r2 f => by
  unfold fNe at f
  cases e : eqD h xi yi with
  | none => rw [e] at f; exact f.elim
  | some b =>
    rw [e] at f
    obtain ⟨d, d', p1, p2, s1, s2, rfl⟩ := eqD_ok ag r1 r2 e
    exact ⟨_, op_neD hu, d, d', hG ▸ p1, hG ▸ p2, s1, s2, f.ok ag (.bl _)⟩
end
end ML
end
section
namespace ML
open PySem L2
def tOf (e : ME) : MT := fun σ h => (e σ h).bind fun v h1 => match v with
  | .bl b => .ok b h1
  | _ => .err
def tAndM (a b : MT) : MT := fun σ h => (a σ h).bind fun c h1 => match c with
  | true => b σ h1
  | false => .ok false h1
def tOrM (a b : MT) : MT := fun σ h => (a σ h).bind fun c h1 => match c with
  | true => .ok true h1
  | false => b σ h1
def tNotM (a : MT) : MT := fun σ h => (a σ h).bind fun c h1 => .ok (!c) h1
def eAnd (a b : ME) : ME := fun σ h => (a σ h).bind fun v h1 => match v with
  | .bl true => b σ h1
  | .bl false => .ok (.bl false) h1
  | _ => .err
def eOr (a b : ME) : ME := fun σ h => (a σ h).bind fun v h1 => match v with
  | .bl true => .ok (.bl true) h1
  | .bl false => b σ h1
  | _ => .err
def eNot (a : ME) : ME := fun σ h => (a σ h).bind fun v h1 => match v with
  | .bl b => .ok (.bl (!b)) h1
  | _ => .err
def eIf (t : MT) (a b : ME) : ME := fun σ h => (t σ h).bind fun c h1 => match c with
  | true => a σ h1
  | false => b σ h1
section
variable {G : Gx} {W : WX} {X : Cx} {e a b c : Expr} {rest : List Expr} {pos : Pos} {me ma mb : ME} {ta tb : MT}
theorem rdG_at {α β : Type} {R : List Addr → Hp → α → β → Prop} {m : Sg → Hi → Res α} {Q : β → Hp → Prop} {ρ : List Addr} {σi : Sg} {h : Hi} {H : Hp} {σ : St} (as : AgS G ρ H σi σ) (a : Ag G ρ h H) (f : FinG G ρ H R Q (fun c d H' => W c d σ H') (m σi h)) : rdG G R W m σ H Q := ⟨ρ, σi, h, as, a, f⟩
theorem mt_val (h : PE X e (rdE G W me)) (he : ∀ whole, isTrue e X.env whole = (do let v ← whole; standAt e.pos; holding [v] (truthy v)) := by intro _; rfl) : PT X e (rdT G W (tOf me)) :=
  PT.imp' (pt_val h he) fun σ H Q ⟨ρ, σi, h, as, ag, f⟩ => rdG_go as ag f fun ρ1 H1 h1 x x' st as ag r f => by
    cases r with
    | bl b => exact ⟨b, rfl, f.ok ag rfl⟩
    | _ => exact f.elim
theorem mw_or1 (ha : PT X a (rdT G W ta)) : PW X (.BoolOp .Or [a] pos) (rdT G W ta) := pw_or1 ha
theorem mw_or (ha : PT X a (rdT G W ta)) (hb : PW X (.BoolOp .Or (b :: rest) pos) (rdT G W tb)) : PW X (.BoolOp .Or (a :: b :: rest) pos) (rdT G W (tOrM ta tb)) :=
  PW.imp' (pw_or ha hb) fun σ H Q ⟨ρ, σi, h, as, ag, f⟩ => rdG_go as ag f fun ρ1 H1 h1 x x' st as ag r f => by
    subst r
    cases x with
    | true => rw [if_pos rfl]; exact f.ok ag rfl
    | false => rw [if_neg Bool.false_ne_true]; exact rdG_at as ag f
theorem mt_not (ha : PT X a (rdT G W ta)) : PT X (.UnaryOp .Not a pos) (rdT G W (tNotM ta)) :=
  PT.imp' (pt_not ha) fun σ H Q ⟨ρ, σi, h, as, ag, f⟩ => rdG_go as ag f fun ρ1 H1 h1 x x' st as ag r f => by
    subst r
    exact f.ok ag rfl
theorem me_one {op} (h : PE X a (rdE G W me)) : PE X (.BoolOp op [a] pos) (rdE G W me) := pe_one h
theorem me_and (ha : PE X a (rdE G W ma)) (hb : PE X (.BoolOp .And (b :: rest) pos) (rdE G W mb)) : PE X (.BoolOp .And (a :: b :: rest) pos) (rdE G W (eAnd ma mb)) :=
  PE.imp' (pe_and ha hb) fun σ H Q ⟨ρ, σi, h, as, ag, f⟩ => rdG_go as ag f fun ρ1 H1 h1 x x' st as ag r f => by
    cases r with
    | bl b =>
      refine ⟨b, rfl, ?_⟩
      cases b with
      | true => rw [if_pos rfl]; exact rdG_at as ag f
      | false => rw [if_neg Bool.false_ne_true]; exact f.ok ag (.bl _)
    | _ => exact f.elim
theorem me_not (ha : PE X a (rdE G W ma)) : PE X (.UnaryOp .Not a pos) (rdE G W (eNot ma)) :=
  PE.imp' (pe_not ha) fun σ H Q ⟨ρ, σi, h, as, ag, f⟩ => rdG_go as ag f fun ρ1 H1 h1 x x' st as ag r f => by
    cases r with
    | bl b => exact ⟨b, rfl, f.ok ag (.bl _)⟩
    | _ => exact f.elim
end
inductive RS where
  | nx (σ : Sg) (h : Hi) | rt (v : VI) (h : Hi) | bk (σ : Sg) (h : Hi) | ct (σ : Sg) (h : Hi) | ex (c n : Nat) (σ : Sg) (h : Hi) | err
abbrev MS := Sg → Hi → RS
def Res.bindS {α : Type} (r : Res α) (σ : Sg) (f : α → Hi → RS) : RS := match r with
  | .ok a h => f a h
  | .ex c n h => .ex c n σ h
  | .err => .err
def RS.andThen (r : RS) (f : MS) : RS := match r with
  | .nx σ h => f σ h
  | o => o
def FinS (G : Gx) (ρ : List Addr) (H : Hp) (D : Ends) (W : WX) : RS → Prop
  | .nx σ' h' => ∀ ρ' H' σ, Stp G ρ H ρ' H' → Ag G ρ' h' H' → AgS G ρ' H' σ' σ → D.nx σ H'
  | .bk σ' h' => ∀ ρ' H' σ, Stp G ρ H ρ' H' → Ag G ρ' h' H' → AgS G ρ' H' σ' σ → D.bk σ H'
  | .ct σ' h' => ∀ ρ' H' σ, Stp G ρ H ρ' H' → Ag G ρ' h' H' → AgS G ρ' H' σ' σ → D.ct σ H'
  | .rt v h' => ∀ ρ' H' x, Stp G ρ H ρ' H' → Ag G ρ' h' H' → RV G ρ' H' v x → D.rt x H'
  | .ex c n σ' h' => ∀ ρ' H' d C σ, Stp G ρ H ρ' H' → Ag G ρ' h' H' → AgS G ρ' H' σ' σ → ρ'[n]? = some d → G.ct c = some C → W (.ref C) (some d) σ H'
  | .err => False
def rdS (G : Gx) (W : WX) (m : MS) : TS := fun D σ H => ∃ ρ σi h, AgS G ρ H σi σ ∧ Ag G ρ h H ∧ FinS G ρ H D W (m σi h)
def sNx : MS := fun σ h => .nx σ h
def sSeq (a b : MS) : MS := fun σ h => (a σ h).andThen b
def sBk : MS := fun σ h => .bk σ h
def sCt : MS := fun σ h => .ct σ h
def sRet (e : ME) : MS := fun σ h => (e σ h).bindS σ fun v h1 => .rt v h1
def sRetN : MS := fun σ h => .rt .non h
def sDrop (e : ME) : MS := fun σ h => (e σ h).bindS σ fun _ h1 => .nx σ h1
def sIf (t : MT) (a b : MS) : MS := fun σ h => (t σ h).bindS σ fun c h1 => match c with
  | true => a σ h1
  | false => b σ h1
abbrev MG := VI → Sg → Hi → RS
def gNm (i : Nat) : MG := fun v σ h => .nx (σ.set i (some v)) h
def sAsg (e : ME) (g : MG) : MS := fun σ h => (e σ h).bindS σ fun v h1 => g v σ h1
section
variable {G : Gx} {W : WX} {X : Cx} {ρ ρ1 : List Addr} {H H1 : Hp} {σ : St} {σi : Sg} {h : Hi} {D : Ends} {e : Expr} {st : Stmt} {pos : Pos} {me : ME} {ms mr : MS} {mt : MT} {rest : List Stmt}
theorem FinS.later (st : Stp G ρ H ρ1 H1) : ∀ {r : RS}, FinS G ρ H D W r → FinS G ρ1 H1 D W r
  | .nx _ _, f => fun ρ' H' x s => f ρ' H' x (st.trans s)
  | .bk _ _, f => fun ρ' H' x s => f ρ' H' x (st.trans s)
  | .ct _ _, f => fun ρ' H' x s => f ρ' H' x (st.trans s)
  | .rt _ _, f => fun ρ' H' x s => f ρ' H' x (st.trans s)
  | .ex _ _ _ _, f => fun ρ' H' d C x s => f ρ' H' d C x (st.trans s)
  | .err, f => f
theorem rdS_go {α β : Type} {R : List Addr → Hp → α → β → Prop} {m : Sg → Hi → Res α} {k : α → Hi → RS} {N : β → Hp → Prop}
    (as : AgS G ρ H σi σ) (a : Ag G ρ h H) (f : FinS G ρ H D W ((m σi h).bindS σi k))
    (nx : ∀ ρ1 H1 h1 x y, Stp G ρ H ρ1 H1 → AgS G ρ1 H1 σi σ → Ag G ρ1 h1 H1 → R ρ1 H1 x y → FinS G ρ1 H1 D W (k x h1) → N y H1) : rdG G R W m σ H N := by
  refine ⟨ρ, σi, h, as, a, ?_⟩
  cases e : m σi h with
  | err => rw [e] at f; exact f
  | ex c n h' =>
    rw [e] at f
    exact fun ρ' H' d C st a' hn hc => f ρ' H' d C σ st a' (as.mono st) hn hc
  | ok v h' =>
    rw [e] at f
    exact fun ρ' H' x st a' r => nx ρ' H' h' v x st (as.mono st) a' r (FinS.later st f)
theorem FinS.nx (f : FinS G ρ H D W (.nx σi h)) (a : Ag G ρ h H) (as : AgS G ρ H σi σ) : D.nx σ H := f ρ H σ .refl a as
theorem ms_nil : PSs X [] (rdS G W sNx) := PSs.imp' pss_nil fun D σ H ⟨ρ, σi, h, as, ag, f⟩ => f.nx ag as
theorem ms_cons (h1 : PS X st (rdS G W ms)) (h2 : PSs X rest (rdS G W mr)) : PSs X (st :: rest) (rdS G W (sSeq ms mr)) :=
  PSs.imp' (pss_cons h1 h2) fun D σ H ⟨ρ, σi, h, as, ag, f⟩ => by
    refine ⟨ρ, σi, h, as, ag, ?_⟩
    have f' : FinS G ρ H D W ((ms σi h).andThen mr) := f
    cases e : ms σi h with
    | nx σ' h' =>
      rw [e] at f'
      exact fun ρ' H' σ2 st ag2 as2 => ⟨ρ', σ', h', as2, ag2, FinS.later st f'⟩
    | bk σ' h' => rw [e] at f'; exact f'
    | ct σ' h' => rw [e] at f'; exact f'
    | rt v h' => rw [e] at f'; exact f'
    | ex c n σ' h' => rw [e] at f'; exact f'
    | err => rw [e] at f'; exact f'
theorem ms_one (h1 : PS X st (rdS G W ms)) : PSs X [st] (rdS G W ms) := pss_one h1
theorem ms_ret (he : PE X e (rdE G W me)) : PS X (.Return (some e) pos) (rdS G W (sRet me)) :=
  PS.imp' (ps_ret he) fun D σ H ⟨ρ, σi, h, as, ag, f⟩ => rdS_go as ag f fun ρ1 H1 h1 x x' st as ag r f => f ρ1 H1 x' .refl ag r
theorem ms_if {c : Expr} {a b : List Stmt} {ma mb : MS} (hc : PT X c (rdT G W mt)) (ha : PSs X a (rdS G W ma)) (hb : PSs X b (rdS G W mb)) : PS X (.If c a b pos) (rdS G W (sIf mt ma mb)) :=
  PS.imp' (ps_if hc ha hb) fun D σ H ⟨ρ, σi, h, as, ag, f⟩ => rdS_go as ag f fun ρ1 H1 h1 x x' st as ag r f => by
    subst r
    cases x with
    | true => rw [if_pos rfl]; exact ⟨ρ1, _, h1, as, ag, f⟩
    | false => rw [if_neg Bool.false_ne_true]; exact ⟨ρ1, _, h1, as, ag, f⟩
def rdGt (G : Gx) (W : WX) (g : MG) : TG := fun v σ H Q => ∃ ρ σi h vi, AgS G ρ H σi σ ∧ Ag G ρ h H ∧ RV G ρ H vi v ∧ FinS G ρ H { nx := Q, rt := fun _ _ => False } W (g vi σi h)
theorem mg_name {i : Nat} {x : Str} (hN : X.N.Nodup) (hi : X.N[i]? = some x) (hx : Loc X.env.scope x) (hf : X.fn x = true ∨ X.env.scope.names.lookup x = some .local := by first | exact .inl rfl | exact .inr rfl | assumption) : PG X (.Name x pos) (rdGt G W (gNm i)) :=
  ⟨fun pins s σ H v u Q I r ⟨ρ, σi, h, vi, as, ag, rv, f⟩ => (pg_name hN hi hx hf).run pins s σ H v u Q I r (f.nx ag (as.set rv i))⟩
def OnlyNx (g : MG) : Prop := ∀ v σ h, (∃ σ' h', g v σ h = .nx σ' h') ∨ (∃ c n σ' h', g v σ h = .ex c n σ' h') ∨ g v σ h = .err
theorem FinS.ends {D' : Ends} {r : RS} (hn : (∃ σ' h', r = .nx σ' h') ∨ (∃ c n σ' h', r = .ex c n σ' h') ∨ r = .err) (f : FinS G ρ H D W r) (e : D'.nx = D.nx) : FinS G ρ H D' W r := by
  rcases hn with ⟨σ', h', q⟩ | ⟨c, n, σ', h', q⟩ | q
  · rw [q] at f ⊢; exact fun ρ' H' σ s a as => by rw [e]; exact f ρ' H' σ s a as
  · rw [q] at f ⊢; exact f
  · rw [q] at f ⊢; exact f
theorem onlyNx_name (i : Nat) : OnlyNx (gNm i) := fun _ _ _ => .inl ⟨_, _, rfl⟩
theorem ms_set {i : Nat} {x : Str} {pos' : Pos} (hN : X.N.Nodup) (hi : X.N[i]? = some x) (hx : Loc X.env.scope x) (he : PE X e (rdE G W me)) (hs : swapsWith e (some (.Name x pos')) pos.line X.env = pure false := by rfl) (hf : X.fn x = true ∨ X.env.scope.names.lookup x = some .local := by first | exact .inl rfl | exact .inr rfl | assumption) :
    PS X (.Assign [.Name x pos'] e pos) (rdS G W (sAsg me (gNm i))) :=
  PS.imp' (ps_set hN hi hx he hs hf) fun D σ H ⟨ρ, σi, h, as, ag, f⟩ => rdS_go as ag f fun ρ1 H1 h1 x x' st as ag r f => f.nx ag (as.set r i)
end
end ML
end
section
namespace ML
open PySem L2 PyProof.Rows
abbrev MF := List VI → Hi → Res VI
def endB : RS → Res VI
  | .nx _ h' => .ok .non h'
  | .rt v h' => .ok v h'
  | .ex c k _ h' => .ex c k h'
  | _ => .err
def runB (np n : Nat) (body : MS) : MF := fun vs h => match Nat.beq vs.length np with
  | true => endB (body (vs.map some ++ List.replicate n none) h)
  | false => .err
def spM (G : Gx) (np : Nat) (f : MF) : Sp := fun vs H Q E => ∃ ρ h args, args.length = np ∧ Ag G ρ h H ∧ RVs G ρ H args vs ∧ FinG G ρ H (RV G) Q (fun c d H' => E c d H') (f args h)
def CallM (X : Cx) (G : Gx) (W : WX) (fv : Value) (f : MF) : Prop :=
  ∀ (pins : List (Addr × Obj)) (s : Shared) (σ : L2.St) (H : Hp) (us : List Value) (vs : List V) (args : List VI) (ρ : List Addr) (h : Hi) (Q : VK), Inv X pins σ H s → Vals vs us → RVs G ρ H args vs → Ag G ρ h H →
    FinG G ρ H (RV G) Q (fun c d H' => W c d σ H') (f args h) → wpAny (model X.prog X.w) X.A (call fv us) (EP X pins σ Q) X.xe s
section
variable {G : Gx} {W : WX} {X : Cx} {ρ : List Addr} {h : Hi} {H : Hp} {σ : L2.St} {k np : Nat} {f C : Addr} {fd : FuncData} {ps : List Str} {g : MF}
theorem spM_len {vs : List V} {Q : VK} {E : XK} (h : spM G np g vs H Q E) : vs.length = np := by
  obtain ⟨_, _, args, l, _, r, _⟩ := h
  rw [← r.length, l]
theorem RVs.some_all : ∀ {vs : List VI} {xs : List V}, RVs G ρ H vs xs → ∀ (i : Nat) (v : VI), (vs.map some)[i]? = some (some v) → ∃ x, (xs.map some)[i]? = some (some x) ∧ RV G ρ H v x := fun {vs xs} r i v e => by
  rw [List.getElem?_map] at e
  cases q : vs[i]? with
  | none => rw [q] at e; cases e
  | some w =>
    rw [q] at e
    cases e
    obtain ⟨b, hb, rb⟩ := r.get q
    exact ⟨b, by rw [List.getElem?_map, hb] <;> rfl, rb⟩
theorem ags_start {N : List Str} {n : Nat} {args : List VI} {vs : List V} (r : RVs G ρ H args vs) (hn : N.length = vs.length + n) : AgS G ρ H (args.map some ++ List.replicate n none) (L2.start N vs) := by
  have hz : N.length - vs.length = n := by omega
  have hl : (args.map (some : VI → Option VI)).length = (vs.map (some : V → Option V)).length := by simp [r.length]
  unfold L2.start
  rw [hz]
  refine ⟨by simp [r.length], fun i v e => ?_⟩
  by_cases q : i < (args.map (some : VI → Option VI)).length
  · rw [List.getElem?_append_left q] at e
    rw [List.getElem?_append_left (by rw [← hl]; exact q)]
    exact r.some_all i v e
  · rw [List.getElem?_append_right (Nat.le_of_not_lt q)] at e
    have := List.mem_of_getElem? e
    rw [List.mem_replicate] at this
    cases this.2
theorem fn_M {P : Program} {w : World} {K : PySem.W.Frag} {mg : Str → Option Value} {base : Heap} {x qual : Str} {params : Arguments} {body : List Stmt} {scope : Scope} {dvs : List V} {kws : List (Str × V)} {N : List Str} {n : Nat} {mb : MS}
    (F : FunD K x qual params body scope dvs kws f fd) (S : FnScope N ps scope) (hn : N.length = ps.length + n)
    (hb : ∀ (cdv : Value) (A : Around) (outer : List Env) (s : Shared) (H : Hp) (E : XK), Room k (cxOf (CX z P w) P w K mg base N qual scope f cdv A outer s H E).A →
      Takes z (cxOf (CX z P w) P w K mg base N qual scope f cdv A outer s H E) (fun c d _ H => E c d H) →
      PassesOwn (model P w) (cxOf (CX z P w) P w K mg base N qual scope f cdv A outer s H E).A (cxOf (CX z P w) P w K mg base N qual scope f cdv A outer s H E).env (cxOf (CX z P w) P w K mg base N qual scope f cdv A outer s H E).xe →
      PSs (cxOf (CX z P w) P w K mg base N qual scope f cdv A outer s H E) body (rdS G (fun c d _ H => E c d H) mb)) : FnOk P w K mg base (CX z P w) (k + 1) f fd ps (spM G ps.length (runB ps.length n mb)) := by
  refine F.ok S (fun vs H Q E h => spM_len h) (fun cdv A outer s H vs Q E hr hsp => ?_)
  obtain ⟨ρ, h, args, l, ag, r, fin⟩ := hsp
  refine ⟨_, hb cdv A outer s H E hr (takes_of rfl rfl rfl rfl) (passes_of rfl), ?_⟩
  refine ⟨ρ, _, h, ags_start r (by rw [← r.length, l]; exact hn), ag, ?_⟩
  unfold runB at fin
  rw [show Nat.beq args.length ps.length = true from by rw [l]; exact Nat.beq_refl _] at fin
  dsimp only at fin
  cases e : mb (args.map some ++ List.replicate n none) h with
  | nx σ' h' => rw [e] at fin; exact fun ρ' H' σ2 st a' as' => fin ρ' H' .non st a' .non
  | rt v h' => rw [e] at fin; exact fin
  | bk σ' h' => rw [e] at fin; exact fin.elim
  | ct σ' h' => rw [e] at fin; exact fin.elim
  | ex c n σ' h' => rw [e] at fin; exact fun ρ' H' d C σ2 st a' as' hn hc => fin ρ' H' d C st a' hn hc
  | err => rw [e] at fin; exact fin
def Arity (np : Nat) (g : MF) : Prop := ∀ vs h, vs.length ≠ np → g vs h = .err
theorem arity_runB {n : Nat} {mb : MS} : Arity np (runB np n mb) := fun vs h hl => by
  unfold runB
  rw [show Nat.beq vs.length np = false from Bool.eq_false_iff.mpr fun z => hl (Nat.eq_of_beq_eq_true z)]
theorem callM_fn (F : FnOk X.prog X.w X.K X.mg X.base (CX z X.prog X.w) k f fd ps (spM G ps.length g)) (ar : Arity ps.length g) (hr : Room k X.A) (hb : Binds X.K fd ps []) (tk : Takes z X W) : CallM X G W (.ref f) g := by
  intro pins s σ H us vs args ρ h Q I r ra ag fin
  by_cases hl : args.length = ps.length
  · have hsp : spM G ps.length g vs H Q (WE W σ) := ⟨ρ, h, args, hl, ag, ra, fin⟩
    have lu : us.length = ps.length := by rw [← r.length, ← ra.length]; exact hl
    have b := hb s us I.kIn (by rw [List.append_nil]; exact lu)
    rw [List.append_nil] at b
    refine wpAny_call (codeAny_mono (F.run _ _ s H ⟨us, []⟩ us vs Q (WE W σ) hr I.env0 b r hsp) fun res s' hq => ?_)
    match res, hq with
    | .error e, hq => exact passAt tk σ pins H s e s' I hq
    | .ok (.ret u), hq => exact I.after hq
  · rw [ar args h hl] at fin
    exact fin.elim
end
end ML
end
section
namespace ML
open PySem L2 PyProof.Rows
def eCall (g : MF) (ma : MA) : ME := fun σ h => (ma σ h).bind fun vs h1 => g vs h1
def getF (f : S) : List (S × VI) → Option VI
  | [] => none
  | (g, v) :: r => match decide (g = f) with
    | true => some v
    | false => getF f r
def setF (f : S) (v : VI) : List (S × VI) → List (S × VI)
  | [] => [(f, v)]
  | (g, x) :: r => match decide (g = f) with
    | true => (g, v) :: r
    | false => (g, x) :: setF f v r
section
variable {G : Gx} {ρ : List Addr} {H : Hp}
theorem RFs.getF : ∀ {fs : List (S × VI)} {gs : List (Str × V)} (f : S), RFs G ρ H fs gs → match ML.getF f fs with
    | some v => ∃ x, gs.lookup (toStr f) = some x ∧ RV G ρ H v x
    | none => gs.lookup (toStr f) = none
  | _, _, f, .nil => rfl
  | _, _, f, .cons (f := k) (g := g) (fs := fs) (gs := gs) e h t => by
    subst e
    unfold ML.getF
    by_cases q : k = f
    · subst q
      rw [decide_eq_true rfl]
      exact ⟨_, by simp [List.lookup], h⟩
    · rw [decide_eq_false q]
      have hb : (toStr f == toStr k) = false := beq_eq_false_iff_ne.mpr fun z => q (toStr_inj z).symm
      dsimp only
      have ih := RFs.getF f t
      simp only [List.lookup, hb]
      exact ih
theorem RFs.setF : ∀ {fs : List (S × VI)} {gs : List (Str × V)} {v : VI} {x : V} (f : S), RFs G ρ H fs gs → RV G ρ H v x → RFs G ρ H (ML.setF f v fs) (putF (toStr f) x gs)
  | _, _, _, _, f, .nil, r => .cons rfl r .nil
  | _, _, v, x, f, .cons (f := k) (g := g) (fs := fs) (gs := gs) e h t, r => by
    subst e
    unfold ML.setF
    by_cases q : k = f
    · subst q
      rw [decide_eq_true rfl]
      show RFs G ρ H _ (if toStr k = toStr k then _ else _)
      rw [if_pos rfl]
      exact .cons rfl r t
    · rw [decide_eq_false q]
      show RFs G ρ H _ (if toStr k = toStr f then _ else _)
      rw [if_neg fun z => q (toStr_inj z)]
      exact .cons rfl h (RFs.setF f t r)
end
def eFld (cs : List Nat) (f : S) (e : ME) : ME := fun σ h => (e σ h).bind fun x h1 => match x with
  | .ref n => match h1[n]? with
    | some (.ins c fs) => match cs.contains c, getF f fs with
      | true, some v => .ok v h1
      | _, _ => .err
    | _ => .err
  | _ => .err
def eCon (tbl : Nat → Option VI) (f : S) (e : ME) : ME := fun σ h => (e σ h).bind fun x h1 => match x with
  | .ref n => match h1[n]? with
    | some (.ins c fs) => match tbl c, getF f fs with
      | some v, none => .ok v h1
      | _, _ => .err
    | _ => .err
  | _ => .err
def sFldM (cs : List Nat) (f : S) (o v : ME) : MS := fun σ h => (v σ h).bindS σ fun y h1 => (o σ h1).bindS σ fun x h2 => match x with
  | .ref n => match h2[n]? with
    | some (.ins c fs) => match cs.contains c && Nat.blt fs.length 1000 with
      | true => .nx σ (h2.set n (.ins c (setF f y fs)))
      | false => .err
    | _ => .err
  | _ => .err
def eMeth (tbl : Nat → Option MF) (m : S) (o : ME) (ma : MA) : ME := fun σ h => (o σ h).bind fun x h1 => match x with
  | .ref n => match h1[n]? with
    | some (.ins c fs) => match tbl c, getF m fs with
      | some g, none => (ma σ h1).bind fun vs h2 => g (.ref n :: vs) h2
      | _, _ => .err
    | _ => .err
  | _ => .err
section
variable {G : Gx} {W : WX} {X : Cx} {ρ : List Addr} {h : Hi} {H : Hp} {σ : L2.St} {k : Nat} {f C : Addr} {fd : FuncData} {ps : List Str} {g : MF} {x : Str} {p pos apos pos' : Pos} {e o v : Expr} {es : List Expr} {ma : MA} {me mo mv : ME}
theorem me_call (c : CallM X G W (.ref f) g) (hg : Gl X x) (hm : X.mg x = some (.ref f)) (hk : PySem.W.keepIn X.K (.ref f) = true) (ha : PA X (e :: es) (rdA G W ma)) (hdb : (x == ("__debug__" : Str)) = false := by decide)
    (he : starEach (e :: es) X.env = (false, eval e X.env) :: starEach es X.env := by rfl) (hpl : (backTo pos (starEach es X.env)).any (·.1) = false := by rfl) : PE X (.Call (.Name x p) (e :: es) [] pos) (rdE G W (eCall g ma)) := by
  refine ⟨fun pins s σ H Q I ⟨ρ, σi, h, as, ag, fin⟩ => ?_⟩
  refine wpAny_Call_Name_kw (ld_glob I hg hm ?_ hdb)
  have A : rdA G W ma σ H fun vs H1 => ∃ ρ1 h1 args, RVs G ρ1 H1 args vs ∧ Ag G ρ1 h1 H1 ∧ FinG G ρ1 H1 (RV G) Q (fun c d H' => W c d σ H') (g args h1) :=
    rdG_go as ag fin fun ρ1 H1 h1 xs ys st as ag r f => ⟨ρ1, h1, xs, r, ag, f⟩
  refine PySem.W.callWith_K (h₀ := X.base) I.ok.mod.kin hk (thn (ha.run pos pins s σ H _ I A) fun us s1 ⟨vs, H1, I1, r, q⟩ => ⟨I1.kIn, ?_⟩) he hpl
  obtain ⟨ρ1, h1, args, ra, ag1, f1⟩ := q
  exact c pins s1 σ H1 us vs args ρ1 h1 Q I1 r ra ag1 f1
end
end ML
end
section
namespace ML
open PySem L2 PyProof.Rows
section
variable {G : Gx} {W : WX} {X : Cx} {ρ : List Addr} {h : Hi} {H : Hp} {σ : L2.St} {k : Nat} {f C : Addr} {fd : FuncData} {ps : List Str} {g : MF} {x : Str} {p pos apos pos' : Pos} {e o v : Expr} {es : List Expr} {ma : MA} {me mo mv : ME}
def mkM (c : Nat) (g : MF) : MF := fun vs h => match g (.ref h.length :: vs) (h ++ [.ins c []]) with
  | .ok .non h2 => .ok (.ref h.length) h2
  | .ex c n h2 => .ex c n h2
  | _ => .err
def okM : Res VI → Res VI
  | .ok v h => .ok v h
  | _ => .err
def eProp (tbl : Nat → Option MF) (e : ME) : ME := fun σ h => (e σ h).bind fun x h1 => match x with
  | .ref n => match h1[n]? with
    | some (.ins c fs) => match tbl c with
      | some g => okM (g [.ref n] h1)
      | none => .err
    | _ => .err
  | _ => .err
end
end ML
end
section
namespace ML
open PySem L2
theorem PE.dispatch {X : Cx} {e : Expr} {t : TE} (h : ∀ σ H Q, t σ H Q → ∃ t', PE X e t' ∧ t' σ H Q) : PE X e t := ⟨fun pins s σ H Q I q => let ⟨_, p, q'⟩ := h σ H Q q; p.run pins s σ H Q I q'⟩
theorem PS.dispatch {X : Cx} {e : Stmt} {t : TS} (h : ∀ D σ H, t D σ H → ∃ t', PS X e t' ∧ t' D σ H) : PS X e t := ⟨fun pins s σ H D I q => let ⟨_, p, q'⟩ := h D σ H q; p.run pins s σ H D I q'⟩
abbrev OpC := List VI → Hi → Option (VI × Hi)
def rdC (G : Gx) (f : OpC) : List V → Hp → VK → Prop := fun xs H Q => ∃ ρ h args, Ag G ρ h H ∧ RVs G ρ H args xs ∧ FinO G ρ H (RV G) Q (f args h)
def eCB (f : OpC) (ma : MA) : ME := fun σ h => (ma σ h).bind fun vs h1 => ofO (f vs h1)
section
variable {G : Gx} {ρ : List Addr} {h : Hi} {H : Hp} {W : WX} {X : Cx} {e a b c o i : Expr} {es : List Expr} {pos p pos' apos : Pos} {me mi mo ma mb mv : ME} {mr : MA} {f : OpC} {x : Str} {id T : String}
theorem callR_at {fv : Value} (h : ∀ ρ h H args xs Q, Ag G ρ h H → RVs G ρ H args xs → FinO G ρ H (RV G) Q (f args h) → ∃ r, CallR X fv r ∧ r xs H Q) : CallR X fv (rdC G f) :=
  fun pins s σ H xs us Q I r ⟨ρ, hi, args, ag, ra, q⟩ => by
    obtain ⟨r', ho, hr⟩ := h ρ hi H args xs Q ag ra q
    exact ho pins s σ H xs us Q I r hr
theorem me_cb (hc : CallR X (.builtin id) (rdC G f)) (hg : Gl X x) (hm : X.mg x = none) (hv : bootBuiltins x = some (.builtin id)) (ha : PA X (e :: es) (rdA G W mr)) (hn : x ≠ "__name__" := by decide) (hdb : (x == ("__debug__" : Str)) = false := by decide)
    (he : starEach (e :: es) X.env = (false, eval e X.env) :: starEach es X.env := by rfl) (hpl : (backTo pos (starEach es X.env)).any (·.1) = false := by rfl) : PE X (.Call (.Name x p) (e :: es) [] pos) (rdE G W (eCB f mr)) :=
  PE.imp' (pe_callB hc hg hm hv ha hn hdb he hpl) fun σ H Q ⟨ρ, σi, h, as, ag, fin⟩ => rdG_go as ag fin fun ρ1 H1 h1 vs ys st as ag r fi => ⟨ρ1, h1, vs, ag, r, FinO.of fi⟩
def cLen : OpC := fun vs h => match vs with
  | [.tup xs] => some (.int xs.length, h)
  | [.str s] => match small s.length with
    | true => some (.int s.length, h)
    | false => none
  | [.ref n] => match h[n]? with
    | some (.lst xs) => some (.int xs.length, h)
    | some (.scr xs) => some (.int xs.length, h)
    | some (.dic kvs) => some (.int kvs.length, h)
    | _ => none
  | _ => none
theorem mc_len (hG : G.K = X.K) : CallR X (.builtin "len") (rdC G cLen) := callR_at fun ρ h H args xs Q ag ra fi => by
  unfold cLen at fi
  cases ra with
  | nil => exact fi.elim
  | cons r t =>
    cases t with
    | cons _ _ => cases r <;> exact fi.elim
    | nil =>
      cases r with
      | @tup xs ys a t1 s1 => exact ⟨_, call_len_seq, a, ys, rfl, .inr (hG ▸ t1), by rw [← s1.length]; exact fi.ok ag (.int _)⟩
      | @str s z q =>
        subst q
        dsimp only at fi
        cases q : small s.length with
        | false => rw [q] at fi; exact fi.elim
        | true =>
          rw [q] at fi
          exact ⟨_, call_len_str, _, rfl, by rw [toStr_length]; exact small_ok q, by rw [toStr_length]; exact fi.ok ag (.int _)⟩
      | @ref n a q =>
        dsimp only at fi
        cases q1 : h[n]? with
        | none => rw [q1] at fi; exact fi.elim
        | some ob =>
          rw [q1] at fi
          cases ob with
          | lst xs =>
            obtain ⟨ys, hy, rs⟩ := ag.at_ q1 q
            exact ⟨_, call_len_seq, a, ys, rfl, .inl (.inl (.inl hy)), by rw [← rs.length]; exact fi.ok ag (.int _)⟩
          | scr xs =>
            obtain ⟨ob, ys, hy, rs⟩ := ag.at_ q1 q
            exact ⟨_, call_len_seq, a, ys, rfl, .inl (.inl (.inr ⟨_, hy⟩)), by rw [← rs.length]; exact fi.ok ag (.int _)⟩
          | dic kvs =>
            obtain ⟨ks, hy, rs⟩ := ag.at_ q1 q
            exact ⟨_, call_lenD, a, ks, rfl, hy, by rw [← rs.length]; exact fi.ok ag (.int _)⟩
          | _ => exact fi.elim
      | _ => exact fi.elim
def cInt : OpC := fun vs h => match vs with
  | [.int i] => some (.int i, h)
  | [.bl b] => some (.int (if b then 1 else 0), h)
  | _ => none
def cMax : OpC := fun vs h => match vs with
  | [.int i, .int j] => some (.int (if j > i then j else i), h)
  | _ => none
def cMin : OpC := fun vs h => match vs with
  | [.int i, .int j] => some (.int (if j < i then j else i), h)
  | _ => none
def cList : OpC := fun vs h => match vs with
  | [.tup xs] => some (.ref h.length, h ++ [.lst xs])
  | [.ref n] => match h[n]? with
    | some (.lst xs) => some (.ref h.length, h ++ [.lst xs])
    | some (.scr xs) => some (.ref h.length, h ++ [.lst xs])
    | some (.dic kvs) => some (.ref h.length, h ++ [.lst (kvs.map (·.1))])
    | _ => none
  | _ => none
theorem RK.rv {a : VI} {k : Key} (r : RK a k) {H : Hp} {ρ : List Addr} : RV G ρ H a (kV k) := by
  cases a with
  | int i => cases r; exact .int i
  | str s => cases r; exact .str rfl
  | _ => exact r.elim
theorem RKs.keys {ρ : List Addr} {H : Hp} : ∀ {kvs : List (VI × VI)} {ks : List (Key × V)}, RKs G ρ H kvs ks → RVs G ρ H (kvs.map (·.1)) (ks.map fun kv => kV kv.1)
  | _, _, .nil => .nil
  | _, _, .cons e _ t => .cons (RK.rv e) (RKs.keys t)
def cTuple : OpC := fun vs h => match vs with
  | [.tup xs] => some (.tup xs, h)
  | [.ref n] => match h[n]? with
    | some (.lst xs) => some (.tup xs, h)
    | some (.scr xs) => some (.tup xs, h)
    | _ => none
  | _ => none
def cDict : OpC := fun vs h => match vs with
  | [.ref n] => match h[n]? with
    | some (.dic kvs) => some (.ref h.length, h ++ [.dic kvs])
    | _ => none
  | _ => none
end
end ML
end
section
namespace ML
open PySem L2
def keyEq : VI → VI → Bool
  | .int i, .int j => decide (i = j)
  | .str s, .str t => decide (s = t)
  | _, _ => false
def isKey : VI → Bool
  | .int _ => true
  | .str _ => true
  | _ => false
def getD (k : VI) : List (VI × VI) → Option VI
  | [] => none
  | (a, v) :: r => match keyEq a k with
    | true => some v
    | false => getD k r
def hasD (k : VI) : List (VI × VI) → Bool
  | [] => false
  | (a, _) :: r => match keyEq a k with
    | true => true
    | false => hasD k r
def repD (k v : VI) : List (VI × VI) → List (VI × VI)
  | [] => []
  | (a, x) :: r => match keyEq a k with
    | true => (a, v) :: repD k v r
    | false => (a, x) :: repD k v r
def putD (k v : VI) (d : List (VI × VI)) : List (VI × VI) := match hasD k d with
  | true => repD k v d
  | false => d ++ [(k, v)]
theorem keyEq_ok {a b : VI} {k l : Key} (ra : RK a k) (rb : RK b l) : keyEq a b = decide (k = l) := by
  cases a with
  | int i =>
    cases ra
    cases b with
    | int j => cases rb; simp [keyEq]
    | str t => cases rb; simp [keyEq]
    | _ => exact rb.elim
  | str s =>
    cases ra
    cases b with
    | int j => cases rb; simp [keyEq]
    | str t =>
      cases rb
      unfold keyEq
      by_cases e : s = t
      · subst e; simp
      · have : ¬ toStr s = toStr t := fun z => e (toStr_inj z)
        simp [e, this]
    | _ => exact rb.elim
  | _ => exact ra.elim
section
variable {G : Gx} {ρ : List Addr} {H : Hp}
theorem RKs.getD {b : VI} {l : Key} (rb : RK b l) : ∀ {kvs : List (VI × VI)} {ks : List (Key × V)}, RKs G ρ H kvs ks → match ML.getD b kvs with
    | some v => ∃ x, valV ks l = some x ∧ RV G ρ H v x
    | none => valV ks l = none
  | _, _, .nil => rfl
  | _, _, .cons (a := a) (k := k) (as := as) (ks := ks) e h t => by
    unfold ML.getD
    rw [keyEq_ok e rb]
    by_cases q : k = l
    · rw [decide_eq_true q]
      exact ⟨_, valV_pos q, h⟩
    · rw [decide_eq_false q]
      have ih := RKs.getD rb t
      rw [valV_neg q]
      exact ih
theorem RKs.hasD {b : VI} {l : Key} (rb : RK b l) : ∀ {kvs : List (VI × VI)} {ks : List (Key × V)}, RKs G ρ H kvs ks → ML.hasD b kvs = ks.any fun kv => decide (kv.1 = l)
  | _, _, .nil => rfl
  | _, _, .cons (a := a) (k := k) (as := as) (ks := ks) e h t => by
    unfold ML.hasD
    rw [keyEq_ok e rb, List.any_cons]
    by_cases q : k = l
    · rw [decide_eq_true q]
      rfl
    · rw [decide_eq_false q, Bool.false_or]
      exact RKs.hasD rb t
theorem RKs.repD {b v : VI} {x : V} {l : Key} (rb : RK b l) (rv : RV G ρ H v x) : ∀ {kvs : List (VI × VI)} {ks : List (Key × V)}, RKs G ρ H kvs ks → RKs G ρ H (ML.repD b v kvs) (ks.map fun kv => if kv.1 = l then (kv.1, x) else kv)
  | _, _, .nil => .nil
  | _, _, .cons (a := a) (k := k) (as := as) (ks := ks) e h t => by
    unfold ML.repD
    rw [keyEq_ok e rb, List.map_cons]
    by_cases q : k = l
    · rw [decide_eq_true q, if_pos q]
      exact .cons e rv (RKs.repD rb rv t)
    · rw [decide_eq_false q, if_neg q]
      exact .cons e h (RKs.repD rb rv t)
theorem RKs.snoc {b v : VI} {x : V} {l : Key} (rb : RK b l) (rv : RV G ρ H v x) : ∀ {kvs : List (VI × VI)} {ks : List (Key × V)}, RKs G ρ H kvs ks → RKs G ρ H (kvs ++ [(b, v)]) (ks ++ [(l, x)])
  | _, _, .nil => .cons rb rv .nil
  | _, _, .cons e h t => .cons e h (RKs.snoc rb rv t)
theorem RKs.putD {b v : VI} {x : V} {l : Key} (rb : RK b l) (rv : RV G ρ H v x) {kvs : List (VI × VI)} {ks : List (Key × V)} (r : RKs G ρ H kvs ks) : RKs G ρ H (ML.putD b v kvs) (putK ks l x) := by
  unfold ML.putD putK
  rw [r.hasD rb]
  cases ks.any fun kv => decide (kv.1 = l) with
  | true => rw [if_pos rfl]; exact r.repD rb rv
  | false => rw [if_neg Bool.false_ne_true]; exact r.snoc rb rv
theorem RV.key {b : VI} {y : V} (r : RV G ρ H b y) (hk : isKey b = true) : ∃ k, RK b k ∧ y = kV k := by
  cases r with
  | int i => exact ⟨.inl i, rfl, rfl⟩
  | str e => exact ⟨.inr _, rfl, by rw [e]; rfl⟩
  | _ => cases hk
end
def ixI (n : Nat) (i : Int) : Option Nat := if 0 ≤ i then (if i < n then some i.toNat else none) else if -(n : Int) ≤ i then some (i + n).toNat else none
def ixL (xs : List VI) (i : Int) : Option VI := match ixI xs.length i with
  | some j => xs[j]?
  | none => none
def fIx : Op2 := fun x y h => match x with
  | .tup xs => match y with
    | .int i => match ixL xs i with
      | some v => some (v, h)
      | none => none
    | _ => none
  | .ref n => match h[n]? with
    | some (.lst xs) => match y with
      | .int i => match ixL xs i with
        | some v => some (v, h)
        | none => none
      | _ => none
    | some (.scr xs) => match y with
      | .int i => match ixL xs i with
        | some v => some (v, h)
        | none => none
      | _ => none
    | some (.dic kvs) => match isKey y, getD y kvs with
      | true, some v => some (v, h)
      | _, _ => none
    | _ => none
  | _ => none
section
variable {G : Gx} {ρ : List Addr} {h : Hi} {H : Hp} {W : WX} {X : Cx} {e a b c o i v : Expr} {es : List Expr} {pos p pos' apos : Pos} {me mi mo ma mb mv : ME} {mr : MA}
theorem ixI_eq (n : Nat) (i : Int) : ixI n i = ixN n i := rfl
theorem RVs.ixL {xs : List VI} {ys : List V} {i : Int} {v : VI} (r : RVs G ρ H xs ys) (e : ML.ixL xs i = some v) : ∃ y, atI ys i = some y ∧ RV G ρ H v y := by
  unfold ML.ixL at e
  rw [ixI_eq, r.length] at e
  cases q : ixN ys.length i with
  | none => rw [q] at e; cases e
  | some j =>
    rw [q] at e
    obtain ⟨y, hy, ry⟩ := r.get e
    exact ⟨y, by unfold atI; rw [q]; exact hy, ry⟩
inductive IxK (X : Cx) (H : Hp) (x y : V) (Q : VK) : Prop
  | ix (r : R2) (h : IxR X r) (q : r x y H Q)
  | dict (a : Addr) (v : V) (e : x = .ref a) (g : DGet H a y (some v)) (q : Q v H)
theorem ix_kind (hG : G.K = X.K) {xi yi : VI} {x y : V} {Q : VK} (ag : Ag G ρ h H) (r1 : RV G ρ H xi x) (r2 : RV G ρ H yi y) (fi : FinO G ρ H (RV G) Q (fIx xi yi h)) : IxK X H x y Q := by
  unfold fIx at fi
  cases r1 with
  | @tup xs ys a t1 s1 =>
    cases r2 with
    | int j =>
      dsimp only at fi
      cases q : ixL xs j with
      | none => rw [q] at fi; exact fi.elim
      | some v =>
        rw [q] at fi
        obtain ⟨z, hz, rz⟩ := s1.ixL q
        exact .ix _ ix_tup ⟨a, ys, j, z, rfl, rfl, hG ▸ t1, hz, fi.ok ag rz⟩
    | _ => exact fi.elim
  | @ref n a e =>
    dsimp only at fi
    cases q1 : h[n]? with
    | none => rw [q1] at fi; exact fi.elim
    | some ob =>
      rw [q1] at fi
      cases ob with
      | lst xs =>
        obtain ⟨ys, hy, rs⟩ := ag.at_ q1 e
        cases r2 with
        | int j =>
          dsimp only at fi
          cases q : ixL xs j with
          | none => rw [q] at fi; exact fi.elim
          | some v =>
            rw [q] at fi
            obtain ⟨z, hz, rz⟩ := rs.ixL q
            exact .ix _ ix_list ⟨a, ys, j, z, rfl, rfl, .inl (.inl hy), hz, fi.ok ag rz⟩
        | _ => exact fi.elim
      | scr xs =>
        obtain ⟨ob, ys, hy, rs⟩ := ag.at_ q1 e
        cases r2 with
        | int j =>
          dsimp only at fi
          cases q : ixL xs j with
          | none => rw [q] at fi; exact fi.elim
          | some v =>
            rw [q] at fi
            obtain ⟨z, hz, rz⟩ := rs.ixL q
            exact .ix _ ix_list ⟨a, ys, j, z, rfl, rfl, .inl (.inr ⟨_, hy⟩), hz, fi.ok ag rz⟩
        | _ => exact fi.elim
      | dic kvs =>
        obtain ⟨ks, hy, rs⟩ := ag.at_ q1 e
        dsimp only at fi
        cases q2 : isKey yi with
        | false => rw [q2] at fi; exact fi.elim
        | true =>
          obtain ⟨k, rk, ey⟩ := r2.key q2
          have gd := rs.getD rk
          cases q3 : getD yi kvs with
          | none => rw [q2, q3] at fi; exact fi.elim
          | some v =>
            rw [q3] at gd
            rw [q2, q3] at fi
            obtain ⟨z, hz, rz⟩ := gd
            subst ey
            exact .dict a z rfl (by rw [← hz]; exact DGet.k hy) (fi.ok ag rz)
      | _ => exact fi.elim
  | _ => exact fi.elim
theorem me_ix (hG : G.K = X.K) (hu : X.A.units + 1 < cLine) (ha : PE X a (rdE G W ma)) (hb : PE X b (rdE G W mb)) (hs : PlainIx b) : PE X (.Subscript a b pos) (rdE G W (eBin fIx ma mb)) := by
  refine ⟨fun pins s σ H Q I ⟨ρ, σi, h, as, ag, fin⟩ => ?_⟩
  refine PyProof.Rows.Subscript_ (binT ha hb I (R := fun x y H2 => IxK X H2 x y Q) ?_ fun v u s2 x y H2 I2 rx ry q => ?_)
  · exact rdG_go as ag fin fun ρ1 H1 h1 x x' st as ag r f => rdG_go as ag f fun ρ2 H2 h2 y y' st2 as ag rs f => ix_kind hG ag (r.mono st2) rs (FinO.of f)
  · cases q with
    | ix r hr q => exact hr a b pins s2 σ H2 x y v u Q I2 rx ry q (hs _ _)
    | dict d w e g q =>
      subst e
      obtain rfl : v = Value.ref d := rx
      exact PyProof.Rows.tail_any (dict_typeIs I2 g) PySem.F.slot_dict_getitem.lookup (d_getItem hu I2 g ry fun w' s3 I3 rw' => ⟨w, H2, I3, rw', q⟩) (hs _ _)
end
end ML
end
section
namespace ML
open PySem L2
def putIx (o i v : VI) (h : Hi) : Option Hi := match o with
  | .ref n => match h[n]? with
    | some (.lst xs) => match i with
      | .int k => match ixI xs.length k with
        | some j => some (h.set n (.lst (xs.set j v)))
        | none => none
      | _ => none
    | some (.dic kvs) => match isKey i && small (kvs.length + 1) with
      | true => some (h.set n (.dic (putD i v kvs)))
      | false => none
    | _ => none
  | _ => none
def nxO (σ : Sg) : Option Hi → RS
  | some h => .nx σ h
  | none => .err
def gIx (o i : ME) : MG := fun v σ h => (o σ h).bindS σ fun x h1 => (i σ h1).bindS σ fun y h2 => nxO σ (putIx x y v h2)
section
variable {G : Gx} {ρ : List Addr} {h : Hi} {H : Hp} {W : WX} {X : Cx} {e a b c o i v : Expr} {es : List Expr} {pos p pos' apos cpos : Pos} {me mi mo ma mb mv : ME} {mr : MA}
theorem small_lt {n : Nat} (h : small (n + 1) = true) : n < sizeLine := small_ok h
def gFld (cs : List Nat) (f : S) (o : ME) : MG := fun y σ h => (o σ h).bindS σ fun x h2 => match x with
  | .ref n => match h2[n]? with
    | some (.ins c fs) => match cs.contains c && Nat.blt fs.length 1000 with
      | true => .nx σ (h2.set n (.ins c (setF f y fs)))
      | false => .err
    | _ => .err
  | _ => .err
def sPut (o i v : ME) : MS := fun σ h => (v σ h).bindS σ fun z h1 => (o σ h1).bindS σ fun x h2 => (i σ h2).bindS σ fun y h3 => nxO σ (putIx x y z h3)
def eGet2 (d k x : ME) : ME := fun σ h => (d σ h).bind fun a h1 => match a with
  | .ref n => match h1[n]? with
    | some (.dic _) => (k σ h1).bind fun y h2 => (x σ h2).bind fun z h3 => match h3[n]?, isKey y with
      | some (.dic kvs), true => .ok (match getD y kvs with | some v => v | none => z) h3
      | _, _ => .err
    | _ => .err
  | _ => .err
def aPairs : List (ME × ME) → Sg → Hi → Res (List (VI × VI))
  | [], _, h => .ok [] h
  | (k, v) :: r, σ, h => (k σ h).bind fun x h1 => (v σ h1).bind fun y h2 => (aPairs r σ h2).bind fun ps h3 => .ok ((x, y) :: ps) h3
def putAll (ps : List (VI × VI)) (d : List (VI × VI)) : List (VI × VI) := match ps with
  | [] => d
  | (k, v) :: r => putAll r (putD k v d)
def keysOk : List (VI × VI) → Bool
  | [] => true
  | (k, _) :: r => isKey k && keysOk r
def eDisp (ps : List (ME × ME)) : ME := fun σ h => (aPairs ps σ (h ++ [.dic []])).bind fun kvs h1 => match h1[h.length]? with
  | some (.dic []) => match keysOk kvs && Nat.ble kvs.length 15 with
    | true => .ok (.ref h.length) (h1.set h.length (.dic (putAll kvs [])))
    | false => .err
  | _ => .err
inductive RPs (G : Gx) (ρ : List Addr) (H : Hp) : List (VI × VI) → List (V × V) → Prop
  | nil : RPs G ρ H [] []
  | cons {a b : VI} {x y : V} {as : List (VI × VI)} {xs : List (V × V)} (h1 : RV G ρ H a x) (h2 : RV G ρ H b y) (t : RPs G ρ H as xs) : RPs G ρ H ((a, b) :: as) ((x, y) :: xs)
theorem RPs.mono {ρ' : List Addr} {H' : Hp} (st : Stp G ρ H ρ' H') : ∀ {as : List (VI × VI)} {xs : List (V × V)}, RPs G ρ H as xs → RPs G ρ' H' as xs
  | _, _, .nil => .nil
  | _, _, .cons h1 h2 t => .cons (h1.mono st) (h2.mono st) (RPs.mono st t)
theorem RPs.keys : ∀ {as : List (VI × VI)} {xs : List (V × V)}, RPs G ρ H as xs → keysOk as = true → ∃ kvs : List (Key × V), xs = kvs.map (fun kv => (kV kv.1, kv.2)) ∧ RKs G ρ H as kvs
  | _, _, .nil, _ => ⟨[], rfl, .nil⟩
  | _, _, .cons h1 h2 t, k => by
    obtain ⟨k1, k2⟩ := Bool.and_eq_true_iff.mp k
    obtain ⟨l, rk, e⟩ := h1.key k1
    obtain ⟨kvs, e2, r⟩ := RPs.keys t k2
    subst e e2
    exact ⟨(l, _) :: kvs, rfl, .cons rk h2 r⟩
theorem RKs.putAll : ∀ {as : List (VI × VI)} {kvs : List (Key × V)} {d : List (VI × VI)} {ks : List (Key × V)}, RKs G ρ H as kvs → RKs G ρ H d ks → RKs G ρ H (ML.putAll as d) (mergeK ks kvs)
  | _, _, _, _, .nil, r => r
  | _, _, _, _, .cons (k := k) (x := x) e h t, r => by
    unfold ML.putAll
    have q := RKs.putAll t (RKs.putD e h r)
    exact q
def eDisp0 : ME := fun _ h => .ok (.ref h.length) (h ++ [.dic []])
end
end ML
end
section
namespace ML
open PySem L2
inductive Itm where
  | tup (xs : List VI) | lst (n : Nat) | rng (lo : Int) (k : Nat) | enl (n : Nat) | zip (a b : Nat) | zlt (a : Nat) (ys : List VI)
def listAt (n : Nat) (h : Hi) : Option (List VI) := match h[n]? with
  | some (.lst xs) => some xs
  | some (.scr xs) => some xs
  | _ => none
def Itm.nxt (it : Itm) (i : Nat) (h : Hi) : Option (Option VI) := match it with
  | .tup xs => some xs[i]?
  | .lst n => match listAt n h with
    | some xs => some xs[i]?
    | none => none
  | .rng lo k => some (match Nat.blt i k with
    | true => some (.int (lo + i))
    | false => none)
  | .enl n => match listAt n h with
    | some xs => some (match xs[i]? with
      | some x => some (.tup [.int i, x])
      | none => none)
    | none => none
  | .zip a b => match listAt a h, listAt b h with
    | some xs, some ys => some (match xs[i]?, ys[i]? with
      | some x, some y => some (.tup [x, y])
      | _, _ => none)
    | _, _ => none
  | .zlt a ys => match listAt a h with
    | some xs => match Nat.ble i xs.length && Nat.ble i ys.length with
      | true => some (match xs[i]?, ys[i]? with
        | some x, some y => some (.tup [x, y])
        | _, _ => none)
      | false => none
    | none => none
def Itm.fuel (it : Itm) (h : Hi) : Nat := match it with
  | .tup xs => xs.length
  | .lst n => match listAt n h with
    | some xs => xs.length
    | none => 0
  | .rng _ k => k
  | .enl n => match listAt n h with
    | some xs => xs.length
    | none => 0
  | .zip a _ => match listAt a h with
    | some xs => xs.length
    | none => 0
  | .zlt a _ => match listAt a h with
    | some xs => xs.length
    | none => 0
abbrev MI := Sg → Hi → Res Itm
def turns (it : Itm) (g : MG) (body : MS) : Nat → Nat → MS
  | 0, i, σ, h => match it.nxt i h with
    | some none => .nx σ h
    | _ => .err
  | k + 1, i, σ, h => match it.nxt i h with
    | some none => .nx σ h
    | some (some x) => (g x σ h).andThen fun σ1 h1 => match body σ1 h1 with
      | .nx σ2 h2 => turns it g body k (i + 1) σ2 h2
      | .ct σ2 h2 => turns it g body k (i + 1) σ2 h2
      | .bk σ2 h2 => .nx σ2 h2
      | r => r
    | none => .err
def sFor (mi : MI) (g : MG) (body : MS) : MS := fun σ h => (mi σ h).bindS σ fun it h1 => turns it g body (it.fuel h1) 0 σ h1
def ItOk (G : Gx) (ρ : List Addr) (H : Hp) (J : It) (it : Itm) : Prop := ∀ (i : Nat) (ρ1 : List Addr) (h1 : Hi) (H1 : Hp), Stp G ρ H ρ1 H1 → Ag G ρ1 h1 H1 → match it.nxt i h1 with
  | none => True
  | some none => J.stop i H1
  | some (some v) => J.go i H1 ∧ ∀ x H2, J.yld i H1 x H2 → Stp G ρ1 H1 ρ1 H2 ∧ Ag G ρ1 h1 H2 ∧ RV G ρ1 H2 v x
def rdI (G : Gx) (W : WX) (mi : MI) : TI := fun σ H R => ∃ ρ σi h, AgS G ρ H σi σ ∧ Ag G ρ h H ∧ match mi σi h with
  | .ok it h1 => ∀ ρ1 H1 J, Stp G ρ H ρ1 H1 → Ag G ρ1 h1 H1 → ItOk G ρ1 H1 J it → R J H1
  | .ex c n h1 => ∀ ρ' H' d C, Stp G ρ H ρ' H' → Ag G ρ' h1 H' → ρ'[n]? = some d → G.ct c = some C → W (.ref C) (some d) σ H'
  | .err => False
section
variable {G : Gx} {W : WX} {X : Cx} {ρ ρ1 : List Addr} {H H1 : Hp} {σ : L2.St} {σi : Sg} {h : Hi} {D : Ends} {tg iter e : Expr} {body : List Stmt} {pos p : Pos} {me : ME} {mi : MI} {mg : MG} {mb : MS} {ma : MA}
theorem rdI_go {k : Itm → Hi → RS} {N : It → Hp → Prop} (as : AgS G ρ H σi σ) (a : Ag G ρ h H) (f : FinS G ρ H D W ((mi σi h).bindS σi k))
    (nx : ∀ ρ1 H1 h1 it J, Stp G ρ H ρ1 H1 → AgS G ρ1 H1 σi σ → Ag G ρ1 h1 H1 → ItOk G ρ1 H1 J it → FinS G ρ1 H1 D W (k it h1) → N J H1) : rdI G W mi σ H N := by
  refine ⟨ρ, σi, h, as, a, ?_⟩
  cases e : mi σi h with
  | err => rw [e] at f; exact f
  | ex c n h' =>
    rw [e] at f
    exact fun ρ' H' d C st a' hn hc => f ρ' H' d C σ st a' (as.mono st) hn hc
  | ok it h' =>
    rw [e] at f
    exact fun ρ' H' J st a' io => nx ρ' H' h' it J st (as.mono st) a' io (FinS.later st f)
theorem ItOk.later {J : It} {it : Itm} (st : Stp G ρ H ρ1 H1) (o : ItOk G ρ H J it) : ItOk G ρ1 H1 J it := fun i ρ2 h2 H2 s a => o i ρ2 h2 H2 (st.trans s) a
theorem ms_for (hp : PassesOwn (model X.prog X.w) X.A X.env X.xe) (hc : X.calm = true) (hi : PI X tg iter (rdI G W mi)) (hg : PG X tg (rdGt G W mg)) (on : OnlyNx mg) (hb : PSs X body (rdS G W mb))
    (hs : ∀ x, foldedSetIterable iter X.env x = pure x := by intro _; rfl) : PS X (.For tg iter body [] pos) (rdS G W (sFor mi mg mb)) :=
  PS.imp' (ps_for hp hc hi hg hb hs) fun D σ H ⟨ρ, σi, h, as, ag, fin⟩ => rdI_go as ag fin fun ρ1 H1 h1 it J st as1 ag1 io fi => by
    refine ⟨fun i m σ2 H2 => ∃ ρ2 σi2 h2, Stp G ρ1 H1 ρ2 H2 ∧ AgS G ρ2 H2 σi2 σ2 ∧ Ag G ρ2 h2 H2 ∧ FinS G ρ2 H2 D W (turns it mg mb m i σi2 h2), ⟨_, ρ1, σi, h1, .refl, as1, ag1, fi⟩, ?_⟩
    rintro i m σ2 H2 ⟨ρ2, σi2, h2, st2, as2, ag2, f2⟩
    have ok := io i ρ2 h2 H2 st2 ag2
    cases q : it.nxt i h2 with
    | none =>
      cases m with
      | zero => unfold turns at f2; rw [q] at f2; exact f2.elim
      | succ k => unfold turns at f2; rw [q] at f2; exact f2.elim
    | some o =>
      rw [q] at ok
      cases o with
      | none =>
        refine .inl ⟨ok, ?_⟩
        cases m with
        | zero => unfold turns at f2; rw [q] at f2; exact f2.nx ag2 as2
        | succ k => unfold turns at f2; rw [q] at f2; exact f2.nx ag2 as2
      | some v =>
        cases m with
        | zero => unfold turns at f2; rw [q] at f2; exact f2.elim
        | succ k =>
          unfold turns at f2
          rw [q] at f2
          dsimp only at f2
          obtain ⟨go, yl⟩ := ok
          refine .inr ⟨go, fun σ' H' => ∃ ρ2 σi2 h2, Stp G ρ1 H1 ρ2 H' ∧ AgS G ρ2 H' σi2 σ' ∧ Ag G ρ2 h2 H' ∧ FinS G ρ2 H' D W (turns it mg mb k (i + 1) σi2 h2), fun σ' H' w => ⟨k, Nat.lt_succ_self k, w⟩, fun x H3 y => ?_⟩
          obtain ⟨st3, ag3, rv⟩ := yl x H3 y
          refine ⟨ρ2, σi2, h2, v, as2.mono st3, ag3, rv, ?_⟩
          have f3 := FinS.later st3 f2
          have st13 := st2.trans st3
          rcases on v σi2 h2 with ⟨σ4, h4, e⟩ | ⟨c, n, σ4, h4, e⟩ | e
          · rw [e] at f3 ⊢
            refine fun ρ4 H4 σ5 s4 a4 as4 => ⟨ρ4, σ4, h4, as4, a4, ?_⟩
            have f4 := FinS.later s4 f3
            have st14 := st13.trans s4
            dsimp only [RS.andThen] at f4
            cases e5 : mb σ4 h4 with
            | nx σ6 h6 => rw [e5] at f4; exact fun ρ' H' σ' s a as => ⟨ρ', σ6, h6, st14.trans s, as, a, FinS.later s f4⟩
            | ct σ6 h6 => rw [e5] at f4; exact fun ρ' H' σ' s a as => ⟨ρ', σ6, h6, st14.trans s, as, a, FinS.later s f4⟩
            | bk σ6 h6 => rw [e5] at f4; exact f4
            | rt v6 h6 => rw [e5] at f4; exact f4
            | ex c6 n6 σ6 h6 => rw [e5] at f4; exact f4
            | err => rw [e5] at f4; exact f4
          · rw [e] at f3 ⊢; exact f3
          · rw [e] at f3 ⊢; exact f3
theorem PI.dispatch {t : TI} (h : ∀ σ H Q, t σ H Q → ∃ t', PI X tg iter t' ∧ t' σ H Q) : PI X tg iter t := ⟨fun pins s σ H Q I q => let ⟨_, p, q'⟩ := h σ H Q q; p.run pins s σ H Q I q'⟩
theorem PI.imp' {t t' : TI} (h : PI X tg iter t) (i : ∀ σ H Q, t' σ H Q → t σ H Q) : PI X tg iter t' := ⟨fun pins s σ H Q I q => h.run pins s σ H Q I (i σ H Q q)⟩
def seqOf : VI → Hi → Option Itm := fun v h => match v with
  | .tup xs => some (.tup xs)
  | .ref n => match listAt n h with
    | some _ => some (.lst n)
    | none => none
  | _ => none
def ofI : Option Itm → Hi → Res Itm
  | some it, h => .ok it h
  | none, _ => .err
def iSeq (e : ME) : MI := fun σ h => (e σ h).bind fun v h1 => ofI (seqOf v h1) h1
theorem listAt_ok (K : PySem.W.Frag) (ag : Ag G ρ h H) {n : Nat} {a : Addr} {xs : List VI} (e : listAt n h = some xs) (p : ρ[n]? = some a) : ∃ ys, SqL K H a ys ∧ RVs G ρ H xs ys := by
  unfold listAt at e
  cases q : h[n]? with
  | none => rw [q] at e; cases e
  | some ob =>
    rw [q] at e
    cases ob with
    | lst zs => cases e; obtain ⟨ys, hy, rs⟩ := ag.at_ q p; exact ⟨ys, .inl (.inl hy), rs⟩
    | scr zs => cases e; obtain ⟨ob, ys, hy, rs⟩ := ag.at_ q p; exact ⟨ys, .inl (.inr ⟨_, hy⟩), rs⟩
    | _ => cases e
theorem itOk_lst (hG : G.K = X.K) {n : Nat} {a : Addr} (p : ρ[n]? = some a) : ItOk G ρ H (Itl X.K a) (.lst n) := fun i ρ1 h1 H1 st ag => by
  unfold Itm.nxt
  dsimp only
  cases q : listAt n h1 with
  | none => trivial
  | some xs =>
    obtain ⟨ys, hy, rs⟩ := listAt_ok X.K ag q (st.pre _ _ p)
    dsimp only
    cases q2 : xs[i]? with
    | none =>
      have : xs.length ≤ i := List.getElem?_eq_none_iff.mp q2
      exact ⟨ys, hy, by rw [← rs.length]; exact this⟩
    | some v =>
      obtain ⟨y, hy2, ry⟩ := rs.get q2
      refine ⟨⟨ys, y, hy, hy2⟩, fun x H2 ⟨e, k⟩ => ?_⟩
      subst e
      have := k ys hy
      rw [hy2] at this
      cases this
      exact ⟨.refl, ag, ry⟩
theorem itOk_tup (hG : G.K = X.K) {a : Addr} {xs : List VI} {ys : List V} (t : SqT G.K H a ys) (rs : RVs G ρ H xs ys) : ItOk G ρ H (Itt X.K a) (.tup xs) := fun i ρ1 h1 H1 st ag => by
  unfold Itm.nxt
  have t1 := st.tup _ _ t
  rw [hG] at t1
  have rs1 := rs.mono st
  dsimp only
  cases q2 : xs[i]? with
  | none =>
    have : xs.length ≤ i := List.getElem?_eq_none_iff.mp q2
    exact ⟨ys, t1, by rw [← rs.length]; exact this⟩
  | some v =>
    obtain ⟨y, hy2, ry⟩ := rs1.get q2
    refine ⟨⟨ys, y, t1, hy2⟩, fun x H2 ⟨e, k⟩ => ?_⟩
    subst e
    have := k ys t1
    rw [hy2] at this
    cases this
    exact ⟨.refl, ag, ry⟩
theorem itOk_rng {lo : Int} {k : Nat} : ItOk G ρ H (Itr lo k) (.rng lo k) := fun i ρ1 h1 H1 st ag => by
  unfold Itm.nxt
  dsimp only
  cases q : Nat.blt i k with
  | true => exact ⟨Nat.le_of_ble_eq_true q, fun x H2 ⟨e, z⟩ => by subst e z; exact ⟨.refl, ag, .int _⟩⟩
  | false =>
    refine Nat.le_of_not_lt fun z => ?_
    have : Nat.blt i k = true := Nat.ble_eq_true_of_le z
    rw [q] at this
    cases this
theorem mi_seq (hG : G.K = X.K) (he : PE X e (rdE G W me)) : PI X tg e (rdI G W (iSeq me)) := PI.dispatch fun σ H R ⟨ρ, σi, h, as, ag, fin⟩ => by
  unfold iSeq at fin
  cases q : me σi h with
  | err => rw [q] at fin; exact fin.elim
  | ex c n h1 =>
    rw [q] at fin
    exact ⟨_, pi_list he, ρ, σi, h, as, ag, by rw [q]; exact fin⟩
  | ok v h1 =>
    rw [q] at fin
    dsimp only [Res.bind] at fin
    cases v with
    | tup xs =>
      refine ⟨_, pi_tup he, ρ, σi, h, as, ag, ?_⟩
      rw [q]
      intro ρ1 H1 x st a1 r
      cases r with
      | @tup _ ys a t rs => exact ⟨a, rfl, ⟨ys, hG ▸ t⟩, fin ρ1 H1 _ st a1 (itOk_tup hG t rs)⟩
    | ref n =>
      unfold seqOf at fin
      dsimp only at fin
      cases q2 : listAt n h1 with
      | none => rw [q2] at fin; exact fin.elim
      | some xs =>
        rw [q2] at fin
        refine ⟨_, pi_list he, ρ, σi, h, as, ag, ?_⟩
        rw [q]
        intro ρ1 H1 x st a1 r
        cases r with
        | @ref _ a p =>
          obtain ⟨ys, hy, rs⟩ := listAt_ok X.K a1 q2 p
          exact ⟨a, rfl, ⟨ys, hy⟩, fin ρ1 H1 _ st a1 (itOk_lst hG p)⟩
    | _ => exact fin.elim
def rngOf : List VI → Option Itm
  | [.int j] => match decide (-(2 ^ 62) ≤ j) && decide (j < 2 ^ 62) with
    | true => some (.rng 0 j.toNat)
    | false => none
  | [.int i, .int j] => match (decide (-(2 ^ 62) ≤ i) && decide (i < 2 ^ 62)) && (decide (-(2 ^ 62) ≤ j) && decide (j < 2 ^ 62)) with
    | true => some (.rng i (j - i).toNat)
    | false => none
  | _ => none
def iRng (a : MA) : MI := fun σ h => (a σ h).bind fun vs h1 => ofI (rngOf vs) h1
theorem mi_rng1 {a : Expr} {mr : MA} (hg : Gl X "range") (hm : X.mg "range" = none) (ha : PA X [a] (rdA G W mr)) (hs : starEach [a] X.env = [(false, eval a X.env)] := by rfl) (one : ∀ σ h vs h1, mr σ h = .ok vs h1 → vs.length = 1) : PI X tg (.Call (.Name "range" p) [a] [] pos) (rdI G W (iRng mr)) :=
  PI.imp' (pi_range1 hg hm ha hs) fun σ H R ⟨ρ, σi, h, as, ag, fin⟩ => by
    refine ⟨ρ, σi, h, as, ag, ?_⟩
    unfold iRng at fin
    cases q : mr σi h with
    | err => rw [q] at fin; exact fin.elim
    | ex c n h1 => rw [q] at fin; exact fin
    | ok vs h1 =>
      rw [q] at fin
      have l := one _ _ _ _ q
      intro ρ1 H1 xs st a1 r
      match vs, l, r, fin with
      | [v], _, .cons r .nil, fin =>
        cases r with
        | int j =>
          dsimp only [Res.bind, rngOf] at fin
          cases z : decide (-(2 ^ 62) ≤ j) && decide (j < 2 ^ 62) with
          | false => rw [z] at fin; exact fin.elim
          | true =>
            rw [z] at fin
            obtain ⟨z1, z2⟩ := Bool.and_eq_true_iff.mp z
            exact ⟨j, rfl, of_decide_eq_true z1, of_decide_eq_true z2, fin ρ1 H1 _ st a1 itOk_rng⟩
        | _ => exact fin.elim
end
end ML
end
section
namespace ML
open PySem L2
inductive Tgt where
  | one (i : Nat) | many (is : List Nat)
def putMany : List Nat → List VI → Sg → Option Sg
  | [], [], σ => some σ
  | i :: is, x :: xs, σ => putMany is xs (σ.set i (some x))
  | _, _, _ => none
def Tgt.put (t : Tgt) (v : VI) (σ : Sg) : Option Sg := match t with
  | .one i => some (σ.set i (some v))
  | .many is => match v with
    | .tup xs => putMany is xs σ
    | _ => none
def Tgt.slots : Tgt → List Nat
  | .one i => [i]
  | .many is => is
def gTgt (t : Tgt) : MG := fun v σ h => match t.put v σ with
  | some σ' => .nx σ' h
  | none => .err
def gNames : List Nat → TGs
  | [] => gNil
  | i :: is => gCons (gName i) (gNames is)
def Tgt.tg (K : PySem.W.Frag) : Tgt → TG
  | .one i => gName i
  | .many is => gTup K is.length (gNames is)
def wipeM (σ : Sg) : List Nat → Sg
  | [] => σ
  | i :: r => (wipeM σ r).set i none
section
variable {G : Gx} {ρ : List Addr} {H : Hp} {h : Hi} {X : Cx} {W : WX} {σ : L2.St} {σi : Sg}
theorem names_put : ∀ {is : List Nat} {xs : List VI} {ys : List V} {σi σ2 : Sg} {σ : L2.St} {N : L2.St → Hp → Prop}, AgS G ρ H σi σ → RVs G ρ H xs ys → putMany is xs σi = some σ2 →
    (∀ σ', AgS G ρ H σ2 σ' → (∀ j, j ∉ is → σ'[j]? = σ[j]?) → σ'.length = σ.length → N σ' H) → gNames is ys σ H N
  | [], [], _, σi, σ2, σ, N, as, .nil, e, k => by
    cases e
    exact ⟨rfl, k σ as (fun _ _ => rfl) rfl⟩
  | i :: is, x :: xs, _, σi, σ2, σ, N, as, .cons r rs, e, k => by
    refine ⟨_, _, rfl, ?_⟩
    show gNames is _ _ H N
    refine names_put (as.set r i) rs e fun σ' as' hj hl => k σ' as' (fun j hj' => ?_) (by rw [hl, List.length_set])
    rw [hj j (fun z => hj' (List.mem_cons_of_mem _ z))]
    rw [List.getElem?_set_ne (fun z => hj' (by rw [← z]; exact List.mem_cons_self))]
  | [], _ :: _, _, _, _, _, _, _, _, e, _ => by cases e
  | _ :: _, [], _, _, _, _, _, _, _, e, _ => by cases e
theorem tgt_put (hG : G.K = X.K) {t : Tgt} {v : VI} {x : V} {σ2 : Sg} {N : L2.St → Hp → Prop} (as : AgS G ρ H σi σ) (r : RV G ρ H v x) (e : t.put v σi = some σ2)
    (k : ∀ σ', AgS G ρ H σ2 σ' → (∀ j, j ∉ t.slots → σ'[j]? = σ[j]?) → σ'.length = σ.length → N σ' H) : t.tg X.K x σ H N := by
  cases t with
  | one i =>
    cases e
    exact k _ (as.set r i) (fun j hj => List.getElem?_set_ne (fun z => hj (by rw [← z]; exact List.mem_cons_self))) (List.length_set ..)
  | many is =>
    cases r with
    | @tup xs ys a t rs =>
      have e' : putMany is xs σi = some σ2 := e
      refine ⟨a, ys, rfl, hG ▸ t, ?_, names_put as rs e' k⟩
      have : ∀ {is : List Nat} {xs : List VI} {σi σ2 : Sg}, putMany is xs σi = some σ2 → xs.length = is.length := fun {is} => by
        induction is with
        | nil => intro xs σi σ2 q; cases xs with | nil => rfl | cons _ _ => cases q
        | cons i r ih => intro xs σi σ2 q; cases xs with | nil => cases q | cons y ys => rw [List.length_cons, List.length_cons, ih q]
      rw [← rs.length]
      exact this e'
    | _ => cases e
theorem mg_tgt {tg : Expr} {t : Tgt} (hG : G.K = X.K) (hg : PG X tg (t.tg X.K)) : PG X tg (rdGt G W (gTgt t)) :=
  ⟨fun pins s σ H v u Q I r ⟨ρ, σi, h, vi, as, ag, rv, f⟩ => hg.run pins s σ H v u Q I r (by
    unfold gTgt at f
    cases q : t.put vi σi with
    | none => rw [q] at f; exact f.elim
    | some σ2 =>
      rw [q] at f
      exact tgt_put hG as rv q fun σ' as' _ _ => f.nx ag as')⟩
theorem onlyNx_tgt (t : Tgt) : OnlyNx (gTgt t) := fun v σ h => by
  unfold gTgt
  cases t.put v σ with
  | none => exact .inr (.inr rfl)
  | some σ' => exact .inl ⟨σ', h, rfl⟩
theorem AgS.wipe : ∀ (vs : List Nat) {σi : Sg} {σ : L2.St}, AgS G ρ H σi σ → AgS G ρ H (wipeM σi vs) (L2.wipe σ vs)
  | [], _, _, a => a
  | i :: r, _, _, a => (AgS.wipe r a).lose i none
theorem wipe_in : ∀ (vs : List Nat) (σ : L2.St) (j : Nat), j ∈ vs → (L2.wipe σ vs)[j]? = if j < σ.length then some none else none
  | i :: r, σ, j, hj => by
    show ((L2.wipe σ r).set i none)[j]? = _
    rw [List.getElem?_set, L2.wipe_length]
    by_cases z : i = j
    · subst z
      rw [if_pos rfl]
    · rw [if_neg z]
      exact wipe_in r σ j ((List.mem_cons.mp hj).resolve_left fun w => z w.symm)
theorem wipe_eq (vs : List Nat) {σ τ : L2.St} (hl : τ.length = σ.length) (k : ∀ j, j ∉ vs → τ[j]? = σ[j]?) : L2.wipe τ vs = L2.wipe σ vs := by
  refine List.ext_getElem? fun j => ?_
  by_cases z : j ∈ vs
  · rw [wipe_in vs τ j z, wipe_in vs σ j z, hl]
  · rw [L2.wipe_out z, L2.wipe_out z]
    exact k j z
end
def turnsC (it : Itm) (t : Tgt) (vs : List Nat) (tt : MT) (el : ME) (D : Nat) (σ : Sg) : Nat → Nat → Hi → Option Hi
  | 0, i, h => match it.nxt i h with
    | some none => some h
    | _ => none
  | k + 1, i, h => match it.nxt i h with
    | some none => some h
    | some (some x) => match t.put x (wipeM σ vs) with
      | some σ2 => match tt σ2 h with
        | .ok true h2 => match el σ2 h2 with
          | .ok y h3 => match h3[D]? with
            | some (.lst acc) => match small (acc.length + 1) with
              | true => turnsC it t vs tt el D σ k (i + 1) (h3.set D (.lst (acc ++ [y])))
              | false => none
            | _ => none
          | _ => none
        | .ok false h2 => turnsC it t vs tt el D σ k (i + 1) h2
        | _ => none
      | none => none
    | none => none
def tYesM : MT := fun _ h => .ok true h
def eLc (mi : MI) (t : Tgt) (vs : List Nat) (tt : MT) (el : ME) : ME := fun σ h => (mi σ h).bind fun it h1 => match turnsC it t vs tt el h1.length σ (it.fuel h1) 0 (h1 ++ [.lst []]) with
  | some h2 => .ok (.ref h1.length) h2
  | none => .err
abbrev W0 : WX := fun _ _ _ _ => False
section
variable {G : Gx} {W : WX} {X : Cx} {ρ ρ1 : List Addr} {H H1 : Hp} {h : Hi} {tg iter elt : Expr} {ifs : List Expr} {scope : Scope} {own : List (Str × Nat)} {pos : Pos} {mi : MI} {mt : MT} {ml : ME} {t : Tgt}
theorem rdI_goE {α β : Type} {R' : List Addr → Hp → α → β → Prop} {Q : β → Hp → Prop} {k : Itm → Hi → Res α} {N : It → Hp → Prop} {σ : L2.St} {σi : Sg} (as : AgS G ρ H σi σ) (a : Ag G ρ h H) (f : FinG G ρ H R' Q (fun c d H' => W c d σ H') ((mi σi h).bind k))
    (nx : ∀ ρ1 H1 h1 it J, Stp G ρ H ρ1 H1 → AgS G ρ1 H1 σi σ → Ag G ρ1 h1 H1 → ItOk G ρ1 H1 J it → FinG G ρ1 H1 R' Q (fun c d H' => W c d σ H') (k it h1) → N J H1) : rdI G W mi σ H N := by
  refine ⟨ρ, σi, h, as, a, ?_⟩
  cases e : mi σi h with
  | err => rw [e] at f; exact f
  | ex c n h' =>
    rw [e] at f
    exact fun ρ' H' d C st a' hn hc => f ρ' H' d C st a' hn hc
  | ok it h' =>
    rw [e] at f
    exact fun ρ' H' J st a' io => nx ρ' H' h' it J st (as.mono st) a' io (FinG.later st f)
theorem lc_rd (hG : G.K = X.K) (vs : List Nat) (hsl : ∀ j ∈ t.slots, j ∈ vs) {tt : TT} (htt : ∀ σ H Q, rdT G W0 mt σ H Q → tt σ H Q) : ∀ σ H Q, rdE G W (eLc mi t vs mt ml) σ H Q → tLc (rdI G W mi) (t.tg X.K) tt (rdE G W0 ml) vs σ H Q := fun σ H Q ⟨ρ, σi, h, as, ag, fin⟩ =>
  rdI_goE as ag fin fun ρ1 H1 h1 it J st as1 ag1 io fi D hD => by
    have st0 : Stp G ρ1 H1 (ρ1 ++ [D]) (upd H1 D (.lst [])) := Stp.new hD
    have ag0 : Ag G (ρ1 ++ [D]) (h1 ++ [.lst []]) (upd H1 D (.lst [])) := ag1.new hD ⟨[], upd_same, .nil⟩
    have hx : (ρ1 ++ [D])[h1.length]? = some D := by rw [← ag1.len]; simp
    cases e0 : turnsC it t vs mt ml h1.length σi (it.fuel h1) 0 (h1 ++ [.lst []]) with
    | none => rw [e0] at fi; exact fi.elim
    | some hf =>
      rw [e0] at fi
      refine ⟨fun i m H2 => ∃ ρ2 h2, Stp G (ρ1 ++ [D]) (upd H1 D (.lst [])) ρ2 H2 ∧ Ag G ρ2 h2 H2 ∧ turnsC it t vs mt ml h1.length σi m i h2 = some hf, ⟨_, ρ1 ++ [D], _, .refl, ag0, e0⟩, ?_⟩
      rintro i m H2 ⟨ρ2, h2, st2, ag2, f2⟩
      have ok := io i ρ2 h2 H2 (st0.trans st2) ag2
      have as2 : AgS G ρ2 H2 σi σ := as1.mono (st0.trans st2)
      have fin' : ∀ {h}, hf = h → Ag G ρ2 h H2 → Q (.ref D) H2 := fun {h} e a => by
        subst e
        exact fi ρ2 H2 _ (st0.trans st2) a (.ref (st2.pre _ _ hx))
      cases q : it.nxt i h2 with
      | none =>
        cases m with
        | zero => unfold turnsC at f2; rw [q] at f2; cases f2
        | succ k => unfold turnsC at f2; rw [q] at f2; cases f2
      | some o =>
        rw [q] at ok
        cases o with
        | none =>
          refine .inl ⟨ok, ?_⟩
          cases m with
          | zero => unfold turnsC at f2; rw [q] at f2; exact fin' (Option.some.inj f2).symm ag2
          | succ k => unfold turnsC at f2; rw [q] at f2; exact fin' (Option.some.inj f2).symm ag2
        | some v =>
          cases m with
          | zero => unfold turnsC at f2; rw [q] at f2; cases f2
          | succ k =>
            unfold turnsC at f2
            rw [q] at f2
            dsimp only at f2
            obtain ⟨go, yl⟩ := ok
            refine .inr ⟨go, fun H' => ∃ ρ2 h2, Stp G (ρ1 ++ [D]) (upd H1 D (.lst [])) ρ2 H' ∧ Ag G ρ2 h2 H' ∧ turnsC it t vs mt ml h1.length σi k (i + 1) h2 = some hf, fun H' w => ⟨k, Nat.lt_succ_self k, w⟩, fun x H3 y => ?_⟩
            obtain ⟨st3, ag3, rv⟩ := yl x H3 y
            cases e1 : t.put v (wipeM σi vs) with
            | none => rw [e1] at f2; cases f2
            | some σ4 =>
              rw [e1] at f2
              dsimp only at f2
              refine tgt_put hG ((as2.mono st3).wipe vs) rv e1 fun σ5 as5 hj hl => ?_
              refine ⟨wipe_eq vs hl (fun j hn => hj j fun z => hn (hsl j z)) |>.trans ?_, ?_⟩
              · exact wipe_eq vs (L2.wipe_length σ vs) fun j hn => L2.wipe_out hn
              · refine htt _ _ _ ⟨ρ2, σ4, h2, as5, ag3, ?_⟩
                cases e2 : mt σ4 h2 with
                | err => rw [e2] at f2; cases f2
                | ex c n h' => rw [e2] at f2; cases f2
                | ok b h4 =>
                  rw [e2] at f2
                  intro ρ6 H6 b' st6 ag6 eb
                  subst eb
                  cases b with
                  | false =>
                    rw [if_neg Bool.false_ne_true]
                    exact ⟨ρ6, h4, (st2.trans st3).trans st6, ag6, f2⟩
                  | true =>
                    rw [if_pos rfl]
                    dsimp only at f2
                    refine ⟨ρ6, σ4, h4, as5.mono st6, ag6, ?_⟩
                    cases e3 : ml σ4 h4 with
                    | err => rw [e3] at f2; cases f2
                    | ex c n h' => rw [e3] at f2; cases f2
                    | ok z h5 =>
                      rw [e3] at f2
                      dsimp only at f2
                      intro ρ7 H7 z' st7 ag7 rz
                      cases e4 : h5[h1.length]? with
                      | none => rw [e4] at f2; cases f2
                      | some ob =>
                        rw [e4] at f2
                        cases ob with
                        | lst acc =>
                          dsimp only at f2
                          cases e5 : small (acc.length + 1) with
                          | false => rw [e5] at f2; cases f2
                          | true =>
                            rw [e5] at f2
                            have stA := ((st2.trans st3).trans st6).trans st7
                            have hD7 := stA.pre _ _ hx
                            obtain ⟨ys, hy, rs⟩ := ag7.at_ e4 hD7
                            have stW : Stp G ρ7 H7 ρ7 (upd H7 D (.lst (ys ++ [z']))) := Stp.wr ag7 e4 hD7
                            refine ⟨ys, hy, by rw [← rs.length]; exact small_lt e5, ρ7, _, stA.trans stW, ag7.wr (u' := .lst (acc ++ [z])) e4 hD7 ⟨_, upd_same, (rs.append (.cons rz .nil)).mono stW⟩, f2⟩
                        | _ => cases f2
end
end ML
end
section
namespace ML
open PySem L2
section
variable {G : Gx} {W : WX} {X : Cx} {tg iter elt c : Expr} {ifs : List Expr} {scope : Scope} {own : List (Str × Nat)} {pos spos py : Pos} {mi : MI} {mt : MT} {ml : ME} {t : Tgt} {i : Nat} {y : Str}
theorem yes_rd : ∀ σ H Q, rdT G W0 tYesM σ H Q → tYes σ H Q := fun σ H Q ⟨ρ, σi, h, as, ag, f⟩ => f ρ H true .refl ag rfl
theorem me_lc0 (hG : G.K = X.K) (hc : X.calm = true) (hN : X.N.Nodup) (hi : PI X tg iter (rdI G W mi)) (ok : BlkOk X.N X.env.scope scope own) (hsl : ∀ j ∈ t.slots, j ∈ own.map (·.2))
    (hg : ∀ (s : Shared) (H : Hp) (C : Addr) (cl : List (Str × Addr)) (fp : List Addr), PG (X.blk s H scope (compEnvC scope cl C X.env) fp) tg (t.tg X.K))
    (he : ∀ (s : Shared) (H : Hp) (C : Addr) (cl : List (Str × Addr)) (fp : List Addr), PE (X.blk s H scope (compEnvC scope cl C X.env) fp) elt (rdE G W0 ml)) (hs : ∀ x, foldedSetIterable iter X.env x = pure x := by intro _; rfl) :
    PE X (.ListComp elt [⟨tg, iter, [], 0⟩] scope pos) (rdE G W (eLc mi t (own.map (·.2)) tYesM ml)) :=
  PE.imp' (pe_lc hc hN hi ok hg (fun _ _ _ _ _ => pts_nil) he hs) (lc_rd hG _ hsl yes_rd)
theorem me_lc1 (hG : G.K = X.K) (hc : X.calm = true) (hN : X.N.Nodup) (hi : PI X tg iter (rdI G W mi)) (ok : BlkOk X.N X.env.scope scope own) (hsl : ∀ j ∈ t.slots, j ∈ own.map (·.2))
    (hg : ∀ (s : Shared) (H : Hp) (C : Addr) (cl : List (Str × Addr)) (fp : List Addr), PG (X.blk s H scope (compEnvC scope cl C X.env) fp) tg (t.tg X.K))
    (ht : ∀ (s : Shared) (H : Hp) (C : Addr) (cl : List (Str × Addr)) (fp : List Addr), PT (X.blk s H scope (compEnvC scope cl C X.env) fp) c (rdT G W0 mt))
    (he : ∀ (s : Shared) (H : Hp) (C : Addr) (cl : List (Str × Addr)) (fp : List Addr), PE (X.blk s H scope (compEnvC scope cl C X.env) fp) elt (rdE G W0 ml)) (hs : ∀ x, foldedSetIterable iter X.env x = pure x := by intro _; rfl) :
    PE X (.ListComp elt [⟨tg, iter, [c], 0⟩] scope pos) (rdE G W (eLc mi t (own.map (·.2)) mt ml)) :=
  PE.imp' (pe_lc hc hN hi ok hg (fun s H C cl fp => pts_one (ht s H C cl fp)) he hs) (lc_rd hG _ hsl fun _ _ _ z => z)
def eErr : ME := fun _ _ => .err
def sErr : MS := fun _ _ => .err
def tErr : MT := fun _ _ => .err
end
end ML
end
section
namespace ML
open PySem L2
def eNeg (a : ME) : ME := fun σ h => (a σ h).bind fun v h1 => match v with
  | .int i => .ok (.int (-i)) h1
  | _ => .err
abbrev MO := Sg → Hi → Res (Option Int)
def oNo : MO := fun _ h => .ok none h
def oSome (e : ME) : MO := fun σ h => (e σ h).bind fun v h1 => match v with
  | .int i => .ok (some i) h1
  | _ => .err
def sIxI (n d : Nat) : Option Int → Nat
  | none => d
  | some v => if v < 0 then (v + (n : Int)).toNat else Nat.min v.toNat n
def cutI (xs : List VI) (lo hi : Option Int) : List VI := (xs.drop (sIxI xs.length 0 lo)).take (sIxI xs.length xs.length hi - sIxI xs.length 0 lo)
def sliceM (x : VI) (lo hi : Option Int) (h : Hi) : Option (VI × Hi) := match x with
  | .tup xs => some (.tup (cutI xs lo hi), h)
  | .ref n => match h[n]? with
    | some (.lst xs) => some (.ref h.length, h ++ [.lst (cutI xs lo hi)])
    | some (.scr xs) => some (.ref h.length, h ++ [.lst (cutI xs lo hi)])
    | _ => none
  | _ => none
def eSl (e : ME) (lo hi : MO) : ME := fun σ h => (e σ h).bind fun x h1 => (lo σ h1).bind fun l h2 => (hi σ h2).bind fun u h3 => ofO (sliceM x l u h3)
section
variable {G : Gx} {ρ : List Addr} {h : Hi} {H : Hp} {W : WX} {X : Cx} {e a b c o i v : Expr} {lo hi : Option Expr} {es : List Expr} {pos p p2 pos' apos cpos : Pos} {me mi mo ma mb mv : ME} {ml mh : MO} {mr : MA}
theorem PO.imp' {e : Option Expr} {t t' : TO} (h : PO X e t) (i : ∀ σ H Q, t' σ H Q → t σ H Q) : PO X e t' := ⟨fun pins s σ H Q I q => h.run pins s σ H Q I (i σ H Q q)⟩
theorem sIxI_eq (n d : Nat) (o : Option Int) : sIxI n d o = HT.sIx n d o := by cases o <;> rfl
theorem RVs.cut {xs : List VI} {ys : List V} (r : RVs G ρ H xs ys) (lo hi : Option Int) : RVs G ρ H (cutI xs lo hi) (cutV ys lo hi) := by
  unfold cutI cutV
  rw [sIxI_eq, sIxI_eq, r.length]
  exact (r.drop _).take _
end
inductive Knd where
  | lst | dic | str
def Knd.ty : Knd → String
  | .lst => "list"
  | .dic => "dict"
  | .str => "str"
def kOk (k : Knd) (v : VI) (h : Hi) : Bool := match v with
  | .str _ => match k with | .str => true | _ => false
  | .ref n => match h[n]? with
    | some (.lst _) => match k with | .lst => true | _ => false
    | some (.scr _) => match k with | .lst => true | _ => false
    | some (.dic _) => match k with | .dic => true | _ => false
    | _ => false
  | _ => false
abbrev OpM := VI → List VI → Hi → Option (VI × Hi)
def eBM (k : Knd) (f : OpM) (o : ME) (ma : MA) : ME := fun σ h => (o σ h).bind fun x h1 => match kOk k x h1 with
  | true => (ma σ h1).bind fun vs h2 => ofO (f x vs h2)
  | false => .err
def mAppend : OpM := fun x vs h => match x with
  | .ref n => match h[n]? with
    | some (.lst xs) => match vs with
      | [y] => match small (xs.length + 1) with
        | true => some (.non, h.set n (.lst (xs ++ [y])))
        | false => none
      | _ => none
    | _ => none
  | _ => none
def mExtend : OpM := fun x vs h => match x with
  | .ref n => match h[n]? with
    | some (.lst xs) => match vs with
      | [.ref m] => match h[m]? with
        | some (.lst ys) => match small (xs.length + ys.length) with
          | true => some (.non, h.set n (.lst (xs ++ ys)))
          | false => none
        | _ => none
      | _ => none
    | _ => none
  | _ => none
def mPop : OpM := fun x vs h => match x with
  | .ref n => match h[n]? with
    | some (.lst xs) => match vs with
      | [] => match xs[xs.length - 1]? with
        | some y => some (y, h.set n (.lst xs.dropLast))
        | none => none
      | _ => none
    | _ => none
  | _ => none
section
variable {G : Gx} {ρ : List Addr} {h : Hi} {H : Hp} {W : WX} {X : Cx} {e a b c o i v : Expr} {es : List Expr} {pos p pos' apos cpos : Pos} {me mi mo ma mb mv : ME} {mr : MA} {k : Knd} {f : OpM} {name : Str} {id T : String}
theorem RVs.dropLast {xs : List VI} {ys : List V} (r : RVs G ρ H xs ys) : RVs G ρ H xs.dropLast ys.dropLast := by
  rw [List.dropLast_eq_take, List.dropLast_eq_take, r.length]
  exact r.take _
end
def flI : VI → Bool
  | .non => true
  | .bl _ => true
  | .int _ => true
  | .str _ => true
  | _ => false
def b2i (b : Bool) : Int := match b with
  | true => 1
  | false => 0
def eqI : VI → VI → Bool
  | .non, .non => true
  | .bl a, .bl b => a == b
  | .bl a, .int b => decide (b2i a = b)
  | .int a, .bl b => decide (a = b2i b)
  | .int a, .int b => decide (a = b)
  | .str a, .str b => decide (a = b)
  | _, _ => false
def inI (x : VI) : List VI → Bool
  | [] => false
  | y :: r => match eqI y x with
    | true => true
    | false => inI x r
def alF : List VI → Bool
  | [] => true
  | y :: r => match flI y with
    | true => alF r
    | false => false
def inDl (h : Hi) (x : VI) (ys : List VI) : Option Bool := match dat 66 h x, datL (dat 65 h) ys with
  | some d, some ds => match SeqAt.shaped d && SeqAt.shaped (.list ds) with
    | true => some (ds.any fun z => PyData.eqv z d)
    | false => none
  | _, _ => none
def inM (x y : VI) (h : Hi) : Option Bool := match y with
  | .tup ys => match flI x && alF ys with
    | true => some (inI x ys)
    | false => none
  | .ref n => match h[n]? with
    | some (.lst ys) => match flI x && alF ys with
      | true => some (inI x ys)
      | false => inDl h x ys
    | some (.scr ys) => match flI x && alF ys with
      | true => some (inI x ys)
      | false => inDl h x ys
    | some (.dic kvs) => match isKey x with
      | true => some (match getD x kvs with | some _ => true | none => false)
      | false => none
    | _ => none
  | _ => none
def fIn : Op2 := fun x y h => match inM x y h with
  | some b => some (.bl b, h)
  | none => none
def fNotIn : Op2 := fun x y h => match inM x y h with
  | some b => some (.bl (!b), h)
  | none => none
section
variable {G : Gx} {ρ : List Addr} {h : Hi} {H : Hp} {X : Cx}
theorem RV.flat {v : VI} {x : V} (r : RV G ρ H v x) (e : flI v = true) : flatV x = true := by cases r <;> first | rfl | cases e
theorem RV.eqI {v w : VI} {x y : V} (r : RV G ρ H v x) (r2 : RV G ρ H w y) (e : flI v = true) (e2 : flI w = true) : ML.eqI v w = eqV x y := by
  cases r with
  | non => cases r2 <;> first | rfl | cases e2
  | bl b => cases r2 <;> first | rfl | (cases b <;> rfl) | cases e2
  | int i =>
    cases r2 with
    | bl b => cases b <;> rfl
    | _ => first | rfl | cases e2
  | @str s1 _ q =>
    cases r2 with
    | @str s2 _ q2 =>
      subst q q2
      show decide (s1 = s2) = (toStr s1 == toStr s2)
      by_cases z : s1 = s2
      · subst z; simp
      · rw [decide_eq_false z, beq_eq_false_iff_ne.mpr fun w => z (toStr_inj w)]
    | _ => first | rfl | cases e2
  | _ => cases e
theorem RVs.flats : ∀ {vs : List VI} {xs : List V}, RVs G ρ H vs xs → alF vs = true → xs.all flatV = true
  | _, _, .nil, _ => rfl
  | _, _, .cons (v := v) r t, e => by
    unfold alF at e
    cases q : flI v with
    | false => rw [q] at e; cases e
    | true =>
      rw [q] at e
      rw [List.all_cons, r.flat q, t.flats e]
      rfl
theorem RVs.inI {w : VI} {y : V} (r2 : RV G ρ H w y) (e2 : flI w = true) : ∀ {vs : List VI} {xs : List V}, RVs G ρ H vs xs → alF vs = true → ML.inI w vs = inV y xs
  | _, _, .nil, _ => rfl
  | _, _, .cons (v := v) (x := x) (xs := xs) r t, e => by
    unfold alF at e
    cases q : flI v with
    | false => rw [q] at e; cases e
    | true =>
      rw [q] at e
      unfold ML.inI
      rw [r.eqI r2 q e2]
      show _ = (List.any (x :: xs) fun z => eqV z y)
      rw [List.any_cons]
      cases eqV x y with
      | true => rfl
      | false => rw [Bool.false_or]; exact RVs.inI r2 e2 t e
theorem in_kind (hG : G.K = X.K) (hu : X.A.units + 65 < cLine) {neg : Bool} {op : CmpOp} {xi yi : VI} {x y : V} {Q : VK} (ag : Ag G ρ h H) (r1 : RV G ρ H xi x) (r2 : RV G ρ H yi y)
    (h1 : OpR X (compareOp op) (rIn X.K neg)) (h2 : OpR X (compareOp op) (fun x y H Q => ∃ d ds, Dp X.K H x d ∧ Dp X.K H y (.list ds) ∧ SeqAt.shaped d = true ∧ SeqAt.shaped (.list ds) = true ∧ Q (.bl (if neg then !(ds.any fun z => PyData.eqv z d) else ds.any fun z => PyData.eqv z d)) H))
    (h3 : OpR X (compareOp op) (fun y x H Q => ∃ a o, x = .ref a ∧ DGet H a y o ∧ Q (.bl (if neg then !o.isSome else o.isSome)) H))
    (fi : FinO G ρ H (RV G) Q (match inM xi yi h with | some b => some (VI.bl (if neg then !b else b), h) | none => none)) : ∃ r : R2, OpR X (compareOp op) r ∧ r x y H Q := by
  unfold inM at fi
  have lst : ∀ {ys : List VI} {zs : List V} {a : Addr}, RVs G ρ H ys zs → SqL G.K H a zs → FinO G ρ H (RV G) Q (match (match flI xi && alF ys with | true => some (inI xi ys) | false => inDl h xi ys) with | some b => some (VI.bl (if neg then !b else b), h) | none => none) → ∃ r : R2, OpR X (compareOp op) r ∧ r x (.ref a) H Q := by
    intro ys zs a rs sq fi
    cases q : flI xi && alF ys with
    | true =>
      rw [q] at fi
      obtain ⟨q1, q2⟩ := Bool.and_eq_true_iff.mp q
      exact ⟨_, h1, a, zs, rfl, .inl (hG ▸ sq), r1.flat q1, rs.flats q2, by rw [← rs.inI r1 q1 q2]; exact fi.ok ag (.bl _)⟩
    | false =>
      rw [q] at fi
      dsimp only at fi
      unfold inDl at fi
      cases e1 : dat 66 h xi with
      | none => rw [e1] at fi; exact fi.elim
      | some d =>
        cases e2 : datL (dat 65 h) ys with
        | none => rw [e1, e2] at fi; exact fi.elim
        | some ds =>
          rw [e1, e2] at fi
          dsimp only at fi
          cases z : SeqAt.shaped d && SeqAt.shaped (.list ds) with
          | false => rw [z] at fi; exact fi.elim
          | true =>
            rw [z] at fi
            obtain ⟨z1, z2⟩ := Bool.and_eq_true_iff.mp z
            exact ⟨_, h2, d, ds, hG ▸ dat_ok ag _ _ _ _ r1 e1, hG ▸ .lst sq (datL_ok (fun v x d => dat_ok ag 65 v x d) rs e2), z1, z2, fi.ok ag (.bl _)⟩
  cases r2 with
  | @tup xs ys a t1 s1 =>
    dsimp only at fi
    cases q : flI xi && alF xs with
    | false => rw [q] at fi; exact fi.elim
    | true =>
      rw [q] at fi
      obtain ⟨q1, q2⟩ := Bool.and_eq_true_iff.mp q
      exact ⟨_, h1, a, ys, rfl, .inr (hG ▸ t1), r1.flat q1, s1.flats q2, by rw [← s1.inI r1 q1 q2]; exact fi.ok ag (.bl _)⟩
  | @ref n a e =>
    dsimp only at fi
    cases q1 : h[n]? with
    | none => rw [q1] at fi; exact fi.elim
    | some ob =>
      rw [q1] at fi
      cases ob with
      | lst xs =>
        obtain ⟨ys, hy, rs⟩ := ag.at_ q1 e
        exact lst rs (.inl (.inl hy)) fi
      | scr xs =>
        obtain ⟨ob, ys, hy, rs⟩ := ag.at_ q1 e
        exact lst rs (.inl (.inr ⟨_, hy⟩)) fi
      | dic kvs =>
        obtain ⟨ks, hy, rs⟩ := ag.at_ q1 e
        dsimp only at fi
        cases q2 : isKey xi with
        | false => rw [q2] at fi; exact fi.elim
        | true =>
          rw [q2] at fi
          obtain ⟨k, rk, ey⟩ := r1.key q2
          subst ey
          have gd := rs.getD rk
          refine ⟨_, h3, a, _, rfl, DGet.k hy, ?_⟩
          cases q3 : getD xi kvs with
          | none => rw [q3] at gd fi; rw [gd]; exact fi.ok ag (.bl _)
          | some w =>
            rw [q3] at gd fi
            obtain ⟨z, hz, _⟩ := gd
            rw [hz]
            exact fi.ok ag (.bl _)
      | _ => exact fi.elim
  | _ => exact fi.elim
theorem op_dIn (hu : X.A.units + 1 < cLine) : OpR X (compareOp .In) (fun y x H Q => ∃ a o, x = .ref a ∧ DGet H a y o ∧ Q (.bl o.isSome) H) := by
  intro pins s σ H y x v u Q I ry rx ⟨a, ov, ex, g, q⟩
  subst ex
  obtain rfl : u = Value.ref a := rx
  exact d_in hu I g ry fun s3 I3 => ⟨.bl ov.isSome, H, I3, rfl, q⟩
theorem mo_in (hG : G.K = X.K) (hu : X.A.units + 65 < cLine) : OpR X (compareOp .In) (rd2 G fIn) := opR_at fun ρ h H xi yi x y Q ag r1 r2 f =>
  in_kind (neg := false) hG hu ag r1 r2 op_in_seq (op_inD hu) (op_dIn (by omega)) (by unfold fIn at f; cases q : inM xi yi h <;> rw [q] at f <;> exact f)
end
end ML
end
section
namespace ML
open PySem L2
structure IsT where
  non : Option Bool
  bl : Option Bool
  int : Option Bool
  str : Option Bool
  lst : Option Bool
  tup : Option Bool
  dic : Option Bool
  ins : Nat → Option Bool
def isT (T : IsT) (v : VI) (h : Hi) : Option Bool := match v with
  | .non => T.non
  | .bl _ => T.bl
  | .int _ => T.int
  | .str _ => T.str
  | .tup _ => T.tup
  | .ref n => match h[n]? with
    | some (.lst _) => T.lst
    | some (.scr _) => T.lst
    | some (.dic _) => T.dic
    | some (.ins c _) => T.ins c
    | _ => none
  | _ => none
def eIsi (T : IsT) (e : ME) : ME := fun σ h => (e σ h).bind fun v h1 => match isT T v h1 with
  | some b => .ok (.bl b) h1
  | none => .err
structure IsOk (K : PySem.W.Frag) (G : Gx) (us : List Value) (T : IsT) : Prop where
  non : ∀ b, T.non = some b → PySem.W.kitAny K (.type "NoneType") us = some b
  bl : ∀ b, T.bl = some b → PySem.W.kitAny K (.type "bool") us = some b
  int : ∀ b, T.int = some b → PySem.W.kitAny K (.type "int") us = some b
  str : ∀ b, T.str = some b → PySem.W.kitAny K (.type "str") us = some b
  lst : ∀ b, T.lst = some b → PySem.W.kitAny K (.type "list") us = some b
  tup : ∀ b, T.tup = some b → PySem.W.kitAny K (.type "tuple") us = some b
  dic : ∀ b, T.dic = some b → PySem.W.kitAny K (.type "dict") us = some b
  ins : ∀ c C b, T.ins c = some b → G.ct c = some C → Cls K C ∧ PySem.W.findIn K (.ref C) "__class__" = some (some (.builtin "object.__class__")) ∧ PySem.W.mroIn K C (.type "object") = some true ∧ PySem.W.kitAny K (.ref C) us = some b
  gs : PySem.W.specialIn K (.builtin "object.__class__") "__get__" = some (some (.builtin "getset_descriptor.__get__"))
  tk : PySem.W.takesIn K (.builtin "object.__class__") = some true
section
variable {G : Gx} {ρ : List Addr} {h : Hi} {H : Hp} {W : WX} {X : Cx} {e a b c o i v : Expr} {es : List Expr} {pos p p2 pos' apos cpos tpos : Pos} {me mi mo ma mb mv : ME} {mr : MA} {T : IsT} {us : List Value} {k : Nat}
theorem pe_ty {x : Str} {n : String} (hg : Gl X x) (hm : X.mg x = none) (hv : bootBuiltins x = some (.type n)) (hn : x ≠ "__name__" := by decide) (hd : (x == ("__debug__" : Str)) = false := by decide) : PE X (.Name x pos) (tC (.ty n)) := pe_bltn hg hm hv rfl hn hd
theorem pe_cl {x : Str} {C : Addr} (hg : Gl X x) (hm : X.mg x = some (.ref C)) (hd : (x == ("__debug__" : Str)) = false := by decide) : PE X (.Name x pos) (tC (.ref C)) := pe_glob hg hm rfl hd
def eKd (tbl : S → Option VI) (b : ME) : ME := fun σ h => (b σ h).bind fun v h1 => match v with
  | .str s => match tbl s with
    | some w => .ok w h1
    | none => .err
  | _ => .err
def rgI (a b : Int) : List VI := (List.range (b - a).toNat).map fun i => VI.int (a + (i : Nat))
def rgOk (a b : Int) : Bool := (decide (-(2 ^ 62) ≤ a) && decide (a < 2 ^ 62)) && ((decide (-(2 ^ 62) ≤ b) && decide (b < 2 ^ 62)) && decide ((b - a).toNat ≤ 2 ^ 24))
def eTupRg (a b : ME) : ME := fun σ h => (a σ h).bind fun x h1 => (b σ h1).bind fun y h2 => match x, y with
  | .int i, .int j => match rgOk i j with
    | true => .ok (.tup (rgI i j)) h2
    | false => .err
  | _, _ => .err
def eLstRg (a b : ME) : ME := fun σ h => (a σ h).bind fun x h1 => (b σ h1).bind fun y h2 => match x, y with
  | .int i, .int j => match rgOk i j with
    | true => .ok (.ref h2.length) (h2 ++ [.lst (rgI i j)])
    | false => .err
  | _, _ => .err
def eTupRg1 (b : ME) : ME := fun σ h => (b σ h).bind fun y h2 => match y with
  | .int j => match rgOk 0 j with
    | true => .ok (.tup (rgI 0 j)) h2
    | false => .err
  | _ => .err
def eLstRg1 (b : ME) : ME := fun σ h => (b σ h).bind fun y h2 => match y with
  | .int j => match rgOk 0 j with
    | true => .ok (.ref h2.length) (h2 ++ [.lst (rgI 0 j)])
    | false => .err
  | _ => .err
def eChain (f g : Op2) (a b c : ME) : ME := fun σ h => (a σ h).bind fun x h1 => (b σ h1).bind fun y h2 => (ofO (f x y h2)).bind fun z h3 => match z with
  | .bl true => (c σ h3).bind fun w h4 => ofO (g y w h4)
  | .bl false => .ok (.bl false) h3
  | _ => .err
end
def whl (t : MT) (body : MS) : Nat → MS
  | 0 => fun _ _ => .err
  | n + 1 => fun σ h => (t σ h).bindS σ fun b h1 => match b with
    | true => match body σ h1 with
      | .nx σ2 h2 => whl t body n σ2 h2
      | .ct σ2 h2 => whl t body n σ2 h2
      | .bk σ2 h2 => .nx σ2 h2
      | r => r
    | false => .nx σ h1
def sWhile (fu : Sg → Hi → Nat) (t : MT) (body : MS) : MS := fun σ h => whl t body (fu σ h) σ h
section
variable {G : Gx} {W : WX} {X : Cx} {c : Expr} {body : List Stmt} {pos : Pos} {mt : MT} {mb : MS}
end
def iAdd : Op2 := fun x y h => match x, y with
  | .int i, .int j => some (.int (i + j), h)
  | _, _ => none
def iSub : Op2 := fun x y h => match x, y with
  | .int i, .int j => some (.int (i - j), h)
  | _, _ => none
def sAug (i : Nat) (f : Op2) (e : ME) : MS := fun σ h => match σ[i]? with
  | some (some x) => (e σ h).bindS σ fun y h1 => match f x y h1 with
    | some (z, h2) => .nx (σ.set i (some z)) h2
    | none => .err
  | _ => .err
section
variable {G : Gx} {ρ : List Addr} {h : Hi} {H : Hp} {W : WX} {X : Cx} {e a b o : Expr} {pos pos' : Pos} {me ma mb : ME} {i : Nat} {x : Str} {f : Op2}
end
end ML
end
section
namespace ML
open PySem L2 PyProof.Rows
section
variable {X : Cx} {e k v : Expr} {pos : Pos} {td tk tv : TE}
end
def mrgTail (n c : Nat) (k v : ME) : ME := fun σ h2 => (k σ h2).bind fun y h3 => (v σ h3).bind fun z h4 => match isKey y, h4[n]?, h4[c]? with
  | true, some (.dic kvs2), some (.dic []) => match small (kvs2.length + 1) with
    | true => .ok (.ref n) ((h4.set c (.dic [(y, z)])).set n (.dic (putD y z kvs2)))
    | false => .err
  | _, _, _ => .err
def eMrg (e k v : ME) : ME := fun σ h => (e σ (h ++ [.dic []])).bind fun x h1 => match x with
  | .ref m => match Nat.beq m h.length, h1[h.length]?, h1[m]? with
    | false, some (.dic []), some (.dic kvs) => match small (kvs.length + 1) with
      | true => mrgTail h.length h1.length k v σ (h1.set h.length (.dic (putAll kvs [])) ++ [.dic []])
      | false => .err
    | _, _, _ => .err
  | _ => .err
section
variable {G : Gx} {ρ : List Addr} {h : Hi} {H : Hp} {W : WX} {X : Cx} {e k v : Expr} {pos : Pos} {me mk mv : ME}
theorem Ag.ne (ag : Ag G ρ h H) {m n : Nat} {a b : Addr} (hm : ρ[m]? = some a) (hn : ρ[n]? = some b) (q : m ≠ n) : a ≠ b := fun z => by
  subst z
  obtain ⟨h1, e1⟩ := List.getElem?_eq_some_iff.mp hm
  obtain ⟨h2, e2⟩ := List.getElem?_eq_some_iff.mp hn
  have pw := List.pairwise_iff_getElem.mp ag.nd
  rcases Nat.lt_trichotomy m n with l | l | l
  · exact pw m n h1 h2 l (e1.trans e2.symm)
  · exact q l
  · exact pw n m h2 h1 l (e2.trans e1.symm)
end
end ML
end
section
namespace ML
open PySem L2 PyProof.Rows
structure FnP (z : Bool) (X : Cx) (G : Gx) (k : Nat) (f : Addr) (fd : FuncData) (ps : List Str) (g : MF) : Prop where
  ok : FnOk X.prog X.w X.K X.mg X.base (CX z X.prog X.w) k f fd ps (spM G ps.length g)
  ar : Arity ps.length g
  room : Room (k + 2) X.A
def CallAt (X : Cx) (A : Around) (G : Gx) (W : WX) (fv : Value) (g : MF) : Prop :=
  ∀ (pins : List (Addr × Obj)) (s : Shared) (σ : L2.St) (H : Hp) (us : List Value) (vs : List V) (args : List VI) (ρ : List Addr) (h : Hi) (Q : VK), Inv X pins σ H s → Vals vs us → RVs G ρ H args vs → Ag G ρ h H →
    FinG G ρ H (RV G) Q (fun c d H' => W c d σ H') (g args h) → wpAny (model X.prog X.w) A (call fv us) (EP X pins σ Q) X.xe s
section
variable {G : Gx} {W : WX} {X : Cx} {A : Around} {ρ : List Addr} {h : Hi} {H : Hp} {σ : L2.St} {k np : Nat} {f C : Addr} {fd : FuncData} {ps : List Str} {g : MF}
theorem FnP.call (F : FnP z X G k f fd ps g) (hb : Binds X.K fd ps []) (tk : Takes z X W) : CallM X G W (.ref f) g := callM_fn F.ok F.ar (F.room.mono (by omega)) hb tk
end
structure Bnd (G : Gx) (K : PySem.W.Frag) (fd : FuncData) (ps : List Str) (n : Nat) (ks : List Str) (arr : List VI → List VI → List VI) : Prop where
  ex : ∃ (gu : List Value → List Value → List Value) (gV : List V → List V → List V), KBn K fd ps n ks gu gV ∧
    ∀ (ρ : List Addr) (H : Hp) (args zargs : List VI) (vs zs : List V), RVs G ρ H args vs → RVs G ρ H zargs zs → args.length = n → zargs.length = ks.length → RVs G ρ H (arr args zargs) (gV vs zs)
abbrev MK := List VI → List VI → Hi → Res VI
def CallK (X : Cx) (G : Gx) (W : WX) (fv : Value) (n : Nat) (ks : List Str) (g : MK) : Prop :=
  ∀ (pins : List (Addr × Obj)) (s : Shared) (σ : L2.St) (H : Hp) (us ws : List Value) (vs zs : List V) (args zargs : List VI) (ρ : List Addr) (h : Hi) (Q : VK), Inv X pins σ H s → Vals vs us → Vals zs ws → RVs G ρ H args vs → RVs G ρ H zargs zs → Ag G ρ h H →
    args.length = n → zargs.length = ks.length → FinG G ρ H (RV G) Q (fun c d H' => W c d σ H') (g args zargs h) → wpAny (model X.prog X.w) X.A (call fv us (ks.zip ws)) (EP X pins σ Q) X.xe s
def fnK (g : MF) (arr : List VI → List VI → List VI) : MK := fun vs zs h => g (arr vs zs) h
def mkK (c : Nat) (g : MF) (arr : List VI → List VI → List VI) : MK := fun vs zs h => match g (arr (.ref h.length :: vs) zs) (h ++ [.ins c []]) with
  | .ok .non h2 => .ok (.ref h.length) h2
  | .ex c n h2 => .ex c n h2
  | _ => .err
def eCallK (n m : Nat) (g : MK) (ma mk : MA) : ME := fun σ h => (ma σ h).bind fun vs h1 => (mk σ h1).bind fun zs h2 => match Nat.beq vs.length n && Nat.beq zs.length m with
  | true => g vs zs h2
  | false => .err
section
variable {G : Gx} {W : WX} {X : Cx} {A : Around} {ρ : List Addr} {h : Hi} {H : Hp} {σ : L2.St} {k n : Nat} {f C : Addr} {fd : FuncData} {ps ks : List Str} {g : MF} {gk : MK} {arr : List VI → List VI → List VI} {x : Str} {p pos kpos : Pos} {e : Expr} {es : List Expr} {kws : List Keyword} {ma mk : MA} {me : ME} {nm : Option Str} {fv : Value}
theorem mk_nil : PK X [] (rdA G W aNil) := ⟨fun pos pins s σ H Q I ⟨ρ, σi, h, as, ag, f⟩ => pk_nil.run pos pins s σ H Q I (f.ok ag .nil)⟩
theorem mk_cons (ha : PE X e (rdE G W me)) (hr : PK X kws (rdA G W mk)) : PK X (⟨nm, e, kpos⟩ :: kws) (rdA G W (aCons me mk)) :=
  ⟨fun pos pins s σ H Q I ⟨ρ, σi, h, as, ag, f⟩ => (pk_cons ha hr).run pos pins s σ H Q I (rdG_go as ag f fun ρ1 H1 h1 x y st as ag r f => rdG_go as ag f fun ρ2 H2 h2 xs ys st2 as ag rs f => f.ok ag (.cons (r.mono st2) rs))⟩
theorem me_callK0 (c : CallK X G W fv 0 ks gk) (hg : Gl X x) (hm : X.mg x = some fv) (hkp : PySem.W.keepIn X.K fv = true) (hkw : PK X kws (rdA G W mk))
    (hall : (backToKw pos (keywordEach kws X.env)).all (·.1.isSome) = true := by rfl) (hks : (backToKw pos (keywordEach kws X.env)).filterMap (·.1) = ks := by rfl) (hdb : (x == ("__debug__" : Str)) = false := by decide)
    (hpl : ((backTo pos (starEach [] X.env)).any (·.1) || (backToKw pos (keywordEach kws X.env)).any (·.1.isNone)) = false := by rfl) :
    PE X (.Call (.Name x p) [] kws pos) (rdE G W (eCallK 0 ks.length gk aNil mk)) := by
  refine ⟨fun pins s σ H Q I ⟨ρ, σi, h, as, ag, fin⟩ => ?_⟩
  refine wpAny_Call_Name_kw (ld_glob I hg hm ?_ hdb)
  have B : rdA G W mk σ H fun zs H2 => ∃ ρ2 h2 zargs, RVs G ρ2 H2 zargs zs ∧ Ag G ρ2 h2 H2 ∧ zargs.length = ks.length ∧ FinG G ρ2 H2 (RV G) Q (fun c d H' => W c d σ H') (gk [] zargs h2) :=
    rdG_go as ag (show FinG G ρ H (RV G) Q (fun c d H' => W c d σ H') ((mk _ h).bind _) from fin) fun ρ2 H2 h2 zs ws st2 as ag rz f => by
      cases q : Nat.beq ([] : List VI).length 0 && Nat.beq zs.length ks.length with
      | false => rw [q] at f; exact f.elim
      | true =>
        rw [q] at f
        obtain ⟨q1, q2⟩ := Bool.and_eq_true_iff.mp q
        exact ⟨ρ2, h2, zs, rz, ag, Nat.eq_of_beq_eq_true q2, f⟩
  refine PySem.W.callWith_KW0 (h₀ := X.base) I.ok.mod.kin hkp hall ?_ hpl
  refine thn (hkw.run pos pins s σ H _ I B) fun ws s2 ⟨zs, H2, I2, rz, ρ2, h2, zargs, rza, ag2, l2, f2⟩ => ⟨I2.kIn, ?_⟩
  rw [hks]
  exact c pins s2 σ H2 [] ws [] zs [] zargs ρ2 h2 Q I2 .nil rz .nil rza ag2 rfl l2 f2
end
end ML
end
section
namespace ML
open PySem L2 PyProof.Rows
structure SpOk (X : Cx) (A : Around) (G : Gx) (W : WX) (tbl : Nat → Option MF) (nm : Str) : Prop where
  at_ : ∀ c C g, tbl c = some g → G.ct c = some C → ∃ f, PySem.W.noSeq X.K C = true ∧ PySem.W.findIn X.K (.ref C) nm = some (some (.ref f)) ∧ PySem.W.fnIn X.K f = true ∧ PySem.W.isFn X.K (.ref f) = true ∧ CallAt X A G W (.ref f) g
def insC (x : VI) (h : Hi) : Option Nat := match x with
  | .ref n => match h[n]? with
    | some (.ins c _) => some c
    | _ => none
  | _ => none
def eIxU (tbl : Nat → Option MF) (a b : ME) : ME := fun σ h => (a σ h).bind fun x h1 => (b σ h1).bind fun y h2 => match insC x h2 with
  | some c => match tbl c with
    | some g => g [x, y] h2
    | none => .err
  | none => ofO (fIx x y h2)
section
variable {G : Gx} {ρ : List Addr} {h : Hi} {H : Hp} {W : WX} {X : Cx} {A : Around} {e a b c o i v : Expr} {es : List Expr} {pos p pos' apos : Pos} {me mi mo ma mb mv : ME} {mr : MA} {tbl : Nat → Option MF} {σ : L2.St}
end
def dropV (σ : Sg) : Res VI → RS
  | .ok _ h => .nx σ h
  | .ex c n h => .ex c n σ h
  | .err => .err
def gIxU (tbl : Nat → Option MF) (o i : ME) : MG := fun v σ h => (o σ h).bindS σ fun x h1 => (i σ h1).bindS σ fun y h2 => match insC x h2 with
  | some c => match tbl c with
    | some g => dropV σ (g [x, y, v] h2)
    | none => .err
  | none => nxO σ (putIx x y v h2)
section
variable {G : Gx} {ρ : List Addr} {h : Hi} {H : Hp} {W : WX} {X : Cx} {A : Around} {e a b c o i v : Expr} {es : List Expr} {pos p pos' apos : Pos} {me mi mo ma mb mv : ME} {mr : MA} {tbl : Nat → Option MF}
end
end ML
end
section
namespace ML
open PySem L2 NdefX
open PyProof.Rows hiding wpAt
structure PSsT (X : Cx) (body st : List Stmt) (t : TS) : Prop where
  run : ∀ (pins : List (Addr × Obj)) (s : Shared) (σ : L2.St) (H : Hp) (D : Ends), Inv X pins σ H s → t D σ H → wpAt (model X.prog X.w) X.A (.func body X.env) (execs st X.env) (SP X pins D) X.xe s
structure PST (X : Cx) (body : List Stmt) (st : Stmt) (t : TS) : Prop where
  run : ∀ (pins : List (Addr × Obj)) (s : Shared) (σ : L2.St) (H : Hp) (D : Ends), Inv X pins σ H s → t D σ H → wpAt (model X.prog X.w) X.A (.func body X.env) (exec st X.env) (SP X pins D) X.xe s
theorem PSsT.of {X : Cx} {body st : List Stmt} {t : TS} (h : PSs X st t) : PSsT X body st t := ⟨fun pins s σ H D I q => wpAt_of_wpAny (h.run pins s σ H D I q)⟩
theorem PST.of {X : Cx} {body : List Stmt} {st : Stmt} {t : TS} (h : PS X st t) : PST X body st t := ⟨fun pins s σ H D I q => wpAt_of_wpAny (h.run pins s σ H D I q)⟩
theorem PSsT.imp' {X : Cx} {body st : List Stmt} {t t' : TS} (h : PSsT X body st t) (i : ∀ D σ H, t' D σ H → t D σ H) : PSsT X body st t' := ⟨fun pins s σ H D I q => h.run pins s σ H D I (i D σ H q)⟩
theorem PST.imp' {X : Cx} {body : List Stmt} {st : Stmt} {t t' : TS} (h : PST X body st t) (i : ∀ D σ H, t' D σ H → t D σ H) : PST X body st t' := ⟨fun pins s σ H D I q => h.run pins s σ H D I (i D σ H q)⟩
structure FunS (K : PySem.W.Frag) (x qual : Str) (params : Arguments) (body : List Stmt) (scope : Scope) (dvs : List V) (kws : List (Str × V)) (f : Addr) (fd : FuncData) (cc D c : Addr) (file : Str) : Prop where
  ex : ∃ (oc : Value) (od : Option Addr) (dV kV doc pm : Value) (an : Option Addr) (ct : Value) (osl : Array (Option Value)),
    fd = PySem.W.fnX x qual params body scope [("__class__", cc)] dV kV doc pm an (.ref c) ct ∧ K.lookup f = some ⟨oc, od, .func fd, osl⟩ ∧ DflV K dV dvs ∧ KwdV K kV kws
  code : PySem.W.codeIn K (.ref c) qual = true
  file : ∃ (o : Obj) (vs : Array Value) (tf : Tok), K.lookup c = some o ∧ o.data = .fields vs ∧ vs[2]? = some (.str file tf)
  cell : ∃ o : Obj, K.lookup cc = some o ∧ o.data = .cell (some (.ref D))
  kp : PySem.W.keepIn K (.ref f) = true
abbrev nfS (x qual : Str) (params : Arguments) (body : List Stmt) (scope : Scope) (cc c : Addr) : NF := ⟨x, qual, params, body, scope, [("__class__", cc)], c⟩
section
variable {P : Program} {w : World} {K : PySem.W.Frag} {mg : Str → Option Value} {base : Heap} {x qual : Str} {params : Arguments} {body : List Stmt} {scope : Scope} {dvs : List V} {kws : List (Str × V)} {f cc D c : Addr} {fd : FuncData} {file : Str} {N ps : List Str} {k : Nat} {sp : Sp} {CX : CXT}
theorem FunS.cells {A : Around} {outer : List Env} {s : Shared} {H : Hp} (F : FunS K x qual params body scope dvs kws f fd cc D c file) (e0 : Env0 P w K mg base A outer s H) : CellsAt [("__class__", cc)] ["__class__"] [some (.ref D)] s.heap H := by
  obtain ⟨o, lo, od⟩ := F.cell
  have hb := e0.mod.kin cc o lo
  obtain ⟨hs, hn⟩ := e0.bs cc o hb
  have cellAt : s.heap.IsCell cc (some (.ref D)) := ⟨o, hs, od⟩
  refine ⟨rfl, fun y c' e => ?_, fun x y c' e1 e2 => ?_, fun i y e => ?_⟩
  · simp only [List.lookup] at e
    split at e
    · cases e; exact ⟨hn, _, cellAt⟩
    · cases e
  · simp only [List.lookup] at e1 e2
    split at e1
    · rename_i h1
      split at e2
      · rename_i h2
        rw [beq_iff_eq.mp h1, beq_iff_eq.mp h2]
      · cases e2
    · cases e1
  · cases i with
    | zero =>
      simp at e
      subst e
      refine ⟨cc, by simp [List.lookup], fun v hv => ?_⟩
      simp at hv
      subst hv
      exact ⟨_, rfl, cellAt⟩
    | succ i => simp at e
theorem FunS.ok (F : FunS K x qual params body scope dvs kws f fd cc D c file) (S : NScope N ps ["__class__"] scope) (len : ∀ vs H Q E, sp vs H Q E → vs.length = ps.length)
    (hbody : ∀ (A : Around) (outer : List Env) (s : Shared) (H : Hp) (vs : List V) (Q : VK) (E : XK), Room k (A.deeper (envF (nfS x qual params body scope cc c) f s.heap.objs.size)) → sp vs H Q E →
      ∃ t, PSsT (ncx CX P w K mg base N (nfS x qual params body scope cc c) f A outer s H E) body body t ∧ t { nx := fun _ H' => Q .non H', rt := Q } (startF N vs [some (.ref D)]) H) : FnOk P w K mg base CX (k + 1) f fd ps sp := by
  obtain ⟨oc, od, dV, kV, doc, pm, an, ct, osl, rfl, lk, _, _⟩ := F.ex
  refine ⟨len, fun A outer s H args us vs Q E hr e0 hb r hsp => ?_⟩
  have hl := len _ _ _ _ hsp
  have KX : K.In s.heap := e0.mod.kin.keeps fun b o e => (e0.bs b o e).1
  have lim : s.heap.NoLimit := e0.mod.nolimit.keeps fun b o e => (e0.bs b o e).1
  refine ks_codeAny_call_defAt (body := body) (binds := ps.zip us) hr.depth (KX _ _ lk) rfl lim (PySem.W.codeRec_of KX F.code) rfl hb S.nocell (fun ⟨n, _⟩ hy => S.par n (List.of_mem_zip hy).1) (fun h₁ hns kp => ?_) S.co S.gen S.kind
  obtain ⟨t, ht, hq⟩ := hbody A outer s H vs Q E (hr.deeper _) hsp
  have I : Inv (ncx CX P w K mg base N (nfS x qual params body scope cc c) f A outer s H E) [] (startF N vs [some (.ref D)]) H { s with heap := h₁, toks := s.toks + (ps.zip us).length } := inv_startN S hr.hd e0 hl r (F.cells e0) hns kp
  refine ks_wpAt_mono (ht.run [] _ (startF N vs [some (.ref D)]) H _ I hq) (fun fl s' hs => ?_) fun e s' hs => hs
  have fin : ∀ {σ' : L2.St} {H' : Hp} {v : V} {u : Value}, Inv (ncx CX P w K mg base N (nfS x qual params body scope cc c) f A outer s H E) [] σ' H' s' → L2.RelV v u → Q v H' → CE outer P w H s Q u s' :=
    fun {σ' H' v u} J rv q => ⟨v, H', J.os, J.bare, J.base, J.hok, rv, q⟩
  cases fl with
  | ret u =>
    obtain ⟨v, σ', H', J, rv, q⟩ := hs
    exact fin J rv q
  | next =>
    obtain ⟨σ', H', J, q⟩ := hs
    exact fin (v := V.non) (u := Value.none) J rfl q
  | brk =>
    obtain ⟨_, _, _, q⟩ := hs
    exact False.elim q
  | cont =>
    obtain ⟨_, _, _, q⟩ := hs
    exact False.elim q
end
end ML
end
section
namespace ML
open PySem L2 NdefX
open PyProof.Rows hiding wpAt
theorem boot_super : bootBuiltins "super" = some (.type "super") := by decide +kernel
theorem load_slot {X : Cx} {pins : List (Addr × Obj)} {σ : L2.St} {H : Hp} {s : Shared} {i : Nat} {x : Str} {v : V} {E : Value → Shared → Prop} {Q : Value → Shared → Prop} (I : Inv X pins σ H s) (hN : X.N[i]? = some x) (e : σ[i]? = some (some v)) (hv : Vis X.env.scope x) (hcd : (x == ("__classdict__" : Str)) = false)
    (h : ∀ u, RelV v u → Q u s) : wpAny (model X.prog X.w) X.A (loadName X.env x) Q E s := by
  obtain ⟨m, hn, hl⟩ := I.loc
  obtain ⟨u, r, l⟩ := hl i x v hN e hv
  rcases l with ⟨hk, hm⟩ | ⟨hk, c, hc, hcell⟩
  · exact wpAny_loadName_local I.ok.kind hk hn hm (h u r)
  · rcases hk with hk | hk
    · exact wpAny_loadName_cell I.ok.kind hk hc hcell (h u r)
    · exact wpAny_loadName_free I.ok.kind hk hc hcell (h u r) hcd
theorem load_blt {X : Cx} {pins : List (Addr × Obj)} {s : Shared} {σ : L2.St} {H : Hp} {x : Str} {u : Value} {E : Value → Shared → Prop} {Q : Value → Shared → Prop} (I : Inv X pins σ H s) (hg : Gl X x) (hm : X.mg x = none) (hv : bootBuiltins x = some u) (hn : x ≠ "__name__") (h : Q u s) : wpAny (model X.prog X.w) X.A (loadName X.env x) Q E s := by
  obtain ⟨mb, h1, h2⟩ := I.mod.blt
  exact PySem.W.ks_loadName_global I.ok.kind hg (Calls.loadGlobal_builtin (by rw [I.ok.glob]; exact I.mod.glob.keeps I.bk) hm (by rw [I.ok.blt]; exact h1.keeps I.bk) ((h2 x hn).trans hv) h)
def CodeM (X : Cx) (G : Gx) (W : WX) (fv : Value) (g : MF) : Prop :=
  ∀ (pins : List (Addr × Obj)) (s : Shared) (σ : L2.St) (H : Hp) (us : List Value) (vs : List V) (args : List VI) (ρ : List Addr) (h : Hi) (Q : VK), Inv X pins σ H s → Vals vs us → RVs G ρ H args vs → Ag G ρ h H →
    FinG G ρ H (RV G) Q (fun c d H' => W c d σ H') (g args h) → codeAny (model X.prog X.w) X.A (.call fv ⟨us, []⟩) (fun r s' => match r with | .ok (.ret v) => EP X pins σ Q v s' | .ok _ => False | .error e => X.xe e s') s
theorem FnP.code {X : Cx} {G : Gx} {W : WX} {k : Nat} {f : Addr} {fd : FuncData} {ps : List Str} {g : MF} (F : FnP z X G k f fd ps g) (hb : Binds X.K fd ps []) (tk : Takes z X W) : CodeM X G W (.ref f) g := by
  intro pins s σ H us vs args ρ h Q I r ra ag fin
  by_cases hl : args.length = ps.length
  · have hsp : spM G ps.length g vs H Q (WE W σ) := ⟨ρ, h, args, hl, ag, ra, fin⟩
    have lu : us.length = ps.length := by rw [← r.length, ← ra.length]; exact hl
    have b := hb s us I.kIn (by rw [List.append_nil]; exact lu)
    rw [List.append_nil] at b
    refine codeAny_mono (F.ok.run _ _ s H ⟨us, []⟩ us vs Q (WE W σ) (F.room.mono (by omega)) I.env0 b r hsp) fun res s' hq => ?_
    match res, hq with
    | .error e, hq => exact passAt tk σ pins H s e s' I hq
    | .ok (.ret u), hq => exact I.after hq
  · rw [F.ar args h hl] at fin
    exact fin.elim
structure SupOk (X : Cx) (G : Gx) (W : WX) (known : Nat → Bool) (f D : Addr) (slf : Str) (g : MF) : Prop where
  fn : X.env.func = some f
  at_ : ∃ (o : Obj) (fd : FuncData) (ar : Arg), X.K.lookup f = some o ∧ o.data = .func fd ∧ (fd.params.posonlyargs ++ fd.params.args).head? = some ar ∧ ar.arg = slf
  code : ∃ (c : Addr) (o : Obj) (vs : Array Value) (file : Str) (tf : Tok), X.env.code = .ref c ∧ X.K.lookup c = some o ∧ o.data = .fields vs ∧ vs[2]? = some (.str file tf) ∧ ((X.prog.main.file : Str) == file) = true
  top : (X.prog.main.scope.names.lookup ("super" : Str)).isSome = false
  cls : ∃ cd, PySem.W.clsIn X.K D = some cd
  any : PySem.W.nsIn X.K cStatics "thirdparty.any" = some none
  sub : ∀ c C, known c = true → G.ct c = some C → (∃ cd, PySem.W.clsIn X.K C = some cd) ∧ PySem.W.mroIn X.K C (.ref D) = some true ∧ ∃ f2, PySem.W.ks_superIn X.K C D "__init__" = some (some (.ref f2)) ∧ PySem.W.typeIn X.K (.ref f2) = some (.type "function") ∧ PySem.W.fnIn X.K f2 = true ∧ CodeM X G W (.ref f2) g
def sSuper (known : Nat → Bool) (i : Nat) (g : MF) (ma : MA) : MS := fun σ h => match σ[i]? with
  | some (some (.ref n)) => match h[n]? with
    | some (.ins c _) => match known c with
      | true => (ma σ h).bindS σ fun vs h1 => dropV σ (g (.ref n :: vs) h1)
      | false => .err
    | _ => .err
  | _ => .err
section
variable {G : Gx} {W : WX} {X : Cx} {body : List Stmt} {known : Nat → Bool} {f D : Addr} {slf : Str} {g : MF} {i j : Nat} {e : Expr} {es : List Expr} {ma : MA} {p0 p1 apos cpos spos : Pos}
end
section
variable {P : Program} {w : World} {K : PySem.W.Frag} {mg : Str → Option Value} {base : Heap} {x qual : Str} {params : Arguments} {body : List Stmt} {scope : Scope} {dvs : List V} {kws : List (Str × V)} {f cc D c : Addr} {fd : FuncData} {file : Str} {N ps : List Str} {k n : Nat} {G : Gx} {mb : MS}
end
end ML
end
section
namespace MB
open PySem L2
end MB
namespace ML
open PySem L2 PyProof.Rows
section
variable {X : Cx} {e : Expr} {x : Str} {p pos kp : Pos} {fv : Value} {td : TE}
end
def keysAre : List S → List (VI × VI) → Bool
  | [], [] => true
  | s :: ss, (.str t, _) :: r => decide (s = t) && keysAre ss r
  | _, _ => false
def eKwD (ks : List S) (gk : MK) (e : ME) : ME := fun σ h => (e σ (h ++ [.dic []])).bind fun x h1 => match x with
  | .ref m => match Nat.beq m h.length, h1[h.length]?, h1[m]? with
    | false, some (.dic []), some (.dic kvs) => match keysAre ks kvs with
      | true => gk [] (kvs.map (·.2)) (h1.set h.length (.dic (putAll kvs [])))
      | false => .err
    | _, _, _ => .err
  | _ => .err
section
variable {G : Gx} {ρ : List Addr} {h : Hi} {H : Hp} {W : WX} {X : Cx} {e : Expr} {x : Str} {p pos kp : Pos} {fv : Value} {ks : List S} {gk : MK} {me : ME}
end
def gSeq : List MG → List VI → Sg → Hi → RS
  | [], [], σ, h => .nx σ h
  | g :: gs, v :: vs, σ, h => (g v σ h).andThen fun σ1 h1 => gSeq gs vs σ1 h1
  | _, _, _, _ => .err
def gTupM (gs : List MG) : MG := fun v σ h => match v with
  | .tup xs => match Nat.beq xs.length gs.length with
    | true => gSeq gs xs σ h
    | false => .err
  | _ => .err
section
variable {G : Gx} {ρ : List Addr} {h : Hi} {H : Hp} {W : WX} {X : Cx} {e : Expr} {es : List Expr} {pos : Pos} {g : MG} {gs : List MG} {k n : Nat}
theorem PGs.imp' {t t' : TGs} (h : PGs X es t) (i : ∀ vs σ H Q, t' vs σ H Q → t vs σ H Q) : PGs X es t' := ⟨fun pins s σ H vs us Q I r q => h.run pins s σ H vs us Q I r (i vs σ H Q q)⟩
end
end ML
end
section
namespace ML
open PySem PySem.Spec PyProof.Rows L2 He
def lkT {α : Type} : List (Nat × α) → Nat → Option α
  | [], _ => none
  | (d, x) :: r, c => match Nat.beq d c with
    | true => some x
    | false => lkT r c
theorem lkT_cons {α : Type} {d c : Nat} {x g : α} {r : List (Nat × α)} (h : lkT ((d, x) :: r) c = some g) : (c = d ∧ g = x) ∨ lkT r c = some g := by
  unfold lkT at h
  cases q : Nat.beq d c with
  | true => rw [q] at h; exact .inl ⟨(Nat.eq_of_beq_eq_true q).symm, (Option.some.inj h).symm⟩
  | false => rw [q] at h; exact .inr h
abbrev GxOf (w : World) (K : PySem.W.Frag) (mg : Str → Option Value) (nm : Nat → Option Str) : Gx := ⟨w, K, mg, fun c => (nm c).map (ga K)⟩
theorem gx_ct {w : World} {K : PySem.W.Frag} {mg : Str → Option Value} {nm : Nat → Option Str} {c : Nat} {C : Addr} {x : Str} (h : (GxOf w K mg nm).ct c = some C) (e : nm c = some x) : C = ga K x := by
  have h' : (nm c).map (ga K) = some C := h
  rw [e] at h'
  exact (Option.some.inj h').symm
section
variable {w : World} {K : PySem.W.Frag} {h : Heap} {mg : Str → Option Value} {nm : Nat → Option Str}
inductive ClsR where
  | ty (n : String) | own (x : Str)
def ClsR.val (K : PySem.W.Frag) : ClsR → Value
  | .ty n => .type n
  | .own x => .ref (ga K x)
def ClsR.v (K : PySem.W.Frag) : ClsR → V
  | .ty n => .ty n
  | .own x => .ref (ga K x)
theorem ClsR.ok (K : PySem.W.Frag) (c : ClsR) : ClsV (c.v K) (c.val K) := by
  cases c with
  | ty n => exact .ty n
  | own x => exact .own _
theorem ClsR.all (K : PySem.W.Frag) : ∀ cs : List ClsR, Paired ClsV (cs.map (ClsR.v K)) (cs.map (ClsR.val K))
  | [] => .nil
  | c :: r => .cons (c.ok K) (ClsR.all K r)
structure IsS where
  non : Option Bool
  bl : Option Bool
  int : Option Bool
  str : Option Bool
  lst : Option Bool
  tup : Option Bool
  dic : Option Bool
  ins : List (Nat × Bool)
def IsS.t (s : IsS) : IsT := ⟨s.non, s.bl, s.int, s.str, s.lst, s.tup, s.dic, lkT s.ins⟩
end
end ML
end
section
namespace ML
open PySem PySem.Spec PyProof.Rows L2 He
def lkS {α : Type} : List (S × α) → S → Option α
  | [], _ => none
  | (d, x) :: r, c => match decide (d = c) with
    | true => some x
    | false => lkS r c
section
variable {w : World} {K : PySem.W.Frag} {h : Heap} {mg : Str → Option Value} {nm : Nat → Option Str}
end
structure GDef where
  at_ : PySem.W.Frag → Addr
  name : Str
  qual : Str
  params : Arguments
  body : List Stmt
  scope : Scope
  dfl : List Dv := []
  kwd : List (Str × Dv) := []
def fnG (K : PySem.W.Frag) (p : PySem.W.Frag → Addr) : FnW := match K.lookup (p K) with
  | some ⟨_, _, .func fd, _⟩ => some (fd.name, fd.qualname, fd.params, fd.body, fd.scope, fd.globals, fd.closure, fd.builtins)
  | _ => none
def GDef.val (d : GDef) : FnW := some (d.name, d.qual, d.params, .stmts d.body, d.scope, mainGlobals, [], builtinsNs)
def GDef.dvs (K : PySem.W.Frag) (d : GDef) : List V := d.dfl.map (Dv.v K)
def GDef.kws (K : PySem.W.Frag) (d : GDef) : List (Str × V) := d.kwd.map fun q => (q.1, q.2.v K)
def GDef.ok (K : PySem.W.Frag) (d : GDef) : Bool := PySem.W.keepIn K (.ref (d.at_ K)) && (match K.lookup (d.at_ K) with
  | some ⟨_, _, .func fd, _⟩ => PySem.W.codeIn K fd.code d.qual && (dflB K fd.defaults (d.dvs K) && kwdB K fd.kwdefaults (d.kws K))
  | _ => false)
theorem GDef.funD {K : PySem.W.Frag} {d : GDef} (e : fnG K d.at_ = d.val) (c : d.ok K = true) : ∃ fd, FunD K d.name d.qual d.params d.body d.scope (d.dvs K) (d.kws K) (d.at_ K) fd := by
  obtain ⟨kp, c2⟩ := ba c
  unfold fnG at e
  cases q : K.lookup (d.at_ K) with
  | none => rw [q] at c2; cases c2
  | some o =>
    obtain ⟨oc, od, dt, osl⟩ := o
    rw [q] at c2 e
    cases dt with
    | func fd =>
      obtain ⟨n1, n2, n3, n4, n5, n6, n7, n8, n9, n10, n11, n12, n13, n14, n15⟩ := fd
      have e2 : (some (n1, n2, n3, n4, n5, n6, n7, n15) : FnW) = some (d.name, d.qual, d.params, .stmts d.body, d.scope, mainGlobals, [], builtinsNs) := e
      simp only [Option.some.injEq, Prod.mk.injEq] at e2
      obtain ⟨h1, h2, h3, h4, h5, h6, h7, h8⟩ := e2
      subst h1 h2 h3 h4 h5 h6 h7 h8
      obtain ⟨k1, k2⟩ := ba (show (PySem.W.codeIn K n13 d.qual && (dflB K n8 (d.dvs K) && kwdB K n9 (d.kws K))) = true from c2)
      obtain ⟨k3, k4⟩ := ba k2
      exact ⟨_, ⟨oc, od, n8, n9, n10, n11, n12, n13, n14, osl, rfl, q, k1, dflB_ok k3, kwdB_ok k4⟩, kp⟩
    | _ => cases c2
structure SDef where
  at_ : PySem.W.Frag → Addr
  name : Str
  qual : Str
  params : Arguments
  body : List Stmt
  scope : Scope
  kwd : List (Str × Dv) := []
  cls : Str
  file : Str
abbrev FnS : Type := Option (Str × Str × Arguments × FuncBody × Scope × Addr × Addr)
def fnS (K : PySem.W.Frag) (p : PySem.W.Frag → Addr) : FnS := match K.lookup (p K) with
  | some ⟨_, _, .func fd, _⟩ => some (fd.name, fd.qualname, fd.params, fd.body, fd.scope, fd.globals, fd.builtins)
  | _ => none
def SDef.val (d : SDef) : FnS := some (d.name, d.qual, d.params, .stmts d.body, d.scope, mainGlobals, builtinsNs)
def SDef.kws (K : PySem.W.Frag) (d : SDef) : List (Str × V) := d.kwd.map fun q => (q.1, q.2.v K)
def fdOf (K : PySem.W.Frag) (p : PySem.W.Frag → Addr) : FuncData := match K.lookup (p K) with
  | some ⟨_, _, .func fd, _⟩ => fd
  | _ => PySem.W.fnX Str.empty Str.empty ⟨[], [], none, [], [], none, []⟩ [] ⟨.function, [], false, false, []⟩ [] .none .none .none .none none .none .none
def cdAd (K : PySem.W.Frag) (p : PySem.W.Frag → Addr) : Addr := match (fdOf K p).code with
  | .ref c => c
  | _ => 0
def clAd (K : PySem.W.Frag) (p : PySem.W.Frag → Addr) : Addr := match (fdOf K p).closure with
  | [(_, c)] => c
  | _ => 0
def SDef.ok (K : PySem.W.Frag) (d : SDef) : Bool := PySem.W.keepIn K (.ref (d.at_ K)) && ((match K.lookup (d.at_ K) with
  | some ⟨_, _, .func fd, _⟩ => decide (fd.closure = [(("__class__" : Str), clAd K d.at_)]) && (decide (fd.code = .ref (cdAd K d.at_)) && (dflB K fd.defaults [] && kwdB K fd.kwdefaults (d.kws K)))
  | _ => false) && (PySem.W.codeIn K (.ref (cdAd K d.at_)) d.qual && ((match K.lookup (cdAd K d.at_) with
    | some ⟨_, _, .fields vs, _⟩ => (match (vs[2]? : Option Value) with
      | some (.str f _) => decide (f = d.file)
      | _ => false)
    | _ => false) && (match K.lookup (clAd K d.at_) with
      | some ⟨_, _, .cell (some (.ref D)), _⟩ => decide (D = ga K d.cls)
      | _ => false))))
theorem SDef.funS {K : PySem.W.Frag} {d : SDef} (e : fnS K d.at_ = d.val) (c : d.ok K = true) : FunS K d.name d.qual d.params d.body d.scope [] (d.kws K) (d.at_ K) (fdOf K d.at_) (clAd K d.at_) (ga K d.cls) (cdAd K d.at_) d.file := by
  obtain ⟨kp, c⟩ := ba c
  obtain ⟨c1, c⟩ := ba c
  obtain ⟨c2, c⟩ := ba c
  obtain ⟨c3, c4⟩ := ba c
  refine ⟨?_, c2, ?_, ?_, kp⟩
  · unfold fnS at e
    unfold fdOf
    cases q : K.lookup (d.at_ K) with
    | none => rw [q] at c1; cases c1
    | some o =>
      obtain ⟨oc, od, dt, osl⟩ := o
      rw [q] at c1 e
      cases dt with
      | func fd =>
        obtain ⟨n1, n2, n3, n4, n5, n6, n7, n8, n9, n10, n11, n12, n13, n14, n15⟩ := fd
        have e2 : (some (n1, n2, n3, n4, n5, n6, n15) : FnS) = some (d.name, d.qual, d.params, .stmts d.body, d.scope, mainGlobals, builtinsNs) := e
        simp only [Option.some.injEq, Prod.mk.injEq] at e2
        obtain ⟨h1, h2, h3, h4, h5, h6, h8⟩ := e2
        subst h1 h2 h3 h4 h5 h6 h8
        obtain ⟨k1, c5⟩ := ba (show (decide (n7 = [(("__class__" : Str), clAd K d.at_)]) && (decide (n13 = .ref (cdAd K d.at_)) && (dflB K n8 [] && kwdB K n9 (d.kws K)))) = true from c1)
        obtain ⟨k2, c6⟩ := ba c5
        obtain ⟨k3, k4⟩ := ba c6
        have k1 := of_decide_eq_true k1
        have k2 := of_decide_eq_true k2
        subst k1 k2
        exact ⟨oc, od, n8, n9, n10, n11, n12, n14, osl, rfl, rfl, dflB_ok k3, kwdB_ok k4⟩
      | _ => cases c1
  · cases q : K.lookup (cdAd K d.at_) with
    | none => rw [q] at c3; cases c3
    | some o =>
      obtain ⟨oc, od, dt, osl⟩ := o
      rw [q] at c3
      cases dt with
      | fields vs =>
        dsimp only at c3
        split at c3
        · rename_i f t z
          rw [← of_decide_eq_true c3]
          exact ⟨_, vs, t, rfl, rfl, z⟩
        · cases c3
      | _ => cases c3
  · split at c4
    · rename_i D sl q
      rw [← of_decide_eq_true c4]
      exact ⟨_, q, rfl⟩
    · cases c4
def noLstB (K : PySem.W.Frag) : Bool := K.all fun p => match p.2.cls with
  | .type t => !decide (t = "list")
  | _ => true
theorem mem_lk {a : Addr} {o : Obj} : ∀ {K : List (Addr × Obj)}, K.lookup a = some o → (a, o) ∈ K
  | [], h => by cases h
  | (b, u) :: r, h => by
    rw [List.lookup_cons] at h
    cases q : a == b with
    | true =>
      rw [q] at h
      cases h
      rw [beq_iff_eq.mp q]
      exact List.mem_cons_self
    | false =>
      rw [q] at h
      exact List.mem_cons_of_mem _ (mem_lk h)
theorem noLst_ok {K : PySem.W.Frag} (h : noLstB K = true) {a : Addr} {o : Obj} (e : K.lookup a = some o) : o.cls ≠ .type "list" := fun z => by
  have m : (a, o) ∈ K := mem_lk e
  have := List.all_eq_true.mp h _ m
  dsimp only at this
  rw [z] at this
  cases this
structure MSpec where
  fn : List GDef
  sf : List SDef
  ts : List Tab
  ex : List (PySem.W.Frag → Bool)
abbrev AlM : Type := Bool × List FnW × List FnS × List (Option (List (Option (Str × Int))))
def obsM (m : MSpec) (K : PySem.W.Frag) : AlM := ((m.ex.all fun f => f K) && ((m.fn.all fun d => d.ok K) && (m.sf.all fun d => d.ok K)), m.fn.map fun d => fnG K d.at_, m.sf.map fun d => fnS K d.at_, m.ts.map fun t => dicW K (t.1 K))
def valM (m : MSpec) (w : World) : AlM := (true, m.fn.map GDef.val, m.sf.map SDef.val, m.ts.map fun t => some (keysIn w.params t.2))
def SaysM (m : MSpec) (w : World) (K : PySem.W.Frag) : Prop := obsM m K = valM m w
section
variable {m : MSpec} {w : World} {K : PySem.W.Frag}
theorem SaysM.b (c : SaysM m w K) : (m.ex.all fun f => f K) = true ∧ (m.fn.all fun d => d.ok K) = true ∧ (m.sf.all fun d => d.ok K) = true := by
  have e : ((m.ex.all fun f => f K) && ((m.fn.all fun d => d.ok K) && (m.sf.all fun d => d.ok K))) = true := congrArg (fun z : AlM => z.1) c
  obtain ⟨e1, e2⟩ := ba e
  obtain ⟨e3, e4⟩ := ba e2
  exact ⟨e1, e3, e4⟩
theorem SaysM.ex (c : SaysM m w K) (i : Nat) {f : PySem.W.Frag → Bool} (h : m.ex[i]? = some f := by rfl) : f K = true := List.all_eq_true.mp c.b.1 f (List.mem_of_getElem? h)
theorem SaysM.def_ (c : SaysM m w K) (i : Nat) {d : GDef} (h : m.fn[i]? = some d := by rfl) : FunD K d.name d.qual d.params d.body d.scope (d.dvs K) (d.kws K) (d.at_ K) (fdOf K d.at_) := by
  have e : m.fn.map (fun d => fnG K d.at_) = m.fn.map GDef.val := congrArg (fun z : AlM => z.2.1) c
  have e2 : (m.fn.map fun d => fnG K d.at_)[i]? = (m.fn.map GDef.val)[i]? := by rw [e]
  rw [List.getElem?_map, List.getElem?_map, h] at e2
  obtain ⟨fd, F⟩ := GDef.funD (Option.some.inj e2) (List.all_eq_true.mp c.b.2.1 d (List.mem_of_getElem? h))
  have : fdOf K d.at_ = fd := by
    obtain ⟨oc, od, dV, kV, doc, pm, an, cdv, ct, osl, _, lk, _⟩ := F.ex
    unfold fdOf
    rw [lk]
  rw [this]
  exact F
theorem SaysM.sup (c : SaysM m w K) (i : Nat) {d : SDef} (h : m.sf[i]? = some d := by rfl) : FunS K d.name d.qual d.params d.body d.scope [] (d.kws K) (d.at_ K) (fdOf K d.at_) (clAd K d.at_) (ga K d.cls) (cdAd K d.at_) d.file := by
  have e : m.sf.map (fun d => fnS K d.at_) = m.sf.map SDef.val := congrArg (fun z : AlM => z.2.2.1) c
  have e2 : (m.sf.map fun d => fnS K d.at_)[i]? = (m.sf.map SDef.val)[i]? := by rw [e]
  rw [List.getElem?_map, List.getElem?_map, h] at e2
  exact SDef.funS (Option.some.inj e2) (List.all_eq_true.mp c.b.2.2 d (List.mem_of_getElem? h))
end
end ML
end
section
namespace ML
open PySem PySem.Spec PyProof.Rows L2 He
abbrev Defn := PySem.W.Frag → Addr
abbrev gA (x : Str) : Defn := fun K => ga K x
abbrev mA (x m : Str) : Defn := fun K => He.ma K (ga K x) m
structure Ev (m : MSpec) (w : World) (K : PySem.W.Frag) (mg : Str → Option Value) : Prop where
  says : SaysM m w K
  hh : ∃ h : Heap, K.In h ∧ h.Ns mainGlobals mg
section
variable {m : MSpec} {w : World} {K : PySem.W.Frag} {mg : Str → Option Value}
theorem Ev.glo (e : Ev m w K mg) (i : Nat) {x : Str} (h : m.ex[i]? = some (fun K => (Fa.glo x).ok K) := by rfl) : mg x = some (.ref (ga K x)) := let ⟨_, X, G⟩ := e.hh; glo_ok X G (e.says.ex i h)
theorem Ev.free (e : Ev m w K mg) (i : Nat) {x : Str} (h : m.ex[i]? = some (fun K => (Fa.free x).ok K) := by rfl) : mg x = none := let ⟨_, X, G⟩ := e.hh; free_ok X G (e.says.ex i h)
end
section
variable {G : Gx} {W : WX} {X : Cx} {e a b : Expr} {es : List Expr} {pos p : Pos} {ma : MA} {x : Str} {m : MSpec} {nm : Nat → Option Str}
theorem takes0 : Takes false X W0 := fun _ _ h => let ⟨_, _, _, _, _, _, _, _, _, _, _, _, _, _, _, _, w⟩ := h; w.elim
theorem xv (i : Nat) (hN : X.N[i]? = some x := by rfl) (hv : Vis X.env.scope x := by first | exact .inl rfl | exact .inr (.inl rfl) | exact .inr (.inr rfl)) (hd : (x == ("__debug__" : Str)) = false := by decide) (hcd : (x == ("__classdict__" : Str)) = false := by decide) :
    PE X (.Name x pos) (rdE G W (eV i)) := me_var hN hv hd hcd
structure DOk (z : Bool) (P : Program) (w : World) (K : PySem.W.Frag) (mg : Str → Option Value) (base : Heap) (nm : Nat → Option Str) (k : Nat) (p : Defn) (ps : List Str) (g : MF) : Prop where
  ok : FnOk P w K mg base (CX z P w) k (p K) (fdOf K p) ps (spM (GxOf w K mg nm) ps.length g)
  ar : Arity ps.length g
  kp : PySem.W.keepIn K (.ref (p K)) = true
abbrev XOk (z : Bool) (X : Cx) (nm : Nat → Option Str) (k : Nat) (p : Defn) (ps : List Str) (g : MF) : Prop := DOk z X.prog X.w X.K X.mg X.base nm k p ps g
abbrev BOk (K : PySem.W.Frag) (p : Defn) (ps : List Str) : Prop := Binds K (fdOf K p) ps []
theorem DOk.fp {k k' : Nat} {q : Defn} {ps : List Str} {g : MF} (d : XOk z X nm k q ps g) (hr : Room k' X.A) (h : k + 2 ≤ k' := by decide) : FnP z X (GxOf X.w X.K X.mg nm) k (q X.K) (fdOf X.K q) ps g := ⟨d.ok, d.ar, hr.mono h⟩
theorem xcm {k k' : Nat} {q : Defn} {ps : List Str} {g : MF} (d : XOk z X nm k q ps g) (bn : BOk X.K q ps) (hr : Room k' X.A) (tk : Takes z X W) (h : k + 2 ≤ k' := by decide) : CallM X (GxOf X.w X.K X.mg nm) W (.ref (q X.K)) g := (d.fp hr h).call bn tk
theorem xcall {k k' : Nat} {x : Str} {ps : List Str} {g : MF} (d : XOk z X nm k (gA x) ps g) (bn : BOk X.K (gA x) ps) (hr : Room k' X.A) (tk : Takes z X W) (hm : X.mg x = some (.ref (ga X.K x))) (ha : PA X (e :: es) (rdA (GxOf X.w X.K X.mg nm) W ma)) (h : k + 2 ≤ k' := by decide)
    (hg : Gl X x := by rfl) (hdb : (x == ("__debug__" : Str)) = false := by decide) (he : starEach (e :: es) X.env = (false, eval e X.env) :: starEach es X.env := by rfl) (hpl : (backTo pos (starEach es X.env)).any (·.1) = false := by rfl) :
    PE X (.Call (.Name x p) (e :: es) [] pos) (rdE (GxOf X.w X.K X.mg nm) W (eCall g ma)) := me_call (xcm d bn hr tk h) hg hm d.kp ha hdb he hpl
end
end ML
end
section
namespace ML
open PySem PySem.Spec PyProof.Rows L2 He
theorem aCons1 {a : ME} : ∀ σ h vs h1, aCons a aNil σ h = .ok vs h1 → vs.length = 1 := fun σ h vs h1 e => by
  unfold aCons at e
  cases q : a σ h with
  | ok x h2 => rw [q] at e; cases e; rfl
  | ex c n h2 => rw [q] at e; cases e
  | err => rw [q] at e; cases e
def enlOf : VI → Hi → Option Itm := fun v h => match v with
  | .ref n => match listAt n h with
    | some _ => some (.enl n)
    | none => none
  | _ => none
def iEnumM (e : ME) : MI := fun σ h => (e σ h).bind fun v h1 => ofI (enlOf v h1) h1
section
variable {G : Gx} {W : WX} {X : Cx} {e : Expr} {me : ME} {ρ : List Addr} {H : Hp} {p pos tpos : Pos} {elts : List Expr} {kk : Nat}
theorem itOk_enl (hG : G.K = X.K) {n : Nat} {a : Addr} (p : ρ[n]? = some a) : ItOk G ρ H (Ite X.K a) (.enl n) := fun i ρ1 h1 H1 st ag => by
  unfold Itm.nxt
  dsimp only
  cases q : listAt n h1 with
  | none => trivial
  | some xs =>
    obtain ⟨ys, hy, rs⟩ := listAt_ok X.K ag q (st.pre _ _ p)
    dsimp only
    cases q2 : xs[i]? with
    | none =>
      have : xs.length ≤ i := List.getElem?_eq_none_iff.mp q2
      exact ⟨ys, hy, by rw [← rs.length]; exact this⟩
    | some v =>
      obtain ⟨y, hy2, ry⟩ := rs.get q2
      refine ⟨⟨ys, y, hy, hy2⟩, fun x H2 ⟨T, z, e1, e2, e3, k⟩ => ?_⟩
      subst e1 e3
      have := k ys hy
      rw [hy2] at this
      cases this
      exact ⟨Stp.more e2, ag.more e2, .tup (.inl (.inl upd_same)) (.cons (.int _) (.cons (ry.mono (Stp.more e2)) .nil))⟩
theorem mi_enum (hG : G.K = X.K) (hg : Gl X "enumerate") (hm : X.mg "enumerate" = none) (he : PE X e (rdE G W me)) (hs : starEach [e] X.env = [(false, eval e X.env)] := by rfl) (hs2 : starEach [e] X.env = (false, eval e X.env) :: starEach [] X.env := by rfl) :
    PI X (.Tuple elts kk tpos) (.Call (.Name "enumerate" p) [e] [] pos) (rdI G W (iEnumM me)) :=
  PI.imp' (pi_enum hg hm (pa_cons he pa_nil hs2) hs) fun σ H R ⟨ρ, σi, h, as, ag, fin⟩ => by
    refine ⟨ρ, σi, h, as, ag, ?_⟩
    unfold iEnumM at fin
    cases q : me σi h with
    | err => rw [q] at fin; exact fin.elim
    | ex c n h1 => rw [q] at fin; exact fin
    | ok v h1 =>
      rw [q] at fin
      intro ρ1 H1 x st a1 r
      cases r with
      | @ref n a e =>
        dsimp only [Res.bind, enlOf] at fin
        cases q1 : listAt n h1 with
        | none => rw [q1] at fin; exact fin.elim
        | some xs =>
          rw [q1] at fin
          obtain ⟨ys, hy, rs⟩ := listAt_ok X.K a1 q1 e
          exact ⟨a, ys, rfl, hy, fin ρ1 H1 _ st a1 (itOk_enl hG e)⟩
      | _ => exact fin.elim
end
theorem hu1 {k : Nat} {A : Around} (r : Room k A) : A.units + 1 < cLine := by have := r.un; omega
theorem hu64 {k : Nat} {A : Around} (r : Room k A) : A.units + 64 < cLine := by have := r.un; omega
theorem hu65 {k : Nat} {A : Around} (r : Room k A) : A.units + 65 < cLine := by have := r.un; omega
section
variable {K : PySem.W.Frag} {x qual : Str} {params : Arguments} {body : List Stmt} {scope : Scope} {dvs : List V} {kws : List (Str × V)} {f cc D c : Addr} {fd : FuncData} {file : Str} {ps : List Str}
theorem FunS.bindsN (F : FunS K x qual params body scope [] kws f fd cc D c file)
    (h : ∀ (kV doc pm : Value) (an : Option Addr) (cdv ct : Value) (us : List Value), us.length = ps.length → bindArgs (PySem.W.fnX x qual params body scope [("__class__", cc)] .none kV doc pm an cdv ct) ⟨us, []⟩ = pure (ps.zip us)) : Binds K fd ps [] := by
  obtain ⟨oc, od, dV, kV, doc, pm, an, ct, osl, rfl, lk, hD, hK⟩ := F.ex
  rcases hD with ⟨_, rfl⟩ | ⟨e, _⟩
  · exact .all (h kV doc pm an _ ct)
  · exact absurd rfl e
end
section
variable {G : Gx} {W : WX} {X : Cx} {a b c : Expr} {pos : Pos} {ma mb mc : ME} {f g : Op2}
theorem tOf_rd {me : ME} {σ : L2.St} {H : Hp} {Q : Bool → Hp → Prop} (r : rdT G W (tOf me) σ H Q) : rdE G W me σ H fun x H' => ∃ k, x = .bl k ∧ Q k H' :=
  let ⟨_, _, _, as, ag, f⟩ := r
  rdG_go as ag f fun ρ1 H1 h1 x x' st as ag r f => by
    cases r with
    | bl b => exact ⟨b, rfl, f.ok ag rfl⟩
    | _ => exact f.elim
theorem mt_cmpR {op : CmpOp} (ho : OpR X (compareOp op) (rd2 G f)) (ha : PE X a (rdE G W ma)) (hb : PE X b (rdE G W mb)) (hm : behindInMarks op b = false) : PT X (.Compare a [op] [b] pos) (rdT G W (tOf (eBin f ma mb))) :=
  PT.imp' (pt_cmpR ho ha hb hm) fun σ H Q r => by
    obtain ⟨ρ, σi, h, as, ag, f⟩ := tOf_rd r
    exact rdG_go as ag f fun ρ1 H1 h1 x x' st as ag r f => rdG_go as ag f fun ρ2 H2 h2 y y' st2 as ag rs f => ⟨ρ2, h2, x, y, ag, r.mono st2, rs, FinO.of f⟩
end
def sPar (i j : Nat) (ma : MA) : MS := fun σ h => (ma σ h).bindS σ fun vs h1 => match vs with
  | [v, w] => .nx ((σ.set i (some v)).set j (some w)) h1
  | _ => .err
def sPar3 (i j l : Nat) (ma : MA) : MS := fun σ h => (ma σ h).bindS σ fun vs h1 => match vs with
  | [u, v, w] => .nx (((σ.set i (some u)).set j (some v)).set l (some w)) h1
  | _ => .err
section
variable {G : Gx} {W : WX} {X : Cx} {a b c : Expr} {pos : Pos} {ma : MA} {i j l : Nat} {x y z : Str} {px py pz pt : Pos} {kt : Nat} {k2 : Nat} {pt2 : Pos}
end
def pk3 {α : Type} (us ms ws : List α) (q : Nat × Nat) : Option α := match q.1 with
  | 0 => us[q.2]?
  | 1 => ms[q.2]?
  | _ => ws[q.2]?
def arr3 {α : Type} : List (Nat × Nat) → List α → List α → List α → List α
  | [], _, _, _ => []
  | q :: r, us, ms, ws => match pk3 us ms ws q with
    | some x => x :: arr3 r us ms ws
    | none => arr3 r us ms ws
theorem vals_at {xs : List V} {us : List Value} (r : Vals xs us) (i : Nat) : (∃ x u, xs[i]? = some x ∧ us[i]? = some u ∧ RelV x u) ∨ (xs[i]? = none ∧ us[i]? = none) := by
  cases e : xs[i]? with
  | none => exact .inr ⟨rfl, by rw [List.getElem?_eq_none_iff] at e ⊢; rw [← r.length]; exact e⟩
  | some x =>
    obtain ⟨u, h1, h2⟩ := r.get e
    exact .inl ⟨x, u, rfl, h1, h2⟩
theorem arr3_vals {vs mz zs : List V} {us mv ws : List Value} (r1 : Vals vs us) (r2 : Vals mz mv) (r3 : Vals zs ws) : ∀ sel : List (Nat × Nat), Vals (arr3 sel vs mz zs) (arr3 sel us mv ws)
  | [] => .nil
  | (k, i) :: r => by
    have t := arr3_vals r1 r2 r3 r
    have key : (∃ x u, pk3 vs mz zs (k, i) = some x ∧ pk3 us mv ws (k, i) = some u ∧ RelV x u) ∨ (pk3 vs mz zs (k, i) = none ∧ pk3 us mv ws (k, i) = none) := by
      unfold pk3
      match k with
      | 0 => exact vals_at r1 i
      | 1 => exact vals_at r2 i
      | k + 2 => exact vals_at r3 i
    unfold arr3
    rcases key with ⟨x, u, h1, h2, h3⟩ | ⟨h1, h2⟩
    · rw [h1, h2]; exact .cons h3 t
    · rw [h1, h2]; exact t
theorem rvs_at {G : Gx} {ρ : List Addr} {H : Hp} {xs : List VI} {us : List V} (r : RVs G ρ H xs us) (i : Nat) : (∃ x u, xs[i]? = some x ∧ us[i]? = some u ∧ RV G ρ H x u) ∨ (xs[i]? = none ∧ us[i]? = none) := by
  cases e : xs[i]? with
  | none => exact .inr ⟨rfl, by rw [List.getElem?_eq_none_iff] at e ⊢; rw [← r.length]; exact e⟩
  | some x =>
    obtain ⟨u, h1, h2⟩ := r.get e
    exact .inl ⟨x, u, rfl, h1, h2⟩
theorem arr3_rvs {G : Gx} {ρ : List Addr} {H : Hp} {vs mz zs : List VI} {us mv ws : List V} (r1 : RVs G ρ H vs us) (r2 : RVs G ρ H mz mv) (r3 : RVs G ρ H zs ws) : ∀ sel : List (Nat × Nat), RVs G ρ H (arr3 sel vs mz zs) (arr3 sel us mv ws)
  | [] => .nil
  | (k, i) :: r => by
    have t := arr3_rvs r1 r2 r3 r
    have key : (∃ x u, pk3 vs mz zs (k, i) = some x ∧ pk3 us mv ws (k, i) = some u ∧ RV G ρ H x u) ∨ (pk3 vs mz zs (k, i) = none ∧ pk3 us mv ws (k, i) = none) := by
      unfold pk3
      match k with
      | 0 => exact rvs_at r1 i
      | 1 => exact rvs_at r2 i
      | k + 2 => exact rvs_at r3 i
    unfold arr3
    rcases key with ⟨x, u, h1, h2, h3⟩ | ⟨h1, h2⟩
    · rw [h1, h2]; exact .cons h3 t
    · rw [h1, h2]; exact t
end ML
end
section
namespace ML
open PySem PySem.Spec PyProof.Rows L2 He
inductive TyI where
  | bt (T : String) | own (c : Nat)
def tyI (y : VI) (h : Hi) : Option TyI := match y with
  | .non => some (.bt "NoneType")
  | .bl _ => some (.bt "bool")
  | .int _ => some (.bt "int")
  | .str _ => some (.bt "str")
  | .tup _ => some (.bt "tuple")
  | .ref n => match h[n]? with
    | some (.lst _) => some (.bt "list")
    | some (.scr _) => some (.bt "list")
    | some (.dic _) => some (.bt "dict")
    | some (.ins c _) => some (.own c)
    | _ => none
  | .glo _ => none
def boolR : Res VI → Res VI
  | .ok (.bl b) h => .ok (.bl b) h
  | .ex c n h => .ex c n h
  | _ => .err
def nfI (cs : List Nat) : Option TyI → Bool
  | some (.bt _) => true
  | some (.own c) => cs.contains c
  | none => false
def eCmpU (cs : List Nat) (tbl : Nat → Option MF) (f : Op2) (a b : ME) : ME := fun σ h => (a σ h).bind fun x h1 => (b σ h1).bind fun y h2 => match insC x h2 with
  | some c => match tbl c, nfI cs (tyI y h2) with
    | some g, true => boolR (g [x, y] h2)
    | _, _ => .err
  | none => ofO (f x y h2)
structure NfOk (K : PySem.W.Frag) (G : Gx) (cs : List Nat) (tbl : Nat → Option MF) : Prop where
  bt : ∀ c C g T, tbl c = some g → G.ct c = some C → T ∈ ["NoneType", "bool", "int", "str", "tuple", "list", "dict"] → PySem.W.notFirst K C (.type T) = true
  own : ∀ c C g c' C', tbl c = some g → G.ct c = some C → cs.contains c' = true → G.ct c' = some C' → PySem.W.notFirst K C (.ref C') = true
section
variable {G : Gx} {ρ : List Addr} {h : Hi} {H : Hp} {W : WX} {X : Cx} {A : Around} {e a b c o i v : Expr} {es : List Expr} {pos p pos' apos : Pos} {me mi mo ma mb mv : ME} {mr : MA} {tbl : Nat → Option MF} {σ : L2.St} {cs : List Nat} {f : Op2}
end
section
variable {w : World} {K : PySem.W.Frag} {mg : Str → Option Value} {nm : Nat → Option Str} {cs : List Nat}
end
end ML
end
section
namespace ML
open PySem PySem.Spec PyProof.Rows L2 He
def flK : List (VI × VI) → Bool
  | [] => true
  | (_, v) :: r => flI v && flK r
def allK (kb : List (VI × VI)) : List (VI × VI) → Bool
  | [] => true
  | (k, v) :: r => match getD k kb with
    | some w => eqI v w && allK kb r
    | none => false
def fEqX : Op2 := fun x y h => match x, y with
  | .ref a, .ref b => match h[a]?, h[b]? with
    | some (.dic ka), some (.dic kb) => match flK ka && flK kb with
      | true => some (.bl (Nat.beq ka.length kb.length && allK kb ka), h)
      | false => none
    | _, _ => fEq x y h
  | _, _ => fEq x y h
section
variable {G : Gx} {ρ : List Addr} {h : Hi} {H : Hp} {X : Cx} {Q : VK}
theorem flK_get {b : VI} : ∀ {kvs : List (VI × VI)} {v : VI}, flK kvs = true → getD b kvs = some v → flI v = true
  | [], _, _, e => by cases e
  | (k, u) :: r, v, f, e => by
    unfold flK at f
    obtain ⟨f1, f2⟩ := Bool.and_eq_true_iff.mp f
    unfold getD at e
    split at e
    · cases e; exact f1
    · exact flK_get f2 e
theorem hits_ok {P : Program} {w : World} {A : Around} {s : Shared} {kb : List (VI × VI)} {lb : List (Key × V)} {vb : List (Key × Value)} (rb : RKs G ρ H kb lb) (vbr : KV lb vb) (fb : flK kb = true) :
    ∀ {ka : List (VI × VI)} {la : List (Key × V)} {va : List (Key × Value)}, RKs G ρ H ka la → KV la va → flK ka = true → PySem.W.KeqHitsP P w A s vb va (allK kb ka)
  | _, _, _, .nil, k, _ => by
    cases k
    exact .nil
  | _, _, _, .cons (a := a) (k := k) (v := v) (x := x) (as := as) (ks := ks) e r t, kv, f => by
    unfold flK at f
    obtain ⟨f1, f2⟩ := Bool.and_eq_true_iff.mp f
    unfold KV at kv
    cases kv with
    | @cons p q ps qs h1 tl =>
      obtain ⟨key, val⟩ := q
      obtain ⟨h2, h3⟩ := h1
      have h2' : k = key := h2
      subst h2'
      have g := RKs.getD (b := a) (l := k) e rb
      have rv := vbr.val k
      unfold allK
      cases z : getD a kb with
      | none =>
        rw [z] at g
        have g' : valV lb k = none := g
        rw [g'] at rv
        exact .miss rv.none_of
      | some u =>
        rw [z] at g
        obtain ⟨y, g1, g2⟩ := g
        have g1' : valV lb k = some y := g1
        rw [g1'] at rv
        obtain ⟨yv, hy, ry⟩ := rv.some_of
        have fu := flK_get fb z
        dsimp only
        rw [r.eqI g2 f1 fu]
        exact .hit hy (eqAt_V h3 ry (r.flat f1) (g2.flat fu)).eqP (hits_ok rb vbr fb t tl f2)
theorem beqN (n m : Nat) : (n == m) = Nat.beq n m := by
  cases q : Nat.beq n m with
  | true => simp [Nat.eq_of_beq_eq_true q]
  | false => simp [Nat.ne_of_beq_eq_false q]
theorem mo_eqX (hG : G.K = X.K) (hu : X.A.units + 64 < cLine) : OpR X (compareOp .Eq) (rd2 G fEqX) := fun pins s σ H x y v u Q I rx ry q => by
  obtain ⟨ρ, h, xi, yi, ag, r1, r2, f⟩ := q
  have old : FinO G ρ H (RV G) Q (fEq xi yi h) → wpAny (model X.prog X.w) X.A (compareOp .Eq v u) (EP X pins σ Q) X.xe s := fun f => mo_eq hG hu pins s σ H x y v u Q I rx ry ⟨ρ, h, xi, yi, ag, r1, r2, f⟩
  unfold fEqX at f
  cases r1 with
  | @ref n a q1 =>
    cases r2 with
    | @ref m b q2 =>
      dsimp only at f
      split at f
      · rename_i ka kb z1 z2
        cases fl : flK ka && flK kb with
        | false => rw [fl] at f; exact f.elim
        | true =>
          rw [fl] at f
          obtain ⟨fa, fb⟩ := Bool.and_eq_true_iff.mp fl
          obtain ⟨la, ha, ra⟩ := ag.at_ z1 q1
          obtain ⟨lb, hb, rb⟩ := ag.at_ z2 q2
          cases (show v = Value.ref a from rx)
          cases (show u = Value.ref b from ry)
          obtain ⟨_, ya, va, kva, da⟩ := (show ObjOk X.prog X.w H s.heap a (.dK la) from I.hok a _ ha)
          obtain ⟨_, yb, vb, kvb, db⟩ := (show ObjOk X.prog X.w H s.heap b (.dK lb) from I.hok b _ hb)
          refine PySem.W.rcP_dicts (knd := mixKind X.prog X.w) (r := allK kb ka) ya yb da db (by omega) (fun _ => hits_ok rb kvb fb ra kva fa) _ _ ?_
          have e : (va.length == vb.length) = Nat.beq ka.length kb.length := by
            rw [ra.length, rb.length, kva.length, kvb.length]
            exact beqN _ _
          rw [e]
          exact ⟨.bl _, H, I, rfl, f.ok ag (.bl _)⟩
      · exact old f
    | _ => exact old (by simpa [fEqX] using f)
  | _ => exact old (by simpa [fEqX] using f)
end
end ML
end
section
namespace ML
open PySem L2
mutual
inductive RV2 (r : List Nat) : VI → VI → Prop
  | non : RV2 r .non .non
  | bl (b : Bool) : RV2 r (.bl b) (.bl b)
  | int (i : Int) : RV2 r (.int i) (.int i)
  | str (s : S) : RV2 r (.str s) (.str s)
  | glo (g : S) : RV2 r (.glo g) (.glo g)
  | ref {n m : Nat} (e : r[n]? = some m) : RV2 r (.ref n) (.ref m)
  | tup {xs ys : List VI} (t : RVs2 r xs ys) : RV2 r (.tup xs) (.tup ys)
inductive RVs2 (r : List Nat) : List VI → List VI → Prop
  | nil : RVs2 r [] []
  | cons {v x : VI} {vs xs : List VI} (h : RV2 r v x) (t : RVs2 r vs xs) : RVs2 r (v :: vs) (x :: xs)
end
structure Ex2 (r : List Nat) (h : Hi) (r' : List Nat) (h' : Hi) : Prop where
  more : ∃ q, r' = r ++ q ∧ ∀ m ∈ q, h.length ≤ m
  len : h.length ≤ h'.length
  rest : ∀ m, m ∉ r → m < h.length → h'[m]? = h[m]?
theorem Ex2.refl {r : List Nat} {h : Hi} : Ex2 r h r h := ⟨⟨[], by simp, fun _ z => by cases z⟩, Nat.le_refl _, fun _ _ _ => rfl⟩
theorem Ex2.pre {r r' : List Nat} {h h' : Hi} (e : Ex2 r h r' h') {n m : Nat} (q : r[n]? = some m) : r'[n]? = some m := by
  obtain ⟨l, rfl, _⟩ := e.more
  rw [List.getElem?_append_left (List.getElem?_eq_some_iff.mp q).1]
  exact q
theorem Ex2.trans {r r1 r2 : List Nat} {h h1 h2 : Hi} (a : Ex2 r h r1 h1) (b : Ex2 r1 h1 r2 h2) : Ex2 r h r2 h2 := by
  obtain ⟨l, rfl, hl⟩ := a.more
  obtain ⟨l2, rfl, hl2⟩ := b.more
  refine ⟨⟨l ++ l2, by simp, fun m hm => ?_⟩, Nat.le_trans a.len b.len, fun m hm hlt => ?_⟩
  · rcases List.mem_append.mp hm with z | z
    · exact hl m z
    · exact Nat.le_trans a.len (hl2 m z)
  · rw [b.rest m (fun z => ?_) (Nat.lt_of_lt_of_le hlt a.len)]
    · exact a.rest m hm hlt
    · rcases List.mem_append.mp z with z | z
      · exact hm z
      · exact absurd (hl m z) (Nat.not_le.mpr hlt)
section
variable {r r' : List Nat} {h h' : Hi}
mutual
theorem RV2.mono (e : Ex2 r h r' h') : ∀ {v x : VI}, RV2 r v x → RV2 r' v x
  | _, _, .non => .non
  | _, _, .bl b => .bl b
  | _, _, .int i => .int i
  | _, _, .str s => .str s
  | _, _, .glo g => .glo g
  | _, _, .ref q => .ref (e.pre q)
  | _, _, .tup t => .tup (RVs2.mono e t)
theorem RVs2.mono (e : Ex2 r h r' h') : ∀ {v x : List VI}, RVs2 r v x → RVs2 r' v x
  | _, _, .nil => .nil
  | _, _, .cons a t => .cons (RV2.mono e a) (RVs2.mono e t)
end
theorem RVs2.length : ∀ {v x : List VI}, RVs2 r v x → v.length = x.length
  | _, _, .nil => rfl
  | _, _, .cons _ t => by rw [List.length_cons, List.length_cons, t.length]
theorem RVs2.get : ∀ {v x : List VI} {i : Nat} {a : VI}, RVs2 r v x → v[i]? = some a → ∃ b, x[i]? = some b ∧ RV2 r a b
  | _, _, _, _, .nil, e => by simp at e
  | _, _, 0, _, .cons h _, e => by simp at e; subst e; exact ⟨_, rfl, h⟩
  | _, _, i + 1, _, .cons _ t, e => by
    obtain ⟨b, h1, h2⟩ := RVs2.get (i := i) t (by simpa using e)
    exact ⟨b, by simpa using h1, h2⟩
theorem RVs2.none {v x : List VI} {i : Nat} (t : RVs2 r v x) (e : v[i]? = none) : x[i]? = none := by
  rw [List.getElem?_eq_none_iff] at e ⊢
  rw [← t.length]
  exact e
theorem RVs2.append : ∀ {v w x y : List VI}, RVs2 r v x → RVs2 r w y → RVs2 r (v ++ w) (x ++ y)
  | _, _, _, _, .nil, k => k
  | _, _, _, _, .cons a t, k => .cons a (RVs2.append t k)
theorem RVs2.set : ∀ {v x : List VI} {a b : VI} (i : Nat), RVs2 r v x → RV2 r a b → RVs2 r (v.set i a) (x.set i b)
  | _, _, _, _, _, .nil, _ => .nil
  | _, _, _, _, 0, .cons _ t, k => .cons k t
  | _, _, _, _, i + 1, .cons a t, k => .cons a (RVs2.set i t k)
theorem RVs2.take : ∀ {v x : List VI} (n : Nat), RVs2 r v x → RVs2 r (v.take n) (x.take n)
  | _, _, 0, _ => .nil
  | _, _, _ + 1, .nil => .nil
  | _, _, n + 1, .cons a t => .cons a (RVs2.take n t)
theorem RVs2.drop : ∀ {v x : List VI} (n : Nat), RVs2 r v x → RVs2 r (v.drop n) (x.drop n)
  | _, _, 0, k => k
  | _, _, _ + 1, .nil => .nil
  | _, _, n + 1, .cons _ t => RVs2.drop n t
end
inductive RFs2 (r : List Nat) : List (S × VI) → List (S × VI) → Prop
  | nil : RFs2 r [] []
  | cons {f : S} {v x : VI} {fs gs : List (S × VI)} (h : RV2 r v x) (t : RFs2 r fs gs) : RFs2 r ((f, v) :: fs) ((f, x) :: gs)
inductive RKs2 (r : List Nat) : List (VI × VI) → List (VI × VI) → Prop
  | nil : RKs2 r [] []
  | cons {a b v x : VI} {fs gs : List (VI × VI)} (k : RV2 r a b) (h : RV2 r v x) (t : RKs2 r fs gs) : RKs2 r ((a, v) :: fs) ((b, x) :: gs)
inductive RO2 (r : List Nat) : OI → OI → Prop
  | lst {xs ys : List VI} (h : RVs2 r xs ys) : RO2 r (.lst xs) (.lst ys)
  | scr {xs ys : List VI} (h : RVs2 r xs ys) : RO2 r (.scr xs) (.scr ys)
  | dic {xs ys : List (VI × VI)} (h : RKs2 r xs ys) : RO2 r (.dic xs) (.dic ys)
  | ins {c : Nat} {xs ys : List (S × VI)} (h : RFs2 r xs ys) : RO2 r (.ins c xs) (.ins c ys)
  | xd {xs ys : List (S × VI)} (h : RFs2 r xs ys) : RO2 r (.xd xs) (.xd ys)
  | dnk {xs ys : List (VI × VI)} (h : RKs2 r xs ys) : RO2 r (.dnk xs) (.dnk ys)
  | dcl {xs ys : List (VI × VI)} (h : RKs2 r xs ys) : RO2 r (.dcl xs) (.dcl ys)
  | dnl {xs ys : List (VI × VI)} (h : RKs2 r xs ys) : RO2 r (.dnl xs) (.dnl ys)
  | exo {c n m : Nat} (h : r[n]? = some m) : RO2 r (.exo c n) (.exo c m)
section
variable {r r' : List Nat} {h h' s : Hi}
theorem RFs2.mono (e : Ex2 r h r' h') : ∀ {v x : List (S × VI)}, RFs2 r v x → RFs2 r' v x
  | _, _, .nil => .nil
  | _, _, .cons a t => .cons (a.mono e) (RFs2.mono e t)
theorem RKs2.mono (e : Ex2 r h r' h') : ∀ {v x : List (VI × VI)}, RKs2 r v x → RKs2 r' v x
  | _, _, .nil => .nil
  | _, _, .cons k a t => .cons (k.mono e) (a.mono e) (RKs2.mono e t)
theorem RO2.mono (e : Ex2 r h r' h') : ∀ {v x : OI}, RO2 r v x → RO2 r' v x
  | _, _, .lst t => .lst (t.mono e)
  | _, _, .scr t => .scr (t.mono e)
  | _, _, .dic t => .dic (t.mono e)
  | _, _, .ins t => .ins (t.mono e)
  | _, _, .xd t => .xd (t.mono e)
  | _, _, .dnk t => .dnk (t.mono e)
  | _, _, .dcl t => .dcl (t.mono e)
  | _, _, .dnl t => .dnl (t.mono e)
  | _, _, .exo t => .exo (e.pre t)
theorem RFs2.length : ∀ {v x : List (S × VI)}, RFs2 r v x → v.length = x.length
  | _, _, .nil => rfl
  | _, _, .cons _ t => by rw [List.length_cons, List.length_cons, t.length]
theorem RKs2.length : ∀ {v x : List (VI × VI)}, RKs2 r v x → v.length = x.length
  | _, _, .nil => rfl
  | _, _, .cons _ _ t => by rw [List.length_cons, List.length_cons, t.length]
structure Ag2 (r : List Nat) (s h : Hi) : Prop where
  nd : r.Nodup
  len : r.length = s.length
  ob : ∀ (n : Nat) (o : OI), s[n]? = some o → ∃ (m : Nat) (o' : OI), r[n]? = some m ∧ h[m]? = some o' ∧ RO2 r o o'
theorem Ag2.at_ (a : Ag2 r s h) {n m : Nat} {o : OI} (e : s[n]? = some o) (p : r[n]? = some m) : ∃ o', h[m]? = some o' ∧ RO2 r o o' := by
  obtain ⟨m', o', h1, h2, h3⟩ := a.ob n o e
  rw [p] at h1
  cases h1
  exact ⟨o', h2, h3⟩
theorem Ag2.lt (a : Ag2 r s h) {m : Nat} (hm : m ∈ r) : m < h.length := by
  obtain ⟨n, hn, e⟩ := List.mem_iff_getElem.mp hm
  have hl : n < s.length := by rw [← a.len]; exact hn
  obtain ⟨m', o', h1, h2, _⟩ := a.ob n s[n] (by simp [hl])
  have : r[n]? = some r[n] := by simp [hn]
  rw [this] at h1
  cases h1
  rw [e] at h2
  exact (List.getElem?_eq_some_iff.mp h2).1
theorem Ag2.new (a : Ag2 r s h) {o o' : OI} (k : RO2 (r ++ [h.length]) o o') : Ag2 (r ++ [h.length]) (s ++ [o]) (h ++ [o']) ∧ Ex2 r h (r ++ [h.length]) (h ++ [o']) := by
  have ext : Ex2 r h (r ++ [h.length]) (h ++ [o']) := ⟨⟨[h.length], rfl, fun m hm => by rw [List.mem_singleton] at hm; omega⟩, by simp, fun m _ hlt => List.getElem?_append_left hlt⟩
  refine ⟨⟨?_, by simp [a.len], fun n u e => ?_⟩, ext⟩
  · rw [List.nodup_append]
    refine ⟨a.nd, by simp, fun x hx y hy => ?_⟩
    rw [List.mem_singleton] at hy
    have := a.lt hx
    omega
  · by_cases hn : n < s.length
    · rw [List.getElem?_append_left hn] at e
      obtain ⟨m, u', h1, h2, h3⟩ := a.ob n u e
      refine ⟨m, u', ext.pre h1, ?_, h3.mono ext⟩
      rw [List.getElem?_append_left (List.getElem?_eq_some_iff.mp h2).1]
      exact h2
    · have hle := Nat.le_of_not_lt hn
      rw [List.getElem?_append_right hle] at e
      have hz : n - s.length = 0 := by
        have := (List.getElem?_eq_some_iff.mp e).1
        simp at this
        omega
      rw [hz] at e
      simp at e
      subst e
      have : n = r.length := by rw [a.len]; omega
      exact ⟨h.length, o', by rw [this]; simp, by simp, k⟩
theorem Ag2.idx (a : Ag2 r s h) : (r ++ [h.length])[s.length]? = some h.length := by rw [← a.len]; simp
theorem Ag2.wr (a : Ag2 r s h) {n m : Nat} {u o o' : OI} (hn : s[n]? = some u) (p : r[n]? = some m) (k : RO2 r o o') : Ag2 r (s.set n o) (h.set m o') ∧ Ex2 r h r (h.set m o') := by
  have hm : m ∈ r := List.mem_of_getElem? p
  refine ⟨⟨a.nd, by simp [a.len], fun j v e => ?_⟩, ⟨⟨[], by simp, fun _ z => by cases z⟩, by simp, fun j hj hlt => List.getElem?_set_ne (by intro z; subst z; exact hj hm)⟩⟩
  rw [List.getElem?_set] at e
  by_cases hj : n = j
  · subst hj
    rw [if_pos rfl, if_pos (List.getElem?_eq_some_iff.mp hn).1] at e
    cases e
    exact ⟨m, o', p, List.getElem?_set_self (a.lt hm), k⟩
  · rw [if_neg hj] at e
    obtain ⟨m', v', h1, h2, h3⟩ := a.ob j v e
    refine ⟨m', v', h1, ?_, h3⟩
    rw [List.getElem?_set_ne]
    · exact h2
    · intro z
      subst z
      obtain ⟨l1, e1⟩ := List.getElem?_eq_some_iff.mp p
      obtain ⟨l2, e2⟩ := List.getElem?_eq_some_iff.mp h1
      have pw := List.pairwise_iff_getElem.mp a.nd
      rcases Nat.lt_trichotomy n j with l | l | l
      · exact pw n j l1 l2 l (e1.trans e2.symm)
      · exact hj l
      · exact pw j n l2 l1 l (e2.trans e1.symm)
structure AS2 (r : List Nat) (σ σ' : Sg) : Prop where
  len : σ.length = σ'.length
  at_ : ∀ (i : Nat) (v : VI), σ[i]? = some (some v) → ∃ x : VI, σ'[i]? = some (some x) ∧ RV2 r v x
theorem AS2.mono {σ σ' : Sg} (a : AS2 r σ σ') (e : Ex2 r h r' h') : AS2 r' σ σ' := ⟨a.len, fun i v q => let ⟨x, h1, h2⟩ := a.at_ i v q; ⟨x, h1, h2.mono e⟩⟩
theorem AS2.set {σ σ' : Sg} (a : AS2 r σ σ') {v x : VI} (k : RV2 r v x) (i : Nat) : AS2 r (σ.set i (some v)) (σ'.set i (some x)) := by
  refine ⟨by simp [a.len], fun j w e => ?_⟩
  rw [List.getElem?_set] at e ⊢
  by_cases hj : i = j
  · subst hj
    rw [if_pos rfl] at e ⊢
    by_cases hl : i < σ.length
    · rw [if_pos hl] at e
      rw [if_pos (by rw [← a.len]; exact hl)]
      cases e
      exact ⟨x, rfl, k⟩
    · rw [if_neg hl] at e; cases e
  · rw [if_neg hj] at e ⊢
    exact a.at_ j w e
theorem AS2.lose {σ σ' : Sg} (a : AS2 r σ σ') (i : Nat) : AS2 r (σ.set i none) (σ'.set i none) := by
  refine ⟨by simp [a.len], fun j w e => ?_⟩
  rw [List.getElem?_set] at e ⊢
  by_cases hj : i = j
  · subst hj
    rw [if_pos rfl] at e
    by_cases hl : i < σ.length
    · rw [if_pos hl] at e; cases e
    · rw [if_neg hl] at e; cases e
  · rw [if_neg hj] at e ⊢
    exact a.at_ j w e
def L2R {α : Type} (R : List Nat → α → α → Prop) (r : List Nat) (h : Hi) (a a' : Res α) : Prop := match a with
  | .ok v s' => ∃ r' h' v', a' = .ok v' h' ∧ Ex2 r h r' h' ∧ Ag2 r' s' h' ∧ R r' v v'
  | .ex c n s' => ∃ r' h' m, a' = .ex c m h' ∧ Ex2 r h r' h' ∧ Ag2 r' s' h' ∧ r'[n]? = some m
  | .err => True
def L2O {α : Type} (R : List Nat → α → α → Prop) (r : List Nat) (h : Hi) (a a' : Option (α × Hi)) : Prop := match a with
  | some (v, s') => ∃ r' h' v', a' = some (v', h') ∧ Ex2 r h r' h' ∧ Ag2 r' s' h' ∧ R r' v v'
  | none => True
theorem L2R.bind {α β : Type} {R : List Nat → α → α → Prop} {R' : List Nat → β → β → Prop} {a a' : Res α} {k k' : α → Hi → Res β} (h1 : L2R R r h a a')
    (h2 : ∀ r1 s1 h1 x x', Ex2 r h r1 h1 → Ag2 r1 s1 h1 → R r1 x x' → L2R R' r1 h1 (k x s1) (k' x' h1)) : L2R R' r h (a.bind k) (a'.bind k') := by
  cases a with
  | err => trivial
  | ex c n s' =>
    obtain ⟨r', h', m, rfl, e, g, q⟩ := h1
    exact ⟨r', h', m, rfl, e, g, q⟩
  | ok v s' =>
    obtain ⟨r', h', v', rfl, e, g, q⟩ := h1
    have t := h2 r' s' h' v v' e g q
    show L2R R' r h (k v s') (k' v' h')
    cases z : k v s' with
    | err => trivial
    | ex c n s2 => rw [z] at t; obtain ⟨r2, h2, m, e1, e2, g2, q2⟩ := t; exact ⟨r2, h2, m, e1, e.trans e2, g2, q2⟩
    | ok w s2 => rw [z] at t; obtain ⟨r2, h2, w', e1, e2, g2, q2⟩ := t; exact ⟨r2, h2, w', e1, e.trans e2, g2, q2⟩
theorem L2R.ok {α : Type} {R : List Nat → α → α → Prop} {v v' : α} (g : Ag2 r s h) (k : R r v v') : L2R R r h (.ok v s) (.ok v' h) := ⟨r, h, v', rfl, .refl, g, k⟩
theorem L2R.okE {α : Type} {R : List Nat → α → α → Prop} {v v' : α} {r' : List Nat} {s' h' : Hi} (e : Ex2 r h r' h') (g : Ag2 r' s' h') (k : R r' v v') : L2R R r h (.ok v s') (.ok v' h') := ⟨r', h', v', rfl, e, g, k⟩
theorem L2R.ofO {α : Type} {R : List Nat → α → α → Prop} {a a' : Option (α × Hi)} (h1 : L2O R r h a a') : L2R R r h (ofO a) (ofO a') := by
  cases a with
  | none => trivial
  | some p =>
    obtain ⟨v, s'⟩ := p
    obtain ⟨r', h', v', rfl, e, g, q⟩ := h1
    exact ⟨r', h', v', rfl, e, g, q⟩
theorem L2O.ok {α : Type} {R : List Nat → α → α → Prop} {v v' : α} (g : Ag2 r s h) (k : R r v v') : L2O R r h (some (v, s)) (some (v', h)) := ⟨r, h, v', rfl, .refl, g, k⟩
theorem L2O.new {o o' : OI} (g : Ag2 r s h) (k : ∀ r', Ex2 r h r' (h ++ [o']) → RO2 r' o o') : L2O RV2 r h (some (.ref s.length, s ++ [o])) (some (.ref h.length, h ++ [o'])) := by
  have e0 : Ex2 r h (r ++ [h.length]) (h ++ [o']) := ⟨⟨[h.length], rfl, fun m hm => by rw [List.mem_singleton] at hm; omega⟩, by simp, fun m _ hlt => List.getElem?_append_left hlt⟩
  obtain ⟨g', e⟩ := g.new (k _ e0)
  exact ⟨_, _, _, rfl, e, g', .ref g.idx⟩
theorem L2R.new {o o' : OI} (g : Ag2 r s h) (k : ∀ r', Ex2 r h r' (h ++ [o']) → RO2 r' o o') : L2R RV2 r h (.ok (.ref s.length) (s ++ [o])) (.ok (.ref h.length) (h ++ [o'])) := L2R.ofO (L2O.new g k)
end
class LF (f : MF) : Prop where
  run : ∀ r s h vs vs', Ag2 r s h → RVs2 r vs vs' → L2R RV2 r h (f vs s) (f vs' h)
class LE (m : ME) : Prop where
  run : ∀ r s h σ σ', Ag2 r s h → AS2 r σ σ' → L2R RV2 r h (m σ s) (m σ' h)
class LT (m : MT) : Prop where
  run : ∀ r s h σ σ', Ag2 r s h → AS2 r σ σ' → L2R (fun _ (a b : Bool) => a = b) r h (m σ s) (m σ' h)
class LA (m : MA) : Prop where
  run : ∀ r s h σ σ', Ag2 r s h → AS2 r σ σ' → L2R RVs2 r h (m σ s) (m σ' h)
class LO (m : MO) : Prop where
  run : ∀ r s h σ σ', Ag2 r s h → AS2 r σ σ' → L2R (fun _ (a b : Option Int) => a = b) r h (m σ s) (m σ' h)
class LOp (f : Op2) : Prop where
  run : ∀ r s h x y x' y', Ag2 r s h → RV2 r x x' → RV2 r y y' → L2O RV2 r h (f x y s) (f x' y' h)
class LOc (f : OpC) : Prop where
  run : ∀ r s h vs vs', Ag2 r s h → RVs2 r vs vs' → L2O RV2 r h (f vs s) (f vs' h)
class LOm (f : OpM) : Prop where
  run : ∀ r s h x x' vs vs', Ag2 r s h → RV2 r x x' → RVs2 r vs vs' → L2O RV2 r h (f x vs s) (f x' vs' h)
class CV (v : VI) : Prop where
  self : ∀ r, RV2 r v v
class CVs (v : List VI) : Prop where
  self : ∀ r, RVs2 r v v
instance : CV .non := ⟨fun _ => .non⟩
instance {b : Bool} : CV (.bl b) := ⟨fun _ => .bl b⟩
instance {b : Int} : CV (.int b) := ⟨fun _ => .int b⟩
instance {b : S} : CV (.str b) := ⟨fun _ => .str b⟩
instance {b : S} : CV (.glo b) := ⟨fun _ => .glo b⟩
instance : CVs [] := ⟨fun _ => .nil⟩
instance {v : VI} {vs : List VI} [a : CV v] [b : CVs vs] : CVs (v :: vs) := ⟨fun r => .cons (a.self r) (b.self r)⟩
instance {vs : List VI} [b : CVs vs] : CV (.tup vs) := ⟨fun r => .tup (b.self r)⟩
section
variable {ma mb mc : ME} {ta tb : MT} {aa : MA} {f g : Op2}
instance {i : Nat} : LE (eV i) := ⟨fun r s h σ σ' g a => by
  unfold eV
  cases e : σ[i]? with
  | none => trivial
  | some o =>
    cases o with
    | none => trivial
    | some v =>
      obtain ⟨x, h1, h2⟩ := a.at_ i v e
      rw [h1]
      exact .ok g h2⟩
instance {v : VI} [c : CV v] : LE (eC v) := ⟨fun r s h σ σ' g a => .ok g (c.self r)⟩
instance : LA aNil := ⟨fun r s h σ σ' g a => .ok g .nil⟩
instance [x : LE ma] [y : LA aa] : LA (aCons ma aa) := ⟨fun r s h σ σ' g a => (x.run r s h σ σ' g a).bind fun r1 s1 h1 v v' e1 g1 q1 => (y.run _ _ _ _ _ g1 (a.mono e1)).bind fun r2 s2 h2 vs vs' e2 g2 q2 => .ok g2 (.cons (q1.mono e2) q2)⟩
instance [y : LA aa] : LE (eTup aa) := ⟨fun r s h σ σ' g a => (y.run r s h σ σ' g a).bind fun r1 s1 h1 v v' e1 g1 q1 => by
  rw [q1.length]
  cases small v'.length with
  | true => exact .ok g1 (.tup q1)
  | false => trivial⟩
instance [y : LA aa] : LE (eLst aa) := ⟨fun r s h σ σ' g a => (y.run r s h σ σ' g a).bind fun r1 s1 h1 v v' e1 g1 q1 => by
  rw [q1.length]
  cases small v'.length with
  | true => exact .new g1 fun r' e => .lst (q1.mono e)
  | false => trivial⟩
instance [x : LE ma] [y : LE mb] [o : LOp f] : LE (eBin f ma mb) := ⟨fun r s h σ σ' g a => (x.run r s h σ σ' g a).bind fun r1 s1 h1 v v' e1 g1 q1 => (y.run _ _ _ _ _ g1 (a.mono e1)).bind fun r2 s2 h2 w w' e2 g2 q2 => .ofO (o.run _ _ _ _ _ _ _ g2 (q1.mono e2) q2)⟩
instance [x : LE ma] : LT (tOf ma) := ⟨fun r s h σ σ' g a => (x.run r s h σ σ' g a).bind fun r1 s1 h1 v v' e1 g1 q1 => by
  cases q1 with
  | bl b => exact .ok g1 rfl
  | _ => trivial⟩
instance [x : LT ta] [y : LT tb] : LT (tAndM ta tb) := ⟨fun r s h σ σ' g a => (x.run r s h σ σ' g a).bind fun r1 s1 h1 v v' e1 g1 q1 => by
  subst q1
  cases v with
  | true => exact y.run _ _ _ _ _ g1 (a.mono e1)
  | false => exact .ok g1 rfl⟩
instance [x : LT ta] [y : LT tb] : LT (tOrM ta tb) := ⟨fun r s h σ σ' g a => (x.run r s h σ σ' g a).bind fun r1 s1 h1 v v' e1 g1 q1 => by
  subst q1
  cases v with
  | false => exact y.run _ _ _ _ _ g1 (a.mono e1)
  | true => exact .ok g1 rfl⟩
instance [x : LT ta] : LT (tNotM ta) := ⟨fun r s h σ σ' g a => (x.run r s h σ σ' g a).bind fun r1 s1 h1 v v' e1 g1 q1 => by
  subst q1
  exact .ok g1 rfl⟩
instance : LT tYesM := ⟨fun r s h σ σ' g a => .ok g rfl⟩
instance [x : LE ma] [y : LE mb] : LE (eAnd ma mb) := ⟨fun r s h σ σ' g a => (x.run r s h σ σ' g a).bind fun r1 s1 h1 v v' e1 g1 q1 => by
  cases q1 with
  | bl b =>
    cases b with
    | true => exact y.run _ _ _ _ _ g1 (a.mono e1)
    | false => exact .ok g1 (.bl _)
  | _ => trivial⟩
instance [x : LE ma] [y : LE mb] : LE (eOr ma mb) := ⟨fun r s h σ σ' g a => (x.run r s h σ σ' g a).bind fun r1 s1 h1 v v' e1 g1 q1 => by
  cases q1 with
  | bl b =>
    cases b with
    | false => exact y.run _ _ _ _ _ g1 (a.mono e1)
    | true => exact .ok g1 (.bl _)
  | _ => trivial⟩
instance [x : LE ma] : LE (eNot ma) := ⟨fun r s h σ σ' g a => (x.run r s h σ σ' g a).bind fun r1 s1 h1 v v' e1 g1 q1 => by
  cases q1 with
  | bl b => exact .ok g1 (.bl _)
  | _ => trivial⟩
instance [x : LT ta] [y : LE ma] [z : LE mb] : LE (eIf ta ma mb) := ⟨fun r s h σ σ' g a => (x.run r s h σ σ' g a).bind fun r1 s1 h1 v v' e1 g1 q1 => by
  subst q1
  cases v with
  | true => exact y.run _ _ _ _ _ g1 (a.mono e1)
  | false => exact z.run _ _ _ _ _ g1 (a.mono e1)⟩
instance [x : LE ma] : LE (eNeg ma) := ⟨fun r s h σ σ' g a => (x.run r s h σ σ' g a).bind fun r1 s1 h1 v v' e1 g1 q1 => by
  cases q1 with
  | int b => exact .ok g1 (.int _)
  | _ => trivial⟩
instance [x : LE ma] [y : LE mb] [z : LE mc] [o : LOp f] [p : LOp g] : LE (eChain f g ma mb mc) := ⟨fun r s h σ σ' gg a => (x.run r s h σ σ' gg a).bind fun r1 s1 h1 v v' e1 g1 q1 => (y.run _ _ _ _ _ g1 (a.mono e1)).bind fun r2 s2 h2 w w' e2 g2 q2 =>
  (L2R.ofO (o.run _ _ _ _ _ _ _ g2 (q1.mono e2) q2)).bind fun r3 s3 h3 u u' e3 g3 q3 => by
    cases q3 with
    | bl b =>
      cases b with
      | true => exact (z.run _ _ _ _ _ g3 (((a.mono e1).mono e2).mono e3)).bind fun r4 s4 h4 t t' e4 g4 q4 => .ofO (p.run _ _ _ _ _ _ _ g4 ((q2.mono e3).mono e4) q4)
      | false => exact .ok g3 (.bl _)
    | _ => trivial⟩
instance {k : MF} [x : LF k] [y : LA aa] : LE (eCall k aa) := ⟨fun r s h σ σ' g a => (y.run r s h σ σ' g a).bind fun r1 s1 h1 v v' e1 g1 q1 => x.run _ _ _ _ _ g1 q1⟩
instance {k : OpC} [x : LOc k] [y : LA aa] : LE (eCB k aa) := ⟨fun r s h σ σ' g a => (y.run r s h σ σ' g a).bind fun r1 s1 h1 v v' e1 g1 q1 => .ofO (x.run _ _ _ _ _ g1 q1)⟩
instance {k : OpM} {d : Knd} [z : LE ma] [x : LOm k] [y : LA aa] : LE (eBM d k ma aa) := ⟨fun r s h σ σ' g a => (z.run r s h σ σ' g a).bind fun r1 s1 h1 v v' e1 g1 q1 => by
  have same : kOk d v s1 = true → kOk d v' h1 = true := fun q => by
    unfold kOk at q ⊢
    cases q1 with
    | str _ => exact q
    | @ref n m p =>
      dsimp only at q ⊢
      cases z : s1[n]? with
      | none => rw [z] at q; cases q
      | some o =>
        obtain ⟨o', k1, k2⟩ := g1.at_ z p
        rw [z] at q
        rw [k1]
        cases k2 <;> exact q
    | _ => exact q
  cases q : kOk d v s1 with
  | false => trivial
  | true =>
    rw [same q]
    exact (y.run _ _ _ _ _ g1 (a.mono e1)).bind fun r2 s2 h2 w w' e2 g2 q2 => .ofO (x.run _ _ _ _ _ _ _ g2 (q1.mono e2) q2)⟩
instance : LE eErr := ⟨fun r s h σ σ' g a => trivial⟩
instance : LO oNo := ⟨fun r s h σ σ' g a => .ok g rfl⟩
instance [x : LE ma] : LO (oSome ma) := ⟨fun r s h σ σ' g a => (x.run r s h σ σ' g a).bind fun r1 s1 h1 v v' e1 g1 q1 => by
  cases q1 with
  | int b => exact .ok g1 rfl
  | _ => trivial⟩
end
end ML
end
section
namespace ML
open PySem L2
section
variable {r r' : List Nat} {h h' s : Hi}
theorem keyEq2 {a b k l : VI} (p : RV2 r a b) (q : RV2 r k l) : keyEq b l = keyEq a k := by
  cases p <;> cases q <;> rfl
theorem isKey2 {a b : VI} (p : RV2 r a b) : isKey b = isKey a := by cases p <;> rfl
theorem flI2 {a b : VI} (p : RV2 r a b) : flI b = flI a := by cases p <;> rfl
theorem eqI2 {a b k l : VI} (p : RV2 r a b) (q : RV2 r k l) : eqI b l = eqI a k := by
  cases p <;> cases q <;> rfl
def ROp2 (r : List Nat) : Option VI → Option VI → Prop
  | some a, some b => RV2 r a b
  | none, none => True
  | _, _ => False
theorem getD2 {k l : VI} (q : RV2 r k l) : ∀ {xs ys : List (VI × VI)}, RKs2 r xs ys → ROp2 r (getD k xs) (getD l ys)
  | _, _, .nil => trivial
  | _, _, .cons p v t => by
    unfold getD
    rw [keyEq2 p q]
    split
    · exact v
    · exact getD2 q t
theorem hasD2 {k l : VI} (q : RV2 r k l) : ∀ {xs ys : List (VI × VI)}, RKs2 r xs ys → hasD l ys = hasD k xs
  | _, _, .nil => rfl
  | _, _, .cons p v t => by
    unfold hasD
    rw [keyEq2 p q, hasD2 q t]
theorem repD2 {k l v w : VI} (q : RV2 r k l) (u : RV2 r v w) : ∀ {xs ys : List (VI × VI)}, RKs2 r xs ys → RKs2 r (repD k v xs) (repD l w ys)
  | _, _, .nil => .nil
  | _, _, .cons p x t => by
    unfold repD
    rw [keyEq2 p q]
    split
    · exact .cons p u (repD2 q u t)
    · exact .cons p x (repD2 q u t)
theorem RKs2.append : ∀ {v w x y : List (VI × VI)}, RKs2 r v x → RKs2 r w y → RKs2 r (v ++ w) (x ++ y)
  | _, _, _, _, .nil, k => k
  | _, _, _, _, .cons a b t, k => .cons a b (RKs2.append t k)
theorem putD2 {k l v w : VI} (q : RV2 r k l) (u : RV2 r v w) {xs ys : List (VI × VI)} (t : RKs2 r xs ys) : RKs2 r (putD k v xs) (putD l w ys) := by
  unfold putD
  rw [hasD2 q t]
  split
  · exact repD2 q u t
  · exact t.append (.cons q u .nil)
theorem putAll2 : ∀ {ps qs xs ys : List (VI × VI)}, RKs2 r ps qs → RKs2 r xs ys → RKs2 r (putAll ps xs) (putAll qs ys)
  | _, _, _, _, .nil, t => t
  | _, _, _, _, .cons k v p, t => by
    unfold putAll
    exact putAll2 p (putD2 k v t)
theorem keysOk2 : ∀ {xs ys : List (VI × VI)}, RKs2 r xs ys → keysOk ys = keysOk xs
  | _, _, .nil => rfl
  | _, _, .cons p _ t => by unfold keysOk; rw [isKey2 p, keysOk2 t]
theorem inI2 {a b : VI} (p : RV2 r a b) : ∀ {xs ys : List VI}, RVs2 r xs ys → inI b ys = inI a xs
  | _, _, .nil => rfl
  | _, _, .cons q t => by unfold inI; rw [eqI2 q p, inI2 p t]
theorem alF2 : ∀ {xs ys : List VI}, RVs2 r xs ys → alF ys = alF xs
  | _, _, .nil => rfl
  | _, _, .cons q t => by unfold alF; rw [flI2 q, alF2 t]
theorem getF2 {f : S} : ∀ {xs ys : List (S × VI)}, RFs2 r xs ys → ROp2 r (getF f xs) (getF f ys)
  | _, _, .nil => trivial
  | _, _, .cons v t => by
    unfold getF
    split
    · exact v
    · exact getF2 t
theorem setF2 {f : S} {v w : VI} (u : RV2 r v w) : ∀ {xs ys : List (S × VI)}, RFs2 r xs ys → RFs2 r (setF f v xs) (setF f w ys)
  | _, _, .nil => .cons u .nil
  | _, _, .cons x t => by
    unfold setF
    split
    · exact .cons u t
    · exact .cons x (setF2 u t)
theorem datL2 {f g : VI → Option PyData} (e : ∀ v w d, RV2 r v w → f v = some d → g w = some d) : ∀ {xs ys : List VI} {ds : List PyData}, RVs2 r xs ys → datL f xs = some ds → datL g ys = some ds
  | _, _, _, .nil, q => q
  | _, _, _, .cons (v := v) (x := x) p t, q => by
    unfold datL at q ⊢
    cases z : f v with
    | none => rw [z] at q; cases q
    | some d =>
      rw [z] at q
      rw [e _ _ _ p z]
      dsimp only at q ⊢
      cases z2 : datL f _ with
      | none => rw [z2] at q; cases q
      | some ds =>
        rw [z2] at q
        rw [datL2 e t z2]
        exact q
theorem dat2 (a : Ag2 r s h) : ∀ (n : Nat) (v w : VI) (d : PyData), RV2 r v w → dat n s v = some d → dat n h w = some d
  | 0, _, _, _, _, q => by cases q
  | n + 1, v, w, d, p, q => by
    have ih := dat2 a n
    have lft : ∀ {xs ys : List VI} {F : List PyData → PyData}, RVs2 r xs ys → (datL (dat n s) xs).map F = some d → (datL (dat n h) ys).map F = some d := by
      intro xs ys F t k
      cases z : datL (dat n s) xs with
      | none => rw [z] at k; cases k
      | some ds => rw [z] at k; rw [datL2 ih t z]; exact k
    unfold dat at q ⊢
    cases p with
    | non => exact q
    | bl b => exact q
    | int i => exact q
    | str s => exact q
    | glo g => exact q
    | tup t => exact lft t q
    | @ref i m e =>
      dsimp only at q ⊢
      cases z : s[i]? with
      | none => rw [z] at q; cases q
      | some o =>
        obtain ⟨o', k1, k2⟩ := a.at_ z e
        rw [z] at q
        rw [k1]
        cases k2 with
        | lst t => exact lft t q
        | scr t => exact lft t q
        | dic _ => cases q
        | ins _ => cases q
        | xd _ => cases q
        | dnk _ => cases q
        | dcl _ => cases q
        | dnl _ => cases q
        | exo _ => cases q
theorem eqD2 (a : Ag2 r s h) {x y x' y' : VI} {b : Bool} (p : RV2 r x x') (q : RV2 r y y') (e : eqD s x y = some b) : eqD h x' y' = some b := by
  unfold eqD at e ⊢
  cases z : dat 66 s x with
  | none => rw [z] at e; cases e
  | some d =>
    cases z2 : dat 66 s y with
    | none => rw [z, z2] at e; cases e
    | some d2 =>
      rw [z, z2] at e
      rw [dat2 a _ _ _ _ p z, dat2 a _ _ _ _ q z2]
      exact e
theorem inDl2 (a : Ag2 r s h) {x x' : VI} {ys ys' : List VI} {b : Bool} (p : RV2 r x x') (q : RVs2 r ys ys') (e : inDl s x ys = some b) : inDl h x' ys' = some b := by
  unfold inDl at e ⊢
  cases z : dat 66 s x with
  | none => rw [z] at e; cases e
  | some d =>
    cases z2 : datL (dat 65 s) ys with
    | none => rw [z, z2] at e; cases e
    | some d2 =>
      rw [z, z2] at e
      rw [dat2 a _ _ _ _ p z, datL2 (dat2 a 65) q z2]
      exact e
theorem inM2 (a : Ag2 r s h) {x y x' y' : VI} {b : Bool} (p : RV2 r x x') (q : RV2 r y y') (e : inM x y s = some b) : inM x' y' h = some b := by
  unfold inM at e ⊢
  cases q with
  | tup t =>
    dsimp only at e ⊢
    rw [flI2 p, alF2 t, inI2 p t]
    exact e
  | @ref i m pp =>
    dsimp only at e ⊢
    cases z : s[i]? with
    | none => rw [z] at e; cases e
    | some o =>
      obtain ⟨o', k1, k2⟩ := a.at_ z pp
      rw [z] at e
      rw [k1]
      cases k2 with
      | lst t =>
        dsimp only at e ⊢
        rw [flI2 p, alF2 t, inI2 p t]
        split at e
        · exact e
        · exact inDl2 a p t e
      | scr t =>
        dsimp only at e ⊢
        rw [flI2 p, alF2 t, inI2 p t]
        split at e
        · exact e
        · exact inDl2 a p t e
      | dic t =>
        dsimp only at e ⊢
        rw [isKey2 p]
        have k := getD2 p t
        split at e
        · rw [← e]
          cases z1 : getD x _ with
          | none => rw [z1] at k; cases z2 : getD x' _ with
            | none => rfl
            | some _ => rw [z2] at k; exact k.elim
          | some _ => rw [z1] at k; cases z2 : getD x' _ with
            | none => rw [z2] at k; exact k.elim
            | some _ => rfl
        · cases e
      | ins _ => cases e
      | xd _ => cases e
      | dnk _ => cases e
      | dcl _ => cases e
      | dnl _ => cases e
      | exo _ => cases e
  | non => cases e
  | bl _ => cases e
  | int _ => cases e
  | str _ => cases e
  | glo _ => cases e
theorem ixL2 {xs ys : List VI} (t : RVs2 r xs ys) (i : Int) : ROp2 r (ixL xs i) (ixL ys i) := by
  unfold ixL
  rw [t.length]
  cases ixI ys.length i with
  | none => trivial
  | some j =>
    dsimp only
    cases z : xs[j]? with
    | none => rw [t.none z]; trivial
    | some v => obtain ⟨b, h1, h2⟩ := t.get z; rw [h1]; exact h2
theorem dropLast2 : ∀ {xs ys : List VI}, RVs2 r xs ys → RVs2 r xs.dropLast ys.dropLast
  | _, _, .nil => .nil
  | _, _, .cons _ .nil => .nil
  | _, _, .cons a (.cons b t) => .cons a (dropLast2 (.cons b t))
theorem isEmp2 {xs ys : List VI} (t : RVs2 r xs ys) : xs.isEmpty = ys.isEmpty := by cases t <;> rfl
theorem repL2 {xs ys : List VI} (t : RVs2 r xs ys) : ∀ n, RVs2 r (repL xs n) (repL ys n)
  | 0 => .nil
  | n + 1 => t.append (repL2 t n)
theorem cutI2 {xs ys : List VI} (t : RVs2 r xs ys) (lo hi : Option Int) : RVs2 r (cutI xs lo hi) (cutI ys lo hi) := by
  unfold cutI
  rw [t.length]
  exact (t.drop _).take _
theorem keys2 : ∀ {xs ys : List (VI × VI)}, RKs2 r xs ys → RVs2 r (xs.map (·.1)) (ys.map (·.1))
  | _, _, .nil => .nil
  | _, _, .cons a _ t => .cons a (keys2 t)
theorem vals2 : ∀ {xs ys : List (VI × VI)}, RKs2 r xs ys → RVs2 r (xs.map (·.2)) (ys.map (·.2))
  | _, _, .nil => .nil
  | _, _, .cons _ a t => .cons a (vals2 t)
theorem ints2 {α : Type} (f : α → Int) : ∀ l : List α, RVs2 r (l.map fun i => VI.int (f i)) (l.map fun i => VI.int (f i))
  | [] => .nil
  | _ :: l => .cons (.int _) (ints2 f l)
theorem rgI2 (a b : Int) : RVs2 r (rgI a b) (rgI a b) := ints2 (fun i : Nat => a + (i : Int)) _
theorem Ag2.no (a : Ag2 r s h) {n m : Nat} (p : r[n]? = some m) : ∃ o o', s[n]? = some o ∧ h[m]? = some o' ∧ RO2 r o o' := by
  have hn : n < s.length := by rw [← a.len]; exact (List.getElem?_eq_some_iff.mp p).1
  have e : s[n]? = some s[n] := by simp [hn]
  obtain ⟨o', h1, h2⟩ := a.at_ e p
  exact ⟨_, o', e, h1, h2⟩
theorem L2O.wr {n m : Nat} {u o o' : OI} {v w : VI} (g : Ag2 r s h) (hn : s[n]? = some u) (p : r[n]? = some m) (k : RO2 r o o') (q : RV2 r v w) : L2O RV2 r h (some (v, s.set n o)) (some (w, h.set m o')) := by
  obtain ⟨g', e⟩ := g.wr hn p k
  exact ⟨_, _, _, rfl, e, g', q⟩
instance : LOp fEq := ⟨fun r s h x y x' y' g p q => by
  unfold fEq
  cases z : eqD s x y with
  | none => trivial
  | some b => rw [eqD2 g p q z]; exact .ok g (.bl b)⟩
instance : LOp fNe := ⟨fun r s h x y x' y' g p q => by
  unfold fNe
  cases z : eqD s x y with
  | none => trivial
  | some b => rw [eqD2 g p q z]; exact .ok g (.bl _)⟩
instance : LOp fIn := ⟨fun r s h x y x' y' g p q => by
  unfold fIn
  cases z : inM x y s with
  | none => trivial
  | some b => rw [inM2 g p q z]; exact .ok g (.bl b)⟩
instance : LOp fNotIn := ⟨fun r s h x y x' y' g p q => by
  unfold fNotIn
  cases z : inM x y s with
  | none => trivial
  | some b => rw [inM2 g p q z]; exact .ok g (.bl _)⟩
instance : LOp fAdd := ⟨fun r s h x y x' y' g p q => by
  unfold fAdd
  cases p with
  | int i =>
    cases q with
    | int j => exact .ok g (.int _)
    | _ => trivial
  | str i =>
    cases q with
    | str j =>
      dsimp only
      split
      · exact .ok g (.str _)
      · trivial
    | _ => trivial
  | tup i =>
    cases q with
    | tup j =>
      dsimp only
      rw [i.length, j.length]
      split
      · exact .ok g (.tup (i.append j))
      · trivial
    | _ => trivial
  | ref i =>
    cases q with
    | ref j =>
      obtain ⟨o, o', e1, e2, e3⟩ := g.no i
      obtain ⟨u, u', f1, f2, f3⟩ := g.no j
      dsimp only
      rw [e1, e2, f1, f2]
      cases e3 with
      | lst t =>
        cases f3 with
        | lst t2 =>
          dsimp only
          rw [t.length, t2.length]
          split
          · exact .new g fun r' e => .lst ((t.mono e).append (t2.mono e))
          · trivial
        | _ => trivial
      | _ => trivial
    | _ => trivial
  | _ => trivial⟩
instance : LOp fSub := ⟨fun r s h x y x' y' g p q => by
  unfold fSub
  cases p <;> cases q <;> first | trivial | exact .ok g (.int _)⟩
instance : LOp fMul := ⟨fun r s h x y x' y' g p q => by
  unfold fMul
  cases p with
  | int i =>
    cases q with
    | int j =>
      dsimp only
      split
      · exact .ok g (.int _)
      · trivial
    | _ => trivial
  | tup i =>
    cases q with
    | int j =>
      dsimp only
      rw [isEmp2 i, i.length]
      split
      · exact .ok g (.tup (repL2 i _))
      · trivial
    | _ => trivial
  | ref i =>
    cases q with
    | int j =>
      obtain ⟨o, o', e1, e2, e3⟩ := g.no i
      dsimp only
      rw [e1, e2]
      cases e3 with
      | lst t =>
        dsimp only
        rw [t.length]
        split
        · exact .new g fun r' e => .lst (repL2 (t.mono e) _)
        · trivial
      | _ => trivial
    | _ => trivial
  | _ => trivial⟩
instance : LOp fMod := ⟨fun r s h x y x' y' g p q => by
  unfold fMod
  cases p with
  | int i =>
    cases q with
    | int j =>
      dsimp only
      split
      · exact .ok g (.int _)
      · trivial
    | _ => trivial
  | _ => trivial⟩
instance : LOp fFdiv := ⟨fun r s h x y x' y' g p q => by
  unfold fFdiv
  cases p with
  | int i =>
    cases q with
    | int j =>
      dsimp only
      split
      · exact .ok g (.int _)
      · trivial
    | _ => trivial
  | _ => trivial⟩
instance : LOp fPow := ⟨fun r s h x y x' y' g p q => by
  unfold fPow
  cases p with
  | int i =>
    cases q with
    | int j =>
      dsimp only
      split
      · exact .ok g (.int _)
      · trivial
    | _ => trivial
  | _ => trivial⟩
instance {f : Int → Int → Bool} : LOp (fInt f) := ⟨fun r s h x y x' y' g p q => by
  unfold fInt
  cases p <;> cases q <;> first | trivial | exact .ok g (.bl _)⟩
instance : LOp fLt := inferInstanceAs (LOp (fInt _))
instance : LOp fLe := inferInstanceAs (LOp (fInt _))
instance : LOp fGt := inferInstanceAs (LOp (fInt _))
instance : LOp fGe := inferInstanceAs (LOp (fInt _))
instance : LOp fIsN := ⟨fun r s h x y x' y' g p q => by
  unfold fIsN
  cases q <;> first | trivial | (cases p <;> exact .ok g (.bl _))⟩
instance : LOp fNotN := ⟨fun r s h x y x' y' g p q => by
  unfold fNotN
  cases q <;> first | trivial | (cases p <;> exact .ok g (.bl _))⟩
theorem L2O.op {a b : Option VI} (g : Ag2 r s h) (k : ROp2 r a b) : L2O RV2 r h (match (generalizing := false) a with | some v => some (v, s) | none => none) (match (generalizing := false) b with | some v => some (v, h) | none => none) := by
  cases a with
  | none => trivial
  | some v => cases b with
    | none => exact k.elim
    | some w => exact .ok g k
instance : LOp fIx := ⟨fun r s h x y x' y' g p q => by
  unfold fIx
  cases p with
  | tup t =>
    cases q with
    | int i => exact .op g (ixL2 t i)
    | _ => trivial
  | ref i =>
    obtain ⟨o, o', e1, e2, e3⟩ := g.no i
    dsimp only
    rw [e1, e2]
    cases e3 with
    | lst t =>
      cases q with
      | int i => exact .op g (ixL2 t i)
      | _ => trivial
    | scr t =>
      cases q with
      | int i => exact .op g (ixL2 t i)
      | _ => trivial
    | dic t =>
      dsimp only
      rw [isKey2 q]
      have k := getD2 q t
      cases isKey y with
      | false => trivial
      | true =>
        cases z1 : getD y _ with
        | none => trivial
        | some v => rw [z1] at k; cases z2 : getD y' _ with
          | none => rw [z2] at k; exact k.elim
          | some w => rw [z2] at k; exact .ok g k
    | _ => trivial
  | _ => trivial⟩
instance : LOc cLen := ⟨fun r s h vs vs' g t => by
  unfold cLen
  cases t with
  | nil => trivial
  | cons p t =>
    cases t with
    | cons _ _ => cases p <;> trivial
    | nil =>
      cases p with
      | tup t => dsimp only; rw [t.length]; exact .ok g (.int _)
      | str x =>
        dsimp only
        split
        · exact .ok g (.int _)
        · trivial
      | ref i =>
        obtain ⟨o, o', e1, e2, e3⟩ := g.no i
        dsimp only
        rw [e1, e2]
        cases e3 with
        | lst t => dsimp only; rw [t.length]; exact .ok g (.int _)
        | scr t => dsimp only; rw [t.length]; exact .ok g (.int _)
        | dic t => dsimp only; rw [t.length]; exact .ok g (.int _)
        | _ => trivial
      | _ => trivial⟩
instance : LOc cInt := ⟨fun r s h vs vs' g t => by
  unfold cInt
  cases t with
  | nil => trivial
  | cons p t =>
    cases t with
    | cons _ _ => cases p <;> trivial
    | nil =>
      cases p with
      | int i => exact .ok g (.int _)
      | bl b => exact .ok g (.int _)
      | _ => trivial⟩
instance : LOc cMax := ⟨fun r s h vs vs' g t => by
  unfold cMax
  cases t with
  | nil => trivial
  | cons p t =>
    cases t with
    | nil => cases p <;> trivial
    | cons q t =>
      cases t with
      | cons _ _ => cases p <;> cases q <;> trivial
      | nil => cases p <;> cases q <;> first | trivial | exact .ok g (.int _)⟩
instance : LOc cMin := ⟨fun r s h vs vs' g t => by
  unfold cMin
  cases t with
  | nil => trivial
  | cons p t =>
    cases t with
    | nil => cases p <;> trivial
    | cons q t =>
      cases t with
      | cons _ _ => cases p <;> cases q <;> trivial
      | nil => cases p <;> cases q <;> first | trivial | exact .ok g (.int _)⟩
instance : LOc cList := ⟨fun r s h vs vs' g t => by
  unfold cList
  cases t with
  | nil => trivial
  | cons p t =>
    cases t with
    | cons _ _ => cases p <;> trivial
    | nil =>
      cases p with
      | tup t => exact .new g fun r' e => .lst (t.mono e)
      | ref i =>
        obtain ⟨o, o', e1, e2, e3⟩ := g.no i
        dsimp only
        rw [e1, e2]
        cases e3 with
        | lst t => exact .new g fun r' e => .lst (t.mono e)
        | scr t => exact .new g fun r' e => .lst (t.mono e)
        | dic t => exact .new g fun r' e => .lst ((keys2 t).mono e)
        | _ => trivial
      | _ => trivial⟩
instance : LOc cTuple := ⟨fun r s h vs vs' g t => by
  unfold cTuple
  cases t with
  | nil => trivial
  | cons p t =>
    cases t with
    | cons _ _ => cases p <;> trivial
    | nil =>
      cases p with
      | tup t => exact .ok g (.tup t)
      | ref i =>
        obtain ⟨o, o', e1, e2, e3⟩ := g.no i
        dsimp only
        rw [e1, e2]
        cases e3 with
        | lst t => exact .ok g (.tup t)
        | scr t => exact .ok g (.tup t)
        | _ => trivial
      | _ => trivial⟩
instance : LOc cDict := ⟨fun r s h vs vs' g t => by
  unfold cDict
  cases t with
  | nil => trivial
  | cons p t =>
    cases t with
    | cons _ _ => cases p <;> trivial
    | nil =>
      cases p with
      | ref i =>
        obtain ⟨o, o', e1, e2, e3⟩ := g.no i
        dsimp only
        rw [e1, e2]
        cases e3 with
        | dic t => exact .new g fun r' e => .dic (t.mono e)
        | _ => trivial
      | _ => trivial⟩
instance : LOm mAppend := ⟨fun r s h x x' vs vs' g p t => by
  unfold mAppend
  cases p with
  | ref i =>
    obtain ⟨o, o', e1, e2, e3⟩ := g.no i
    dsimp only
    rw [e1, e2]
    cases e3 with
    | lst l =>
      cases t with
      | nil => trivial
      | cons q t =>
        cases t with
        | cons _ _ => trivial
        | nil =>
          dsimp only
          rw [l.length]
          split
          · exact .wr g e1 i (.lst (l.append (.cons q .nil))) .non
          · trivial
    | _ => trivial
  | _ => trivial⟩
instance : LOm mExtend := ⟨fun r s h x x' vs vs' g p t => by
  unfold mExtend
  cases p with
  | ref i =>
    obtain ⟨o, o', e1, e2, e3⟩ := g.no i
    dsimp only
    rw [e1, e2]
    cases e3 with
    | lst l =>
      cases t with
      | nil => trivial
      | cons q t =>
        cases t with
        | cons _ _ => cases q <;> trivial
        | nil =>
          cases q with
          | ref j =>
            obtain ⟨u, u', f1, f2, f3⟩ := g.no j
            dsimp only
            rw [f1, f2]
            cases f3 with
            | lst l2 =>
              dsimp only
              rw [l.length, l2.length]
              split
              · exact .wr g e1 i (.lst (l.append l2)) .non
              · trivial
            | _ => trivial
          | _ => trivial
    | _ => trivial
  | _ => trivial⟩
instance : LOm mPop := ⟨fun r s h x x' vs vs' g p t => by
  unfold mPop
  cases p with
  | ref i =>
    obtain ⟨o, o', e1, e2, e3⟩ := g.no i
    dsimp only
    rw [e1, e2]
    cases e3 with
    | @lst xs ys l =>
      cases t with
      | cons _ _ => trivial
      | nil =>
        dsimp only
        cases z : xs[xs.length - 1]? with
        | none => trivial
        | some y =>
          obtain ⟨b, k1, k2⟩ := l.get z
          rw [← l.length, k1]
          exact .wr g e1 i (.lst (dropLast2 l)) k2
    | _ => trivial
  | _ => trivial⟩
end
end ML
end
section
namespace ML
open PySem L2
section
variable {r r' : List Nat} {h h' s : Hi}
def L2S (r : List Nat) (h : Hi) (a a' : RS) : Prop := match a with
  | .nx σ s' => ∃ r' h' σ', a' = .nx σ' h' ∧ Ex2 r h r' h' ∧ Ag2 r' s' h' ∧ AS2 r' σ σ'
  | .bk σ s' => ∃ r' h' σ', a' = .bk σ' h' ∧ Ex2 r h r' h' ∧ Ag2 r' s' h' ∧ AS2 r' σ σ'
  | .ct σ s' => ∃ r' h' σ', a' = .ct σ' h' ∧ Ex2 r h r' h' ∧ Ag2 r' s' h' ∧ AS2 r' σ σ'
  | .rt v s' => ∃ r' h' v', a' = .rt v' h' ∧ Ex2 r h r' h' ∧ Ag2 r' s' h' ∧ RV2 r' v v'
  | .ex c n σ s' => ∃ r' h' σ' m, a' = .ex c m σ' h' ∧ Ex2 r h r' h' ∧ Ag2 r' s' h' ∧ AS2 r' σ σ' ∧ r'[n]? = some m
  | .err => True
theorem L2S.ext {a a' : RS} (x : Ex2 r h r' h') (k : L2S r' h' a a') : L2S r h a a' := by
  cases a with
  | err => trivial
  | nx σ s' => obtain ⟨r2, h2, m, e1, e2, e3⟩ := k; exact ⟨r2, h2, m, e1, x.trans e2, e3⟩
  | bk σ s' => obtain ⟨r2, h2, m, e1, e2, e3⟩ := k; exact ⟨r2, h2, m, e1, x.trans e2, e3⟩
  | ct σ s' => obtain ⟨r2, h2, m, e1, e2, e3⟩ := k; exact ⟨r2, h2, m, e1, x.trans e2, e3⟩
  | rt σ s' => obtain ⟨r2, h2, m, e1, e2, e3⟩ := k; exact ⟨r2, h2, m, e1, x.trans e2, e3⟩
  | ex c n σ s' => obtain ⟨r2, h2, m, m2, e1, e2, e3⟩ := k; exact ⟨r2, h2, m, m2, e1, x.trans e2, e3⟩
theorem L2R.ext {α : Type} {R : List Nat → α → α → Prop} {a a' : Res α} (x : Ex2 r h r' h') (k : L2R R r' h' a a') : L2R R r h a a' := by
  cases a with
  | err => trivial
  | ok σ s' => obtain ⟨r2, h2, m, e1, e2, e3⟩ := k; exact ⟨r2, h2, m, e1, x.trans e2, e3⟩
  | ex c n s' => obtain ⟨r2, h2, m, e1, e2, e3⟩ := k; exact ⟨r2, h2, m, e1, x.trans e2, e3⟩
theorem L2S.nx {σ σ' : Sg} (g : Ag2 r s h) (a : AS2 r σ σ') : L2S r h (.nx σ s) (.nx σ' h) := ⟨_, _, _, rfl, .refl, g, a⟩
theorem L2R.bindS {α : Type} {R : List Nat → α → α → Prop} {a a' : Res α} {σ σ' : Sg} {k k' : α → Hi → RS} (h1 : L2R R r h a a') (as : AS2 r σ σ')
    (h2 : ∀ r1 s1 h1 x x', Ex2 r h r1 h1 → Ag2 r1 s1 h1 → R r1 x x' → L2S r1 h1 (k x s1) (k' x' h1)) : L2S r h (a.bindS σ k) (a'.bindS σ' k') := by
  cases a with
  | err => trivial
  | ex c n s' =>
    obtain ⟨r', h', m, rfl, e, g, q⟩ := h1
    exact ⟨r', h', σ', m, rfl, e, g, as.mono e, q⟩
  | ok v s' =>
    obtain ⟨r', h', v', rfl, e, g, q⟩ := h1
    exact (h2 r' s' h' v v' e g q).ext e
theorem L2S.andThen {a a' : RS} {f f' : MS} (k : L2S r h a a') (t : ∀ r1 s1 h1 σ σ', Ex2 r h r1 h1 → Ag2 r1 s1 h1 → AS2 r1 σ σ' → L2S r1 h1 (f σ s1) (f' σ' h1)) : L2S r h (a.andThen f) (a'.andThen f') := by
  cases a with
  | err => trivial
  | nx σ s' => obtain ⟨r2, h2, m, rfl, e2, e3, e4⟩ := k; exact (t _ _ _ _ _ e2 e3 e4).ext e2
  | bk σ s' => obtain ⟨r2, h2, m, rfl, e2, e3⟩ := k; exact ⟨r2, h2, m, rfl, e2, e3⟩
  | ct σ s' => obtain ⟨r2, h2, m, rfl, e2, e3⟩ := k; exact ⟨r2, h2, m, rfl, e2, e3⟩
  | rt σ s' => obtain ⟨r2, h2, m, rfl, e2, e3⟩ := k; exact ⟨r2, h2, m, rfl, e2, e3⟩
  | ex c n σ s' => obtain ⟨r2, h2, m, m2, rfl, e2, e3⟩ := k; exact ⟨r2, h2, m, m2, rfl, e2, e3⟩
theorem L2R.dropV {a a' : Res VI} {σ σ' : Sg} (k : L2R RV2 r h a a') (as : AS2 r σ σ') : L2S r h (dropV σ a) (dropV σ' a') := by
  cases a with
  | err => trivial
  | ok v s' => obtain ⟨r2, h2, m, rfl, e, g, _⟩ := k; exact ⟨r2, h2, σ', rfl, e, g, as.mono e⟩
  | ex c n s' => obtain ⟨r2, h2, m, rfl, e, g, q⟩ := k; exact ⟨r2, h2, σ', m, rfl, e, g, as.mono e, q⟩
end
class LS (m : MS) : Prop where
  run : ∀ r s h σ σ', Ag2 r s h → AS2 r σ σ' → L2S r h (m σ s) (m σ' h)
class LG (g : MG) : Prop where
  run : ∀ r s h σ σ' v v', Ag2 r s h → AS2 r σ σ' → RV2 r v v' → L2S r h (g v σ s) (g v' σ' h)
class LTb (tbl : Nat → Option MF) : Prop where
  run : ∀ c g, tbl c = some g → LF g
class CTb (tbl : Nat → Option VI) : Prop where
  run : ∀ c v, tbl c = some v → ∀ r, RV2 r v v
instance : LTb (lkT []) := ⟨fun c g e => by cases e⟩
instance {d : Nat} {x : MF} {l : List (Nat × MF)} [a : LF x] [b : LTb (lkT l)] : LTb (lkT ((d, x) :: l)) := ⟨fun c g e => by
  rcases lkT_cons e with ⟨_, rfl⟩ | q
  · exact a
  · exact b.run c g q⟩
instance : CTb (lkT []) := ⟨fun c g e => by cases e⟩
instance {d : Nat} {x : VI} {l : List (Nat × VI)} [a : CV x] [b : CTb (lkT l)] : CTb (lkT ((d, x) :: l)) := ⟨fun c g e => by
  rcases lkT_cons e with ⟨_, rfl⟩ | q
  · exact a.self
  · exact b.run c g q⟩
class CTs (tbl : S → Option VI) : Prop where
  run : ∀ c v, tbl c = some v → ∀ r, RV2 r v v
instance : CTs (lkS []) := ⟨fun c g e => by cases e⟩
instance {d : S} {x : VI} {l : List (S × VI)} [a : CV x] [b : CTs (lkS l)] : CTs (lkS ((d, x) :: l)) := ⟨fun c v e => by
  unfold lkS at e
  split at e
  · cases e; exact a.self
  · exact b.run c v e⟩
section
variable {ma mb mc : ME} {ta tb : MT} {aa ab : MA} {sa sb : MS} {ga : MG}
instance {cs : List Nat} {f : S} [x : LE ma] : LE (eFld cs f ma) := ⟨fun r s h σ σ' g a => (x.run r s h σ σ' g a).bind fun r1 s1 h1 v v' e1 g1 q1 => by
  cases q1 with
  | ref p =>
    obtain ⟨o, o', z1, z2, z3⟩ := g1.no p
    dsimp only
    rw [z1, z2]
    cases z3 with
    | @ins c xs ys t =>
      dsimp only
      have k := getF2 (f := f) t
      cases cs.contains c with
      | false => trivial
      | true =>
        cases w1 : getF f xs with
        | none => trivial
        | some v => cases w2 : getF f ys with
          | none => rw [w1, w2] at k; exact k.elim
          | some w => rw [w1, w2] at k; exact .ok g1 k
    | _ => trivial
  | _ => trivial⟩
instance {tbl : Nat → Option VI} {f : S} [c : CTb tbl] [x : LE ma] : LE (eCon tbl f ma) := ⟨fun r s h σ σ' g a => (x.run r s h σ σ' g a).bind fun r1 s1 h1 v v' e1 g1 q1 => by
  cases q1 with
  | ref p =>
    obtain ⟨o, o', z1, z2, z3⟩ := g1.no p
    dsimp only
    rw [z1, z2]
    cases z3 with
    | @ins d xs ys t =>
      dsimp only
      have k := getF2 (f := f) t
      cases w0 : tbl d with
      | none => trivial
      | some u =>
        cases w1 : getF f xs with
        | some v => trivial
        | none => cases w2 : getF f ys with
          | some _ => rw [w1, w2] at k; exact k.elim
          | none => exact .ok g1 (c.run _ _ w0 _)
    | _ => trivial
  | _ => trivial⟩
instance {tbl : Nat → Option MF} {f : S} [c : LTb tbl] [x : LE ma] [y : LA aa] : LE (eMeth tbl f ma aa) := ⟨fun r s h σ σ' g a => (x.run r s h σ σ' g a).bind fun r1 s1 h1 v v' e1 g1 q1 => by
  cases q1 with
  | ref p =>
    obtain ⟨o, o', z1, z2, z3⟩ := g1.no p
    dsimp only
    rw [z1, z2]
    cases z3 with
    | @ins d xs ys t =>
      dsimp only
      have k := getF2 (f := f) t
      cases w0 : tbl d with
      | none => trivial
      | some u =>
        cases w1 : getF f xs with
        | some v => trivial
        | none => cases w2 : getF f ys with
          | some _ => rw [w1, w2] at k; exact k.elim
          | none => exact (y.run _ _ _ _ _ g1 (a.mono e1)).bind fun r2 s2 h2 w w' e2 g2 q2 => (c.run _ _ w0).run _ _ _ _ _ g2 (.cons (.ref (e2.pre p)) q2)
    | _ => trivial
  | _ => trivial⟩
theorem L2R.okM {r : List Nat} {h : Hi} {a a' : Res VI} (k : L2R RV2 r h a a') : L2R RV2 r h (okM a) (okM a') := by
  cases a with
  | err => trivial
  | ok v s' => obtain ⟨r2, h2, m, rfl, e⟩ := k; exact ⟨r2, h2, m, rfl, e⟩
  | ex c n s' => trivial
instance {tbl : Nat → Option MF} [c : LTb tbl] [x : LE ma] : LE (eProp tbl ma) := ⟨fun r s h σ σ' g a => (x.run r s h σ σ' g a).bind fun r1 s1 h1 v v' e1 g1 q1 => by
  cases q1 with
  | ref p =>
    obtain ⟨o, o', z1, z2, z3⟩ := g1.no p
    dsimp only
    rw [z1, z2]
    cases z3 with
    | @ins d xs ys t =>
      dsimp only
      cases w0 : tbl d with
      | none => trivial
      | some u => exact ((c.run _ _ w0).run _ _ _ _ _ g1 (.cons (.ref p) .nil)).okM
    | _ => trivial
  | _ => trivial⟩
theorem mk2 {f : MF} [x : LF f] {c : Nat} {r : List Nat} {s h : Hi} {vs vs' : List VI} (g : Ag2 r s h) (q : Ex2 r h (r ++ [h.length]) (h ++ [.ins c []]) → RVs2 (r ++ [h.length]) vs vs') :
    L2R RV2 r h (match f vs (s ++ [.ins c []]) with | .ok .non h2 => .ok (.ref s.length) h2 | .ex c n h2 => .ex c n h2 | _ => .err) (match f vs' (h ++ [.ins c []]) with | .ok .non h2 => .ok (.ref h.length) h2 | .ex c n h2 => .ex c n h2 | _ => .err) := by
  obtain ⟨g', e⟩ := g.new (o := .ins c []) (o' := .ins c []) (.ins .nil)
  have k := x.run _ _ _ _ _ g' (q e)
  cases z : f vs (s ++ [.ins c []]) with
  | err => trivial
  | ex d n s2 => rw [z] at k; obtain ⟨r2, h2, m, k1, k2, k3, k4⟩ := k; rw [k1]; exact ⟨r2, h2, m, rfl, e.trans k2, k3, k4⟩
  | ok v s2 =>
    rw [z] at k
    obtain ⟨r2, h2, m, k1, k2, k3, k4⟩ := k
    rw [k1]
    cases k4 with
    | non => exact ⟨r2, h2, _, rfl, e.trans k2, k3, .ref (k2.pre g.idx)⟩
    | _ => trivial
instance {c : Nat} {f : MF} [x : LF f] : LF (mkM c f) := ⟨fun r s h vs vs' g q => mk2 g fun e => .cons (.ref g.idx) (q.mono e)⟩
class LK (k : MK) : Prop where
  run : ∀ r s h vs vs' zs zs', Ag2 r s h → RVs2 r vs vs' → RVs2 r zs zs' → L2R RV2 r h (k vs zs s) (k vs' zs' h)
class LAr (f : List VI → List VI → List VI) : Prop where
  run : ∀ r vs vs' zs zs', RVs2 r vs vs' → RVs2 r zs zs' → RVs2 r (f vs zs) (f vs' zs')
theorem pk32 {r : List Nat} {us us' ms ms' ws ws' : List VI} (a : RVs2 r us us') (b : RVs2 r ms ms') (c : RVs2 r ws ws') (q : Nat × Nat) : ROp2 r (pk3 us ms ws q) (pk3 us' ms' ws' q) := by
  have gt : ∀ {xs ys : List VI} (i : Nat), RVs2 r xs ys → ROp2 r xs[i]? ys[i]? := by
    intro xs ys i t
    cases z : xs[i]? with
    | none => rw [t.none z]; trivial
    | some v => obtain ⟨w, h1, h2⟩ := t.get z; rw [h1]; exact h2
  unfold pk3
  split
  · exact gt _ a
  · exact gt _ b
  · exact gt _ c
theorem arr32 {r : List Nat} {us us' ms ms' ws ws' : List VI} (a : RVs2 r us us') (b : RVs2 r ms ms') (c : RVs2 r ws ws') : ∀ se, RVs2 r (arr3 se us ms ws) (arr3 se us' ms' ws')
  | [] => .nil
  | q :: l => by
    have k := pk32 a b c q
    unfold arr3
    cases z : pk3 us ms ws q with
    | none => rw [z] at k; cases z2 : pk3 us' ms' ws' q with
      | none => exact arr32 a b c l
      | some _ => rw [z2] at k; exact k.elim
    | some v => rw [z] at k; cases z2 : pk3 us' ms' ws' q with
      | none => rw [z2] at k; exact k.elim
      | some w => rw [z2] at k; exact .cons k (arr32 a b c l)
instance {f : MF} {arr : List VI → List VI → List VI} [x : LF f] [y : LAr arr] : LK (fnK f arr) := ⟨fun r s h vs vs' zs zs' g p q => x.run _ _ _ _ _ g (y.run _ _ _ _ _ p q)⟩
instance {c : Nat} {f : MF} {arr : List VI → List VI → List VI} [x : LF f] [y : LAr arr] : LK (mkK c f arr) := ⟨fun r s h vs vs' zs zs' g p q => mk2 g fun e => y.run _ _ _ _ _ (.cons (.ref g.idx) (p.mono e)) (q.mono e)⟩
instance {n m : Nat} {k : MK} [x : LK k] [y : LA aa] [z : LA ab] : LE (eCallK n m k aa ab) := ⟨fun r s h σ σ' g a => (y.run r s h σ σ' g a).bind fun r1 s1 h1 v v' e1 g1 q1 => (z.run _ _ _ _ _ g1 (a.mono e1)).bind fun r2 s2 h2 w w' e2 g2 q2 => by
  rw [q1.length, q2.length]
  split
  · exact x.run _ _ _ _ _ _ _ g2 (q1.mono e2) q2
  · trivial⟩
theorem ins2 {r : List Nat} {s h : Hi} (g : Ag2 r s h) {x y : VI} (p : RV2 r x y) : insC y h = insC x s := by
  cases p with
  | ref i =>
    obtain ⟨o, o', z1, z2, z3⟩ := g.no i
    unfold insC
    dsimp only
    rw [z1, z2]
    cases z3 <;> rfl
  | _ => rfl
instance {tbl : Nat → Option MF} [c : LTb tbl] [x : LE ma] [y : LE mb] : LE (eIxU tbl ma mb) := ⟨fun r s h σ σ' g a => (x.run r s h σ σ' g a).bind fun r1 s1 h1 v v' e1 g1 q1 => (y.run _ _ _ _ _ g1 (a.mono e1)).bind fun r2 s2 h2 w w' e2 g2 q2 => by
  rw [ins2 g2 (q1.mono e2)]
  cases z : insC v s2 with
  | none => exact .ofO (LOp.run (f := fIx) _ _ _ _ _ _ _ g2 (q1.mono e2) q2)
  | some d =>
    dsimp only
    cases w0 : tbl d with
    | none => trivial
    | some u => exact (c.run _ _ w0).run _ _ _ _ _ g2 (.cons (q1.mono e2) (.cons q2 .nil))⟩
theorem putIx2 {r : List Nat} {s h s' : Hi} (g : Ag2 r s h) {x x' y y' z z' : VI} (p : RV2 r x x') (q : RV2 r y y') (k : RV2 r z z') (e : putIx x y z s = some s') : ∃ h', putIx x' y' z' h = some h' ∧ Ex2 r h r h' ∧ Ag2 r s' h' := by
  unfold putIx at e ⊢
  cases p with
  | ref i =>
    obtain ⟨o, o', z1, z2, z3⟩ := g.no i
    dsimp only at e ⊢
    rw [z1] at e
    rw [z2]
    cases z3 with
    | lst t =>
      cases q with
      | int j =>
        dsimp only at e ⊢
        rw [← t.length]
        split at e
        · cases e
          obtain ⟨a, b⟩ := g.wr z1 i (.lst (t.set _ k))
          exact ⟨_, rfl, b, a⟩
        · cases e
      | _ => cases e
    | dic t =>
      dsimp only at e ⊢
      rw [isKey2 q, ← t.length]
      split at e
      · cases e
        obtain ⟨a, b⟩ := g.wr z1 i (.dic (putD2 q k t))
        exact ⟨_, rfl, b, a⟩
      · cases e
    | _ => cases e
  | _ => cases e
theorem nxO2 {r : List Nat} {s h : Hi} {σ σ' : Sg} (g : Ag2 r s h) (as : AS2 r σ σ') {x x' y y' z z' : VI} (p : RV2 r x x') (q : RV2 r y y') (k : RV2 r z z') : L2S r h (nxO σ (putIx x y z s)) (nxO σ' (putIx x' y' z' h)) := by
  cases e : putIx x y z s with
  | none => trivial
  | some s' => obtain ⟨h', e1, e2, e3⟩ := putIx2 g p q k e; rw [e1]; exact ⟨_, _, _, rfl, e2, e3, as.mono e2⟩
instance {tbl : Nat → Option MF} [c : LTb tbl] [x : LE ma] [y : LE mb] : LG (gIxU tbl ma mb) := ⟨fun r s h σ σ' u u' g a q => (x.run r s h σ σ' g a).bindS a fun r1 s1 h1 v v' e1 g1 q1 => (y.run _ _ _ _ _ g1 (a.mono e1)).bindS (a.mono e1) fun r2 s2 h2 w w' e2 g2 q2 => by
  rw [ins2 g2 (q1.mono e2)]
  have a2 := (a.mono e1).mono e2
  cases z : insC v s2 with
  | none => exact nxO2 g2 a2 (q1.mono e2) q2 ((q.mono e1).mono e2)
  | some d =>
    dsimp only
    cases w0 : tbl d with
    | none => trivial
    | some f => exact ((c.run _ _ w0).run _ _ _ _ _ g2 (.cons (q1.mono e2) (.cons q2 (.cons ((q.mono e1).mono e2) .nil)))).dropV a2⟩
instance [x : LE ma] [y : LE mb] : LG (gIx ma mb) := ⟨fun r s h σ σ' u u' g a q => (x.run r s h σ σ' g a).bindS a fun r1 s1 h1 v v' e1 g1 q1 => (y.run _ _ _ _ _ g1 (a.mono e1)).bindS (a.mono e1) fun r2 s2 h2 w w' e2 g2 q2 => nxO2 g2 ((a.mono e1).mono e2) (q1.mono e2) q2 ((q.mono e1).mono e2)⟩
instance {i : Nat} : LG (gNm i) := ⟨fun r s h σ σ' u u' g a q => .nx g (a.set q i)⟩
theorem fld2 {r : List Nat} {s h : Hi} {σ σ' : Sg} {cs : List Nat} {f : S} {x x' y y' : VI} (g2 : Ag2 r s h) (as : AS2 r σ σ') (p : RV2 r x x') (q : RV2 r y y') : L2S r h
    (match (generalizing := false) x with | .ref n => (match (generalizing := false) s[n]? with | some (.ins c fs) => (match (generalizing := false) cs.contains c && Nat.blt fs.length 1000 with | true => .nx σ (s.set n (.ins c (setF f y fs))) | false => .err) | _ => .err) | _ => .err)
    (match (generalizing := false) x' with | .ref n => (match (generalizing := false) h[n]? with | some (.ins c fs) => (match (generalizing := false) cs.contains c && Nat.blt fs.length 1000 with | true => .nx σ' (h.set n (.ins c (setF f y' fs))) | false => .err) | _ => .err) | _ => .err) := by
  cases p with
  | ref i =>
    obtain ⟨o, o', z1, z2, z3⟩ := g2.no i
    dsimp only
    rw [z1, z2]
    cases z3 with
    | ins t =>
      dsimp only
      rw [t.length]
      split
      · obtain ⟨a, b⟩ := g2.wr z1 i (.ins (setF2 q t))
        exact ⟨_, _, _, rfl, b, a, as.mono b⟩
      · trivial
    | _ => trivial
  | _ => trivial
instance {cs : List Nat} {f : S} [x : LE ma] [y : LE mb] : LS (sFldM cs f ma mb) := ⟨fun r s h σ σ' g a => (y.run r s h σ σ' g a).bindS a fun r1 s1 h1 v v' e1 g1 q1 => (x.run _ _ _ _ _ g1 (a.mono e1)).bindS (a.mono e1) fun r2 s2 h2 w w' e2 g2 q2 => fld2 g2 ((a.mono e1).mono e2) q2 (q1.mono e2)⟩
instance {cs : List Nat} {f : S} [x : LE ma] : LG (gFld cs f ma) := ⟨fun r s h σ σ' u u' g a q => (x.run r s h σ σ' g a).bindS a fun r2 s2 h2 w w' e2 g2 q2 => fld2 g2 (a.mono e2) q2 (q.mono e2)⟩
instance [z : LE mc] [x : LE ma] [y : LE mb] : LS (sPut ma mb mc) := ⟨fun r s h σ σ' g a => (z.run r s h σ σ' g a).bindS a fun r0 s0 h0 u u' e0 g0 q0 => (x.run _ _ _ _ _ g0 (a.mono e0)).bindS (a.mono e0) fun r1 s1 h1 v v' e1 g1 q1 => (y.run _ _ _ _ _ g1 ((a.mono e0).mono e1)).bindS ((a.mono e0).mono e1) fun r2 s2 h2 w w' e2 g2 q2 => nxO2 g2 (((a.mono e0).mono e1).mono e2) (q1.mono e2) q2 ((q0.mono e1).mono e2)⟩
instance : LS sNx := ⟨fun r s h σ σ' g a => .nx g a⟩
instance : LS sErr := ⟨fun r s h σ σ' g a => trivial⟩
instance : LT tErr := ⟨fun r s h σ σ' g a => trivial⟩
instance : LS sBk := ⟨fun r s h σ σ' g a => ⟨_, _, _, rfl, .refl, g, a⟩⟩
instance : LS sCt := ⟨fun r s h σ σ' g a => ⟨_, _, _, rfl, .refl, g, a⟩⟩
instance : LS sRetN := ⟨fun r s h σ σ' g a => ⟨_, _, _, rfl, .refl, g, .non⟩⟩
instance [x : LS sa] [y : LS sb] : LS (sSeq sa sb) := ⟨fun r s h σ σ' g a => (x.run r s h σ σ' g a).andThen fun r1 s1 h1 t t' e1 g1 q1 => y.run _ _ _ _ _ g1 q1⟩
instance [x : LE ma] : LS (sRet ma) := ⟨fun r s h σ σ' g a => (x.run r s h σ σ' g a).bindS a fun r1 s1 h1 v v' e1 g1 q1 => ⟨_, _, _, rfl, .refl, g1, q1⟩⟩
instance [x : LE ma] : LS (sDrop ma) := ⟨fun r s h σ σ' g a => (x.run r s h σ σ' g a).bindS a fun r1 s1 h1 v v' e1 g1 q1 => .nx g1 (a.mono e1)⟩
instance [x : LT ta] [y : LS sa] [z : LS sb] : LS (sIf ta sa sb) := ⟨fun r s h σ σ' g a => (x.run r s h σ σ' g a).bindS a fun r1 s1 h1 v v' e1 g1 q1 => by
  subst q1
  cases v with
  | true => exact y.run _ _ _ _ _ g1 (a.mono e1)
  | false => exact z.run _ _ _ _ _ g1 (a.mono e1)⟩
instance [x : LE ma] [y : LG ga] : LS (sAsg ma ga) := ⟨fun r s h σ σ' g a => (x.run r s h σ σ' g a).bindS a fun r1 s1 h1 v v' e1 g1 q1 => y.run _ _ _ _ _ _ _ g1 (a.mono e1) q1⟩
instance {known : Nat → Bool} {i : Nat} {f : MF} [x : LF f] [y : LA aa] : LS (sSuper known i f aa) := ⟨fun r s h σ σ' g a => by
  unfold sSuper
  cases z : σ[i]? with
  | none => trivial
  | some o =>
    cases o with
    | none => trivial
    | some v =>
      obtain ⟨w, k1, k2⟩ := a.at_ i v z
      rw [k1]
      cases k2 with
      | ref p =>
        obtain ⟨o, o', z1, z2, z3⟩ := g.no p
        dsimp only
        rw [z1, z2]
        cases z3 with
        | ins t =>
          dsimp only
          split
          · exact (y.run _ _ _ _ _ g a).bindS a fun r1 s1 h1 v v' e1 g1 q1 => (x.run _ _ _ _ _ g1 (.cons (.ref (e1.pre p)) q1)).dropV (a.mono e1)
          · trivial
        | _ => trivial
      | _ => trivial⟩
instance {i j : Nat} [y : LA aa] : LS (sPar i j aa) := ⟨fun r s h σ σ' g a => (y.run r s h σ σ' g a).bindS a fun r1 s1 h1 v v' e1 g1 q1 => by
  cases q1 with
  | nil => trivial
  | cons p t => cases t with
    | nil => trivial
    | cons q t => cases t with
      | cons _ _ => trivial
      | nil => exact .nx g1 (((a.mono e1).set p i).set q j)⟩
instance {i j l : Nat} [y : LA aa] : LS (sPar3 i j l aa) := ⟨fun r s h σ σ' g a => (y.run r s h σ σ' g a).bindS a fun r1 s1 h1 v v' e1 g1 q1 => by
  cases q1 with
  | nil => trivial
  | cons p t => cases t with
    | nil => trivial
    | cons q t => cases t with
      | nil => trivial
      | cons u t => cases t with
        | cons _ _ => trivial
        | nil => exact .nx g1 ((((a.mono e1).set p i).set q j).set u l)⟩
end
end ML
end
section
set_option maxHeartbeats 400000
namespace ML
open PySem L2
section
variable {ma mb mc : ME} {ta tb : MT} {aa ab : MA} {sa sb : MS} {ga : MG}
instance {T : IsT} [x : LE ma] : LE (eIsi T ma) := ⟨fun r s h σ σ' g a => (x.run r s h σ σ' g a).bind fun r1 s1 h1 v v' e1 g1 q1 => by
  have same : isT T v' h1 = isT T v s1 := by
    unfold isT
    cases q1 with
    | ref i =>
      obtain ⟨o, o', z1, z2, z3⟩ := g1.no i
      dsimp only
      rw [z1, z2]
      cases z3 <;> rfl
    | _ => rfl
  rw [same]
  cases isT T v s1 with
  | none => trivial
  | some b => exact .ok g1 (.bl b)⟩
instance {tbl : S → Option VI} [c : CTs tbl] [x : LE ma] : LE (eKd tbl ma) := ⟨fun r s h σ σ' g a => (x.run r s h σ σ' g a).bind fun r1 s1 h1 v v' e1 g1 q1 => by
  cases q1 with
  | str y =>
    dsimp only
    cases z : tbl y with
    | none => trivial
    | some w => exact .ok g1 (c.run _ _ z _)
  | _ => trivial⟩
instance [x : LE ma] [y : LE mb] : LE (eTupRg ma mb) := ⟨fun r s h σ σ' g a => (x.run r s h σ σ' g a).bind fun r1 s1 h1 v v' e1 g1 q1 => (y.run _ _ _ _ _ g1 (a.mono e1)).bind fun r2 s2 h2 w w' e2 g2 q2 => by
  cases q1 with
  | int i => cases q2 with
    | int j =>
      dsimp only
      split
      · exact .ok g2 (.tup (rgI2 _ _))
      · trivial
    | _ => trivial
  | _ => trivial⟩
instance [x : LE ma] [y : LE mb] : LE (eLstRg ma mb) := ⟨fun r s h σ σ' g a => (x.run r s h σ σ' g a).bind fun r1 s1 h1 v v' e1 g1 q1 => (y.run _ _ _ _ _ g1 (a.mono e1)).bind fun r2 s2 h2 w w' e2 g2 q2 => by
  cases q1 with
  | int i => cases q2 with
    | int j =>
      dsimp only
      split
      · exact .new g2 fun r' e => .lst (rgI2 _ _)
      · trivial
    | _ => trivial
  | _ => trivial⟩
instance [y : LE mb] : LE (eTupRg1 mb) := ⟨fun r s h σ σ' g a => (y.run r s h σ σ' g a).bind fun r2 s2 h2 w w' e2 g2 q2 => by
  cases q2 with
  | int j =>
    dsimp only
    split
    · exact .ok g2 (.tup (rgI2 _ _))
    · trivial
  | _ => trivial⟩
instance [y : LE mb] : LE (eLstRg1 mb) := ⟨fun r s h σ σ' g a => (y.run r s h σ σ' g a).bind fun r2 s2 h2 w w' e2 g2 q2 => by
  cases q2 with
  | int j =>
    dsimp only
    split
    · exact .new g2 fun r' e => .lst (rgI2 _ _)
    · trivial
  | _ => trivial⟩
instance {lo hi : MO} [x : LE ma] [y : LO lo] [z : LO hi] : LE (eSl ma lo hi) := ⟨fun r s h σ σ' g a => (x.run r s h σ σ' g a).bind fun r1 s1 h1 v v' e1 g1 q1 => (y.run _ _ _ _ _ g1 (a.mono e1)).bind fun r2 s2 h2 w w' e2 g2 q2 => (z.run _ _ _ _ _ g2 ((a.mono e1).mono e2)).bind fun r3 s3 h3 u u' e3 g3 q3 => by
  subst q2 q3
  have p := (q1.mono e2).mono e3
  refine .ofO ?_
  unfold sliceM
  cases p with
  | tup t => exact .ok g3 (.tup (cutI2 t _ _))
  | ref i =>
    obtain ⟨o, o', z1, z2, z3⟩ := g3.no i
    dsimp only
    rw [z1, z2]
    cases z3 with
    | lst t => exact .new g3 fun r' e => .lst ((cutI2 t _ _).mono e)
    | scr t => exact .new g3 fun r' e => .lst ((cutI2 t _ _).mono e)
    | _ => trivial
  | _ => trivial⟩
instance [x : LE ma] [y : LE mb] [z : LE mc] : LE (eGet2 ma mb mc) := ⟨fun r s h σ σ' g a => (x.run r s h σ σ' g a).bind fun r1 s1 h1 v v' e1 g1 q1 => by
  cases q1 with
  | ref p =>
    obtain ⟨o, o', z1, z2, z3⟩ := g1.no p
    dsimp only
    rw [z1, z2]
    cases z3 with
    | dic t =>
      dsimp only
      exact (y.run _ _ _ _ _ g1 (a.mono e1)).bind fun r2 s2 h2 w w' e2 g2 q2 => (z.run _ _ _ _ _ g2 ((a.mono e1).mono e2)).bind fun r3 s3 h3 u u' e3 g3 q3 => by
        obtain ⟨o, o', k1, k2, k3⟩ := g3.no (e3.pre (e2.pre p))
        rw [k1, k2, isKey2 q2]
        cases k3 with
        | @dic xs ys t =>
          cases isKey w with
          | false => trivial
          | true =>
            dsimp only
            have k := getD2 (q2.mono e3) t
            cases w1 : getD w xs with
            | none => cases w2 : getD w' ys with
              | none => exact .ok g3 q3
              | some _ => rw [w1, w2] at k; exact k.elim
            | some _ => cases w2 : getD w' ys with
              | none => rw [w1, w2] at k; exact k.elim
              | some _ => rw [w1, w2] at k; exact .ok g3 k
        | _ => cases isKey w <;> trivial
    | _ => trivial
  | _ => trivial⟩
instance : LE eDisp0 := ⟨fun r s h σ σ' g a => .new g fun r' e => .dic .nil⟩
end
end ML
end
section
set_option maxHeartbeats 400000
namespace ML
open PySem L2
inductive RI2 (r : List Nat) : Itm → Itm → Prop
  | tup {xs ys : List VI} (t : RVs2 r xs ys) : RI2 r (.tup xs) (.tup ys)
  | lst {n m : Nat} (p : r[n]? = some m) : RI2 r (.lst n) (.lst m)
  | rng (lo : Int) (k : Nat) : RI2 r (.rng lo k) (.rng lo k)
  | enl {n m : Nat} (p : r[n]? = some m) : RI2 r (.enl n) (.enl m)
  | zip {n m n' m' : Nat} (p : r[n]? = some m) (q : r[n']? = some m') : RI2 r (.zip n n') (.zip m m')
  | zlt {n m : Nat} {xs ys : List VI} (p : r[n]? = some m) (t : RVs2 r xs ys) : RI2 r (.zlt n xs) (.zlt m ys)
class LI (m : MI) : Prop where
  run : ∀ r s h σ σ', Ag2 r s h → AS2 r σ σ' → L2R RI2 r h (m σ s) (m σ' h)
section
variable {r r' : List Nat} {h h' s : Hi}
theorem RI2.mono (e : Ex2 r h r' h') {a b : Itm} (k : RI2 r a b) : RI2 r' a b := by
  cases k with
  | tup t => exact .tup (t.mono e)
  | lst p => exact .lst (e.pre p)
  | rng a b => exact .rng a b
  | enl p => exact .enl (e.pre p)
  | zip p q => exact .zip (e.pre p) (e.pre q)
  | zlt p t => exact .zlt (e.pre p) (t.mono e)
def ROs2 (r : List Nat) : Option (List VI) → Option (List VI) → Prop
  | some a, some b => RVs2 r a b
  | none, none => True
  | _, _ => False
theorem listAt2 (g : Ag2 r s h) {n m : Nat} (p : r[n]? = some m) : ROs2 r (listAt n s) (listAt m h) := by
  obtain ⟨o, o', z1, z2, z3⟩ := g.no p
  unfold listAt
  rw [z1, z2]
  cases z3 with
  | lst t => exact t
  | scr t => exact t
  | _ => trivial
theorem gt2 {xs ys : List VI} (i : Nat) (t : RVs2 r xs ys) : ROp2 r xs[i]? ys[i]? := by
  cases z : xs[i]? with
  | none => rw [t.none z]; trivial
  | some v => obtain ⟨w, h1, h2⟩ := t.get z; rw [h1]; exact h2
def ROO2 (r : List Nat) : Option (Option VI) → Option (Option VI) → Prop
  | some a, some b => ROp2 r a b
  | none, none => True
  | _, _ => False
theorem nxt2 (g : Ag2 r s h) {a b : Itm} (k : RI2 r a b) (i : Nat) : ROO2 r (a.nxt i s) (b.nxt i h) := by
  cases k with
  | tup t => exact gt2 i t
  | @lst n m p =>
    have k := listAt2 g p
    show ROO2 r (match (generalizing := false) listAt n s with | some xs => some xs[i]? | none => none) (match (generalizing := false) listAt m h with | some xs => some xs[i]? | none => none)
    cases z1 : listAt n s with
    | none => cases z2 : listAt m h with
      | none => trivial
      | some _ => rw [z1, z2] at k; exact k.elim
    | some xs => cases z2 : listAt m h with
      | none => rw [z1, z2] at k; exact k.elim
      | some ys => rw [z1, z2] at k; exact gt2 i k
  | rng lo k =>
    unfold Itm.nxt
    dsimp only
    cases Nat.blt i k with
    | true => exact RV2.int (r := r) (lo + (i : Nat))
    | false => trivial
  | @enl n m p =>
    have k := listAt2 g p
    unfold Itm.nxt
    dsimp only
    cases z1 : listAt n s with
    | none => cases z2 : listAt m h with
      | none => trivial
      | some _ => rw [z1, z2] at k; exact k.elim
    | some xs => cases z2 : listAt m h with
      | none => rw [z1, z2] at k; exact k.elim
      | some ys =>
        rw [z1, z2] at k
        have j := gt2 i k
        dsimp only
        cases y1 : xs[i]? with
        | none => cases y2 : ys[i]? with
          | none => trivial
          | some _ => rw [y1, y2] at j; exact j.elim
        | some v => cases y2 : ys[i]? with
          | none => rw [y1, y2] at j; exact j.elim
          | some w => rw [y1, y2] at j; exact RV2.tup (r := r) (.cons (.int _) (.cons j .nil))
  | @zip n m n' m' p q =>
    have k := listAt2 g p
    have k' := listAt2 g q
    unfold Itm.nxt
    dsimp only
    cases z1 : listAt n s with
    | none => cases z2 : listAt m h with
      | none => trivial
      | some _ => rw [z1, z2] at k; exact k.elim
    | some xs => cases z2 : listAt m h with
      | none => rw [z1, z2] at k; exact k.elim
      | some ys =>
        rw [z1, z2] at k
        cases u1 : listAt n' s with
        | none => cases u2 : listAt m' h with
          | none => trivial
          | some _ => rw [u1, u2] at k'; exact k'.elim
        | some xs' => cases u2 : listAt m' h with
          | none => rw [u1, u2] at k'; exact k'.elim
          | some ys' =>
            rw [u1, u2] at k'
            have j := gt2 i k
            have j' := gt2 i k'
            dsimp only
            cases y1 : xs[i]? with
            | none => cases y2 : ys[i]? with
              | none => trivial
              | some _ => rw [y1, y2] at j; exact j.elim
            | some v => cases y2 : ys[i]? with
              | none => rw [y1, y2] at j; exact j.elim
              | some w =>
                rw [y1, y2] at j
                cases x1 : xs'[i]? with
                | none => cases x2 : ys'[i]? with
                  | none => trivial
                  | some _ => rw [x1, x2] at j'; exact j'.elim
                | some v => cases x2 : ys'[i]? with
                  | none => rw [x1, x2] at j'; exact j'.elim
                  | some w =>
                    rw [x1, x2] at j'
                    exact RV2.tup (r := r) (.cons j (.cons j' .nil))
  | @zlt n m xs' ys' p t =>
    have k := listAt2 g p
    unfold Itm.nxt
    dsimp only
    cases z1 : listAt n s with
    | none => cases z2 : listAt m h with
      | none => trivial
      | some _ => rw [z1, z2] at k; exact k.elim
    | some xs => cases z2 : listAt m h with
      | none => rw [z1, z2] at k; exact k.elim
      | some ys =>
        rw [z1, z2] at k
        have k : RVs2 r xs ys := k
        have j := gt2 i k
        have j' := gt2 i t
        dsimp only
        rw [k.length, t.length]
        cases (Nat.ble i ys.length && Nat.ble i ys'.length) with
        | false => trivial
        | true =>
          dsimp only
          cases y1 : xs[i]? with
          | none => cases y2 : ys[i]? with
            | none => trivial
            | some _ => rw [y1, y2] at j; exact j.elim
          | some v => cases y2 : ys[i]? with
            | none => rw [y1, y2] at j; exact j.elim
            | some w =>
              rw [y1, y2] at j
              cases x1 : xs'[i]? with
              | none => cases x2 : ys'[i]? with
                | none => trivial
                | some _ => rw [x1, x2] at j'; exact j'.elim
              | some v => cases x2 : ys'[i]? with
                | none => rw [x1, x2] at j'; exact j'.elim
                | some w =>
                  rw [x1, x2] at j'
                  exact RV2.tup (r := r) (.cons j (.cons j' .nil))
theorem fuel2 (g : Ag2 r s h) {a b : Itm} (k : RI2 r a b) : b.fuel h = a.fuel s := by
  have one : ∀ {n m : Nat}, r[n]? = some m → (match (generalizing := false) listAt m h with | some xs => xs.length | none => 0) = (match (generalizing := false) listAt n s with | some xs => xs.length | none => 0) := by
    intro n m p
    have k := listAt2 g p
    cases z1 : listAt n s with
    | none => cases z2 : listAt m h with
      | none => rfl
      | some _ => rw [z1, z2] at k; exact k.elim
    | some xs => cases z2 : listAt m h with
      | none => rw [z1, z2] at k; exact k.elim
      | some ys => rw [z1, z2] at k; exact k.length.symm
  cases k with
  | tup t => exact t.length.symm
  | lst p => exact one p
  | rng a b => rfl
  | enl p => exact one p
  | zip p q => exact one p
  | zlt p t => exact one p
theorem turns2 {ga : MG} {body : MS} [x : LG ga] [y : LS body] : ∀ (k i : Nat) (r : List Nat) (s h : Hi) (σ σ' : Sg) (a b : Itm), Ag2 r s h → AS2 r σ σ' → RI2 r a b → L2S r h (turns a ga body k i σ s) (turns b ga body k i σ' h)
  | 0, i, r, s, h, σ, σ', a, b, g, as, q => by
    have n := nxt2 g q i
    unfold turns
    cases z1 : a.nxt i s with
    | none => trivial
    | some o => cases z2 : b.nxt i h with
      | none => rw [z1, z2] at n; exact n.elim
      | some o' =>
        rw [z1, z2] at n
        cases o with
        | some _ => trivial
        | none => cases o' with
          | some _ => exact n.elim
          | none => exact .nx g as
  | k + 1, i, r, s, h, σ, σ', a, b, g, as, q => by
    have n := nxt2 g q i
    unfold turns
    cases z1 : a.nxt i s with
    | none => trivial
    | some o => cases z2 : b.nxt i h with
      | none => rw [z1, z2] at n; exact n.elim
      | some o' =>
        rw [z1, z2] at n
        cases o with
        | none => cases o' with
          | some _ => exact n.elim
          | none => exact .nx g as
        | some v => cases o' with
          | none => exact n.elim
          | some v' =>
            refine (x.run _ _ _ _ _ _ _ g as n).andThen fun r1 s1 h1 τ τ' e1 g1 a1 => ?_
            have t := y.run _ _ _ _ _ g1 a1
            cases w : body τ s1 with
            | err => trivial
            | nx σ2 s2 =>
              rw [w] at t
              obtain ⟨r2, h2, σ2', k1, k2, k3, k4⟩ := t
              rw [k1]
              exact (turns2 k (i + 1) _ _ _ _ _ _ _ k3 k4 ((q.mono e1).mono k2)).ext k2
            | ct σ2 s2 =>
              rw [w] at t
              obtain ⟨r2, h2, σ2', k1, k2, k3, k4⟩ := t
              rw [k1]
              exact (turns2 k (i + 1) _ _ _ _ _ _ _ k3 k4 ((q.mono e1).mono k2)).ext k2
            | bk σ2 s2 => rw [w] at t; obtain ⟨r2, h2, σ2', k1, k2⟩ := t; rw [k1]; exact ⟨r2, h2, σ2', rfl, k2⟩
            | rt σ2 s2 => rw [w] at t; obtain ⟨r2, h2, σ2', k1, k2⟩ := t; rw [k1]; exact ⟨r2, h2, σ2', rfl, k2⟩
            | ex c n σ2 s2 => rw [w] at t; obtain ⟨r2, h2, σ2', m, k1, k2⟩ := t; rw [k1]; exact ⟨r2, h2, σ2', m, rfl, k2⟩
instance {mi : MI} {ga : MG} {body : MS} [z : LI mi] [x : LG ga] [y : LS body] : LS (sFor mi ga body) := ⟨fun r s h σ σ' g a => (z.run r s h σ σ' g a).bindS a fun r1 s1 h1 v v' e1 g1 q1 => by
  rw [fuel2 g1 q1]
  exact turns2 _ _ _ _ _ _ _ _ _ g1 (a.mono e1) q1⟩
instance {ma : ME} [x : LE ma] : LI (iSeq ma) := ⟨fun r s h σ σ' g a => (x.run r s h σ σ' g a).bind fun r1 s1 h1 v v' e1 g1 q1 => by
  unfold seqOf
  cases q1 with
  | tup t => exact .ok g1 (.tup t)
  | @ref n m p =>
    have k := listAt2 g1 p
    dsimp only
    cases z1 : listAt n s1 with
    | none => trivial
    | some xs => cases z2 : listAt m h1 with
      | none => rw [z1, z2] at k; exact k.elim
      | some ys => exact .ok g1 (.lst p)
  | _ => trivial⟩
instance {ma : ME} [x : LE ma] : LI (iEnumM ma) := ⟨fun r s h σ σ' g a => (x.run r s h σ σ' g a).bind fun r1 s1 h1 v v' e1 g1 q1 => by
  unfold enlOf
  cases q1 with
  | @ref n m p =>
    have k := listAt2 g1 p
    dsimp only
    cases z1 : listAt n s1 with
    | none => trivial
    | some xs => cases z2 : listAt m h1 with
      | none => rw [z1, z2] at k; exact k.elim
      | some ys => exact .ok g1 (.enl p)
  | _ => trivial⟩
instance {ma : MA} [x : LA ma] : LI (iRng ma) := ⟨fun r s h σ σ' g a => (x.run r s h σ σ' g a).bind fun r1 s1 h1 v v' e1 g1 q1 => by
  cases q1 with
  | nil => trivial
  | cons p t => cases t with
    | nil => cases p with
      | int i =>
        unfold rngOf
        dsimp only
        split
        · exact .ok g1 (.rng _ _)
        · trivial
      | _ => trivial
    | cons q t => cases t with
      | cons _ _ => cases p <;> cases q <;> trivial
      | nil => cases p with
        | int i => cases q with
          | int j =>
            unfold rngOf
            dsimp only
            split
            · exact .ok g1 (.rng _ _)
            · trivial
          | _ => trivial
        | _ => cases q <;> trivial⟩
theorem putMany2 : ∀ (is : List Nat) {xs ys : List VI} {σ σ' τ : Sg}, RVs2 r xs ys → AS2 r σ σ' → putMany is xs σ = some τ → ∃ τ', putMany is ys σ' = some τ' ∧ AS2 r τ τ'
  | [], _, _, _, _, _, .nil, a, e => by cases e; exact ⟨_, rfl, a⟩
  | _ :: is, _, _, _, _, _, .cons p t, a, e => putMany2 is t (a.set p _) e
  | [], _, _, _, _, _, .cons _ _, _, e => by cases e
  | _ :: _, _, _, _, _, _, .nil, _, e => by cases e
theorem put2 (t : Tgt) {v v' : VI} {σ σ' τ : Sg} (p : RV2 r v v') (a : AS2 r σ σ') (e : t.put v σ = some τ) : ∃ τ', t.put v' σ' = some τ' ∧ AS2 r τ τ' := by
  cases t with
  | one i => cases e; exact ⟨_, rfl, a.set p i⟩
  | many is =>
    cases p with
    | tup t => exact putMany2 is t a e
    | _ => cases e
theorem wipe2 {σ σ' : Sg} (a : AS2 r σ σ') : ∀ l : List Nat, AS2 r (wipeM σ l) (wipeM σ' l)
  | [] => a
  | i :: l => (wipe2 a l).lose i
instance {t : Tgt} : LG (gTgt t) := ⟨fun r s h σ σ' v v' g a p => by
  unfold gTgt
  cases z : t.put v σ with
  | none => trivial
  | some τ => obtain ⟨τ', e1, e2⟩ := put2 t p a z; rw [e1]; exact .nx g e2⟩
theorem turnsC2 {t : Tgt} {vs : List Nat} {tt : MT} {el : ME} [x : LT tt] [y : LE el] : ∀ (k i : Nat) (r : List Nat) (s h s' : Hi) (σ σ' : Sg) (a b : Itm) (D D' : Nat), Ag2 r s h → AS2 r σ σ' → RI2 r a b → r[D]? = some D' →
    turnsC a t vs tt el D σ k i s = some s' → ∃ r' h', turnsC b t vs tt el D' σ' k i h = some h' ∧ Ex2 r h r' h' ∧ Ag2 r' s' h'
  | 0, i, r, s, h, s', σ, σ', a, b, D, D', g, as, q, d, e => by
    have n := nxt2 g q i
    unfold turnsC at e ⊢
    cases z1 : a.nxt i s with
    | none => rw [z1] at e; cases e
    | some o =>
      rw [z1] at e n
      cases o with
      | some _ => cases e
      | none => cases z2 : b.nxt i h with
        | none => rw [z2] at n; exact n.elim
        | some o' => cases o' with
          | some _ => rw [z2] at n; exact n.elim
          | none => cases e; exact ⟨r, h, rfl, .refl, g⟩
  | k + 1, i, r, s, h, s', σ, σ', a, b, D, D', g, as, q, d, e => by
    have n := nxt2 g q i
    unfold turnsC at e ⊢
    cases z1 : a.nxt i s with
    | none => rw [z1] at e; cases e
    | some o =>
      rw [z1] at e n
      cases z2 : b.nxt i h with
      | none => rw [z2] at n; exact n.elim
      | some o' =>
        rw [z2] at n
        cases o with
        | none => cases o' with
          | some _ => exact n.elim
          | none => cases e; exact ⟨r, h, rfl, .refl, g⟩
        | some v => cases o' with
          | none => exact n.elim
          | some v' =>
            dsimp only at e ⊢
            cases z3 : t.put v (wipeM σ vs) with
            | none => rw [z3] at e; cases e
            | some τ =>
              obtain ⟨τ', w1, w2⟩ := put2 t n (wipe2 as vs) z3
              rw [z3] at e
              rw [w1]
              dsimp only at e ⊢
              have tk := x.run _ _ _ _ _ g w2
              cases z4 : tt τ s with
              | err => rw [z4] at e; cases e
              | ex _ _ _ => rw [z4] at e; cases e
              | ok c s2 =>
                rw [z4] at tk e
                obtain ⟨r2, h2, c', k1, k2, k3, k4⟩ := tk
                subst k4
                rw [k1]
                cases c with
                | false =>
                  dsimp only at e ⊢
                  obtain ⟨r3, h3, j1, j2, j3⟩ := turnsC2 k (i + 1) _ _ _ _ _ _ _ _ _ _ k3 (as.mono k2) (q.mono k2) (k2.pre d) e
                  exact ⟨r3, h3, j1, k2.trans j2, j3⟩
                | true =>
                  dsimp only at e ⊢
                  have ek := y.run _ _ _ _ _ k3 (w2.mono k2)
                  cases z5 : el τ s2 with
                  | err => rw [z5] at e; cases e
                  | ex _ _ _ => rw [z5] at e; cases e
                  | ok u s3 =>
                    rw [z5] at ek e
                    obtain ⟨r3, h3, u', m1, m2, m3, m4⟩ := ek
                    rw [m1]
                    dsimp only at e ⊢
                    obtain ⟨o, o', v1, v2, v3⟩ := m3.no (m2.pre (k2.pre d))
                    rw [v1] at e
                    rw [v2]
                    cases v3 with
                    | lst l =>
                      dsimp only at e ⊢
                      rw [l.length] at e
                      cases z6 : small _ with
                      | false => rw [z6] at e; cases e
                      | true =>
                        rw [z6] at e
                        dsimp only at e ⊢
                        obtain ⟨g4, e4⟩ := m3.wr v1 (m2.pre (k2.pre d)) (.lst (l.append (.cons m4 .nil)))
                        obtain ⟨r5, h5, j1, j2, j3⟩ := turnsC2 k (i + 1) _ _ _ _ _ _ _ _ _ _ g4 (((as.mono k2).mono m2).mono e4) (((q.mono k2).mono m2).mono e4) (e4.pre (m2.pre (k2.pre d))) e
                        exact ⟨r5, h5, j1, ((k2.trans m2).trans e4).trans j2, j3⟩
                    | _ => cases e
instance {mi : MI} {t : Tgt} {vs : List Nat} {tt : MT} {el : ME} [z : LI mi] [x : LT tt] [y : LE el] : LE (eLc mi t vs tt el) := ⟨fun r s h σ σ' g a => (z.run r s h σ σ' g a).bind fun r1 s1 h1 v v' e1 g1 q1 => by
  obtain ⟨g2, e2⟩ := g1.new (o := .lst []) (o' := .lst []) (.lst .nil)
  rw [fuel2 g1 q1]
  cases w : turnsC v t vs tt el s1.length σ (v.fuel s1) 0 (s1 ++ [.lst []]) with
  | none => trivial
  | some s2 =>
    obtain ⟨r3, h3, j1, j2, j3⟩ := turnsC2 _ _ _ _ _ _ _ _ _ _ _ _ g2 ((a.mono e1).mono e2) (q1.mono e2) g1.idx w
    rw [j1]
    exact ⟨r3, h3, _, rfl, e2.trans j2, j3, .ref (j2.pre g1.idx)⟩⟩
class LPs (ps : List (ME × ME)) : Prop where
  run : ∀ r s h σ σ', Ag2 r s h → AS2 r σ σ' → L2R RKs2 r h (aPairs ps σ s) (aPairs ps σ' h)
instance : LPs [] := ⟨fun r s h σ σ' g a => .ok g .nil⟩
instance {k v : ME} {ps : List (ME × ME)} [x : LE k] [y : LE v] [z : LPs ps] : LPs ((k, v) :: ps) := ⟨fun r s h σ σ' g a => (x.run r s h σ σ' g a).bind fun r1 s1 h1 u u' e1 g1 q1 => (y.run _ _ _ _ _ g1 (a.mono e1)).bind fun r2 s2 h2 w w' e2 g2 q2 => (z.run _ _ _ _ _ g2 ((a.mono e1).mono e2)).bind fun r3 s3 h3 l l' e3 g3 q3 => .ok g3 (.cons ((q1.mono e2).mono e3) (q2.mono e3) q3)⟩
instance {ps : List (ME × ME)} [z : LPs ps] : LE (eDisp ps) := ⟨fun r s h σ σ' g a => by
  obtain ⟨g2, e2⟩ := g.new (o := .dic []) (o' := .dic []) (.dic .nil)
  refine L2R.ext e2 ((z.run _ _ _ _ _ g2 (a.mono e2)).bind fun r1 s1 h1 u u' e1 g1 q1 => ?_)
  have d := e1.pre g.idx
  obtain ⟨o, o', v1, v2, v3⟩ := g1.no d
  rw [v1, v2]
  cases v3 with
  | dic t =>
    cases t with
    | cons _ _ _ => trivial
    | nil =>
      dsimp only
      rw [keysOk2 q1, q1.length]
      split
      · obtain ⟨g4, e4⟩ := g1.wr v1 d (.dic (putAll2 q1 .nil))
        exact ⟨_, _, _, rfl, e4, g4, .ref d⟩
      · trivial
  | _ => trivial⟩
theorem nodup_inj {r : List Nat} (nd : r.Nodup) {i j m : Nat} (p : r[i]? = some m) (q : r[j]? = some m) : i = j := by
  obtain ⟨l1, e1⟩ := List.getElem?_eq_some_iff.mp p
  obtain ⟨l2, e2⟩ := List.getElem?_eq_some_iff.mp q
  have pw := List.pairwise_iff_getElem.mp nd
  rcases Nat.lt_trichotomy i j with l | l | l
  · exact absurd (e1.trans e2.symm) (pw i j l1 l2 l)
  · exact l
  · exact absurd (e2.trans e1.symm) (pw j i l2 l1 l)
theorem beq2 (g : Ag2 r s h) {i j m n : Nat} (p : r[i]? = some m) (q : r[j]? = some n) : Nat.beq m n = Nat.beq i j := by
  by_cases e : i = j
  · subst e
    rw [p] at q
    cases q
    rw [Nat.beq_refl, Nat.beq_refl]
  · have e' : m ≠ n := fun z => e (nodup_inj g.nd p (z ▸ q))
    have f1 : Nat.beq i j = false := by
      cases z : Nat.beq i j with
      | false => rfl
      | true => exact absurd (Nat.eq_of_beq_eq_true z) e
    have f2 : Nat.beq m n = false := by
      cases z : Nat.beq m n with
      | false => rfl
      | true => exact absurd (Nat.eq_of_beq_eq_true z) e'
    rw [f1, f2]
instance {e k v : ME} [x : LE e] [y : LE k] [z : LE v] : LE (eMrg e k v) := ⟨fun r s h σ σ' g a => by
  obtain ⟨g2, e2⟩ := g.new (o := .dic []) (o' := .dic []) (.dic .nil)
  refine L2R.ext e2 ((x.run _ _ _ _ _ g2 (a.mono e2)).bind fun r1 s1 h1 u u' e1 g1 q1 => ?_)
  have d := e1.pre g.idx
  obtain ⟨o, o', v1, v2, v3⟩ := g1.no d
  cases q1 with
  | @ref i j p =>
    dsimp only
    rw [beq2 g1 p d]
    obtain ⟨w, w', u1, u2, u3⟩ := g1.no p
    rw [v1, v2, u1, u2]
    cases Nat.beq i s.length with
    | true => trivial
    | false =>
      cases v3 with
      | dic t =>
        cases t with
        | cons _ _ _ => trivial
        | nil =>
          cases u3 with
          | dic t2 =>
            dsimp only
            rw [t2.length]
            cases small _ with
            | false => trivial
            | true =>
              dsimp only
              obtain ⟨g4, e4⟩ := g1.wr v1 d (.dic (putAll2 t2 .nil))
              obtain ⟨g5, e5⟩ := g4.new (o := .dic []) (o' := .dic []) (.dic .nil)
              have e45 := e4.trans e5
              refine L2R.ext e45 ?_
              have idx := g4.idx
              have D5 := e45.pre d
              unfold mrgTail
              have l1 : ∀ o : OI, (List.set s1 s.length o).length = s1.length := fun o => List.length_set
              have l2 : ∀ o : OI, (List.set h1 h.length o).length = h1.length := fun o => List.length_set
              refine (y.run _ _ _ _ _ g5 (((a.mono e2).mono e1).mono e45)).bind fun r6 s6 h6 ky ky' e6 g6 q6 => (z.run _ _ _ _ _ g6 ((((a.mono e2).mono e1).mono e45).mono e6)).bind fun r7 s7 h7 vz vz' e7 g7 q7 => ?_
              have D7 := e7.pre (e6.pre D5)
              have C7 := e7.pre (e6.pre idx)
              obtain ⟨o1, o1', a1, a2, a3⟩ := g7.no D7
              rw [l1, l2] at C7
              obtain ⟨o2, o2', b1, b2, b3⟩ := g7.no C7
              rw [isKey2 q6, a1, a2, b1, b2]
              cases isKey ky with
              | false => trivial
              | true =>
                cases a3 with
                | dic ta =>
                  cases b3 with
                  | dic tb =>
                    cases tb with
                    | cons _ _ _ => trivial
                    | nil =>
                      dsimp only
                      rw [ta.length]
                      cases small _ with
                      | false => trivial
                      | true =>
                        obtain ⟨g8, e8⟩ := g7.wr b1 C7 (.dic (.cons (q6.mono e7) q7 .nil))
                        have nb : ∃ o, (s7.set s1.length (OI.dic [(ky, vz)]))[s.length]? = some o := by
                          have : s.length < s7.length := (List.getElem?_eq_some_iff.mp a1).1
                          exact ⟨_, List.getElem?_eq_getElem (by simpa using this)⟩
                        obtain ⟨o9, n9⟩ := nb
                        obtain ⟨g9, e9⟩ := g8.wr n9 (e8.pre D7) (.dic (((putD2 (q6.mono e7) q7 ta))))
                        exact ⟨_, _, _, rfl, e8.trans e9, g9, .ref D7⟩
                  | _ => trivial
                | _ => trivial
          | _ => trivial
      | _ => trivial
  | _ => trivial⟩
theorem keysAre2 : ∀ (ks : List S) {xs ys : List (VI × VI)}, RKs2 r xs ys → keysAre ks ys = keysAre ks xs
  | [], _, _, .nil => rfl
  | [], _, _, .cons p _ t => by cases p <;> rfl
  | _ :: _, _, _, .nil => rfl
  | k :: ks, _, _, .cons p _ t => by
    cases p with
    | str s => unfold keysAre; rw [keysAre2 ks t]
    | _ => rfl
instance {ks : List S} {gk : MK} {e : ME} [x : LE e] [y : LK gk] : LE (eKwD ks gk e) := ⟨fun r s h σ σ' g a => by
  obtain ⟨g2, e2⟩ := g.new (o := .dic []) (o' := .dic []) (.dic .nil)
  refine L2R.ext e2 ((x.run _ _ _ _ _ g2 (a.mono e2)).bind fun r1 s1 h1 u u' e1 g1 q1 => ?_)
  have d := e1.pre g.idx
  obtain ⟨o, o', v1, v2, v3⟩ := g1.no d
  cases q1 with
  | @ref i j p =>
    dsimp only
    rw [beq2 g1 p d]
    obtain ⟨w, w', u1, u2, u3⟩ := g1.no p
    rw [v1, v2, u1, u2]
    cases Nat.beq i s.length with
    | true => trivial
    | false =>
      cases v3 with
      | dic t =>
        cases t with
        | cons _ _ _ => trivial
        | nil =>
          cases u3 with
          | dic t2 =>
            dsimp only
            rw [keysAre2 ks t2]
            split
            · obtain ⟨g4, e4⟩ := g1.wr v1 d (.dic (putAll2 t2 .nil))
              exact L2R.ext e4 (y.run _ _ _ _ _ _ _ g4 .nil ((vals2 t2).mono e4))
            · trivial
          | _ => trivial
      | _ => trivial
  | _ => trivial⟩
class LGs (gs : List MG) : Prop where
  run : ∀ r s h σ σ' vs vs', Ag2 r s h → AS2 r σ σ' → RVs2 r vs vs' → L2S r h (gSeq gs vs σ s) (gSeq gs vs' σ' h)
instance : LGs [] := ⟨fun r s h σ σ' vs vs' g a t => by
  cases t with
  | nil => exact .nx g a
  | cons _ _ => trivial⟩
instance {x : MG} {gs : List MG} [p : LG x] [q : LGs gs] : LGs (x :: gs) := ⟨fun r s h σ σ' vs vs' g a t => by
  cases t with
  | nil => trivial
  | cons u t => exact (p.run _ _ _ _ _ _ _ g a u).andThen fun r1 s1 h1 τ τ' e1 g1 a1 => q.run _ _ _ _ _ _ _ g1 a1 (t.mono e1)⟩
instance {gs : List MG} [q : LGs gs] : LG (gTupM gs) := ⟨fun r s h σ σ' v v' g a p => by
  unfold gTupM
  cases p with
  | tup t =>
    dsimp only
    rw [t.length]
    split
    · exact q.run _ _ _ _ _ _ _ g a t
    · trivial
  | _ => trivial⟩
instance {i : Nat} {f : Op2} {e : ME} [x : LOp f] [y : LE e] : LS (sAug i f e) := ⟨fun r s h σ σ' g a => by
  unfold sAug
  cases z : σ[i]? with
  | none => trivial
  | some o =>
    cases o with
    | none => trivial
    | some v =>
      obtain ⟨w, k1, k2⟩ := a.at_ i v z
      rw [k1]
      refine (y.run _ _ _ _ _ g a).bindS a fun r1 s1 h1 u u' e1 g1 q1 => ?_
      have t := x.run _ _ _ _ _ _ _ g1 (k2.mono e1) q1
      cases z2 : f v u s1 with
      | none => trivial
      | some p =>
        rw [z2] at t
        obtain ⟨r2, h2, v', m1, m2, m3, m4⟩ := t
        rw [m1]
        exact ⟨r2, h2, _, rfl, m2, m3, ((a.mono e1).mono m2).set m4 i⟩⟩
theorem endB2 {a a' : RS} (k : L2S r h a a') : L2R RV2 r h (endB a) (endB a') := by
  cases a with
  | err => trivial
  | bk _ _ => trivial
  | ct _ _ => trivial
  | nx σ s => obtain ⟨r2, h2, m, rfl, e, g, _⟩ := k; exact ⟨r2, h2, _, rfl, e, g, .non⟩
  | rt v s => obtain ⟨r2, h2, m, rfl, e, g, q⟩ := k; exact ⟨r2, h2, _, rfl, e, g, q⟩
  | ex c n σ s => obtain ⟨r2, h2, m, m2, rfl, e, g, _, q⟩ := k; exact ⟨r2, h2, _, rfl, e, g, q⟩
theorem slots2 (n : Nat) : ∀ {vs vs' : List VI}, RVs2 r vs vs' → AS2 r (vs.map some ++ List.replicate n none) (vs'.map some ++ List.replicate n none) := by
  intro vs vs' t
  refine ⟨by simp [t.length], fun i v e => ?_⟩
  by_cases hi : i < vs.length
  · rw [List.getElem?_append_left (by simpa using hi), List.getElem?_map] at e
    rw [List.getElem?_append_left (by simpa [← t.length] using hi), List.getElem?_map]
    cases z : vs[i]? with
    | none => rw [z] at e; cases e
    | some u =>
      rw [z] at e
      cases e
      obtain ⟨b, h1, h2⟩ := t.get z
      rw [h1]
      exact ⟨b, rfl, h2⟩
  · rw [List.getElem?_append_right (by simpa using Nat.le_of_not_lt hi), List.getElem?_replicate] at e
    split at e <;> cases e
end
theorem lf_runB {np n : Nat} {b : MS} (x : LS b) : LF (runB np n b) := ⟨fun r s h vs vs' g t => by
  unfold runB
  rw [t.length]
  split
  · exact endB2 (x.run _ _ _ _ _ g (slots2 n t))
  · trivial⟩
end ML
end
section
namespace ML
open PySem L2
theorem ty2 {r : List Nat} {s h : Hi} (g : Ag2 r s h) {x y : VI} (p : RV2 r x y) : tyI y h = tyI x s := by
  cases p with
  | ref i =>
    obtain ⟨o, o', z1, z2, z3⟩ := g.no i
    unfold tyI
    dsimp only
    rw [z1, z2]
    cases z3 <;> rfl
  | _ => rfl
theorem L2R.boolR {r : List Nat} {h : Hi} {a b : Res VI} (k : L2R RV2 r h a b) : L2R RV2 r h (boolR a) (boolR b) := by
  cases a with
  | err => trivial
  | ex c n s' =>
    obtain ⟨r', h', m, rfl, e, g, q⟩ := k
    exact ⟨r', h', m, rfl, e, g, q⟩
  | ok v s' =>
    obtain ⟨r', h', v', rfl, e, g, q⟩ := k
    cases q with
    | bl b => exact ⟨r', h', _, rfl, e, g, .bl b⟩
    | _ => trivial
section
variable {ma mb : ME} {f : Op2}
instance {cs : List Nat} {tbl : Nat → Option MF} [c : LTb tbl] [x : LE ma] [y : LE mb] [o : LOp f] : LE (eCmpU cs tbl f ma mb) := ⟨fun r s h σ σ' g a => (x.run r s h σ σ' g a).bind fun r1 s1 h1 v v' e1 g1 q1 => (y.run _ _ _ _ _ g1 (a.mono e1)).bind fun r2 s2 h2 w w' e2 g2 q2 => by
  rw [ins2 g2 (q1.mono e2), ty2 g2 q2]
  cases z : insC v s2 with
  | none => exact .ofO (o.run _ _ _ _ _ _ _ g2 (q1.mono e2) q2)
  | some d =>
    dsimp only
    cases w0 : tbl d with
    | none => trivial
    | some u =>
      cases w1 : nfI cs (tyI w s2) with
      | false => trivial
      | true => exact ((c.run _ _ w0).run _ _ _ _ _ g2 (.cons (q1.mono e2) (.cons q2 .nil))).boolR⟩
end
end ML
end
section
namespace ML
open PySem L2
section
variable {r : List Nat} {s h : Hi}
theorem flK2 : ∀ {ka kb : List (VI × VI)}, RKs2 r ka kb → flK kb = flK ka
  | _, _, .nil => rfl
  | _, _, .cons _ a t => by simp only [flK, flI2 a, flK2 t]
theorem allK2 {la lb : List (VI × VI)} (q : RKs2 r la lb) (fl : flK la = true) : ∀ {ka kb : List (VI × VI)}, RKs2 r ka kb → flK ka = true → allK lb kb = allK la ka
  | _, _, .nil, _ => rfl
  | _, _, .cons (a := a) (b := b) k p t, f => by
    unfold flK at f
    obtain ⟨f1, f2⟩ := Bool.and_eq_true_iff.mp f
    have g := getD2 k q
    simp only [allK]
    cases z : getD a la with
    | none =>
      rw [z] at g
      cases z2 : getD b lb with
      | none => rfl
      | some w => rw [z2] at g; exact g.elim
    | some u =>
      rw [z] at g
      cases z2 : getD b lb with
      | none => rw [z2] at g; exact g.elim
      | some w =>
        rw [z2] at g
        dsimp only
        rw [eqI2 p g, allK2 q fl t f2]
instance : LOp fEqX := ⟨fun r s h x y x' y' g p q => by
  have old := LOp.run (f := fEq) r s h x y x' y' g p q
  unfold fEqX
  cases p with
  | ref i =>
    cases q with
    | ref j =>
      obtain ⟨o, o', z1, z2, z3⟩ := g.no i
      obtain ⟨u, u', y1, y2, y3⟩ := g.no j
      dsimp only
      rw [z1, z2, y1, y2]
      cases z3 with
      | dic t =>
        cases y3 with
        | dic t' =>
          dsimp only
          rw [flK2 t, flK2 t']
          rename_i ka kb la lb
          cases f : flK ka && flK la with
          | false => trivial
          | true =>
            obtain ⟨f1, f2⟩ := Bool.and_eq_true_iff.mp f
            dsimp only
            rw [← t.length, ← t'.length, allK2 t' f2 t f1]
            exact .ok g (.bl _)
        | _ => exact old
      | _ => exact old
    | _ => exact old
  | _ => exact old⟩
end
end ML
end
section
namespace ML
open PySem PySem.Spec PyProof.Rows L2 He
def okI : VI → Bool
  | .non => true
  | .bl _ => true
  | .int _ => true
  | .str s => PyData.strOk (toStr s)
  | _ => false
def alO : List VI → Bool
  | [] => true
  | y :: r => match okI y with
    | true => alO r
    | false => false
def ixF (y : VI) : List VI → Nat → Option Nat
  | [], _ => none
  | x :: r, j => match eqI x y with
    | true => some j
    | false => ixF y r (j + 1)
def mIndex : OpM := fun x vs h => match x with
  | .ref n => match h[n]? with
    | some (.lst xs) => match vs with
      | [y] => match okI y && alO xs with
        | true => match ixF y xs 0 with
          | some j => some (.int (j : Nat), h)
          | none => none
        | false => none
      | _ => none
    | _ => none
  | _ => none
section
variable {G : Gx} {ρ : List Addr} {h : Hi} {H : Hp} {X : Cx}
end
section
variable {r : List Nat}
theorem okI2 {a b : VI} (p : RV2 r a b) : okI b = okI a := by cases p <;> rfl
theorem alO2 : ∀ {xs ys : List VI}, RVs2 r xs ys → alO ys = alO xs
  | _, _, .nil => rfl
  | _, _, .cons q t => by unfold alO; rw [okI2 q, alO2 t]
theorem ixF2 {a b : VI} (p : RV2 r a b) : ∀ {xs ys : List VI} (k : Nat), RVs2 r xs ys → ixF b ys k = ixF a xs k
  | _, _, _, .nil => rfl
  | _, _, _, .cons q t => by unfold ixF; rw [eqI2 q p, ixF2 p _ t]
end
instance : LOm mIndex := ⟨fun r s h x x' vs vs' g p t => by
  unfold mIndex
  cases p with
  | ref i =>
    obtain ⟨o, o', e1, e2, e3⟩ := g.no i
    dsimp only
    rw [e1, e2]
    cases e3 with
    | lst l =>
      cases t with
      | nil => trivial
      | cons q t =>
        cases t with
        | cons _ _ => trivial
        | nil =>
          dsimp only
          rw [okI2 q, alO2 l, ixF2 q 0 l]
          split
          · split
            · exact .ok g (.int _)
            · trivial
          · trivial
    | _ => trivial
  | _ => trivial⟩
end ML
end
section
namespace PySem.W
open PySem PyProof.Rows
section
variable {prog : Program} {w : World} {A A₀ : Around} {E : Value → Shared → Prop} {s : Shared} {K : Frag} {x C L f : Addr} {h₀ : Heap} {m : Str → Option Value} {ox : Obj} {od : Option Obj} {name : Str} {b tb : Value}
end
end PySem.W
namespace ML
open PySem PySem.Spec PyProof.Rows L2 He
def negR : Res VI → Res VI
  | .ok (.bl b) h => .ok (.bl (!b)) h
  | .ex c n h => .ex c n h
  | _ => .err
def eNeU (cs : List Nat) (tbl : Nat → Option MF) (f : Op2) (a b : ME) : ME := fun σ h => (a σ h).bind fun x h1 => (b σ h1).bind fun y h2 => match insC x h2 with
  | some c => match tbl c, nfI cs (tyI y h2) with
    | some g, true => negR (g [x, y] h2)
    | _, _ => .err
  | none => ofO (f x y h2)
section
variable {G : Gx} {ρ : List Addr} {h : Hi} {H : Hp} {W : WX} {X : Cx} {A : Around} {e a b c o i v : Expr} {es : List Expr} {pos p pos' apos : Pos} {me mi mo ma mb mv : ME} {mr : MA} {tbl : Nat → Option MF} {σ : L2.St} {cs : List Nat} {f : Op2}
end
section
variable {w : World} {K : PySem.W.Frag} {mg : Str → Option Value} {nm : Nat → Option Str}
end
end ML
end
section
namespace ML
open PySem PySem.Spec PyProof.Rows L2 He
structure StatOk (K : PySem.W.Frag) (C : Addr) (m : Str) (p f : Addr) : Prop where
  rd : PySem.W.readsIn K C (.type "type") = true
  ga : PySem.W.specialIn K (.ref C) "__getattribute__" = some (some (.builtin "type.__getattribute__"))
  at_ : PySem.W.findCls K (.ref C) (.type "type") m = some (.get (.builtin "staticmethod.__get__") (.ref p) .none (.ref C))
  rc : ∃ rest, PySem.W.recIn K p "staticmethod" = some (.ref f :: rest)
section
variable {G : Gx} {W : WX} {X : Cx} {e : Expr} {es : List Expr} {ma : MA} {x m : Str} {C p f : Addr} {g : MF} {p0 apos pos : Pos} {pl : Sem Bool}
end
end ML
end
section
namespace PySem.W
open PySem PyProof.Rows
section
variable {prog : Program} {w : World} {A : Around} {E : Value → Shared → Prop} {s : Shared} {K : Frag} {x C f : Addr} {ox : Obj} {od : Option Obj} {name : Str}
end
end PySem.W
namespace ML
open PySem PySem.Spec PyProof.Rows L2 He
def lenR : Res VI → Res VI
  | .ok (.int n) h => match decide (0 ≤ n) && decide (n < 2 ^ 62) with
    | true => .ok (.int n) h
    | false => .err
  | .ex c n h => .ex c n h
  | _ => .err
def eLenU (tbl : Nat → Option MF) (a : ME) : ME := fun σ h => (a σ h).bind fun x h1 => match insC x h1 with
  | some c => match tbl c with
    | some g => lenR (g [x] h1)
    | none => .err
  | none => ofO (cLen [x] h1)
section
variable {G : Gx} {ρ : List Addr} {h : Hi} {H : Hp} {W : WX} {X : Cx} {a : Expr} {pos p : Pos} {ma : ME} {tbl : Nat → Option MF} {σ : L2.St}
end
end ML
end
section
namespace ML
open PySem PyProof.Rows
section
variable {prog : Program} {w : World} {A : Around} {E : Value → Shared → Prop} {s : Shared}
end
end ML
namespace ML
open PySem PyProof.Rows
section
variable {prog : Program} {w : World} {A : Around} {E : Value → Shared → Prop} {s : Shared}
end
end ML
namespace ML
open PySem PySem.Spec PyProof.Rows L2 He
def insI (x : Int) : List Int → List Int
  | [] => [x]
  | y :: r => match decide (x ≤ y) with
    | true => x :: y :: r
    | false => y :: insI x r
def srtI : List Int → List Int
  | [] => []
  | x :: r => insI x (srtI r)
def intsI : List VI → Option (List Int)
  | [] => some []
  | .int i :: r => match intsI r with
    | some l => some (i :: l)
    | none => none
  | _ :: _ => none
def cSortK : OpC := fun vs h => match vs with
  | [.tup xs] => match intsI xs with
    | some l => some (.ref h.length, h ++ [.lst ((srtI l).map .int)])
    | none => none
  | [.ref n] => match h[n]? with
    | some (.lst xs) => match intsI xs with
      | some l => some (.ref h.length, h ++ [.lst ((srtI l).map .int)])
      | none => none
    | some (.scr xs) => match intsI xs with
      | some l => some (.ref h.length, h ++ [.lst ((srtI l).map .int)])
      | none => none
    | _ => none
  | _ => none
section
variable {G : Gx} {ρ : List Addr} {h : Hi} {H : Hp}
end
section
variable {G : Gx} {W : WX} {X : Cx} {e : Expr} {es : List Expr} {mr : MA} {p p2 kp pos : Pos}
end
end ML
end
section
namespace ML
open PySem PyProof.Rows
section
variable {prog : Program} {w : World} {A : Around} {E : Value → Shared → Prop} {s : Shared}
end
section
open PySem.Spec L2 He
variable {G : Gx} {W : WX} {X : Cx} {e : Expr} {es : List Expr} {mr : MA} {p p2 kp pos : Pos}
end
end ML
end
section
namespace ML
open PySem L2 NdefX
open PyProof.Rows hiding wpAt
structure SupX (X : Cx) (C : Addr) : Prop where
  cd : ∃ cd, PySem.W.clsIn X.K C = some cd
  mro : PySem.W.mroIn X.K C (.ref C) = some true
  sup : PySem.W.ks_superIn X.K C C "__init__" = some (some (.builtin "ValueError.__init__"))
  sub : PySem.W.subIn X.K (.ref C) (.type "ValueError") = some true
structure SupD (X : Cx) (f D : Addr) (slf : Str) : Prop where
  fn : X.env.func = some f
  at_ : ∃ (o : Obj) (fd : FuncData) (ar : Arg), X.K.lookup f = some o ∧ o.data = .func fd ∧ (fd.params.posonlyargs ++ fd.params.args).head? = some ar ∧ ar.arg = slf
  code : ∃ (c : Addr) (o : Obj) (vs : Array Value) (file : Str) (tf : Tok), X.env.code = .ref c ∧ X.K.lookup c = some o ∧ o.data = .fields vs ∧ vs[2]? = some (.str file tf) ∧ ((X.prog.main.file : Str) == file) = true
  top : (X.prog.main.scope.names.lookup ("super" : Str)).isSome = false
  any : PySem.W.nsIn X.K cStatics "thirdparty.any" = some none
def tSupX (X : Cx) (j i : Nat) (D : Addr) (ta : TA) : TS := fun Dn σ H => σ[j]? = some (some (.ref D)) ∧ ∃ a, σ[i]? = some (some (.ref a)) ∧ H a = some (exo a D none) ∧ OexC X.K D ∧ SupX X D ∧
  ta σ H fun vs H1 => vs.length ≤ 1000 ∧ H1 a = some (exo a D none) ∧ Dn.nx σ H1
theorem init_bw {X : Cx} {pins : List (Addr × Obj)} {σ : L2.St} {H : Hp} {s : Shared} {A : Around} {E : Value → Shared → Prop} {b a C : Addr} {us : List Value} {Q : Value → Shared → Prop} (T : OexC X.K C) (I : Inv X pins σ H s) (e : H a = some (exo a C none)) (hb : s.heap.get? b = some (PySem.W.kxs_mw "ValueError.__init__" a)) (hl : us.length ≤ sizeLine)
    (h : ∀ s', Inv X pins σ H s' → Q .none s') : wpAny (model X.prog X.w) A (call (.ref b) us) Q E s := by
  obtain ⟨nm, q, N, bs, bm, sn, sub, ab, col, dd, k0, k1, k2, k3, k5, hC, hbm⟩ := T.cls
  obtain ⟨t1, ho⟩ := exo_at I.hok e
  have hC' := I.kIn _ _ hC
  obtain ⟨hh, g, d, tk, os⟩ := s
  have fin : ∀ h', (∀ b o, b ≠ a → hh.get? b = some o → h'.get? b = some o) → h'.get? a = some ({ cls := .ref C, dict := none, data := .fields #[.ref hh.objs.size, .none, .none, .none, .bool false, .none] } : Obj) → Q .none ⟨h', g, d, tk, os⟩ := fun h' k hx => by
    have J := I.write (t' := tk) (x := a) (e := a) (o := exo a C none) (by rw [e]; exact True.intro) (.inl rfl) k ⟨_, hx⟩ (exo_ok hx)
    have eu : upd H a (exo a C none) = H := by
      funext b
      by_cases hb : b = a
      · rw [hb, upd_same, e]
      · rw [upd_ne hb]
    rw [eu] at J
    exact h _ J
  refine wpAny_call (codeAny_of_tree ?_)
  show wpAny _ A.in1 (callAny (.ref b) ⟨us, []⟩) _ _ _
  simp only [callAny]
  refine wpAny_bind (wpAny_load hb ?_)
  simp only [PySem.W.kxs_mw, show (Value.type "method-wrapper" == Value.type "method" || Value.type "method-wrapper" == Value.type "builtin_function_or_method" || Value.type "method-wrapper" == Value.type "method-wrapper") = true by decide, if_true]
  refine PySem.W.KFB.if_so (by decide) ?_
  refine wpAny_bind (PySem.W.check_bound_init F.excBase_ValueError.toExcCallFacts hC' ho rfl ?_)
  refine wpAny_bind (wpAny_pure (wpAny_pure ?_))
  refine ⟨plainId_quiet F.excBase_ValueError.init.plain _, codeAny_builtin F.excBase_ValueError.initEntry ?_⟩
  exact PySem.W.exc_init_tree (cls := .ref C) (t0 := t1) (dv := none) (c2 := .none) (c3 := .none) (b4 := .bool false) ho hl fun h' k hx _ => fin h' k hx
section
variable {X : Cx} {body : List Stmt} {f D : Addr} {slf : Str} {i j : Nat} {e : Expr} {es : List Expr} {ta : TA} {p0 p1 apos cpos spos : Pos}
theorem pst_superX (S : SupD X f D slf) (hks : Gl X "super") (hm : X.mg "super" = none) (hkc : X.env.kindOf "__class__" = some .free) (hNc : X.N[j]? = some "__class__") (hvc : Vis X.env.scope "__class__")
    (hNs : X.N[i]? = some slf) (hvs : Vis X.env.scope slf) (hcs : (slf == ("__classdict__" : Str)) = false) (ha : PA X (e :: es) ta) (hi : interactive X.env = false)
    (hst : starEach (e :: es) X.env = (false, eval e X.env) :: starEach es X.env := by rfl) (hpl : (backTo cpos (starEach es X.env)).any (·.1) = false := by rfl)
    (hsw : swapsWith (.Call (.Attribute (.Call (.Name "super" p0) [] [] p1) "__init__" apos) (e :: es) [] cpos) none spos.line X.env = pure false := by rfl)
    (ht : eval (.Call (.Attribute (.Call (.Name "super" p0) [] [] p1) "__init__" apos) (e :: es) [] cpos) X.env = (do
      let ov ← attributeBase (.Call (.Name "super" p0) [] [] p1) "__init__" X.env (eval (.Call (.Name "super" p0) [] [] p1) X.env)
      standAt apos.atName
      let (f, first) ← holding [ov] (getMethod ov "__init__" (pure false))
      callWith cpos f first (backTo cpos (starEach (e :: es) X.env)) []) := by rfl) :
    PST X body (.Expr (.Call (.Attribute (.Call (.Name "super" p0) [] [] p1) "__init__" apos) (e :: es) [] cpos) spos) (tSupX X j i D ta) := by
  refine ⟨fun pins s σ H Dn I ⟨hD, a, hxs, hH, T, SX, hta⟩ => ?_⟩
  obtain ⟨t1, hoa⟩ := exo_at I.hok hH
  have J : PySem.W.InstAt s.heap a { cls := .ref D, dict := none, data := .fields #[.ref t1, .none, .none, .none, .bool false, .none] } D none := ⟨hoa, rfl, rfl, trivial⟩
  obtain ⟨of, fd, ar, hf1, hf2, hf3, hf4⟩ := S.at_
  obtain ⟨cc, oc, vs, file, tf, hc1, hc2, hc3, hc4, hc5⟩ := S.code
  obtain ⟨cdD, hcD⟩ := SX.cd
  have KX := I.kIn
  refine ks_wpAt_Expr_any (ks_wpAt_MethodCall (args := e :: es) (pl := pure false) ?_ ht) hi hsw
  refine ks_wpAt_super_base hks hkc rfl S.fn (KX _ _ hf1) hf2 hf3 hc1 (KX _ _ hc2) hc3 hc4 hc5 S.top ?_
  refine load_blt I hks hm boot_super (by decide +kernel) ⟨rfl, ?_⟩
  refine load_slot I hNc hD hvc (by decide) fun u ru => ?_
  obtain rfl : u = Value.ref D := ru
  rw [hf4]
  refine load_slot I hNs hxs hvs hcs fun u2 ru2 => ?_
  obtain rfl : u2 = Value.ref a := ru2
  obtain ⟨hD1o, hD1, hD2⟩ : ∃ oD, s.heap.get? D = some oD ∧ oD.data = .cls cdD := by
    unfold PySem.W.clsIn at hcD
    split at hcD
    · rename_i c' d' cd' sl' ho
      cases hcD
      exact ⟨_, KX _ _ ho, rfl⟩
    · cases hcD
  have hxC : a ≠ D := PySem.W.ks_ne KX J hcD
  obtain ⟨hh, gg, dd, tt, os⟩ := s
  refine PySem.ks_wpAny_isType_cls hD1 hD2 ⟨rfl, ?_⟩
  refine PySem.ks_wpAny_call_super hD1 hD2 J.at_ J.cls (fun c' e' => ?_) (PySem.W.looks_mroIn KX SX.mro) (fun h' eq kp => ?_)
  · cases e'
  have I2 : Inv X pins σ H ⟨h', gg, dd, tt, os⟩ := Inv.kept (s := ⟨hh, gg, dd, tt, os⟩) (t' := tt) I kp
  have KX2 := I2.kIn
  have hsup := SX.sup
  unfold PySem.W.ks_superIn at hsup
  rw [hcD] at hsup
  have hmr : PySem.W.Looks (model X.prog X.w) h' (mroOf (.ref D)) cdD.mro := fun A Q E s k q => wpAny_bind ((PySem.W.looks_clsIn KX2 hcD) A _ E s k (wpAny_pure q))
  have J2 : PySem.W.InstAt h' a { cls := .ref D, dict := none, data := .fields #[.ref t1, .none, .none, .none, .bool false, .none] } D none := ⟨kp _ _ hoa, rfl, rfl, trivial⟩
  have hI : PySem.W.Looks (model X.prog X.w) h' (isInstance (.ref a) (.type "ValueError")) true := J2.type.andThen (PySem.W.looks_subIn KX2 SX.sub)
  refine PySem.W.kxs_getMethod PySem.W.kxs_ValueError eq (PySem.W.looks_opaque KX2 S.any) hmr rfl KX2 hsup hI hxC rfl ?_
  have I3 : Inv X ((h'.objs.size, PySem.W.kxs_mw "ValueError.__init__" a) :: pins) σ H ⟨h'.push (PySem.W.kxs_mw "ValueError.__init__" a), gg, dd, tt + 1, os⟩ :=
    ClX.pin_new I2 (fun _ _ z => Heap.get?_push_of_some _ z) (Nat.le_refl _) (Heap.get?_push_size h' rfl) (fun v z => nomatch z)
  generalize h'.objs.size = b at I3 ⊢
  refine thn (Q := EP X pins σ fun _ H' => Dn.nx σ H') ?_ fun v s' ⟨z, H', I', _, q⟩ => ⟨σ, H', I', q⟩
  show wpAny _ _ (callWith cpos (.ref b) [] (backTo cpos (starEach (e :: es) X.env)) []) _ _ _
  have run := ha.run cpos _ _ σ H _ I3 hta
  rw [hst] at run ⊢
  refine PySem.W.kxs_callWith (i := "ValueError.__init__") (x := a) (by show (false || (backTo cpos (starEach es X.env)).any (·.1)) = false; rw [hpl]; rfl)
    (Calls.evalArgs_plain (thn run fun us s4 ⟨vs, H4, I4, r4, hl4, ea4, q4⟩ => ?_))
  have hb4 : s4.heap.get? b = some (PySem.W.kxs_mw "ValueError.__init__" a) := ClX.pin_at I4
  refine ⟨hb4, ?_⟩
  have I5 : Inv X pins σ H4 s4 := ClX.unpin I4
  refine init_bw T I5 ea4 hb4 (by show us.length ≤ sizeLine; rw [← r4.length, sizeLine_eq]; omega) fun s5 I6 => ⟨.non, H4, I6, rfl, q4⟩
end
theorem psst_cons {X : Cx} {body : List Stmt} {st : Stmt} {rest : List Stmt} {t1 t2 : TS} (h : PST X body st t1) (h2 : PSs X rest t2) : PSsT X body (st :: rest) (fun D σ H => t1 { D with nx := fun σ' H' => t2 D σ' H' } σ H) := ⟨fun pins s σ H D I q => by
  refine ks_wpAt_execs_cons (ks_wpAt_mono (h.run pins s σ H _ I q) (fun fl s' q => ?_) fun _ _ z => z)
  cases fl with
  | next => obtain ⟨σ', H', J, q⟩ := q; exact wpAt_of_wpAny (h2.run pins s' σ' H' D J q)
  | ret u => exact q
  | brk => exact q
  | cont => exact q⟩
def spI (D : Addr) (fld : Str) : Sp := fun vs H Q _ => ∃ a y, vs = [.ref a, y] ∧ H a = some (exo a D none) ∧ ∀ dx, H dx = none → dx ≠ a → Q .non (upd (upd H dx (exd dx [(fld, y)])) a (exo a D (some dx)))
def tIni (X : Cx) (D : Addr) (m fld : Str) : TS := fun Dn σ H => tSupX X 2 0 D (tCons (tC (.str m)) tNil) { Dn with nx := fun σ' H' => tOst X.K fld (tVar 0) (tVar 1) Dn σ' H' } σ H
section
variable {P : Program} {w : World} {K : PySem.W.Frag} {mg : Str → Option Value} {base : Heap} {x qual m fld par : Str} {params : Arguments} {body : List Stmt} {scope : Scope} {dvs : List V} {kws : List (Str × V)} {f cc D c : Addr} {fd : FuncData} {file : Str} {N : List Str} {k : Nat}
theorem exFn (F : FunS K x qual params body scope dvs kws f fd cc D c file) (S : NScope ["self", par, "__class__"] ["self", par] ["__class__"] scope) (T : OexC K D) (hno : PySem.W.findIn K (.ref D) fld = some none)
    (SX : ∀ (A : Around) (outer : List Env) (s : Shared) (H : Hp) (E : XK), SupX (ncx (CX z P w) P w K mg base ["self", par, "__class__"] (nfS x qual params body scope cc c) f A outer s H E) D)
    (hb : ∀ (A : Around) (outer : List Env) (s : Shared) (H : Hp) (E : XK), PSsT (ncx (CX z P w) P w K mg base ["self", par, "__class__"] (nfS x qual params body scope cc c) f A outer s H E) body body
      (tIni (ncx (CX z P w) P w K mg base ["self", par, "__class__"] (nfS x qual params body scope cc c) f A outer s H E) D m fld)) : FnOk P w K mg base (CX z P w) (k + 1) f fd ["self", par] (spI D fld) :=
  F.ok S (fun vs H Q E ⟨a, y, e, _⟩ => by rw [e] <;> rfl) fun A outer s H vs Q E hr ⟨a, y, e, h1, h2⟩ => by
    subst e
    refine ⟨_, hb A outer s H E, rfl, a, rfl, h1, T, SX A outer s H E, ?_⟩
    refine ⟨by simp, h1, ?_⟩
    exact ⟨y, rfl, .ref a, rfl, a, D, rfl, T, hno, .inl ⟨h1, fun dx n ne => h2 dx n ne⟩⟩
end
end ML
end
section
namespace ML
open PySem PySem.Spec PyProof.Rows L2 He
inductive HdsA (X : Cx) : List ExceptHandler → List (Value × Nat × (Addr → Value → Option Addr → TS)) → Prop
  | nil : HdsA X [] []
  | cons {x n : Str} {i : Nat} {c : Value} {ts : Addr → Value → Option Addr → TS} {b₀ : Stmt} {suite : List Stmt} {np pos' : Pos} {hds : List ExceptHandler} {l : List (Value × Nat × (Addr → Value → Option Addr → TS))} (hc : Names X x c)
      (hi : X.N[i]? = some n) (hln : X.env.kindOf n = some .local)
      (hsu : ∀ (a : Addr) (oe : Obj) (cls : Value) (d : Option Addr) (pn : List (Addr × Obj)), Zc cls d oe → (∃ vs, oe.data = .fields vs) → PSs (X.suite a ((a, oe) :: pn)) (b₀ :: suite) (ts a cls d)) (r : HdsA X hds l) :
      HdsA X (.ExceptHandler (some (.Name x np)) (some n) (b₀ :: suite) pos' :: hds) ((c, i, ts) :: l)
section
variable {X : Cx} {body : List Stmt} {h₀ : ExceptHandler} {hds : List ExceptHandler} {l : List (Value × Nat × (Addr → Value → Option Addr → TS))} {pos : Pos} {tb : WX → TS} {Wout : WX}
end
def sRaise (c : Nat) (fld : S) (e : ME) : MS := fun σ h => (e σ h).bindS σ fun v h1 => .ex c h1.length σ (h1 ++ [.xd [(fld, v)]])
section
variable {G : Gx} {W : WX} {X : Cx} {e : Expr} {me : ME} {c k : Nat} {C fI : Addr} {fd : FuncData} {ps : List Str} {fld : S} {x : Str} {p pos pos' : Pos}
end
end ML
end
section
namespace ML
open PySem PySem.Spec PyProof.Rows L2 He
def goneS (i : Nat) : RS → RS
  | .nx σ h => .nx (σ.set i none) h
  | .bk σ h => .bk (σ.set i none) h
  | .ct σ h => .ct (σ.set i none) h
  | .rt v h => .rt v h
  | _ => .err
abbrev Hd := (Nat → Option Bool) × Nat × (Nat → Nat → MS)
def runH : List Hd → Nat → Nat → MS
  | [], c, n => fun σ h => .ex c n σ h
  | (mt, i, su) :: r, c, n => fun σ h => match mt c with
    | some true => match Nat.blt i σ.length with
      | true => goneS i (su c n (σ.set i none) h)
      | false => .err
    | some false => runH r c n σ h
    | none => .err
def sTry (body : MS) (hs : List Hd) : MS := fun σ h => match body σ h with
  | .ex c n σ' h' => runH hs c n σ' h'
  | r => r
def rdSX (G : Gx) (n : Nat) (dd : Addr) (i : Nat) (a : Addr) (W : WX) (m : MS) : TS := fun D σ H =>
  ∃ ρ σi h, ρ[n]? = some dd ∧ σ[i]? = some (some (V.ref a)) ∧ AgS G ρ H σi σ ∧ Ag G ρ h H ∧ FinS G ρ H D W (m σi h)
section
variable {G : Gx} {ρ : List Addr} {H : Hp} {W : WX} {X : Cx} {σ : L2.St} {σi : Sg} {h : Hi} {n i : Nat} {dd a : Addr} {e : Expr} {es : List Expr} {me : ME} {ma mr : MA} {pos : Pos}
def eXf (cs : List Nat) (c n : Nat) (f : S) : ME := fun _ h => match cs.contains c, h[n]? with
  | true, some (.xd fs) => match getF f fs with
    | some v => .ok v h
    | none => .err
  | _, _ => .err
def XcOk (K : PySem.W.Frag) (G : Gx) (cs : List Nat) (f : S) : Prop := ∀ c C, cs.contains c = true → G.ct c = some C → XfC K C ∧ PySem.W.findIn K (.ref C) (toStr f) = some none
end
end ML
end
section
namespace ML
open PySem PySem.Spec PyProof.Rows L2 He
theorem kitx_excD {K : PySem.W.Frag} {x D : Addr} {ox : Obj} {od : Option Obj} (T : ExcC K D) : PySem.W.KitX K (.ref x) (.ref D) (fun h => PySem.W.InstAt h x ox D od) where
  ty := fun _ _ _ I => I.type
  it := fun _ _ X _ => by
    obtain ⟨cdD, hcD, _⟩ := PySem.W.any_some T.hd
    unfold PySem.W.clsIn at hcD
    split at hcD
    · rename_i c' d' cd' sl' ho
      intro A' Q' E' s' k q
      unfold isType loadHead
      exact wpAny_bind (wpAny_loadPart (k _ _ (X _ _ ho)) (wpAny_pure q))
    · cases hcD
  ne := fun h tp dd its n sl X htp => by
    obtain ⟨cdD, hcD, _⟩ := PySem.W.any_some T.hd
    refine Bool.eq_false_iff.mpr fun q => ?_
    have e : D = tp := Value.ref.inj (beq_iff_eq.mp q)
    subst e
    unfold PySem.W.clsIn at hcD
    split at hcD
    · rename_i c' d' cd' sl' ho
      have z := (X _ _ ho).symm.trans htp
      cases z
    · cases hcD
  ca := fun X I k => PySem.W.kx_classE X I T.hg T.hk T.hs (PySem.W.findObj_dataE (by obtain ⟨cd, hc, _⟩ := PySem.W.any_some T.hd; rw [hc]; rfl) T.ha T.hn T.ht) T.hm k
def eXi (tbl : Nat → Option Bool) (c n : Nat) : ME := fun _ h => match tbl c, h[n]? with
  | some b, some (.xd _) => .ok (.bl b) h
  | _, _ => .err
def XiOk (K : PySem.W.Frag) (G : Gx) (tbl : Nat → Option Bool) (cv : Value) : Prop := ∀ c C b, tbl c = some b → G.ct c = some C → ExcC K C ∧ PySem.W.kitOne K (.ref C) cv = some b
section
variable {G : Gx} {ρ : List Addr} {H : Hp} {W : WX} {X : Cx} {σ : L2.St} {σi : Sg} {h : Hi} {n i : Nat} {dd a : Addr} {e : Expr} {es : List Expr} {me : ME} {ma mr : MA} {pos : Pos}
end
def tSu (G : Gx) (mt : Nat → Option Bool) (su : Nat → Nat → MS) (i : Nat) : Addr → Value → Option Addr → TS := fun a cls d D σ H => ∃ c n C dd, cls = .ref C ∧ d = some dd ∧ G.ct c = some C ∧ mt c = some true ∧ rdSX G n dd i a W0 (su c n) D σ H
inductive HdM (X : Cx) (G : Gx) : List ExceptHandler → List Hd → List (Value × Nat × (Addr → Value → Option Addr → TS)) → Prop
  | nil : HdM X G [] [] []
  | cons {x n : Str} {i : Nat} {cv : Value} {mt : Nat → Option Bool} {su : Nat → Nat → MS} {b₀ : Stmt} {suite : List Stmt} {np pos' : Pos} {hds : List ExceptHandler} {hs : List Hd} {l : List (Value × Nat × (Addr → Value → Option Addr → TS))} (hc : Names X x cv)
      (hi : X.N[i]? = some n) (hln : X.env.kindOf n = some .local) (hmt : ∀ c C b, mt c = some b → G.ct c = some C → PySem.W.exmOne X.K (.ref C) cv = some b)
      (hsu : ∀ (a : Addr) (oe : Obj) (C dd : Addr) (pn : List (Addr × Obj)) (c n : Nat), G.ct c = some C → mt c = some true → Zc (.ref C) (some dd) oe → (∃ vs, oe.data = .fields vs) → PSs (X.suite a ((a, oe) :: pn)) (b₀ :: suite) (rdSX G n dd i a W0 (su c n)))
      (r : HdM X G hds hs l) : HdM X G (.ExceptHandler (some (.Name x np)) (some n) (b₀ :: suite) pos' :: hds) ((mt, i, su) :: hs) ((cv, i, tSu G mt su i) :: l)
theorem PSs.dispatch {X : Cx} {st : List Stmt} {t : TS} (h : ∀ D σ H, t D σ H → ∃ t', PSs X st t' ∧ t' D σ H) : PSs X st t := ⟨fun pins s σ H D I q => let ⟨_, p, q'⟩ := h D σ H q; p.run pins s σ H D I q'⟩
theorem HdM.hds {X : Cx} {G : Gx} {hds : List ExceptHandler} {hs : List Hd} {l : List (Value × Nat × (Addr → Value → Option Addr → TS))} (m : HdM X G hds hs l) : HdsA X hds l := by
  induction m with
  | nil => exact .nil
  | cons hc hi hln hmt hsu r ih =>
    refine .cons hc hi hln (fun a oe cls d pn hz hf => PSs.dispatch fun D σ H ⟨c, n, C, dd, e1, e2, hct, hm, q⟩ => ?_) ih
    subst e1 e2
    exact ⟨_, hsu a oe C dd pn c n hct hm hz hf, q⟩
end ML
end
section
namespace ML
open PySem PySem.Spec PyProof.Rows L2 He
section
variable {G : Gx} {W : WX} {X : Cx} {body : List Stmt} {h₀ : ExceptHandler} {hds : List ExceptHandler} {hs : List Hd} {l : List (Value × Nat × (Addr → Value → Option Addr → TS))} {pos : Pos} {mb : MS}
end
end ML
namespace ML
open PySem PySem.Spec PyProof.Rows L2 He
end ML
end
section
namespace ML
open PySem PySem.Spec PyProof.Rows L2 He
def oexB (K : PySem.W.Frag) (C : Addr) : Bool := match K.lookup C with
  | some ⟨.type "type", _, .cls cd, sl⟩ => (match cd.mro, sl.toList with
    | .ref C' :: bm, [_, _, _, _, some (.builtin n), _] => (C' == C && n == "ValueError.__new__" && !cd.hasDel) && (cd.hasDict && PySem.HandSPX.refsVE bm)
    | _, _ => false)
  | _ => false
theorem oexB_ok {K : PySem.W.Frag} {C : Addr} (q : oexB K C = true) : ∃ nm qn N bs bm sn sub ab col dd k0 k1 k2 k3 k5, K.lookup C = some (excClassObj nm qn C N bs bm true sn sub ab col dd k0 k1 k2 k3 k5 "ValueError.__new__") ∧ PySem.HandSPX.refsVE bm = true := by
  unfold oexB at q
  split at q
  · rename_i dd cd sl ho
    split at q
    · rename_i C' bm k0 k1 k2 k3 n k5 hm hs
      simp only [Bool.and_eq_true, beq_iff_eq, Bool.not_eq_true'] at q
      obtain ⟨⟨⟨rfl, rfl⟩, hdel⟩, hdi, hr⟩ := q
      obtain ⟨nm, bs, mro, ns, qn, hd, sn, sub, ab, col, del⟩ := cd
      dsimp only at hm hdel hdi
      subst hm hdel hdi
      have hsl : sl = #[k0, k1, k2, k3, some (.builtin "ValueError.__new__"), k5] := by
        obtain ⟨l⟩ := sl
        simp only at hs
        rw [hs]
      subst hsl
      exact ⟨nm, qn, ns, bs, bm, sn, sub, ab, col, dd, k0, k1, k2, k3, k5, ho, hr⟩
    · cases q
  · cases q
def excB (K : PySem.W.Frag) (x : Str) : Bool := oexB K (ga K x) && (eqO (PySem.W.findIn K (.ref (ga K x)) "__setattr__") (some (some (.builtin "object.__setattr__"))) && (decide (PySem.W.subIn K (.ref (ga K x)) (.type "BaseException") = some true) &&
  (decide (PySem.W.typeIn K (.ref (ga K x)) = some (.type "type")) && PySem.W.keepIn K (.ref (ga K x)))))
theorem excB_ok {K : PySem.W.Frag} {x : Str} (h : excB K x = true) : OexC K (ga K x) := by
  obtain ⟨h1, h⟩ := ba h
  obtain ⟨h2, h⟩ := ba h
  obtain ⟨h3, h⟩ := ba h
  obtain ⟨h4, h5⟩ := ba h
  exact ⟨oexB_ok h1, eqO_ok h2, of_decide_eq_true h3, of_decide_eq_true h4, h5⟩
def exiB (K : PySem.W.Frag) (x fld : Str) (d : Defn) : Bool := eqO (PySem.W.findIn K (.ref (ga K x)) "__init__") (some (some (.ref (d K)))) && (decide (PySem.W.typeIn K (.ref (d K)) = some (.type "function")) && (eqO (PySem.W.findIn K (.ref (ga K x)) fld) (some none) &&
  ((PySem.W.clsIn K (ga K x)).isSome && (decide (PySem.W.mroIn K (ga K x) (.ref (ga K x)) = some true) && (eqO (PySem.W.ks_superIn K (ga K x) (ga K x) "__init__") (some (some (.builtin "ValueError.__init__"))) &&
  (decide (PySem.W.subIn K (.ref (ga K x)) (.type "ValueError") = some true) && eqO (PySem.W.nsIn K cStatics "thirdparty.any") (some none)))))))
structure ExiOk (K : PySem.W.Frag) (x fld : Str) (d : Defn) : Prop where
  ini : PySem.W.findIn K (.ref (ga K x)) "__init__" = some (some (.ref (d K)))
  ty : PySem.W.typeIn K (.ref (d K)) = some (.type "function")
  no : PySem.W.findIn K (.ref (ga K x)) fld = some none
  cd : ∃ cd, PySem.W.clsIn K (ga K x) = some cd
  mro : PySem.W.mroIn K (ga K x) (.ref (ga K x)) = some true
  sup : PySem.W.ks_superIn K (ga K x) (ga K x) "__init__" = some (some (.builtin "ValueError.__init__"))
  sub : PySem.W.subIn K (.ref (ga K x)) (.type "ValueError") = some true
  any : PySem.W.nsIn K cStatics "thirdparty.any" = some none
theorem exiB_ok {K : PySem.W.Frag} {x fld : Str} {d : Defn} (h : exiB K x fld d = true) : ExiOk K x fld d := by
  obtain ⟨h1, h⟩ := ba h
  obtain ⟨h2, h⟩ := ba h
  obtain ⟨h3, h⟩ := ba h
  obtain ⟨h4, h⟩ := ba h
  obtain ⟨h5, h⟩ := ba h
  obtain ⟨h6, h⟩ := ba h
  obtain ⟨h7, h8⟩ := ba h
  exact ⟨eqO_ok h1, of_decide_eq_true h2, eqO_ok h3, Option.isSome_iff_exists.mp h4, of_decide_eq_true h5, eqO_ok h6, of_decide_eq_true h7, eqO_ok h8⟩
theorem ExiOk.supX {X : Cx} {x fld : Str} {d : Defn} (e : ExiOk X.K x fld d) : SupX X (ga X.K x) := ⟨e.cd, e.mro, e.sup, e.sub⟩
theorem lkT_mem {α : Type} : ∀ {l : List (Nat × α)} {c : Nat} {b : α}, lkT l c = some b → (c, b) ∈ l
  | [], _, _, h => by cases h
  | (d, x) :: r, c, b, h => by
    rcases lkT_cons h with ⟨rfl, rfl⟩ | h
    · exact List.mem_cons_self
    · exact List.mem_cons_of_mem _ (lkT_mem h)
def xcB (K : PySem.W.Frag) (nm : Nat → Option Str) (cs : List Nat) (f : Str) : Bool := cs.all fun c => match nm c with
  | some x => xfB K (ga K x) && eqO (PySem.W.findIn K (.ref (ga K x)) f) (some none)
  | none => false
theorem xcB_ok {w : World} {K : PySem.W.Frag} {mg : Str → Option Value} {nm : Nat → Option Str} {cs : List Nat} {f : S} (h : xcB K nm cs (toStr f) = true) : XcOk K (GxOf w K mg nm) cs f := fun c C e hc => by
  have z := List.all_eq_true.mp h c (List.contains_iff_mem.mp e)
  cases q : nm c with
  | none => rw [q] at z; cases z
  | some x =>
    rw [q] at z
    rw [gx_ct hc q]
    obtain ⟨z1, z2⟩ := ba z
    exact ⟨xfB_ok z1, eqO_ok z2⟩
def eccB (K : PySem.W.Frag) (x : Str) : Bool := xfB K (ga K x) && (eqO (PySem.W.findIn K (.ref (ga K x)) "__class__") (some (some (.builtin "object.__class__"))) && (eqO (PySem.W.specialIn K (.builtin "object.__class__") "__get__") (some (some (.builtin "getset_descriptor.__get__"))) &&
  (decide (PySem.W.takesIn K (.builtin "object.__class__") = some true) && decide (PySem.W.mroIn K (ga K x) (.type "object") = some true))))
theorem eccB_ok {K : PySem.W.Frag} {x : Str} (h : eccB K x = true) : ExcC K (ga K x) := by
  obtain ⟨h1, h⟩ := ba h
  obtain ⟨h2, h⟩ := ba h
  obtain ⟨h3, h⟩ := ba h
  obtain ⟨h4, h5⟩ := ba h
  have z := xfB_ok h1
  exact ⟨z.ga, z.gg, z.exC, z.hdC, eqO_ok h2, eqO_ok h3, of_decide_eq_true h4, of_decide_eq_true h5⟩
def xiB (K : PySem.W.Frag) (nm : Nat → Option Str) (r : ClsR) (l : List (Nat × Bool)) : Bool := l.all fun q => match nm q.1 with
  | some x => eccB K x && decide (PySem.W.kitOne K (.ref (ga K x)) (r.val K) = some q.2)
  | none => false
theorem xiB_ok {w : World} {K : PySem.W.Frag} {mg : Str → Option Value} {nm : Nat → Option Str} {r : ClsR} {l : List (Nat × Bool)} (h : xiB K nm r l = true) : XiOk K (GxOf w K mg nm) (lkT l) (r.val K) := fun c C b e hc => by
  have z := List.all_eq_true.mp h _ (lkT_mem e)
  dsimp only at z
  cases q : nm c with
  | none => rw [q] at z; cases z
  | some x =>
    rw [q] at z
    rw [gx_ct hc q]
    obtain ⟨z1, z2⟩ := ba z
    exact ⟨eccB_ok z1, of_decide_eq_true z2⟩
section
variable {X : Cx} {x qual : Str} {params : Arguments} {body : List Stmt} {scope : Scope} {dvs : List V} {kws : List (Str × V)} {f cc D c : Addr} {fd : FuncData} {file sf : Str} {ar : Arg}
theorem supD_of (F : FunS X.K x qual params body scope dvs kws f fd cc D c file) (hfn : X.env.func = some f) (hcode : X.env.code = .ref c) (har : (params.posonlyargs ++ params.args).head? = some ar) (hs : ar.arg = sf)
    (hfile : ((X.prog.main.file : Str) == file) = true) (htop : (X.prog.main.scope.names.lookup ("super" : Str)).isSome = false) (any : PySem.W.nsIn X.K cStatics "thirdparty.any" = some none) : SupD X f D sf := by
  obtain ⟨oc, od, dV, kV, doc, pm, an, ct, osl, e1, e2, _, _⟩ := F.ex
  obtain ⟨o, vs, tf, e3, e4, e5⟩ := F.file
  exact ⟨hfn, ⟨_, fd, ar, e2, rfl, by rw [e1]; exact har, hs⟩, ⟨c, o, vs, file, tf, hcode, e3, e4, e5, hfile⟩, htop, any⟩
end
theorem ex_body {X : Cx} {body : List Stmt} {f D : Addr} {par fld m : Str} {j1 : Nat} {p0 p1 p2 apos cpos spos q0 q1 q2 q3 : Pos} (S : SupD X f D "self") (hks : Gl X "super") (hm : X.mg "super" = none) (hkc : X.env.kindOf "__class__" = some .free) (hNc : X.N[2]? = some ("__class__" : Str)) (hvc : Vis X.env.scope "__class__")
    (hNs : X.N[0]? = some ("self" : Str)) (hvs : Vis X.env.scope "self") (hNp : X.N[1]? = some par) (hvp : Vis X.env.scope par) (hi : interactive X.env = false)
    (hst : starEach [.Constant (.str m) j1 p2] X.env = (false, eval (.Constant (.str m) j1 p2) X.env) :: starEach [] X.env) (hpl : (backTo cpos (starEach [] X.env)).any (·.1) = false)
    (hsw : swapsWith (.Call (.Attribute (.Call (.Name "super" p0) [] [] p1) "__init__" apos) [.Constant (.str m) j1 p2] [] cpos) none spos.line X.env = pure false)
    (ht : eval (.Call (.Attribute (.Call (.Name "super" p0) [] [] p1) "__init__" apos) [.Constant (.str m) j1 p2] [] cpos) X.env = (do
      let ov ← attributeBase (.Call (.Name "super" p0) [] [] p1) "__init__" X.env (eval (.Call (.Name "super" p0) [] [] p1) X.env)
      standAt apos.atName
      let (f, first) ← holding [ov] (getMethod ov "__init__" (pure false))
      callWith cpos f first (backTo cpos (starEach [.Constant (.str m) j1 p2] X.env)) []))
    (hs2 : swapsWith (.Name par q1) (some (.Attribute (.Name "self" q0) fld q2)) q3.line X.env = pure false) (hd : (par == ("__debug__" : Str)) = false) (hcd : (par == ("__classdict__" : Str)) = false) :
    PSsT X body [.Expr (.Call (.Attribute (.Call (.Name "super" p0) [] [] p1) "__init__" apos) [.Constant (.str m) j1 p2] [] cpos) spos, .Assign [.Attribute (.Name "self" q0) fld q2] (.Name par q1) q3] (tIni X D m fld) :=
  psst_cons (t1 := tSupX X 2 0 D (tCons (tC (.str m)) tNil)) (t2 := tOst X.K fld (tVar 0) (tVar 1)) (pst_superX (j := 2) (i := 0) (slf := "self") S hks hm hkc hNc hvc hNs hvs (by decide) (pa_cons pe_str pa_nil hst) hi hst hpl hsw ht) (pss_one (ps_ost (pe_var (i := 0) hNs hvs) (pe_var (i := 1) hNp hvp hd hcd) hs2))
end ML
end
section
namespace ML
open PySem L2
theorem L2R.negR {r : List Nat} {h : Hi} {a b : Res VI} (k : L2R RV2 r h a b) : L2R RV2 r h (negR a) (negR b) := by
  cases a with
  | err => trivial
  | ex c n s' =>
    obtain ⟨r', h', m, rfl, e, g, q⟩ := k
    exact ⟨r', h', m, rfl, e, g, q⟩
  | ok v s' =>
    obtain ⟨r', h', v', rfl, e, g, q⟩ := k
    cases q with
    | bl b => exact ⟨r', h', _, rfl, e, g, .bl (!b)⟩
    | _ => trivial
instance {ma mb : ME} {f : Op2} {cs : List Nat} {tbl : Nat → Option MF} [c : LTb tbl] [x : LE ma] [y : LE mb] [o : LOp f] : LE (eNeU cs tbl f ma mb) := ⟨fun r s h σ σ' g a => (x.run r s h σ σ' g a).bind fun r1 s1 h1 v v' e1 g1 q1 => (y.run _ _ _ _ _ g1 (a.mono e1)).bind fun r2 s2 h2 w w' e2 g2 q2 => by
  rw [ins2 g2 (q1.mono e2), ty2 g2 q2]
  cases z : insC v s2 with
  | none => exact .ofO (o.run _ _ _ _ _ _ _ g2 (q1.mono e2) q2)
  | some d =>
    dsimp only
    cases w0 : tbl d with
    | none => trivial
    | some u =>
      cases w1 : nfI cs (tyI w s2) with
      | false => trivial
      | true => exact ((c.run _ _ w0).run _ _ _ _ _ g2 (.cons (q1.mono e2) (.cons q2 .nil))).negR⟩
instance {c : Nat} {f : S} {ma : ME} [x : LE ma] : LS (sRaise c f ma) := ⟨fun r s h σ σ' g a => (x.run r s h σ σ' g a).bindS a fun r1 s1 h1 v v' e1 g1 q1 => by
  have e0 : Ex2 r1 h1 (r1 ++ [h1.length]) (h1 ++ [OI.xd [(f, v')]]) := ⟨⟨[h1.length], rfl, fun m hm => by rw [List.mem_singleton] at hm; omega⟩, by simp, fun m _ hlt => List.getElem?_append_left hlt⟩
  obtain ⟨g', e⟩ := g1.new (o := OI.xd [(f, v)]) (o' := OI.xd [(f, v')]) (.xd (.cons (q1.mono e0) .nil))
  exact ⟨_, _, _, _, rfl, e, g', (a.mono e1).mono e, g1.idx⟩⟩
class LE2 (n m : Nat) (e e' : ME) : Prop where
  run : ∀ r s h σ σ', r[n]? = some m → Ag2 r s h → AS2 r σ σ' → L2R RV2 r h (e σ s) (e' σ' h)
class LA2 (n m : Nat) (e e' : MA) : Prop where
  run : ∀ r s h σ σ', r[n]? = some m → Ag2 r s h → AS2 r σ σ' → L2R RVs2 r h (e σ s) (e' σ' h)
class LS2 (n m : Nat) (e e' : MS) : Prop where
  run : ∀ r s h σ σ', r[n]? = some m → Ag2 r s h → AS2 r σ σ' → L2S r h (e σ s) (e' σ' h)
theorem Ex2.at_ {r r' : List Nat} {h h' : Hi} {n m : Nat} (e : Ex2 r h r' h') (q : r[n]? = some m) : r'[n]? = some m := e.pre q
section
variable {n m c : Nat}
instance (priority := low) {e : ME} [x : LE e] : LE2 n m e e := ⟨fun r s h σ σ' _ g a => x.run r s h σ σ' g a⟩
instance {cs : List Nat} {f : S} : LE2 n m (eXf cs c n f) (eXf cs c m f) := ⟨fun r s h σ σ' q g a => by
  unfold eXf
  obtain ⟨o, o', z1, z2, z3⟩ := g.no q
  rw [z1, z2]
  cases z3 with
  | xd t =>
    cases cs.contains c with
    | false => trivial
    | true =>
      have k := getF2 (f := f) t
      dsimp only
      rename_i xs ys
      cases w : getF f xs with
      | none => trivial
      | some v =>
        rw [w] at k
        cases w2 : getF f ys with
        | none => rw [w2] at k; exact k.elim
        | some v' => rw [w2] at k; exact .ok g k
  | _ => cases cs.contains c <;> trivial⟩
instance {t : Nat → Option Bool} : LE2 n m (eXi t c n) (eXi t c m) := ⟨fun r s h σ σ' q g a => by
  unfold eXi
  obtain ⟨o, o', z1, z2, z3⟩ := g.no q
  rw [z1, z2]
  cases t c with
  | none => trivial
  | some b => cases z3 <;> first | exact .ok g (.bl b) | trivial⟩
instance : LA2 n m aNil aNil := ⟨fun r s h σ σ' q g a => .ok g .nil⟩
instance {a a' : ME} {b b' : MA} [x : LE2 n m a a'] [y : LA2 n m b b'] : LA2 n m (aCons a b) (aCons a' b') := ⟨fun r s h σ σ' q g a => (x.run r s h σ σ' q g a).bind fun r1 s1 h1 v v' e1 g1 q1 => (y.run _ _ _ _ _ (e1.at_ q) g1 (a.mono e1)).bind fun r2 s2 h2 w w' e2 g2 q2 => .ok g2 (.cons (q1.mono e2) q2)⟩
instance {b b' : MA} [y : LA2 n m b b'] : LE2 n m (eLst b) (eLst b') := ⟨fun r s h σ σ' q g a => (y.run _ _ _ _ _ q g a).bind fun r2 s2 h2 w w' e2 g2 q2 => by
  rw [← q2.length]
  split
  · exact .new g2 fun r' e => .lst (q2.mono e)
  · trivial⟩
instance {a a' : ME} [x : LE2 n m a a'] : LS2 n m (sRet a) (sRet a') := ⟨fun r s h σ σ' q g a => (x.run r s h σ σ' q g a).bindS a fun r1 s1 h1 v v' e1 g1 q1 => ⟨_, _, _, rfl, .refl, g1, q1⟩⟩
instance : LS2 n m sNx sNx := ⟨fun r s h σ σ' q g a => .nx g a⟩
instance {a a' : ME} {b b' : MS} {j : Nat} [x : LE2 n m a a'] [y : LS2 n m b b'] : LS2 n m (sSeq (sAsg a (gNm j)) b) (sSeq (sAsg a' (gNm j)) b') := ⟨fun r s h σ σ' q g a =>
  L2S.andThen ((x.run r s h σ σ' q g a).bindS a fun r1 s1 h1 v v' e1 g1 q1 => .nx g1 ((a.mono e1).set q1 j)) fun r1 s1 h1 t t' e1 g1 a1 => y.run _ _ _ _ _ (e1.at_ q) g1 a1⟩
end
theorem goneS2 {r : List Nat} {h : Hi} {i : Nat} {a b : RS} (k : L2S r h a b) : L2S r h (goneS i a) (goneS i b) := by
  cases a with
  | err => trivial
  | nx σ s' => obtain ⟨r2, h2, m, rfl, e2, g, a⟩ := k; exact ⟨r2, h2, _, rfl, e2, g, a.lose i⟩
  | bk σ s' => obtain ⟨r2, h2, m, rfl, e2, g, a⟩ := k; exact ⟨r2, h2, _, rfl, e2, g, a.lose i⟩
  | ct σ s' => obtain ⟨r2, h2, m, rfl, e2, g, a⟩ := k; exact ⟨r2, h2, _, rfl, e2, g, a.lose i⟩
  | rt σ s' => obtain ⟨r2, h2, m, rfl, e2, g, a⟩ := k; exact ⟨r2, h2, _, rfl, e2, g, a⟩
  | ex c n σ s' => trivial
class LHs (hs : List Hd) : Prop where
  run : ∀ c n m r s h σ σ', r[n]? = some m → Ag2 r s h → AS2 r σ σ' → L2S r h (runH hs c n σ s) (runH hs c m σ' h)
instance : LHs [] := ⟨fun c n m r s h σ σ' q g a => ⟨_, _, _, _, rfl, .refl, g, a, q⟩⟩
instance {mt : Nat → Option Bool} {i : Nat} {su : Nat → Nat → MS} {hs : List Hd} [x : ∀ c n m, LS2 n m (su c n) (su c m)] [y : LHs hs] : LHs ((mt, i, su) :: hs) := ⟨fun c n m r s h σ σ' q g a => by
  unfold runH
  cases mt c with
  | none => trivial
  | some b =>
    cases b with
    | false => exact y.run _ _ _ _ _ _ _ _ q g a
    | true =>
      dsimp only
      rw [← a.len]
      split
      · exact goneS2 ((x c n m).run _ _ _ _ _ q g (a.lose i))
      · trivial⟩
instance {body : MS} {hs : List Hd} [x : LS body] [y : LHs hs] : LS (sTry body hs) := ⟨fun r s h σ σ' g a => by
  have k := x.run r s h σ σ' g a
  unfold sTry
  cases z : body σ s with
  | err => trivial
  | nx σ1 s' => rw [z] at k; obtain ⟨r2, h2, m, e1, e2, g2, a2⟩ := k; rw [e1]; exact ⟨r2, h2, _, rfl, e2, g2, a2⟩
  | bk σ1 s' => rw [z] at k; obtain ⟨r2, h2, m, e1, e2, g2, a2⟩ := k; rw [e1]; exact ⟨r2, h2, _, rfl, e2, g2, a2⟩
  | ct σ1 s' => rw [z] at k; obtain ⟨r2, h2, m, e1, e2, g2, a2⟩ := k; rw [e1]; exact ⟨r2, h2, _, rfl, e2, g2, a2⟩
  | rt v s' => rw [z] at k; obtain ⟨r2, h2, m, e1, e2, g2, a2⟩ := k; rw [e1]; exact ⟨r2, h2, _, rfl, e2, g2, a2⟩
  | ex c n σ1 s' =>
    rw [z] at k
    obtain ⟨r2, h2, σ2, m, e1, e2, g2, a2, q⟩ := k
    rw [e1]
    exact (y.run c n m r2 s' h2 σ1 σ2 q g2 a2).ext e2⟩
end ML
end
section
namespace ML
open PySem L2
theorem L2R.lenR {r : List Nat} {h : Hi} {a b : Res VI} (k : L2R RV2 r h a b) : L2R RV2 r h (lenR a) (lenR b) := by
  cases a with
  | err => trivial
  | ex c n s' =>
    obtain ⟨r', h', m, rfl, e, g, q⟩ := k
    exact ⟨r', h', m, rfl, e, g, q⟩
  | ok v s' =>
    obtain ⟨r', h', v', rfl, e, g, q⟩ := k
    cases q with
    | int n =>
      have e1 : ∀ hh, ML.lenR (.ok (.int n) hh) = (match decide (0 ≤ n) && decide (n < 2 ^ 62) with | true => Res.ok (.int n) hh | false => Res.err) := fun _ => rfl
      rw [e1, e1]
      cases decide (0 ≤ n) && decide (n < 2 ^ 62) with
      | true => exact ⟨r', h', _, rfl, e, g, .int n⟩
      | false => trivial
    | _ => trivial
instance {ma : ME} {tbl : Nat → Option MF} [c : LTb tbl] [x : LE ma] [o : LOc cLen] : LE (eLenU tbl ma) := ⟨fun r s h σ σ' g a => (x.run r s h σ σ' g a).bind fun r1 s1 h1 v v' e1 g1 q1 => by
  rw [ins2 g1 q1]
  cases z : insC v s1 with
  | none => exact .ofO (o.run _ _ _ _ _ g1 (.cons q1 .nil))
  | some d =>
    dsimp only
    cases w0 : tbl d with
    | none => trivial
    | some u => exact ((c.run _ _ w0).run _ _ _ _ _ g1 (.cons q1 .nil)).lenR⟩
end ML
end
section
namespace ML
open PySem L2 PyProof.Rows
def sFldAug (cs : List Nat) (fn : S) (f : Op2) (o e : ME) : MS := fun σ h => (o σ h).bindS σ fun x h1 => match x with
  | .ref n => match h1[n]? with
    | some (.ins c fs) => match cs.contains c, getF fn fs with
      | true, some v => (e σ h1).bindS σ fun y h2 => match f v y h2 with
        | some (z, h3) => match h3[n]? with
          | some (.ins c' fs') => match cs.contains c' && (Nat.beq c' c && Nat.blt fs'.length 1000) with
            | true => .nx σ (h3.set n (.ins c' (setF fn z fs')))
            | false => .err
          | _ => .err
        | none => .err
      | _, _ => .err
    | _ => .err
  | _ => .err
section
variable {G : Gx} {W : WX} {X : Cx} {o e : Expr} {pos pos' : Pos} {mo me : ME}
end
section
variable {r : List Nat}
theorem intsI2 : ∀ {xs ys : List VI}, RVs2 r xs ys → intsI ys = intsI xs
  | _, _, .nil => rfl
  | _, _, .cons q t => by cases q <;> unfold intsI <;> first | rw [intsI2 t] | rfl
theorem rvs2_ints (l : List Int) : RVs2 r (l.map VI.int) (l.map VI.int) := by
  induction l with
  | nil => exact .nil
  | cons a b ih => exact .cons (.int a) ih
end
instance : LOc cSortK := ⟨fun r s h vs vs' g t => by
  unfold cSortK
  cases t with
  | nil => trivial
  | cons q t =>
    cases t with
    | cons _ _ => cases q <;> trivial
    | nil =>
      cases q with
      | tup l =>
        dsimp only
        rw [intsI2 l]
        split
        · exact .new g fun r' e => .lst (rvs2_ints _)
        · trivial
      | ref i =>
        obtain ⟨o, o', e1, e2, e3⟩ := g.no i
        dsimp only
        rw [e1, e2]
        cases e3 with
        | lst l =>
          dsimp only
          rw [intsI2 l]
          split
          · exact .new g fun r' e => .lst (rvs2_ints _)
          · trivial
        | scr l =>
          dsimp only
          rw [intsI2 l]
          split
          · exact .new g fun r' e => .lst (rvs2_ints _)
          · trivial
        | _ => trivial
      | _ => trivial⟩
end ML
namespace ML
open PySem L2
instance : LOp iAdd := ⟨fun r s h x y x' y' g a b => by
  unfold iAdd
  cases a <;> cases b <;> first | exact ⟨_, _, _, rfl, .refl, g, .int _⟩ | trivial⟩
instance : LOp iSub := ⟨fun r s h x y x' y' g a b => by
  unfold iSub
  cases a <;> cases b <;> first | exact ⟨_, _, _, rfl, .refl, g, .int _⟩ | trivial⟩
instance {cs : List Nat} {fn : S} {f : Op2} {mo me : ME} [x : LE mo] [o : LOp f] [y : LE me] : LS (sFldAug cs fn f mo me) := ⟨fun r s h σ σ' g a => (x.run r s h σ σ' g a).bindS a fun r1 s1 h1 v v' e1 g1 q1 => by
  cases q1 with
  | @ref n m i =>
    obtain ⟨ob, ob', z1, z2, z3⟩ := g1.no i
    dsimp only
    rw [z1, z2]
    cases z3 with
    | @ins c fs fs' t =>
      dsimp only
      cases cs.contains c with
      | false => trivial
      | true =>
        have k := getF2 (f := fn) t
        cases w : getF fn fs with
        | none => trivial
        | some u =>
          rw [w] at k
          cases w2 : getF fn fs' with
          | none => rw [w2] at k; exact k.elim
          | some u' =>
            rw [w2] at k
            dsimp only
            refine (y.run _ _ _ _ _ g1 (a.mono e1)).bindS (a.mono e1) fun r2 s2 h2 p p' e2 g2 q2 => ?_
            have kk := o.run _ _ _ _ _ _ _ g2 (k.mono e2) q2
            cases z5 : f u p s2 with
            | none => trivial
            | some zh =>
              obtain ⟨z, s3⟩ := zh
              rw [z5] at kk
              obtain ⟨r3, h3, z', e, e3, g3, q3⟩ := kk
              rw [e]
              dsimp only
              have i3 := e3.pre (e2.pre i)
              obtain ⟨o3, o3', y1, y2, y3⟩ := g3.no i3
              rw [y1, y2]
              cases y3 with
              | ins t3 =>
                dsimp only
                rw [t3.length]
                split
                · obtain ⟨aa, b⟩ := g3.wr y1 i3 (.ins (setF2 q3 t3))
                  exact ⟨_, _, _, rfl, e3.trans b, aa, (((a.mono e1).mono e2).mono e3).mono b⟩
                · trivial
              | _ => trivial
    | _ => trivial
  | _ => trivial⟩
end ML
end
section
namespace ML
open PySem L2
def turnsD (it : Itm) (t : Tgt) (vs : List Nat) (tt : MT) (mi1 : MI) (t1 : Tgt) (vs1 : List Nat) (tt1 : MT) (el : ME) (D : Nat) (σ : Sg) : Nat → Nat → Hi → Option Hi
  | 0, i, h => match it.nxt i h with
    | some none => some h
    | _ => none
  | k + 1, i, h => match it.nxt i h with
    | some none => some h
    | some (some x) => match t.put x (wipeM σ vs) with
      | some σ2 => match tt σ2 h with
        | .ok true h2 => match mi1 σ2 h2 with
          | .ok it1 h3 => match turnsC it1 t1 vs1 tt1 el D σ2 (it1.fuel h3) 0 h3 with
            | some h4 => turnsD it t vs tt mi1 t1 vs1 tt1 el D σ k (i + 1) h4
            | none => none
          | _ => none
        | .ok false h2 => turnsD it t vs tt mi1 t1 vs1 tt1 el D σ k (i + 1) h2
        | _ => none
      | none => none
    | none => none
def eLc2 (mi : MI) (t : Tgt) (vs : List Nat) (tt : MT) (mi1 : MI) (t1 : Tgt) (vs1 : List Nat) (tt1 : MT) (el : ME) : ME := fun σ h => (mi σ h).bind fun it h1 => match turnsD it t vs tt mi1 t1 vs1 tt1 el h1.length σ (it.fuel h1) 0 (h1 ++ [.lst []]) with
  | some h2 => .ok (.ref h1.length) h2
  | none => .err
section
variable {G : Gx} {W : WX} {X : Cx} {ρ ρ1 : List Addr} {H H1 : Hp} {h : Hi} {tg iter tg1 iter1 elt c c1 : Expr} {ifs : List Expr} {scope : Scope} {own : List (Str × Nat)} {vs1 : List Nat} {pos spos py : Pos} {mi mi1 : MI} {mt mt1 : MT} {ml : ME} {t t1 : Tgt} {i : Nat} {y : Str}
end
theorem turnsD2 {t t1 : Tgt} {vs vs1 : List Nat} {tt tt1 : MT} {el : ME} {mi1 : MI} [x : LT tt] [x1 : LT tt1] [y : LE el] [z : LI mi1] : ∀ (k i : Nat) (r : List Nat) (s h s' : Hi) (σ σ' : Sg) (a b : Itm) (D D' : Nat), Ag2 r s h → AS2 r σ σ' → RI2 r a b → r[D]? = some D' →
    turnsD a t vs tt mi1 t1 vs1 tt1 el D σ k i s = some s' → ∃ r' h', turnsD b t vs tt mi1 t1 vs1 tt1 el D' σ' k i h = some h' ∧ Ex2 r h r' h' ∧ Ag2 r' s' h'
  | 0, i, r, s, h, s', σ, σ', a, b, D, D', g, as, q, d, e => by
    have n := nxt2 g q i
    unfold turnsD at e ⊢
    cases z1 : a.nxt i s with
    | none => rw [z1] at e; cases e
    | some o =>
      rw [z1] at e n
      cases o with
      | some _ => cases e
      | none => cases z2 : b.nxt i h with
        | none => rw [z2] at n; exact n.elim
        | some o' => cases o' with
          | some _ => rw [z2] at n; exact n.elim
          | none => cases e; exact ⟨r, h, rfl, .refl, g⟩
  | k + 1, i, r, s, h, s', σ, σ', a, b, D, D', g, as, q, d, e => by
    have n := nxt2 g q i
    unfold turnsD at e ⊢
    cases z1 : a.nxt i s with
    | none => rw [z1] at e; cases e
    | some o =>
      rw [z1] at e n
      cases z2 : b.nxt i h with
      | none => rw [z2] at n; exact n.elim
      | some o' =>
        rw [z2] at n
        cases o with
        | none => cases o' with
          | some _ => exact n.elim
          | none => cases e; exact ⟨r, h, rfl, .refl, g⟩
        | some v => cases o' with
          | none => exact n.elim
          | some v' =>
            dsimp only at e ⊢
            cases z3 : t.put v (wipeM σ vs) with
            | none => rw [z3] at e; cases e
            | some τ =>
              obtain ⟨τ', w1, w2⟩ := put2 t n (wipe2 as vs) z3
              rw [z3] at e
              rw [w1]
              dsimp only at e ⊢
              have tk := x.run _ _ _ _ _ g w2
              cases z4 : tt τ s with
              | err => rw [z4] at e; cases e
              | ex _ _ _ => rw [z4] at e; cases e
              | ok c s2 =>
                rw [z4] at tk e
                obtain ⟨r2, h2, c', k1, k2, k3, k4⟩ := tk
                subst k4
                rw [k1]
                cases c with
                | false =>
                  dsimp only at e ⊢
                  obtain ⟨r3, h3, j1, j2, j3⟩ := turnsD2 k (i + 1) _ _ _ _ _ _ _ _ _ _ k3 (as.mono k2) (q.mono k2) (k2.pre d) e
                  exact ⟨r3, h3, j1, k2.trans j2, j3⟩
                | true =>
                  dsimp only at e ⊢
                  have ek := z.run _ _ _ _ _ k3 (w2.mono k2)
                  cases z5 : mi1 τ s2 with
                  | err => rw [z5] at e; cases e
                  | ex _ _ _ => rw [z5] at e; cases e
                  | ok it1 s3 =>
                    rw [z5] at ek e
                    obtain ⟨r3, h3, it1', j1, j2, j3, j4⟩ := ek
                    rw [j1]
                    dsimp only at e ⊢
                    rw [fuel2 j3 j4]
                    cases z6 : turnsC it1 t1 vs1 tt1 el D τ (it1.fuel s3) 0 s3 with
                    | none => rw [z6] at e; cases e
                    | some s4 =>
                      rw [z6] at e
                      obtain ⟨r4, h4, m1, m2, m3⟩ := turnsC2 _ _ _ _ _ _ _ _ _ _ _ _ j3 ((w2.mono k2).mono j2) j4 (j2.pre (k2.pre d)) z6
                      rw [m1]
                      dsimp only at e ⊢
                      have ee := (k2.trans j2).trans m2
                      obtain ⟨r5, h5, n1, n2, n3⟩ := turnsD2 k (i + 1) _ _ _ _ _ _ _ _ _ _ m3 (as.mono ee) (q.mono ee) (ee.pre d) e
                      exact ⟨r5, h5, n1, ee.trans n2, n3⟩
instance {mi mi1 : MI} {t t1 : Tgt} {vs vs1 : List Nat} {tt tt1 : MT} {el : ME} [z : LI mi] [x : LT tt] [z1 : LI mi1] [x1 : LT tt1] [y : LE el] : LE (eLc2 mi t vs tt mi1 t1 vs1 tt1 el) := ⟨fun r s h σ σ' g a => (z.run r s h σ σ' g a).bind fun r1 s1 h1 v v' e1 g1 q1 => by
  obtain ⟨g2, e2⟩ := g1.new (o := .lst []) (o' := .lst []) (.lst .nil)
  rw [fuel2 g1 q1]
  cases w : turnsD v t vs tt mi1 t1 vs1 tt1 el s1.length σ (v.fuel s1) 0 (s1 ++ [.lst []]) with
  | none => trivial
  | some s2 =>
    obtain ⟨r3, h3, j1, j2, j3⟩ := turnsD2 _ _ _ _ _ _ _ _ _ _ _ _ g2 ((a.mono e1).mono e2) (q1.mono e2) g1.idx w
    rw [j1]
    exact ⟨r3, h3, _, rfl, e2.trans j2, j3, .ref (j2.pre g1.idx)⟩⟩
end ML
end
section
namespace ML
open PySem PySem.Spec PyProof.Rows L2 He
def lkF : List (S × MF) → S → Option MF
  | [], _ => none
  | (k, g) :: r, s => match decide (k = s) with
    | true => some g
    | false => lkF r s
def eCallL (i : Nat) (tbl : S → Option MF) (ma : MA) : ME := fun σ h => match σ[i]? with
  | some (some (.glo x)) => match tbl x with
    | some g => (ma σ h).bind fun vs h1 => g vs h1
    | none => .err
  | _ => .err
section
variable {G : Gx} {W : WX} {X : Cx} {x : Str} {p pos : Pos} {e : Expr} {es : List Expr} {ma : MA} {i : Nat} {tbl : S → Option MF}
end
class LTf (tbl : S → Option MF) : Prop where
  run : ∀ x g, tbl x = some g → LF g
instance : LTf (lkF []) := ⟨fun _ _ h => nomatch h⟩
instance {x : S} {f : MF} {r : List (S × MF)} [a : LF f] [b : LTf (lkF r)] : LTf (lkF ((x, f) :: r)) := ⟨fun y g h => by
  unfold lkF at h
  cases q : decide (x = y) with
  | true => rw [q] at h; cases h; exact a
  | false => rw [q] at h; exact b.run y g h⟩
instance {i : Nat} {tbl : S → Option MF} {ma : MA} [c : LTf tbl] [x : LA ma] : LE (eCallL i tbl ma) := ⟨fun r s h σ σ' g a => by
  unfold eCallL
  cases z : σ[i]? with
  | none => trivial
  | some o =>
    cases o with
    | none => trivial
    | some v =>
      obtain ⟨w, k1, k2⟩ := a.at_ i v z
      rw [k1]
      cases k2 with
      | glo y =>
        dsimp only
        cases q : tbl y with
        | none => trivial
        | some f => exact (x.run r s h σ σ' g a).bind fun r1 s1 h1 vs vs' e1 g1 q1 => (c.run y f q).run _ _ _ _ _ g1 q1
      | _ => trivial⟩
end ML
end
section
set_option maxHeartbeats 400000
namespace ML
open PySem L2
section
variable {α β : Type} {σ σ1 : Sg} {h h1 : Hi}
theorem z_bind (a : α) (f : α → Hi → Res β) : Res.bind (.ok a h) f = f a h := rfl
theorem z_bindS (a : α) (f : α → Hi → RS) : Res.bindS (.ok a h) σ f = f a h := rfl
theorem z_bindX (c n : Nat) (f : α → Hi → Res β) : Res.bind (.ex c n h) f = .ex c n h := rfl
theorem z_bindSX (c n : Nat) (f : α → Hi → RS) : Res.bindS (.ex c n h) σ f = .ex c n σ h := rfl
theorem z_nx (f : MS) : RS.andThen (.nx σ h) f = f σ h := rfl
theorem z_rt (v : VI) (f : MS) : RS.andThen (.rt v h) f = .rt v h := rfl
theorem z_exx (c n : Nat) (f : MS) : RS.andThen (.ex c n σ h) f = .ex c n σ h := rfl
theorem z_endN : endB (.nx σ h) = .ok .non h := rfl
theorem z_endR (v : VI) : endB (.rt v h) = .ok v h := rfl
def slK (o : Option (Option VI)) (h : Hi) : Res VI := match o with
  | some (some v) => .ok v h
  | _ => .err
theorem z_eV (i : Nat) : eV i σ h = slK σ[i]? h := rfl
theorem z_slK (v : VI) : slK (some (some v)) h = .ok v h := rfl
theorem z_eC (v : VI) : eC v σ h = .ok v h := rfl
theorem z_aNil : aNil σ h = .ok [] h := rfl
def consK (x : VI) : List VI → Hi → Res (List VI) := fun xs h2 => .ok (x :: xs) h2
theorem z_aCons (a : ME) (r : MA) : aCons a r σ h = (a σ h).bind fun x h1 => (r σ h1).bind (consK x) := rfl
theorem z_consK (x : VI) (xs : List VI) : consK x xs h = .ok (x :: xs) h := rfl
def binK (f : Op2) (x : VI) : VI → Hi → Res VI := fun y h2 => ofO (f x y h2)
theorem z_eBin (f : Op2) (a b : ME) : eBin f a b σ h = (a σ h).bind fun x h1 => (b σ h1).bind (binK f x) := rfl
theorem z_binK (f : Op2) (x y : VI) : binK f x y h = ofO (f x y h) := rfl
theorem z_ofO (v : α) : ofO (some (v, h)) = .ok v h := rfl
def bolK : VI → Hi → Res Bool := fun v h1 => match v with
  | .bl b => .ok b h1
  | _ => .err
theorem z_tOf (e : ME) : tOf e σ h = (e σ h).bind bolK := rfl
theorem z_bolK (b : Bool) : bolK (.bl b) h = .ok b h := rfl
def andK (b : MT) (σ : Sg) : Bool → Hi → Res Bool := fun c h1 => match c with
  | true => b σ h1
  | false => .ok false h1
def orK (b : MT) (σ : Sg) : Bool → Hi → Res Bool := fun c h1 => match c with
  | true => .ok true h1
  | false => b σ h1
def notK : Bool → Hi → Res Bool := fun c h1 => .ok (!c) h1
theorem z_tAnd (a b : MT) : tAndM a b σ h = (a σ h).bind (andK b σ) := rfl
theorem z_andT (b : MT) : andK b σ true h = b σ h := rfl
theorem z_andF (b : MT) : andK b σ false h = .ok false h := rfl
theorem z_tOr (a b : MT) : tOrM a b σ h = (a σ h).bind (orK b σ) := rfl
theorem z_orT (b : MT) : orK b σ true h = .ok true h := rfl
theorem z_orF (b : MT) : orK b σ false h = b σ h := rfl
theorem z_tNot (a : MT) : tNotM a σ h = (a σ h).bind notK := rfl
theorem z_notK (c : Bool) : notK c h = .ok (!c) h := rfl
def ifK (a b : ME) (σ : Sg) : Bool → Hi → Res VI := fun c h1 => match c with
  | true => a σ h1
  | false => b σ h1
theorem z_eIf (t : MT) (a b : ME) : eIf t a b σ h = (t σ h).bind (ifK a b σ) := rfl
theorem z_ifT (a b : ME) : ifK a b σ true h = a σ h := rfl
theorem z_ifF (a b : ME) : ifK a b σ false h = b σ h := rfl
def eandK (b : ME) (σ : Sg) : VI → Hi → Res VI := fun v h1 => match v with
  | .bl true => b σ h1
  | .bl false => .ok (.bl false) h1
  | _ => .err
theorem z_eAnd (a b : ME) : eAnd a b σ h = (a σ h).bind (eandK b σ) := rfl
theorem z_eandT (b : ME) : eandK b σ (.bl true) h = b σ h := rfl
theorem z_eandF (b : ME) : eandK b σ (.bl false) h = .ok (.bl false) h := rfl
def eorK (b : ME) (σ : Sg) : VI → Hi → Res VI := fun v h1 => match v with
  | .bl true => .ok (.bl true) h1
  | .bl false => b σ h1
  | _ => .err
theorem z_eOr (a b : ME) : eOr a b σ h = (a σ h).bind (eorK b σ) := rfl
theorem z_eorT (b : ME) : eorK b σ (.bl true) h = .ok (.bl true) h := rfl
theorem z_eorF (b : ME) : eorK b σ (.bl false) h = b σ h := rfl
def enotK : VI → Hi → Res VI := fun v h1 => match v with
  | .bl b => .ok (.bl (!b)) h1
  | _ => .err
theorem z_eNot (a : ME) : eNot a σ h = (a σ h).bind enotK := rfl
theorem z_enotK (b : Bool) : enotK (.bl b) h = .ok (.bl (!b)) h := rfl
def negK : VI → Hi → Res VI := fun v h1 => match v with
  | .int i => .ok (.int (-i)) h1
  | _ => .err
theorem z_eNeg (a : ME) : eNeg a σ h = (a σ h).bind negK := rfl
theorem z_negK (i : Int) : negK (.int i) h = .ok (.int (-i)) h := rfl
theorem z_sNx : sNx σ h = .nx σ h := rfl
theorem z_sSeq (a b : MS) : sSeq a b σ h = (a σ h).andThen b := rfl
def rtK : VI → Hi → RS := fun v h1 => .rt v h1
theorem z_sRet (e : ME) : sRet e σ h = (e σ h).bindS σ rtK := rfl
theorem z_rtK (v : VI) : rtK v h = .rt v h := rfl
def dropK (σ : Sg) : VI → Hi → RS := fun _ h1 => .nx σ h1
theorem z_sDrop (e : ME) : sDrop e σ h = (e σ h).bindS σ (dropK σ) := rfl
theorem z_dropK (v : VI) : dropK σ v h = .nx σ h := rfl
def sifK (a b : MS) (σ : Sg) : Bool → Hi → RS := fun c h1 => match c with
  | true => a σ h1
  | false => b σ h1
theorem z_sIf (t : MT) (a b : MS) : sIf t a b σ h = (t σ h).bindS σ (sifK a b σ) := rfl
theorem z_sifT (a b : MS) : sifK a b σ true h = a σ h := rfl
theorem z_sifF (a b : MS) : sifK a b σ false h = b σ h := rfl
theorem z_gNm (i : Nat) (v : VI) : gNm i v σ h = .nx (σ.set i (some v)) h := rfl
theorem z_sAsg (e : ME) (g : MG) : sAsg e g σ h = (e σ h).bindS σ fun v h1 => g v σ h1 := rfl
def tgtK (o : Option Sg) (h : Hi) : RS := match o with
  | some σ' => .nx σ' h
  | none => .err
theorem z_gTgt (t : Tgt) (v : VI) : gTgt t v σ h = tgtK (t.put v σ) h := rfl
theorem z_tgtK (σ' : Sg) : tgtK (some σ') h = .nx σ' h := rfl
theorem z_put1 (i : Nat) (v : VI) : Tgt.put (.one i) v σ = some (σ.set i (some v)) := rfl
theorem z_putM (is : List Nat) (xs : List VI) : Tgt.put (.many is) (.tup xs) σ = putMany is xs σ := rfl
theorem z_pm0 : putMany [] [] σ = some σ := rfl
theorem z_pm1 (i : Nat) (is : List Nat) (x : VI) (xs : List VI) : putMany (i :: is) (x :: xs) σ = putMany is xs (σ.set i (some x)) := rfl
def tupM (gs : List MG) (σ : Sg) (xs : List VI) (h : Hi) : Bool → RS
  | true => gSeq gs xs σ h
  | false => .err
theorem z_gTupM (gs : List MG) (xs : List VI) : gTupM gs (.tup xs) σ h = tupM gs σ xs h (Nat.beq xs.length gs.length) := by
  unfold gTupM tupM
  dsimp only
  all_goals (cases Nat.beq xs.length gs.length <;> rfl)
theorem z_tupM (gs : List MG) (xs : List VI) : tupM gs σ xs h true = gSeq gs xs σ h := rfl
theorem z_gSeq0 : gSeq [] [] σ h = .nx σ h := rfl
theorem z_gSeq1 (g : MG) (gs : List MG) (v : VI) (vs : List VI) : gSeq (g :: gs) (v :: vs) σ h = (g v σ h).andThen fun σ1 h1 => gSeq gs vs σ1 h1 := rfl
def parK (i j : Nat) (σ : Sg) : List VI → Hi → RS := fun vs h1 => match vs with
  | [v, w] => .nx ((σ.set i (some v)).set j (some w)) h1
  | _ => .err
theorem z_sPar (i j : Nat) (ma : MA) : sPar i j ma σ h = (ma σ h).bindS σ (parK i j σ) := rfl
theorem z_parK (i j : Nat) (v w : VI) : parK i j σ [v, w] h = .nx ((σ.set i (some v)).set j (some w)) h := rfl
def par3K (i j l : Nat) (σ : Sg) : List VI → Hi → RS := fun vs h1 => match vs with
  | [u, v, w] => .nx (((σ.set i (some u)).set j (some v)).set l (some w)) h1
  | _ => .err
theorem z_sPar3 (i j l : Nat) (ma : MA) : sPar3 i j l ma σ h = (ma σ h).bindS σ (par3K i j l σ) := rfl
theorem z_par3K (i j l : Nat) (u v w : VI) : par3K i j l σ [u, v, w] h = .nx (((σ.set i (some u)).set j (some v)).set l (some w)) h := rfl
def callK (g : MF) : List VI → Hi → Res VI := fun vs h1 => g vs h1
theorem z_eCall (g : MF) (ma : MA) : eCall g ma σ h = (ma σ h).bind (callK g) := rfl
theorem z_callK (g : MF) (vs : List VI) : callK g vs h = g vs h := rfl
def cbK (f : OpC) : List VI → Hi → Res VI := fun vs h1 => ofO (f vs h1)
theorem z_eCB (f : OpC) (ma : MA) : eCB f ma σ h = (ma σ h).bind (cbK f) := rfl
theorem z_cbK (f : OpC) (vs : List VI) : cbK f vs h = ofO (f vs h) := rfl
def tupB (xs : List VI) (h : Hi) : Bool → Res VI
  | true => .ok (.tup xs) h
  | false => .err
def tupK : List VI → Hi → Res VI := fun xs h => tupB xs h (small xs.length)
theorem z_eTup (a : MA) : eTup a σ h = (a σ h).bind tupK := by
  unfold eTup
  refine congrArg _ (funext fun xs => funext fun h1 => ?_)
  unfold tupK tupB
  cases small xs.length <;> rfl
theorem z_tupK (xs : List VI) : tupK xs h = tupB xs h (small xs.length) := rfl
theorem z_tupB (xs : List VI) : tupB xs h true = .ok (.tup xs) h := rfl
def lstB (xs : List VI) (h : Hi) : Bool → Res VI
  | true => .ok (.ref h.length) (h ++ [.lst xs])
  | false => .err
def lstK : List VI → Hi → Res VI := fun xs h => lstB xs h (small xs.length)
theorem z_eLst (a : MA) : eLst a σ h = (a σ h).bind lstK := by
  unfold eLst
  refine congrArg _ (funext fun xs => funext fun h1 => ?_)
  unfold lstK lstB
  cases small xs.length <;> rfl
theorem z_lstK (xs : List VI) : lstK xs h = lstB xs h (small xs.length) := rfl
theorem z_lstB (xs : List VI) : lstB xs h true = .ok (.ref h.length) (h ++ [.lst xs]) := rfl
theorem z_small (n : Nat) : small n = decide (n ≤ 100000) := by
  unfold small
  cases q : Nat.ble n 100000 with
  | true => rw [Nat.ble_eq] at q; simp [q]
  | false =>
    have : ¬ n ≤ 100000 := fun z => by rw [← Nat.ble_eq] at z; rw [z] at q; cases q
    simp [this]
def fldV (o : Option VI) (h : Hi) : Bool → Res VI
  | true => match o with
    | some v => .ok v h
    | none => .err
  | false => .err
def fldO (cs : List Nat) (f : S) (h : Hi) : Option OI → Res VI
  | some (.ins c fs) => fldV (getF f fs) h (cs.contains c)
  | _ => .err
def fldK (cs : List Nat) (f : S) : VI → Hi → Res VI := fun x h => match x with
  | .ref n => fldO cs f h h[n]?
  | _ => .err
theorem z_eFld (cs : List Nat) (f : S) (e : ME) : eFld cs f e σ h = (e σ h).bind (fldK cs f) := by
  unfold eFld
  refine congrArg _ (funext fun x => funext fun h1 => ?_)
  cases x with
  | ref n =>
    show _ = fldO cs f h1 h1[n]?
    dsimp only
    cases h1[n]? with
    | none => rfl
    | some o =>
      cases o with
      | ins c fs =>
        show _ = fldV (getF f fs) h1 (cs.contains c)
        dsimp only
        cases cs.contains c <;> cases getF f fs <;> rfl
      | _ => rfl
  | _ => rfl
theorem z_fldK (cs : List Nat) (f : S) (n : Nat) : fldK cs f (.ref n) h = fldO cs f h h[n]? := rfl
theorem z_fldO (cs : List Nat) (f : S) (c : Nat) (fs : List (S × VI)) : fldO cs f h (some (.ins c fs)) = fldV (getF f fs) h (cs.contains c) := rfl
theorem z_fldV (v : VI) : fldV (some v) h true = .ok v h := rfl
def gfB (f : S) (v : VI) (r : List (S × VI)) : Bool → Option VI
  | true => some v
  | false => getF f r
theorem z_getF (f g : S) (v : VI) (r : List (S × VI)) : getF f ((g, v) :: r) = gfB f v r (decide (g = f)) := by
  unfold gfB
  rw [getF]
  all_goals (cases decide (g = f) <;> rfl)
theorem z_getF0 (f : S) : getF f [] = none := rfl
theorem z_gfT (f : S) (v : VI) (r : List (S × VI)) : gfB f v r true = some v := rfl
theorem z_gfF (f : S) (v : VI) (r : List (S × VI)) : gfB f v r false = getF f r := rfl
def sfB (f : S) (v : VI) (g : S) (x : VI) (r : List (S × VI)) : Bool → List (S × VI)
  | true => (g, v) :: r
  | false => (g, x) :: setF f v r
theorem z_setF (f g : S) (v x : VI) (r : List (S × VI)) : setF f v ((g, x) :: r) = sfB f v g x r (decide (g = f)) := by
  unfold sfB
  rw [setF]
  all_goals (cases decide (g = f) <;> rfl)
theorem z_setF0 (f : S) (v : VI) : setF f v [] = [(f, v)] := rfl
theorem z_sfT (f g : S) (v x : VI) (r : List (S × VI)) : sfB f v g x r true = (g, v) :: r := rfl
theorem z_sfF (f g : S) (v x : VI) (r : List (S × VI)) : sfB f v g x r false = (g, x) :: setF f v r := rfl
def stoB (f : S) (y : VI) (σ : Sg) (n c : Nat) (fs : List (S × VI)) (h : Hi) : Bool → RS
  | true => .nx σ (h.set n (.ins c (setF f y fs)))
  | false => .err
def stoO (cs : List Nat) (f : S) (y : VI) (σ : Sg) (n : Nat) (h : Hi) : Option OI → RS
  | some (.ins c fs) => stoB f y σ n c fs h (cs.contains c && Nat.blt fs.length 1000)
  | _ => .err
def stoK (cs : List Nat) (f : S) (y : VI) (σ : Sg) : VI → Hi → RS := fun x h => match x with
  | .ref n => stoO cs f y σ n h h[n]?
  | _ => .err
theorem sto_eq (cs : List Nat) (f : S) (y : VI) (σ : Sg) (x : VI) (h2 : Hi) : (match x with
  | .ref n => match h2[n]? with
    | some (.ins c fs) => match cs.contains c && Nat.blt fs.length 1000 with
      | true => RS.nx σ (h2.set n (.ins c (setF f y fs)))
      | false => .err
    | _ => .err
  | _ => .err) = stoK cs f y σ x h2 := by
  cases x with
  | ref n =>
    show _ = stoO cs f y σ n h2 h2[n]?
    dsimp only
    cases h2[n]? with
    | none => rfl
    | some o =>
      cases o with
      | ins c fs =>
        show _ = stoB f y σ n c fs h2 (cs.contains c && Nat.blt fs.length 1000)
        dsimp only
        cases cs.contains c && Nat.blt fs.length 1000 <;> rfl
      | _ => rfl
  | _ => rfl
theorem z_sFldM (cs : List Nat) (f : S) (o v : ME) : sFldM cs f o v σ h = (v σ h).bindS σ fun y h1 => (o σ h1).bindS σ (stoK cs f y σ) := by
  unfold sFldM
  refine congrArg _ (funext fun y => funext fun h1 => congrArg _ (funext fun x => funext fun h2 => sto_eq cs f y σ x h2))
theorem z_gFld (cs : List Nat) (f : S) (o : ME) (y : VI) : gFld cs f o y σ h = (o σ h).bindS σ (stoK cs f y σ) := by
  unfold gFld
  exact congrArg _ (funext fun x => funext fun h2 => sto_eq cs f y σ x h2)
theorem z_stoK (cs : List Nat) (f : S) (y : VI) (n : Nat) : stoK cs f y σ (.ref n) h = stoO cs f y σ n h h[n]? := rfl
theorem z_stoO (cs : List Nat) (f : S) (y : VI) (n c : Nat) (fs : List (S × VI)) : stoO cs f y σ n h (some (.ins c fs)) = stoB f y σ n c fs h (cs.contains c && Nat.blt fs.length 1000) := rfl
theorem z_stoB (f : S) (y : VI) (n c : Nat) (fs : List (S × VI)) : stoB f y σ n c fs h true = .nx σ (h.set n (.ins c (setF f y fs))) := rfl
theorem z_blt (a b : Nat) : Nat.blt a b = decide (a < b) := by
  cases q : Nat.blt a b with
  | true => rw [Nat.blt_eq] at q; simp [q]
  | false =>
    have : ¬ a < b := fun z => by rw [← Nat.blt_eq] at z; rw [z] at q; cases q
    simp [this]
theorem z_beq (a b : Nat) : Nat.beq a b = decide (a = b) := by
  cases q : Nat.beq a b with
  | true => have := Nat.eq_of_beq_eq_true q; simp [this]
  | false => have := Nat.ne_of_beq_eq_false q; simp [this]
def augB (f : S) (z : VI) (σ : Sg) (n c : Nat) (fs : List (S × VI)) (h : Hi) : Bool → RS
  | true => .nx σ (h.set n (.ins c (setF f z fs)))
  | false => .err
def augO (cs : List Nat) (fn : S) (c : Nat) (n : Nat) (z : VI) (σ : Sg) (h : Hi) : Option OI → RS
  | some (.ins c' fs') => augB fn z σ n c' fs' h (cs.contains c' && (Nat.beq c' c && Nat.blt fs'.length 1000))
  | _ => .err
def augP (cs : List Nat) (fn : S) (c : Nat) (n : Nat) (σ : Sg) : Option (VI × Hi) → RS
  | some (z, h3) => augO cs fn c n z σ h3 h3[n]?
  | none => .err
def augR (cs : List Nat) (fn : S) (f : Op2) (e : ME) (σ : Sg) (n c : Nat) (h1 : Hi) : Bool → Option VI → RS
  | true, some v => (e σ h1).bindS σ fun y h2 => augP cs fn c n σ (f v y h2)
  | _, _ => .err
def augQ (cs : List Nat) (fn : S) (f : Op2) (e : ME) (σ : Sg) (n : Nat) (h1 : Hi) : Option OI → RS
  | some (.ins c fs) => augR cs fn f e σ n c h1 (cs.contains c) (getF fn fs)
  | _ => .err
def augK (cs : List Nat) (fn : S) (f : Op2) (e : ME) (σ : Sg) : VI → Hi → RS := fun x h1 => match x with
  | .ref n => augQ cs fn f e σ n h1 h1[n]?
  | _ => .err
theorem z_sFldAug (cs : List Nat) (fn : S) (f : Op2) (o e : ME) : sFldAug cs fn f o e σ h = (o σ h).bindS σ (augK cs fn f e σ) := by
  unfold sFldAug
  refine congrArg _ (funext fun x => funext fun h1 => ?_)
  cases x with
  | ref n =>
    show _ = augQ cs fn f e σ n h1 h1[n]?
    dsimp only
    cases h1[n]? with
    | none => rfl
    | some o =>
      cases o with
      | ins c fs =>
        show _ = augR cs fn f e σ n c h1 (cs.contains c) (getF fn fs)
        dsimp only
        cases cs.contains c with
        | false => cases getF fn fs <;> rfl
        | true =>
          cases getF fn fs with
          | none => rfl
          | some v =>
            show _ = (e σ h1).bindS σ fun y h2 => augP cs fn c n σ (f v y h2)
            dsimp only
            refine congrArg _ (funext fun y => funext fun h2 => ?_)
            cases f v y h2 with
            | none => rfl
            | some p =>
              obtain ⟨z, h3⟩ := p
              show _ = augO cs fn c n z σ h3 h3[n]?
              dsimp only
              cases h3[n]? with
              | none => rfl
              | some ob =>
                cases ob with
                | ins c' fs' =>
                  show _ = augB fn z σ n c' fs' h3 _
                  dsimp only
                  cases cs.contains c' && (Nat.beq c' c && Nat.blt fs'.length 1000) <;> rfl
                | _ => rfl
      | _ => rfl
  | _ => rfl
theorem z_augK (cs : List Nat) (fn : S) (f : Op2) (e : ME) (n : Nat) : augK cs fn f e σ (.ref n) h = augQ cs fn f e σ n h h[n]? := rfl
theorem z_augQ (cs : List Nat) (fn : S) (f : Op2) (e : ME) (n c : Nat) (fs : List (S × VI)) : augQ cs fn f e σ n h (some (.ins c fs)) = augR cs fn f e σ n c h (cs.contains c) (getF fn fs) := rfl
theorem z_augR (cs : List Nat) (fn : S) (f : Op2) (e : ME) (n c : Nat) (v : VI) : augR cs fn f e σ n c h true (some v) = (e σ h).bindS σ fun y h2 => augP cs fn c n σ (f v y h2) := rfl
theorem z_augP (cs : List Nat) (fn : S) (c n : Nat) (z : VI) : augP cs fn c n σ (some (z, h)) = augO cs fn c n z σ h h[n]? := rfl
theorem z_augO (cs : List Nat) (fn : S) (c c' n : Nat) (z : VI) (fs' : List (S × VI)) : augO cs fn c n z σ h (some (.ins c' fs')) = augB fn z σ n c' fs' h (cs.contains c' && (Nat.beq c' c && Nat.blt fs'.length 1000)) := rfl
theorem z_augB (f : S) (z : VI) (n c : Nat) (fs : List (S × VI)) : augB f z σ n c fs h true = .nx σ (h.set n (.ins c (setF f z fs))) := rfl
def metB (ma : MA) (σ : Sg) (n : Nat) (h : Hi) : Option MF → Option VI → Res VI
  | some g, none => (ma σ h).bind fun vs h2 => g (.ref n :: vs) h2
  | _, _ => .err
def metO (tbl : Nat → Option MF) (m : S) (ma : MA) (σ : Sg) (n : Nat) (h : Hi) : Option OI → Res VI
  | some (.ins c fs) => metB ma σ n h (tbl c) (getF m fs)
  | _ => .err
def metK (tbl : Nat → Option MF) (m : S) (ma : MA) (σ : Sg) : VI → Hi → Res VI := fun x h => match x with
  | .ref n => metO tbl m ma σ n h h[n]?
  | _ => .err
theorem z_eMeth (tbl : Nat → Option MF) (m : S) (o : ME) (ma : MA) : eMeth tbl m o ma σ h = (o σ h).bind (metK tbl m ma σ) := by
  unfold eMeth
  refine congrArg _ (funext fun x => funext fun h1 => ?_)
  cases x with
  | ref n =>
    show _ = metO tbl m ma σ n h1 h1[n]?
    dsimp only
    cases h1[n]? with
    | none => rfl
    | some o =>
      cases o with
      | ins c fs =>
        show _ = metB ma σ n h1 (tbl c) (getF m fs)
        dsimp only
        cases tbl c <;> cases getF m fs <;> rfl
      | _ => rfl
  | _ => rfl
theorem z_metK (tbl : Nat → Option MF) (m : S) (ma : MA) (n : Nat) : metK tbl m ma σ (.ref n) h = metO tbl m ma σ n h h[n]? := rfl
theorem z_metO (tbl : Nat → Option MF) (m : S) (ma : MA) (n c : Nat) (fs : List (S × VI)) : metO tbl m ma σ n h (some (.ins c fs)) = metB ma σ n h (tbl c) (getF m fs) := rfl
theorem z_metB (ma : MA) (n : Nat) (g : MF) : metB ma σ n h (some g) none = (ma σ h).bind fun vs h2 => g (.ref n :: vs) h2 := rfl
def prpB (n : Nat) (h : Hi) : Option MF → Res VI
  | some g => okM (g [.ref n] h)
  | none => .err
def prpO (tbl : Nat → Option MF) (n : Nat) (h : Hi) : Option OI → Res VI
  | some (.ins c _) => prpB n h (tbl c)
  | _ => .err
def prpK (tbl : Nat → Option MF) : VI → Hi → Res VI := fun x h => match x with
  | .ref n => prpO tbl n h h[n]?
  | _ => .err
theorem z_eProp (tbl : Nat → Option MF) (e : ME) : eProp tbl e σ h = (e σ h).bind (prpK tbl) := by
  unfold eProp
  refine congrArg _ (funext fun x => funext fun h1 => ?_)
  cases x with
  | ref n =>
    show _ = prpO tbl n h1 h1[n]?
    dsimp only
    cases h1[n]? with
    | none => rfl
    | some o =>
      cases o with
      | ins c fs =>
        show _ = prpB n h1 (tbl c)
        dsimp only
        cases tbl c <;> rfl
      | _ => rfl
  | _ => rfl
theorem z_prpK (tbl : Nat → Option MF) (n : Nat) : prpK tbl (.ref n) h = prpO tbl n h h[n]? := rfl
theorem z_prpO (tbl : Nat → Option MF) (n c : Nat) (fs : List (S × VI)) : prpO tbl n h (some (.ins c fs)) = prpB n h (tbl c) := rfl
theorem z_prpB (n : Nat) (g : MF) : prpB n h (some g) = okM (g [.ref n] h) := rfl
theorem z_okM (v : VI) : okM (.ok v h) = .ok v h := rfl
def conB (h : Hi) : Option VI → Option VI → Res VI
  | some v, none => .ok v h
  | _, _ => .err
def conO (tbl : Nat → Option VI) (f : S) (h : Hi) : Option OI → Res VI
  | some (.ins c fs) => conB h (tbl c) (getF f fs)
  | _ => .err
def conK (tbl : Nat → Option VI) (f : S) : VI → Hi → Res VI := fun x h => match x with
  | .ref n => conO tbl f h h[n]?
  | _ => .err
theorem z_eCon (tbl : Nat → Option VI) (f : S) (e : ME) : eCon tbl f e σ h = (e σ h).bind (conK tbl f) := by
  unfold eCon
  refine congrArg _ (funext fun x => funext fun h1 => ?_)
  cases x with
  | ref n =>
    show _ = conO tbl f h1 h1[n]?
    dsimp only
    cases h1[n]? with
    | none => rfl
    | some o =>
      cases o with
      | ins c fs =>
        show _ = conB h1 (tbl c) (getF f fs)
        dsimp only
        cases tbl c <;> cases getF f fs <;> rfl
      | _ => rfl
  | _ => rfl
theorem z_conK (tbl : Nat → Option VI) (f : S) (n : Nat) : conK tbl f (.ref n) h = conO tbl f h h[n]? := rfl
theorem z_conO (tbl : Nat → Option VI) (f : S) (c : Nat) (fs : List (S × VI)) : conO tbl f h (some (.ins c fs)) = conB h (tbl c) (getF f fs) := rfl
theorem z_conB (v : VI) : conB h (some v) none = .ok v h := rfl
def ltB {γ : Type} (x : γ) (r : List (Nat × γ)) (c : Nat) : Bool → Option γ
  | true => some x
  | false => lkT r c
theorem z_lkT {γ : Type} (d c : Nat) (x : γ) (r : List (Nat × γ)) : lkT ((d, x) :: r) c = ltB x r c (decide (d = c)) := by
  rw [← z_beq]
  unfold ltB
  rw [lkT]
  all_goals (cases Nat.beq d c <;> rfl)
theorem z_lkT0 {γ : Type} (c : Nat) : lkT ([] : List (Nat × γ)) c = none := rfl
theorem z_ltT {γ : Type} (x : γ) (r : List (Nat × γ)) (c : Nat) : ltB x r c true = some x := rfl
theorem z_ltF {γ : Type} (x : γ) (r : List (Nat × γ)) (c : Nat) : ltB x r c false = lkT r c := rfl
def lsB {γ : Type} (x : γ) (r : List (S × γ)) (c : S) : Bool → Option γ
  | true => some x
  | false => lkS r c
theorem z_lkS {γ : Type} (d c : S) (x : γ) (r : List (S × γ)) : lkS ((d, x) :: r) c = lsB x r c (decide (d = c)) := by
  unfold lsB
  rw [lkS]
  all_goals (cases decide (d = c) <;> rfl)
theorem z_lkS0 {γ : Type} (c : S) : lkS ([] : List (S × γ)) c = none := rfl
theorem z_lsT {γ : Type} (x : γ) (r : List (S × γ)) (c : S) : lsB x r c true = some x := rfl
theorem z_lsF {γ : Type} (x : γ) (r : List (S × γ)) (c : S) : lsB x r c false = lkS r c := rfl
def kdB2 (h : Hi) : Option VI → Res VI
  | some w => .ok w h
  | none => .err
def kdK (tbl : S → Option VI) : VI → Hi → Res VI := fun v h => match v with
  | .str s => kdB2 h (tbl s)
  | _ => .err
theorem z_eKd (tbl : S → Option VI) (b : ME) : eKd tbl b σ h = (b σ h).bind (kdK tbl) := by
  unfold eKd
  refine congrArg _ (funext fun v => funext fun h1 => ?_)
  cases v with
  | str s =>
    show _ = kdB2 h1 (tbl s)
    dsimp only
    cases tbl s <;> rfl
  | _ => rfl
theorem z_kdK (tbl : S → Option VI) (s : S) : kdK tbl (.str s) h = kdB2 h (tbl s) := rfl
theorem z_kdB (w : VI) : kdB2 h (some w) = .ok w h := rfl
def okO (h : Hi) : Option VI → Res VI
  | some v => .ok v h
  | none => .err
def ixDB (o : Option VI) (h : Hi) : Bool → Res VI
  | true => okO h o
  | false => .err
def ixV (n : Nat) (y : VI) (h : Hi) : Option MF → Res VI
  | some g => g [.ref n, y] h
  | none => .err
def ixO (tbl : Nat → Option MF) (n : Nat) (y : VI) (h : Hi) : Option OI → Res VI
  | some (.ins c _) => ixV n y h (tbl c)
  | some (.lst xs) => match y with
    | .int i => okO h (ixL xs i)
    | _ => .err
  | some (.scr xs) => match y with
    | .int i => okO h (ixL xs i)
    | _ => .err
  | some (.dic kvs) => ixDB (getD y kvs) h (isKey y)
  | _ => .err
def ixK (tbl : Nat → Option MF) (x : VI) : VI → Hi → Res VI := fun y h => match x with
  | .tup xs => match y with
    | .int i => okO h (ixL xs i)
    | _ => .err
  | .ref n => ixO tbl n y h h[n]?
  | _ => .err
theorem z_eIxU (tbl : Nat → Option MF) (a b : ME) : eIxU tbl a b σ h = (a σ h).bind fun x h1 => (b σ h1).bind (ixK tbl x) := by
  unfold eIxU
  refine congrArg _ (funext fun x => funext fun h1 => congrArg _ (funext fun y => funext fun h2 => ?_))
  cases x with
  | tup xs =>
    show ofO (fIx (.tup xs) y h2) = _
    unfold fIx ixK
    cases y with
    | int i => dsimp only; cases ixL xs i <;> rfl
    | _ => rfl
  | ref n =>
    show (match insC (.ref n) h2 with | some c => _ | none => _) = ixO tbl n y h2 h2[n]?
    unfold insC fIx
    dsimp only
    cases h2[n]? with
    | none => rfl
    | some o =>
      cases o with
      | ins c fs => show _ = ixV n y h2 (tbl c); dsimp only; cases tbl c <;> rfl
      | lst xs => cases y with
        | int i => show _ = okO h2 (ixL xs i); dsimp only; cases ixL xs i <;> rfl
        | _ => rfl
      | scr xs => cases y with
        | int i => show _ = okO h2 (ixL xs i); dsimp only; cases ixL xs i <;> rfl
        | _ => rfl
      | dic kvs =>
        show _ = ixDB (getD y kvs) h2 (isKey y)
        dsimp only
        cases isKey y <;> cases getD y kvs <;> rfl
      | xd fs => rfl
      | dnk kvs => rfl
      | dcl kvs => rfl
      | dnl kvs => rfl
      | exo _ _ => rfl
  | _ => rfl
theorem z_ixT (tbl : Nat → Option MF) (xs : List VI) (i : Int) : ixK tbl (.tup xs) (.int i) h = okO h (ixL xs i) := rfl
theorem z_ixR (tbl : Nat → Option MF) (n : Nat) (y : VI) : ixK tbl (.ref n) y h = ixO tbl n y h h[n]? := rfl
theorem z_ixI (tbl : Nat → Option MF) (n c : Nat) (y : VI) (fs : List (S × VI)) : ixO tbl n y h (some (.ins c fs)) = ixV n y h (tbl c) := rfl
theorem z_ixL (tbl : Nat → Option MF) (n : Nat) (i : Int) (xs : List VI) : ixO tbl n (.int i) h (some (.lst xs)) = okO h (ixL xs i) := rfl
theorem z_ixS (tbl : Nat → Option MF) (n : Nat) (i : Int) (xs : List VI) : ixO tbl n (.int i) h (some (.scr xs)) = okO h (ixL xs i) := rfl
theorem z_ixD (tbl : Nat → Option MF) (n : Nat) (y : VI) (kvs : List (VI × VI)) : ixO tbl n y h (some (.dic kvs)) = ixDB (getD y kvs) h (isKey y) := rfl
theorem z_ixDB (o : Option VI) : ixDB o h true = okO h o := rfl
theorem z_ixV (n : Nat) (y : VI) (g : MF) : ixV n y h (some g) = g [.ref n, y] h := rfl
theorem z_okO (v : VI) : okO h (some v) = .ok v h := rfl
theorem z_keyS (s : S) : isKey (.str s) = true := rfl
theorem z_keyI (s : Int) : isKey (.int s) = true := rfl
def gdB (k v : VI) (r : List (VI × VI)) : Bool → Option VI
  | true => some v
  | false => getD k r
theorem z_getD (k a v : VI) (r : List (VI × VI)) : getD k ((a, v) :: r) = gdB k v r (keyEq a k) := by
  unfold gdB
  rw [getD]
  all_goals (cases keyEq a k <;> rfl)
theorem z_getD0 (k : VI) : getD k [] = none := rfl
theorem z_gdT (k v : VI) (r : List (VI × VI)) : gdB k v r true = some v := rfl
theorem z_gdF (k v : VI) (r : List (VI × VI)) : gdB k v r false = getD k r := rfl
theorem z_keS (a b : S) : keyEq (.str a) (.str b) = decide (a = b) := rfl
theorem z_keI (a b : Int) : keyEq (.int a) (.int b) = decide (a = b) := rfl
theorem z_ixL0 (x : VI) (xs : List VI) : ixL (x :: xs) 0 = some x := by simp [ixL, ixI]
def pixL (n : Nat) (xs : List VI) (v : VI) (σ : Sg) (h : Hi) : Option Nat → RS
  | some j => .nx σ (h.set n (.lst (xs.set j v)))
  | none => .err
def pixD (n : Nat) (y v : VI) (kvs : List (VI × VI)) (σ : Sg) (h : Hi) : Bool → RS
  | true => .nx σ (h.set n (.dic (putD y v kvs)))
  | false => .err
def pixV (n : Nat) (y v : VI) (σ : Sg) (h : Hi) : Option MF → RS
  | some g => dropV σ (g [.ref n, y, v] h)
  | none => .err
def pixO (tbl : Nat → Option MF) (n : Nat) (y v : VI) (σ : Sg) (h : Hi) : Option OI → RS
  | some (.ins c _) => pixV n y v σ h (tbl c)
  | some (.lst xs) => match y with
    | .int k => pixL n xs v σ h (ixI xs.length k)
    | _ => .err
  | some (.dic kvs) => pixD n y v kvs σ h (isKey y && small (kvs.length + 1))
  | _ => .err
def pixK (tbl : Nat → Option MF) (v : VI) (σ : Sg) (x : VI) : VI → Hi → RS := fun y h => match x with
  | .ref n => pixO tbl n y v σ h h[n]?
  | _ => .err
theorem z_gIxU (tbl : Nat → Option MF) (o i : ME) (v : VI) : gIxU tbl o i v σ h = (o σ h).bindS σ fun x h1 => (i σ h1).bindS σ (pixK tbl v σ x) := by
  unfold gIxU
  refine congrArg _ (funext fun x => funext fun h1 => congrArg _ (funext fun y => funext fun h2 => ?_))
  cases x with
  | ref n =>
    show (match insC (.ref n) h2 with | some c => _ | none => _) = pixO tbl n y v σ h2 h2[n]?
    unfold insC putIx
    dsimp only
    cases h2[n]? with
    | none => rfl
    | some o =>
      cases o with
      | ins c fs => show _ = pixV n y v σ h2 (tbl c); dsimp only; cases tbl c <;> rfl
      | lst xs => cases y with
        | int i => show _ = pixL n xs v σ h2 (ixI xs.length i); dsimp only; cases ixI xs.length i <;> rfl
        | _ => rfl
      | scr xs => rfl
      | dic kvs =>
        show _ = pixD n y v kvs σ h2 (isKey y && small (kvs.length + 1))
        dsimp only
        cases isKey y && small (kvs.length + 1) <;> rfl
      | xd fs => rfl
      | dnk kvs => rfl
      | dcl kvs => rfl
      | dnl kvs => rfl
      | exo _ _ => rfl
  | _ => rfl
theorem z_pixR (tbl : Nat → Option MF) (n : Nat) (y v : VI) : pixK tbl v σ (.ref n) y h = pixO tbl n y v σ h h[n]? := rfl
theorem z_pixI (tbl : Nat → Option MF) (n c : Nat) (y v : VI) (fs : List (S × VI)) : pixO tbl n y v σ h (some (.ins c fs)) = pixV n y v σ h (tbl c) := rfl
theorem z_pixLo (tbl : Nat → Option MF) (n : Nat) (k : Int) (v : VI) (xs : List VI) : pixO tbl n (.int k) v σ h (some (.lst xs)) = pixL n xs v σ h (ixI xs.length k) := rfl
theorem z_pixDo (tbl : Nat → Option MF) (n : Nat) (y v : VI) (kvs : List (VI × VI)) : pixO tbl n y v σ h (some (.dic kvs)) = pixD n y v kvs σ h (isKey y && small (kvs.length + 1)) := rfl
theorem z_pixL (n j : Nat) (xs : List VI) (v : VI) : pixL n xs v σ h (some j) = .nx σ (h.set n (.lst (xs.set j v))) := rfl
theorem z_pixD (n : Nat) (y v : VI) (kvs : List (VI × VI)) : pixD n y v kvs σ h true = .nx σ (h.set n (.dic (putD y v kvs))) := rfl
theorem z_pixV (n : Nat) (y v : VI) (g : MF) : pixV n y v σ h (some g) = dropV σ (g [.ref n, y, v] h) := rfl
theorem z_dropV (v : VI) : dropV σ (.ok v h) = .nx σ h := rfl
def cmpB (x y : VI) (h : Hi) : Option MF → Bool → Res VI
  | some g, true => boolR (g [x, y] h)
  | _, _ => .err
def cmpC (cs : List Nat) (tbl : Nat → Option MF) (f : Op2) (x y : VI) (h : Hi) : Option Nat → Res VI
  | some c => cmpB x y h (tbl c) (nfI cs (tyI y h))
  | none => ofO (f x y h)
def cmpK (cs : List Nat) (tbl : Nat → Option MF) (f : Op2) (x : VI) : VI → Hi → Res VI := fun y h => cmpC cs tbl f x y h (insC x h)
theorem z_eCmpU (cs : List Nat) (tbl : Nat → Option MF) (f : Op2) (a b : ME) : eCmpU cs tbl f a b σ h = (a σ h).bind fun x h1 => (b σ h1).bind (cmpK cs tbl f x) := by
  unfold eCmpU
  refine congrArg _ (funext fun x => funext fun h1 => congrArg _ (funext fun y => funext fun h2 => ?_))
  unfold cmpK cmpC
  cases insC x h2 with
  | none => rfl
  | some c => dsimp only; unfold cmpB; cases tbl c <;> cases nfI cs (tyI y h2) <;> rfl
theorem z_cmpK (cs : List Nat) (tbl : Nat → Option MF) (f : Op2) (x y : VI) : cmpK cs tbl f x y h = cmpC cs tbl f x y h (insC x h) := rfl
theorem z_cmpN (cs : List Nat) (tbl : Nat → Option MF) (f : Op2) (x y : VI) : cmpC cs tbl f x y h none = ofO (f x y h) := rfl
theorem z_cmpS (cs : List Nat) (tbl : Nat → Option MF) (f : Op2) (x y : VI) (c : Nat) : cmpC cs tbl f x y h (some c) = cmpB x y h (tbl c) (nfI cs (tyI y h)) := rfl
theorem z_cmpB (x y : VI) (g : MF) : cmpB x y h (some g) true = boolR (g [x, y] h) := rfl
theorem z_boolR (b : Bool) : boolR (.ok (.bl b) h) = .ok (.bl b) h := rfl
def neuC (cs : List Nat) (tbl : Nat → Option MF) (f : Op2) (x y : VI) (h : Hi) : Option Nat → Res VI
  | some c => match tbl c, nfI cs (tyI y h) with
    | some g, true => negR (g [x, y] h)
    | _, _ => .err
  | none => ofO (f x y h)
def neuK (cs : List Nat) (tbl : Nat → Option MF) (f : Op2) (x : VI) : VI → Hi → Res VI := fun y h => neuC cs tbl f x y h (insC x h)
theorem z_eNeU (cs : List Nat) (tbl : Nat → Option MF) (f : Op2) (a b : ME) : eNeU cs tbl f a b σ h = (a σ h).bind fun x h1 => (b σ h1).bind (neuK cs tbl f x) := by
  unfold eNeU
  refine congrArg _ (funext fun x => funext fun h1 => congrArg _ (funext fun y => funext fun h2 => ?_))
  unfold neuK neuC
  cases insC x h2 <;> rfl
theorem z_neuK (cs : List Nat) (tbl : Nat → Option MF) (f : Op2) (x y : VI) : neuK cs tbl f x y h = neuC cs tbl f x y h (insC x h) := rfl
theorem z_neuN (cs : List Nat) (tbl : Nat → Option MF) (f : Op2) (x y : VI) : neuC cs tbl f x y h none = ofO (f x y h) := rfl
def isiB (h : Hi) : Option Bool → Res VI
  | some b => .ok (.bl b) h
  | none => .err
def isiK (T : IsT) : VI → Hi → Res VI := fun v h => isiB h (isT T v h)
theorem z_eIsi (T : IsT) (e : ME) : eIsi T e σ h = (e σ h).bind (isiK T) := by
  unfold eIsi
  refine congrArg _ (funext fun v => funext fun h1 => ?_)
  unfold isiK isiB
  cases isT T v h1 <;> rfl
theorem z_isiK (T : IsT) (v : VI) : isiK T v h = isiB h (isT T v h) := rfl
theorem z_isiB (b : Bool) : isiB h (some b) = .ok (.bl b) h := rfl
def isO (T : IsT) : Option OI → Option Bool
  | some (.lst _) => T.lst
  | some (.scr _) => T.lst
  | some (.dic _) => T.dic
  | some (.ins c _) => T.ins c
  | _ => none
theorem z_isR (T : IsT) (n : Nat) : isT T (.ref n) h = isO T h[n]? := by
  unfold isT isO
  dsimp only
  all_goals
    cases h[n]? with
    | none => rfl
    | some o => cases o <;> rfl
theorem z_isN (T : IsT) : isT T .non h = T.non := rfl
theorem z_isB (T : IsT) (b : Bool) : isT T (.bl b) h = T.bl := rfl
theorem z_isI (T : IsT) (b : Int) : isT T (.int b) h = T.int := rfl
theorem z_isS (T : IsT) (b : S) : isT T (.str b) h = T.str := rfl
theorem z_isT (T : IsT) (b : List VI) : isT T (.tup b) h = T.tup := rfl
theorem z_isOl (T : IsT) (b : List VI) : isO T (some (.lst b)) = T.lst := rfl
theorem z_isOd (T : IsT) (b : List (VI × VI)) : isO T (some (.dic b)) = T.dic := rfl
theorem z_isOi (T : IsT) (c : Nat) (b : List (S × VI)) : isO T (some (.ins c b)) = T.ins c := rfl
def insO : Option OI → Option Nat
  | some (.ins c _) => some c
  | _ => none
theorem z_insR (n : Nat) : insC (.ref n) h = insO h[n]? := by
  unfold insC insO
  dsimp only
  all_goals
    cases h[n]? with
    | none => rfl
    | some o => cases o <;> rfl
theorem z_insOi (c : Nat) (b : List (S × VI)) : insO (some (.ins c b)) = some c := rfl
theorem z_insOl (b : List VI) : insO (some (.lst b)) = none := rfl
theorem z_insOs (b : List VI) : insO (some (.scr b)) = none := rfl
theorem z_insOd (b : List (VI × VI)) : insO (some (.dic b)) = none := rfl
theorem z_insI (i : Int) : insC (.int i) h = none := rfl
theorem z_insS (i : S) : insC (.str i) h = none := rfl
theorem z_insN : insC .non h = none := rfl
theorem z_insT (xs : List VI) : insC (.tup xs) h = none := rfl
theorem z_insB (b : Bool) : insC (.bl b) h = none := rfl
def lenC (tbl : Nat → Option MF) (x : VI) (h : Hi) : Option Nat → Res VI
  | some c => match tbl c with
    | some g => lenR (g [x] h)
    | none => .err
  | none => ofO (cLen [x] h)
def lenK (tbl : Nat → Option MF) : VI → Hi → Res VI := fun x h => lenC tbl x h (insC x h)
theorem z_eLenU (tbl : Nat → Option MF) (a : ME) : eLenU tbl a σ h = (a σ h).bind (lenK tbl) := by
  unfold eLenU
  refine congrArg _ (funext fun x => funext fun h1 => ?_)
  unfold lenK lenC
  cases insC x h1 <;> rfl
theorem z_lenK (tbl : Nat → Option MF) (x : VI) : lenK tbl x h = lenC tbl x h (insC x h) := rfl
theorem z_lenN (tbl : Nat → Option MF) (x : VI) : lenC tbl x h none = ofO (cLen [x] h) := rfl
theorem z_cLenT (xs : List VI) : cLen [.tup xs] h = some (.int xs.length, h) := rfl
def clO (h : Hi) : Option OI → Option (VI × Hi)
  | some (.lst xs) => some (.int xs.length, h)
  | some (.scr xs) => some (.int xs.length, h)
  | some (.dic kvs) => some (.int kvs.length, h)
  | _ => none
theorem z_cLenR (n : Nat) : cLen [.ref n] h = clO h h[n]? := by
  unfold cLen clO
  dsimp only
  all_goals
    cases h[n]? with
    | none => rfl
    | some o => cases o <;> rfl
theorem z_clL (xs : List VI) : clO h (some (.lst xs)) = some (.int xs.length, h) := rfl
theorem z_clS (xs : List VI) : clO h (some (.scr xs)) = some (.int xs.length, h) := rfl
theorem z_clD (xs : List (VI × VI)) : clO h (some (.dic xs)) = some (.int xs.length, h) := rfl
theorem z_cListT (xs : List VI) : cList [.tup xs] h = some (.ref h.length, h ++ [.lst xs]) := rfl
def cliO (h : Hi) : Option OI → Option (VI × Hi)
  | some (.lst xs) => some (.ref h.length, h ++ [.lst xs])
  | some (.scr xs) => some (.ref h.length, h ++ [.lst xs])
  | some (.dic kvs) => some (.ref h.length, h ++ [.lst (kvs.map (·.1))])
  | _ => none
theorem z_cListR (n : Nat) : cList [.ref n] h = cliO h h[n]? := by
  unfold cList cliO
  dsimp only
  all_goals
    cases h[n]? with
    | none => rfl
    | some o => cases o <;> rfl
theorem z_cliL (xs : List VI) : cliO h (some (.lst xs)) = some (.ref h.length, h ++ [.lst xs]) := rfl
theorem z_cTupT (xs : List VI) : cTuple [.tup xs] h = some (.tup xs, h) := rfl
def ctuO (h : Hi) : Option OI → Option (VI × Hi)
  | some (.lst xs) => some (.tup xs, h)
  | some (.scr xs) => some (.tup xs, h)
  | _ => none
theorem z_cTupR (n : Nat) : cTuple [.ref n] h = ctuO h h[n]? := by
  unfold cTuple ctuO
  dsimp only
  all_goals
    cases h[n]? with
    | none => rfl
    | some o => cases o <;> rfl
theorem z_ctuL (xs : List VI) : ctuO h (some (.lst xs)) = some (.tup xs, h) := rfl
def slC (x : VI) (l : Option Int) : Option Int → Hi → Res VI := fun u h => ofO (sliceM x l u h)
theorem z_eSl (e : ME) (lo hi : MO) : eSl e lo hi σ h = (e σ h).bind fun x h1 => (lo σ h1).bind fun l h2 => (hi σ h2).bind (slC x l) := rfl
theorem z_slC (x : VI) (l u : Option Int) : slC x l u h = ofO (sliceM x l u h) := rfl
theorem z_slT (xs : List VI) (l u : Option Int) : sliceM (.tup xs) l u h = some (.tup (cutI xs l u), h) := rfl
theorem z_oNo : oNo σ h = .ok none h := rfl
def osK : VI → Hi → Res (Option Int) := fun v h1 => match v with
  | .int i => .ok (some i) h1
  | _ => .err
theorem z_oSome (e : ME) : oSome e σ h = (e σ h).bind osK := rfl
theorem z_osK (i : Int) : osK (.int i) h = .ok (some i) h := rfl
def mkE (n : Nat) : Res VI → Res VI
  | .ok .non h2 => .ok (.ref n) h2
  | .ex c m h2 => .ex c m h2
  | _ => .err
theorem z_mkM (c : Nat) (g : MF) (vs : List VI) : mkM c g vs h = mkE h.length (g (.ref h.length :: vs) (h ++ [.ins c []])) := by
  unfold mkM mkE
  cases g (.ref h.length :: vs) (h ++ [.ins c []]) with
  | ok v h2 => cases v <;> rfl
  | _ => rfl
theorem z_mkE (n : Nat) : mkE n (.ok .non h) = .ok (.ref n) h := rfl
theorem z_mkK (c : Nat) (g : MF) (arr : List VI → List VI → List VI) (vs zs : List VI) : mkK c g arr vs zs h = mkE h.length (g (arr (.ref h.length :: vs) zs) (h ++ [.ins c []])) := by
  unfold mkK mkE
  cases g (arr (.ref h.length :: vs) zs) (h ++ [.ins c []]) with
  | ok v h2 => cases v <;> rfl
  | _ => rfl
theorem z_run0 (n : Nat) (b : MS) : runB 0 n b [] h = endB (b (List.replicate n none) h) := rfl
theorem z_run1 (n : Nat) (b : MS) (a0 : VI) : runB 1 n b [a0] h = endB (b (some a0 :: List.replicate n none) h) := rfl
theorem z_run2 (n : Nat) (b : MS) (a0 a1 : VI) : runB 2 n b [a0, a1] h = endB (b (some a0 :: some a1 :: List.replicate n none) h) := rfl
theorem z_run3 (n : Nat) (b : MS) (a0 a1 a2 : VI) : runB 3 n b [a0, a1, a2] h = endB (b (some a0 :: some a1 :: some a2 :: List.replicate n none) h) := rfl
theorem z_run4 (n : Nat) (b : MS) (a0 a1 a2 a3 : VI) : runB 4 n b [a0, a1, a2, a3] h = endB (b (some a0 :: some a1 :: some a2 :: some a3 :: List.replicate n none) h) := rfl
theorem z_run5 (n : Nat) (b : MS) (a0 a1 a2 a3 a4 : VI) : runB 5 n b [a0, a1, a2, a3, a4] h = endB (b (some a0 :: some a1 :: some a2 :: some a3 :: some a4 :: List.replicate n none) h) := rfl
theorem z_run6 (n : Nat) (b : MS) (a0 a1 a2 a3 a4 a5 : VI) : runB 6 n b [a0, a1, a2, a3, a4, a5] h = endB (b (some a0 :: some a1 :: some a2 :: some a3 :: some a4 :: some a5 :: List.replicate n none) h) := rfl
theorem z_rep0 : (List.replicate 0 none : Sg) = [] := rfl
theorem z_rep (n : Nat) : (List.replicate (n + 1) none : Sg) = none :: List.replicate n none := rfl
end
end ML
end
section
namespace PySem.HandSPX
open PySem PySem.Spec PySem.Calls PyProof.Rows
section
variable {M : Model} {A : Around} {E : Value → Shared → Prop} {h : Heap} {g : Array GenState} {d : Drawn} {t : Nat} {os : OsState}
variable {nm q : Str} {C N : Addr} {bs bm bmB : List Value} {hdct : Bool} {sn : List Str} {sub : List Value} {ab : Bool} {col : Option Bool} {dd : Option Addr} {k0 k1 k2 k3 k5 : Option Value} {B newId initId : String}
theorem check_new_ownK (F : ExcBaseFacts B newId initId bmB) (hT : ∀ X : String, bm.contains (.type X) = bmB.contains (.type X)) {rest : List Value} {kw : List (Str × Value)} {Q : Unit → Shared → Prop}
    (hC : h.get? C = some (excClassObj nm q C N bs bm hdct sn sub ab col dd k0 k1 k2 k3 k5 newId)) (hq : Q () ⟨h, g, d, t, os⟩) : wpAny M A (checkBuiltinCall newId ⟨.ref C :: rest, kw⟩) Q E ⟨h, g, d, t, os⟩ := by
  have hcont : (Value.ref C :: bm).contains (.type B) = true := by rw [List.contains_cons, hT, F.hasB, Bool.or_true]
  have hstar := F.noStar
  simp only [checkBuiltinCall, F.newKind, F.newSplit, F.newRow]
  repeat (first | refine wpAny_loadPart_at hC ?_ | (refine wpAny_isSubtype_exc hC ?_; rw [hcont]) | refine wpAny_staticBase_exc hC ?_ | refine wpAny_madeBy_exc hC ?_ | simp only [bne_self_eq_false, Bool.false_eq_true, if_false] | wp_step)
  exact hq
end
section
variable {prog : Program} {w : World} {A : Around} {E : Value → Shared → Prop} {R : Result → Shared → Prop} {h : Heap} {g : Array GenState} {d : Drawn} {t : Nat} {os : OsState}
variable {nm q : Str} {C N : Addr} {bs bm bmB : List Value} {hdct : Bool} {sn : List Str} {sub : List Value} {ab : Bool} {col : Option Bool} {dd : Option Addr} {k0 k1 k2 k3 k5 : Option Value} {B newId initId : String}
theorem new_ownK (F : ExcBaseFacts B newId initId bmB) (hT : ∀ X : String, bm.contains (.type X) = bmB.contains (.type X)) {rest : List Value} {n : Str} {v : Value}
    (hC : h.get? C = some (excClassObj nm q C N bs bm hdct sn sub ab col dd k0 k1 k2 k3 k5 newId))
    (hq : R (.ok (.ret (.ref (h.objs.size + 1)))) ⟨(h.push { cls := .type "tuple", data := .seq rest.toArray }).push
      { cls := .ref C, data := .fields #[.ref h.objs.size, .none, .none, .none, .bool false, .none] }, g, d, t, os⟩) (hrest : rest.length ≤ sizeLine) :
    codeAny (model prog w) A (.builtin newId ⟨.ref C :: rest, [(n, v)]⟩) R ⟨h, g, d, t, os⟩ := by
  have hends := F.ends
  have hcB : (Value.ref C :: bm).contains (.type B) = true := by rw [List.contains_cons, hT, F.hasB, Bool.or_true]
  have hcA : (Value.ref C :: bm).contains (.type "AttributeError") = false := by rw [List.contains_cons, hT, F.noAttr]; rfl
  have hcN : (Value.ref C :: bm).contains (.type "NameError") = false := by rw [List.contains_cons, hT, F.noName]; rfl
  refine codeAny_builtinAt F.entry ?_
  unfold Builtin.«BaseException.__new__»
  refine wpAt_bind ?_
  show wpAt _ _ _ (stack >>= _) _ _ _
  refine wpAt_bind (wpAt_stack fun p below => wpAt_of_wpAny ?_)
  wp_walk
  refine wpAt_of_wpAny ?_
  rw [F.owner]
  repeat (first | with_reducible refine wpAny_madeHere_exc F.canon hC ?_ | with_reducible refine wpAny_loadPart_at hC ?_ | (with_reducible refine wpAny_isSubtype_exc hC ?_; first | rw [hcB] | rw [hcA] | rw [hcN]) | wp_step)
  show R _ _
  rw [Heap.size_push]
  exact hq
theorem wpAny_check_type_call_subK {M : Model} {A : Around} {E : Value → Shared → Prop} {rest : List Value} {kw : List (Str × Value)} {Q : Unit → Shared → Prop} (hC : h.get? C = some (excClassObj nm q C N bs bm hdct sn sub ab col dd k0 k1 k2 k3 k5 newId))
    (hq : Q () ⟨h, g, d, t, os⟩) : wpAny M A (checkBuiltinCall "type.__call__" ⟨.ref C :: rest, kw⟩) Q E ⟨h, g, d, t, os⟩ := by
  have f3 := tc_sub
  have hT : (⟨h, g, d, t, os⟩ : Shared).TypeIs (.ref C) "type" := ⟨_, hC, rfl⟩
  simp only [checkBuiltinCall, tc_kind, tc_split]
  repeat (any_goals (first | assumption | with_reducible refine wpAny_loadPart_at hC ?_ | with_reducible refine wpAny_onRaise ?_ | with_reducible refine wpAny_map ?_ | wp_step))
theorem type_call_ownK (F : ExcBaseFacts B newId initId bmB) (hT : ∀ X : String, bm.contains (.type X) = bmB.contains (.type X)) {rest : List Value} {n : Str} {v : Value} {fI : Addr} {Q : Fin → Shared → Prop}
    (hC : h.get? C = some (excClassObj nm q C N bs bm hdct sn sub ab col dd k0 k1 k2 k3 k5 newId))
    (hi : W.Looks (model prog w) h (typeLookup (.ref C) "__init__") (some (.ref fI))) (hb : ∀ self, W.Looks (model prog w) h (bindSpecial (.ref fI) self) (.ref fI, [self])) (hrest : rest.length ≤ sizeLine)
    (hq : codeAny (model prog w) A (.call (.ref fI) ⟨.ref (h.objs.size + 1) :: rest, [(n, v)]⟩)
      (fun r s' => match r with | .ok (.ret v) => v = .none ∧ Q (.done (.ret (.ref (h.objs.size + 1)))) s' | .ok _ => False | .error e => E e s')
      ⟨(h.push (W.kdv_tup rest)).push (excO C h.objs.size), g, d, t, os⟩) :
    wpAny (model prog w) A (Builtin.«type.__call__» ⟨.ref C :: rest, [(n, v)]⟩) Q E ⟨h, g, d, t, os⟩ := by
  repeat (first | with_reducible refine wpAny_loadPart_at hC ?_ | with_reducible refine wpAny_madeBy_exc hC ?_ | wp_step)
  refine codeAny_call_builtin_code (Code.quiet_builtin _ F.quiet) (check_new_ownK F hT hC ?_)
  refine new_ownK F hT hC ?_ hrest
  show wpAny _ _ _ _ _ _
  have k : ∀ b o, h.get? b = some o → ((h.push (W.kdv_tup rest)).push (excO C h.objs.size)).get? b = some o := fun b o e => Heap.get?_push_of_some _ (Heap.get?_push_of_some _ e)
  have hC₁ := k _ _ hC
  have hget : ((h.push (W.kdv_tup rest)).push (excO C h.objs.size)).get? (h.objs.size + 1) = some (excO C h.objs.size) := by heap_get
  have hcC : (Value.ref C :: bm).contains (.ref C) = true := by simp
  have i1 := hi.keeps k
  have b1 := (hb (.ref (h.objs.size + 1))).keeps k
  unfold isInstance
  repeat (first | with_reducible refine wpAny_loadPart_at hget ?_ | (with_reducible refine wpAny_isSubtype_exc hC₁ ?_; rw [hcC]) | wp_step)
  show wpAny _ _ (typeLookup (.ref C) _) _ _ _
  refine i1.at ?_
  refine wpAny_holding (wpAny_bind (b1.at ?_))
  refine wpAny_bind (wpAny_call (codeAny_mono hq fun r s' z => ?_))
  rcases r with e | (v | _ | _ | _) <;> first | exact z | exact z.elim | skip
  obtain ⟨rfl, z⟩ := z
  first
    | exact wpAny_pure (wpAny_pure z)
    | (wp_walk; exact z)
theorem call_ownK (F : ExcBaseFacts B newId initId bmB) (hT : ∀ X : String, bm.contains (.type X) = bmB.contains (.type X)) {rest : List Value} {n : Str} {v : Value} {fI : Addr}
    (hC : h.get? C = some (excClassObj nm q C N bs bm hdct sn sub ab col dd k0 k1 k2 k3 k5 newId))
    (hi : W.Looks (model prog w) h (typeLookup (.ref C) "__init__") (some (.ref fI))) (hb : ∀ self, W.Looks (model prog w) h (bindSpecial (.ref fI) self) (.ref fI, [self])) (hrest : rest.length ≤ sizeLine)
    (hq : codeAny (model prog w) (A.under (.builtin "type.__call__" ⟨.ref C :: rest, [(n, v)]⟩)) (.call (.ref fI) ⟨.ref (h.objs.size + 1) :: rest, [(n, v)]⟩) (W.InitBack (h.objs.size + 1) R)
      ⟨(h.push (W.kdv_tup rest)).push (excO C h.objs.size), g, d, t, os⟩) :
    codeAny (model prog w) A (.call (.ref C) ⟨rest, [(n, v)]⟩) R ⟨h, g, d, t, os⟩ := by
  have f1 := tc_lookup
  have f2 := tc_bind (.ref C)
  have hTy : (⟨h, g, d, t, os⟩ : Shared).TypeIs (.ref C) "type" := ⟨_, hC, rfl⟩
  refine codeAny_of_tree ?_
  show wpAny _ _ (callAny (.ref C) _) _ _ _
  repeat (any_goals (first | assumption | with_reducible refine wpAny_loadPart_at hC ?_ | wp_step))
  refine ⟨rfl, ?_⟩
  refine codeAny_call_builtin_at (Code.quiet_builtin _ (by decide +kernel)) entry_typeCall (wpAny_check_type_call_subK hC (type_call_ownK F hT hC hi hb hrest ?_))
  refine codeAny_mono hq fun r s' z => ?_
  rcases r with e | (v | _ | _ | _) <;> exact z
end
end PySem.HandSPX
end
section
namespace ML
open PySem PySem.Spec PyProof.Rows L2
theorem inv_xd {X : Cx} {pins : List (Addr × Obj)} {σ : L2.St} {H : Hp} {s : Shared} {d : Addr} {fs : List (Str × V)} (I : Inv X pins σ H s) (e : H d = some (exd d fs)) : Inv X pins σ (upd H d (.xd fs)) s := by
  obtain ⟨mA, hns, rel⟩ := exd_at I.hok e
  have ne : ∀ {b : Addr}, H b = none → b ≠ d := fun n z => by
    rw [z, e] at n
    cases n
  refine ⟨I.ok, I.os, I.bare, ⟨fun b o q n hb hq => I.base.keep b o q n hb hq, fun b o q n hb hq => I.base.slot b o q n hb hq, fun b o q n hq => ?_, fun b o q hq => I.base.there b o q hq, fun b xs q => ?_, fun b o u q => ?_, fun b ps q => ?_⟩, I.loc, I.cell, ?_, fun x c q => ?_, fun p hp => ?_, fun b u q => ?_, I.len⟩
  · have z := I.base.free b o q n hq
    rw [upd_ne (ne z)]
    exact z
  · have z := I.base.tups b xs q
    rw [upd_ne (at_ne e z exd_tup)]
    exact z
  · have z := I.base.frzs b o u q
    rw [upd_ne (ne_of z e (fun w => by cases w))]
    exact z
  · obtain ⟨m, z⟩ := I.base.tbls b ps q
    exact ⟨m, by rw [upd_ne (ne_of z e (fun w => by cases w))]; exact z⟩
  · rw [upd_ne (ne I.free)]
    exact I.free
  · rw [upd_ne (ne (I.freeC x c q))]
    exact I.freeC x c q
  · obtain ⟨q1, q2, q3, q4, q5⟩ := I.pin p hp
    exact ⟨q1, by rw [upd_ne (ne q2)]; exact q2, q3, q4, q5⟩
  · by_cases hb : b = d
    · subst hb
      rw [upd_same] at q
      cases q
      exact ⟨mA, hns, rel⟩
    · rw [upd_ne hb] at q
      exact (I.hok b u q).stay (fun c v hc z => z) (fun c hc => by rw [upd_ne (at_ne e hc exd_own)]; exact hc) fun c xs hc => by rw [upd_ne (at_ne e hc exd_tup)]; exact hc
def rExV (C : Addr) (f : Str) : V → Hp → VK → Prop := fun y H Q => ∀ a d, H a = none → H d = none → d ≠ a → Q (.ref a) (upd (upd H d (.xd [(f, y)])) a (exo a C (some d)))
section
variable {z : Bool} {X : Cx} {C fI : Addr} {k : Nat} {fd : FuncData} {ps : List Str} {f : Str} {pins : List (Addr × Obj)} {s : Shared} {σ : L2.St} {H : Hp} {y : V} {u : Value} {Q : VK}
theorem exv_end {hp h2 : Heap} {a : Addr} {R : Value → Shared → Prop} {s2 s' : Shared} {v : Value} (I2 : Inv X pins σ (upd H a (exo a C none)) s2) (n : H a = none) (h : rExV C f y H Q)
    (hq : CE X.stack X.prog X.w (upd H a (exo a C none)) s2 (fun x H2 => x = .non ∧ ∃ d, H d = none ∧ d ≠ a ∧ H2 = upd (upd (upd H a (exo a C none)) d (exd d [(f, y)])) a (exo a C (some d))) v s') : v = .none ∧ EP X pins σ Q (.ref a) s' := by
  obtain ⟨x, H2, J, rv, ev, d, nd, ne, eH⟩ := I2.after hq
  subst ev
  obtain rfl : v = .none := rv
  have ed : H2 d = some (exd d [(f, y)]) := by rw [eH, upd_ne ne, upd_same]
  have J2 := inv_xd J ed
  refine ⟨rfl, .ref a, _, J2, rfl, ?_⟩
  have : upd H2 d (.xd [(f, y)]) = upd (upd H d (.xd [(f, y)])) a (exo a C (some d)) := by
    rw [eH]
    funext b
    by_cases h1 : b = a
    · rw [h1, upd_ne ne.symm, upd_same, upd_same]
    · rw [upd_ne h1]
      by_cases h2 : b = d
      · rw [h2, upd_same, upd_same]
      · rw [upd_ne h2, upd_ne h1, upd_ne h2, upd_ne h1, upd_ne h2]
  rw [this]
  exact h a d n nd ne
theorem exv_pos (T : OexC X.K C) (iC : PySem.W.findIn X.K (.ref C) "__init__" = some (some (.ref fI))) (tI : PySem.W.typeIn X.K (.ref fI) = some (.type "function"))
    (F1 : FnOk X.prog X.w X.K X.mg X.base (CX z X.prog X.w) k fI fd ps (spI C f)) (hr : Room (k + 1) X.A) (hl2 : ps.length = 2) (hb : Binds X.K fd ps []) (I : Inv X pins σ H s) (r : RelV y u) (h : rExV C f y H Q) :
    wpAny (model X.prog X.w) X.A (call (.ref C) [u]) (EP X pins σ Q) X.xe s := by
  obtain ⟨nm, q, N, bs, bm, sn, sub, ab, col, dd, k0, k1, k2, k3, k5, hC, hbm⟩ := T.cls
  obtain ⟨hp, g, dr, tk, os⟩ := s
  have hsz : hp.objs.size ≤ hp.objs.size + 1 := Nat.le_succ _
  have hn : H (hp.objs.size + 1) = none := I.hok.fresh hsz
  have kk : ∀ b o, hp.get? b = some o → ((hp.push (PySem.W.kdv_tup [u])).push (PySem.HandSPX.excO C hp.objs.size)).get? b = some o := fun b o e => Heap.get?_push_of_some _ (Heap.get?_push_of_some _ e)
  have hget : ((hp.push (PySem.W.kdv_tup [u])).push (PySem.HandSPX.excO C hp.objs.size)).get? (hp.objs.size + 1) = some (PySem.HandSPX.excO C hp.objs.size) := by heap_get
  have I2 : Inv X pins σ (upd H (hp.objs.size + 1) (exo (hp.objs.size + 1) C none)) ⟨(hp.push (PySem.W.kdv_tup [u])).push (PySem.HandSPX.excO C hp.objs.size), g, dr, tk, os⟩ :=
    I.laid (t' := tk) (a := hp.objs.size + 1) (o := exo (hp.objs.size + 1) C none) (h' := (hp.push (PySem.W.kdv_tup [u])).push (PySem.HandSPX.excO C hp.objs.size)) kk hsz (exo_ok hget)
  have r2 : Vals [V.ref (hp.objs.size + 1), y] [Value.ref (hp.objs.size + 1), u] := .cons rfl (.cons r .nil)
  have sp : spI C f [V.ref (hp.objs.size + 1), y] (upd H (hp.objs.size + 1) (exo (hp.objs.size + 1) C none)) (fun x H2 => x = .non ∧ ∃ d, H d = none ∧ d ≠ hp.objs.size + 1 ∧ H2 = upd (upd (upd H (hp.objs.size + 1) (exo (hp.objs.size + 1) C none)) d (exd d [(f, y)])) (hp.objs.size + 1) (exo (hp.objs.size + 1) C (some d))) (fun _ _ _ => False) :=
    ⟨_, y, rfl, upd_same, fun dx nd ne => ⟨rfl, dx, by rw [upd_ne ne] at nd; exact nd, ne, rfl⟩⟩
  have b := hb ⟨(hp.push (PySem.W.kdv_tup [u])).push (PySem.HandSPX.excO C hp.objs.size), g, dr, tk, os⟩ [Value.ref (hp.objs.size + 1), u] I2.kIn (by rw [List.append_nil]; exact hl2.symm)
  rw [List.append_nil] at b
  refine wpAny_call (PySem.HandSPX.call_own F.excBase_ValueError (fun Y => PySem.HandSPX.refsVE_contains Y bm hbm) (I.kIn _ _ hC) (PySem.W.looks_findIn I.kIn iC) (fun self => PySem.W.bind_fn I.kIn self tI) (by rw [sizeLine_eq, List.length_singleton]; decide)
    (codeAny_mono (F1.run _ X.stack _ _ ⟨[Value.ref (hp.objs.size + 1), u], []⟩ [Value.ref (hp.objs.size + 1), u] _ _ (fun _ _ _ => False) (hr.make C [u] []) (I2.env0.make C [u] []) b r2 sp) fun r s' hq' => ?_))
  cases r with
  | error er =>
    obtain ⟨_, _, _, _, _, _, _, _, _, _, _, _, z⟩ := hq'
    exact z.elim
  | ok fl =>
    cases fl with
    | ret v => exact exv_end (R := fun _ _ => True) (hp := hp) (h2 := hp) I2 hn h hq'
    | next => exact False.elim hq'
    | brk => exact False.elim hq'
    | cont => exact False.elim hq'
end
end ML
end
section
namespace ML
open PySem PySem.Spec PyProof.Rows L2 He
def cExV (c : Nat) (f : S) : MF := fun args h => match args with
  | [v] => .ok (.ref (h.length + 1)) (h ++ [.xd [(f, v)]] ++ [.exo c h.length])
  | _ => .err
def kExV (c : Nat) (f : S) : MK := fun vs zs h => match vs, zs with
  | [], [v] => .ok (.ref (h.length + 1)) (h ++ [.xd [(f, v)]] ++ [.exo c h.length])
  | _, _ => .err
section
variable {z : Bool} {G : Gx} {W : WX} {X : Cx} {ρ : List Addr} {h : Hi} {H : Hp} {σ : L2.St} {k c : Nat} {C fI : Addr} {fd : FuncData} {ps : List Str} {f : S} {v : VI} {y : V} {Q : VK}
theorem exv_fin (hct : G.ct c = some C) (ag : Ag G ρ h H) (rv : RV G ρ H v y) (fin : FinG G ρ H (RV G) Q (fun c d H' => W c d σ H') (.ok (.ref (h.length + 1)) (h ++ [.xd [(f, v)]] ++ [.exo c h.length]))) : rExV C (toStr f) y H Q := by
  intro a d na nd ne
  have a1 : Ag G (ρ ++ [d]) (h ++ [.xd [(f, v)]]) (upd H d (.xd [(toStr f, y)])) := ag.new (o := .xd [(toStr f, y)]) (u := .xd [(f, v)]) nd ⟨_, upd_same, .cons rfl (rv.mono (Stp.new nd)) .nil⟩
  have n2 : upd H d (.xd [(toStr f, y)]) a = none := by rw [upd_ne ne.symm]; exact na
  have e1 : (ρ ++ [d] ++ [a])[h.length]? = some d := by rw [← ag.len]; simp
  have e2 : (ρ ++ [d] ++ [a])[h.length + 1]? = some a := by rw [← ag.len]; simp
  have a2 : Ag G (ρ ++ [d] ++ [a]) (h ++ [.xd [(f, v)]] ++ [.exo c h.length]) (upd (upd H d (.xd [(toStr f, y)])) a (exo a C (some d))) := a1.new (o := exo a C (some d)) (u := .exo c h.length) n2 ⟨C, d, hct, upd_same, e1⟩
  exact fin _ _ _ ((Stp.new nd).trans (Stp.new n2)) a2 (.ref e2)
theorem callM_exv (T : OexC X.K C) (iC : PySem.W.findIn X.K (.ref C) "__init__" = some (some (.ref fI))) (tI : PySem.W.typeIn X.K (.ref fI) = some (.type "function"))
    (F1 : FnOk X.prog X.w X.K X.mg X.base (CX z X.prog X.w) k fI fd ps (spI C (toStr f))) (hr : Room (k + 1) X.A) (hl2 : ps.length = 2) (hb : Binds X.K fd ps []) (hct : G.ct c = some C) : CallM X G W (.ref C) (cExV c f) := by
  intro pins s σ H us vs args ρ h Q I r ra ag fin
  cases ra with
  | nil => exact fin.elim
  | cons rv rr =>
    cases rr with
    | cons _ _ => exact fin.elim
    | nil =>
      cases r with
      | cons ru rr =>
        cases rr
        exact exv_pos T iC tI F1 hr hl2 hb I ru (exv_fin hct ag rv fin)
end
def eFldX (cs : List Nat) (f : S) (e : ME) : ME := fun σ h => (e σ h).bind fun x h1 => match x with
  | .ref k => match h1[k]? with
    | some (.exo c n) => match cs.contains c, h1[n]? with
      | true, some (.xd fs) => match getF f fs with
        | some v => .ok v h1
        | none => .err
      | _, _ => .err
    | _ => .err
  | _ => .err
def eIsX (tbl : Nat → Option Bool) (e : ME) : ME := fun σ h => (e σ h).bind fun x h1 => match x with
  | .ref k => match h1[k]? with
    | some (.exo c n) => match tbl c, h1[n]? with
      | some b, some (.xd _) => .ok (.bl b) h1
      | _, _ => .err
    | _ => .err
  | _ => .err
theorem exo_inst {X : Cx} {pins : List (Addr × Obj)} {σ : L2.St} {H : Hp} {s : Shared} {a C d : Addr} {fs : List (Str × V)} (I : Inv X pins σ H s) (ea : H a = some (exo a C (some d))) (ed : H d = some (.xd fs)) :
    ∃ (oe od : Obj), PySem.W.InstAt s.heap a oe C (some od) ∧ ∃ mA : Str → Option Value, (∀ f, RelO (fs.lookup f) (mA f)) ∧ ∀ n, PySem.W.lookIn n od = some (mA n) := by
  obtain ⟨t1, ho⟩ := exo_at I.hok ea
  have hx : ObjOk X.prog X.w H s.heap d (.xd fs) := I.hok d _ ed
  obtain ⟨mA, hns, hr⟩ := hx
  obtain ⟨od, hod, hl⟩ := lookIn_ns hns
  exact ⟨_, od, ⟨ho, rfl, rfl, hod⟩, mA, hr, hl⟩
section
variable {G : Gx} {W : WX} {X : Cx} {e ce : Expr} {me : ME} {pos p : Pos} {cs : List Nat} {f : S} {tbl : Nat → Option Bool} {cv : V} {u : Value}
theorem me_fldX {fs : Str} (ef : fs = toStr f) (hX : XcOk X.K G cs f) (he : PE X e (rdE G W me)) (hb : attributeBase e fs X.env (eval e X.env) = eval e X.env := by rfl) : PE X (.Attribute e fs pos) (rdE G W (eFldX cs f me)) := by
  subst ef
  refine ⟨fun pins s σ H Q I ⟨ρ, σi, h, as, ag, fin⟩ => ?_⟩
  refine attr_of hb (thn (he.run pins s σ H (fun x H1 => ∃ a C d fs v, x = .ref a ∧ H1 a = some (exo a C (some d)) ∧ H1 d = some (.xd fs) ∧ XfC X.K C ∧ PySem.W.findIn X.K (.ref C) (toStr f) = some none ∧ fs.lookup (toStr f) = some v ∧ Q v H1) I ?_) fun uu s1 hh => ?_)
  · exact rdG_go as ag fin fun ρ1 H1 h1 x x' st as ag r fi => by
      cases r with
      | @ref k a e1 =>
        dsimp only at fi
        cases q1 : h1[k]? with
        | none => rw [q1] at fi; exact fi.elim
        | some ob =>
          rw [q1] at fi
          cases ob with
          | exo c n =>
            dsimp only at fi
            cases q2 : cs.contains c with
            | false => rw [q2] at fi; exact fi.elim
            | true =>
              rw [q2] at fi
              cases q3 : h1[n]? with
              | none => rw [q3] at fi; exact fi.elim
              | some o2 =>
                rw [q3] at fi
                cases o2 with
                | xd gs =>
                  dsimp only at fi
                  obtain ⟨C, d, hct, hH, ed⟩ := ag.at_ q1 e1
                  obtain ⟨T, hno⟩ := hX c C q2 hct
                  obtain ⟨ls, hd, rf⟩ := ag.at_ q3 ed
                  have g := RFs.getF f rf
                  cases q4 : getF f gs with
                  | none => rw [q4] at fi; exact fi.elim
                  | some v =>
                    rw [q4] at fi g
                    obtain ⟨y, gy, ry⟩ := g
                    exact ⟨a, C, d, ls, y, rfl, hH, hd, T, hno, gy, fi.ok ag ry⟩
                | _ => exact fi.elim
          | _ => exact fi.elim
      | _ => exact fi.elim
  · obtain ⟨x, H1, I1, rx, a, C, d, fs, v, ex, ea, ed, T, hno, gy, q⟩ := hh
    subst ex
    obtain rfl : uu = Value.ref a := rx
    obtain ⟨oe, od, J, mA, hr, hl⟩ := exo_inst I1 ea ed
    obtain ⟨u, hu, ru⟩ := RelO.some_of (v := v) (o := mA (toStr f)) (by rw [← gy]; exact hr (toStr f))
    exact HandSPX.exc_get I1.kIn J T.ga T.gg T.exC (PySem.W.findObj_own T.hdC hno rfl (by rw [hl, hu])) (handed_of ru) ⟨v, H1, I1.tok _, ru, q⟩
def rIsX (K : PySem.W.Frag) : List V → Hp → VK → Prop := fun xs H Q => ∃ (a D d : Addr) (c : V) (cv : Value) (b : Bool) (fs : List (Str × V)), xs = [.ref a, c] ∧ H a = some (exo a D (some d)) ∧ H d = some (.xd fs) ∧ ExcC K D ∧ (∀ u, RelV c u → u = cv) ∧ PySem.W.kitOne K (.ref D) cv = some b ∧ Q (.bl b) H
theorem call_isX {X : Cx} : CallR X (.builtin "isinstance") (rIsX X.K) := by
  intro pins s σ H xs us Q I r h
  obtain ⟨a, D, d, c, cv, b, fs, rfl, ea, ed, C, hcv, e, q⟩ := h
  cases r with
  | cons rx rr =>
    cases rr with
    | cons rt rr =>
      cases rr
      cases rx
      have ec := hcv _ rt
      subst ec
      obtain ⟨oe, od, J, _⟩ := exo_inst I ea ed
      exact PySem.W.kia_one (kitx_excD C) I.kIn J e (fun z => nomatch z) fun tk => ⟨.bl b, H, I.kept (t' := tk) fun _ _ z => z, rfl, q⟩
theorem me_isX (hX : XiOk X.K G tbl u) (hg : Gl X "isinstance") (hm : X.mg "isinstance" = none) (he : PE X e (rdE G W me)) (hc : PE X ce (tC cv)) (cl : ClsV cv u)
    (hs1 : starEach [e, ce] X.env = (false, eval e X.env) :: starEach [ce] X.env := by rfl) (hs2 : starEach [ce] X.env = (false, eval ce X.env) :: starEach [] X.env := by rfl) (hpl : (backTo pos (starEach [ce] X.env)).any (·.1) = false := by rfl) :
    PE X (.Call (.Name "isinstance" p) [e, ce] [] pos) (rdE G W (eIsX tbl me)) :=
  PE.imp' (pe_callB (r := rIsX X.K) call_isX hg hm PyProof.Rows.boot_isinstance (pa_cons he (pa_cons hc pa_nil hs2) hs1) (by decide) (by decide) hs1 hpl) fun σ H Q ⟨ρ, σi, h, as, ag, fin⟩ => rdG_go as ag fin fun ρ1 H1 h1 x x' st as ag r fi => by
    cases r with
    | @ref k a e1 =>
      dsimp only at fi
      cases q1 : h1[k]? with
      | none => rw [q1] at fi; exact fi.elim
      | some ob =>
        rw [q1] at fi
        cases ob with
        | exo c n =>
          dsimp only at fi
          cases q2 : tbl c with
          | none => rw [q2] at fi; exact fi.elim
          | some b =>
            rw [q2] at fi
            cases q3 : h1[n]? with
            | none => rw [q3] at fi; exact fi.elim
            | some o2 =>
              rw [q3] at fi
              cases o2 with
              | xd gs =>
                obtain ⟨C, d, hct, hH, ed⟩ := ag.at_ q1 e1
                obtain ⟨T, hk⟩ := hX c C b q2 hct
                obtain ⟨ls, hd, rf⟩ := ag.at_ q3 ed
                exact ⟨a, C, d, cv, u, b, ls, rfl, hH, hd, T, (fun u2 r2 => cl.eq r2), hk, fi.ok ag (.bl b)⟩
              | _ => exact fi.elim
        | _ => exact fi.elim
    | _ => exact fi.elim
end
end ML
end
section
namespace ML
open PySem PySem.Spec PyProof.Rows L2 He
def fEqZ : Op2 := fun x y h => match x, y with
  | .ref a, .ref b => match h[a]?, h[b]? with
    | some (.lst xa), some (.lst xb) => match Nat.beq xa.length xb.length with
      | true => fEqX x y h
      | false => some (.bl false, h)
    | _, _ => fEqX x y h
  | _, _ => fEqX x y h
section
variable {G : Gx} {ρ : List Addr} {h : Hi} {H : Hp} {X : Cx} {Q : VK}
end
section
variable {r : List Nat} {s h : Hi}
instance : LOp fEqZ := ⟨fun r s h x y x' y' g p q => by
  have old := LOp.run (f := fEqX) r s h x y x' y' g p q
  unfold fEqZ
  cases p with
  | ref i =>
    cases q with
    | ref j =>
      obtain ⟨o, o', z1, z2, z3⟩ := g.no i
      obtain ⟨u, u', y1, y2, y3⟩ := g.no j
      dsimp only
      rw [z1, z2, y1, y2]
      cases z3 with
      | lst t =>
        cases y3 with
        | lst t' =>
          dsimp only
          rw [← t.length, ← t'.length]
          rename_i ka kb la lb
          cases f : Nat.beq ka.length la.length with
          | true => exact old
          | false => exact .ok g (.bl _)
        | _ => exact old
      | _ => exact old
    | _ => exact old
  | _ => exact old⟩
end
end ML
end
section
namespace L2
open PySem PySem.Spec PyProof.Rows
section
variable {X : Cx}
end
end L2
namespace ML
open PySem L2
def fMulX : Op2 := fun x y h => match x, y with
  | .tup xs, .int k => match decide (k = 1) with
    | true => some (.tup xs, h)
    | false => match decide (k = 0) && !xs.isEmpty with
      | true => some (.tup [], h)
      | false => fMul x y h
  | x, y => fMul x y h
variable {X : Cx} {G : Gx}
instance : LOp fMulX := ⟨fun r s h x y x' y' g p q => by
  have fb := LOp.run (f := fMul) r s h _ _ _ _ g p q
  unfold fMulX
  cases p with
  | tup i =>
    cases q with
    | int j =>
      dsimp only
      rw [isEmp2 i]
      split
      · exact .ok g (.tup i)
      · split
        · exact .ok g (.tup .nil)
        · exact fb
    | _ => exact fb
  | _ => exact fb⟩
end ML
end
section
namespace ML
open PySem PySem.Spec PyProof.Rows L2 He
section
variable {G : Gx} {W : WX} {X : Cx} {A : Around} {ρ : List Addr} {h : Hi} {H : Hp} {σ : L2.St} {k np : Nat} {f C : Addr} {fd : FuncData} {ps : List Str} {g : MF} {e : Expr} {es : List Expr} {pos p pos' : Pos} {ma : MA} {me : ME} {i : Nat} {x : Str} {tbl : Nat → Option MF}
def eCallI (i : Nat) (tbl : Nat → Option MF) (ma : MA) : ME := fun σ h => match σ[i]? with
  | some (some x) => match insC x h with
    | some _ => (ma σ h).bind fun vs h1 => match insC x h1 with
      | some c => match tbl c with
        | some g => g (x :: vs) h1
        | none => .err
      | none => .err
    | none => .err
  | _ => .err
def sAugU (i : Nat) (tbl : Nat → Option MF) (e : ME) : MS := fun σ h => match σ[i]? with
  | some (some x) => (e σ h).bindS σ fun y h1 => match insC x h1 with
    | some c => match tbl c with
      | some g => match g [x, y] h1 with
        | .ok z h2 => .nx (σ.set i (some z)) h2
        | _ => .err
      | none => .err
    | none => .err
  | _ => .err
end
section
variable {Y : Cx} {W : WX} {nm : Nat → Option Str} {mg : Str → Option Value}
end
section
variable {X : Cx} {W : WX} {nm : Option Str}
end
section
variable {X : Cx} {W : WX} {nm : Nat → Option Str} {e : Expr} {es : List Expr} {p pos : Pos} {ma : MA}
end
section
variable {ma : MA} {me : ME}
instance {i : Nat} {tbl : Nat → Option MF} [c : LTb tbl] [x : LA ma] : LE (eCallI i tbl ma) := ⟨fun r s h σ σ' g a => by
  unfold eCallI
  cases z : σ[i]? with
  | none => trivial
  | some o =>
    cases o with
    | none => trivial
    | some v =>
      obtain ⟨w, k1, k2⟩ := a.at_ i v z
      rw [k1]
      dsimp only
      rw [ins2 g k2]
      cases z0 : insC v s with
      | none => trivial
      | some d0 =>
        dsimp only
        refine (x.run r s h σ σ' g a).bind fun r1 s1 h1 vs vs' e1 g1 q1 => ?_
        rw [ins2 g1 (k2.mono e1)]
        cases z1 : insC v s1 with
        | none => trivial
        | some d =>
          dsimp only
          cases w0 : tbl d with
          | none => trivial
          | some u => exact (c.run _ _ w0).run _ _ _ _ _ g1 (.cons (k2.mono e1) q1)⟩
instance {i : Nat} {tbl : Nat → Option MF} [c : LTb tbl] [y : LE me] : LS (sAugU i tbl me) := ⟨fun r s h σ σ' g a => by
  unfold sAugU
  cases z : σ[i]? with
  | none => trivial
  | some o =>
    cases o with
    | none => trivial
    | some v =>
      obtain ⟨w, k1, k2⟩ := a.at_ i v z
      rw [k1]
      refine (y.run _ _ _ _ _ g a).bindS a fun r1 s1 h1 u u' e1 g1 q1 => ?_
      rw [ins2 g1 (k2.mono e1)]
      cases z1 : insC v s1 with
      | none => trivial
      | some d =>
        dsimp only
        cases w0 : tbl d with
        | none => trivial
        | some f =>
          have t := (c.run _ _ w0).run _ _ _ _ _ g1 (.cons (k2.mono e1) (.cons q1 .nil))
          cases z2 : f [v, u] s1 with
          | err => simp only [z2]; trivial
          | ex _ _ _ => simp only [z2]; trivial
          | ok z h2 =>
            rw [z2] at t
            obtain ⟨r2, h2, v', m1, m2, m3, m4⟩ := t
            simp only [m1, z2]
            exact ⟨r2, h2, _, rfl, m2, m3, ((a.mono e1).mono m2).set m4 i⟩⟩
end
end ML
end
section
namespace ML
open PySem PySem.Spec PyProof.Rows L2 He
def augEK (i : Nat) (tbl : Nat → Option MF) (σ : Sg) (x y : VI) (h1 : Hi) : RS := match insC x h1 with
  | some c => match tbl c with
    | some g => (g [x, y] h1).bindS σ fun z h2 => .nx (σ.set i (some z)) h2
    | none => .err
  | none => .err
def sAugE (i : Nat) (tbl : Nat → Option MF) (e : ME) : MS := fun σ h => match σ[i]? with
  | some (some x) => (e σ h).bindS σ (augEK i tbl σ x)
  | _ => .err
section
variable {G : Gx} {W : WX} {X : Cx} {op : Operator} {tbl : Nat → Option MF} {e : Expr} {me : ME} {i : Nat} {x : Str} {pos pos' : Pos}
section
variable {X : Cx} {x : Str} {c : Value} {body suite : List Stmt} {b₀ : Stmt} {np pos pos' : Pos} {tb : WX → TS} {ts : Addr → Value → Option Addr → TS} {Wout : WX}
end
def onlyS (mt : Nat → Option Bool) (su : MS) (c n : Nat) (σ : Sg) (h : Hi) : RS := match mt c with
  | some true => match su σ h with
    | .ex _ _ _ _ => .err
    | r => r
  | some false => .ex c n σ h
  | none => .err
def sTryO (body : MS) (mt : Nat → Option Bool) (su : MS) : MS := fun σ h => match body σ h with
  | .ex c n σ' h' => onlyS mt su c n σ' h'
  | r => r
end
section
variable {Y : Cx} {W : WX} {nm : Nat → Option Str} {mg : Str → Option Value}
end
def gLstM (gs : List MG) : MG := fun v σ h => match v with
  | .ref n => match listAt n h with
    | some xs => match Nat.beq xs.length gs.length with
      | true => gSeq gs xs σ h
      | false => .err
    | none => .err
  | _ => .err
section
variable {G : Gx} {W : WX} {X : Cx} {es : List Expr} {gs : List MG} {k : Nat} {pos : Pos}
end
end ML
end
section
namespace ML
open PySem PySem.Spec PyProof.Rows L2 He
def reprS (i : Int) : S := (Str.ofString (toString i)).cps.toList
def cRepr : OpC := fun vs h => match vs with
  | [.int i] => match decide (i.natAbs.log2 < 1920) with
    | true => some (.str (reprS i), h)
    | false => none
  | _ => none
section
variable {G : Gx} {X : Cx}
end
instance : LOc cRepr := ⟨fun r s h vs vs' g t => by
  unfold cRepr
  cases t with
  | nil => trivial
  | cons p t =>
    cases t with
    | cons _ _ => cases p <;> trivial
    | nil =>
      cases p with
      | int i =>
        dsimp only
        cases decide (i.natAbs.log2 < 1920) with
        | false => trivial
        | true => exact .ok g (.str _)
      | _ => trivial⟩
end ML
end
section
namespace ML
open PySem PySem.Spec PyProof.Rows L2 He
def kM (n : Nat) (gk : MK) : MF := fun vs h => match Nat.beq vs.length n with
  | true => gk vs [] h
  | false => .err
instance {n : Nat} {g : MF} {arr : List VI → List VI → List VI} [x : LF g] [y : LAr arr] : LF (kM n (fnK g arr)) := ⟨fun r s h vs vs' a t => by
  unfold kM
  rw [t.length]
  cases Nat.beq vs'.length n with
  | true => exact x.run _ _ _ _ _ a (y.run _ _ _ _ _ t .nil)
  | false => trivial⟩
instance {n m : Nat} {k : OpC} {b b' : MA} [x : LOc k] [y : LA2 n m b b'] : LE2 n m (eCB k b) (eCB k b') := ⟨fun r s h σ σ' q g a => (y.run r s h σ σ' q g a).bind fun r1 s1 h1 v v' e1 g1 q1 => .ofO (x.run _ _ _ _ _ g1 q1)⟩
end ML
end
section
namespace ML
open PySem PySem.Spec PyProof.Rows L2 He
def pch (c : Nat) : Bool := Nat.ble 32 c && (Nat.ble c 126 && (!Nat.beq c 39 && !Nat.beq c 92))
def digS (n : Nat) : S := (Nat.toDigits 10 n).map Char.toNat
def intS : Int → S
  | .ofNat n => digS n
  | .negSucc n => 45 :: digS (n + 1)
def joinS : List S → S
  | [] => []
  | [x] => x
  | x :: y :: r => x ++ ([44, 32] ++ joinS (y :: r))
mutual
def shD : PyData → Option S
  | .none => some [78, 111, 110, 101]
  | .bool b => some (if b then [84, 114, 117, 101] else [70, 97, 108, 115, 101])
  | .int i => if i.natAbs.log2 < 1920 then some (intS i) else none
  | .str x => if x.cps.toList.all pch then some (39 :: (x.cps.toList ++ [39])) else none
  | .list xs => match shDs xs with
    | some ts => some (91 :: (joinS ts ++ [93]))
    | none => none
  | .tuple xs => match shDs xs with
    | some ts => some (40 :: (joinS ts ++ (if ts.length == 1 then [44, 41] else [41])))
    | none => none
  | .dict _ => none
def shDs : List PyData → Option (List S)
  | [] => some []
  | x :: xs => match shD x with
    | some t => match shDs xs with
      | some ts => some (t :: ts)
      | none => none
    | none => none
end
theorem toStr_app (a b : S) : toStr (a ++ b) = toStr a ++ toStr b := by
  show (⟨(a ++ b).toArray⟩ : Str) = ⟨a.toArray ++ b.toArray⟩
  simp
theorem toStr_str (s : String) : (Str.ofString s) = toStr (s.toList.map Char.toNat) := by rw [Str.ofString_eq_toList]; rfl
theorem pch_print : ∀ c < 127, pch c = true → PySem.Unicode.isPrintable c = true := by decide +kernel
theorem rch {c : Nat} (h : pch c = true) : PySem.Builtin.Str.reprChar 39 c = [c] := by
  have h0 := h
  unfold pch at h
  simp only [Bool.and_eq_true, Bool.not_eq_true'] at h
  obtain ⟨h1, h2, h3, h4⟩ := h
  have a1 := Nat.le_of_ble_eq_true h1
  have a2 := Nat.le_of_ble_eq_true h2
  have a3 : c ≠ 39 := fun z => by rw [z] at h3; cases h3
  have a4 : c ≠ 92 := fun z => by rw [z] at h4; cases h4
  have p := pch_print c (by omega) h0
  unfold PySem.Builtin.Str.reprChar
  have b1 : (c == 39) = false := beq_eq_false_iff_ne.mpr a3
  have b2 : (c == 92) = false := beq_eq_false_iff_ne.mpr a4
  have b3 : (c == 10) = false := beq_eq_false_iff_ne.mpr (by omega)
  have b4 : (c == 13) = false := beq_eq_false_iff_ne.mpr (by omega)
  have b5 : (c == 9) = false := beq_eq_false_iff_ne.mpr (by omega)
  simp only [b1, b2, b3, b4, b5, p, Bool.or_self, Bool.false_eq_true, if_false, if_true]
theorem rtext {x : Str} (h : x.cps.toList.all pch = true) : reprText x = toStr (39 :: (x.cps.toList ++ [39])) := by
  have q : reprQuote x = 39 := by
    unfold reprQuote
    have n : x.cps.contains 39 = false := by
      rw [← Array.contains_toList]
      rw [Bool.eq_false_iff]
      intro z
      have := List.all_eq_true.mp h 39 (by simpa using z)
      cases this
    rw [n]
    rfl
  unfold reprText
  rw [q, ← Array.foldl_toList]
  have go : ∀ (l : List Nat) (acc : Array Nat), l.all pch = true → l.foldl (fun out c => out ++ (PySem.Builtin.Str.reprChar 39 c).toArray) acc = (acc.toList ++ l).toArray := by
    intro l
    induction l with
    | nil => intro acc _; simp
    | cons c l ih =>
      intro acc ha
      rw [List.all_cons, Bool.and_eq_true] at ha
      rw [List.foldl_cons, rch ha.1, ih _ ha.2]
      simp
  rw [go _ _ h]
  unfold toStr
  simp
theorem textFrom_join : ∀ (ts : List S) (k : Nat) (acc : Str), textFrom k acc (ts.map toStr) = acc ++ toStr (if k > 0 then (ts.flatMap fun t => [44, 32] ++ t) else joinS ts)
  | [], k, acc => by
    show acc = _
    have e : toStr ([] : S) = ⟨#[]⟩ := rfl
    split
    · show acc = acc ++ toStr []; rw [e]; show acc = ⟨acc.cps ++ #[]⟩; simp
    · show acc = acc ++ toStr []; rw [e]; show acc = ⟨acc.cps ++ #[]⟩; simp
  | t :: r, k, acc => by
    show textFrom (k + 1) (acc ++ (if k > 0 then ", " else "" : String) ++ toStr t) (r.map toStr) = _
    rw [textFrom_join r (k + 1), if_pos (Nat.succ_pos k)]
    have fl : ∀ (x : S) (r : List S), x ++ (r.flatMap fun t => [44, 32] ++ t) = joinS (x :: r) := by
      intro x r
      induction r generalizing x with
      | nil => simp [joinS]
      | cons y r ih => rw [List.flatMap_cons, joinS, ← ih y]; simp
    by_cases hk : k > 0
    · rw [if_pos hk, if_pos hk]
      have c : (Str.ofString ", ") = toStr [44, 32] := toStr_str _
      show (acc ++ Str.ofString ", " ++ toStr t) ++ _ = _
      rw [c, List.flatMap_cons]
      simp only [toStr_app]
      show (⟨_⟩ : Str) = ⟨_⟩
      congr 1
      show (acc.cps ++ _ ++ _) ++ _ = acc.cps ++ ((_ ++ _) ++ _)
      simp only [Array.append_assoc]
    · rw [if_neg hk, if_neg hk, ← fl]
      have c : (Str.ofString "") = toStr [] := toStr_str _
      show (acc ++ Str.ofString "" ++ toStr t) ++ _ = _
      rw [c]
      simp only [toStr_app]
      show (⟨_⟩ : Str) = ⟨_⟩
      congr 1
      show (acc.cps ++ (#[] : Array Nat) ++ _) ++ _ = acc.cps ++ (_ ++ _)
      simp only [Array.append_assoc, Array.append_empty, Array.empty_append]
theorem join_join : ∀ ts : List S, Str.join ", " (ts.map toStr) = toStr (joinS ts)
  | [] => rfl
  | [x] => rfl
  | x :: y :: r => by
    show toStr x ++ Str.ofString ", " ++ Str.join ", " ((y :: r).map toStr) = _
    rw [join_join (y :: r), toStr_str]
    show _ = toStr (x ++ ([44, 32] ++ joinS (y :: r)))
    simp only [toStr_app]
    show (⟨_⟩ : Str) = ⟨_⟩
    congr 1
    show (_ ++ _) ++ _ = _ ++ (_ ++ _)
    simp only [Array.append_assoc]
    rfl
theorem list_text (ts : List S) : listText (ts.map toStr) = toStr (91 :: (joinS ts ++ [93])) := by
  unfold listText
  rw [textFrom_join]
  show Str.ofString "[" ++ _ ++ Str.ofString "]" = _
  rw [if_neg (by decide), toStr_str, toStr_str, ← toStr_app, ← toStr_app]
  rfl
theorem tuple_text (ts : List S) : tupleText (ts.map toStr) = toStr (40 :: (joinS ts ++ (if ts.length == 1 then [44, 41] else [41]))) := by
  unfold tupleText
  rw [join_join, List.length_map]
  have e : (Str.ofString (if ts.length == 1 then ",)" else ")")) = toStr (if ts.length == 1 then [44, 41] else [41]) := by
    split
    · rw [toStr_str]; rfl
    · rw [toStr_str]; rfl
  show Str.ofString "(" ++ _ ++ Str.ofString _ = _
  rw [e, toStr_str, ← toStr_app, ← toStr_app]
  rfl
theorem int_text (i : Int) : (Str.ofString (toString i)) = toStr (intS i) := by
  rw [toStr_str]
  congr 1
  cases i with
  | ofNat n =>
    show (toString (Int.ofNat n)).toList.map Char.toNat = digS n
    have : toString (Int.ofNat n) = Nat.repr n := rfl
    rw [this, Nat.repr]
    unfold digS
    simp
  | negSucc n =>
    have : toString (Int.negSucc n) = "-" ++ Nat.repr (n + 1) := rfl
    rw [this, Nat.repr]
    show _ = 45 :: digS (n + 1)
    unfold digS
    simp
mutual
theorem shD_ok : ∀ (d : PyData) (s : S), shD d = some s → d.shown = toStr s ∧ d.showable = true
  | .none, s, e => by
    cases e
    refine ⟨?_, rfl⟩
    show Str.ofString "None" = _
    rw [toStr_str]; rfl
  | .bool b, s, e => by
    cases e
    refine ⟨?_, rfl⟩
    simp only [PyData.shown]
    cases b
    · exact toStr_str "False"
    · exact toStr_str "True"
  | .int i, s, e => by
    unfold shD at e
    split at e
    · cases e
      rename_i q
      refine ⟨?_, ?_⟩
      · show Str.ofString (toString i) = _
        exact int_text i
      · simp only [PyData.showable, decide_eq_true_eq]; exact q
    · cases e
  | .str x, s, e => by
    unfold shD at e
    split at e
    · cases e
      rename_i q
      exact ⟨rtext q, rfl⟩
    · cases e
  | .list xs, s, e => by
    unfold shD at e
    cases q : shDs xs with
    | none => rw [q] at e; cases e
    | some ts =>
      rw [q] at e
      cases e
      obtain ⟨h1, h2⟩ := shDs_ok xs ts q
      refine ⟨?_, by simp only [PyData.showable]; exact h2⟩
      simp only [PyData.shown]
      rw [h1]
      exact list_text ts
  | .tuple xs, s, e => by
    unfold shD at e
    cases q : shDs xs with
    | none => rw [q] at e; cases e
    | some ts =>
      rw [q] at e
      cases e
      obtain ⟨h1, h2⟩ := shDs_ok xs ts q
      refine ⟨?_, by simp only [PyData.showable]; exact h2⟩
      simp only [PyData.shown]
      rw [h1]
      exact tuple_text ts
  | .dict _, s, e => by cases e
theorem shDs_ok : ∀ (ds : List PyData) (ts : List S), shDs ds = some ts → PyData.shownAll ds = ts.map toStr ∧ PyData.showableAll ds = true
  | [], ts, e => by cases e; exact ⟨rfl, rfl⟩
  | d :: ds, ts, e => by
    unfold shDs at e
    cases q : shD d with
    | none => rw [q] at e; cases e
    | some t =>
      rw [q] at e
      cases q2 : shDs ds with
      | none => rw [q2] at e; cases e
      | some us =>
        rw [q2] at e
        cases e
        obtain ⟨h1, h2⟩ := shD_ok d t q
        obtain ⟨h3, h4⟩ := shDs_ok ds us q2
        refine ⟨?_, ?_⟩
        · simp only [PyData.shownAll, List.map_cons]
          rw [h1, h3]
        · simp only [PyData.showableAll, h2, h4, Bool.and_self]
end
def cRepD : OpC := fun vs h => match vs with
  | [v] => match dat 12 h v with
    | some d => match shD d with
      | some s => match Nat.ble d.depth 20 && small s.length with
        | true => some (.str s, h)
        | false => none
      | none => none
    | none => none
  | _ => none
section
variable {G : Gx} {X : Cx}
end
end ML
end
section
namespace ML
open PySem PySem.Spec PyProof.Rows L2 He
structure FnOkG (z : Bool) (P : Program) (w : World) (K : PySem.W.Frag) (mg : Str → Option Value) (base : Heap) (k : Nat) (f : Addr) (fd : FuncData) (ps : List Str) (sp : Sp) : Prop where
  gl : ∀ vs H Q E, sp vs H Q E → vs.length = ps.length
  go : ∀ (B : Around) (out : List Env) (t : Shared) (H : Hp) (a : Args) (us : List Value) (vs : List V) (Q : VK) (E : XK), B.guards = some [] → Room k B → Env0 P w K mg base B out t H → BindsTo t fd a (ps.zip us) → Vals vs us → sp vs H Q E →
    codeAny (model P w) B (.call (.ref f) a) (CR (CX z P w) out P w H t Q E) t
section
variable {G : Gx} {W : WX} {X : Cx} {k np : Nat} {f : Addr} {fd : FuncData} {ps : List Str} {g : MF} {P : Program} {w : World} {K : PySem.W.Frag} {mg : Str → Option Value} {base : Heap}
end
structure DOkG (z : Bool) (P : Program) (w : World) (K : PySem.W.Frag) (mg : Str → Option Value) (base : Heap) (nm : Nat → Option Str) (k : Nat) (p : Defn) (ps : List Str) (g : MF) : Prop where
  ok : FnOkG z P w K mg base k (p K) (fdOf K p) ps (spM (GxOf w K mg nm) ps.length g)
  ar : Arity ps.length g
  kp : PySem.W.keepIn K (.ref (p K)) = true
section
variable {G : Gx} {W : WX} {X : Cx} {e : Expr} {es : List Expr} {pos p : Pos} {ma : MA} {nm : Nat → Option Str}
end
section
variable {P : Program} {w : World} {K : PySem.W.Frag} {mg mb : Str → Option Value} {k : Nat} {fa a : Addr} {fd : FuncData} {x : Str} {sp : Sp} {s1 : Shared} {vs : List Value} {ns : List Int}
end
end ML
end
section
namespace PySem
open Sem (wp)
open AutoSeq1 (wpAny_loadPart')
section
variable {prog : Program} {w : World} {A : Around} {E : Value → Shared → Prop} {s : Shared}
end
end PySem
namespace L2
open PySem PySem.Spec PyProof.Rows
end L2
namespace ML
open PySem PySem.Spec PyProof.Rows L2 He
def enumV (xs : List VI) : List VI := xs.mapIdx fun i x => .tup [.int (i : Nat), x]
def enuOf : VI → Hi → Option Itm := fun v h => match v with
  | .tup xs => some (.tup (enumV xs))
  | v => enlOf v h
def iEnumU (e : ME) : MI := fun σ h => (e σ h).bind fun v h1 => ofI (enuOf v h1) h1
section
variable {G : Gx} {W : WX} {X : Cx} {e : Expr} {me : ME} {ρ : List Addr} {H : Hp} {p pos tpos : Pos} {elts : List Expr} {kk : Nat}
end
end ML
namespace ML
open PySem PySem.Spec PyProof.Rows L2 He
theorem enumV_r2 {r : List Nat} {xs ys : List VI} (t : RVs2 r xs ys) : RVs2 r (enumV xs) (enumV ys) := by
  have go : ∀ (xs ys : List VI) (k : Nat), RVs2 r xs ys → RVs2 r (xs.mapIdx fun i x => .tup [.int ((i + k : Nat)), x]) (ys.mapIdx fun i x => .tup [.int ((i + k : Nat)), x]) := by
    intro xs
    induction xs with
    | nil => intro ys k t; cases t; exact .nil
    | cons x xs ih =>
      intro ys k t
      cases t with
      | @cons _ y _ ys' p q =>
        simp only [List.mapIdx_cons]
        refine .cons (.tup (.cons (.int _) (.cons p .nil))) ?_
        have := ih ys' (k + 1) q
        simpa [Nat.add_assoc, Nat.add_comm 1 k] using this
  have := go xs ys 0 t
  simpa [enumV] using this
instance {ma : ME} [x : LE ma] : LI (iEnumU ma) := ⟨fun r s h σ σ' g a => (x.run r s h σ σ' g a).bind fun r1 s1 h1 v v' e1 g1 q1 => by
  unfold enuOf
  cases q1 with
  | @ref n m p =>
    have k := listAt2 g1 p
    unfold enlOf
    dsimp only
    cases z1 : listAt n s1 with
    | none => trivial
    | some xs => cases z2 : listAt m h1 with
      | none => rw [z1, z2] at k; exact k.elim
      | some ys => exact .ok g1 (.enl p)
  | tup t => exact .ok g1 (.tup (enumV_r2 t))
  | _ => trivial⟩
end ML
end
section
namespace ML
open PySem L2
def kdInK (neg : Bool) (tbl : S → Option VI) : VI → Hi → Res VI := fun v h1 => match v with
  | .str s => match tbl s with
    | some _ => .ok (.bl (!neg)) h1
    | none => .err
  | _ => .err
def eKdIn (neg : Bool) (tbl : S → Option VI) (b : ME) : ME := fun σ h => (b σ h).bind (kdInK neg tbl)
section
variable {G : Gx} {W : WX} {X : Cx} {b : Expr} {pos p : Pos} {mb : ME}
end
end ML
end
section
namespace ML
open PySem L2
instance {neg : Bool} {tbl : S → Option VI} {ma : ME} [x : LE ma] : LE (eKdIn neg tbl ma) := ⟨fun r s h σ σ' g a => (x.run r s h σ σ' g a).bind fun r1 s1 h1 v v' e1 g1 q1 => by
  cases q1 with
  | str y =>
    dsimp only [kdInK]
    cases z : tbl y with
    | none => trivial
    | some w => exact .ok g1 (.bl _)
  | _ => trivial⟩
end ML
end
section
namespace HT
open PySem PySem.Spec PyProof.Rows L2
section
variable {prog : Program} {w : World} {A : Around} {E : Value → Shared → Prop} {s : Shared}
end
end HT
namespace L2
open PySem PySem.Spec PyProof.Rows
section
variable {X : Cx}
end
end L2
namespace ML
open PySem L2
section
variable {G : Gx} {W : WX} {X : Cx} {e : Expr} {me : ME} {ρ : List Addr} {H : Hp}
theorem RVs.reverse : ∀ {xs : List VI} {ys : List V}, RVs G ρ H xs ys → RVs G ρ H xs.reverse ys.reverse
  | _, _, .nil => .nil
  | _, _, .cons h t => by
    rw [List.reverse_cons, List.reverse_cons]
    exact (RVs.reverse t).append (.cons h .nil)
def revM (x : VI) (h : Hi) : Option (VI × Hi) := match x with
  | .tup xs => some (.tup xs.reverse, h)
  | .ref n => match h[n]? with
    | some (.lst xs) => some (.ref h.length, h ++ [.lst xs.reverse])
    | some (.scr xs) => some (.ref h.length, h ++ [.lst xs.reverse])
    | _ => none
  | _ => none
def eRev (e : ME) : ME := fun σ h => (e σ h).bind fun x h1 => ofO (revM x h1)
end
end ML
end
section
namespace ML
open PySem L2
theorem RVs2.reverse {r : List Nat} : ∀ {v x : List VI}, RVs2 r v x → RVs2 r v.reverse x.reverse
  | _, _, .nil => .nil
  | _, _, .cons a t => by
    rw [List.reverse_cons, List.reverse_cons]
    exact (RVs2.reverse t).append (.cons a .nil)
instance {ma : ME} [x : LE ma] : LE (eRev ma) := ⟨fun r s h σ σ' g a => (x.run r s h σ σ' g a).bind fun r1 s1 h1 v v' e1 g1 q1 => by
  refine .ofO ?_
  unfold revM
  cases q1 with
  | tup t => exact .ok g1 (.tup t.reverse)
  | ref i =>
    obtain ⟨o, o', z1, z2, z3⟩ := g1.no i
    dsimp only
    rw [z1, z2]
    cases z3 with
    | lst t => exact .new g1 fun r' e => .lst (t.reverse.mono e)
    | scr t => exact .new g1 fun r' e => .lst (t.reverse.mono e)
    | _ => trivial
  | _ => trivial⟩
end ML
end
section
namespace ML
open PySem L2
instance {i : Nat} {tbl : Nat → Option MF} {me : ME} [c : LTb tbl] [y : LE me] : LS (sAugE i tbl me) := ⟨fun r s h σ σ' g a => by
  unfold sAugE
  cases z : σ[i]? with
  | none => trivial
  | some o =>
    cases o with
    | none => trivial
    | some v =>
      obtain ⟨w, k1, k2⟩ := a.at_ i v z
      rw [k1]
      refine (y.run _ _ _ _ _ g a).bindS a fun r1 s1 h1 u u' e1 g1 q1 => ?_
      unfold augEK
      rw [ins2 g1 (k2.mono e1)]
      cases z1 : insC v s1 with
      | none => trivial
      | some d =>
        dsimp only
        cases w0 : tbl d with
        | none => trivial
        | some f => exact ((c.run _ _ w0).run _ _ _ _ _ g1 (.cons (k2.mono e1) (.cons q1 .nil))).bindS (a.mono e1) fun r2 s2 h2 z z' e2 g2 q2 => ⟨r2, h2, _, rfl, .refl, g2, ((a.mono e1).mono e2).set q2 i⟩⟩
instance {body su : MS} {mt : Nat → Option Bool} [x : LS body] [y : LS su] : LS (sTryO body mt su) := ⟨fun r s h σ σ' g a => by
  have k := x.run r s h σ σ' g a
  unfold sTryO
  cases z : body σ s with
  | err => trivial
  | nx σ1 s' => rw [z] at k; obtain ⟨r2, h2, m, e1, e2, g2, a2⟩ := k; rw [e1]; exact ⟨r2, h2, _, rfl, e2, g2, a2⟩
  | bk σ1 s' => rw [z] at k; obtain ⟨r2, h2, m, e1, e2, g2, a2⟩ := k; rw [e1]; exact ⟨r2, h2, _, rfl, e2, g2, a2⟩
  | ct σ1 s' => rw [z] at k; obtain ⟨r2, h2, m, e1, e2, g2, a2⟩ := k; rw [e1]; exact ⟨r2, h2, _, rfl, e2, g2, a2⟩
  | rt v s' => rw [z] at k; obtain ⟨r2, h2, m, e1, e2, g2, a2⟩ := k; rw [e1]; exact ⟨r2, h2, _, rfl, e2, g2, a2⟩
  | ex c n σ1 s' =>
    rw [z] at k
    obtain ⟨r2, h2, σ2, m, e1, e2, g2, a2, q⟩ := k
    rw [e1]
    refine L2S.ext e2 ?_
    show L2S r2 h2 (onlyS mt su c n σ1 s') (onlyS mt su c m σ2 h2)
    unfold onlyS
    cases w : mt c with
    | none => trivial
    | some b =>
      cases b with
      | false => exact ⟨r2, h2, σ2, m, rfl, .refl, g2, a2, q⟩
      | true =>
        have t := y.run r2 s' h2 σ1 σ2 g2 a2
        dsimp only
        cases z2 : su σ1 s' with
        | err => trivial
        | ex _ _ _ _ => trivial
        | nx σ3 s3 => rw [z2] at t; obtain ⟨r3, h3, m, e1, e2, g2, a2⟩ := t; rw [e1]; exact ⟨r3, h3, _, rfl, e2, g2, a2⟩
        | bk σ3 s3 => rw [z2] at t; obtain ⟨r3, h3, m, e1, e2, g2, a2⟩ := t; rw [e1]; exact ⟨r3, h3, _, rfl, e2, g2, a2⟩
        | ct σ3 s3 => rw [z2] at t; obtain ⟨r3, h3, m, e1, e2, g2, a2⟩ := t; rw [e1]; exact ⟨r3, h3, _, rfl, e2, g2, a2⟩
        | rt v s3 => rw [z2] at t; obtain ⟨r3, h3, m, e1, e2, g2, a2⟩ := t; rw [e1]; exact ⟨r3, h3, _, rfl, e2, g2, a2⟩⟩
instance {gs : List MG} [q : LGs gs] : LG (gLstM gs) := ⟨fun r s h σ σ' v v' g a p => by
  unfold gLstM
  cases p with
  | @ref n m t =>
    dsimp only
    have k := listAt2 g t
    cases z1 : listAt n s with
    | none => trivial
    | some xs =>
      cases z2 : listAt m h with
      | none => rw [z1, z2] at k; cases k
      | some ys =>
        rw [z1, z2] at k
        have k : RVs2 r xs ys := k
        dsimp only
        rw [k.length]
        split
        · exact q.run _ _ _ _ _ _ _ g a k
        · trivial
  | _ => trivial⟩
end ML
end
section
namespace ML
open PySem L2
instance : LOc cRepD := ⟨fun r s h vs vs' g t => by
  unfold cRepD
  cases t with
  | nil => trivial
  | cons p t =>
    cases t with
    | cons _ _ => trivial
    | nil =>
      dsimp only
      rename_i v w
      cases z : dat 12 s v with
      | none => trivial
      | some d =>
        rw [dat2 g _ _ _ _ p z]
        dsimp only
        cases shD d with
        | none => trivial
        | some x =>
          dsimp only
          cases Nat.ble d.depth 20 && small x.length with
          | false => trivial
          | true => exact .ok g (.str _)⟩
end ML
end
section
namespace GQ
open PySem
open Sem (wp)
def bad : GenState → GenState
  | .suspended _ l c p fs cl => .suspended (fun _ => .unsupported "") l c p fs cl
  | x => x
def isSus : GenState → Bool
  | .suspended .. => true
  | _ => false
theorem seen_bad (x : GenState) : (bad x).seen = x.seen := by cases x <;> rfl
theorem bare_bad (x : GenState) : (bad x).bare = x.bare := by cases x <;> rfl
def Cln (x : GenState) : Prop := match x with
  | .suspended _ _ _ _ fs _ => splitAtGen fs = none
  | _ => True
def PR (x y : GenState) : Prop := (x = y ∧ Cln x) ∨ (isSus y = true ∧ x = bad y)
theorem PR.seen {x y : GenState} (h : PR x y) : x.seen = y.seen := by
  rcases h with ⟨rfl, _⟩ | ⟨_, rfl⟩
  · rfl
  · exact seen_bad y
theorem PR.bare {x y : GenState} (h : PR x y) : x.bare = y.bare := by
  rcases h with ⟨rfl, _⟩ | ⟨_, rfl⟩
  · rfl
  · exact bare_bad y
structure GR (g : Nat) (st : GenState) (a b : Array GenState) : Prop where
  size : a.size = b.size
  at_ : ∀ (i : Nat) (x : GenState), a[i]? = some x → ∃ y, b[i]? = some y ∧ PR x y
  l : a[g]? = some (bad st)
  r : b[g]? = some st
variable {g : Nat} {st : GenState} {a b : Array GenState}
theorem GR.push (h : GR g st a b) (c : Code) : GR g st (a.push (.fresh c)) (b.push (.fresh c)) where
  size := by rw [Array.size_push, Array.size_push, h.size]
  at_ := fun i x e => by
    rw [Array.getElem?_push] at e
    by_cases hi : i = a.size
    · rw [if_pos hi] at e
      cases e
      exact ⟨_, by rw [Array.getElem?_push, if_pos (by rw [hi, h.size])], .inl ⟨rfl, trivial⟩⟩
    · rw [if_neg hi] at e
      obtain ⟨y, e2, r⟩ := h.at_ i x e
      exact ⟨y, by rw [Array.getElem?_push, if_neg (by rw [← h.size]; exact hi)]; exact e2, r⟩
  l := by
    have := h.l
    rw [Array.getElem?_push, if_neg]
    · exact this
    · intro z
      obtain ⟨hh, _⟩ := Array.getElem?_eq_some_iff.mp this
      omega
  r := by
    have := h.r
    rw [Array.getElem?_push, if_neg]
    · exact this
    · intro z
      obtain ⟨hh, _⟩ := Array.getElem?_eq_some_iff.mp this
      omega
theorem GR.set (h : GR g st a b) {i : Nat} {x : GenState} (hi : i ≠ g) (hx : Cln x) : GR g st (a.setIfInBounds i x) (b.setIfInBounds i x) where
  size := by rw [Array.size_setIfInBounds, Array.size_setIfInBounds, h.size]
  at_ := fun j y e => by
    rw [Array.getElem?_setIfInBounds] at e
    by_cases hj : i = j
    · rw [if_pos hj] at e
      by_cases hs : i < a.size
      · rw [if_pos hs] at e
        cases e
        exact ⟨x, by rw [Array.getElem?_setIfInBounds, if_pos hj, if_pos (by rw [← h.size]; exact hs)], .inl ⟨rfl, hx⟩⟩
      · rw [if_neg hs] at e; cases e
    · rw [if_neg hj] at e
      obtain ⟨z, e2, r⟩ := h.at_ j y e
      exact ⟨z, by rw [Array.getElem?_setIfInBounds, if_neg hj]; exact e2, r⟩
  l := by rw [Array.getElem?_setIfInBounds, if_neg hi]; exact h.l
  r := by rw [Array.getElem?_setIfInBounds, if_neg hi]; exact h.r
theorem GR.plain (h : GR g st a b) (hs : isSus st = true) {i : Nat} {x : GenState} (e : a[i]? = some x) (hx : isSus x = false) : b[i]? = some x ∧ i ≠ g := by
  obtain ⟨y, e2, r⟩ := h.at_ i x e
  refine ⟨?_, fun z => ?_⟩
  · rcases r with ⟨rfl, _⟩ | ⟨hy, rfl⟩
    · exact e2
    · cases y <;> first | (cases hy; done) | cases hx
  · subst z
    rw [h.l] at e
    cases e
    cases st <;> first | (cases hs; done) | cases hx
end GQ
end
section
namespace GQ
open PySem PySem.Spec PyProof.Rows L2 GenW
def cut (h : Heap) (n : Nat) : Heap := { h with objs := h.objs.extract 0 n }
theorem cut_size (h : Heap) (n : Nat) : (cut h n).objs.size = min n h.objs.size := by
  unfold cut
  simp
theorem cut_get {h : Heap} {n b : Nat} (hb : b < n) : (cut h n).get? b = h.get? b := by
  unfold cut Heap.get?
  dsimp only
  rw [show (h.objs.extract 0 n)[b]? = h.objs[b]? from by
    rw [Array.getElem?_extract]
    simp
    omega]
theorem cut_none {h : Heap} {n b : Nat} (hb : n ≤ b) : (cut h n).get? b = none := Heap.get?_none_of_le (by rw [cut_size]; omega)
theorem cut_some {h : Heap} {n b : Nat} {o : Obj} (e : (cut h n).get? b = some o) : b < n ∧ h.get? b = some o := by
  by_cases hb : b < n
  · exact ⟨hb, by rw [← cut_get hb]; exact e⟩
  · rw [cut_none (Nat.le_of_not_lt hb)] at e
    cases e
section
variable {X : Cx} {pins ip : List (Addr × Obj)} {σ : L2.St} {H H' : Hp} {s s' : Shared}
structure Old (X : Cx) (pins : List (Addr × Obj)) (n : Nat) : Prop where
  s0 : X.s_0.heap.objs.size ≤ n
  loc : X.env.locals < n
  cel : ∀ x c, X.env.cells.lookup x = some c → c < n
  pin : ∀ p ∈ X.pn ++ pins, p.1 < n
theorem Old.mono {n m : Nat} (o : Old X pins n) (h : n ≤ m) : Old X pins m := ⟨Nat.le_trans o.s0 h, Nat.lt_of_lt_of_le o.loc h, fun x c e => Nat.lt_of_lt_of_le (o.cel x c e) h, fun p hp => Nat.lt_of_lt_of_le (o.pin p hp) h⟩
def rbX (X : Cx) (s : Shared) (H : Hp) (n : Nat) (pn : List (Addr × Obj)) (xe : Value → Shared → Prop) : Cx := { X with s_0 := { s with heap := cut s.heap n }, H_0 := H, pn := pn, xe := xe }
def PinOk (X : Cx) (H : Hp) (s : Shared) (p : Addr × Obj) : Prop := s.heap.get? p.1 = some p.2 ∧ H p.1 = none ∧ p.1 ≠ X.env.locals ∧ p.1 ∉ X.fs ∧ ∀ v, p.2.data ≠ .cell v
structure Woke (X : Cx) (own pins : List (Addr × Obj)) (H' : Hp) (s s' : Shared) : Prop where
  os : s'.os = s.os
  bare : AllBare s'.gens
  hok : HOk X.prog X.w H' s'.heap
  bs : ∀ b o, X.base.get? b = some o → s'.heap.get? b = some o ∧ H' b = none
  funs : s'.heap.FunFrames X.base X.outer
  frf : ∀ b ∈ X.fs, H' b = none
  loc : ∀ o, s.heap.get? X.env.locals = some o → s'.heap.get? X.env.locals = some o
  free : H' X.env.locals = none
  pin : ∀ p ∈ own ++ pins, s'.heap.get? p.1 = some p.2 ∧ H' p.1 = none
theorem Woke.refl (I : Inv X pins σ H s) : Woke X X.pn pins H s s :=
  ⟨rfl, I.bare, I.hok, I.bs, I.funs, fun b hb => by
    have hx : b ∉ X.ex := fun z => I.ok.exfs b z hb
    obtain ⟨_, o, ho, _⟩ := I.ok.funs.mem hb
    exact I.base.free b o ho (I.ok.frf b hb) hx, fun _ e => e, I.free, fun p hp => ⟨(I.pin p hp).1, (I.pin p hp).2.1⟩⟩
theorem funs_cut {h base : Heap} {n : Nat} : ∀ {l : List Env}, h.FunFrames base l → (∀ b ∈ frs l, b < n) → (cut h n).FunFrames base l
  | [], _, _ => trivial
  | env :: r, ⟨hk, ⟨L, o, hf, hn, ho, hd⟩, hr⟩, hl =>
    have hL : L < n := hl L (by unfold frs; rw [List.filterMap_cons, hf]; exact List.mem_cons_self)
    ⟨hk, ⟨L, o, hf, hn, by rw [cut_get hL]; exact ho, hd⟩, funs_cut hr fun b hb => hl b (by unfold frs; rw [List.filterMap_cons, hf]; exact List.mem_cons_of_mem _ hb)⟩
theorem Woke.inv {own pn : List (Addr × Obj)} {xe : Value → Shared → Prop} (I : Inv X pins σ H s) (w : Woke X own pins H' s s') (hex : X.ex = []) (hc : X.env.cells = []) (hown : ∀ p ∈ own, p ∈ X.pn) (hpn : ∀ p ∈ pn, p ∈ own ∨ PinOk X H' s' p) : Inv (rbX X s' H' X.s_0.heap.objs.size pn xe) pins σ H' s' := by
  have noc : ∀ x c, X.env.cells.lookup x = some c → False := fun x c e => by rw [hc] at e; cases e
  have nox : ∀ b, b ∉ X.ex := fun b z => by rw [hex] at z; cases z
  have old : ∀ b ∈ frs X.outer, b < X.s_0.heap.objs.size := fun b hb => let ⟨_, o, ho, _⟩ := I.ok.funs.mem hb; Heap.lt_size ho
  have oldb : ∀ b o, X.base.get? b = some o → b < X.s_0.heap.objs.size := fun b o e => Nat.lt_of_lt_of_le (Heap.lt_size e) I.ok.bsz
  obtain ⟨m, ⟨o, es, ep, ho, r⟩, hl⟩ := id I.loc
  have ho' := w.loc o ho
  have big : X.s_0.heap.objs.size ≤ s'.heap.objs.size := Nat.le_trans I.ok.above (Nat.le_of_lt (Heap.lt_size ho'))
  have csz : (cut s'.heap X.s_0.heap.objs.size).objs.size = X.s_0.heap.objs.size := by rw [cut_size]; omega
  refine ⟨⟨I.ok.mod, I.ok.kind, I.ok.glob, I.ok.blt, ?_, I.ok.inj, I.ok.has, fun x c _ e => (noc x c e).elim, I.ok.hd, I.ok.frames, I.ok.stk, fun b z => absurd z (nox b), fun b ob e => ?_, ?_, fun b ob e => nox b, fun b z => absurd z (nox b), ?_, ?_⟩,
    rfl, w.bare, ?_, ⟨m, ⟨o, es, ep, ho', r⟩, fun i x v h1 h2 h3 => ?_⟩, fun x c e => (noc x c e).elim, w.free, fun x c e => (noc x c e).elim, fun p hp => ?_, w.hok, I.len⟩
  · show (cut s'.heap X.s_0.heap.objs.size).objs.size ≤ X.env.locals
    rw [csz]; exact I.ok.above
  · show (cut s'.heap X.s_0.heap.objs.size).get? b = some ob ∧ H' b = none
    rw [cut_get (oldb b ob e)]
    exact w.bs b ob e
  · show X.base.objs.size ≤ (cut s'.heap X.s_0.heap.objs.size).objs.size
    rw [csz]; exact I.ok.bsz
  · exact funs_cut w.funs old
  · exact w.frf
  · show Un X.fs X.ex H' H' (cut s'.heap X.s_0.heap.objs.size) s'.heap
    exact ⟨fun b ob e _ _ _ => (cut_some e).2, fun b ob e _ _ _ => ⟨ob.slots, (cut_some e).2⟩, fun b ob _ n _ => n, fun b ob e _ => ⟨ob, (cut_some e).2⟩, fun _ _ e => e, fun _ _ _ e => e, fun b ps e => ⟨#[], by rw [e]; simp⟩⟩
  · obtain ⟨u, ru, k⟩ := hl i x v h1 h2 h3
    refine ⟨u, ru, ?_⟩
    rcases k with k | ⟨_, c, e, _⟩
    · exact .inl k
    · exact (noc x c e).elim
  · have old : ∀ p ∈ own ++ pins, PinOk X H' s' p := fun p hp => by
      obtain ⟨_, _, q3, q4, q5⟩ := I.pin p ((List.mem_append.mp hp).elim (fun z => List.mem_append_left _ (hown p z)) fun z => List.mem_append_right _ z)
      exact ⟨(w.pin p hp).1, (w.pin p hp).2, q3, q4, q5⟩
    rcases List.mem_append.mp hp with z | z
    · rcases hpn p z with z | z
      · exact old p (List.mem_append_left _ z)
      · exact z
    · exact old p (List.mem_append_right _ z)
end
def CXP (P : Program) (w : World) (outer : List Env) (H : Hp) (s : Shared) (E : XK) (pn : List (Addr × Obj)) (u : Value) (s' : Shared) : Prop :=
  ∃ (a : Addr) (B : Heap) (H' : Hp) (cls : Value) (d : Option Addr), u = .ref a ∧ HandSPX.FlyingZ B outer a (Zc cls d) s'.heap ∧ HOk P w H' B ∧ UB (frs outer) H H' s.heap B s'.heap ∧ H' a = none ∧ s'.os = s.os ∧ AllBare s'.gens ∧ E cls d H' ∧ ∀ p ∈ pn, s'.heap.get? p.1 = some p.2 ∧ H' p.1 = none
theorem CXP.pins {P : Program} {w : World} {outer : List Env} {H : Hp} {s : Shared} {E : XK} {pn : List (Addr × Obj)} {u : Value} {s' : Shared} (x : CXP P w outer H s E pn u s') : ∀ p ∈ pn, s'.heap.get? p.1 = some p.2 := fun p hp =>
  let ⟨_, _, _, _, _, _, _, _, _, _, _, _, _, q⟩ := x
  (q p hp).1
end GQ
end
section
namespace ML
open PySem PySem.Spec PyProof.Rows L2 GenW GQ
structure Rb (κ : Type) where
  s : Shared
  H : Hp
  c : κ
  E : XK
  pn : List (Addr × Obj)
inductive RG (C : Type) where
  | nx (b : Bool) (σ : Sg) (c : C) (n : Nat) (h : Hi) | out (r : RS) | ex (k i : Nat) (c : C) (h : Hi) | err
inductive RC (C : Type) where
  | go (c : C) (h : Hi) | stop (r : RS) | err
abbrev CB (C : Type) := VI → C → Hi → RC C
abbrev GMS (C : Type) := CB C → Bool → Sg → C → Nat → Hi → RG C
section
variable {C : Type}
def yPl (m : MS) : GMS C := fun _ b σ c n h => match m σ h with
  | .nx σ' h' => .nx b σ' c n h'
  | .ex k i _ h' => match b with
    | true => .ex k i c h'
    | false => .err
  | _ => .err
def yNx : GMS C := fun _ b σ c n h => .nx b σ c n h
def ySeq (x y : GMS C) : GMS C := fun cb b σ c n h => match x cb b σ c n h with
  | .nx b1 σ1 c1 n1 h1 => y cb b1 σ1 c1 n1 h1
  | r => r
def yEv {α : Type} (b : Bool) (c : C) (r : Res α) (k : α → Hi → RG C) : RG C := match r with
  | .ok x h => k x h
  | .ex k i h => match b with
    | true => .ex k i c h
    | false => .err
  | .err => .err
def yAns (σ : Sg) (n : Nat) : RC C → RG C
  | .go c h => .nx false σ c n h
  | .stop r => .out r
  | .err => .err
def yYld (e : ME) : GMS C := fun cb b σ c n h => match n with
  | 0 => .err
  | n + 1 => yEv b c (e σ h) fun x h1 => yAns σ n (cb x c h1)
def yIf (t : MT) (x y : GMS C) : GMS C := fun cb b σ c n h => yEv b c (t σ h) fun v h1 => match v with
  | true => x cb b σ c n h1
  | false => y cb b σ c n h1
def yTurns (it : Itm) (g : MG) (body : GMS C) : Nat → Nat → GMS C
  | 0, i, _, b, σ, c, n, h => match it.nxt i h with
    | some none => .nx b σ c n h
    | _ => .err
  | k + 1, i, cb, b, σ, c, n, h => match it.nxt i h with
    | some none => .nx b σ c n h
    | some (some x) => match g x σ h with
      | .nx σ1 h1 => match body cb b σ1 c n h1 with
        | .nx b2 σ2 c2 n2 h2 => yTurns it g body k (i + 1) cb b2 σ2 c2 n2 h2
        | r => r
      | _ => .err
    | none => .err
def yFor (mi : MI) (g : MG) (body : GMS C) : GMS C := fun cb b σ c n h => yEv b c (mi σ h) fun it h1 => yTurns it g body (it.fuel h1) 0 cb b σ c n h1
end
def noE : XK := fun _ _ _ => False
structure Cons (G : Gx) (κ C : Type) where
  cb : CB C
  AC : List Addr → Hp → C → κ → Prop
  P : RS → List Addr → Hp → Prop
  exf : Nat → Nat → C → Hi → RS
  fin : C → Hi → RS
  CI : Rb κ → Prop
  fst : Rb κ → Prop
  E0 : XK
  acL : ∀ {ρ H ρ' H' c k}, Stp G ρ H ρ' H' → AC ρ H c k → AC ρ' H' c k
  pL : ∀ {r ρ H ρ' H'}, Stp G ρ H ρ' H' → P r ρ H → P r ρ' H'
  exE : ∀ {k i c h ρ H}, P (exf k i c h) ρ H → ∀ ρ' H' d D r, fst r → Stp G ρ H ρ' H' → Ag G ρ' h H' → AC ρ' H' c r.c → ρ'[i]? = some d → G.ct k = some D → E0 (.ref D) (some d) H'
variable {G : Gx} {κ C : Type}
def Cons.Md (Z : Cons G κ C) : Bool → Rb κ → Prop
  | true, r => r.E = Z.E0 ∧ Z.fst r
  | false, r => r.E = noE
def gxe (X : Cx) (r : Rb κ) (e : Value) (s' : Shared) : Prop :=
  wpAny (model X.prog X.w) X.A (leaving X.env e) (fun _ s'' => CXP X.prog X.w X.outer r.H { r.s with heap := cut r.s.heap X.s_0.heap.objs.size } r.E (X.pn ++ r.pn) e s'') (fun _ _ => False) s'
def gF (X : Cx) (r : Rb κ) : Cx := rbX X r.s r.H X.s_0.heap.objs.size (X.pn ++ r.pn) (gxe X r)
def AnsY {C : Type} (go : C → Hi → Prop) (stop : RS → Prop) : RC C → Prop
  | .go c h => go c h
  | .stop q => stop q
  | .err => False
def YG (X : Cx) (Z : Cons G κ C) : Protocol := fun _ _ v s kap => ∃ (r : Rb κ) (ip : List (Addr × Obj)) (σ : L2.St) (ρ : List Addr) (h : Hi) (H : Hp) (x : VI) (xv : V) (c : C), RelV xv v ∧ RV G ρ H x xv ∧ Inv (gF X r) ip σ H s ∧ Ag G ρ h H ∧ Z.AC ρ H c r.c ∧ Z.CI r ∧ (∀ p ∈ r.pn, ∀ q ∈ ip, q.1 ≠ p.1) ∧ AnsY (fun c' h' => ∀ ρ' H' k' s' pn', Stp G ρ H ρ' H' → Ag G ρ' h' H' → Z.AC ρ' H' c' k' → Woke (gF X r) X.pn ip H' s s' → (∀ p ∈ pn', PinOk X H' s' p ∧ ∀ q ∈ ip, q.1 ≠ p.1) → Z.CI ⟨s', H', k', noE, pn'⟩ → kap (.send .none) s') (fun q => Z.P q ρ H) (Z.cb x c h)
abbrev PostG (C : Type) := Bool → Sg → C → Nat → Hi → List Addr → Hp → Prop
def NxK (Z : Cons G κ C) (Post : PostG C) : RG C → List Addr → Hp → Prop
  | .nx b σ c n h, ρ, H => Post b σ c n h ρ H
  | .out r, ρ, H => Z.P r ρ H
  | .ex k i c h, ρ, H => Z.P (Z.exf k i c h) ρ H
  | .err, _, _ => False
def PostL (G : Gx) (Post : PostG C) : Prop := ∀ b σi cc n h ρ H ρ' H', Stp G ρ H ρ' H' → Post b σi cc n h ρ H → Post b σi cc n h ρ' H'
structure GSt (X : Cx) (Z : Cons G κ C) (ip : List (Addr × Obj)) (r : Rb κ) (b : Bool) (σi : Sg) (cc : C) (h : Hi) (ρ : List Addr) (σ : L2.St) (H : Hp) (s : Shared) : Prop where
  inv : Inv (gF X r) ip σ H s
  as : AgS G ρ H σi σ
  ag : Ag G ρ h H
  ac : Z.AC ρ H cc r.c
  ci : Z.CI r
  md : Z.Md b r
  sz : X.s_0.heap.objs.size ≤ r.s.heap.objs.size
  ap : ∀ p ∈ r.pn, ∀ q ∈ ip, q.1 ≠ p.1
structure GCt (X : Cx) (A : Around) (c : Code) (fs : List Frame) (gd : Bool → Bool) : Prop where
  over : A.over c fs = X.A
  split : splitAtGen fs = none
  guard : fs.any Frame.guarded = false
  gd : gd false = false
structure GK (X : Cx) (Z : Cons G κ C) (ip : List (Addr × Obj)) (A : Around) (R : GenEnd) (c : Code) (fs : List Frame) (K : Flow → Sem PySem.Fin) (J : Value → Sem PySem.Fin) (Post : PostG C) : Prop where
  ok : ∀ n s₀ s r b σi cc h ρ σ H, GSt X Z ip r b σi cc h ρ σ H s → Post b σi cc n h ρ H → Seg (model X.prog X.w) A R (YG X Z) n s₀ c (K .next) fs s
  cl : PostL G Post
  exc : ∀ n s₀ s b (r : Rb κ) e, Z.CI r → Z.Md b r → (gF X r).xe e s → Seg (model X.prog X.w) A R (YG X Z) n s₀ c (J e) fs s
theorem NxK.later {Z : Cons G κ C} {Post : PostG C} {ρ ρ' : List Addr} {H H' : Hp} (cl : PostL G Post) (st : Stp G ρ H ρ' H') : ∀ {q : RG C}, NxK Z Post q ρ H → NxK Z Post q ρ' H'
  | .nx .., f => cl _ _ _ _ _ _ _ _ _ st f
  | .out _, f => Z.pL st f
  | .ex .., f => Z.pL st f
  | .err, f => f
structure GSM (X : Cx) (Z : Cons G κ C) (st : Stmt) (g : GMS C) : Prop where
  run : ∀ (A : Around) (R : GenEnd) (n : Nat) (s₀ : Shared) (c : Code) (fs : List Frame) (K : Flow → Sem PySem.Fin) (J : Value → Sem PySem.Fin) (gd : Bool → Bool) (lv : List Value → List Value) (s : Shared) (r : Rb κ) (ip : List (Addr × Obj)) (b : Bool) (σ : L2.St) (σi : Sg) (ρ : List Addr) (h : Hi) (H : Hp) (cc : C) (Post : PostG C),
    GCt X A c fs gd → GK X Z ip A R c fs K J Post → GSt X Z ip r b σi cc h ρ σ H s → NxK Z Post (g Z.cb b σi cc n h) ρ H → Seg (model X.prog X.w) A R (YG X Z) n s₀ c ((exec st X.env).wrap K J gd lv) fs s
structure GSMs (X : Cx) (Z : Cons G κ C) (st : List Stmt) (g : GMS C) : Prop where
  run : ∀ (A : Around) (R : GenEnd) (n : Nat) (s₀ : Shared) (c : Code) (fs : List Frame) (K : Flow → Sem PySem.Fin) (J : Value → Sem PySem.Fin) (gd : Bool → Bool) (lv : List Value → List Value) (s : Shared) (r : Rb κ) (ip : List (Addr × Obj)) (b : Bool) (σ : L2.St) (σi : Sg) (ρ : List Addr) (h : Hi) (H : Hp) (cc : C) (Post : PostG C),
    GCt X A c fs gd → GK X Z ip A R c fs K J Post → GSt X Z ip r b σi cc h ρ σ H s → NxK Z Post (g Z.cb b σi cc n h) ρ H → Seg (model X.prog X.w) A R (YG X Z) n s₀ c ((execs st X.env).wrap K J gd lv) fs s
section
variable {X : Cx} {Z : Cons G κ C} {ip : List (Addr × Obj)} {r : Rb κ} {b : Bool} {σi : Sg} {cc : C} {h : Hi} {ρ : List Addr} {σ : L2.St} {H : Hp} {s : Shared} {st : Stmt} {rest : List Stmt} {ms : MS} {me : ME} {mt : MT} {g g1 g2 : GMS C} {e : Expr} {pos yp : Pos}
theorem GSt.at_ {ρ1 : List Addr} {H1 : Hp} {h1 : Hi} {s1 : Shared} (q : GSt X Z ip r b σi cc h ρ σ H s) (I : Inv (gF X r) ip σ H1 s1) (st : Stp G ρ H ρ1 H1) (a : Ag G ρ1 h1 H1) : GSt X Z ip r b σi cc h1 ρ1 σ H1 s1 :=
  ⟨I, q.as.mono st, a, Z.acL st q.ac, q.ci, q.md, q.sz, q.ap⟩
end
end ML
end
section
namespace ML
open PySem PySem.Spec PyProof.Rows L2 GenW GQ
section
variable {prog : Program} {w : World} {A : Around} {R : GenEnd} {Y : Protocol} {n : Nat} {s₀ : Shared} {c : Code} {fs : List Frame} {s : Shared} {env : Env}
end
section
variable {G : Gx} {κ C : Type} {X : Cx} {Z : Cons G κ C} {ip : List (Addr × Obj)} {r : Rb κ} {tg iter : Expr} {body : List Stmt} {pos : Pos} {mi : MI} {mg : MG} {g1 : GMS C}
end
end ML
end
section
namespace ML
open PySem PySem.Spec PyProof.Rows L2 He
def spGM (G : Gx) (np : Nat) (cs : List Nat) (g : MF) : SpG := fun vs H Q E => ∃ ρ h args, args.length = np ∧ Ag G ρ h H ∧ RVs G ρ H args vs ∧ match g args h with
  | .ex c n h' => cs.contains c = true ∧ ∀ ρ' H' d C, Stp G ρ H ρ' H' → Ag G ρ' h' H' → ρ'[n]? = some d → G.ct c = some C → E (.ref C) (some d) H'
  | _ => False
section
variable {G : Gx} {W : WX} {X : Cx} {k : Nat} {f : Addr} {fd : FuncData} {ps : List Str} {g : MF} {cs : List Nat}
end
structure DOkL (P : Program) (w : World) (K : PySem.W.Frag) (mg : Str → Option Value) (base : Heap) (nm : Nat → Option Str) (k : Nat) (p : Defn) (ps : List Str) (cs : List Nat) (g : MF) : Prop where
  ok : GFn P w K mg base k (p K) (fdOf K p) ps (spGM (GxOf w K mg nm) ps.length cs g)
  ar : Arity ps.length g
  kp : PySem.W.keepIn K (.ref (p K)) = true
section
variable {X : Cx} {k k' : Nat} {ps : List Str} {g : MF} {cs : List Nat} {nm : Nat → Option Str}
end
end ML
end
section
namespace ML
open PySem PySem.Spec PyProof.Rows L2 GenW GQ
variable {G : Gx} {κ C : Type}
def endPost (Z : Cons G κ C) : PostG C := fun _ _ c _ h ρ H => Z.P (Z.fin c h) ρ H
def REndG (X : Cx) (Z : Cons G κ C) : GenEnd := fun _ _ r s1 =>
  ((r = .ok (.ret .none) ∨ r = .ok .next) ∧ ∃ (rb : Rb κ) (σ : L2.St) (ρ : List Addr) (h : Hi) (H : Hp) (cc : C), Inv (gF X rb) [] σ H s1 ∧ Ag G ρ h H ∧ Z.AC ρ H cc rb.c ∧ Z.CI rb ∧ Z.P (Z.fin cc h) ρ H) ∨
  ∃ e : Value, r = .error e ∧ ∃ (rb : Rb κ) (b : Bool), Z.CI rb ∧ Z.Md b rb ∧ CXP X.prog X.w X.outer rb.H { rb.s with heap := cut rb.s.heap X.s_0.heap.objs.size } rb.E (X.pn ++ rb.pn) e s1
abbrev GMA := {C : Type} → GMS C
def GMadeM (P : Program) (w : World) (K : PySem.W.Frag) (mg : Str → Option Value) (base : Heap) (G : Gx) (k : Nat) (outer : List Env) (H : Hp) (s : Shared) (gm : GMA) (m : Nat) (vs : List V) (u : Value) (s' : Shared) : Prop :=
  ∃ (a : Addr) (g : Nat) (c : Code) (N : List Str) (qual : Str) (scope : Scope) (f : Addr) (cdv : Value) (go : Obj) (nm qn : Value), u = .ref a ∧ s.heap.objs.size ≤ a ∧ s'.heap.get? a = some go ∧ go.cls = .type "generator" ∧ go.data = .fields #[.int g 0, nm, qn] ∧ go.slots = #[] ∧ s'.gens[g]? = some (.fresh c) ∧ s'.os = s.os ∧ AllBare s'.gens ∧ s'.heap.NoLimit ∧ (∀ b o, s.heap.get? b = some o → s'.heap.get? b = some o) ∧ (∀ n, cellsFrom n scope.names [] = []) ∧
    ∀ (A : Around) (κ C : Type) (Z : Cons G κ C) (s2 : Shared) (c0 : κ) (ρ : List Addr) (h : Hi) (args : List VI) (cc : C) (n : Nat) (pn : List (Addr × Obj)) (H2 : Hp), Room k A → A.frames = some outer → Un (frs outer) [] H H2 s'.heap s2.heap → HOk P w H2 s2.heap → s2.os = s.os → AllBare s2.gens →
      RVs G ρ H2 args vs → Ag G ρ h H2 → Z.AC ρ H2 cc c0 → (∀ p ∈ pn, s2.heap.get? p.1 = some p.2 ∧ H2 p.1 = none ∧ s'.heap.objs.size ≤ p.1 ∧ ∀ v, p.2.data ≠ .cell v) → Z.CI ⟨s2, H2, c0, Z.E0, pn⟩ → Z.fst ⟨s2, H2, c0, Z.E0, pn⟩ → NxK Z (endPost Z) (gm Z.cb true (args.map some ++ List.replicate m none) cc n h) ρ H2 →
      Seg (model P w) A (REndG (gcxOf P w K mg base N qual scope f cdv A outer s H noE [(a, go)]) Z) (YG (gcxOf P w K mg base N qual scope f cdv A outer s H noE [(a, go)]) Z) n s2 c ((model P w).den c) [] s2
structure GFnM (P : Program) (w : World) (K : PySem.W.Frag) (mg : Str → Option Value) (base : Heap) (G : Gx) (k : Nat) (f : Addr) (fd : FuncData) (ps : List Str) (gm : GMA) (m : Nat) : Prop where
  run : ∀ (A : Around) (outer : List Env) (s : Shared) (H : Hp) (args : Args) (us : List Value) (vs : List V), Room k A → Env0 P w K mg base A outer s H → BindsTo s fd args (ps.zip us) → Vals vs us → vs.length = ps.length →
    codeAny (model P w) A (.call (.ref f) args) (fun r s' => match r with | .ok (.ret u) => GMadeM P w K mg base G k outer H s gm m vs u s' | _ => False) s
section
variable {P : Program} {w : World} {K : PySem.W.Frag} {mg : Str → Option Value} {base : Heap} {N ps : List Str} {qual : Str} {scope : Scope} {f : Addr} {A : Around} {outer : List Env} {s : Shared} {H : Hp} {pn : List (Addr × Obj)} {cdv : Value}
end
end ML
end
section
namespace GQ
open PySem PySem.Spec PyProof.Rows L2 GenW
section
variable {M : Model}
end
section
variable {P : Program} {w : World} {A : Around} {E : Value → Shared → Prop} {s : Shared}
end
end GQ
end
section
namespace ML
open PySem PySem.Spec PyProof.Rows L2 GenW GQ
def yRun {C : Type} (np m : Nat) (gm : GMS C) (cb : CB C) (vs : List VI) (cc : C) (h : Hi) : RG C := match Nat.beq vs.length np with
  | true => gm cb true (vs.map some ++ List.replicate m none) cc 1000000 h
  | false => .err
def cbFor (g : MG) (mb : MS) : CB Sg := fun x σ h => match (g x σ h).andThen mb with
  | .nx σ' h' => .go σ' h'
  | .ct σ' h' => .go σ' h'
  | .bk σ' h' => .stop (.nx σ' h')
  | .rt v h' => .stop (.rt v h')
  | _ => .err
def exY (cs : List Nat) (k i : Nat) (σ : Sg) (h : Hi) : RS := match cs.contains k with
  | true => .ex k i σ h
  | false => .err
def finY (cs : List Nat) : RG Sg → RS
  | .nx _ _ σ _ h => .nx σ h
  | .out r => r
  | .ex k i σ h => exY cs k i σ h
  | .err => .err
def sForG (cs : List Nat) (np m : Nat) (gm : GMA) (ma : MA) (g : MG) (mb : MS) : MS := fun σ h => (ma σ h).bindS σ fun vs h1 => finY cs (yRun np m gm (cbFor g mb) vs σ h1)
structure PGenM (X : Cx) (G : Gx) (k : Nat) (e : Expr) (gm : GMA) (m np : Nat) (t : TA) : Prop where
  run : ∀ (pins : List (Addr × Obj)) (s : Shared) (σ : L2.St) (H : Hp) (Q : List V → Hp → Prop), Inv X pins σ H s → (t σ H fun vs H1 => vs.length = np ∧ Q vs H1) → wpAny (model X.prog X.w) X.A (eval e X.env)
    (fun u s' => ∃ vs H1 sc, Inv X pins σ H1 sc ∧ GMadeM X.prog X.w X.K X.mg X.base G k X.stack H1 sc gm m vs u s' ∧ Q vs H1) X.xe s
section
variable {G : Gx} {W : WX} {X : Cx} {pins : List (Addr × Obj)} {σ : L2.St} {H : Hp} {s : Shared}
end
end ML
end
section
namespace ML
open PySem PySem.Spec PyProof.Rows L2 GenW GQ
def cbLst : CB (List VI) := fun x acc h => match small (acc.length + 1) with
  | true => .go (acc ++ [x]) h
  | false => .err
def finL (cs : List Nat) : RG (List VI) → Res VI
  | .nx _ _ acc _ h => .ok (.ref h.length) (h ++ [.lst acc])
  | .ex k i _ h => match cs.contains k with
    | true => .ex k i h
    | false => .err
  | _ => .err
def eListY (cs : List Nat) (np m : Nat) (gm : GMA) (ma : MA) : ME := fun σ h => (ma σ h).bind fun vs h1 => finL cs (yRun np m gm cbLst vs [] h1)
section
variable {G : Gx} {W : WX} {X : Cx} {pins : List (Addr × Obj)} {σ : L2.St} {H : Hp} {s : Shared} {Q : VK}
end
end ML
end
section
namespace ML
open PySem PySem.Spec PyProof.Rows L2 He GenW GQ
structure DOkY (P : Program) (w : World) (K : PySem.W.Frag) (mg : Str → Option Value) (base : Heap) (nm : Nat → Option Str) (k : Nat) (p : Defn) (ps : List Str) (gm : GMA) (m : Nat) : Prop where
  ok : GFnM P w K mg base (GxOf w K mg nm) k (p K) (fdOf K p) ps gm m
  kp : PySem.W.keepIn K (.ref (p K)) = true
end ML
end
section
namespace ML
open PySem PySem.Spec PyProof.Rows L2 He
open AutoSeq1 (wpAny_loadPart')
open MeetsSeq
section
variable {prog : Program} {w : World} {A : Around} {E : Value → Shared → Prop} {s : Shared}
end
section
variable {prog : Program} {w : World} {A : Around} {E : Value → Shared → Prop} {s : Shared} {x : Addr} {o : Obj}
end
end ML
end
section
namespace ML
open PySem PySem.Spec PyProof.Rows L2 He
def sameRef : VI → VI → Bool
  | .ref m, .ref n => Nat.beq m n
  | _, _ => false
def bltI : Option TyI → Option String
  | some (.bt "NoneType") => some "NoneType"
  | some (.bt "int") => some "int"
  | some (.bt "str") => some "str"
  | some (.bt "list") => some "list"
  | some (.bt "tuple") => some "tuple"
  | _ => none
def eqRefU (cs : List Nat) (tbl : Nat → Option MF) (c : Nat) (y x : VI) (h : Hi) : Res VI := match sameRef y x with
  | true => .ok (.bl true) h
  | false => match insC y h with
    | some c' => match tbl c', nfI cs (tyI x h) with
      | some g, true => boolR (g [y, x] h)
      | _, _ => .err
    | none => match bltI (tyI y h), tbl c with
      | some _, some g => boolR (g [x, y] h)
      | _, _ => .err
def inTurnsU (cs : List Nat) (tbl : Nat → Option MF) (n : Nat) (c : Nat) (x : VI) : Nat → Nat → Hi → Res VI
  | 0, i, h => match listAt n h with
    | some ys => match Nat.ble ys.length i with
      | true => .ok (.bl false) h
      | false => .err
    | none => .err
  | k + 1, i, h => match listAt n h with
    | none => .err
    | some ys => match ys[i]? with
      | none => .ok (.bl false) h
      | some y => match insC x h with
        | some d => match Nat.beq d c with
          | true => (eqRefU cs tbl c y x h).bind fun v h' => match v with
            | .bl true => .ok (.bl true) h'
            | .bl false => inTurnsU cs tbl n c x k (i + 1) h'
            | _ => .err
          | false => .err
        | none => .err
def eInU (neg : Bool) (cs : List Nat) (tbl : Nat → Option MF) (f : Op2) (a b : ME) : ME := fun σ h => (a σ h).bind fun x h1 => (b σ h1).bind fun y h2 => match insC x h2 with
  | some c => match y with
    | .ref n => match listAt n h2 with
      | some ys => (inTurnsU cs tbl n c x ys.length 0 h2).bind fun v h3 => match v with
        | .bl b => .ok (.bl (neg != b)) h3
        | _ => .err
      | none => .err
    | _ => .err
  | none => ofO (f x y h2)
section
variable {G : Gx} {ρ : List Addr} {h : Hi} {H : Hp} {W : WX} {X : Cx} {A : Around} {a b : Expr} {pos : Pos} {ma mb : ME} {tbl : Nat → Option MF} {σ : L2.St} {cs : List Nat} {f : Op2} {neg : Bool}
end
section
variable {w : World} {K : PySem.W.Frag} {mg : Str → Option Value} {nm : Nat → Option Str}
end
theorem same2 {r : List Nat} (nd : r.Nodup) {x y x' y' : VI} (p : RV2 r x x') (q : RV2 r y y') : sameRef x' y' = sameRef x y := by
  cases p with
  | @ref n m e =>
    cases q with
    | @ref n' m' e' =>
      show Nat.beq m m' = Nat.beq n n'
      by_cases z : n = n'
      · subst z
        rw [e] at e'
        cases e'
        rw [Nat.beq_refl, Nat.beq_refl]
      · have z' : m ≠ m' := fun w => z ((List.getElem?_inj (List.getElem?_eq_some_iff.mp e).1 nd).mp (by rw [e, e', w]))
        rw [Bool.eq_false_iff.mpr (fun w => z (Nat.eq_of_beq_eq_true w)), Bool.eq_false_iff.mpr (fun w => z' (Nat.eq_of_beq_eq_true w))]
    | _ => rfl
  | _ => cases q <;> rfl
section
variable {r : List Nat} {s h : Hi} {cs : List Nat} {tbl : Nat → Option MF}
theorem eqRef2 [c : LTb tbl] {d : Nat} (g : Ag2 r s h) {x y x' y' : VI} (p : RV2 r x x') (q : RV2 r y y') : L2R RV2 r h (eqRefU cs tbl d x y s) (eqRefU cs tbl d x' y' h) := by
  unfold eqRefU
  rw [same2 g.nd p q, ins2 g p, ty2 g p, ty2 g q]
  cases sameRef x y with
  | true => exact .ok g (.bl true)
  | false =>
    dsimp only
    cases insC x s with
    | some c' =>
      dsimp only
      cases w0 : tbl c' with
      | none => trivial
      | some u =>
        cases nfI cs (tyI y s) with
        | false => trivial
        | true => exact ((c.run _ _ w0).run _ _ _ _ _ g (.cons p (.cons q .nil))).boolR
    | none =>
      dsimp only
      cases bltI (tyI x s) with
      | none => trivial
      | some T =>
        cases w0 : tbl d with
        | none => trivial
        | some u => exact ((c.run _ _ w0).run _ _ _ _ _ g (.cons q (.cons p .nil))).boolR
theorem inTurns2 [c : LTb tbl] {d n n' : Nat} {x x' : VI} : ∀ (k i : Nat) {r : List Nat} {s h : Hi}, Ag2 r s h → RV2 r x x' → r[n]? = some n' → L2R RV2 r h (inTurnsU cs tbl n d x k i s) (inTurnsU cs tbl n' d x' k i h)
  | 0, i, r, s, h, g, p, e => by
    unfold inTurnsU
    have k := listAt2 g e
    cases z1 : listAt n s with
    | none => trivial
    | some xs =>
      cases z2 : listAt n' h with
      | none => rw [z1, z2] at k; cases k
      | some ys =>
        rw [z1, z2] at k
        have k : RVs2 r xs ys := k
        dsimp only
        rw [k.length]
        cases Nat.ble ys.length i with
        | true => exact .ok g (.bl false)
        | false => trivial
  | j + 1, i, r, s, h, g, p, e => by
    unfold inTurnsU
    have k := listAt2 g e
    cases z1 : listAt n s with
    | none => trivial
    | some xs =>
      cases z2 : listAt n' h with
      | none => rw [z1, z2] at k; cases k
      | some ys =>
        rw [z1, z2] at k
        have k : RVs2 r xs ys := k
        dsimp only
        cases z3 : xs[i]? with
        | none =>
          have : ys[i]? = none := by
            have := k.length
            rw [List.getElem?_eq_none_iff] at z3 ⊢
            omega
          rw [this]
          exact .ok g (.bl false)
        | some y =>
          obtain ⟨y', hy, py⟩ := k.get z3
          rw [hy]
          dsimp only
          rw [ins2 g p]
          cases insC x s with
          | none => trivial
          | some d' =>
            dsimp only
            cases Nat.beq d' d with
            | false => trivial
            | true =>
              refine (eqRef2 g py p).bind fun r1 s1 h1 v v' e1 g1 q1 => ?_
              cases q1 with
              | bl b =>
                cases b with
                | true => exact .ok g1 (.bl true)
                | false => exact inTurns2 j (i + 1) g1 (p.mono e1) (e1.pre e)
              | _ => trivial
end
instance {neg : Bool} {cs : List Nat} {tbl : Nat → Option MF} {f : Op2} {ma mb : ME} [c : LTb tbl] [x : LE ma] [y : LE mb] [o : LOp f] : LE (eInU neg cs tbl f ma mb) := ⟨fun r s h σ σ' g a => (x.run r s h σ σ' g a).bind fun r1 s1 h1 v v' e1 g1 q1 => (y.run _ _ _ _ _ g1 (a.mono e1)).bind fun r2 s2 h2 w w' e2 g2 q2 => by
  rw [ins2 g2 (q1.mono e2)]
  cases z : insC v s2 with
  | none => exact .ofO (o.run _ _ _ _ _ _ _ g2 (q1.mono e2) q2)
  | some d =>
    cases q2 with
    | @ref n n' e =>
      dsimp only
      have k := listAt2 g2 e
      cases z1 : listAt n s2 with
      | none => trivial
      | some xs =>
        cases z2 : listAt n' h2 with
        | none => rw [z1, z2] at k; cases k
        | some ys =>
          rw [z1, z2] at k
          have k : RVs2 r2 xs ys := k
          dsimp only
          rw [← k.length]
          refine (inTurns2 xs.length 0 g2 (q1.mono e2) e).bind fun r3 s3 h3 v3 v3' e3 g3 q3 => ?_
          cases q3 with
          | bl b => exact .ok g3 (.bl _)
          | _ => trivial
    | _ => trivial⟩
end ML
end
section
namespace PySem.W
open PySem PyProof.Rows
section
variable {prog : Program} {w : World} {A : Around} {E : Value → Shared → Prop} {s : Shared} {K : Frag} {x C f : Addr} {ox : Obj} {od : Option Obj} {name : Str}
end
end PySem.W
namespace ML
open PySem PySem.Spec PyProof.Rows L2 He
def ctR (neg : Bool) : Res VI → Res VI
  | .ok (.bl b) h => .ok (.bl (neg != b)) h
  | .ex c n h => .ex c n h
  | _ => .err
def eCtU (neg : Bool) (tbl : Nat → Option MF) (f : Op2) (a b : ME) : ME := fun σ h => (a σ h).bind fun x h1 => (b σ h1).bind fun y h2 => match insC y h2 with
  | some c => match tbl c with
    | some g => ctR neg (g [y, x] h2)
    | none => .err
  | none => ofO (f x y h2)
section
variable {G : Gx} {ρ : List Addr} {h : Hi} {H : Hp} {W : WX} {X : Cx} {A : Around} {a b : Expr} {pos : Pos} {ma mb : ME} {tbl : Nat → Option MF} {σ : L2.St} {f : Op2} {neg : Bool}
end
theorem L2R.ctR {neg : Bool} {r : List Nat} {h : Hi} {a b : Res VI} (k : L2R RV2 r h a b) : L2R RV2 r h (ctR neg a) (ctR neg b) := by
  cases a with
  | err => trivial
  | ex c n s' =>
    obtain ⟨r', h', m, rfl, e, g, q⟩ := k
    exact ⟨r', h', m, rfl, e, g, q⟩
  | ok v s' =>
    obtain ⟨r', h', v', rfl, e, g, q⟩ := k
    cases q with
    | bl b => exact ⟨r', h', _, rfl, e, g, .bl _⟩
    | _ => trivial
instance {ma mb : ME} {f : Op2} {neg : Bool} {tbl : Nat → Option MF} [c : LTb tbl] [x : LE ma] [y : LE mb] [o : LOp f] : LE (eCtU neg tbl f ma mb) := ⟨fun r s h σ σ' g a => (x.run r s h σ σ' g a).bind fun r1 s1 h1 v v' e1 g1 q1 => (y.run _ _ _ _ _ g1 (a.mono e1)).bind fun r2 s2 h2 w w' e2 g2 q2 => by
  rw [ins2 g2 q2]
  cases z : insC w s2 with
  | none => exact .ofO (o.run _ _ _ _ _ _ _ g2 (q1.mono e2) q2)
  | some d =>
    dsimp only
    cases w0 : tbl d with
    | none => trivial
    | some u => exact ((c.run _ _ w0).run _ _ _ _ _ g2 (.cons q2 (.cons (q1.mono e2) .nil))).ctR⟩
end ML
end
section
namespace ML
open PySem L2 He
def kdInK2 (neg : Bool) (tbl : S → Option VI) (ab : List S) : VI → Hi → Res VI := fun v h1 => match v with
  | .str s => match tbl s with
    | some _ => .ok (.bl (!neg)) h1
    | none => match ab.any fun z => decide (z = s) with
      | true => .ok (.bl neg) h1
      | false => .err
  | _ => .err
def eKdIn2 (neg : Bool) (tbl : S → Option VI) (ab : List S) (b : ME) : ME := fun σ h => (b σ h).bind (kdInK2 neg tbl ab)
section
variable {G : Gx} {W : WX} {X : Cx} {b : Expr} {pos p : Pos} {mb : ME}
end
instance {neg : Bool} {tbl : S → Option VI} {ab : List S} {ma : ME} [x : LE ma] : LE (eKdIn2 neg tbl ab ma) := ⟨fun r s h σ σ' g a => (x.run r s h σ σ' g a).bind fun r1 s1 h1 v v' e1 g1 q1 => by
  cases q1 with
  | str y =>
    dsimp only [kdInK2]
    cases z : tbl y with
    | none =>
      dsimp only
      cases z2 : ab.any fun u => decide (u = y) with
      | true => exact .ok g1 (.bl _)
      | false => trivial
    | some w => exact .ok g1 (.bl _)
  | _ => trivial⟩
end ML
end
section
namespace ML
open PySem PySem.Spec PyProof.Rows L2
section
variable {prog : Program} {w : World} {A : Around} {E : Value → Shared → Prop} {s : Shared}
end
def putSl (x v : VI) (h : Hi) : Option Hi := match x with
  | .ref n => match v with
    | .ref m => match h[n]? with
      | some (.lst xs) => match h[m]? with
        | some (.lst ys) => match !Nat.beq n m && small (xs.length + ys.length) with
          | true => some (h.set n (.lst ys))
          | false => none
        | _ => none
      | _ => none
    | _ => none
  | _ => none
def gSlA (o : ME) : MG := fun v σ h => (o σ h).bindS σ fun x h1 => nxO σ (putSl x v h1)
section
variable {G : Gx} {W : WX} {X : Cx} {o : Expr} {pos p2 : Pos} {mo : ME}
end
end ML
end
section
namespace ML
open PySem PySem.Spec PyProof.Rows L2 He
def restO (us : List Value) : Obj := { cls := .type "tuple", data := .seq us.toArray }
def withRest (s : Shared) (us : List Value) : Shared := { s with heap := s.heap.push (restO us) }
def BindsR (fd : FuncData) (ps : List Str) (m : Nat) (s : Shared) (us : List Value) : Prop :=
  ∀ (M : Model) (A : Around) (E : Value → Shared → Prop) (Q : List (Str × Value) → Shared → Prop), Q (ps.zip (us.take m ++ [.ref s.heap.objs.size])) (withRest s (us.drop m)) → wpAny M A (bindArgs fd ⟨us, []⟩) Q E s
section
variable {P : Program} {w : World} {K : PySem.W.Frag} {mg : Str → Option Value} {base : Heap} {B : Around} {out : List Env} {s : Shared} {H H2 : Hp} {us : List Value} {xs : List V} {fs : List Addr} {a : Addr} {o : HO}
structure FnOkR (z : Bool) (P : Program) (w : World) (K : PySem.W.Frag) (mg : Str → Option Value) (base : Heap) (k : Nat) (f : Addr) (fd : FuncData) (ps : List Str) (sp : Sp) : Prop where
  go : ∀ (B : Around) (out : List Env) (t : Shared) (H : Hp) (m : Nat) (us : List Value) (vs : List V) (Q : VK) (E : XK), Room k B → Env0 P w K mg base B out t H → BindsR fd ps m t us → Vals vs us → us.length ≤ sizeLine → m ≤ us.length → ps.length = m + 1 →
    sp (vs.take m ++ [.ref t.heap.objs.size]) (upd H t.heap.objs.size (.tup (vs.drop m))) Q E → codeAny (model P w) B (.call (.ref f) ⟨us, []⟩) (CR (CX z P w) out P w H t Q E) t
end
section
variable {G : Gx} {W : WX} {X : Cx} {k np : Nat} {f : Addr} {fd : FuncData} {ps : List Str} {g : MF} {P : Program} {w : World} {K : PySem.W.Frag} {mg : Str → Option Value} {base : Heap}
def restM (m : Nat) (g : MF) : MF := fun args h => match Nat.ble m args.length && Nat.ble args.length 100000 with
  | true => g (args.take m ++ [.tup (args.drop m)]) h
  | false => .err
end
section
variable {K : PySem.W.Frag} {x qual : Str} {body : List Stmt} {scope : Scope} {kws : List (Str × V)} {f : Addr} {fd : FuncData}
end
end ML
end
section
namespace ML
open PySem PySem.Spec PyProof.Rows L2 He
def starV (x : VI) (h : Hi) : Option (List VI) := match x with
  | .tup xs => some xs
  | .ref n => listAt n h
  | _ => none
def starK (mr : MA) (σ : Sg) (x : VI) (h : Hi) : Res (List VI) := match starV x h with
  | some xs => (mr σ h).bind fun ys h2 => .ok (xs ++ ys) h2
  | none => .err
def aStar (me : ME) (mr : MA) : MA := fun σ h => (me σ h).bind (starK mr σ)
section
variable {G : Gx} {W : WX} {X : Cx} {e : Expr} {es : List Expr} {p : Pos} {me : ME} {mr : MA}
variable {f : Addr} {g : MF} {x : Str} {pos : Pos} {ma : MA} {sp_ : Pos}
end
end ML
end
section
namespace ML
open PySem PySem.Spec PyProof.Rows L2 He
def RunM (X : Cx) (G : Gx) (W : WX) (fa : Addr) (f : MF) : Prop :=
  ∀ (pins : List (Addr × Obj)) (s : Shared) (σ : L2.St) (H : Hp) (us : List Value) (vs : List V) (args : List VI) (ρ : List Addr) (h : Hi) (Q : VK), Inv X pins σ H s → Vals vs us → RVs G ρ H args vs → Ag G ρ h H →
    FinG G ρ H (RV G) Q (fun c d H' => W c d σ H') (f args h) →
      codeAny (model X.prog X.w) X.A (.call (.ref fa) ⟨us, []⟩) (fun r s' => match r with | .ok (.ret v) => EP X pins σ Q v s' | .ok _ => False | .error e => X.xe e s') s
section
variable {G : Gx} {W : WX} {X : Cx} {k np m : Nat} {f : Addr} {fd : FuncData} {ps : List Str} {g : MF}
theorem RunM.call (r : RunM X G W f g) : CallM X G W (.ref f) g := fun pins s σ H us vs args ρ h Q I rv ra ag fin => wpAny_call (r pins s σ H us vs args ρ h Q I rv ra ag fin)
variable {o e : Expr} {mo : ME} {i : Nat} {y : Str} {p ep apos pos : Pos}
end
end ML
end
section
namespace ML
open PySem PySem.Spec PyProof.Rows L2 He
structure DOkR (z : Bool) (P : Program) (w : World) (K : PySem.W.Frag) (mg : Str → Option Value) (base : Heap) (nm : Nat → Option Str) (k : Nat) (p : Defn) (ps : List Str) (m : Nat) (g : MF) : Prop where
  ok : FnOkR z P w K mg base k (p K) (fdOf K p) ps (spM (GxOf w K mg nm) ps.length g)
  bn : ∀ (s : Shared) (us : List Value), K.In s.heap → m ≤ us.length → us.length ≤ sizeLine → BindsR (fdOf K p) ps m s us
  pl : ps.length = m + 1
  kp : PySem.W.keepIn K (.ref (p K)) = true
section
variable {G : Gx} {W : WX} {X : Cx} {nm : Nat → Option Str} {k k' m : Nat} {q : Defn} {ps : List Str} {g : MF}
end
def pairsV : List VI → Option (List (VI × VI))
  | [] => some []
  | .tup [a, b] :: r => match isKey a with
    | true => match pairsV r with
      | some l => some ((a, b) :: l)
      | none => none
    | false => none
  | _ => none
def cDictP : OpC := fun vs h => match vs with
  | [.ref n] => match h[n]? with
    | some (.lst xs) => match pairsV xs with
      | some kvs => some (.ref h.length, h ++ [.dic (putAll kvs [])])
      | none => none
    | some (.dic kvs) => some (.ref h.length, h ++ [.dic kvs])
    | _ => none
  | _ => none
section
variable {G : Gx} {X : Cx}
end
end ML
end
section
namespace ML
open PySem PySem.Spec PyProof.Rows L2 He
def mClear : OpM := fun x vs h => match x with
  | .ref n => match h[n]? with
    | some (.lst _) => match vs with
      | [] => some (.non, h.set n (.lst []))
      | _ => none
    | _ => none
  | _ => none
section
variable {G : Gx} {ρ : List Addr} {h : Hi} {H : Hp} {W : WX} {X : Cx}
end
end ML
end
section
namespace ML
open PySem L2
theorem putSl2 {r : List Nat} {s h s' : Hi} (g : Ag2 r s h) {x x' z z' : VI} (p : RV2 r x x') (k : RV2 r z z') (e : putSl x z s = some s') : ∃ h', putSl x' z' h = some h' ∧ Ex2 r h r h' ∧ Ag2 r s' h' := by
  unfold putSl at e ⊢
  cases p with
  | @ref n a i =>
    cases k with
    | @ref m b j =>
      obtain ⟨o, o', z1, z2, z3⟩ := g.no i
      obtain ⟨u, u', y1, y2, y3⟩ := g.no j
      dsimp only at e ⊢
      rw [z1] at e
      rw [z2]
      cases z3 with
      | lst t =>
        dsimp only at e ⊢
        rw [y1] at e
        rw [y2]
        cases y3 with
        | lst t2 =>
          dsimp only at e ⊢
          rw [← t.length, ← t2.length]
          cases q : !Nat.beq n m && small (_ + _) with
          | false => rw [q] at e; cases e
          | true =>
            rw [q] at e
            cases e
            obtain ⟨q4, q5⟩ := Bool.and_eq_true_iff.mp q
            have hnm : n ≠ m := fun z => by subst z; simp at q4
            have hab : a ≠ b := fun z => by
              subst z
              obtain ⟨i1, j1⟩ := List.getElem?_eq_some_iff.mp i
              obtain ⟨i2, j2⟩ := List.getElem?_eq_some_iff.mp j
              have pw := List.pairwise_iff_getElem.mp g.nd
              rcases Nat.lt_trichotomy n m with l | l | l
              · exact pw n m i1 i2 l (j1.trans j2.symm)
              · exact hnm l
              · exact pw m n i2 i1 l (j2.trans j1.symm)
            have hb : Nat.beq a b = false := Bool.eq_false_iff.mpr fun z => hab (Nat.eq_of_beq_eq_true z)
            rw [hb, q5]
            obtain ⟨c1, c2⟩ := g.wr z1 i (.lst t2)
            exact ⟨_, rfl, c2, c1⟩
        | _ => cases e
      | _ => cases e
    | _ => cases e
  | _ => cases e
instance {ma : ME} [x : LE ma] : LG (gSlA ma) := ⟨fun r s h σ σ' u u' g a q => (x.run r s h σ σ' g a).bindS a fun r1 s1 h1 v v' e1 g1 q1 => by
  cases e : putSl v u s1 with
  | none => trivial
  | some s' => obtain ⟨h', z1, z2, z3⟩ := putSl2 g1 q1 (q.mono e1) e; rw [z1]; exact ⟨_, _, _, rfl, z2, z3, (a.mono e1).mono z2⟩⟩
end ML
end
section
namespace ML
open PySem L2
theorem rvs2_take {r : List Nat} : ∀ {a b : List VI} (m : Nat), RVs2 r a b → RVs2 r (a.take m) (b.take m)
  | _, _, 0, _ => .nil
  | _, _, _ + 1, .nil => .nil
  | _, _, m + 1, .cons a t => .cons a (rvs2_take m t)
theorem rvs2_drop {r : List Nat} : ∀ {a b : List VI} (m : Nat), RVs2 r a b → RVs2 r (a.drop m) (b.drop m)
  | _, _, 0, t => t
  | _, _, _ + 1, .nil => .nil
  | _, _, m + 1, .cons _ t => rvs2_drop m t
theorem rvs2_app {r : List Nat} : ∀ {a b c d : List VI}, RVs2 r a b → RVs2 r c d → RVs2 r (a ++ c) (b ++ d)
  | _, _, _, _, .nil, k => k
  | _, _, _, _, .cons h t, k => .cons h (rvs2_app t k)
instance {m : Nat} {g : MF} [x : LF g] : LF (restM m g) := ⟨fun r s h vs vs' g2 k => by
  unfold restM
  rw [← k.length]
  cases (Nat.ble m vs.length && Nat.ble vs.length 100000) with
  | false => trivial
  | true => exact x.run r s h _ _ g2 (rvs2_app (rvs2_take m k) (.cons (.tup (rvs2_drop m k)) .nil))⟩
instance {me : ME} {mr : MA} [x : LE me] [y : LA mr] : LA (aStar me mr) := ⟨fun r s h σ σ' g a => (x.run r s h σ σ' g a).bind fun r1 s1 h1 v v' e1 g1 q1 => by
  unfold starK starV
  cases q1 with
  | tup t =>
    dsimp only
    exact (y.run _ _ _ _ _ g1 (a.mono e1)).bind fun r2 s2 h2 ws ws' e2 g2 q2 => .ok g2 (rvs2_app (t.mono e2) q2)
  | @ref n m p =>
    dsimp only
    have k := listAt2 g1 p
    cases z1 : listAt n s1 with
    | none => trivial
    | some xs =>
      rw [z1] at k
      cases z2 : listAt m h1 with
      | none => rw [z2] at k; exact k.elim
      | some ys =>
        rw [z2] at k
        dsimp only
        exact (y.run _ _ _ _ _ g1 (a.mono e1)).bind fun r2 s2 h2 ws ws' e2 g2 q2 => .ok g2 (rvs2_app (RVs2.mono e2 k) q2)
  | _ => trivial⟩
end ML
end
section
namespace ML
open PySem L2
theorem pairsV2 {r : List Nat} : ∀ {xs ys : List VI}, RVs2 r xs ys → match pairsV xs, pairsV ys with
    | some a, some b => RKs2 r a b
    | none, none => True
    | _, _ => False
  | _, _, .nil => .nil
  | x :: xs, y :: ys, .cons p t => by
    have ih := pairsV2 t
    cases p with
    | tup q =>
      cases q with
      | nil => unfold pairsV; trivial
      | cons q1 q =>
        cases q with
        | nil => unfold pairsV; trivial
        | cons q2 q =>
          cases q with
          | cons _ _ => unfold pairsV; trivial
          | nil =>
            unfold pairsV
            rw [← isKey2 q1]
            generalize isKey _ = kk
            cases kk with
            | false => trivial
            | true =>
              dsimp only
              cases z1 : pairsV xs with
              | none =>
                cases z2 : pairsV ys with
                | none => trivial
                | some _ => rw [z1, z2] at ih; exact ih.elim
              | some a =>
                cases z2 : pairsV ys with
                | none => rw [z1, z2] at ih; exact ih.elim
                | some b => rw [z1, z2] at ih; exact .cons q1 q2 ih
    | _ => unfold pairsV; trivial
instance : LOc cDictP := ⟨fun r s h vs vs' g t => by
  unfold cDictP
  cases t with
  | nil => trivial
  | cons p t =>
    cases t with
    | cons _ _ => cases p <;> trivial
    | nil =>
      cases p with
      | ref i =>
        obtain ⟨o, o', e1, e2, e3⟩ := g.no i
        dsimp only
        rw [e1, e2]
        cases e3 with
        | dic t => exact .new g fun r' e => .dic (t.mono e)
        | @lst xs ys t =>
          have q := pairsV2 t
          dsimp only
          cases z1 : pairsV xs with
          | none => trivial
          | some a =>
            cases z2 : pairsV ys with
            | none => rw [z1, z2] at q; exact q.elim
            | some b =>
              rw [z1, z2] at q
              exact .new g fun r' e => .dic (putAll2 (q.mono e) .nil)
        | _ => trivial
      | _ => trivial⟩
end ML
end
section
namespace ML
open PySem L2
instance : LOm mClear := ⟨fun r s h x x' vs vs' g p t => by
  unfold mClear
  cases p with
  | ref i =>
    obtain ⟨o, o', e1, e2, e3⟩ := g.no i
    dsimp only
    rw [e1, e2]
    cases e3 with
    | @lst xs ys l =>
      cases t with
      | cons _ _ => trivial
      | nil => exact .wr g e1 i (.lst .nil) .non
    | _ => trivial
  | _ => trivial⟩
end ML
end
section
namespace ML
open PySem L2
structure CRel (C : Type) where
  R : List Nat → C → C → Prop
  mono : ∀ {r r' : List Nat} {h h' : Hi} {c c' : C}, Ex2 r h r' h' → R r c c' → R r' c c'
variable {C : Type}
def L2C (Q : CRel C) (r : List Nat) (h : Hi) (a a' : RC C) : Prop := match a with
  | .go c s' => ∃ r' h' c', a' = .go c' h' ∧ Ex2 r h r' h' ∧ Ag2 r' s' h' ∧ Q.R r' c c'
  | .stop q => ∃ q', a' = .stop q' ∧ L2S r h q q'
  | .err => True
def L2G (Q : CRel C) (r : List Nat) (h : Hi) (a a' : RG C) : Prop := match a with
  | .nx b σ c n s' => ∃ r' h' σ' c', a' = .nx b σ' c' n h' ∧ Ex2 r h r' h' ∧ Ag2 r' s' h' ∧ AS2 r' σ σ' ∧ Q.R r' c c'
  | .out q => ∃ q', a' = .out q' ∧ L2S r h q q'
  | .ex k i c s' => ∃ r' h' c' m, a' = .ex k m c' h' ∧ Ex2 r h r' h' ∧ Ag2 r' s' h' ∧ Q.R r' c c' ∧ r'[i]? = some m
  | .err => True
theorem L2G.ext {Q : CRel C} {r r' : List Nat} {h h' : Hi} {a a' : RG C} (x : Ex2 r h r' h') (k : L2G Q r' h' a a') : L2G Q r h a a' := by
  cases a with
  | err => trivial
  | nx b σ c n s' => obtain ⟨r2, h2, m, c', e1, e2, e3⟩ := k; exact ⟨r2, h2, m, c', e1, x.trans e2, e3⟩
  | out q => obtain ⟨q', e1, e2⟩ := k; exact ⟨q', e1, e2.ext x⟩
  | ex k i c s' => obtain ⟨r2, h2, c', m, e1, e2, e3⟩ := k; exact ⟨r2, h2, c', m, e1, x.trans e2, e3⟩
def LCb (Q : CRel C) (cb cb' : CB C) : Prop := ∀ r s h x x' c c', Ag2 r s h → RV2 r x x' → Q.R r c c' → L2C Q r h (cb x c s) (cb' x' c' h)
def RunG (Q : CRel C) (cb cb' : CB C) (g : GMS C) : Prop := ∀ r s h σ σ' c c' b n, Ag2 r s h → AS2 r σ σ' → Q.R r c c' → L2G Q r h (g cb b σ c n s) (g cb' b σ' c' n h)
class LY (g : GMA) : Prop where
  run : ∀ {C : Type} (Q : CRel C) (cb cb' : CB C), LCb Q cb cb' → RunG Q cb cb' g
theorem L2R.yEv {α : Type} {R : List Nat → α → α → Prop} {Q : CRel C} {r : List Nat} {h : Hi} {a a' : Res α} {k k' : α → Hi → RG C} {b : Bool} {c c' : C} (h1 : L2R R r h a a') (hc : Q.R r c c')
    (h2 : ∀ r1 s1 h1 x x', Ex2 r h r1 h1 → Ag2 r1 s1 h1 → R r1 x x' → L2G Q r1 h1 (k x s1) (k' x' h1)) : L2G Q r h (yEv b c a k) (yEv b c' a' k') := by
  cases a with
  | err => trivial
  | ex k n s' =>
    obtain ⟨r', h', m, rfl, e, g, q⟩ := h1
    cases b with
    | true => exact ⟨r', h', c', m, rfl, e, g, Q.mono e hc, q⟩
    | false => trivial
  | ok v s' =>
    obtain ⟨r', h', v', rfl, e, g, q⟩ := h1
    exact (h2 r' s' h' v v' e g q).ext e
instance : LY (fun {C} => yNx (C := C)) := ⟨fun Q cb cb' _ r s h σ σ' c c' b n g a q => ⟨_, _, _, _, rfl, .refl, g, a, q⟩⟩
instance {m : MS} [x : LS m] : LY (fun {C} => yPl (C := C) m) := ⟨fun Q cb cb' _ r s h σ σ' c c' b n g a q => by
  have t := x.run _ _ _ _ _ g a
  unfold yPl
  cases e : m σ s with
  | nx σ2 s2 => rw [e] at t; obtain ⟨r2, h2, σ2', k1, k2, k3, k4⟩ := t; rw [k1]; exact ⟨r2, h2, σ2', c', rfl, k2, k3, k4, Q.mono k2 q⟩
  | ex k i σ2 s2 =>
    rw [e] at t
    obtain ⟨r2, h2, σ2', m', k1, k2, k3, k4, k5⟩ := t
    rw [k1]
    cases b with
    | true => exact ⟨r2, h2, c', m', rfl, k2, k3, Q.mono k2 q, k5⟩
    | false => trivial
  | rt _ _ => trivial
  | bk _ _ => trivial
  | ct _ _ => trivial
  | err => trivial⟩
instance {x y : GMA} [a : LY x] [b : LY y] : LY (fun {C} => ySeq (C := C) x y) := ⟨fun Q cb cb' hc r s h σ σ' c c' bb n g as q => by
  have t := a.run Q cb cb' hc r s h σ σ' c c' bb n g as q
  unfold ySeq
  cases w : x cb bb σ c n s with
  | err => trivial
  | nx b2 σ2 c2 n2 s2 => rw [w] at t; obtain ⟨r2, h2, m, c2', k1, e2, e3, e4, e5⟩ := t; rw [k1]; exact (b.run Q cb cb' hc _ _ _ _ _ _ _ _ _ e3 e4 e5).ext e2
  | out q => rw [w] at t; obtain ⟨q', k1, e2⟩ := t; rw [k1]; exact ⟨q', rfl, e2⟩
  | ex k i c2 s2 => rw [w] at t; obtain ⟨r2, h2, c2', m, k1, e2⟩ := t; rw [k1]; exact ⟨r2, h2, c2', m, rfl, e2⟩⟩
instance {e : ME} [x : LE e] : LY (fun {C} => yYld (C := C) e) := ⟨fun Q cb cb' hc r s h σ σ' c c' b n g a q => by
  cases n with
  | zero => trivial
  | succ n =>
    refine (x.run _ _ _ _ _ g a).yEv q fun r1 s1 h1 v v' e1 g1 rv => ?_
    have t := hc _ _ _ _ _ _ _ g1 rv (Q.mono e1 q)
    cases z : cb v c s1 with
    | go c2 s2 => rw [z] at t; obtain ⟨r2, h2, c2', k1, k2, k3, k4⟩ := t; rw [k1]; exact ⟨r2, h2, σ', c2', rfl, k2, k3, (a.mono e1).mono k2, k4⟩
    | stop q => rw [z] at t; obtain ⟨q', k1, k2⟩ := t; rw [k1]; exact ⟨q', rfl, k2⟩
    | err => trivial⟩
instance {t : MT} {x y : GMA} [z : LT t] [a : LY x] [b : LY y] : LY (fun {C} => yIf (C := C) t x y) := ⟨fun Q cb cb' hc r s h σ σ' c c' bb n g as q =>
  (z.run _ _ _ _ _ g as).yEv q fun r1 s1 h1 v v' e1 g1 rv => by
    subst rv
    cases v with
    | true => exact a.run Q cb cb' hc _ _ _ _ _ _ _ _ _ g1 (as.mono e1) (Q.mono e1 q)
    | false => exact b.run Q cb cb' hc _ _ _ _ _ _ _ _ _ g1 (as.mono e1) (Q.mono e1 q)⟩
theorem yTurns2 {Q : CRel C} {cb cb' : CB C} {ga : MG} {body : GMS C} [x : LG ga] (y : RunG Q cb cb' body) : ∀ (k i : Nat) (r : List Nat) (s h : Hi) (σ σ' : Sg) (a b : Itm) (c c' : C) (bb : Bool) (n : Nat), Ag2 r s h → AS2 r σ σ' → RI2 r a b → Q.R r c c' → L2G Q r h (yTurns a ga body k i cb bb σ c n s) (yTurns b ga body k i cb' bb σ' c' n h)
  | 0, i, r, s, h, σ, σ', a, b, c, c', bb, n, g, as, q, hc => by
    have n := nxt2 g q i
    unfold yTurns
    cases z1 : a.nxt i s with
    | none => trivial
    | some o => cases z2 : b.nxt i h with
      | none => rw [z1, z2] at n; exact n.elim
      | some o' =>
        rw [z1, z2] at n
        cases o with
        | some _ => trivial
        | none => cases o' with
          | some _ => exact n.elim
          | none => exact ⟨_, _, _, _, rfl, .refl, g, as, hc⟩
  | k + 1, i, r, s, h, σ, σ', a, b, c, c', bb, m, g, as, q, hc => by
    have n := nxt2 g q i
    unfold yTurns
    cases z1 : a.nxt i s with
    | none => trivial
    | some o => cases z2 : b.nxt i h with
      | none => rw [z1, z2] at n; exact n.elim
      | some o' =>
        rw [z1, z2] at n
        cases o with
        | none => cases o' with
          | some _ => exact n.elim
          | none => exact ⟨_, _, _, _, rfl, .refl, g, as, hc⟩
        | some v => cases o' with
          | none => exact n.elim
          | some v' =>
            dsimp only
            have t := x.run _ _ _ _ _ _ _ g as n
            cases w : ga v σ s with
            | nx σ2 s2 =>
              rw [w] at t
              obtain ⟨r2, h2, σ2', k1, k2, k3, k4⟩ := t
              rw [k1]
              dsimp only
              have u := y _ _ _ _ _ _ _ bb m k3 k4 (Q.mono k2 hc)
              refine L2G.ext k2 ?_
              cases w2 : body cb bb σ2 c m s2 with
              | nx b3 σ3 c3 n3 s3 =>
                rw [w2] at u
                obtain ⟨r3, h3, σ3', c3', j1, j2, j3, j4, j5⟩ := u
                rw [j1]
                exact (yTurns2 y k (i + 1) _ _ _ _ _ _ _ _ _ _ _ j3 j4 ((q.mono k2).mono j2) j5).ext j2
              | out q => rw [w2] at u; obtain ⟨q', j1, j2⟩ := u; rw [j1]; exact ⟨q', rfl, j2⟩
              | ex kk ii c3 s3 => rw [w2] at u; obtain ⟨r3, h3, c3', m3, j1, j2⟩ := u; rw [j1]; exact ⟨r3, h3, c3', m3, rfl, j2⟩
              | err => trivial
            | rt _ _ => trivial
            | bk _ _ => trivial
            | ct _ _ => trivial
            | ex _ _ _ _ => trivial
            | err => trivial
instance {mi : MI} {ga : MG} {body : GMA} [z : LI mi] [x : LG ga] [y : LY body] : LY (fun {C} => yFor (C := C) mi ga body) := ⟨fun Q cb cb' hc r s h σ σ' c c' bb n g as q =>
  (z.run _ _ _ _ _ g as).yEv q fun r1 s1 h1 v v' e1 g1 rv => by
    rw [fuel2 g1 rv]
    exact yTurns2 (y.run Q cb cb' hc) _ _ _ _ _ _ _ _ _ _ _ _ _ g1 (as.mono e1) rv (Q.mono e1 q)⟩
theorem yRun2 {Q : CRel C} {cb cb' : CB C} (gm : GMA) [y : LY gm] (hcb : LCb Q cb cb') {np m : Nat} {r : List Nat} {s h : Hi} {vs vs' : List VI} {c c' : C} (g : Ag2 r s h) (t : RVs2 r vs vs') (q : Q.R r c c') : L2G Q r h (yRun np m gm cb vs c s) (yRun np m gm cb' vs' c' h) := by
  unfold yRun
  rw [t.length]
  cases Nat.beq vs'.length np with
  | false => trivial
  | true => exact y.run Q cb cb' hcb _ _ _ _ _ _ _ _ _ g (slots2 m t) q
def qSg : CRel Sg := ⟨AS2, fun e a => a.mono e⟩
def qLs : CRel (List VI) := ⟨RVs2, fun e a => a.mono e⟩
instance {cs : List Nat} {np m : Nat} {gm : GMA} {ma : MA} {ga : MG} {mb : MS} [y : LY gm] [a : LA ma] [x : LG ga] [b : LS mb] : LS (sForG cs np m gm ma ga mb) := ⟨fun r s h σ σ' g as => (a.run r s h σ σ' g as).bindS as fun r1 s1 h1 v v' e1 g1 t1 => by
  have hcb : LCb qSg (cbFor ga mb) (cbFor ga mb) := fun r s h x x' c c' g rx rc => by
    unfold cbFor
    have t := (LG.run (g := ga) r s h c c' x x' g rc rx).andThen (f := mb) (f' := mb) fun r1 s1 h1 σ σ' e1 g1 a1 => b.run _ _ _ _ _ g1 a1
    cases w : (ga x c s).andThen mb with
    | nx σ2 s2 => rw [w] at t; obtain ⟨r2, h2, σ2', k1, k2⟩ := t; rw [k1]; exact ⟨r2, h2, σ2', rfl, k2⟩
    | ct σ2 s2 => rw [w] at t; obtain ⟨r2, h2, σ2', k1, k2⟩ := t; rw [k1]; exact ⟨r2, h2, σ2', rfl, k2⟩
    | bk σ2 s2 => rw [w] at t; obtain ⟨r2, h2, σ2', k1, k2⟩ := t; rw [k1]; exact ⟨_, rfl, r2, h2, σ2', rfl, k2⟩
    | rt σ2 s2 => rw [w] at t; obtain ⟨r2, h2, σ2', k1, k2⟩ := t; rw [k1]; exact ⟨_, rfl, r2, h2, σ2', rfl, k2⟩
    | ex _ _ _ _ => trivial
    | err => trivial
  have t := yRun2 gm (np := np) (m := m) hcb g1 t1 (show qSg.R r1 σ σ' from as.mono e1)
  cases w : yRun np m gm (cbFor ga mb) v σ s1 with
  | nx b σ2 c2 n2 s2 => rw [w] at t; obtain ⟨r2, h2, σ2', c2', k1, k2, k3, k4, k5⟩ := t; rw [k1]; exact ⟨r2, h2, c2', rfl, k2, k3, k5⟩
  | out q => rw [w] at t; obtain ⟨q', k1, k2⟩ := t; rw [k1]; exact k2
  | ex k i c2 s2 =>
    rw [w] at t
    obtain ⟨r2, h2, c2', m2, k1, k2, k3, k4, k5⟩ := t
    rw [k1]
    unfold finY exY
    dsimp only
    cases cs.contains k with
    | true => exact ⟨r2, h2, c2', m2, rfl, k2, k3, k4, k5⟩
    | false => trivial
  | err => trivial⟩
instance {cs : List Nat} {np m : Nat} {gm : GMA} {ma : MA} [y : LY gm] [a : LA ma] : LE (eListY cs np m gm ma) := ⟨fun r s h σ σ' g as => (a.run r s h σ σ' g as).bind fun r1 s1 h1 v v' e1 g1 t1 => by
  have hcb : LCb qLs cbLst cbLst := fun r s h x x' c c' g rx rc => by
    unfold cbLst
    rw [RVs2.length (show RVs2 r c c' from rc)]
    cases small (c'.length + 1) with
    | true => exact ⟨r, h, _, rfl, .refl, g, RVs2.append (show RVs2 r c c' from rc) (.cons rx .nil)⟩
    | false => trivial
  have t := yRun2 gm (np := np) (m := m) hcb g1 t1 (show qLs.R r1 [] [] from .nil)
  cases w : yRun np m gm cbLst v [] s1 with
  | nx b σ2 c2 n2 s2 =>
    rw [w] at t
    obtain ⟨r2, h2, σ2', c2', k1, k2, k3, k4, k5⟩ := t
    rw [k1]
    unfold finL
    dsimp only
    have k5' : RVs2 r2 c2 c2' := k5
    obtain ⟨g4, e4⟩ := k3.new (o := .lst c2) (o' := .lst c2') (.lst (k5'.mono (show Ex2 r2 h2 (r2 ++ [h2.length]) h2 from ⟨⟨[h2.length], rfl, fun m hm => by rw [List.mem_singleton] at hm; omega⟩, Nat.le_refl _, fun _ _ _ => rfl⟩)))
    exact ⟨_, _, .ref h2.length, rfl, k2.trans e4, g4, .ref (by rw [← k3.len]; simp)⟩
  | out q => trivial
  | ex k i c2 s2 =>
    rw [w] at t
    obtain ⟨r2, h2, c2', m2, k1, k2, k3, k4, k5⟩ := t
    rw [k1]
    unfold finL
    dsimp only
    cases cs.contains k with
    | true => exact ⟨r2, h2, m2, rfl, k2, k3, k5⟩
    | false => trivial
  | err => trivial⟩
end ML
end
section
namespace ML
open PySem PySem.Spec PyProof.Rows L2 GenW GQ
def cbLc (t : Tgt) (vs : List Nat) (el : ME) (D : Nat) (σ : Sg) : CB Unit := fun x _ h => match t.put x (wipeM σ vs) with
  | some σ2 => match el σ2 h with
    | .ok y h3 => match h3[D]? with
      | some (.lst acc) => match small (acc.length + 1) with
        | true => .go () (h3.set D (.lst (acc ++ [y])))
        | false => .err
      | _ => .err
    | _ => .err
  | none => .err
def finC (D : Nat) : RG Unit → Res VI
  | .nx _ _ _ _ h => .ok (.ref D) h
  | _ => .err
def eLcY (np m : Nat) (gm : GMA) (ma : MA) (t : Tgt) (vs : List Nat) (el : ME) : ME := fun σ h => (ma σ h).bind fun as h1 => finC h1.length (yRun np m gm (cbLc t vs el h1.length σ) as () (h1 ++ [.lst []]))
section
variable {G : Gx} {W : WX} {X : Cx} {pins : List (Addr × Obj)} {σ : L2.St} {H : Hp} {s : Shared} {Q : VK}
end
end ML
end
section
namespace GQ
open PySem PySem.Spec PySem.W
section
variable {prog : Program} {w : World} {K : Frag} {h₀ : Heap} {L : Addr} {m : Str → Option Value} {A : Around} {E : Value → Shared → Prop} {s : Shared} {x C f f' : Addr} {ox : Obj} {od : Option Obj}
def IntNo (prog : Program) (w : World) (nm : String) : Prop := ∀ (A : Around) (E : Value → Shared → Prop) (s : Shared) (i : Int) (t : Tok) (y : Addr) (o : Obj) (Q : Option Value → Shared → Prop), s.heap.get? y = some o → (∀ v, o.data ≠ .prim v) → Q none s → wpAny (model prog w) A (tryMethod (.int i t) (PySem.dunder nm) (.ref y)) Q E s
end
end GQ
namespace GQ
open PySem PySem.Spec PyProof.Rows
section
variable {prog : Program} {w : World}
end
end GQ
namespace ML
open PySem PySem.Spec PyProof.Rows L2 He
def eBinU (tF tR : Nat → Option MF) (f : Op2) (a b : ME) : ME := fun σ h => (a σ h).bind fun x h1 => (b σ h1).bind fun y h2 => match insC x h2 with
  | some c => match tF c, tyI y h2 with
    | some g, some (.bt _) => g [x, y] h2
    | some g, some (.own c') => match Nat.beq c c' with
      | true => g [x, y] h2
      | false => .err
    | _, _ => .err
  | none => match insC y h2 with
    | some c => match tR c, x with
      | some g, .int _ => g [y, x] h2
      | _, _ => .err
    | none => ofO (f x y h2)
structure BiOk (X : Cx) (G : Gx) (W : WX) (nm : String) (tF tR : Nat → Option MF) : Prop where
  fw : ∀ c C g, tF c = some g → G.ct c = some C → ∃ f, PySem.W.selfFirst X.K C = true ∧ PySem.W.findIn X.K (.ref C) (PySem.dunder nm) = some (some (.ref f)) ∧ PySem.W.isFn X.K (.ref f) = true ∧ (∃ rc, PySem.W.findIn X.K (.ref C) (dunderR nm) = some rc ∧ (rc = none ∨ ∃ g : Addr, rc = some (.ref g))) ∧
    (∀ T ∈ ["NoneType", "bool", "int", "str", "tuple", "list", "dict"], (∃ fo, PySem.W.findIn X.K (.type T) (PySem.dunder nm) = some fo) ∧ (∃ ro, PySem.W.findIn X.K (.type T) (dunderR nm) = some ro) ∧ PySem.W.subIn X.K (.type T) (.ref C) = some false) ∧ CallAt X X.A G W (.ref f) g
  rv : ∀ c C g, tR c = some g → G.ct c = some C → GQ.IntNo X.prog X.w nm ∧ ∃ f f' fo ro, PySem.W.selfFirst X.K C = true ∧ PySem.W.findIn X.K (.ref C) (PySem.dunder nm) = some (some (.ref f)) ∧ PySem.W.findIn X.K (.ref C) (dunderR nm) = some (some (.ref f')) ∧ PySem.W.isFn X.K (.ref f') = true ∧
    PySem.W.findIn X.K (.type "int") (PySem.dunder nm) = some fo ∧ PySem.W.findIn X.K (.type "int") (dunderR nm) = some ro ∧ ((fo.isSome && !isSeqSlot fo) || (ro.isSome && !isSeqSlot ro)) = true ∧ PySem.W.subIn X.K (.ref C) (.type "int") = some false ∧ CallAt X X.A G W (.ref f') g
section
variable {G : Gx} {ρ : List Addr} {h : Hi} {H : Hp} {W : WX} {X : Cx} {a b : Expr} {pos : Pos} {ma mb : ME} {tF tR : Nat → Option MF} {σ : L2.St} {f : Op2}
end
end ML
namespace ML
open PySem PySem.Spec PyProof.Rows L2 He
section
variable {Y : Cx} {W : WX} {nm : Nat → Option Str} {mg : Str → Option Value} {n : String}
end
end ML
end
section
namespace ML
open PySem L2
def qLc (σ σ' : Sg) (d d' : Nat) : CRel Unit := ⟨fun r _ _ => AS2 r σ σ' ∧ r[d]? = some d', fun e a => ⟨a.1.mono e, e.pre a.2⟩⟩
instance {np m : Nat} {gm : GMA} {ma : MA} {t : Tgt} {vs : List Nat} {el : ME} [y : LY gm] [a : LA ma] [x : LE el] : LE (eLcY np m gm ma t vs el) := ⟨fun r s h σ σ' g as => (a.run r s h σ σ' g as).bind fun r1 s1 h1 v v' e1 g1 t1 => by
  obtain ⟨g2, e2⟩ := g1.new (o := .lst []) (o' := .lst []) (.lst .nil)
  have hcb : LCb (qLc σ σ' s1.length h1.length) (cbLc t vs el s1.length σ) (cbLc t vs el h1.length σ') := fun r s h w w' c c' g rx rc => by
    obtain ⟨as3, d3⟩ : AS2 r σ σ' ∧ r[s1.length]? = some h1.length := rc
    unfold cbLc
    cases z3 : t.put w (wipeM σ vs) with
    | none => trivial
    | some τ =>
      obtain ⟨τ', w1, w2⟩ := put2 t rx (wipe2 as3 vs) z3
      rw [w1]
      dsimp only
      have ek := x.run _ _ _ _ _ g w2
      cases z5 : el τ s with
      | err => trivial
      | ex _ _ _ => trivial
      | ok u s3 =>
        rw [z5] at ek
        obtain ⟨r3, h3, u', m1, m2, m3, m4⟩ := ek
        rw [m1]
        dsimp only
        obtain ⟨o, o', v1, v2, v3⟩ := m3.no (m2.pre d3)
        rw [v1, v2]
        cases v3 with
        | lst l =>
          dsimp only
          rw [l.length]
          cases z6 : small _ with
          | false => trivial
          | true =>
            dsimp only
            obtain ⟨g4, e4⟩ := m3.wr v1 (m2.pre d3) (.lst (l.append (.cons m4 .nil)))
            exact ⟨_, _, (), rfl, m2.trans e4, g4, (as3.mono m2).mono e4, e4.pre (m2.pre d3)⟩
        | _ => trivial
  have tt := yRun2 gm (np := np) (m := m) hcb g2 (t1.mono e2) (show (qLc σ σ' s1.length h1.length).R _ () () from ⟨(as.mono e1).mono e2, g1.idx⟩)
  cases w : yRun np m gm (cbLc t vs el s1.length σ) v () (s1 ++ [.lst []]) with
  | nx b σ2 c2 n2 s2 =>
    rw [w] at tt
    obtain ⟨r2, h2, σ2', c2', k1, k2, k3, k4, k5⟩ := tt
    rw [k1]
    exact ⟨_, _, .ref h1.length, rfl, e2.trans k2, k3, .ref (k2.pre g1.idx)⟩
  | out q => trivial
  | ex k i c2 s2 => trivial
  | err => trivial⟩
instance {tF tR : Nat → Option MF} {f : Op2} {ma mb : ME} [c : LTb tF] [d : LTb tR] [x : LE ma] [y : LE mb] [o : LOp f] : LE (eBinU tF tR f ma mb) := ⟨fun r s h σ σ' g a => (x.run r s h σ σ' g a).bind fun r1 s1 h1 v v' e1 g1 q1 => (y.run _ _ _ _ _ g1 (a.mono e1)).bind fun r2 s2 h2 w w' e2 g2 q2 => by
  have q1' := q1.mono e2
  rw [ins2 g2 q1', ty2 g2 q2]
  cases z : insC v s2 with
  | some k =>
    dsimp only
    cases w0 : tF k with
    | none => trivial
    | some u =>
      have run := (c.run _ _ w0).run _ _ _ _ _ g2 (.cons q1' (.cons q2 .nil))
      cases w1 : tyI w s2 with
      | none => trivial
      | some T =>
        cases T with
        | bt t => exact run
        | own k' =>
          dsimp only
          cases Nat.beq k k' with
          | true => exact run
          | false => trivial
  | none =>
    dsimp only
    rw [ins2 g2 q2]
    cases z2 : insC w s2 with
    | none => exact .ofO (o.run _ _ _ _ _ _ _ g2 q1' q2)
    | some k =>
      dsimp only
      cases w0 : tR k with
      | none => trivial
      | some u =>
        cases q1' with
        | int i => exact (d.run _ _ w0).run _ _ _ _ _ g2 (.cons q2 (.cons (.int i) .nil))
        | _ => trivial⟩
end ML
end
section
namespace ML
open PySem L2
section
variable {n m : Nat} {a a' b b' : ME}
instance [x : LE2 n m a a'] [y : LE2 n m b b'] : LE2 n m (eAnd a b) (eAnd a' b') := ⟨fun r s h σ σ' q g p => (x.run r s h σ σ' q g p).bind fun r1 s1 h1 v v' e1 g1 q1 => by
  cases q1 with
  | bl b =>
    cases b with
    | true => exact y.run _ _ _ _ _ (e1.at_ q) g1 (p.mono e1)
    | false => exact .ok g1 (.bl _)
  | _ => trivial⟩
instance [x : LE2 n m a a'] : LE2 n m (eNot a) (eNot a') := ⟨fun r s h σ σ' q g p => (x.run r s h σ σ' q g p).bind fun r1 s1 h1 v v' e1 g1 q1 => by
  cases q1 with
  | bl b => exact .ok g1 (.bl _)
  | _ => trivial⟩
end
end ML
end
section
namespace GQ
open PySem PySem.Spec PyProof.Rows L2 GenW ML
section
variable {M : Model} {A : Around} {E : Value → Shared → Prop} {s : Shared} {env : Env}
end
section
variable {X : Cx} {pins : List (Addr × Obj)} {σ : L2.St} {H : Hp} {sc s : Shared} {W : WX} {C : Addr} {ce : Env} {u : Value} {m : Str → Option Value}
end
end GQ
namespace ML
open PySem PySem.Spec PyProof.Rows L2 GenW GQ
section
variable {G : Gx} {W : WX} {X : Cx} {pins : List (Addr × Obj)} {σ : L2.St} {H : Hp} {s : Shared} {Q : VK}
end
theorem boot_ValueError : bootBuiltins "ValueError" = some (.type "ValueError") := by kernel_rfl
end ML
end
section
namespace ML
open PySem PySem.Spec PyProof.Rows L2 GenW GQ
def sWith (tE tX : Nat → Option MF) (e : ME) (mb : MS) : MS := fun σ h => (e σ h).bindS σ fun x h1 => match insC x h1 with
  | some c => match tE c, tX c with
    | some ge, some gx => match ge [x] h1 with
      | .ok _ h2 => match mb σ h2 with
        | .nx σ' h3 => match gx [x, .non, .non, .non] h3 with
          | .ok _ h4 => .nx σ' h4
          | _ => .err
        | _ => .err
      | _ => .err
    | _, _ => .err
  | none => .err
section
variable {G : Gx} {W : WX} {X : Cx} {me : ME} {mb : MS} {tE tX : Nat → Option MF} {ctx : Expr} {body : List Stmt} {pos : Pos}
end
open He in
def wiB (K : PySem.W.Frag) (x : Str) (d d' : PySem.W.Frag → Addr) : Bool := eqO (PySem.W.findIn K (.ref (ga K x)) "__enter__") (some (some (.ref (d K)))) && (PySem.W.isFn K (.ref (d K)) && (eqO (PySem.W.findIn K (.ref (ga K x)) "__exit__") (some (some (.ref (d' K)))) && PySem.W.isFn K (.ref (d' K))))
section
open He
variable {Y : Cx} {nm : Nat → Option Str} {mg : Str → Option Value}
end
end ML
end
section
namespace ML
open PySem L2
instance {tE tX : Nat → Option MF} {me : ME} {mb : MS} [c : LTb tE] [d : LTb tX] [x : LE me] [y : LS mb] : LS (sWith tE tX me mb) := ⟨fun r s h σ σ' g a => (x.run r s h σ σ' g a).bindS a fun r1 s1 h1 v v' e1 g1 q1 => by
  have a1 := a.mono e1
  rw [ins2 g1 q1]
  cases z : insC v s1 with
  | none => trivial
  | some k =>
    dsimp only
    cases w0 : tE k with
    | none => trivial
    | some ge =>
      cases w1 : tX k with
      | none => trivial
      | some gx =>
        dsimp only
        have t1 := (c.run _ _ w0).run _ _ _ _ _ g1 (.cons q1 .nil)
        cases w2 : ge [v] s1 with
        | err => trivial
        | ex _ _ _ => trivial
        | ok v2 s2 =>
          rw [w2] at t1
          obtain ⟨r2, h2, v2', j1, j2, j3, j4⟩ := t1
          rw [j1]
          dsimp only
          have t2 := y.run _ _ _ _ _ j3 (a1.mono j2)
          cases w3 : mb σ s2 with
          | nx σ3 s3 =>
            rw [w3] at t2
            obtain ⟨r3, h3, σ3', k1, k2, k3, k4⟩ := t2
            rw [k1]
            dsimp only
            have t3 := (d.run _ _ w1).run _ _ _ _ _ k3 (.cons ((q1.mono j2).mono k2) (.cons .non (.cons .non (.cons .non .nil))))
            cases w4 : gx [v, .non, .non, .non] s3 with
            | err => trivial
            | ex _ _ _ => trivial
            | ok v4 s4 =>
              rw [w4] at t3
              obtain ⟨r4, h4, v4', l1, l2, l3, l4⟩ := t3
              rw [l1]
              exact ⟨r4, h4, _, rfl, (j2.trans k2).trans l2, l3, k4.mono l2⟩
          | _ => trivial⟩
theorem whl2 {t : MT} {b : MS} [x : LT t] [y : LS b] : ∀ n, LS (whl t b n)
  | 0 => ⟨fun _ _ _ _ _ _ _ => trivial⟩
  | n + 1 => ⟨fun r s h σ σ' g a => (x.run r s h σ σ' g a).bindS a fun r1 s1 h1 v v' e1 g1 q1 => by
    subst q1
    cases v with
    | false => exact ⟨r1, h1, _, rfl, .refl, g1, a.mono e1⟩
    | true =>
      have t := y.run _ _ _ _ _ g1 (a.mono e1)
      dsimp only
      cases w : b σ s1 with
      | nx σ2 s2 =>
        rw [w] at t
        obtain ⟨r2, h2, σ2', k1, k2, k3, k4⟩ := t
        rw [k1]
        exact ((whl2 n).run _ _ _ _ _ k3 k4).ext k2
      | ct σ2 s2 =>
        rw [w] at t
        obtain ⟨r2, h2, σ2', k1, k2, k3, k4⟩ := t
        rw [k1]
        exact ((whl2 n).run _ _ _ _ _ k3 k4).ext k2
      | bk σ2 s2 =>
        rw [w] at t
        obtain ⟨r2, h2, σ2', k1, k2, k3, k4⟩ := t
        rw [k1]
        exact ⟨r2, h2, σ2', rfl, k2, k3, k4⟩
      | rt u s2 =>
        rw [w] at t
        obtain ⟨r2, h2, u', k1, k2, k3, k4⟩ := t
        rw [k1]
        exact ⟨r2, h2, u', rfl, k2, k3, k4⟩
      | ex c m σ2 s2 =>
        rw [w] at t
        obtain ⟨r2, h2, σ2', m', k1, k2, k3, k4, k5⟩ := t
        rw [k1]
        exact ⟨r2, h2, σ2', m', rfl, k2, k3, k4, k5⟩
      | err => trivial⟩
instance {t : MT} {b : MS} {n : Nat} [x : LT t] [y : LS b] : LS (sWhile (fun _ _ => n) t b) := ⟨fun r s h σ σ' g a => (whl2 n).run r s h σ σ' g a⟩
end ML
end
section
namespace ML
open PySem L2 PySem.Spec PyProof.Rows
def getN (n : NestedKey) : List (VI × VI) → Option VI
  | [] => none
  | (a, v) :: r => match decide (nkD a = some n) with
    | true => some v
    | false => getN n r
def hasN (n : NestedKey) (d : List (VI × VI)) : Bool := (getN n d).isSome
def repN (n : NestedKey) (v : VI) : List (VI × VI) → List (VI × VI)
  | [] => []
  | (a, x) :: r => match decide (nkD a = some n) with
    | true => (a, v) :: repN n v r
    | false => (a, x) :: repN n v r
def putN (k : VI) (n : NestedKey) (v : VI) (d : List (VI × VI)) : List (VI × VI) := match hasN n d with
  | true => repN n v d
  | false => d ++ [(k, v)]
section
variable {G : Gx} {ρ : List Addr} {H : Hp}
theorem atKey_pos {p : NestedKey × Addr × Value} {r : List (NestedKey × Addr × Value)} {n : NestedKey} (e : p.1 = n) : atKey (p :: r) n = some p.2 := by simp [atKey, List.find?_cons, e]
theorem atKey_neg {p : NestedKey × Addr × Value} {r : List (NestedKey × Addr × Value)} {n : NestedKey} (e : ¬ p.1 = n) : atKey (p :: r) n = atKey r n := by simp [atKey, List.find?_cons, e]
theorem RNs.get {n : NestedKey} : ∀ {kvs : List (VI × VI)} {xs : List (NestedKey × Addr × Value)}, RNs G ρ H kvs xs → match getN n kvs with
    | some v => ∃ p x, atKey xs n = some p ∧ RV G ρ H v x ∧ RelV x p.2
    | none => atKey xs n = none
  | _, _, .nil => rfl
  | _, _, .cons (k := k) (n := m) (b := b) (u := u) (as := as) (xs := xs) e hk h r t => by
    unfold getN
    rw [e]
    by_cases q : m = n
    · rw [decide_eq_true (congrArg some q)]
      exact ⟨(b, u), _, atKey_pos q, h, r⟩
    · rw [decide_eq_false (fun z => q (Option.some.inj z))]
      have ih := RNs.get (n := n) t
      rw [atKey_neg (p := (m, b, u)) q]
      exact ih
theorem RNs.has {n : NestedKey} {kvs : List (VI × VI)} {xs : List (NestedKey × Addr × Value)} (r : RNs G ρ H kvs xs) : hasN n kvs = (atKey xs n).isSome := by
  have g := r.get (n := n)
  unfold hasN
  cases q : getN n kvs with
  | none => rw [q] at g; rw [show atKey xs n = none from g]; rfl
  | some v => rw [q] at g; obtain ⟨p, x, hp, _⟩ := g; rw [hp]; rfl
theorem RNs.rep {n : NestedKey} {v : VI} {x : V} {u : Value} (rv : RV G ρ H v x) (ru : RelV x u) : ∀ {kvs : List (VI × VI)} {xs : List (NestedKey × Addr × Value)}, RNs G ρ H kvs xs → RNs G ρ H (repN n v kvs) (xs.map (putAt n u))
  | _, _, .nil => .nil
  | _, _, .cons (k := k) (n := m) (b := b) (u := u') e hk h r t => by
    unfold repN
    rw [List.map_cons, e]
    unfold putAt
    by_cases q : m = n
    · rw [decide_eq_true (congrArg some q), if_pos (show (m, b, u').1 = n from q)]
      exact .cons e hk rv ru (RNs.rep rv ru t)
    · rw [decide_eq_false (fun z => q (Option.some.inj z)), if_neg (show ¬ (m, b, u').1 = n from q)]
      exact .cons e hk h r (RNs.rep rv ru t)
theorem RNs.snoc {n : NestedKey} {k v : VI} {b : Addr} {x : V} {u : Value} (e : nkD k = some n) (hk : RV G ρ H k (.ref b)) (rv : RV G ρ H v x) (ru : RelV x u) : ∀ {kvs : List (VI × VI)} {xs : List (NestedKey × Addr × Value)}, RNs G ρ H kvs xs → RNs G ρ H (kvs ++ [(k, v)]) (xs ++ [(n, b, u)])
  | _, _, .nil => .cons e hk rv ru .nil
  | _, _, .cons e' hk' h r t => .cons e' hk' h r (RNs.snoc e hk rv ru t)
theorem RNs.put {n : NestedKey} {k v : VI} {b : Addr} {x : V} {u : Value} (e : nkD k = some n) (hk : RV G ρ H k (.ref b)) (rv : RV G ρ H v x) (ru : RelV x u) {kvs : List (VI × VI)} {xs : List (NestedKey × Addr × Value)} (r : RNs G ρ H kvs xs) : RNs G ρ H (putN k n v kvs) (storedH xs n b u) := by
  unfold putN storedH
  rw [r.has]
  cases (atKey xs n).isSome with
  | true => rw [if_pos rfl]; exact r.rep rv ru
  | false => rw [if_neg Bool.false_ne_true]; exact r.snoc e hk rv ru
end
section
variable {G : Gx} {ρ : List Addr} {H : Hp} {X : Cx} {pins : List (Addr × Obj)} {σ : L2.St} {s : Shared}
end
def fInN (neg : Bool) : Op2 := fun y x h => match x with
  | .ref n => match h[n]? with
    | some (.dnk kvs) => match nkD y with
      | some k => some (.bl (if neg then !hasN k kvs else hasN k kvs), h)
      | none => none
    | _ => none
  | _ => none
def fGetN : Op2 := fun x y h => match x with
  | .ref n => match h[n]? with
    | some (.dnk kvs) => match nkD y with
      | some k => match getN k kvs with
        | some v => some (v, h)
        | none => none
      | none => none
    | _ => none
  | _ => none
section
variable {G : Gx} {ρ : List Addr} {h : Hi} {H : Hp} {W : WX} {X : Cx} {a b o i v : Expr} {es : List Expr} {pos p pos' apos cpos : Pos} {ma mb mo mi : ME}
def putIxN (o i v : VI) (h : Hi) : Option Hi := match o with
  | .ref n => match h[n]? with
    | some (.dnk kvs) => match nkD i with
      | some k => match small (kvs.length + 1) with
        | true => some (h.set n (.dnk (putN i k v kvs)))
        | false => none
      | none => none
    | _ => none
  | _ => none
def gPutN (o i : ME) : MG := fun v σ h => (o σ h).bindS σ fun x h1 => (i σ h1).bindS σ fun y h2 => nxO σ (putIxN x y v h2)
def eDispN0 : ME := fun _ h => .ok (.ref h.length) (h ++ [.dnk []])
def eDispN (k v : ME) : ME := fun σ h => (k σ (h ++ [.dnk []])).bind fun x h1 => (v σ h1).bind fun y h2 => match h2[h.length]?, nkD x with
  | some (.dnk []), some n => .ok (.ref h.length) (h2.set h.length (.dnk [(x, y)]))
  | _, _ => .err
end
end ML
end
section
namespace ML
open PySem L2 PySem.Spec PyProof.Rows
def keysN : List (VI × VI) → List VI
  | [] => []
  | (a, _) :: r => a :: keysN r
def cListN : OpC := fun vs h => match vs with
  | [.ref n] => match h[n]? with
    | some (.dnk kvs) => some (.ref h.length, h ++ [.lst (keysN kvs)])
    | _ => none
  | _ => none
def cLenN : OpC := fun vs h => match vs with
  | [.ref n] => match h[n]? with
    | some (.dnk kvs) => some (.int kvs.length, h)
    | _ => none
  | _ => none
section
variable {G : Gx} {ρ : List Addr} {h : Hi} {H : Hp} {W : WX} {X : Cx} {e a b c o i v : Expr} {es : List Expr} {pos p p2 pos' apos cpos : Pos} {me ma mb mo mi : ME} {T : IsT}
theorem RNs.keys : ∀ {kvs : List (VI × VI)} {xs : List (NestedKey × Addr × Value)}, RNs G ρ H kvs xs → RVs G ρ H (keysN kvs) (xs.map fun x => V.ref x.2.1)
  | _, _, .nil => .nil
  | _, _, .cons e hk h r t => .cons hk (RNs.keys t)
def eKeysN (o : ME) : ME := fun σ h => (o σ h).bind fun x h1 => ofO (cListN [x] h1)
def eClearN (o : ME) : ME := fun σ h => (o σ h).bind fun x h1 => match x with
  | .ref n => match h1[n]? with
    | some (.dnk _) => .ok .non (h1.set n (.dnk []))
    | _ => .err
  | _ => .err
def eIsiN (T : IsT) (e : ME) : ME := fun σ h => (e σ h).bind fun v h1 => match v with
  | .ref n => match h1[n]? with
    | some (.dnk _) => match T.dic with
      | some b => .ok (.bl b) h1
      | none => .err
    | _ => .err
  | _ => .err
end
end ML
end
section
namespace ML
open PySem L2 PySem.Spec PyProof.Rows
def turnsN (it : Itm) (t : Tgt) (vs : List Nat) (tt : MT) (ek ev : ME) (D : Nat) (σ : Sg) : Nat → Nat → Hi → Option Hi
  | 0, i, h => match it.nxt i h with
    | some none => some h
    | _ => none
  | k + 1, i, h => match it.nxt i h with
    | some none => some h
    | some (some x) => match t.put x (wipeM σ vs) with
      | some σ2 => match tt σ2 h with
        | .ok true h2 => match ek σ2 h2 with
          | .ok y h3 => match ev σ2 h3 with
            | .ok z h4 => match h4[D]?, nkD y with
              | some (.dnk acc), some n => match small (acc.length + 1) with
                | true => turnsN it t vs tt ek ev D σ k (i + 1) (h4.set D (.dnk (putN y n z acc)))
                | false => none
              | _, _ => none
            | _ => none
          | _ => none
        | .ok false h2 => turnsN it t vs tt ek ev D σ k (i + 1) h2
        | _ => none
      | none => none
    | none => none
def eDcN (mi : MI) (t : Tgt) (vs : List Nat) (tt : MT) (ek ev : ME) : ME := fun σ h => (mi σ h).bind fun it h1 => match turnsN it t vs tt ek ev h1.length σ (it.fuel h1) 0 (h1 ++ [.dnk []]) with
  | some h2 => .ok (.ref h1.length) h2
  | none => .err
section
variable {X : Cx} {G : Gx}
end
end ML
end
section
namespace ML
open PySem L2
section
variable {r r' : List Nat} {h h' s : Hi}
theorem nks2 {f : VI → Option NestedKey} (ih : ∀ v w, RV2 r v w → f w = f v) : ∀ {vs ws : List VI}, RVs2 r vs ws → nksOf f ws = nksOf f vs
  | _, _, .nil => rfl
  | _, _, .cons a t => by unfold nksOf; rw [ih _ _ a, nks2 ih t]
theorem nk2 : ∀ (f : Nat) (v w : VI), RV2 r v w → nkOf f w = nkOf f v
  | 0, v, w, a => by cases a <;> rfl
  | f + 1, v, w, a => by
    cases a with
    | tup t => show (nksOf (nkOf f) _).map _ = (nksOf (nkOf f) _).map _; rw [nks2 (fun v w a => nk2 f v w a) t]
    | _ => rfl
theorem nkD2 {v w : VI} (a : RV2 r v w) : nkD w = nkD v := by
  have k := nk2 8 v w a
  cases a with
  | tup t => exact k
  | _ => rfl
theorem getN2 (n : NestedKey) : ∀ {d d' : List (VI × VI)}, RKs2 r d d' → ROp2 r (getN n d) (getN n d')
  | _, _, .nil => trivial
  | _, _, .cons (a := a) (b := b) k v t => by
    unfold getN
    rw [nkD2 k]
    cases decide (nkD a = some n) with
    | true => exact v
    | false => exact getN2 n t
theorem hasN2 (n : NestedKey) {d d' : List (VI × VI)} (t : RKs2 r d d') : hasN n d' = hasN n d := by
  have k := getN2 n t
  unfold hasN
  cases z : getN n d with
  | none => cases z2 : getN n d' with
    | none => rfl
    | some _ => rw [z, z2] at k; exact k.elim
  | some _ => cases z2 : getN n d' with
    | none => rw [z, z2] at k; exact k.elim
    | some _ => rfl
theorem repN2 (n : NestedKey) {v w : VI} (p : RV2 r v w) : ∀ {d d' : List (VI × VI)}, RKs2 r d d' → RKs2 r (repN n v d) (repN n w d')
  | _, _, .nil => .nil
  | _, _, .cons (a := a) (b := b) k u t => by
    unfold repN
    rw [nkD2 k]
    cases decide (nkD a = some n) with
    | true => exact .cons k p (repN2 n p t)
    | false => exact .cons k u (repN2 n p t)
theorem snocN2 {a b v w : VI} (k : RV2 r a b) (p : RV2 r v w) : ∀ {d d' : List (VI × VI)}, RKs2 r d d' → RKs2 r (d ++ [(a, v)]) (d' ++ [(b, w)])
  | _, _, .nil => .cons k p .nil
  | _, _, .cons k' u t => .cons k' u (snocN2 k p t)
theorem putN2 (n : NestedKey) {a b v w : VI} (k : RV2 r a b) (p : RV2 r v w) {d d' : List (VI × VI)} (t : RKs2 r d d') : RKs2 r (putN a n v d) (putN b n w d') := by
  unfold putN
  rw [hasN2 n t]
  cases hasN n d with
  | true => exact repN2 n p t
  | false => exact snocN2 k p t
theorem keysN2 : ∀ {d d' : List (VI × VI)}, RKs2 r d d' → RVs2 r (keysN d) (keysN d')
  | _, _, .nil => .nil
  | _, _, .cons k _ t => .cons k (keysN2 t)
end
instance {neg : Bool} : LOp (fInN neg) := ⟨fun r s h x y x' y' g p q => by
  unfold fInN
  rw [nkD2 p]
  cases q with
  | @ref n m i =>
    obtain ⟨o, o', z1, z2, z3⟩ := g.no i
    dsimp only
    rw [z1, z2]
    cases z3 with
    | dnk t =>
      dsimp only
      cases nkD x with
      | none => trivial
      | some k => dsimp only; rw [hasN2 k t]; exact .ok g (.bl _)
    | _ => trivial
  | _ => trivial⟩
instance : LOp fGetN := ⟨fun r s h x y x' y' g p q => by
  unfold fGetN
  rw [nkD2 q]
  cases p with
  | @ref n m i =>
    obtain ⟨o, o', z1, z2, z3⟩ := g.no i
    dsimp only
    rw [z1, z2]
    cases z3 with
    | dnk t =>
      dsimp only
      cases nkD y with
      | none => trivial
      | some k =>
        have j := getN2 k t
        dsimp only
        cases y1 : getN k _ with
        | none => trivial
        | some v => cases y2 : getN k _ with
          | none => rw [y1, y2] at j; exact j.elim
          | some w => rw [y1, y2] at j; exact .ok g j
    | _ => trivial
  | _ => trivial⟩
theorem putIxN2 {r : List Nat} {s h s' : Hi} (g : Ag2 r s h) {x x' y y' z z' : VI} (p : RV2 r x x') (q : RV2 r y y') (k : RV2 r z z') (e : putIxN x y z s = some s') : ∃ h', putIxN x' y' z' h = some h' ∧ Ex2 r h r h' ∧ Ag2 r s' h' := by
  unfold putIxN at e ⊢
  rw [nkD2 q]
  cases p with
  | @ref n a i =>
    obtain ⟨o, o', z1, z2, z3⟩ := g.no i
    dsimp only at e ⊢
    rw [z1] at e
    rw [z2]
    cases z3 with
    | dnk t =>
      dsimp only at e ⊢
      cases w : nkD y with
      | none => rw [w] at e; cases e
      | some n =>
        rw [w] at e
        dsimp only at e ⊢
        rw [← t.length]
        cases w2 : small _ with
        | false => rw [w2] at e; cases e
        | true =>
          rw [w2] at e
          cases e
          obtain ⟨c1, c2⟩ := g.wr z1 i (.dnk (putN2 n q k t))
          exact ⟨_, rfl, c2, c1⟩
    | _ => cases e
  | _ => cases e
instance {mo mi : ME} [x : LE mo] [y : LE mi] : LG (gPutN mo mi) := ⟨fun r s h σ σ' u u' g a q => (x.run r s h σ σ' g a).bindS a fun r1 s1 h1 v v' e1 g1 q1 => (y.run _ _ _ _ _ g1 (a.mono e1)).bindS (a.mono e1) fun r2 s2 h2 w w' e2 g2 q2 => by
  cases e : putIxN v w u s2 with
  | none => trivial
  | some s' => obtain ⟨h', z1, z2, z3⟩ := putIxN2 g2 (q1.mono e2) q2 ((q.mono e1).mono e2) e; rw [z1]; exact ⟨_, _, _, rfl, z2, z3, ((a.mono e1).mono e2).mono z2⟩⟩
instance : LE eDispN0 := ⟨fun r s h σ σ' g a => .new g fun r' e => .dnk .nil⟩
instance {mk mv : ME} [x : LE mk] [y : LE mv] : LE (eDispN mk mv) := ⟨fun r s h σ σ' g a => by
  obtain ⟨g0, e0⟩ := g.new (o := .dnk []) (o' := .dnk []) (.dnk .nil)
  have t := (x.run _ _ _ _ _ g0 (a.mono e0)).bind (R' := RV2) (k := fun x h1 => (mv σ h1).bind fun y h2 => match h2[s.length]?, nkD x with
    | some (.dnk []), some n => .ok (.ref s.length) (h2.set s.length (.dnk [(x, y)]))
    | _, _ => .err) (k' := fun x h1 => (mv σ' h1).bind fun y h2 => match h2[h.length]?, nkD x with
    | some (.dnk []), some n => .ok (.ref h.length) (h2.set h.length (.dnk [(x, y)]))
    | _, _ => .err) fun r1 s1 h1 v v' e1 g1 q1 => (y.run _ _ _ _ _ g1 ((a.mono e0).mono e1)).bind fun r2 s2 h2 w w' e2 g2 q2 => by
      have i := e2.pre (e1.pre g.idx)
      obtain ⟨o, o', z1, z2, z3⟩ := g2.no i
      rw [z1, z2, nkD2 q1]
      cases z3 with
      | dnk t =>
        cases t with
        | nil =>
          cases nkD v with
          | none => trivial
          | some n =>
            obtain ⟨c1, c2⟩ := g2.wr z1 i (.dnk (.cons (q1.mono e2) q2 .nil))
            exact ⟨_, _, _, rfl, c2, c1, .ref (c2.pre i)⟩
        | cons _ _ _ => trivial
      | _ => trivial
  exact t.ext e0⟩
instance : LOc cListN := ⟨fun r s h vs vs' g q => by
  unfold cListN
  cases q with
  | nil => trivial
  | cons a t => cases t with
    | cons _ _ => cases a <;> trivial
    | nil => cases a with
      | @ref n m i =>
        obtain ⟨o, o', z1, z2, z3⟩ := g.no i
        dsimp only
        rw [z1, z2]
        cases z3 with
        | dnk t => exact .new g fun r' e => .lst ((keysN2 t).mono e)
        | _ => trivial
      | _ => trivial⟩
instance : LOc cLenN := ⟨fun r s h vs vs' g q => by
  unfold cLenN
  cases q with
  | nil => trivial
  | cons a t => cases t with
    | cons _ _ => cases a <;> trivial
    | nil => cases a with
      | @ref n m i =>
        obtain ⟨o, o', z1, z2, z3⟩ := g.no i
        dsimp only
        rw [z1, z2]
        cases z3 with
        | dnk t => dsimp only; rw [t.length]; exact .ok g (.int _)
        | _ => trivial
      | _ => trivial⟩
instance {mo : ME} [x : LE mo] : LE (eKeysN mo) := ⟨fun r s h σ σ' g a => (x.run r s h σ σ' g a).bind fun r1 s1 h1 v v' e1 g1 q1 => .ofO (LOc.run _ _ _ _ _ g1 (.cons q1 .nil))⟩
instance {mo : ME} [x : LE mo] : LE (eClearN mo) := ⟨fun r s h σ σ' g a => (x.run r s h σ σ' g a).bind fun r1 s1 h1 v v' e1 g1 q1 => by
  cases q1 with
  | @ref n m i =>
    obtain ⟨o, o', z1, z2, z3⟩ := g1.no i
    dsimp only
    rw [z1, z2]
    cases z3 with
    | dnk t =>
      obtain ⟨c1, c2⟩ := g1.wr z1 i (.dnk .nil)
      exact ⟨_, _, _, rfl, c2, c1, .non⟩
    | _ => trivial
  | _ => trivial⟩
instance {mo : ME} {T : IsT} [x : LE mo] : LE (eIsiN T mo) := ⟨fun r s h σ σ' g a => (x.run r s h σ σ' g a).bind fun r1 s1 h1 v v' e1 g1 q1 => by
  cases q1 with
  | @ref n m i =>
    obtain ⟨o, o', z1, z2, z3⟩ := g1.no i
    dsimp only
    rw [z1, z2]
    cases z3 with
    | dnk t =>
      dsimp only
      cases T.dic with
      | none => trivial
      | some b => exact .ok g1 (.bl b)
    | _ => trivial
  | _ => trivial⟩
theorem turnsN2 {t : Tgt} {vs : List Nat} {tt : MT} {ek ev : ME} [x : LT tt] [y : LE ek] [z : LE ev] : ∀ (k i : Nat) (r : List Nat) (s h s' : Hi) (σ σ' : Sg) (a b : Itm) (D D' : Nat), Ag2 r s h → AS2 r σ σ' → RI2 r a b → r[D]? = some D' →
    turnsN a t vs tt ek ev D σ k i s = some s' → ∃ r' h', turnsN b t vs tt ek ev D' σ' k i h = some h' ∧ Ex2 r h r' h' ∧ Ag2 r' s' h'
  | 0, i, r, s, h, s', σ, σ', a, b, D, D', g, as, q, d, e => by
    have n := nxt2 g q i
    unfold turnsN at e ⊢
    cases z1 : a.nxt i s with
    | none => rw [z1] at e; cases e
    | some o =>
      rw [z1] at e n
      cases o with
      | some _ => cases e
      | none => cases z2 : b.nxt i h with
        | none => rw [z2] at n; exact n.elim
        | some o' => cases o' with
          | some _ => rw [z2] at n; exact n.elim
          | none => cases e; exact ⟨r, h, rfl, .refl, g⟩
  | k + 1, i, r, s, h, s', σ, σ', a, b, D, D', g, as, q, d, e => by
    have n := nxt2 g q i
    unfold turnsN at e ⊢
    cases z1 : a.nxt i s with
    | none => rw [z1] at e; cases e
    | some o =>
      rw [z1] at e n
      cases z2 : b.nxt i h with
      | none => rw [z2] at n; exact n.elim
      | some o' =>
        rw [z2] at n
        cases o with
        | none => cases o' with
          | some _ => exact n.elim
          | none => cases e; exact ⟨r, h, rfl, .refl, g⟩
        | some v => cases o' with
          | none => exact n.elim
          | some v' =>
            dsimp only at e ⊢
            cases z3 : t.put v (wipeM σ vs) with
            | none => rw [z3] at e; cases e
            | some τ =>
              obtain ⟨τ', w1, w2⟩ := put2 t n (wipe2 as vs) z3
              rw [z3] at e
              rw [w1]
              dsimp only at e ⊢
              have tk := x.run _ _ _ _ _ g w2
              cases z4 : tt τ s with
              | err => rw [z4] at e; cases e
              | ex _ _ _ => rw [z4] at e; cases e
              | ok c s2 =>
                rw [z4] at tk e
                obtain ⟨r2, h2, c', k1, k2, k3, k4⟩ := tk
                subst k4
                rw [k1]
                cases c with
                | false =>
                  dsimp only at e ⊢
                  obtain ⟨r3, h3, j1, j2, j3⟩ := turnsN2 k (i + 1) _ _ _ _ _ _ _ _ _ _ k3 (as.mono k2) (q.mono k2) (k2.pre d) e
                  exact ⟨r3, h3, j1, k2.trans j2, j3⟩
                | true =>
                  dsimp only at e ⊢
                  have ek' := y.run _ _ _ _ _ k3 (w2.mono k2)
                  cases z5 : ek τ s2 with
                  | err => rw [z5] at e; cases e
                  | ex _ _ _ => rw [z5] at e; cases e
                  | ok u s3 =>
                    rw [z5] at ek' e
                    obtain ⟨r3, h3, u', m1, m2, m3, m4⟩ := ek'
                    rw [m1]
                    dsimp only at e ⊢
                    have ev' := z.run _ _ _ _ _ m3 ((w2.mono k2).mono m2)
                    cases z7 : ev τ s3 with
                    | err => rw [z7] at e; cases e
                    | ex _ _ _ => rw [z7] at e; cases e
                    | ok u2 s4 =>
                      rw [z7] at ev' e
                      obtain ⟨r4, h4, u2', l1, l2, l3, l4⟩ := ev'
                      rw [l1]
                      dsimp only at e ⊢
                      have d4 := l2.pre (m2.pre (k2.pre d))
                      obtain ⟨o, o', v1, v2, v3⟩ := l3.no d4
                      rw [v1] at e
                      rw [v2, nkD2 m4]
                      cases v3 with
                      | dnk l =>
                        cases z8 : nkD u with
                        | none => rw [z8] at e; cases e
                        | some nk =>
                          rw [z8] at e
                          dsimp only at e ⊢
                          rw [l.length] at e
                          cases z6 : small _ with
                          | false => rw [z6] at e; cases e
                          | true =>
                            rw [z6] at e
                            dsimp only at e ⊢
                            obtain ⟨g4, e4⟩ := l3.wr v1 d4 (.dnk (putN2 nk (m4.mono l2) l4 l))
                            obtain ⟨r5, h5, j1, j2, j3⟩ := turnsN2 k (i + 1) _ _ _ _ _ _ _ _ _ _ g4 ((((as.mono k2).mono m2).mono l2).mono e4) ((((q.mono k2).mono m2).mono l2).mono e4) (e4.pre d4) e
                            exact ⟨r5, h5, j1, (((k2.trans m2).trans l2).trans e4).trans j2, j3⟩
                      | _ => cases e
instance {mi : MI} {t : Tgt} {vs : List Nat} {tt : MT} {ek ev : ME} [z : LI mi] [x : LT tt] [y : LE ek] [y2 : LE ev] : LE (eDcN mi t vs tt ek ev) := ⟨fun r s h σ σ' g a => (z.run r s h σ σ' g a).bind fun r1 s1 h1 v v' e1 g1 q1 => by
  obtain ⟨g2, e2⟩ := g1.new (o := .dnk []) (o' := .dnk []) (.dnk .nil)
  rw [fuel2 g1 q1]
  cases w : turnsN v t vs tt ek ev s1.length σ (v.fuel s1) 0 (s1 ++ [.dnk []]) with
  | none => trivial
  | some s2 =>
    obtain ⟨r3, h3, j1, j2, j3⟩ := turnsN2 _ _ _ _ _ _ _ _ _ _ _ _ g2 ((a.mono e1).mono e2) (q1.mono e2) g1.idx w
    rw [j1]
    exact ⟨r3, h3, _, rfl, e2.trans j2, j3, .ref (j2.pre g1.idx)⟩⟩
end ML
end
section
namespace ML
open PySem L2
def whlW (i : Nat) (a : ME) (f : Op2) (b : ME) (body : MS) : Nat → MS
  | 0 => fun _ _ => .err
  | n + 1 => fun σ h => (a σ h).bindS σ fun x h1 => (b (σ.set i (some x)) h1).bindS (σ.set i (some x)) fun y h2 => match f x y h2 with
    | some (.bl true, h3) => match body (σ.set i (some x)) h3 with
      | .nx σ4 h4 => whlW i a f b body n σ4 h4
      | .ct σ4 h4 => whlW i a f b body n σ4 h4
      | .bk σ4 h4 => .nx σ4 h4
      | r => r
    | some (.bl false, h3) => .nx (σ.set i (some x)) h3
    | _ => .err
def sWhileW (n i : Nat) (a : ME) (f : Op2) (b : ME) (body : MS) : MS := fun σ h => whlW i a f b body n σ h
section
variable {G : Gx} {W : WX} {X : Cx} {a b : Expr} {body : List Stmt} {pos pos' p cpos : Pos} {ma mb : ME} {ms : MS} {f : Op2}
end
def mInsert : OpM := fun x vs h => match x with
  | .ref n => match h[n]? with
    | some (.lst xs) => match vs with
      | [.int i, y] => match small (xs.length + 1) && (decide (0 ≤ i) && decide (i < 2 ^ 62)) with
        | true => some (.non, h.set n (.lst (xs.take i.toNat ++ [y] ++ xs.drop i.toNat)))
        | false => none
      | _ => none
    | _ => none
  | _ => none
def mPopAt : OpM := fun x vs h => match x with
  | .ref n => match h[n]? with
    | some (.lst xs) => match vs with
      | [.int i] => match decide (0 ≤ i) && decide (i < 2 ^ 62) with
        | true => match xs[i.toNat]? with
          | some y => some (y, h.set n (.lst (xs.eraseIdx i.toNat)))
          | none => none
        | false => none
      | _ => none
    | _ => none
  | _ => none
section
variable {G : Gx} {X : Cx}
end
end ML
end
section
namespace ML
open PySem L2
theorem whlW2 {i : Nat} {a b : ME} {f : Op2} {ms : MS} [x : LE a] [y : LE b] [o : LOp f] [z : LS ms] : ∀ n, LS (whlW i a f b ms n)
  | 0 => ⟨fun _ _ _ _ _ _ _ => trivial⟩
  | n + 1 => ⟨fun r s h σ σ' g as => (x.run r s h σ σ' g as).bindS as fun r1 s1 h1 v v' e1 g1 q1 => (y.run _ _ _ _ _ g1 ((as.mono e1).set q1 i)).bindS ((as.mono e1).set q1 i) fun r2 s2 h2 w w' e2 g2 q2 => by
    have as2 := ((as.mono e1).set q1 i).mono e2
    have t := o.run _ _ _ _ _ _ _ g2 (q1.mono e2) q2
    cases u : f v w s2 with
    | none => trivial
    | some p =>
      obtain ⟨pv, s3⟩ := p
      rw [u] at t
      obtain ⟨r3, h3, pv', k1, k2, k3, k4⟩ := t
      rw [k1]
      cases k4 with
      | bl c =>
        cases c with
        | false => exact ⟨r3, h3, _, rfl, k2, k3, as2.mono k2⟩
        | true =>
          have t := z.run _ _ _ _ _ k3 (as2.mono k2)
          dsimp only
          cases w5 : ms (σ.set i (some v)) s3 with
          | nx σ2 s4 =>
            rw [w5] at t
            obtain ⟨r4, h4, σ4', l1, l2, l3, l4⟩ := t
            rw [l1]
            exact ((whlW2 n).run _ _ _ _ _ l3 l4).ext (k2.trans l2)
          | ct σ2 s4 =>
            rw [w5] at t
            obtain ⟨r4, h4, σ4', l1, l2, l3, l4⟩ := t
            rw [l1]
            exact ((whlW2 n).run _ _ _ _ _ l3 l4).ext (k2.trans l2)
          | bk σ2 s4 =>
            rw [w5] at t
            obtain ⟨r4, h4, σ4', l1, l2, l3, l4⟩ := t
            rw [l1]
            exact ⟨r4, h4, σ4', rfl, k2.trans l2, l3, l4⟩
          | rt u4 s4 =>
            rw [w5] at t
            obtain ⟨r4, h4, u', l1, l2, l3, l4⟩ := t
            rw [l1]
            exact ⟨r4, h4, u', rfl, k2.trans l2, l3, l4⟩
          | ex c5 m5 σ5 s5 =>
            rw [w5] at t
            obtain ⟨r4, h4, σ4', m4, l1, l2, l3, l4, l5⟩ := t
            rw [l1]
            exact ⟨r4, h4, σ4', m4, rfl, k2.trans l2, l3, l4, l5⟩
          | err => trivial
      | _ => trivial⟩
instance {n i : Nat} {a b : ME} {f : Op2} {ms : MS} [x : LE a] [y : LE b] [o : LOp f] [z : LS ms] : LS (sWhileW n i a f b ms) := ⟨(whlW2 n).run⟩
theorem erase2 {r : List Nat} : ∀ {v x : List VI} (i : Nat), RVs2 r v x → RVs2 r (v.eraseIdx i) (x.eraseIdx i)
  | _, _, _, .nil => .nil
  | _, _, 0, .cons _ t => t
  | _, _, i + 1, .cons a t => .cons a (erase2 i t)
instance : LOm mInsert := ⟨fun r s h x x' vs vs' g p q => by
  unfold mInsert
  cases p with
  | @ref n m i =>
    obtain ⟨o, o', z1, z2, z3⟩ := g.no i
    dsimp only
    rw [z1, z2]
    cases z3 with
    | lst t =>
      dsimp only
      cases q with
      | nil => trivial
      | cons a q2 => cases q2 with
        | nil => cases a <;> trivial
        | cons b q3 => cases q3 with
          | cons _ _ => cases a <;> trivial
          | nil => cases a with
            | int k =>
              dsimp only
              rw [← t.length]
              cases small (_ + 1) && (decide (0 ≤ k) && decide (k < 2 ^ 62)) with
              | false => trivial
              | true => exact .wr g z1 i (.lst (((t.take k.toNat).append (.cons b .nil)).append (t.drop k.toNat))) .non
            | _ => trivial
    | _ => trivial
  | _ => trivial⟩
instance : LOm mPopAt := ⟨fun r s h x x' vs vs' g p q => by
  unfold mPopAt
  cases p with
  | @ref n m i =>
    obtain ⟨o, o', z1, z2, z3⟩ := g.no i
    dsimp only
    rw [z1, z2]
    cases z3 with
    | @lst xs ys t =>
      dsimp only
      cases q with
      | nil => trivial
      | cons a q2 => cases q2 with
        | cons _ _ => cases a <;> trivial
        | nil => cases a with
          | int k =>
            dsimp only
            cases decide (0 ≤ k) && decide (k < 2 ^ 62) with
            | false => trivial
            | true =>
              dsimp only
              cases u : xs[k.toNat]? with
              | none => trivial
              | some y =>
                obtain ⟨w, u2, u3⟩ := t.get u
                rw [u2]
                exact .wr g z1 i (.lst (erase2 k.toNat t)) u3
          | _ => trivial
    | _ => trivial
  | _ => trivial⟩
end ML
end
section
namespace ML
open PySem PySem.Spec PyProof.Rows L2 He
section
variable {K : PySem.W.Frag} {x qual : Str} {body : List Stmt} {scope : Scope} {kws : List (Str × V)} {f : Addr} {fd : FuncData}
end
section
variable {P : Program} {w : World} {A : Around} {E : Value → Shared → Prop} {s : Shared} {d : Addr}
def kwK {α : Type} (ns : List (Str × α)) : List (Key × α) := ns.map fun p => (Sum.inr p.1, p.2)
end
def BindsW (P : Program) (w : World) (fd : FuncData) (ps : List Str) (s : Shared) (us : List Value) (ns : List (Str × Value)) : Prop :=
  ∀ (A : Around) (E : Value → Shared → Prop) (Q : List (Str × Value) → Shared → Prop), (∀ (h' : Heap) (t' : Nat), (∀ b o, s.heap.get? b = some o → h'.get? b = some o) → h'.DictOf (mixKind P w) s.heap.objs.size (kwK ns) → Q (ps.zip (us ++ [.ref s.heap.objs.size])) { s with heap := h', toks := t' }) →
    wpAny (model P w) A (bindArgs fd ⟨us, ns⟩) Q E s
section
variable {P : Program} {w : World} {K : PySem.W.Frag} {x qual : Str} {body : List Stmt} {scope : Scope} {kws : List (Str × V)} {f : Addr} {fd : FuncData}
end
section
variable {P : Program} {w : World} {K : PySem.W.Frag} {mg : Str → Option Value} {base : Heap} {B : Around} {out : List Env} {s : Shared} {H H2 : Hp} {h' : Heap} {t' : Nat} {o : HO} {a : Addr}
structure FnOkW (z : Bool) (P : Program) (w : World) (K : PySem.W.Frag) (mg : Str → Option Value) (base : Heap) (k : Nat) (f : Addr) (fd : FuncData) (ps : List Str) (sp : Sp) : Prop where
  go : ∀ (B : Around) (out : List Env) (t : Shared) (H : Hp) (us : List Value) (vs : List V) (ns : List (Str × Value)) (zs : List (Key × V)) (Q : VK) (E : XK), Room k B → Env0 P w K mg base B out t H → BindsW P w fd ps t us ns → Vals vs us → KV zs (kwK ns) → zs.length ≤ sizeLine → (t.heap.objs.size == sysModules) = false →
    sp (vs ++ [.ref t.heap.objs.size]) (upd H t.heap.objs.size (.dK zs)) Q E → codeAny (model P w) B (.call (.ref f) ⟨us, ns⟩) (CR (CX z P w) out P w H t Q E) t
end
section
variable {G : Gx} {W : WX} {X : Cx} {k np : Nat} {f : Addr} {fd : FuncData} {ps : List Str} {g : MF} {P : Program} {w : World} {K : PySem.W.Frag} {mg : Str → Option Value} {base : Heap}
end
end ML
end
section
namespace ML
open PySem PySem.Spec PyProof.Rows L2 He
def kwOk (a0 : S) (kvs : List (VI × VI)) : Bool := Nat.ble kvs.length 1000 && kvs.all fun p => match p.1 with
  | .str t => !decide (t = a0)
  | _ => false
section
variable {G : Gx} {W : WX} {X : Cx} {k np : Nat} {f : Addr} {fd : FuncData} {ps : List Str} {g : MF} {ρ : List Addr} {H : Hp} {h : Hi}
def kwD (ks : List S) (zs : List VI) : List (VI × VI) := (ks.map VI.str).zip zs
def eMethK (a0 : S) (tbl : Nat → Option MF) (m : S) (ks : List S) (mo : ME) (mk : MA) : ME := fun σ h => (mo σ h).bind fun x h1 => match x with
  | .ref n => match h1[n]? with
    | some (.ins c fl) => match tbl c, getF m fl with
      | some g, none => (mk σ h1).bind fun zs h2 => match Nat.beq zs.length ks.length && kwOk a0 (kwD ks zs) with
        | true => g [.ref n, .ref h2.length] (h2 ++ [.dic (kwD ks zs)])
        | false => .err
      | _, _ => .err
    | _ => .err
  | _ => .err
variable {o e : Expr} {kws : List Keyword} {mo me : ME} {mk : MA} {p apos pos kp : Pos}
def kw0 (g : MF) : MF := fun args h => match args with
  | [x] => g [x, .ref h.length] (h ++ [.dic []])
  | _ => .err
end
end ML
end
section
namespace L2
open PySem PySem.Spec PyProof.Rows
end L2
namespace ML
open PySem PySem.Spec PyProof.Rows L2 He
def iDcl (e : ME) : MI := fun σ h => (e σ h).bind fun x h1 => match x with
  | .ref n => match h1[n]? with
    | some (.dcl kvs) => .ok (.tup (kvs.map (·.1))) h1
    | _ => .err
  | _ => .err
def unlk (n : Nat) : RS → RS
  | .nx σ h => match h[n]? with
    | some (.dcl kvs) => .nx σ (h.set n (.dic kvs))
    | _ => .err
  | .rt v h => match h[n]? with
    | some (.dcl kvs) => .rt v (h.set n (.dic kvs))
    | _ => .err
  | .bk σ h => match h[n]? with
    | some (.dcl kvs) => .bk σ (h.set n (.dic kvs))
    | _ => .err
  | .ct σ h => match h[n]? with
    | some (.dcl kvs) => .ct σ (h.set n (.dic kvs))
    | _ => .err
  | .ex c m σ h => .ex c m σ h
  | .err => .err
def sForD (e : ME) (g : MG) (body : MS) : MS := fun σ h => match e σ h with
  | .ok (.ref n) _ => match h[n]? with
    | some (.dic kvs) => unlk n (sFor (iDcl e) g body σ (h.set n (.dcl kvs)))
    | _ => .err
  | _ => .err
section
variable {G : Gx} {W : WX} {X : Cx} {ρ ρ1 : List Addr} {H H1 : Hp} {σ : L2.St} {σi : Sg} {h : Hi} {D : Ends} {tg iter e : Expr} {body : List Stmt} {pos p : Pos} {me : ME} {mi : MI} {mg : MG} {mb : MS} {ma : MA}
end
end ML
end
section
namespace ML
open PySem L2 PyProof.Rows
section
variable {X : Cx} {e v : Expr} {pos : Pos} {ta tb : TE}
end
def mrg2K (n : Nat) (y : VI) (h2 : Hi) : Res VI := match y with
  | .ref m => match Nat.beq m n, h2[n]?, h2[m]? with
    | false, some (.dic kvs1), some (.dic kvs2) => match small (kvs1.length + kvs2.length) with
      | true => .ok (.ref n) (h2.set n (.dic (putAll kvs2 kvs1)))
      | false => .err
    | _, _, _ => .err
  | _ => .err
def eMrg2 (a b : ME) : ME := fun σ h => (a σ (h ++ [.dic []])).bind fun x h1 => match x with
  | .ref m => match Nat.beq m h.length, h1[h.length]?, h1[m]? with
    | false, some (.dic []), some (.dic kvs) => match small kvs.length with
      | true => (b σ (h1.set h.length (.dic (putAll kvs [])))).bind (mrg2K h.length)
      | false => .err
    | _, _, _ => .err
  | _ => .err
section
variable {G : Gx} {ρ : List Addr} {h : Hi} {H : Hp} {W : WX} {X : Cx} {e v : Expr} {pos : Pos} {ma mb : ME}
end
def fIxL : Op2 := fun x y h => match x with
  | .ref n => match h[n]? with
    | some (.dcl kvs) => match isKey y, getD y kvs with
      | true, some v => some (v, h)
      | _, _ => none
    | _ => fIx x y h
  | _ => fIx x y h
section
variable {G : Gx} {ρ : List Addr} {h : Hi} {H : Hp} {W : WX} {X : Cx} {a b : Expr} {pos : Pos} {ma mb : ME}
end
end ML
end
section
namespace ML
open PySem L2
section
variable {r r' : List Nat} {h h' s : Hi}
theorem kwD2 : ∀ (ks : List S) {zs zs' : List VI}, RVs2 r zs zs' → RKs2 r (kwD ks zs) (kwD ks zs')
  | [], _, _, _ => by simp only [kwD, List.map_nil, List.zip_nil_left]; exact .nil
  | _ :: _, _, _, .nil => by simp only [kwD, List.zip_nil_right]; exact .nil
  | k :: ks, _, _, .cons a t => .cons (.str k) a (kwD2 ks t)
theorem kwOk2 {a0 : S} {xs ys : List (VI × VI)} (t : RKs2 r xs ys) : kwOk a0 ys = kwOk a0 xs := by
  unfold kwOk
  rw [t.length]
  congr 1
  induction t with
  | nil => rfl
  | cons k v t ih =>
    simp only [List.all_cons]
    rw [ih]
    cases k <;> rfl
theorem keysMap2 : ∀ {xs ys : List (VI × VI)}, RKs2 r xs ys → RVs2 r (xs.map (·.1)) (ys.map (·.1))
  | _, _, .nil => .nil
  | _, _, .cons k _ t => .cons k (keysMap2 t)
theorem unlk2 {n m : Nat} (p : r[n]? = some m) {a a' : RS} (k : L2S r h a a') : L2S r h (unlk n a) (unlk m a') := by
  cases a with
  | err => trivial
  | ex c j σ s' => obtain ⟨r2, h2, σ2, j2, e1, e2⟩ := k; rw [e1]; exact ⟨r2, h2, σ2, j2, rfl, e2⟩
  | nx σ s' =>
    obtain ⟨r2, h2, σ2, e1, e2, e3, e4⟩ := k
    rw [e1]
    obtain q | ⟨kvs, q⟩ : (∀ kvs, s'[n]? ≠ some (.dcl kvs)) ∨ ∃ kvs, s'[n]? = some (.dcl kvs) := by
      rcases Classical.em (∃ kvs, s'[n]? = some (.dcl kvs)) with z | z
      · exact .inr z
      · exact .inl fun kvs w => z ⟨kvs, w⟩
    · dsimp only [unlk]
      split
      · rename_i kvs w; exact absurd w (q kvs)
      · trivial
    · obtain ⟨o, o', z1, z2, z3⟩ := e3.no (e2.pre p)
      rw [q] at z1
      cases z1
      cases z3 with
      | dcl t =>
        dsimp only [unlk]
        rw [q, z2]
        obtain ⟨g4, e5⟩ := e3.wr q (e2.pre p) (.dic t)
        exact ⟨r2, _, σ2, rfl, e2.trans e5, g4, e4.mono e5⟩
  | bk σ s' =>
    obtain ⟨r2, h2, σ2, e1, e2, e3, e4⟩ := k
    rw [e1]
    obtain q | ⟨kvs, q⟩ : (∀ kvs, s'[n]? ≠ some (.dcl kvs)) ∨ ∃ kvs, s'[n]? = some (.dcl kvs) := by
      rcases Classical.em (∃ kvs, s'[n]? = some (.dcl kvs)) with z | z
      · exact .inr z
      · exact .inl fun kvs w => z ⟨kvs, w⟩
    · dsimp only [unlk]
      split
      · rename_i kvs w; exact absurd w (q kvs)
      · trivial
    · obtain ⟨o, o', z1, z2, z3⟩ := e3.no (e2.pre p)
      rw [q] at z1
      cases z1
      cases z3 with
      | dcl t =>
        dsimp only [unlk]
        rw [q, z2]
        obtain ⟨g4, e5⟩ := e3.wr q (e2.pre p) (.dic t)
        exact ⟨r2, _, σ2, rfl, e2.trans e5, g4, e4.mono e5⟩
  | ct σ s' =>
    obtain ⟨r2, h2, σ2, e1, e2, e3, e4⟩ := k
    rw [e1]
    obtain q | ⟨kvs, q⟩ : (∀ kvs, s'[n]? ≠ some (.dcl kvs)) ∨ ∃ kvs, s'[n]? = some (.dcl kvs) := by
      rcases Classical.em (∃ kvs, s'[n]? = some (.dcl kvs)) with z | z
      · exact .inr z
      · exact .inl fun kvs w => z ⟨kvs, w⟩
    · dsimp only [unlk]
      split
      · rename_i kvs w; exact absurd w (q kvs)
      · trivial
    · obtain ⟨o, o', z1, z2, z3⟩ := e3.no (e2.pre p)
      rw [q] at z1
      cases z1
      cases z3 with
      | dcl t =>
        dsimp only [unlk]
        rw [q, z2]
        obtain ⟨g4, e5⟩ := e3.wr q (e2.pre p) (.dic t)
        exact ⟨r2, _, σ2, rfl, e2.trans e5, g4, e4.mono e5⟩
  | rt v s' =>
    obtain ⟨r2, h2, v2, e1, e2, e3, e4⟩ := k
    rw [e1]
    obtain q | ⟨kvs, q⟩ : (∀ kvs, s'[n]? ≠ some (.dcl kvs)) ∨ ∃ kvs, s'[n]? = some (.dcl kvs) := by
      rcases Classical.em (∃ kvs, s'[n]? = some (.dcl kvs)) with z | z
      · exact .inr z
      · exact .inl fun kvs w => z ⟨kvs, w⟩
    · dsimp only [unlk]
      split
      · rename_i kvs w; exact absurd w (q kvs)
      · trivial
    · obtain ⟨o, o', z1, z2, z3⟩ := e3.no (e2.pre p)
      rw [q] at z1
      cases z1
      cases z3 with
      | dcl t =>
        dsimp only [unlk]
        rw [q, z2]
        obtain ⟨g4, e5⟩ := e3.wr q (e2.pre p) (.dic t)
        exact ⟨r2, _, v2, rfl, e2.trans e5, g4, e4.mono e5⟩
end
instance {ma : ME} [x : LE ma] : LI (iDcl ma) := ⟨fun r s h σ σ' g a => (x.run r s h σ σ' g a).bind fun r1 s1 h1 v v' e1 g1 q1 => by
  cases q1 with
  | @ref n m p =>
    obtain ⟨o, o', z1, z2, z3⟩ := g1.no p
    dsimp only
    rw [z1, z2]
    cases z3 with
    | dcl t => exact .ok g1 (.tup (keysMap2 t))
    | _ => trivial
  | _ => trivial⟩
instance {me : ME} {ga : MG} {body : MS} [z : LE me] [x : LG ga] [y : LS body] : LS (sForD me ga body) := ⟨fun r s h σ σ' g a => by
  have k := z.run r s h σ σ' g a
  unfold sForD
  cases q1 : me σ s with
  | err => trivial
  | ex c n s1 => trivial
  | ok v s1 =>
    rw [q1] at k
    obtain ⟨r1, h1, v', e1, e2, e3, e4⟩ := k
    cases v with
    | ref n =>
      cases e4 with
      | @ref _ m p =>
        rw [e1]
        dsimp only
        cases q2 : s[n]? with
        | none => trivial
        | some ob =>
          have ln : n < r.length := by rw [g.len]; exact (List.getElem?_eq_some_iff.mp q2).1
          have p0 : r[n]? = some m := by
            have := e2.pre (n := n) (m := r[n]) (List.getElem?_eq_getElem ln)
            rw [p] at this
            cases this
            exact List.getElem?_eq_getElem ln
          obtain ⟨o, o', z1, z2, z3⟩ := g.no p0
          rw [q2] at z1
          cases z1
          rw [z2]
          cases z3 with
          | dic t =>
            dsimp only
            obtain ⟨g4, e5⟩ := g.wr q2 p0 (.dcl t)
            exact L2S.ext e5 (unlk2 p0 (LS.run (m := sFor (iDcl me) ga body) _ _ _ _ _ g4 (a.mono e5)))
          | _ => trivial
    | _ => trivial⟩
instance {a0 : S} {tbl : Nat → Option MF} {f : S} {ks : List S} {ma : ME} {aa : MA} [c : LTb tbl] [x : LE ma] [y : LA aa] : LE (eMethK a0 tbl f ks ma aa) := ⟨fun r s h σ σ' g a => (x.run r s h σ σ' g a).bind fun r1 s1 h1 v v' e1 g1 q1 => by
  cases q1 with
  | ref p =>
    obtain ⟨o, o', z1, z2, z3⟩ := g1.no p
    dsimp only
    rw [z1, z2]
    cases z3 with
    | @ins d xs ys t =>
      dsimp only
      have k := getF2 (f := f) t
      cases w0 : tbl d with
      | none => trivial
      | some u =>
        cases w1 : getF f xs with
        | some v => trivial
        | none => cases w2 : getF f ys with
          | some _ => rw [w1, w2] at k; exact k.elim
          | none =>
            refine (y.run _ _ _ _ _ g1 (a.mono e1)).bind fun r2 s2 h2 w w' e2 g2 q2 => ?_
            have kk := kwD2 ks q2
            rw [q2.length, kwOk2 (a0 := a0) kk]
            split
            · obtain ⟨g5, e5⟩ := g2.new (o := .dic (kwD ks w)) (o' := .dic (kwD ks w')) (.dic (kwD2 ks (q2.mono (g2.new (o := .lst []) (o' := .lst []) (.lst .nil)).2)))
              exact L2R.ext e5 ((c.run _ _ w0).run _ _ _ _ _ g5 (.cons (.ref (e5.pre (e2.pre p))) (.cons (.ref g2.idx) .nil)))
            · trivial
    | _ => trivial
  | _ => trivial⟩
instance {f : MF} [x : LF f] : LF (kw0 f) := ⟨fun r s h vs vs' g t => by
  unfold kw0
  cases t with
  | nil => trivial
  | cons p t =>
    cases t with
    | cons _ _ => trivial
    | nil =>
      obtain ⟨g5, e5⟩ := g.new (o := .dic []) (o' := .dic []) (.dic .nil)
      exact L2R.ext e5 (x.run _ _ _ _ _ g5 (.cons (p.mono e5) (.cons (.ref g.idx) .nil)))⟩
instance {e k : ME} [x : LE e] [y : LE k] : LE (eMrg2 e k) := ⟨fun r s h σ σ' g a => by
  obtain ⟨g2, e2⟩ := g.new (o := .dic []) (o' := .dic []) (.dic .nil)
  refine L2R.ext e2 ((x.run _ _ _ _ _ g2 (a.mono e2)).bind fun r1 s1 h1 u u' e1 g1 q1 => ?_)
  have d := e1.pre g.idx
  obtain ⟨o, o', v1, v2, v3⟩ := g1.no d
  cases q1 with
  | @ref i j p =>
    dsimp only
    rw [beq2 g1 p d]
    obtain ⟨w, w', u1, u2, u3⟩ := g1.no p
    rw [v1, v2, u1, u2]
    cases Nat.beq i s.length with
    | true => trivial
    | false =>
      cases v3 with
      | dic t =>
        cases t with
        | cons _ _ _ => trivial
        | nil =>
          cases u3 with
          | dic t2 =>
            dsimp only
            rw [t2.length]
            cases small _ with
            | false => trivial
            | true =>
              dsimp only
              obtain ⟨g4, e4⟩ := g1.wr v1 d (.dic (putAll2 t2 .nil))
              refine L2R.ext e4 ((y.run _ _ _ _ _ g4 (((a.mono e2).mono e1).mono e4)).bind fun r6 s6 h6 ky ky' e6 g6 q6 => ?_)
              have D6 := e6.pre (e4.pre d)
              unfold mrg2K
              cases q6 with
              | @ref i2 j2 p2 =>
                dsimp only
                rw [beq2 g6 p2 D6]
                obtain ⟨o1, o1', a1, a2, a3⟩ := g6.no D6
                obtain ⟨o2, o2', b1, b2, b3⟩ := g6.no p2
                rw [a1, a2, b1, b2]
                cases Nat.beq i2 s.length with
                | true => trivial
                | false =>
                  cases a3 with
                  | dic ta =>
                    cases b3 with
                    | dic tb =>
                      dsimp only
                      rw [ta.length, tb.length]
                      cases small _ with
                      | false => trivial
                      | true =>
                        obtain ⟨g8, e8⟩ := g6.wr a1 D6 (.dic (putAll2 tb ta))
                        exact ⟨_, _, _, rfl, e8, g8, .ref D6⟩
                    | _ => trivial
                  | _ => trivial
              | _ => trivial
          | _ => trivial
      | _ => trivial
  | _ => trivial⟩
instance : LOp fIxL := ⟨fun r s h x y x' y' g p q => by
  have old := LOp.run (f := fIx) r s h x y x' y' g p q
  unfold fIxL
  cases p with
  | ref i =>
    obtain ⟨o, o', e1, e2, e3⟩ := g.no i
    dsimp only
    rw [e1, e2]
    cases e3 with
    | dcl t =>
      dsimp only
      rw [isKey2 q]
      have k := getD2 q t
      cases isKey y with
      | false => trivial
      | true =>
        cases z1 : getD y _ with
        | none => trivial
        | some v => rw [z1] at k; cases z2 : getD y' _ with
          | none => rw [z2] at k; exact k.elim
          | some w => rw [z2] at k; exact .ok g k
    | _ => exact old
  | _ => exact old⟩
end ML
end
section
namespace ML
open PySem PySem.Spec PySem.Calls PyProof.Rows PyProof.V L2 He
inductive HitsH {K : Type} [DecidableEq K] (prog : Program) (w : World) (A : Around) (s : Shared) (kb : List (K × Addr × Value)) : List (K × Addr × Value) → Bool → Prop
  | nil : HitsH prog w A s kb [] true
  | miss {k : K} {c : Addr} {v : Value} {r : List (K × Addr × Value)} : atKey kb k = none → HitsH prog w A s kb ((k, c, v) :: r) false
  | hit {k : K} {c : Addr} {v : Value} {y : Addr × Value} {r : List (K × Addr × Value)} {e b : Bool} : atKey kb k = some y → SeqAt.EqP prog w A s v y.2 e → HitsH prog w A s kb r b → HitsH prog w A s kb ((k, c, v) :: r) (e && b)
section
variable {prog : Program} {w : World} {K : Type} [DecidableEq K] {knd : HeapKind prog w K} {A : Around} {E : Value → Shared → Prop} {s : Shared}
theorem HitsH.inv {kb : List (K × Addr × Value)} {k : K} {c : Addr} {v : Value} {r : List (K × Addr × Value)} {b : Bool} (h : HitsH prog w A s kb ((k, c, v) :: r) b) :
    (atKey kb k = none ∧ b = false) ∨ ∃ y e b', atKey kb k = some y ∧ SeqAt.EqP prog w A s v y.2 e ∧ HitsH prog w A s kb r b' ∧ b = (e && b') := by
  cases h with
  | miss hn => exact .inl ⟨hn, rfl⟩
  | hit hy he hr => exact .inr ⟨_, _, _, hy, he, hr, rfl⟩
end
def allN (kb : List (VI × VI)) : List (VI × VI) → Bool
  | [] => true
  | (k, v) :: r => match nkD k with
    | some n => match getN n kb with
      | some w => eqI v w && allN kb r
      | none => false
    | none => false
def fEqN : Op2 := fun x y h => match x, y with
  | .ref a, .ref b => match h[a]?, h[b]? with
    | some (.dnk ka), some (.dnk kb) => match flK ka && flK kb with
      | true => some (.bl (Nat.beq ka.length kb.length && allN kb ka), h)
      | false => none
    | _, _ => none
  | _, _ => none
section
variable {G : Gx} {ρ : List Addr} {h : Hi} {H : Hp} {X : Cx} {Q : VK}
end
end ML
end
section
namespace ML
open PySem L2
section
variable {r : List Nat}
theorem flKN2 : ∀ {ka kb : List (VI × VI)}, RKs2 r ka kb → flK kb = flK ka
  | _, _, .nil => rfl
  | _, _, .cons _ a t => by simp only [flK, flI2 a, flKN2 t]
theorem allN2 {la lb : List (VI × VI)} (q : RKs2 r la lb) (fl : flK la = true) : ∀ {ka kb : List (VI × VI)}, RKs2 r ka kb → flK ka = true → allN lb kb = allN la ka
  | _, _, .nil, _ => rfl
  | _, _, .cons (a := a) (b := b) k p t, f => by
    unfold flK at f
    obtain ⟨f1, f2⟩ := Bool.and_eq_true_iff.mp f
    simp only [allN]
    rw [nkD2 k]
    cases nkD a with
    | none => rfl
    | some n =>
      dsimp only
      have g := getN2 n q
      cases z : getN n la with
      | none => cases z2 : getN n lb with
        | none => rfl
        | some _ => rw [z, z2] at g; exact g.elim
      | some u => cases z2 : getN n lb with
        | none => rw [z, z2] at g; exact g.elim
        | some u' =>
          rw [z, z2] at g
          dsimp only
          rw [eqI2 p g, allN2 q fl t f2]
instance : LOp fEqN := ⟨fun r s h x y x' y' g p q => by
  unfold fEqN
  cases p with
  | ref i =>
    cases q with
    | ref j =>
      obtain ⟨o, o', z1, z2, z3⟩ := g.no i
      obtain ⟨u, u', y1, y2, y3⟩ := g.no j
      dsimp only
      rw [z1, z2, y1, y2]
      cases z3 with
      | dnk t =>
        cases y3 with
        | dnk t' =>
          dsimp only
          rw [flKN2 t, flKN2 t']
          rename_i ka kb la lb
          cases f : flK ka && flK la with
          | false => trivial
          | true =>
            obtain ⟨f1, f2⟩ := Bool.and_eq_true_iff.mp f
            dsimp only
            rw [← t.length, ← t'.length, allN2 t' f2 t f1]
            exact .ok g (.bl _)
        | _ => trivial
      | _ => trivial
    | _ => trivial
  | _ => trivial⟩
end
end ML
end
section
namespace ML
open PySem L2
def eqWL (f : VI → VI → Bool) : List VI → List VI → Bool
  | [], [] => true
  | x :: xs, y :: ys => f x y && eqWL f xs ys
  | _, _ => false
def eqW : Nat → Hi → VI → VI → Bool
  | 0, _, _, _ => false
  | n + 1, h, v, w => match v, w with
    | .ref a, .ref b => match Nat.beq a b with
      | true => true
      | false => match h[a]?, h[b]? with
        | some (.lst xs), some (.lst ys) => eqWL (eqW n h) xs ys
        | _, _ => false
    | .tup xs, .tup ys => eqWL (eqW n h) xs ys
    | v, w => flI v && flI w && eqI v w
def rcW (h : Hi) (v w : VI) : Bool := match v, w with
  | .ref a, .ref b => match h[a]?, h[b]? with
    | some (.lst xs), some (.lst ys) => eqWL (eqW 40 h) xs ys
    | _, _ => false
  | .tup xs, .tup ys => eqWL (eqW 40 h) xs ys
  | _, _ => false
def isNk (h : Hi) (v : VI) : Bool := match v with
  | .ref a => match h[a]? with
    | some (.dnk _) => true
    | _ => false
  | _ => false
def fEqJ : Op2 := fun x y h => match rcW h x y with
  | true => some (.bl true, h)
  | false => match isNk h x with
    | true => fEqN x y h
    | false => fEqX x y h
def unL (h : Hi) (v w : VI) : Bool := match v, w with
  | .ref a, .ref b => match h[a]?, h[b]? with
    | some (.lst xs), some (.lst ys) => !Nat.beq xs.length ys.length
    | _, _ => false
  | _, _ => false
def fNeJ : Op2 := fun x y h => match rcW h x y with
  | true => some (.bl false, h)
  | false => match unL h x y with
    | true => some (.bl true, h)
    | false => fNe x y h
section
variable {G : Gx} {ρ : List Addr} {h : Hi} {H : Hp} {X : Cx} {Q : VK} {pins : List (Addr × Obj)} {σ : St} {s : Shared}
end
end ML
end
section
namespace ML
open PySem L2
def isTD (T : IsT) (v : VI) (h : Hi) : Option Bool := match v with
  | .ref n => match h[n]? with
    | some (.dnk _) => T.dic
    | _ => isT T v h
  | _ => isT T v h
def eIsiD (T : IsT) (e : ME) : ME := fun σ h => (e σ h).bind fun v h1 => match isTD T v h1 with
  | some b => .ok (.bl b) h1
  | none => .err
section
variable {G : Gx} {ρ : List Addr} {h : Hi} {H : Hp} {W : WX} {X : Cx} {e a b c o i v : Expr} {es : List Expr} {pos p p2 pos' apos cpos tpos : Pos} {me mi mo ma mb mv : ME} {mr : MA} {T : IsT} {us : List Value} {k : Nat} {pins : List (Addr × Obj)} {σ : St} {s : Shared}
end
end ML
end
section
namespace ML
open PySem L2
section
variable {r : List Nat} {s h : Hi}
theorem eqWL2 {f g : VI → VI → Bool} (ih : ∀ {v w v' w' : VI}, RV2 r v v' → RV2 r w w' → g v' w' = f v w) : ∀ {xs xs' ys ys' : List VI}, RVs2 r xs xs' → RVs2 r ys ys' → eqWL g xs' ys' = eqWL f xs ys
  | _, _, _, _, .nil, .nil => rfl
  | _, _, _, _, .nil, .cons _ _ => rfl
  | _, _, _, _, .cons _ _, .nil => rfl
  | _, _, _, _, .cons a t, .cons b t' => by simp only [eqWL, ih a b, eqWL2 ih t t']
theorem eqW2 (g : Ag2 r s h) : ∀ (n : Nat) {v w v' w' : VI}, RV2 r v v' → RV2 r w w' → eqW n h v' w' = eqW n s v w
  | 0, _, _, _, _, _, _ => rfl
  | n + 1, _, _, _, _, p, q => by
    have ih := fun {v w v' w' : VI} (a : RV2 r v v') (b : RV2 r w w') => eqW2 g n a b
    cases p with
    | @ref i i' e1 =>
      cases q with
      | @ref j j' e2 =>
        obtain ⟨o, o', z1, z2, z3⟩ := g.no e1
        obtain ⟨u, u', y1, y2, y3⟩ := g.no e2
        have bq : Nat.beq i' j' = Nat.beq i j := by
          cases z : Nat.beq i j with
          | true =>
            have := Nat.eq_of_beq_eq_true z
            subst this
            rw [e1] at e2
            cases e2
            exact Nat.beq_refl _
          | false =>
            cases z' : Nat.beq i' j' with
            | false => rfl
            | true =>
              have k := Nat.eq_of_beq_eq_true z'
              subst k
              obtain ⟨l1, w1⟩ := List.getElem?_eq_some_iff.mp e1
              obtain ⟨l2, w2⟩ := List.getElem?_eq_some_iff.mp e2
              have := (List.getElem_inj (h₀ := l1) (h₁ := l2) g.nd).mp (w1.trans w2.symm)
              subst this
              rw [Nat.beq_refl] at z
              cases z
        unfold eqW
        dsimp only
        rw [bq]
        cases Nat.beq i j with
        | true => rfl
        | false =>
          dsimp only
          rw [z1, z2, y1, y2]
          cases z3 with
          | lst t =>
            cases y3 with
            | lst t' => exact eqWL2 ih t t'
            | _ => rfl
          | _ => rfl
      | _ => rfl
    | tup t =>
      cases q with
      | tup t' => exact eqWL2 ih t t'
      | _ => rfl
    | _ => cases q <;> rfl
theorem rcW2 (g : Ag2 r s h) {v w v' w' : VI} (p : RV2 r v v') (q : RV2 r w w') : rcW h v' w' = rcW s v w := by
  have ih := fun {v w v' w' : VI} (a : RV2 r v v') (b : RV2 r w w') => eqW2 g 40 a b
  cases p with
  | @ref i i' e1 =>
    cases q with
    | @ref j j' e2 =>
      obtain ⟨o, o', z1, z2, z3⟩ := g.no e1
      obtain ⟨u, u', y1, y2, y3⟩ := g.no e2
      unfold rcW
      dsimp only
      rw [z1, z2, y1, y2]
      cases z3 with
      | lst t =>
        cases y3 with
        | lst t' => exact eqWL2 ih t t'
        | _ => rfl
      | _ => rfl
    | _ => rfl
  | tup t =>
    cases q with
    | tup t' => exact eqWL2 ih t t'
    | _ => rfl
  | _ => cases q <;> rfl
theorem unL2 (g : Ag2 r s h) {v w v' w' : VI} (p : RV2 r v v') (q : RV2 r w w') : unL h v' w' = unL s v w := by
  cases p with
  | @ref i i' e1 =>
    cases q with
    | @ref j j' e2 =>
      obtain ⟨o, o', z1, z2, z3⟩ := g.no e1
      obtain ⟨u, u', y1, y2, y3⟩ := g.no e2
      unfold unL
      dsimp only
      rw [z1, z2, y1, y2]
      cases z3 with
      | lst t =>
        cases y3 with
        | lst t' =>
          dsimp only
          rw [← t.length, ← t'.length]
        | _ => rfl
      | _ => rfl
    | _ => rfl
  | tup t => cases q <;> rfl
  | _ => cases q <;> rfl
theorem isNk2 (g : Ag2 r s h) {v v' : VI} (p : RV2 r v v') : isNk h v' = isNk s v := by
  cases p with
  | @ref i i' e1 =>
    obtain ⟨o, o', z1, z2, z3⟩ := g.no e1
    unfold isNk
    dsimp only
    rw [z1, z2]
    cases z3 <;> rfl
  | _ => rfl
end
instance : LOp fEqJ := ⟨fun r s h x y x' y' g p q => by
  have a := LOp.run (f := fEqN) r s h x y x' y' g p q
  have b := LOp.run (f := fEqX) r s h x y x' y' g p q
  unfold fEqJ
  rw [rcW2 g p q, isNk2 g p]
  cases rcW s x y with
  | true => exact .ok g (.bl _)
  | false => cases isNk s x with
    | true => exact a
    | false => exact b⟩
instance : LOp fNeJ := ⟨fun r s h x y x' y' g p q => by
  have a := LOp.run (f := fNe) r s h x y x' y' g p q
  unfold fNeJ
  rw [rcW2 g p q, unL2 g p q]
  cases rcW s x y with
  | true => exact .ok g (.bl _)
  | false => cases unL s x y with
    | true => exact .ok g (.bl _)
    | false => exact a⟩
instance {T : IsT} {ma : ME} [x : LE ma] : LE (eIsiD T ma) := ⟨fun r s h σ σ' g a => (x.run r s h σ σ' g a).bind fun r1 s1 h1 v v' e1 g1 q1 => by
  have same : isTD T v' h1 = isTD T v s1 := by
    unfold isTD isT
    cases q1 with
    | ref i =>
      obtain ⟨o, o', z1, z2, z3⟩ := g1.no i
      dsimp only
      rw [z1, z2]
      cases z3 <;> rfl
    | _ => rfl
  rw [same]
  cases isTD T v s1 with
  | none => trivial
  | some b => exact .ok g1 (.bl b)⟩
end ML
end
section
namespace ML
open PySem L2 PySem.Spec PyProof.Rows
def turnsS (it : Itm) (t : Tgt) (vs : List Nat) (tt : MT) (ek ev : ME) (D : Nat) (σ : Sg) : Nat → Nat → Hi → Option Hi
  | 0, i, h => match it.nxt i h with
    | some none => some h
    | _ => none
  | k + 1, i, h => match it.nxt i h with
    | some none => some h
    | some (some x) => match t.put x (wipeM σ vs) with
      | some σ2 => match tt σ2 h with
        | .ok true h2 => match ek σ2 h2 with
          | .ok y h3 => match ev σ2 h3 with
            | .ok z h4 => match h4[D]?, isKey y with
              | some (.dic acc), true => match small (acc.length + 1) with
                | true => turnsS it t vs tt ek ev D σ k (i + 1) (h4.set D (.dic (ML.putD y z acc)))
                | false => none
              | _, _ => none
            | _ => none
          | _ => none
        | .ok false h2 => turnsS it t vs tt ek ev D σ k (i + 1) h2
        | _ => none
      | none => none
    | none => none
def eDcS (mi : MI) (t : Tgt) (vs : List Nat) (tt : MT) (ek ev : ME) : ME := fun σ h => (mi σ h).bind fun it h1 => match turnsS it t vs tt ek ev h1.length σ (it.fuel h1) 0 (h1 ++ [.dic []]) with
  | some h2 => .ok (.ref h1.length) h2
  | none => .err
section
variable {X : Cx} {G : Gx}
end
section
variable {G : Gx} {X : Cx}
def intsV : List VI → Option (List Int)
  | [] => some []
  | .int i :: r => (intsV r).map (i :: ·)
  | _ => none
def cSum : OpC := fun vs h => match vs with
  | [.ref n] => match h[n]? with
    | some (.lst xs) => match intsV xs with
      | some ns => some (.int ns.sum, h)
      | none => none
    | _ => none
  | _ => none
end
end ML
end
section
namespace ML
open PySem L2
theorem turnsS2 {t : Tgt} {vs : List Nat} {tt : MT} {ek ev : ME} [x : LT tt] [y : LE ek] [z : LE ev] : ∀ (k i : Nat) (r : List Nat) (s h s' : Hi) (σ σ' : Sg) (a b : Itm) (D D' : Nat), Ag2 r s h → AS2 r σ σ' → RI2 r a b → r[D]? = some D' →
    turnsS a t vs tt ek ev D σ k i s = some s' → ∃ r' h', turnsS b t vs tt ek ev D' σ' k i h = some h' ∧ Ex2 r h r' h' ∧ Ag2 r' s' h'
  | 0, i, r, s, h, s', σ, σ', a, b, D, D', g, as, q, d, e => by
    have n := nxt2 g q i
    unfold turnsS at e ⊢
    cases z1 : a.nxt i s with
    | none => rw [z1] at e; cases e
    | some o =>
      rw [z1] at e n
      cases o with
      | some _ => cases e
      | none => cases z2 : b.nxt i h with
        | none => rw [z2] at n; exact n.elim
        | some o' => cases o' with
          | some _ => rw [z2] at n; exact n.elim
          | none => cases e; exact ⟨r, h, rfl, .refl, g⟩
  | k + 1, i, r, s, h, s', σ, σ', a, b, D, D', g, as, q, d, e => by
    have n := nxt2 g q i
    unfold turnsS at e ⊢
    cases z1 : a.nxt i s with
    | none => rw [z1] at e; cases e
    | some o =>
      rw [z1] at e n
      cases z2 : b.nxt i h with
      | none => rw [z2] at n; exact n.elim
      | some o' =>
        rw [z2] at n
        cases o with
        | none => cases o' with
          | some _ => exact n.elim
          | none => cases e; exact ⟨r, h, rfl, .refl, g⟩
        | some v => cases o' with
          | none => exact n.elim
          | some v' =>
            dsimp only at e ⊢
            cases z3 : t.put v (wipeM σ vs) with
            | none => rw [z3] at e; cases e
            | some τ =>
              obtain ⟨τ', w1, w2⟩ := put2 t n (wipe2 as vs) z3
              rw [z3] at e
              rw [w1]
              dsimp only at e ⊢
              have tk := x.run _ _ _ _ _ g w2
              cases z4 : tt τ s with
              | err => rw [z4] at e; cases e
              | ex _ _ _ => rw [z4] at e; cases e
              | ok c s2 =>
                rw [z4] at tk e
                obtain ⟨r2, h2, c', k1, k2, k3, k4⟩ := tk
                subst k4
                rw [k1]
                cases c with
                | false =>
                  dsimp only at e ⊢
                  obtain ⟨r3, h3, j1, j2, j3⟩ := turnsS2 k (i + 1) _ _ _ _ _ _ _ _ _ _ k3 (as.mono k2) (q.mono k2) (k2.pre d) e
                  exact ⟨r3, h3, j1, k2.trans j2, j3⟩
                | true =>
                  dsimp only at e ⊢
                  have ek' := y.run _ _ _ _ _ k3 (w2.mono k2)
                  cases z5 : ek τ s2 with
                  | err => rw [z5] at e; cases e
                  | ex _ _ _ => rw [z5] at e; cases e
                  | ok u s3 =>
                    rw [z5] at ek' e
                    obtain ⟨r3, h3, u', m1, m2, m3, m4⟩ := ek'
                    rw [m1]
                    dsimp only at e ⊢
                    have ev' := z.run _ _ _ _ _ m3 ((w2.mono k2).mono m2)
                    cases z7 : ev τ s3 with
                    | err => rw [z7] at e; cases e
                    | ex _ _ _ => rw [z7] at e; cases e
                    | ok u2 s4 =>
                      rw [z7] at ev' e
                      obtain ⟨r4, h4, u2', l1, l2, l3, l4⟩ := ev'
                      rw [l1]
                      dsimp only at e ⊢
                      have d4 := l2.pre (m2.pre (k2.pre d))
                      obtain ⟨o, o', v1, v2, v3⟩ := l3.no d4
                      rw [v1] at e
                      rw [v2, isKey2 m4]
                      cases v3 with
                      | dic l =>
                        cases z8 : isKey u with
                        | false => rw [z8] at e; cases e
                        | true =>
                          rw [z8] at e
                          dsimp only at e ⊢
                          rw [l.length] at e
                          cases z6 : small _ with
                          | false => rw [z6] at e; cases e
                          | true =>
                            rw [z6] at e
                            dsimp only at e ⊢
                            obtain ⟨g4, e4⟩ := l3.wr v1 d4 (.dic (putD2 (m4.mono l2) l4 l))
                            obtain ⟨r5, h5, j1, j2, j3⟩ := turnsS2 k (i + 1) _ _ _ _ _ _ _ _ _ _ g4 ((((as.mono k2).mono m2).mono l2).mono e4) ((((q.mono k2).mono m2).mono l2).mono e4) (e4.pre d4) e
                            exact ⟨r5, h5, j1, (((k2.trans m2).trans l2).trans e4).trans j2, j3⟩
                      | _ => cases e
instance {mi : MI} {t : Tgt} {vs : List Nat} {tt : MT} {ek ev : ME} [z : LI mi] [x : LT tt] [y : LE ek] [y2 : LE ev] : LE (eDcS mi t vs tt ek ev) := ⟨fun r s h σ σ' g a => (z.run r s h σ σ' g a).bind fun r1 s1 h1 v v' e1 g1 q1 => by
  obtain ⟨g2, e2⟩ := g1.new (o := .dic []) (o' := .dic []) (.dic .nil)
  rw [fuel2 g1 q1]
  cases w : turnsS v t vs tt ek ev s1.length σ (v.fuel s1) 0 (s1 ++ [.dic []]) with
  | none => trivial
  | some s2 =>
    obtain ⟨r3, h3, j1, j2, j3⟩ := turnsS2 _ _ _ _ _ _ _ _ _ _ _ _ g2 ((a.mono e1).mono e2) (q1.mono e2) g1.idx w
    rw [j1]
    exact ⟨r3, h3, _, rfl, e2.trans j2, j3, .ref (j2.pre g1.idx)⟩⟩
theorem intsV2 {r : List Nat} : ∀ {xs ys : List VI}, RVs2 r xs ys → intsV ys = intsV xs
  | _, _, .nil => rfl
  | _, _, .cons p t => by
    cases p with
    | int i => simp only [intsV, intsV2 t]
    | _ => rfl
instance : LOc cSum := ⟨fun r s h vs vs' g t => by
  unfold cSum
  cases t with
  | nil => trivial
  | cons p t =>
    cases t with
    | cons _ _ => cases p <;> trivial
    | nil =>
      cases p with
      | ref i =>
        obtain ⟨o, o', z1, z2, z3⟩ := g.no i
        dsimp only
        rw [z1, z2]
        cases z3 with
        | lst t =>
          dsimp only
          rw [intsV2 t]
          rename_i xs ys
          cases intsV xs with
          | none => trivial
          | some ns => exact .ok g (.int _)
        | _ => trivial
      | _ => trivial⟩
end ML
end
section
namespace ML
open PySem PySem.Spec PyProof.Rows L2 He
structure DOkW (z : Bool) (P : Program) (w : World) (K : PySem.W.Frag) (mg : Str → Option Value) (base : Heap) (nm : Nat → Option Str) (k : Nat) (p : Defn) (x0 r0 : Str) (g : MF) : Prop where
  ok : FnOkW z P w K mg base k (p K) (fdOf K p) [x0, r0] (spM (GxOf w K mg nm) 2 g)
  bn : ∀ (s : Shared) (u : Value) (ns : List (Str × Value)), (∀ p ∈ ns, p.1 ≠ x0) → (ns.map (·.1)).Nodup → ns.length ≤ sizeLine → BindsW P w (fdOf K p) [x0, r0] s [u] ns
  kp : PySem.W.keepIn K (.ref (p K)) = true
section
variable {G : Gx} {W : WX} {X : Cx} {nm : Nat → Option Str} {k k' m : Nat} {q : Defn} {x0 r0 : Str} {a0 : S} {g : MF}
end
end ML
end
section
namespace ML
open PySem PySem.Spec PyProof.Rows L2 He
section
variable {X : Cx} {e : Expr} {pos kp : Pos} {fv : Value} {td : TE} {pins : List (Addr × Obj)} {s : Shared} {σ : L2.St} {H : Hp} {Q : VK}
end
def eMethD (a0 : S) (tbl : Nat → Option MF) (m : S) (mo me : ME) : ME := fun σ h => (mo σ h).bind fun x h1 => match x with
  | .ref n => match h1[n]? with
    | some (.ins c fl) => match tbl c, getF m fl with
      | some g, none => (me σ (h1 ++ [.dic []])).bind fun y h2 => match y with
        | .ref j => match Nat.beq j h1.length, h2[h1.length]?, h2[j]? with
          | false, some (.dic []), some (.dic kvs) => match kwOk a0 kvs with
            | true => g [.ref n, .ref h2.length] (h2.set h1.length (.dic (putAll kvs [])) ++ [.dic kvs])
            | false => .err
          | _, _, _ => .err
        | _ => .err
      | _, _ => .err
    | _ => .err
  | _ => .err
section
variable {G : Gx} {W : WX} {X : Cx} {ρ : List Addr} {H : Hp} {h : Hi} {o e : Expr} {mo me : ME} {p apos pos kp : Pos}
variable {k m : Nat} {fd : FuncData} {g : MF}
end
section
variable {G : Gx} {W : WX} {X : Cx} {nm : Nat → Option Str} {k k' m : Nat} {q : Defn} {x0 r0 : Str} {a0 : S} {g : MF}
end
end ML
end
section
namespace ML
open PySem L2 NdefX L2H
open PyProof.Rows hiding wpAt
section
variable {P : Program} {w : World} {K : PySem.W.Frag} {mg : Str → Option Value} {base : Heap} {x qual : Str} {params : Arguments} {body : List Stmt} {scope : Scope} {dvs : List V} {kws : List (Str × V)} {f cc D c : Addr} {fd : FuncData} {file : Str} {N ps : List Str} {k : Nat} {sp : Sp} {CX : CXT}
variable {m fld par : Str}
end
section
variable {G : Gx} {W : WX} {X : Cx} {e : Expr} {me : ME} {c k j : Nat} {C fI : Addr} {fd : FuncData} {ps : List Str} {fld : S} {x : Str} {p pos pos' cpos : Pos}
end
def onlyX (mt : Nat → Option Bool) (su : MS) (c n : Nat) (σ : Sg) (h : Hi) : RS := match mt c with
  | some true => su σ h
  | some false => .ex c n σ h
  | none => .err
def sTryX (body : MS) (mt : Nat → Option Bool) (su : MS) : MS := fun σ h => match body σ h with
  | .ex c n σ' h' => onlyX mt su c n σ' h'
  | r => r
section
variable {G : Gx} {W : WX} {X : Cx} {pos pos' : Pos}
end
end ML
namespace ML
open PySem L2 L2H
end ML
end
section
namespace ML
open PySem L2
instance {a0 : S} {tbl : Nat → Option MF} {f : S} {ma me : ME} [c : LTb tbl] [x : LE ma] [y : LE me] : LE (eMethD a0 tbl f ma me) := ⟨fun r s h σ σ' g a => (x.run r s h σ σ' g a).bind fun r1 s1 h1 v v' e1 g1 q1 => by
  cases q1 with
  | ref p =>
    obtain ⟨o, o', z1, z2, z3⟩ := g1.no p
    dsimp only
    rw [z1, z2]
    cases z3 with
    | @ins d xs ys t =>
      dsimp only
      have k := getF2 (f := f) t
      cases w0 : tbl d with
      | none => trivial
      | some u =>
        cases w1 : getF f xs with
        | some v => trivial
        | none => cases w2 : getF f ys with
          | some _ => rw [w1, w2] at k; exact k.elim
          | none =>
            obtain ⟨g2, e2⟩ := g1.new (o := .dic []) (o' := .dic []) (.dic .nil)
            refine L2R.ext e2 ((y.run _ _ _ _ _ g2 ((a.mono e1).mono e2)).bind fun r3 s3 h3 w w' e3 g3 q3 => ?_)
            have dd := e3.pre g1.idx
            obtain ⟨o3, o3', v1, v2, v3⟩ := g3.no dd
            cases q3 with
            | @ref i j pp =>
              dsimp only
              rw [beq2 g3 pp dd]
              obtain ⟨w, w', u1, u2, u3⟩ := g3.no pp
              rw [v1, v2, u1, u2]
              cases Nat.beq i s1.length with
              | true => trivial
              | false =>
                cases v3 with
                | dic t =>
                  cases t with
                  | cons _ _ _ => trivial
                  | nil =>
                    cases u3 with
                    | dic t2 =>
                      dsimp only
                      rw [kwOk2 (a0 := a0) t2]
                      split
                      · obtain ⟨g4, e4⟩ := g3.wr v1 dd (.dic (putAll2 t2 .nil))
                        obtain ⟨g5, e5⟩ := g4.new (.dic (t2.mono (e4.trans (g4.new (o := .lst []) (o' := .lst []) (.lst .nil)).2)))
                        have ix := g4.idx
                        rw [List.length_set, List.length_set] at ix
                        exact L2R.ext e4 (L2R.ext e5 ((c.run _ _ w0).run _ _ _ _ _ g5 (.cons (.ref (e5.pre (e4.pre (e3.pre (e2.pre p))))) (.cons (.ref (by rw [List.length_set]; exact ix)) .nil))))
                      · trivial
                    | _ => trivial
                | _ => trivial
            | _ => trivial
    | _ => trivial
  | _ => trivial⟩
instance {body su : MS} {mt : Nat → Option Bool} [x : LS body] [y : LS su] : LS (sTryX body mt su) := ⟨fun r s h σ σ' g a => by
  have k := x.run r s h σ σ' g a
  unfold sTryX
  cases z : body σ s with
  | err => trivial
  | nx σ1 s' => rw [z] at k; obtain ⟨r2, h2, m, e1, e2, g2, a2⟩ := k; rw [e1]; exact ⟨r2, h2, _, rfl, e2, g2, a2⟩
  | bk σ1 s' => rw [z] at k; obtain ⟨r2, h2, m, e1, e2, g2, a2⟩ := k; rw [e1]; exact ⟨r2, h2, _, rfl, e2, g2, a2⟩
  | ct σ1 s' => rw [z] at k; obtain ⟨r2, h2, m, e1, e2, g2, a2⟩ := k; rw [e1]; exact ⟨r2, h2, _, rfl, e2, g2, a2⟩
  | rt v s' => rw [z] at k; obtain ⟨r2, h2, m, e1, e2, g2, a2⟩ := k; rw [e1]; exact ⟨r2, h2, _, rfl, e2, g2, a2⟩
  | ex c n σ1 s' =>
    rw [z] at k
    obtain ⟨r2, h2, σ2, m, e1, e2, g2, a2, q⟩ := k
    rw [e1]
    refine L2S.ext e2 ?_
    show L2S r2 h2 (onlyX mt su c n σ1 s') (onlyX mt su c m σ2 h2)
    unfold onlyX
    cases w : mt c with
    | none => trivial
    | some b =>
      cases b with
      | false => exact ⟨r2, h2, σ2, m, rfl, .refl, g2, a2, q⟩
      | true => exact y.run r2 s' h2 σ1 σ2 g2 a2⟩
end ML
end
section
namespace ML
open PySem PySem.Spec PyProof.Rows L2 He
def zipV : List VI → List VI → List VI
  | x :: xs, y :: ys => .tup [x, y] :: zipV xs ys
  | _, _ => []
def ztK (vs : List VI) (h : Hi) : Res Itm := match vs with
  | [.tup xs, .tup ys] => .ok (.tup (zipV xs ys)) h
  | _ => .err
def iZipT (a : MA) : MI := fun σ h => (a σ h).bind ztK
section
variable {G : Gx} {W : WX} {X : Cx} {e e2 : Expr} {ma : MA} {ρ : List Addr} {H : Hp} {p pos tpos : Pos} {elts : List Expr} {kk : Nat}
end
end ML
end
section
namespace ML
open PySem L2
def cntI (y : VI) : List VI → Nat
  | [] => 0
  | x :: r => match eqI x y with
    | true => cntI y r + 1
    | false => cntI y r
def mCount : OpM := fun x vs h => match x with
  | .ref n => match h[n]? with
    | some (.lst xs) => match vs with
      | [y] => match okI y && alO xs with
        | true => some (.int (cntI y xs : Nat), h)
        | false => none
      | _ => none
    | _ => none
  | _ => none
section
variable {G : Gx} {ρ : List Addr} {h : Hi} {H : Hp} {X : Cx}
end
end ML
end
section
namespace ML
open PySem L2
theorem zipV2 {r : List Nat} : ∀ {xs xs' ys ys' : List VI}, RVs2 r xs xs' → RVs2 r ys ys' → RVs2 r (zipV xs ys) (zipV xs' ys')
  | _, _, _, _, .nil, _ => .nil
  | _, _, _, _, .cons _ _, .nil => .nil
  | _, _, _, _, .cons a t, .cons b t' => .cons (.tup (.cons a (.cons b .nil))) (zipV2 t t')
instance {ma : MA} [x : LA ma] : LI (iZipT ma) := ⟨fun r s h σ σ' g a => (x.run r s h σ σ' g a).bind fun r1 s1 h1 vs vs' e1 g1 q1 => by
  unfold ztK
  cases q1 with
  | nil => trivial
  | cons p1 q1 =>
    cases q1 with
    | nil => cases p1 <;> trivial
    | cons p2 q1 =>
      cases q1 with
      | cons _ _ => cases p1 <;> cases p2 <;> trivial
      | nil =>
        cases p1 with
        | tup t1 =>
          cases p2 with
          | tup t2 => exact .ok g1 (.tup (zipV2 t1 t2))
          | _ => trivial
        | _ => cases p2 <;> trivial⟩
theorem cntI2 {r : List Nat} {a b : VI} (p : RV2 r a b) : ∀ {xs ys : List VI}, RVs2 r xs ys → cntI b ys = cntI a xs
  | _, _, .nil => rfl
  | _, _, .cons q t => by simp only [cntI]; rw [eqI2 q p, cntI2 p t]
instance : LOm mCount := ⟨fun r s h x x' vs vs' g p t => by
  unfold mCount
  cases p with
  | ref i =>
    obtain ⟨o, o', e1, e2, e3⟩ := g.no i
    dsimp only
    rw [e1, e2]
    cases e3 with
    | lst l =>
      cases t with
      | nil => trivial
      | cons q t =>
        cases t with
        | cons _ _ => trivial
        | nil =>
          dsimp only
          rw [okI2 q, alO2 l, cntI2 q l]
          split
          · exact .ok g (.int _)
          · trivial
    | _ => trivial
  | _ => trivial⟩
end ML
end
section
namespace GQ
open PySem PySem.Spec PyProof.Rows
section
variable {prog : Program} {w : World} {A : Around} {R : Result → Shared → Prop} {I : Addr} {fp wr : List Addr} {G : Array GenState → Array GenState → Prop} {n : Nat} {P : Nat → Value → Prop} {St : Nat → Shared → Prop}
end
section
variable {prog : Program} {w : World} {A : Around} {E : Value → Shared → Prop} {s : Shared}
end
end GQ
namespace ML
open PySem PySem.Spec PyProof.Rows L2
def strsI : List VI → Option (List S)
  | [] => some []
  | .str s :: r => (strsI r).map (s :: ·)
  | _ => none
def oneI (σ : List S) (v : S) : List S := match σ.any (· == v) with
  | true => σ
  | false => σ ++ [v]
def eLenSet (e : ME) : ME := fun σ h => (e σ h).bind fun x h1 => match x with
  | .ref n => match h1[n]? with
    | some (.lst xs) => match strsI xs with
      | some ss => match Nat.ble ss.length 1000 with
        | true => .ok (.int (ss.foldl oneI []).length) h1
        | false => .err
      | none => .err
    | _ => .err
  | _ => .err
section
variable {G : Gx} {W : WX} {X : Cx}
end
end ML
end
section
namespace ML
open PySem L2 PyProof.Rows
def iAddL : Op2 := fun x y h => match x, y with
  | .int i, .int j => some (.int (i + j), h)
  | .ref n, .ref m => match h[n]?, h[m]? with
    | some (.lst xs), some (.lst ys) => match small (xs.length + ys.length) with
      | true => some (.ref n, h.set n (.lst (xs ++ ys)))
      | false => none
    | _, _ => none
  | _, _ => none
section
variable {G : Gx} {X : Cx}
end
end ML
end
section
namespace ML
open PySem L2
theorem strsI2 {r : List Nat} : ∀ {xs ys : List VI}, RVs2 r xs ys → strsI ys = strsI xs
  | _, _, .nil => rfl
  | _, _, .cons p t => by cases p <;> first | rfl | (simp only [strsI]; rw [strsI2 t])
instance {me : ME} [x : LE me] : LE (eLenSet me) := ⟨fun r s h σ σ' g a => (x.run r s h σ σ' g a).bind fun r1 s1 h1 v v' e1 g1 q1 => by
  cases q1 with
  | ref i =>
    obtain ⟨o, o', k1, k2, k3⟩ := g1.no i
    dsimp only
    rw [k1, k2]
    cases k3 with
    | lst l =>
      dsimp only
      rw [strsI2 l]
      split
      · split
        · exact .ok g1 (.int _)
        · trivial
      · trivial
    | _ => trivial
  | _ => trivial⟩
instance {body su : MS} {mt : Nat → Option Bool} [x : LS body] [y : LS su] : LS (sTryX body mt su) := ⟨fun r s h σ σ' g a => by
  have k := x.run r s h σ σ' g a
  unfold sTryX
  cases z : body σ s with
  | err => trivial
  | nx σ1 s' => rw [z] at k; obtain ⟨r2, h2, m, e1, e2, g2, a2⟩ := k; rw [e1]; exact ⟨r2, h2, _, rfl, e2, g2, a2⟩
  | bk σ1 s' => rw [z] at k; obtain ⟨r2, h2, m, e1, e2, g2, a2⟩ := k; rw [e1]; exact ⟨r2, h2, _, rfl, e2, g2, a2⟩
  | ct σ1 s' => rw [z] at k; obtain ⟨r2, h2, m, e1, e2, g2, a2⟩ := k; rw [e1]; exact ⟨r2, h2, _, rfl, e2, g2, a2⟩
  | rt v s' => rw [z] at k; obtain ⟨r2, h2, m, e1, e2, g2, a2⟩ := k; rw [e1]; exact ⟨r2, h2, _, rfl, e2, g2, a2⟩
  | ex c n σ1 s' =>
    rw [z] at k
    obtain ⟨r2, h2, σ2, m, e1, e2, g2, a2, q⟩ := k
    rw [e1]
    refine L2S.ext e2 ?_
    show L2S r2 h2 (onlyX mt su c n σ1 s') (onlyX mt su c m σ2 h2)
    unfold onlyX
    cases w : mt c with
    | none => trivial
    | some b =>
      cases b with
      | false => exact ⟨r2, h2, σ2, m, rfl, .refl, g2, a2, q⟩
      | true => exact y.run r2 s' h2 σ1 σ2 g2 a2⟩
instance : LOp iAddL := ⟨fun r s h x y x' y' g a b => by
  unfold iAddL
  cases a with
  | int i => cases b <;> first | exact ⟨_, _, _, rfl, .refl, g, .int _⟩ | trivial
  | ref i =>
    cases b with
    | ref j =>
      obtain ⟨o, o', e1, e2, e3⟩ := g.no i
      obtain ⟨u, u', f1, f2, f3⟩ := g.no j
      dsimp only
      rw [e1, e2, f1, f2]
      cases e3 with
      | lst l =>
        cases f3 with
        | lst l2 =>
          dsimp only
          rw [l.length, l2.length]
          split
          · exact .wr g e1 i (.lst (l.append l2)) (.ref i)
          · trivial
        | _ => trivial
      | _ => cases f3 <;> trivial
    | _ => trivial
  | _ => trivial⟩
end ML
end
section
namespace ML
open PySem PyProof.Rows
def minF (m : Int) (ns : List Int) : Int := ns.foldl (fun m x => if x < m then x else m) m
section
variable {prog : Program} {w : World} {A : Around} {E : Value → Shared → Prop} {s : Shared}
end
def cMinL : OpC := fun vs h => match vs with
  | [.ref n] => match h[n]? with
    | some (.lst xs) => match intsV xs with
      | some (i :: ns) => some (.int (minF i ns), h)
      | _ => none
    | _ => none
  | _ => none
section
open PySem.Spec L2 He
variable {G : Gx} {W : WX} {X : Cx} {e : Expr} {es : List Expr} {mr : MA} {p p2 kp pos : Pos}
end
end ML
end
section
namespace ML
open PySem L2
instance : LOc cMinL := ⟨fun r s h vs vs' g t => by
  unfold cMinL
  cases t with
  | nil => trivial
  | cons p t =>
    cases t with
    | cons _ _ => cases p <;> trivial
    | nil =>
      cases p with
      | ref i =>
        obtain ⟨o, o', z1, z2, z3⟩ := g.no i
        dsimp only
        rw [z1, z2]
        cases z3 with
        | lst t =>
          dsimp only
          rw [intsV2 t]
          rename_i xs ys
          cases intsV xs with
          | none => trivial
          | some ns =>
            cases ns with
            | nil => trivial
            | cons i ns => exact .ok g (.int _)
        | _ => trivial
      | _ => trivial⟩
end ML
end
section
namespace ML
open PySem L2
theorem exv_l2 {r : List Nat} {s h : Hi} {c : Nat} {f : S} {v v' : VI} (g : Ag2 r s h) (q : RV2 r v v') : L2R RV2 r h (.ok (.ref (s.length + 1)) (s ++ [.xd [(f, v)]] ++ [.exo c s.length])) (.ok (.ref (h.length + 1)) (h ++ [.xd [(f, v')]] ++ [.exo c h.length])) := by
  have e0 : Ex2 r h (r ++ [h.length]) (h ++ [.xd [(f, v')]]) := ⟨⟨[h.length], rfl, fun m hm => by rw [List.mem_singleton] at hm; omega⟩, by simp, fun m _ hlt => List.getElem?_append_left hlt⟩
  obtain ⟨g1, e1⟩ := g.new (o := .xd [(f, v)]) (o' := .xd [(f, v')]) (.xd (.cons (q.mono e0) .nil))
  have l1 : (h ++ [OI.xd [(f, v')]]).length = h.length + 1 := by simp
  obtain ⟨g2, e2⟩ := g1.new (o := .exo c s.length) (o' := .exo c h.length) (.exo (by rw [← g.len]; simp))
  refine .okE (e1.trans e2) g2 (.ref ?_)
  rw [l1, ← g.len]
  simp
instance {c : Nat} {f : S} : LF (cExV c f) := ⟨fun r s h vs vs' g t => by
  cases t with
  | nil => trivial
  | cons q t =>
    cases t with
    | nil => exact exv_l2 g q
    | cons _ _ => trivial⟩
instance {c : Nat} {f : S} : LK (kExV c f) := ⟨fun r s h vs vs' ws ws' g t u => by
  cases t with
  | cons _ _ => trivial
  | nil =>
    cases u with
    | nil => trivial
    | cons q t =>
      cases t with
      | nil => exact exv_l2 g q
      | cons _ _ => trivial⟩
section
variable {ma : ME}
instance {cs : List Nat} {f : S} [x : LE ma] : LE (eFldX cs f ma) := ⟨fun r s h σ σ' g a => (x.run r s h σ σ' g a).bind fun r1 s1 h1 v v' e1 g1 q1 => by
  cases q1 with
  | ref p =>
    obtain ⟨o, o', z1, z2, z3⟩ := g1.no p
    dsimp only
    rw [z1, z2]
    cases z3 with
    | @exo c n m p2 =>
      obtain ⟨u, u', y1, y2, y3⟩ := g1.no p2
      dsimp only
      rw [y1, y2]
      cases cs.contains c with
      | false => trivial
      | true =>
        cases y3 with
        | @xd xs ys t =>
          dsimp only
          have k := getF2 (f := f) t
          cases w1 : getF f xs with
          | none => trivial
          | some v => cases w2 : getF f ys with
            | none => rw [w1, w2] at k; exact k.elim
            | some w => rw [w1, w2] at k; exact .ok g1 k
        | _ => trivial
    | _ => trivial
  | _ => trivial⟩
instance {tbl : Nat → Option Bool} [x : LE ma] : LE (eIsX tbl ma) := ⟨fun r s h σ σ' g a => (x.run r s h σ σ' g a).bind fun r1 s1 h1 v v' e1 g1 q1 => by
  cases q1 with
  | ref p =>
    obtain ⟨o, o', z1, z2, z3⟩ := g1.no p
    dsimp only
    rw [z1, z2]
    cases z3 with
    | @exo c n m p2 =>
      obtain ⟨u, u', y1, y2, y3⟩ := g1.no p2
      dsimp only
      rw [y1, y2]
      cases tbl c with
      | none => trivial
      | some b =>
        cases y3 with
        | xd t => exact .ok g1 (.bl b)
        | _ => trivial
    | _ => trivial
  | _ => trivial⟩
end
end ML
end
section
namespace ML
open PySem PySem.Spec PyProof.Rows L2 He

end ML
end
section
namespace ML
open PySem L2 NdefX
open Builtin Builtin.ObjectAttr
open PyProof.Rows hiding wpAt
structure XB (B BN nid iid : String) (tl : List Value) : Prop where
  ends : nid.endsWith ".__new__" = true
  owner : nid.dropRight 8 = BN
  entry : entryFor table nid = some Builtin.«BaseException.__new__»
  quiet : nid.startsWith "lifetime." = false
  newSplit : splitId nid = some (BN, "__new__")
  newKind : builtinKind nid = some .builtinFn
  newRow : Manifest.signature? nid = some ⟨.any, BN, BN, .cls, [⟨"args", .varPos, false⟩, ⟨"kwargs", .varKw, false⟩]⟩
  canon : Manifest.canonical nid = Manifest.canonical "BaseException.__new__"
  init : Slot B "__init__" iid
  initEntry : entryFor table iid = some Builtin.«BaseException.__init__»
  initKind : builtinKind iid = some .slot
  initRow : Manifest.signature? iid = some ⟨.positional, "*", B, .self, [⟨"args", .varPos, false⟩]⟩
  noStar : (B != "*") = true
  noStarN : (BN != "*") = true
  hasB : tl.contains (.type B) = true
  hasBN : tl.contains (.type BN) = true
  noAttr : tl.contains (.type "AttributeError") = false
  noName : tl.contains (.type "NameError") = false
  obj : tl.contains (.type "object") = true
  ne : tl.isEmpty = false
  passes : ∀ self : Value, refuseLoop self "__setattr__" tl = pure ()
  kxs : PySem.W.KxsFacts B iid
abbrev keTail : List Value := [.type "KeyError", .type "LookupError", .type "Exception", .type "BaseException", .type "object"]
theorem xb_KeyError : XB "KeyError" "LookupError" "LookupError.__new__" "KeyError.__init__" keTail where
  ends := by decide +kernel
  owner := by decide +kernel
  entry := entryFor_alias (id' := "BaseException.__new__") (by rw [fastTable_eq_tree]; kernel_rfl) (by first | rfl | decide +kernel) (by decide +kernel) (by rw [fastTable_eq_tree]; kernel_rfl)
  quiet := by decide +kernel
  newSplit := by kernel_rfl
  newKind := by kernel_rfl
  newRow := by kernel_rfl
  canon := by decide +kernel
  init := .of (owner := "KeyError") (n := "__init__") (by rw [typeLookup_type, builtinLookup_eq_fast]; kernel_rfl) (by decide +kernel) (by decide +kernel) (by decide +kernel)
    (by first | exact .inl (by decide +kernel) | exact .inr (by decide +kernel)) (by rw [isSubtype_type]; kernel_rfl)
  initEntry := entryFor_alias (id' := "BaseException.__init__") (by rw [fastTable_eq_tree]; kernel_rfl) (by first | rfl | decide +kernel) (by decide +kernel) (by rw [fastTable_eq_tree]; kernel_rfl)
  initKind := by kernel_rfl
  initRow := by kernel_rfl
  noStar := by decide +kernel
  noStarN := by decide +kernel
  hasB := by decide +kernel
  hasBN := by decide +kernel
  noAttr := by decide +kernel
  noName := by decide +kernel
  obj := by decide +kernel
  ne := rfl
  passes := fun self => by kernel_rfl
  kxs := ⟨by show builtinType _ = _; rw [builtinType_eq_fast]; kernel_rfl, by first | kernel_rfl | rfl⟩
def ownT (tl : List Value) : List Value → Bool
  | .ref _ :: r => ownT tl r
  | l => l == tl
theorem ownT_cases {tl : List Value} : ∀ l : List Value, ownT tl l = true → (∃ c r, l = .ref c :: r ∧ ownT tl r = true) ∨ l = tl := by
  intro l h
  match l, h with
  | [], h => exact .inr (beq_iff_eq.mp h)
  | a :: r, h =>
    cases a with
    | ref c => exact .inl ⟨c, r, rfl, h⟩
    | _ => exact .inr (beq_iff_eq.mp h)
theorem ownT_has {tl : List Value} (Y : String) : ∀ l : List Value, ownT tl l = true → l.contains (.type Y) = tl.contains (.type Y) := by
  intro l
  induction l with
  | nil =>
    intro h
    rcases ownT_cases [] h with ⟨c, r, q, _⟩ | q
    · cases q
    · rw [q]
  | cons a r ih =>
    intro h
    rcases ownT_cases _ h with ⟨c, r', q, h'⟩ | q
    · cases q
      rw [List.contains_cons, ih h']; rfl
    · rw [q]
theorem ownT_ne {tl : List Value} (hz : tl.isEmpty = false) : ∀ l : List Value, ownT tl l = true → l.isEmpty = false := by
  intro l h
  rcases ownT_cases l h with ⟨c, r, q, _⟩ | q
  · rw [q]; rfl
  · rw [q]; exact hz
theorem ownT_pass {tl : List Value} (self : Value) (hp : refuseLoop self "__setattr__" tl = pure ()) : ∀ l : List Value, ownT tl l = true → refuseLoop self "__setattr__" l = pure () := by
  intro l
  induction l with
  | nil =>
    intro h
    rcases ownT_cases [] h with ⟨c, r, q, _⟩ | q
    · cases q
    · rw [q]; exact hp
  | cons a r ih =>
    intro h
    rcases ownT_cases _ h with ⟨c, r', q, h'⟩ | q
    · cases q
      rw [refuseLoop_ref]; exact ih h'
    · rw [q]; exact hp
section
variable {prog : Program} {w : World} {A : Around} {E : Value → Shared → Prop} {R : Result → Shared → Prop} {h : Heap} {g : Array GenState} {d : Drawn} {t : Nat} {os : OsState}
variable {nm q : Str} {C N : Addr} {bs bm tl : List Value} {hdct : Bool} {sn : List Str} {sub : List Value} {ab : Bool} {col : Option Bool} {dd : Option Addr} {k0 k1 k2 k3 k5 : Option Value} {B BN nid iid : String}
theorem xb_checkNew {M : Model} (F : XB B BN nid iid tl) (hT : ownT tl bm = true) {rest : List Value} {Q : Unit → Shared → Prop}
    (hC : h.get? C = some (excClassObj nm q C N bs bm hdct sn sub ab col dd k0 k1 k2 k3 k5 nid)) (hq : Q () ⟨h, g, d, t, os⟩) : wpAny M A (checkBuiltinCall nid ⟨.ref C :: rest, []⟩) Q E ⟨h, g, d, t, os⟩ := by
  have c1 : (Value.ref C :: bm).contains (.type BN) = true := by rw [List.contains_cons, ownT_has BN _ hT, F.hasBN, Bool.or_true]
  have c2 := F.noStarN
  simp only [checkBuiltinCall, F.newKind, F.newSplit, F.newRow]
  repeat (first | refine wpAny_loadPart_at hC ?_ | (refine wpAny_isSubtype_exc hC ?_; rw [c1]) | refine wpAny_staticBase_exc hC ?_ | refine wpAny_madeBy_exc hC ?_ | simp only [bne_self_eq_false, Bool.false_eq_true, if_false] | wp_step)
  exact hq
theorem xb_new (F : XB B BN nid iid tl) (hT : ownT tl bm = true) {rest : List Value}
    (hC : h.get? C = some (excClassObj nm q C N bs bm hdct sn sub ab col dd k0 k1 k2 k3 k5 nid))
    (hq : R (.ok (.ret (.ref (h.objs.size + 1)))) ⟨(h.push (PySem.W.kdv_tup rest)).push (PySem.HandSPX.excO C h.objs.size), g, d, t, os⟩) (hrest : rest.length ≤ sizeLine) :
    codeAny (model prog w) A (.builtin nid ⟨.ref C :: rest, []⟩) R ⟨h, g, d, t, os⟩ := by
  have c0 := F.ends
  have c1 : (Value.ref C :: bm).contains (.type BN) = true := by rw [List.contains_cons, ownT_has BN _ hT, F.hasBN, Bool.or_true]
  have c2 : (Value.ref C :: bm).contains (.type "AttributeError") = false := by rw [List.contains_cons, ownT_has _ _ hT, F.noAttr]; rfl
  have c3 : (Value.ref C :: bm).contains (.type "NameError") = false := by rw [List.contains_cons, ownT_has _ _ hT, F.noName]; rfl
  refine codeAny_builtinAt F.entry ?_
  unfold Builtin.«BaseException.__new__»
  refine PySem.wpAt_bind ?_
  show PySem.wpAt _ _ _ (stack >>= _) _ _ _
  refine PySem.wpAt_bind (PySem.wpAt_stack fun p below => PySem.wpAt_of_wpAny ?_)
  wp_walk
  refine PySem.wpAt_of_wpAny ?_
  rw [F.owner]
  repeat (first | with_reducible refine wpAny_madeHere_exc F.canon hC ?_ | with_reducible refine wpAny_loadPart_at hC ?_ | (with_reducible refine wpAny_isSubtype_exc hC ?_; first | rw [c1] | rw [c2] | rw [c3]) | wp_step)
  show R _ _
  rw [Heap.size_push]
  exact hq
theorem xb_typeCall (F : XB B BN nid iid tl) (hT : ownT tl bm = true) {rest : List Value} {fI : Addr} {Q : Fin → Shared → Prop}
    (hC : h.get? C = some (excClassObj nm q C N bs bm hdct sn sub ab col dd k0 k1 k2 k3 k5 nid))
    (hi : PySem.W.Looks (model prog w) h (typeLookup (.ref C) "__init__") (some (.ref fI))) (hb : ∀ self, PySem.W.Looks (model prog w) h (bindSpecial (.ref fI) self) (.ref fI, [self])) (hrest : rest.length ≤ sizeLine)
    (hq : codeAny (model prog w) A (.call (.ref fI) ⟨.ref (h.objs.size + 1) :: rest, []⟩)
      (fun r s' => match r with | .ok (.ret v) => v = .none ∧ Q (.done (.ret (.ref (h.objs.size + 1)))) s' | .ok _ => False | .error e => E e s')
      ⟨(h.push (PySem.W.kdv_tup rest)).push (PySem.HandSPX.excO C h.objs.size), g, d, t, os⟩) :
    wpAny (model prog w) A (Builtin.«type.__call__» ⟨.ref C :: rest, []⟩) Q E ⟨h, g, d, t, os⟩ := by
  repeat (first | with_reducible refine wpAny_loadPart_at hC ?_ | with_reducible refine wpAny_madeBy_exc hC ?_ | wp_step)
  refine codeAny_call_builtin_code (Code.quiet_builtin _ F.quiet) (xb_checkNew F hT hC ?_)
  refine xb_new F hT hC ?_ hrest
  show wpAny _ _ _ _ _ _
  have k : ∀ b o, h.get? b = some o → ((h.push (PySem.W.kdv_tup rest)).push (PySem.HandSPX.excO C h.objs.size)).get? b = some o := fun b o e => Heap.get?_push_of_some _ (Heap.get?_push_of_some _ e)
  have hC1 := k _ _ hC
  have hnew : ((h.push (PySem.W.kdv_tup rest)).push (PySem.HandSPX.excO C h.objs.size)).get? (h.objs.size + 1) = some (PySem.HandSPX.excO C h.objs.size) := by heap_get
  have c1 : (Value.ref C :: bm).contains (.ref C) = true := by simp
  have i1 := hi.keeps k
  have b1 := (hb (.ref (h.objs.size + 1))).keeps k
  unfold isInstance
  repeat (first | with_reducible refine wpAny_loadPart_at hnew ?_ | (with_reducible refine wpAny_isSubtype_exc hC1 ?_; rw [c1]) | wp_step)
  show wpAny _ _ (typeLookup (.ref C) _) _ _ _
  refine i1.at ?_
  refine wpAny_holding (wpAny_bind (b1.at ?_))
  refine wpAny_bind (wpAny_call (codeAny_mono hq fun r s' z => ?_))
  rcases r with e | (v | _ | _ | _) <;> first | exact z | exact z.elim | skip
  obtain ⟨rfl, z⟩ := z
  first
    | exact wpAny_pure (wpAny_pure z)
    | (wp_walk; exact z)
theorem xb_call (F : XB B BN nid iid tl) (hT : ownT tl bm = true) {rest : List Value} {fI : Addr}
    (hC : h.get? C = some (excClassObj nm q C N bs bm hdct sn sub ab col dd k0 k1 k2 k3 k5 nid))
    (hi : PySem.W.Looks (model prog w) h (typeLookup (.ref C) "__init__") (some (.ref fI))) (hb : ∀ self, PySem.W.Looks (model prog w) h (bindSpecial (.ref fI) self) (.ref fI, [self])) (hrest : rest.length ≤ sizeLine)
    (hq : codeAny (model prog w) (A.under (.builtin "type.__call__" ⟨.ref C :: rest, []⟩)) (.call (.ref fI) ⟨.ref (h.objs.size + 1) :: rest, []⟩) (PySem.W.InitBack (h.objs.size + 1) R)
      ⟨(h.push (PySem.W.kdv_tup rest)).push (PySem.HandSPX.excO C h.objs.size), g, d, t, os⟩) :
    codeAny (model prog w) A (.call (.ref C) ⟨rest, []⟩) R ⟨h, g, d, t, os⟩ := by
  have f1 := tc_lookup
  have f2 := tc_bind (.ref C)
  have hTy : (⟨h, g, d, t, os⟩ : Shared).TypeIs (.ref C) "type" := ⟨_, hC, rfl⟩
  refine codeAny_of_tree ?_
  show wpAny _ _ (callAny (.ref C) _) _ _ _
  repeat (any_goals (first | assumption | with_reducible refine wpAny_loadPart_at hC ?_ | wp_step))
  refine ⟨rfl, ?_⟩
  refine codeAny_call_builtin_at (Code.quiet_builtin _ (by decide +kernel)) entry_typeCall (wpAny_check_type_call_sub hC (xb_typeCall F hT hC hi hb hrest ?_))
  refine codeAny_mono hq fun r s' z => ?_
  rcases r with e | (v | _ | _ | _) <;> exact z
theorem xb_checkInit {M : Model} (F : XB B BN nid iid tl) (hT : ownT tl bm = true) {e : Addr} {oe : Obj} {rest : List Value} {Q : Unit → Shared → Prop}
    (hC : h.get? C = some (excClassObj nm q C N bs bm hdct sn sub ab col dd k0 k1 k2 k3 k5 nid)) (he : h.get? e = some oe) (hcls : oe.cls = .ref C) (hq : Q () ⟨h, g, d, t, os⟩) :
    wpAny M A (checkBoundCall iid ⟨.ref e :: rest, []⟩) Q E ⟨h, g, d, t, os⟩ := by
  have c2 := F.noStar
  simp only [checkBoundCall, F.initKind, F.initRow]
  repeat (first | (with_reducible refine wpAny_loadPart_at he ?_; rw [hcls]) | with_reducible refine wpAny_loadPart_at hC ?_ | wp_step)
  refine wpAny_onRaise ?_
  rw [show ∀ (a b : String) (n : Nat), Bind.check ⟨.positional, "*", B, .self, [⟨"args", .varPos, false⟩]⟩ a b n (List.map (fun x => x.fst) ({ pos := Value.ref e :: rest } : Args).kw) = pure () from
    fun a b n => check_star_args _ _ _ _ _ _]
  exact wpAny_pure hq
theorem xb_set (F : XB B BN nid iid tl) {K : PySem.W.Frag} {name : Str} {tk : Tok} {v : Value} {x : Addr} {fv : Array Value} {cd : ClassData}
    (X : K.In h) (hx : h.get? x = some { cls := .ref C, data := .fields fv }) (hcd : PySem.W.clsIn K C = some cd) (hm : ownT tl cd.mro = true) (hh : cd.hasDict = true) (ha : PySem.W.findIn K (.ref C) name = some none)
    (hq : ∀ h' tk' dx, (∀ b o, b ≠ x → h.get? b = some o → h'.get? b = some o) → h.objs.size ≤ dx → dx ≠ x → h'.get? x = some { cls := .ref C, dict := some dx, data := .fields fv } →
      h'.Ns1 dx (fun y => if y = name then some v else none) → R (.ok (.ret .none)) ⟨h', g, d, tk', os⟩) :
    codeAny (model prog w) A (.call (.builtin "object.__setattr__") ⟨[.ref x, .str name tk, v], []⟩) R ⟨h, g, d, t, os⟩ := by
  have I : PySem.W.InstAt h x { cls := .ref C, data := .fields fv } C none := ⟨hx, rfl, rfl, trivial⟩
  have SF := PySem.F.store_object
  have ne := ownT_ne F.ne _ hm
  have hob : cd.mro.contains (.type "object") = true := (ownT_has "object" _ hm).trans F.obj
  have hxs : x ≠ h.objs.size := Nat.ne_of_lt (Heap.lt_size hx)
  have sub : PySem.W.Looks (model prog w) h (isInstance (.ref x) (.type "object")) true := I.type.andThen (PySem.W.looks_mroIn X (by unfold PySem.W.mroIn; rw [hcd, Option.bind_some, if_neg (by rw [ne]; decide), hob]))
  refine codeAny_call_builtin SF.slot.plain SF.entry (@PySem.W.check_slot (model prog w) _ _ ⟨h, g, d, t, os⟩ "object.__setattr__" "object" "__setattr__" (.ref x) [.str name tk, v] [] _ SF.kind SF.split sub (SF.args (.ref x) (.str name tk) v) ?_)
  have hmr : PySem.W.Looks (model prog w) h (mroOf (.ref C)) cd.mro := (PySem.W.looks_clsIn X hcd).andThen .now
  have L3 : PySem.W.Looks (model prog w) h (storeTaker? none) none := .now
  have hcls : PySem.W.Looks (model prog w) h (classData C) cd := PySem.W.looks_clsIn X hcd
  rw [PySem.W.osa_eq, refuse_eq]
  refine wpAny_bind (wpAny_bind (I.type.at (wpAny_bind (hmr.at ?_))))
  rw [ownT_pass _ (F.passes _) _ hm]
  refine wpAny_pure (wpAny_bind (I.type.at (wpAny_bind ((PySem.W.looks_findIn X ha).at (wpAny_bind (L3.at ?_))))))
  show wpAny _ _ (storeInOwnDict (.ref x) (.ref C) (.str name tk) name v false) _ _ _
  obtain ⟨nm, bs, mro, ns, qn, hd, sn, sb, ab, col, del⟩ := cd
  dsimp only at hh
  subst hh
  unfold storeInOwnDict ownDictForStores
  repeat (first | with_reducible refine PySem.HandSPX.store_in_new ?_ ?_ | with_reducible refine wpAny_loadPart_at hx ?_ | with_reducible refine hcls.at ?_ | wp_step)
  · exact ⟨_, #[], _, (Heap.get?_update_ne _ _ _ _ hxs.symm).trans (Heap.get?_push_at rfl rfl), rfl, fun e he => absurd he (by simp), fun _ => rfl⟩
  · intro h' tk' hn' hs
    have hx1 : (h.push { cls := .type "dict", data := .dict #[] }).get? x = some { cls := .ref C, data := .fields fv } := Heap.get?_push_of_some _ hx
    refine hq h' tk' h.objs.size (fun b o hb ho => ?_) (Nat.le_refl _) hxs.symm ?_ hn'
    · exact (hs.2 b (Nat.ne_of_lt (Heap.lt_size ho))).trans ((Heap.get?_update_ne _ _ _ _ hb).trans (Heap.get?_push_of_some _ ho))
    · exact (hs.2 x hxs).trans (Heap.get?_update_self _ hx1 rfl)
end
end ML
end
section
namespace ML
open PySem PySem.Spec L2 NdefX He
open PyProof.Rows hiding wpAt
structure OexT (nid : String) (tl : List Value) (K : PySem.W.Frag) (C : Addr) : Prop where
  cls : ∃ nm q N bs bm sn sub ab col dd k0 k1 k2 k3 k5, K.lookup C = some (excClassObj nm q C N bs bm true sn sub ab col dd k0 k1 k2 k3 k5 nid) ∧ ownT tl bm = true
  sa : PySem.W.findIn K (.ref C) "__setattr__" = some (some (.builtin "object.__setattr__"))
  exC : PySem.W.subIn K (.ref C) (.type "BaseException") = some true
  tyC : PySem.W.typeIn K (.ref C) = some (.type "type")
  kC : PySem.W.keepIn K (.ref C) = true
structure SupT (B iid : String) (X : Cx) (C : Addr) : Prop where
  cd : ∃ cd, PySem.W.clsIn X.K C = some cd
  mro : PySem.W.mroIn X.K C (.ref C) = some true
  sup : PySem.W.ks_superIn X.K C C "__init__" = some (some (.builtin iid))
  sub : PySem.W.subIn X.K (.ref C) (.type B) = some true
def tSupT (B nid iid : String) (tl : List Value) (X : Cx) (j i : Nat) (D : Addr) (ta : TA) : TS := fun Dn σ H => σ[j]? = some (some (.ref D)) ∧ ∃ a, σ[i]? = some (some (.ref a)) ∧ H a = some (exo a D none) ∧ OexT nid tl X.K D ∧ SupT B iid X D ∧
  ta σ H fun vs H1 => vs.length ≤ 1000 ∧ H1 a = some (exo a D none) ∧ Dn.nx σ H1
def tOstT (nid : String) (tl : List Value) (K : PySem.W.Frag) (f : Str) (to te : TE) : TS := fun D σ H => te σ H fun y H1 => to σ H1 fun x H2 => ∃ a C : Addr, x = .ref a ∧ OexT nid tl K C ∧ PySem.W.findIn K (.ref C) f = some none ∧
  H2 a = some (exo a C none) ∧ ∀ dx, H2 dx = none → dx ≠ a → D.nx σ (upd (upd H2 dx (exd dx [(f, y)])) a (exo a C (some dx)))
section
variable {B BN nid iid : String} {tl : List Value} {X : Cx} {pins : List (Addr × Obj)} {σ : L2.St} {H : Hp} {s : Shared} {a b C dx : Addr} {f : Str} {y : V} {u : Value} {fs : List (Str × V)} {E : Value → Shared → Prop} {A : Around}
theorem ostT_new {Q : Unit → Shared → Prop} (F : XB B BN nid iid tl) (T : OexT nid tl X.K C) (I : Inv X pins σ H s) (e : H a = some (exo a C none)) (hno : PySem.W.findIn X.K (.ref C) f = some none) (ry : RelV y u)
    (h : ∀ dx s', H dx = none → dx ≠ a → Inv X pins σ (upd (upd H dx (exd dx [(f, y)])) a (exo a C (some dx))) s' → Q () s') : wpAny (model X.prog X.w) A (setAttr (.ref a) f u) Q E s := by
  obtain ⟨nm, q, N, bs, bm, sn, sub, ab, col, dd, k0, k1, k2, k3, k5, hC, hbm⟩ := T.cls
  have hcl : PySem.W.clsIn X.K C = some { name := nm, bases := bs, mro := .ref C :: bm, ns := N, qualname := q, hasDict := true, slotNames := sn, subclasses := sub, abstract := ab, collection := col, hasDel := false } := by unfold PySem.W.clsIn; rw [hC] <;> rfl
  obtain ⟨t1, ho⟩ := exo_at I.hok e
  obtain ⟨hp, g, d, t, os⟩ := s
  refine PySem.W.set_plain I.kIn (ox := { cls := .ref C, dict := none, data := .fields #[.ref t1, .none, .none, .none, .bool false, .none] }) (od := none) ⟨ho, rfl, rfl, trivial⟩ T.sa ?_
  refine xb_set F I.kIn ho hcl (show ownT tl (.ref C :: bm) = true from hbm) rfl hno (fun h' tk' dx k dn dne hx hn => ?_)
  have hnd : H dx = none := I.hok.fresh dn
  have nd : ∀ {b : Addr} {o : Obj}, hp.get? b = some o → b ≠ dx := fun {b o} q => Nat.ne_of_lt (Nat.lt_of_lt_of_le (Heap.lt_size q) dn)
  have na : ∀ {b : Addr}, H b = none → b ≠ a := fun {b} n z => by
    rw [z, e] at n
    cases n
  have U : Un X.fs [] H (upd (upd H dx (exd dx [(f, y)])) a (exo a C (some dx))) hp h' := {
    keep := fun b o q n _ _ => k b o (na n) q
    slot := fun b o q n _ _ => ⟨o.slots, k b o (na n) q⟩
    free := fun b o q n _ => by rw [upd_ne (na n), upd_ne (nd q)]; exact n
    there := fun b o q _ => by
      by_cases hb : b = a
      · exact ⟨_, by rw [hb]; exact hx⟩
      · exact ⟨o, k b o hb q⟩
    tups := fun b xs q => by rw [upd_ne (at_ne e q exo_tup), upd_ne (ne_of_none q hnd)]; exact q
    frzs := fun b o v q => by rw [upd_ne (at_ne e q exo_frz), upd_ne (ne_of_none q hnd)]; exact q
    tbls := fun b ps q => ⟨#[], by rw [upd_ne (at_ne e q exo_tbl), upd_ne (ne_of_none q hnd), q]; simp⟩ }
  refine h dx _ hnd dne (I.un (t' := tk') U fun b o q => ?_)
  by_cases hb : b = a
  · subst hb
    rw [upd_same] at q
    cases q
    exact exo_ok hx
  · rw [upd_ne hb] at q
    by_cases hd : b = dx
    · subst hd
      rw [upd_same] at q
      cases q
      exact exd_ok hn (relO_put (fs := []) ry fun g => True.intro)
    · rw [upd_ne hd] at q
      exact (I.hok b o q).stay (fun c v hc z => k c v (by
          rcases hc with hc | hc
          · rw [hc]
            exact hb
          · exact at_ne e hc exo_own) z)
        (fun c hc => by rw [upd_ne (at_ne e hc exo_own), upd_ne (ne_of_none hc hnd)]; exact hc) (fun c xs hc => by rw [upd_ne (at_ne e hc exo_tup), upd_ne (ne_of_none hc hnd)]; exact hc)
theorem psT_ost {o e : Expr} {to te : TE} {p' pos : Pos} (F : XB B BN nid iid tl) (ho : PE X o to) (he : PE X e te) (hs : swapsWith e (some (.Attribute o f p')) pos.line X.env = pure false := by rfl) : PS X (.Assign [.Attribute o f p'] e pos) (tOstT nid tl X.K f to te) := by
  refine ⟨fun pins s σ H D I h => ?_⟩
  refine plainObj_wpAny_Assign_Attribute (thn (he.run pins s σ H _ I h) fun v s1 ⟨y, H1, I1, r1, q1⟩ => thn (ho.run pins s1 σ H1 _ I1 q1) fun u s2 ⟨x, H2, I2, r2, a, C, ex, T, hno, ea, q⟩ => ?_) hs
  subst ex
  obtain rfl : u = Value.ref a := r2
  exact ostT_new F T I2 ea hno r1 fun dx s' n ne J => ⟨σ, _, J, q dx n ne⟩
theorem initT_bw {us : List Value} {Q : Value → Shared → Prop} (F : XB B BN nid iid tl) (T : OexT nid tl X.K C) (I : Inv X pins σ H s) (e : H a = some (exo a C none)) (hb : s.heap.get? b = some (PySem.W.kxs_mw iid a)) (hl : us.length ≤ sizeLine)
    (h : ∀ s', Inv X pins σ H s' → Q .none s') : wpAny (model X.prog X.w) A (call (.ref b) us) Q E s := by
  obtain ⟨nm, q, N, bs, bm, sn, sub, ab, col, dd, k0, k1, k2, k3, k5, hC, hbm⟩ := T.cls
  obtain ⟨t1, ho⟩ := exo_at I.hok e
  have hC' := I.kIn _ _ hC
  obtain ⟨hh, g, d, tk, os⟩ := s
  have fin : ∀ h', (∀ b o, b ≠ a → hh.get? b = some o → h'.get? b = some o) → h'.get? a = some ({ cls := .ref C, dict := none, data := .fields #[.ref hh.objs.size, .none, .none, .none, .bool false, .none] } : Obj) → Q .none ⟨h', g, d, tk, os⟩ := fun h' k hx => by
    have J := I.write (t' := tk) (x := a) (e := a) (o := exo a C none) (by rw [e]; exact True.intro) (.inl rfl) k ⟨_, hx⟩ (exo_ok hx)
    have eu : upd H a (exo a C none) = H := by
      funext b
      by_cases hb : b = a
      · rw [hb, upd_same, e]
      · rw [upd_ne hb]
    rw [eu] at J
    exact h _ J
  refine wpAny_call (codeAny_of_tree ?_)
  show wpAny _ A.in1 (callAny (.ref b) ⟨us, []⟩) _ _ _
  simp only [callAny]
  refine wpAny_bind (wpAny_load hb ?_)
  simp only [PySem.W.kxs_mw, show (Value.type "method-wrapper" == Value.type "method" || Value.type "method-wrapper" == Value.type "builtin_function_or_method" || Value.type "method-wrapper" == Value.type "method-wrapper") = true by decide, if_true]
  refine PySem.W.KFB.if_so (by decide) ?_
  refine wpAny_bind (xb_checkInit F hbm hC' ho rfl ?_)
  refine wpAny_bind (wpAny_pure (wpAny_pure ?_))
  refine ⟨plainId_quiet F.init.plain _, codeAny_builtin F.initEntry ?_⟩
  exact PySem.W.exc_init_tree (cls := .ref C) (t0 := t1) (dv := none) (c2 := .none) (c3 := .none) (b4 := .bool false) ho hl fun h' k hx _ => fin h' k hx
end
section
variable {B BN nid iid : String} {tl : List Value} {X : Cx} {body : List Stmt} {f D : Addr} {slf : Str} {i j : Nat} {e : Expr} {es : List Expr} {ta : TA} {p0 p1 apos cpos spos : Pos}
theorem pst_superT (F : XB B BN nid iid tl) (S : SupD X f D slf) (hks : Gl X "super") (hm : X.mg "super" = none) (hkc : X.env.kindOf "__class__" = some .free) (hNc : X.N[j]? = some "__class__") (hvc : Vis X.env.scope "__class__")
    (hNs : X.N[i]? = some slf) (hvs : Vis X.env.scope slf) (hcs : (slf == ("__classdict__" : Str)) = false) (ha : PA X (e :: es) ta) (hi : interactive X.env = false)
    (hst : starEach (e :: es) X.env = (false, eval e X.env) :: starEach es X.env := by rfl) (hpl : (backTo cpos (starEach es X.env)).any (·.1) = false := by rfl)
    (hsw : swapsWith (.Call (.Attribute (.Call (.Name "super" p0) [] [] p1) "__init__" apos) (e :: es) [] cpos) none spos.line X.env = pure false := by rfl)
    (ht : eval (.Call (.Attribute (.Call (.Name "super" p0) [] [] p1) "__init__" apos) (e :: es) [] cpos) X.env = (do
      let ov ← attributeBase (.Call (.Name "super" p0) [] [] p1) "__init__" X.env (eval (.Call (.Name "super" p0) [] [] p1) X.env)
      standAt apos.atName
      let (f, first) ← holding [ov] (getMethod ov "__init__" (pure false))
      callWith cpos f first (backTo cpos (starEach (e :: es) X.env)) []) := by rfl) :
    PST X body (.Expr (.Call (.Attribute (.Call (.Name "super" p0) [] [] p1) "__init__" apos) (e :: es) [] cpos) spos) (tSupT B nid iid tl X j i D ta) := by
  refine ⟨fun pins s σ H Dn I ⟨hD, a, hxs, hH, T, SX, hta⟩ => ?_⟩
  obtain ⟨t1, hoa⟩ := exo_at I.hok hH
  have J : PySem.W.InstAt s.heap a { cls := .ref D, dict := none, data := .fields #[.ref t1, .none, .none, .none, .bool false, .none] } D none := ⟨hoa, rfl, rfl, trivial⟩
  obtain ⟨of, fd, ar, hf1, hf2, hf3, hf4⟩ := S.at_
  obtain ⟨cc, oc, vs, file, tf, hc1, hc2, hc3, hc4, hc5⟩ := S.code
  obtain ⟨cdD, hcD⟩ := SX.cd
  have KX := I.kIn
  refine ks_wpAt_Expr_any (ks_wpAt_MethodCall (args := e :: es) (pl := pure false) ?_ ht) hi hsw
  refine ks_wpAt_super_base hks hkc rfl S.fn (KX _ _ hf1) hf2 hf3 hc1 (KX _ _ hc2) hc3 hc4 hc5 S.top ?_
  refine load_blt I hks hm boot_super (by decide +kernel) ⟨rfl, ?_⟩
  refine load_slot I hNc hD hvc (by decide) fun u ru => ?_
  obtain rfl : u = Value.ref D := ru
  rw [hf4]
  refine load_slot I hNs hxs hvs hcs fun u2 ru2 => ?_
  obtain rfl : u2 = Value.ref a := ru2
  obtain ⟨hD1o, hD1, hD2⟩ : ∃ oD, s.heap.get? D = some oD ∧ oD.data = .cls cdD := by
    unfold PySem.W.clsIn at hcD
    split at hcD
    · rename_i c' d' cd' sl' ho
      cases hcD
      exact ⟨_, KX _ _ ho, rfl⟩
    · cases hcD
  have hxC : a ≠ D := PySem.W.ks_ne KX J hcD
  obtain ⟨hh, gg, dd, tt, os⟩ := s
  refine PySem.ks_wpAny_isType_cls hD1 hD2 ⟨rfl, ?_⟩
  refine PySem.ks_wpAny_call_super hD1 hD2 J.at_ J.cls (fun c' e' => ?_) (PySem.W.looks_mroIn KX SX.mro) (fun h' eq kp => ?_)
  · cases e'
  have I2 : Inv X pins σ H ⟨h', gg, dd, tt, os⟩ := Inv.kept (s := ⟨hh, gg, dd, tt, os⟩) (t' := tt) I kp
  have KX2 := I2.kIn
  have hsup := SX.sup
  unfold PySem.W.ks_superIn at hsup
  rw [hcD] at hsup
  have hmr : PySem.W.Looks (model X.prog X.w) h' (mroOf (.ref D)) cdD.mro := fun A Q E s k q => wpAny_bind ((PySem.W.looks_clsIn KX2 hcD) A _ E s k (wpAny_pure q))
  have J2 : PySem.W.InstAt h' a { cls := .ref D, dict := none, data := .fields #[.ref t1, .none, .none, .none, .bool false, .none] } D none := ⟨kp _ _ hoa, rfl, rfl, trivial⟩
  have hI : PySem.W.Looks (model X.prog X.w) h' (isInstance (.ref a) (.type B)) true := J2.type.andThen (PySem.W.looks_subIn KX2 SX.sub)
  refine PySem.W.kxs_getMethod F.kxs eq (PySem.W.looks_opaque KX2 S.any) hmr rfl KX2 hsup hI hxC rfl ?_
  have I3 : Inv X ((h'.objs.size, PySem.W.kxs_mw iid a) :: pins) σ H ⟨h'.push (PySem.W.kxs_mw iid a), gg, dd, tt + 1, os⟩ :=
    ClX.pin_new I2 (fun _ _ z => Heap.get?_push_of_some _ z) (Nat.le_refl _) (Heap.get?_push_size h' rfl) (fun v z => nomatch z)
  generalize h'.objs.size = b at I3 ⊢
  refine thn (Q := EP X pins σ fun _ H' => Dn.nx σ H') ?_ fun v s' ⟨z, H', I', _, q⟩ => ⟨σ, H', I', q⟩
  show wpAny _ _ (callWith cpos (.ref b) [] (backTo cpos (starEach (e :: es) X.env)) []) _ _ _
  have run := ha.run cpos _ _ σ H _ I3 hta
  rw [hst] at run ⊢
  refine PySem.W.kxs_callWith (i := iid) (x := a) (by show (false || (backTo cpos (starEach es X.env)).any (·.1)) = false; rw [hpl]; rfl)
    (Calls.evalArgs_plain (thn run fun us s4 ⟨vs, H4, I4, r4, hl4, ea4, q4⟩ => ?_))
  have hb4 : s4.heap.get? b = some (PySem.W.kxs_mw iid a) := ClX.pin_at I4
  refine ⟨hb4, ?_⟩
  have I5 : Inv X pins σ H4 s4 := ClX.unpin I4
  refine initT_bw F T I5 ea4 hb4 (by show us.length ≤ sizeLine; rw [← r4.length, sizeLine_eq]; omega) fun s5 I6 => ⟨.non, H4, I6, rfl, q4⟩
end
def tIniT (B nid iid : String) (tl : List Value) (X : Cx) (D : Addr) (m fld : Str) : TS := fun Dn σ H => tSupT B nid iid tl X 2 0 D (tCons (tC (.str m)) tNil) { Dn with nx := fun σ' H' => tOstT nid tl X.K fld (tVar 0) (tVar 1) Dn σ' H' } σ H
section
variable {B BN nid iid : String} {tl : List Value} {P : Program} {w : World} {K : PySem.W.Frag} {mg : Str → Option Value} {base : Heap} {x qual m fld par : Str} {params : Arguments} {body : List Stmt} {scope : Scope} {dvs : List V} {kws : List (Str × V)} {f cc D c : Addr} {fd : FuncData} {file : Str} {N : List Str} {k : Nat}
theorem exFnT (F : FunS K x qual params body scope dvs kws f fd cc D c file) (S : NScope ["self", par, "__class__"] ["self", par] ["__class__"] scope) (T : OexT nid tl K D) (hno : PySem.W.findIn K (.ref D) fld = some none)
    (SX : ∀ (A : Around) (outer : List Env) (s : Shared) (H : Hp) (E : XK), SupT B iid (ncx (L2.CX P w) P w K mg base ["self", par, "__class__"] (nfS x qual params body scope cc c) f A outer s H E) D)
    (hb : ∀ (A : Around) (outer : List Env) (s : Shared) (H : Hp) (E : XK), PSsT (ncx (L2.CX P w) P w K mg base ["self", par, "__class__"] (nfS x qual params body scope cc c) f A outer s H E) body body
      (tIniT B nid iid tl (ncx (L2.CX P w) P w K mg base ["self", par, "__class__"] (nfS x qual params body scope cc c) f A outer s H E) D m fld)) : FnOk P w K mg base (L2.CX P w) (k + 1) f fd ["self", par] (spI D fld) :=
  F.ok S (fun vs H Q E ⟨a, y, e, _⟩ => by rw [e] <;> rfl) fun A outer s H vs Q E hr ⟨a, y, e, h1, h2⟩ => by
    subst e
    refine ⟨_, hb A outer s H E, rfl, a, rfl, h1, T, SX A outer s H E, ?_⟩
    refine ⟨by simp, h1, ?_⟩
    exact ⟨y, rfl, .ref a, rfl, a, D, rfl, T, hno, h1, fun dx n ne => h2 dx n ne⟩
end
section
variable {B BN nid iid : String} {tl : List Value} {G : Gx} {W : WX} {X : Cx} {e : Expr} {me : ME} {c k : Nat} {C fI : Addr} {fd : FuncData} {ps : List Str} {fld : S} {x : Str} {p pos pos' : Pos}
end
def oexTB (nid : String) (tl : List Value) (K : PySem.W.Frag) (C : Addr) : Bool := match K.lookup C with
  | some ⟨.type "type", _, .cls cd, sl⟩ => (match cd.mro, sl.toList with
    | .ref C' :: bm, [_, _, _, _, some (.builtin n), _] => (C' == C && n == nid && !cd.hasDel) && (cd.hasDict && ownT tl bm)
    | _, _ => false)
  | _ => false
theorem oexTB_ok {nid : String} {tl : List Value} {K : PySem.W.Frag} {C : Addr} (q : oexTB nid tl K C = true) : ∃ nm qn N bs bm sn sub ab col dd k0 k1 k2 k3 k5, K.lookup C = some (excClassObj nm qn C N bs bm true sn sub ab col dd k0 k1 k2 k3 k5 nid) ∧ ownT tl bm = true := by
  unfold oexTB at q
  split at q
  · rename_i dd cd sl ho
    split at q
    · rename_i C' bm k0 k1 k2 k3 n k5 hm hs
      simp only [Bool.and_eq_true, beq_iff_eq, Bool.not_eq_true'] at q
      obtain ⟨⟨⟨rfl, rfl⟩, hdel⟩, hdi, hr⟩ := q
      obtain ⟨nm, bs, mro, ns, qn, hd, sn, sub, ab, col, del⟩ := cd
      dsimp only at hm hdel hdi
      subst hm hdel hdi
      have hsl : sl = #[k0, k1, k2, k3, some (.builtin n), k5] := by
        obtain ⟨l⟩ := sl
        simp only at hs
        rw [hs]
      subst hsl
      exact ⟨nm, qn, ns, bs, bm, sn, sub, ab, col, dd, k0, k1, k2, k3, k5, ho, hr⟩
    · cases q
  · cases q
def excTB (nid : String) (tl : List Value) (K : PySem.W.Frag) (x : Str) : Bool := oexTB nid tl K (ga K x) && (eqO (PySem.W.findIn K (.ref (ga K x)) "__setattr__") (some (some (.builtin "object.__setattr__"))) && (decide (PySem.W.subIn K (.ref (ga K x)) (.type "BaseException") = some true) &&
  (decide (PySem.W.typeIn K (.ref (ga K x)) = some (.type "type")) && PySem.W.keepIn K (.ref (ga K x)))))
theorem excTB_ok {nid : String} {tl : List Value} {K : PySem.W.Frag} {x : Str} (h : excTB nid tl K x = true) : OexT nid tl K (ga K x) := by
  obtain ⟨h1, h⟩ := ba h
  obtain ⟨h2, h⟩ := ba h
  obtain ⟨h3, h⟩ := ba h
  obtain ⟨h4, h5⟩ := ba h
  exact ⟨oexTB_ok h1, eqO_ok h2, of_decide_eq_true h3, of_decide_eq_true h4, h5⟩
def exiTB (B iid : String) (K : PySem.W.Frag) (x fld : Str) (d : Defn) : Bool := eqO (PySem.W.findIn K (.ref (ga K x)) "__init__") (some (some (.ref (d K)))) && (decide (PySem.W.typeIn K (.ref (d K)) = some (.type "function")) && (eqO (PySem.W.findIn K (.ref (ga K x)) fld) (some none) &&
  ((PySem.W.clsIn K (ga K x)).isSome && (decide (PySem.W.mroIn K (ga K x) (.ref (ga K x)) = some true) && (eqO (PySem.W.ks_superIn K (ga K x) (ga K x) "__init__") (some (some (.builtin iid))) &&
  (decide (PySem.W.subIn K (.ref (ga K x)) (.type B) = some true) && eqO (PySem.W.nsIn K cStatics "thirdparty.any") (some none)))))))
structure ExiT (B iid : String) (K : PySem.W.Frag) (x fld : Str) (d : Defn) : Prop where
  ini : PySem.W.findIn K (.ref (ga K x)) "__init__" = some (some (.ref (d K)))
  ty : PySem.W.typeIn K (.ref (d K)) = some (.type "function")
  no : PySem.W.findIn K (.ref (ga K x)) fld = some none
  cd : ∃ cd, PySem.W.clsIn K (ga K x) = some cd
  mro : PySem.W.mroIn K (ga K x) (.ref (ga K x)) = some true
  sup : PySem.W.ks_superIn K (ga K x) (ga K x) "__init__" = some (some (.builtin iid))
  sub : PySem.W.subIn K (.ref (ga K x)) (.type B) = some true
  any : PySem.W.nsIn K cStatics "thirdparty.any" = some none
theorem exiTB_ok {B iid : String} {K : PySem.W.Frag} {x fld : Str} {d : Defn} (h : exiTB B iid K x fld d = true) : ExiT B iid K x fld d := by
  obtain ⟨h1, h⟩ := ba h
  obtain ⟨h2, h⟩ := ba h
  obtain ⟨h3, h⟩ := ba h
  obtain ⟨h4, h⟩ := ba h
  obtain ⟨h5, h⟩ := ba h
  obtain ⟨h6, h⟩ := ba h
  obtain ⟨h7, h8⟩ := ba h
  exact ⟨eqO_ok h1, of_decide_eq_true h2, eqO_ok h3, Option.isSome_iff_exists.mp h4, of_decide_eq_true h5, eqO_ok h6, of_decide_eq_true h7, eqO_ok h8⟩
theorem ExiT.supX {B iid : String} {X : Cx} {x fld : Str} {d : Defn} (e : ExiT B iid X.K x fld d) : SupT B iid X (ga X.K x) := ⟨e.cd, e.mro, e.sup, e.sub⟩
theorem ex_bodyT {B BN nid iid : String} {tl : List Value} {X : Cx} {body : List Stmt} {f D : Addr} {par fld m : Str} {j1 : Nat} {p0 p1 p2 apos cpos spos q0 q1 q2 q3 : Pos} (Z : XB B BN nid iid tl) (S : SupD X f D "self") (hks : Gl X "super") (hm : X.mg "super" = none) (hkc : X.env.kindOf "__class__" = some .free) (hNc : X.N[2]? = some ("__class__" : Str)) (hvc : Vis X.env.scope "__class__")
    (hNs : X.N[0]? = some ("self" : Str)) (hvs : Vis X.env.scope "self") (hNp : X.N[1]? = some par) (hvp : Vis X.env.scope par) (hi : interactive X.env = false)
    (hst : starEach [.Constant (.str m) j1 p2] X.env = (false, eval (.Constant (.str m) j1 p2) X.env) :: starEach [] X.env) (hpl : (backTo cpos (starEach [] X.env)).any (·.1) = false)
    (hsw : swapsWith (.Call (.Attribute (.Call (.Name "super" p0) [] [] p1) "__init__" apos) [.Constant (.str m) j1 p2] [] cpos) none spos.line X.env = pure false)
    (ht : eval (.Call (.Attribute (.Call (.Name "super" p0) [] [] p1) "__init__" apos) [.Constant (.str m) j1 p2] [] cpos) X.env = (do
      let ov ← attributeBase (.Call (.Name "super" p0) [] [] p1) "__init__" X.env (eval (.Call (.Name "super" p0) [] [] p1) X.env)
      standAt apos.atName
      let (f, first) ← holding [ov] (getMethod ov "__init__" (pure false))
      callWith cpos f first (backTo cpos (starEach [.Constant (.str m) j1 p2] X.env)) []))
    (hs2 : swapsWith (.Name par q1) (some (.Attribute (.Name "self" q0) fld q2)) q3.line X.env = pure false) (hd : (par == ("__debug__" : Str)) = false) (hcd : (par == ("__classdict__" : Str)) = false) :
    PSsT X body [.Expr (.Call (.Attribute (.Call (.Name "super" p0) [] [] p1) "__init__" apos) [.Constant (.str m) j1 p2] [] cpos) spos, .Assign [.Attribute (.Name "self" q0) fld q2] (.Name par q1) q3] (tIniT B nid iid tl X D m fld) :=
  psst_cons (t1 := tSupT B nid iid tl X 2 0 D (tCons (tC (.str m)) tNil)) (t2 := tOstT nid tl X.K fld (tVar 0) (tVar 1)) (pst_superT Z (j := 2) (i := 0) (slf := "self") S hks hm hkc hNc hvc hNs hvs (by decide) (pa_cons pe_str pa_nil hst) hi hst hpl hsw ht) (pss_one (psT_ost Z (pe_var (i := 0) hNs hvs) (pe_var (i := 1) hNp hvp hd hcd) hs2))
theorem boot_KeyError : bootBuiltins "KeyError" = some (.type "KeyError") := by decide +kernel
end ML
end
section
namespace ML
open PySem L2 NdefX
open Builtin Builtin.ObjectAttr
open PyProof.Rows hiding wpAt
abbrev oeTail : List Value := [.type "OverflowError", .type "ArithmeticError", .type "Exception", .type "BaseException", .type "object"]
theorem xb_OverflowError : XB "OverflowError" "OverflowError" "OverflowError.__new__" "OverflowError.__init__" oeTail where
  ends := by decide +kernel
  owner := by decide +kernel
  entry := entryFor_alias (id' := "BaseException.__new__") (by rw [fastTable_eq_tree]; kernel_rfl) (by first | rfl | decide +kernel) (by decide +kernel) (by rw [fastTable_eq_tree]; kernel_rfl)
  quiet := by decide +kernel
  newSplit := by kernel_rfl
  newKind := by kernel_rfl
  newRow := by kernel_rfl
  canon := by decide +kernel
  init := .of (owner := "OverflowError") (n := "__init__") (by rw [typeLookup_type, builtinLookup_eq_fast]; kernel_rfl) (by decide +kernel) (by decide +kernel) (by decide +kernel)
    (by first | exact .inl (by decide +kernel) | exact .inr (by decide +kernel)) (by rw [isSubtype_type]; kernel_rfl)
  initEntry := entryFor_alias (id' := "BaseException.__init__") (by rw [fastTable_eq_tree]; kernel_rfl) (by first | rfl | decide +kernel) (by decide +kernel) (by rw [fastTable_eq_tree]; kernel_rfl)
  initKind := by kernel_rfl
  initRow := by kernel_rfl
  noStar := by decide +kernel
  noStarN := by decide +kernel
  hasB := by decide +kernel
  hasBN := by decide +kernel
  noAttr := by decide +kernel
  noName := by decide +kernel
  obj := by decide +kernel
  ne := rfl
  passes := fun self => by kernel_rfl
  kxs := ⟨by show builtinType _ = _; rw [builtinType_eq_fast]; kernel_rfl, by first | kernel_rfl | rfl⟩
end ML
end
section
namespace ML
open PySem PySem.Spec L2 NdefX He
open Builtin Builtin.ObjectAttr
open PyProof.Rows hiding wpAt
section
variable {prog : Program} {w : World} {A : Around} {E : Value → Shared → Prop} {R : Result → Shared → Prop} {h : Heap} {g : Array GenState} {d : Drawn} {t : Nat} {os : OsState}
variable {nm q : Str} {C N : Addr} {bs bm tl : List Value} {hdct : Bool} {sn : List Str} {sub : List Value} {ab : Bool} {col : Option Bool} {dd : Option Addr} {k0 k1 k2 k3 k5 : Option Value} {B BN nid iid : String}
theorem xb_checkNewK {M : Model} (F : XB B BN nid iid tl) (hT : ownT tl bm = true) {rest : List Value} {n : Str} {v : Value} {Q : Unit → Shared → Prop}
    (hC : h.get? C = some (excClassObj nm q C N bs bm hdct sn sub ab col dd k0 k1 k2 k3 k5 nid)) (hq : Q () ⟨h, g, d, t, os⟩) : wpAny M A (checkBuiltinCall nid ⟨.ref C :: rest, [(n, v)]⟩) Q E ⟨h, g, d, t, os⟩ := by
  have c1 : (Value.ref C :: bm).contains (.type BN) = true := by rw [List.contains_cons, ownT_has BN _ hT, F.hasBN, Bool.or_true]
  have c2 := F.noStarN
  simp only [checkBuiltinCall, F.newKind, F.newSplit, F.newRow]
  repeat (first | refine wpAny_loadPart_at hC ?_ | (refine wpAny_isSubtype_exc hC ?_; rw [c1]) | refine wpAny_staticBase_exc hC ?_ | refine wpAny_madeBy_exc hC ?_ | simp only [bne_self_eq_false, Bool.false_eq_true, if_false] | wp_step)
  exact hq
theorem xb_newK (F : XB B BN nid iid tl) (hT : ownT tl bm = true) {rest : List Value} {n : Str} {v : Value}
    (hC : h.get? C = some (excClassObj nm q C N bs bm hdct sn sub ab col dd k0 k1 k2 k3 k5 nid))
    (hq : R (.ok (.ret (.ref (h.objs.size + 1)))) ⟨(h.push (PySem.W.kdv_tup rest)).push (PySem.HandSPX.excO C h.objs.size), g, d, t, os⟩) (hrest : rest.length ≤ sizeLine) :
    codeAny (model prog w) A (.builtin nid ⟨.ref C :: rest, [(n, v)]⟩) R ⟨h, g, d, t, os⟩ := by
  have c0 := F.ends
  have c1 : (Value.ref C :: bm).contains (.type BN) = true := by rw [List.contains_cons, ownT_has BN _ hT, F.hasBN, Bool.or_true]
  have c2 : (Value.ref C :: bm).contains (.type "AttributeError") = false := by rw [List.contains_cons, ownT_has _ _ hT, F.noAttr]; rfl
  have c3 : (Value.ref C :: bm).contains (.type "NameError") = false := by rw [List.contains_cons, ownT_has _ _ hT, F.noName]; rfl
  refine codeAny_builtinAt F.entry ?_
  unfold Builtin.«BaseException.__new__»
  refine PySem.wpAt_bind ?_
  show PySem.wpAt _ _ _ (stack >>= _) _ _ _
  refine PySem.wpAt_bind (PySem.wpAt_stack fun p below => PySem.wpAt_of_wpAny ?_)
  wp_walk
  refine PySem.wpAt_of_wpAny ?_
  rw [F.owner]
  repeat (first | with_reducible refine wpAny_madeHere_exc F.canon hC ?_ | with_reducible refine wpAny_loadPart_at hC ?_ | (with_reducible refine wpAny_isSubtype_exc hC ?_; first | rw [c1] | rw [c2] | rw [c3]) | wp_step)
  show R _ _
  rw [Heap.size_push]
  exact hq
theorem xb_typeCallK (F : XB B BN nid iid tl) (hT : ownT tl bm = true) {rest : List Value} {n : Str} {v : Value} {fI : Addr} {Q : Fin → Shared → Prop}
    (hC : h.get? C = some (excClassObj nm q C N bs bm hdct sn sub ab col dd k0 k1 k2 k3 k5 nid))
    (hi : PySem.W.Looks (model prog w) h (typeLookup (.ref C) "__init__") (some (.ref fI))) (hb : ∀ self, PySem.W.Looks (model prog w) h (bindSpecial (.ref fI) self) (.ref fI, [self])) (hrest : rest.length ≤ sizeLine)
    (hq : codeAny (model prog w) A (.call (.ref fI) ⟨.ref (h.objs.size + 1) :: rest, [(n, v)]⟩)
      (fun r s' => match r with | .ok (.ret v) => v = .none ∧ Q (.done (.ret (.ref (h.objs.size + 1)))) s' | .ok _ => False | .error e => E e s')
      ⟨(h.push (PySem.W.kdv_tup rest)).push (PySem.HandSPX.excO C h.objs.size), g, d, t, os⟩) :
    wpAny (model prog w) A (Builtin.«type.__call__» ⟨.ref C :: rest, [(n, v)]⟩) Q E ⟨h, g, d, t, os⟩ := by
  repeat (first | with_reducible refine wpAny_loadPart_at hC ?_ | with_reducible refine wpAny_madeBy_exc hC ?_ | wp_step)
  refine codeAny_call_builtin_code (Code.quiet_builtin _ F.quiet) (xb_checkNewK F hT hC ?_)
  refine xb_newK F hT hC ?_ hrest
  show wpAny _ _ _ _ _ _
  have k : ∀ b o, h.get? b = some o → ((h.push (PySem.W.kdv_tup rest)).push (PySem.HandSPX.excO C h.objs.size)).get? b = some o := fun b o e => Heap.get?_push_of_some _ (Heap.get?_push_of_some _ e)
  have hC1 := k _ _ hC
  have hnew : ((h.push (PySem.W.kdv_tup rest)).push (PySem.HandSPX.excO C h.objs.size)).get? (h.objs.size + 1) = some (PySem.HandSPX.excO C h.objs.size) := by heap_get
  have c1 : (Value.ref C :: bm).contains (.ref C) = true := by simp
  have i1 := hi.keeps k
  have b1 := (hb (.ref (h.objs.size + 1))).keeps k
  unfold isInstance
  repeat (first | with_reducible refine wpAny_loadPart_at hnew ?_ | (with_reducible refine wpAny_isSubtype_exc hC1 ?_; rw [c1]) | wp_step)
  show wpAny _ _ (typeLookup (.ref C) _) _ _ _
  refine i1.at ?_
  refine wpAny_holding (wpAny_bind (b1.at ?_))
  refine wpAny_bind (wpAny_call (codeAny_mono hq fun r s' z => ?_))
  rcases r with e | (v | _ | _ | _) <;> first | exact z | exact z.elim | skip
  obtain ⟨rfl, z⟩ := z
  first
    | exact wpAny_pure (wpAny_pure z)
    | (wp_walk; exact z)
theorem xb_callK (F : XB B BN nid iid tl) (hT : ownT tl bm = true) {rest : List Value} {n : Str} {v : Value} {fI : Addr}
    (hC : h.get? C = some (excClassObj nm q C N bs bm hdct sn sub ab col dd k0 k1 k2 k3 k5 nid))
    (hi : PySem.W.Looks (model prog w) h (typeLookup (.ref C) "__init__") (some (.ref fI))) (hb : ∀ self, PySem.W.Looks (model prog w) h (bindSpecial (.ref fI) self) (.ref fI, [self])) (hrest : rest.length ≤ sizeLine)
    (hq : codeAny (model prog w) (A.under (.builtin "type.__call__" ⟨.ref C :: rest, [(n, v)]⟩)) (.call (.ref fI) ⟨.ref (h.objs.size + 1) :: rest, [(n, v)]⟩) (PySem.W.InitBack (h.objs.size + 1) R)
      ⟨(h.push (PySem.W.kdv_tup rest)).push (PySem.HandSPX.excO C h.objs.size), g, d, t, os⟩) :
    codeAny (model prog w) A (.call (.ref C) ⟨rest, [(n, v)]⟩) R ⟨h, g, d, t, os⟩ := by
  have f1 := tc_lookup
  have f2 := tc_bind (.ref C)
  have hTy : (⟨h, g, d, t, os⟩ : Shared).TypeIs (.ref C) "type" := ⟨_, hC, rfl⟩
  refine codeAny_of_tree ?_
  show wpAny _ _ (callAny (.ref C) _) _ _ _
  repeat (any_goals (first | assumption | with_reducible refine wpAny_loadPart_at hC ?_ | wp_step))
  refine ⟨rfl, ?_⟩
  refine codeAny_call_builtin_at (Code.quiet_builtin _ (by decide +kernel)) entry_typeCall (PySem.HandSPX.wpAny_check_type_call_subK hC (xb_typeCallK F hT hC hi hb hrest ?_))
  refine codeAny_mono hq fun r s' z => ?_
  rcases r with e | (v | _ | _ | _) <;> exact z
end
section
variable {z : Bool} {X : Cx} {C fI : Addr} {k : Nat} {fd : FuncData} {ps : List Str} {f : Str} {pins : List (Addr × Obj)} {s : Shared} {σ : L2.St} {H : Hp} {y : V} {u : Value} {Q : VK} {B BN nid iid : String} {tl : List Value}
theorem exvT_pos (F : XB B BN nid iid tl) (T : OexT nid tl X.K C) (iC : PySem.W.findIn X.K (.ref C) "__init__" = some (some (.ref fI))) (tI : PySem.W.typeIn X.K (.ref fI) = some (.type "function"))
    (F1 : FnOk X.prog X.w X.K X.mg X.base (CX z X.prog X.w) k fI fd ps (spI C f)) (hr : Room (k + 1) X.A) (hl2 : ps.length = 2) (hb : Binds X.K fd ps []) (I : Inv X pins σ H s) (r : RelV y u) (h : rExV C f y H Q) :
    wpAny (model X.prog X.w) X.A (call (.ref C) [u]) (EP X pins σ Q) X.xe s := by
  obtain ⟨nm, q, N, bs, bm, sn, sub, ab, col, dd, k0, k1, k2, k3, k5, hC, hbm⟩ := T.cls
  obtain ⟨hp, g, dr, tk, os⟩ := s
  have hsz : hp.objs.size ≤ hp.objs.size + 1 := Nat.le_succ _
  have hn : H (hp.objs.size + 1) = none := I.hok.fresh hsz
  have kk : ∀ b o, hp.get? b = some o → ((hp.push (PySem.W.kdv_tup [u])).push (PySem.HandSPX.excO C hp.objs.size)).get? b = some o := fun b o e => Heap.get?_push_of_some _ (Heap.get?_push_of_some _ e)
  have hget : ((hp.push (PySem.W.kdv_tup [u])).push (PySem.HandSPX.excO C hp.objs.size)).get? (hp.objs.size + 1) = some (PySem.HandSPX.excO C hp.objs.size) := by heap_get
  have I2 : Inv X pins σ (upd H (hp.objs.size + 1) (exo (hp.objs.size + 1) C none)) ⟨(hp.push (PySem.W.kdv_tup [u])).push (PySem.HandSPX.excO C hp.objs.size), g, dr, tk, os⟩ :=
    I.laid (t' := tk) (a := hp.objs.size + 1) (o := exo (hp.objs.size + 1) C none) (h' := (hp.push (PySem.W.kdv_tup [u])).push (PySem.HandSPX.excO C hp.objs.size)) kk hsz (exo_ok hget)
  have r2 : Vals [V.ref (hp.objs.size + 1), y] [Value.ref (hp.objs.size + 1), u] := .cons rfl (.cons r .nil)
  have sp : spI C f [V.ref (hp.objs.size + 1), y] (upd H (hp.objs.size + 1) (exo (hp.objs.size + 1) C none)) (fun x H2 => x = .non ∧ ∃ d, H d = none ∧ d ≠ hp.objs.size + 1 ∧ H2 = upd (upd (upd H (hp.objs.size + 1) (exo (hp.objs.size + 1) C none)) d (exd d [(f, y)])) (hp.objs.size + 1) (exo (hp.objs.size + 1) C (some d))) (fun _ _ _ => False) :=
    ⟨_, y, rfl, upd_same, fun dx nd ne => ⟨rfl, dx, by rw [upd_ne ne] at nd; exact nd, ne, rfl⟩⟩
  have b := hb ⟨(hp.push (PySem.W.kdv_tup [u])).push (PySem.HandSPX.excO C hp.objs.size), g, dr, tk, os⟩ [Value.ref (hp.objs.size + 1), u] I2.kIn (by rw [List.append_nil]; exact hl2.symm)
  rw [List.append_nil] at b
  refine wpAny_call (xb_call F hbm (I.kIn _ _ hC) (PySem.W.looks_findIn I.kIn iC) (fun self => PySem.W.bind_fn I.kIn self tI) (by rw [sizeLine_eq, List.length_singleton]; decide)
    (codeAny_mono (F1.run _ X.stack _ _ ⟨[Value.ref (hp.objs.size + 1), u], []⟩ [Value.ref (hp.objs.size + 1), u] _ _ (fun _ _ _ => False) (hr.make C [u] []) (I2.env0.make C [u] []) b r2 sp) fun r s' hq' => ?_))
  cases r with
  | error er =>
    obtain ⟨_, _, _, _, _, _, _, _, _, _, _, _, z⟩ := hq'
    exact z.elim
  | ok fl =>
    cases fl with
    | ret v => exact exv_end (R := fun _ _ => True) (hp := hp) (h2 := hp) I2 hn h hq'
    | next => exact False.elim hq'
    | brk => exact False.elim hq'
    | cont => exact False.elim hq'
end
section
variable {z : Bool} {G : Gx} {W : WX} {X : Cx} {ρ : List Addr} {h : Hi} {H : Hp} {σ : L2.St} {k c : Nat} {C fI : Addr} {fd : FuncData} {ps : List Str} {f : S} {v : VI} {y : V} {Q : VK} {B BN nid iid : String} {tl : List Value}
theorem callM_exvT (F : XB B BN nid iid tl) (T : OexT nid tl X.K C) (iC : PySem.W.findIn X.K (.ref C) "__init__" = some (some (.ref fI))) (tI : PySem.W.typeIn X.K (.ref fI) = some (.type "function"))
    (F1 : FnOk X.prog X.w X.K X.mg X.base (CX z X.prog X.w) k fI fd ps (spI C (toStr f))) (hr : Room (k + 1) X.A) (hl2 : ps.length = 2) (hb : Binds X.K fd ps []) (hct : G.ct c = some C) : CallM X G W (.ref C) (cExV c f) := by
  intro pins s σ H us vs args ρ h Q I r ra ag fin
  cases ra with
  | nil => exact fin.elim
  | cons rv rr =>
    cases rr with
    | cons _ _ => exact fin.elim
    | nil =>
      cases r with
      | cons ru rr =>
        cases rr
        exact exvT_pos F T iC tI F1 hr hl2 hb I ru (exv_fin hct ag rv fin)
end
end ML
end
section
namespace ML
open PySem PySem.Spec L2 NdefX He
open PyProof.Rows hiding wpAt
theorem boot_OverflowError : bootBuiltins "OverflowError" = some (.type "OverflowError") := by decide +kernel
theorem FunS.kbindsN {K : PySem.W.Frag} {x qual : Str} {params : Arguments} {body : List Stmt} {scope : Scope} {f cc D c : Addr} {fd : FuncData} {file : Str} {ps : List Str} (F : FunS K x qual params body scope [] [] f fd cc D c file) (n : Nat) (ks : List Str) (g : {α : Type} → List α → List α → List α)
    (hrel : ∀ {vs zs : List V} {us ws : List Value}, Vals vs us → Vals zs ws → Vals (g vs zs) (g us ws))
    (h : ∀ (kV doc pm : Value) (an : Option Addr) (cdv ct : Value) (us ws : List Value), us.length = n → ws.length = ks.length →
      bindArgs (PySem.W.fnX x qual params body scope [("__class__", cc)] .none kV doc pm an cdv ct) ⟨us, ks.zip ws⟩ = pure (ps.zip (g us ws))) :
    KBn K fd ps n ks (fun us ws => g us ws) (fun vs zs => g vs zs) := by
  obtain ⟨oc, od, dV, kV, doc, pm, an, ct, osl, rfl, lk, hD, hK⟩ := F.ex
  rcases hD with ⟨_, rfl⟩ | ⟨e, _⟩
  · exact ⟨fun s us ws X l1 l2 => .of_eq (h kV doc pm an _ ct us ws l1 l2), fun r1 r2 => hrel r1 r2⟩
  · exact absurd rfl e
mutual
theorem RV.back {G : Gx} {ρ q : List Addr} {H : Hp} : ∀ {v : VI} {y y' : V}, RV G ρ H v y → RV G (ρ ++ q) H v y' → RV G ρ H v y'
  | _, _, _, .non, .non => .non
  | _, _, _, .bl b, .bl _ => .bl b
  | _, _, _, .int b, .int _ => .int b
  | _, _, _, .str _, .str e => .str e
  | _, _, _, .glo _, .glo e => .glo e
  | _, _, _, .ref e, .ref e' => .ref (by rw [List.getElem?_append_left (List.getElem?_eq_some_iff.mp e).1] at e'; exact e')
  | _, _, _, .tup _ r, .tup t r' => .tup t (RVs.back r r')
theorem RVs.back {G : Gx} {ρ q : List Addr} {H : Hp} : ∀ {v : List VI} {y y' : List V}, RVs G ρ H v y → RVs G (ρ ++ q) H v y' → RVs G ρ H v y'
  | _, _, _, .nil, .nil => .nil
  | _, _, _, .cons a b, .cons c d => .cons (RV.back a c) (RVs.back b d)
end
section
variable {z : Bool} {G : Gx} {W : WX} {X : Cx} {ρ : List Addr} {h : Hi} {H : Hp} {σ : L2.St} {k c : Nat} {C fI : Addr} {fd : FuncData} {ps : List Str} {f : S} {v : VI} {y : V} {Q : VK} {B BN nid iid : String} {tl : List Value} {arr : List VI → List VI → List VI}
theorem callK_exvB {n : Str} (T : OexC X.K C) (iC : PySem.W.findIn X.K (.ref C) "__init__" = some (some (.ref fI))) (tI : PySem.W.typeIn X.K (.ref fI) = some (.type "function"))
    (F1 : FnOk X.prog X.w X.K X.mg X.base (CX z X.prog X.w) k fI fd ps (spI C (toStr f))) (hr : Room (k + 1) X.A) (hb : Bnd G X.K fd ps 1 [n] arr) (ha : ∀ a b, arr [a] [b] = [a, b]) (hct : G.ct c = some C) : CallK X G W (.ref C) 0 [n] (kExV c f) := by
  intro pins s σ H us ws vs zs args zargs ρ h Q I r rz ra rza ag l1 l2 fin
  cases ra with
  | cons _ _ => exact absurd l1 (by simp)
  | nil =>
    cases r
    cases rza with
    | nil => exact fin.elim
    | cons rv rr =>
      cases rr with
      | cons _ _ => exact fin.elim
      | nil =>
        cases rz with
        | cons ru rr =>
          cases rr
          rename_i v0 y0 u0
          obtain ⟨nm, q, N, bs, bm, sn, sub, ab, col, dd, k0, k1, k2, k3, k5, hC, hbm⟩ := T.cls
          obtain ⟨gu, gV, kb, hrel⟩ := hb.ex
          obtain ⟨hp, g, dr, tk, os⟩ := s
          have hsz : hp.objs.size ≤ hp.objs.size + 1 := Nat.le_succ _
          have hn : H (hp.objs.size + 1) = none := I.hok.fresh hsz
          have kk : ∀ b o, hp.get? b = some o → ((hp.push (PySem.W.kdv_tup [])).push (PySem.HandSPX.excO C hp.objs.size)).get? b = some o := fun b o e => Heap.get?_push_of_some _ (Heap.get?_push_of_some _ e)
          have hget : ((hp.push (PySem.W.kdv_tup [])).push (PySem.HandSPX.excO C hp.objs.size)).get? (hp.objs.size + 1) = some (PySem.HandSPX.excO C hp.objs.size) := by heap_get
          have I2 : Inv X pins σ (upd H (hp.objs.size + 1) (exo (hp.objs.size + 1) C none)) ⟨(hp.push (PySem.W.kdv_tup [])).push (PySem.HandSPX.excO C hp.objs.size), g, dr, tk, os⟩ :=
            I.laid (t' := tk) (a := hp.objs.size + 1) (o := exo (hp.objs.size + 1) C none) (h' := (hp.push (PySem.W.kdv_tup [])).push (PySem.HandSPX.excO C hp.objs.size)) kk hsz (exo_ok hget)
          have rA := hrel (ρ ++ [hp.objs.size + 1]) H [.ref ρ.length] [v0] [.ref (hp.objs.size + 1)] [y0] (.cons (.ref (by simp)) .nil) (.cons (rv.mono0 ⟨fun i x e => by rw [List.getElem?_append_left (List.getElem?_eq_some_iff.mp e).1]; exact e, fun _ _ t => t⟩) .nil) rfl rfl
          rw [ha] at rA
          have rB := kb.rel (vs := [.ref (hp.objs.size + 1)]) (us := [.ref (hp.objs.size + 1)]) (zs := [y0]) (ws := [u0]) (.cons rfl .nil) (.cons ru .nil)
          generalize gV [V.ref (hp.objs.size + 1)] [y0] = gv at rA rB
          cases rA with
          | cons rs rr =>
            cases rr with
            | cons rv2 rr =>
              cases rr
              rename_i y1
              cases rs with
              | @ref _ a2 e2 =>
                have ea : a2 = hp.objs.size + 1 := by
                  have : (ρ ++ [hp.objs.size + 1])[ρ.length]? = some (hp.objs.size + 1) := by simp
                  rw [this] at e2
                  exact (Option.some.inj e2).symm
                subst ea
                have rv1 := RV.back rv rv2
                have h := exv_fin hct ag rv1 fin
                have sp : spI C (toStr f) [V.ref (hp.objs.size + 1), y1] (upd H (hp.objs.size + 1) (exo (hp.objs.size + 1) C none)) (fun x H2 => x = .non ∧ ∃ d, H d = none ∧ d ≠ hp.objs.size + 1 ∧ H2 = upd (upd (upd H (hp.objs.size + 1) (exo (hp.objs.size + 1) C none)) d (exd d [(toStr f, y1)])) (hp.objs.size + 1) (exo (hp.objs.size + 1) C (some d))) (fun _ _ _ => False) :=
                  ⟨_, y1, rfl, upd_same, fun dx nd ne => ⟨rfl, dx, by rw [upd_ne ne] at nd; exact nd, ne, rfl⟩⟩
                have b := kb.to ⟨(hp.push (PySem.W.kdv_tup [])).push (PySem.HandSPX.excO C hp.objs.size), g, dr, tk, os⟩ [.ref (hp.objs.size + 1)] [u0] I2.kIn rfl rfl
                refine wpAny_call (PySem.HandSPX.call_ownK F.excBase_ValueError (fun Y => PySem.HandSPX.refsVE_contains Y bm hbm) (I.kIn _ _ hC) (PySem.W.looks_findIn I.kIn iC) (fun self => PySem.W.bind_fn I.kIn self tI) (by rw [sizeLine_eq]; decide)
                  (codeAny_mono (F1.run _ X.stack _ _ ⟨[Value.ref (hp.objs.size + 1)], [(n, u0)]⟩ _ _ _ (fun _ _ _ => False) (hr.make C [] [(n, u0)]) (I2.env0.make C [] [(n, u0)]) b rB sp) fun r s' hq' => ?_))
                cases r with
                | error er =>
                  obtain ⟨_, _, _, _, _, _, _, _, _, _, _, _, z⟩ := hq'
                  exact z.elim
                | ok fl =>
                  cases fl with
                  | ret v => exact exv_end (R := fun _ _ => True) (hp := hp) (h2 := hp) I2 hn h hq'
                  | next => exact False.elim hq'
                  | brk => exact False.elim hq'
                  | cont => exact False.elim hq'
end
section
variable {z : Bool} {G : Gx} {W : WX} {X : Cx} {ρ : List Addr} {h : Hi} {H : Hp} {σ : L2.St} {k c : Nat} {C fI : Addr} {fd : FuncData} {ps : List Str} {f : S} {v : VI} {y : V} {Q : VK} {B BN nid iid : String} {tl : List Value} {arr : List VI → List VI → List VI}
theorem callK_exvTB {n : Str} (F : XB B BN nid iid tl) (T : OexT nid tl X.K C) (iC : PySem.W.findIn X.K (.ref C) "__init__" = some (some (.ref fI))) (tI : PySem.W.typeIn X.K (.ref fI) = some (.type "function"))
    (F1 : FnOk X.prog X.w X.K X.mg X.base (CX z X.prog X.w) k fI fd ps (spI C (toStr f))) (hr : Room (k + 1) X.A) (hb : Bnd G X.K fd ps 1 [n] arr) (ha : ∀ a b, arr [a] [b] = [a, b]) (hct : G.ct c = some C) : CallK X G W (.ref C) 0 [n] (kExV c f) := by
  intro pins s σ H us ws vs zs args zargs ρ h Q I r rz ra rza ag l1 l2 fin
  cases ra with
  | cons _ _ => exact absurd l1 (by simp)
  | nil =>
    cases r
    cases rza with
    | nil => exact fin.elim
    | cons rv rr =>
      cases rr with
      | cons _ _ => exact fin.elim
      | nil =>
        cases rz with
        | cons ru rr =>
          cases rr
          rename_i v0 y0 u0
          obtain ⟨nm, q, N, bs, bm, sn, sub, ab, col, dd, k0, k1, k2, k3, k5, hC, hbm⟩ := T.cls
          obtain ⟨gu, gV, kb, hrel⟩ := hb.ex
          obtain ⟨hp, g, dr, tk, os⟩ := s
          have hsz : hp.objs.size ≤ hp.objs.size + 1 := Nat.le_succ _
          have hn : H (hp.objs.size + 1) = none := I.hok.fresh hsz
          have kk : ∀ b o, hp.get? b = some o → ((hp.push (PySem.W.kdv_tup [])).push (PySem.HandSPX.excO C hp.objs.size)).get? b = some o := fun b o e => Heap.get?_push_of_some _ (Heap.get?_push_of_some _ e)
          have hget : ((hp.push (PySem.W.kdv_tup [])).push (PySem.HandSPX.excO C hp.objs.size)).get? (hp.objs.size + 1) = some (PySem.HandSPX.excO C hp.objs.size) := by heap_get
          have I2 : Inv X pins σ (upd H (hp.objs.size + 1) (exo (hp.objs.size + 1) C none)) ⟨(hp.push (PySem.W.kdv_tup [])).push (PySem.HandSPX.excO C hp.objs.size), g, dr, tk, os⟩ :=
            I.laid (t' := tk) (a := hp.objs.size + 1) (o := exo (hp.objs.size + 1) C none) (h' := (hp.push (PySem.W.kdv_tup [])).push (PySem.HandSPX.excO C hp.objs.size)) kk hsz (exo_ok hget)
          have rA := hrel (ρ ++ [hp.objs.size + 1]) H [.ref ρ.length] [v0] [.ref (hp.objs.size + 1)] [y0] (.cons (.ref (by simp)) .nil) (.cons (rv.mono0 ⟨fun i x e => by rw [List.getElem?_append_left (List.getElem?_eq_some_iff.mp e).1]; exact e, fun _ _ t => t⟩) .nil) rfl rfl
          rw [ha] at rA
          have rB := kb.rel (vs := [.ref (hp.objs.size + 1)]) (us := [.ref (hp.objs.size + 1)]) (zs := [y0]) (ws := [u0]) (.cons rfl .nil) (.cons ru .nil)
          generalize gV [V.ref (hp.objs.size + 1)] [y0] = gv at rA rB
          cases rA with
          | cons rs rr =>
            cases rr with
            | cons rv2 rr =>
              cases rr
              rename_i y1
              cases rs with
              | @ref _ a2 e2 =>
                have ea : a2 = hp.objs.size + 1 := by
                  have : (ρ ++ [hp.objs.size + 1])[ρ.length]? = some (hp.objs.size + 1) := by simp
                  rw [this] at e2
                  exact (Option.some.inj e2).symm
                subst ea
                have rv1 := RV.back rv rv2
                have h := exv_fin hct ag rv1 fin
                have sp : spI C (toStr f) [V.ref (hp.objs.size + 1), y1] (upd H (hp.objs.size + 1) (exo (hp.objs.size + 1) C none)) (fun x H2 => x = .non ∧ ∃ d, H d = none ∧ d ≠ hp.objs.size + 1 ∧ H2 = upd (upd (upd H (hp.objs.size + 1) (exo (hp.objs.size + 1) C none)) d (exd d [(toStr f, y1)])) (hp.objs.size + 1) (exo (hp.objs.size + 1) C (some d))) (fun _ _ _ => False) :=
                  ⟨_, y1, rfl, upd_same, fun dx nd ne => ⟨rfl, dx, by rw [upd_ne ne] at nd; exact nd, ne, rfl⟩⟩
                have b := kb.to ⟨(hp.push (PySem.W.kdv_tup [])).push (PySem.HandSPX.excO C hp.objs.size), g, dr, tk, os⟩ [.ref (hp.objs.size + 1)] [u0] I2.kIn rfl rfl
                refine wpAny_call (xb_callK F hbm (I.kIn _ _ hC) (PySem.W.looks_findIn I.kIn iC) (fun self => PySem.W.bind_fn I.kIn self tI) (by rw [sizeLine_eq]; decide)
                  (codeAny_mono (F1.run _ X.stack _ _ ⟨[Value.ref (hp.objs.size + 1)], [(n, u0)]⟩ _ _ _ (fun _ _ _ => False) (hr.make C [] [(n, u0)]) (I2.env0.make C [] [(n, u0)]) b rB sp) fun r s' hq' => ?_))
                cases r with
                | error er =>
                  obtain ⟨_, _, _, _, _, _, _, _, _, _, _, _, z⟩ := hq'
                  exact z.elim
                | ok fl =>
                  cases fl with
                  | ret v => exact exv_end (R := fun _ _ => True) (hp := hp) (h2 := hp) I2 hn h hq'
                  | next => exact False.elim hq'
                  | brk => exact False.elim hq'
                  | cont => exact False.elim hq'
end
end ML
end
section
set_option maxHeartbeats 0
namespace Lw
open PySem PySem.Spec PyProof.Rows L2 He ML
abbrev P : Program := PySem.Challenge.pw_epochrooms_k80_errors_by_hand
def top (i : Nat) : Stmt := PySem.Challenge.pw_epochrooms_k80_errors_by_hand.main.body.getD i (.Pass ⟨0, 0, 0, 0⟩)
def clsBody (s : Stmt) : List Stmt := match s with
  | .ClassDef _ _ _ b _ _ _ _ _ _ _ => b
  | _ => []
def clsAt (i j : Nat) : Stmt := (clsBody (top i)).getD j (.Pass ⟨0, 0, 0, 0⟩)
def nm (c : Nat) : Option Str := match c with
  | 14 => some "NoValue"
  | 13 => some "NoSwitch"
  | 12 => some "NoSize"
  | 11 => some "NoNumber"
  | 18 => some "NothingBack"
  | 17 => some "NoMove"
  | 16 => some "NoSetting"
  | 15 => some "NoBook"
  | 22 => some "NoNote"
  | 21 => some "NoPick"
  | 20 => some "NoChange"
  | 19 => some "NoTable"
  | 23 => some "IsSafe"
  | 25 => some "NoHand"
  | 24 => some "TooMany"
  | _ => none
def s_b : S := [98]
theorem t_b : ("b" : Str) = toStr s_b := by decide +kernel
def s_a : S := [97]
theorem t_a : ("a" : Str) = toStr s_a := by decide +kernel
def s_word : S := [119, 111, 114, 100]
theorem t_word : ("word" : Str) = toStr s_word := by decide +kernel
def s_size : S := [115, 105, 122, 101]
theorem t_size : ("size" : Str) = toStr s_size := by decide +kernel
def s_value : S := [118, 97, 108, 117, 101]
theorem t_value : ("value" : Str) = toStr s_value := by decide +kernel
def s_many : S := [109, 97, 110, 121]
theorem t_many : ("many" : Str) = toStr s_many := by decide +kernel
def s_index : S := [105, 110, 100, 101, 120]
theorem t_index : ("index" : Str) = toStr s_index := by decide +kernel
def s_line : S := [108, 105, 110, 101]
theorem t_line : ("line" : Str) = toStr s_line := by decide +kernel
def s_pick : S := [112, 105, 99, 107]
theorem t_pick : ("pick" : Str) = toStr s_pick := by decide +kernel
def s_at : S := [97, 116]
theorem t_at : ("at" : Str) = toStr s_at := by decide +kernel
def s_states : S := [115, 116, 97, 116, 101, 115]
theorem t_states : ("states" : Str) = toStr s_states := by decide +kernel
def s_hand : S := [104, 97, 110, 100]
theorem t_hand : ("hand" : Str) = toStr s_hand := by decide +kernel
def s_most : S := [109, 111, 115, 116]
theorem t_most : ("most" : Str) = toStr s_most := by decide +kernel
def se_bd_NoValueD_initD_1_word : List (Nat × Nat) := [(0, 0), (2, 0)]
def ar_bd_NoValueD_initD_1_word (us ws : List VI) : List VI := arr3 se_bd_NoValueD_initD_1_word us [] ws
def se_bd_NoSwitchD_initD_1_word : List (Nat × Nat) := [(0, 0), (2, 0)]
def ar_bd_NoSwitchD_initD_1_word (us ws : List VI) : List VI := arr3 se_bd_NoSwitchD_initD_1_word us [] ws
def se_bd_NoSizeD_initD_1_size : List (Nat × Nat) := [(0, 0), (2, 0)]
def ar_bd_NoSizeD_initD_1_size (us ws : List VI) : List VI := arr3 se_bd_NoSizeD_initD_1_size us [] ws
def se_bd_NoNumberD_initD_1_value : List (Nat × Nat) := [(0, 0), (2, 0)]
def ar_bd_NoNumberD_initD_1_value (us ws : List VI) : List VI := arr3 se_bd_NoNumberD_initD_1_value us [] ws
def se_bd_NothingBackD_initD_1_many : List (Nat × Nat) := [(0, 0), (2, 0)]
def ar_bd_NothingBackD_initD_1_many (us ws : List VI) : List VI := arr3 se_bd_NothingBackD_initD_1_many us [] ws
def se_bd_NoMoveD_initD_1_index : List (Nat × Nat) := [(0, 0), (2, 0)]
def ar_bd_NoMoveD_initD_1_index (us ws : List VI) : List VI := arr3 se_bd_NoMoveD_initD_1_index us [] ws
def se_bd_NoSettingD_initD_1_word : List (Nat × Nat) := [(0, 0), (2, 0)]
def ar_bd_NoSettingD_initD_1_word (us ws : List VI) : List VI := arr3 se_bd_NoSettingD_initD_1_word us [] ws
def se_bd_NoBookD_initD_1_value : List (Nat × Nat) := [(0, 0), (2, 0)]
def ar_bd_NoBookD_initD_1_value (us ws : List VI) : List VI := arr3 se_bd_NoBookD_initD_1_value us [] ws
def se_bd_NoNoteD_initD_1_line : List (Nat × Nat) := [(0, 0), (2, 0)]
def ar_bd_NoNoteD_initD_1_line (us ws : List VI) : List VI := arr3 se_bd_NoNoteD_initD_1_line us [] ws
def se_bd_NoPickD_initD_1_pick : List (Nat × Nat) := [(0, 0), (2, 0)]
def ar_bd_NoPickD_initD_1_pick (us ws : List VI) : List VI := arr3 se_bd_NoPickD_initD_1_pick us [] ws
def se_bd_NoChangeD_initD_1_at : List (Nat × Nat) := [(0, 0), (2, 0)]
def ar_bd_NoChangeD_initD_1_at (us ws : List VI) : List VI := arr3 se_bd_NoChangeD_initD_1_at us [] ws
def se_bd_NoTableD_initD_1_states : List (Nat × Nat) := [(0, 0), (2, 0)]
def ar_bd_NoTableD_initD_1_states (us ws : List VI) : List VI := arr3 se_bd_NoTableD_initD_1_states us [] ws
def se_bd_IsSafeD_initD_1_value : List (Nat × Nat) := [(0, 0), (2, 0)]
def ar_bd_IsSafeD_initD_1_value (us ws : List VI) : List VI := arr3 se_bd_IsSafeD_initD_1_value us [] ws
def se_bd_NoHandD_initD_1_hand : List (Nat × Nat) := [(0, 0), (2, 0)]
def ar_bd_NoHandD_initD_1_hand (us ws : List VI) : List VI := arr3 se_bd_NoHandD_initD_1_hand us [] ws
def se_bd_TooManyD_initD_1_most : List (Nat × Nat) := [(0, 0), (2, 0)]
def ar_bd_TooManyD_initD_1_most (us ws : List VI) : List VI := arr3 se_bd_TooManyD_initD_1_most us [] ws
def m__law_by_name : MS := (sSeq (sAsg (eLst (aCons (eCallK 0 1 (kExV 11 s_value) aNil (aCons (eV 0) aNil)) (aCons (eCallK 0 1 (kExV 12 s_size) aNil (aCons (eV 0) aNil)) (aCons (eCallK 0 1 (kExV 13 s_word) aNil (aCons (eV 0) aNil)) (aCons (eCallK 0 1 (kExV 14 s_word) aNil (aCons (eV 0) aNil)) aNil))))) (gNm 1)) (sSeq (sAsg (eBin fAdd (eV 1) (eLst (aCons (eCallK 0 1 (kExV 15 s_value) aNil (aCons (eV 0) aNil)) (aCons (eCallK 0 1 (kExV 16 s_word) aNil (aCons (eV 0) aNil)) (aCons (eCallK 0 1 (kExV 17 s_index) aNil (aCons (eV 0) aNil)) (aCons (eCallK 0 1 (kExV 18 s_many) aNil (aCons (eV 0) aNil)) aNil)))))) (gNm 1)) (sSeq (sAsg (eBin fAdd (eV 1) (eLst (aCons (eCallK 0 1 (kExV 19 s_states) aNil (aCons (eV 0) aNil)) (aCons (eCallK 0 1 (kExV 20 s_at) aNil (aCons (eV 0) aNil)) (aCons (eCallK 0 1 (kExV 21 s_pick) aNil (aCons (eV 0) aNil)) (aCons (eCallK 0 1 (kExV 22 s_line) aNil (aCons (eV 0) aNil)) aNil)))))) (gNm 1)) (sSeq (sRet (eBin fAdd (eV 1) (eLst (aCons (eCallK 0 1 (kExV 23 s_value) aNil (aCons (eV 0) aNil)) aNil)))) sNx))))
def f__law_by_name : MF := runB 1 1 m__law_by_name
def m__law_by_place : MS := (sSeq (sAsg (eLst (aCons (eCall (cExV 11 s_value) (aCons (eV 0) aNil)) (aCons (eCall (cExV 12 s_size) (aCons (eV 0) aNil)) (aCons (eCall (cExV 13 s_word) (aCons (eV 0) aNil)) (aCons (eCall (cExV 14 s_word) (aCons (eV 0) aNil)) (aCons (eCall (cExV 15 s_value) (aCons (eV 0) aNil)) (aCons (eCall (cExV 16 s_word) (aCons (eV 0) aNil)) aNil))))))) (gNm 1)) (sSeq (sAsg (eBin fAdd (eV 1) (eLst (aCons (eCall (cExV 17 s_index) (aCons (eV 0) aNil)) (aCons (eCall (cExV 18 s_many) (aCons (eV 0) aNil)) (aCons (eCall (cExV 19 s_states) (aCons (eV 0) aNil)) (aCons (eCall (cExV 20 s_at) (aCons (eV 0) aNil)) (aCons (eCall (cExV 21 s_pick) (aCons (eV 0) aNil)) aNil))))))) (gNm 1)) (sSeq (sRet (eBin fAdd (eV 1) (eLst (aCons (eCall (cExV 22 s_line) (aCons (eV 0) aNil)) (aCons (eCall (cExV 23 s_value) (aCons (eV 0) aNil)) aNil))))) sNx)))
def f__law_by_place : MF := runB 1 1 m__law_by_place
def m__law_kept : MS := (sSeq (sAsg (eLst (aCons (eFldX [11, 15, 23] s_value (eBin fIx (eV 0) (eC (.int 0)))) (aCons (eFldX [12] s_size (eBin fIx (eV 0) (eC (.int 1)))) (aCons (eFldX [14, 13, 16] s_word (eBin fIx (eV 0) (eC (.int 2)))) (aCons (eFldX [14, 13, 16] s_word (eBin fIx (eV 0) (eC (.int 3)))) (aCons (eFldX [11, 15, 23] s_value (eBin fIx (eV 0) (eC (.int 4)))) (aCons (eFldX [14, 13, 16] s_word (eBin fIx (eV 0) (eC (.int 5)))) aNil))))))) (gNm 1)) (sSeq (sAsg (eBin fAdd (eV 1) (eLst (aCons (eFldX [17] s_index (eBin fIx (eV 0) (eC (.int 6)))) (aCons (eFldX [18] s_many (eBin fIx (eV 0) (eC (.int 7)))) (aCons (eFldX [19] s_states (eBin fIx (eV 0) (eC (.int 8)))) (aCons (eFldX [20] s_at (eBin fIx (eV 0) (eC (.int 9)))) (aCons (eFldX [21] s_pick (eBin fIx (eV 0) (eC (.int 10)))) aNil))))))) (gNm 1)) (sSeq (sRet (eBin fAdd (eV 1) (eLst (aCons (eFldX [22] s_line (eBin fIx (eV 0) (eC (.int 11)))) (aCons (eFldX [11, 15, 23] s_value (eBin fIx (eV 0) (eC (.int 12)))) aNil))))) sNx)))
def f__law_kept : MF := runB 1 1 m__law_kept
def m__law_kinds : MS := (sSeq (sAsg (eLst (aCons (eIsX (lkT [(14, false), (13, false), (12, false), (11, true), (18, false), (17, false), (16, false), (15, false), (22, false), (21, false), (20, false), (19, false), (23, false), (25, false), (24, false)]) (eV 0)) (aCons (eIsX (lkT [(14, false), (13, false), (12, true), (11, false), (18, false), (17, false), (16, false), (15, false), (22, false), (21, false), (20, false), (19, false), (23, false), (25, false), (24, false)]) (eV 0)) (aCons (eIsX (lkT [(14, false), (13, true), (12, false), (11, false), (18, false), (17, false), (16, false), (15, false), (22, false), (21, false), (20, false), (19, false), (23, false), (25, false), (24, false)]) (eV 0)) (aCons (eIsX (lkT [(14, true), (13, false), (12, false), (11, false), (18, false), (17, false), (16, false), (15, false), (22, false), (21, false), (20, false), (19, false), (23, false), (25, false), (24, false)]) (eV 0)) aNil))))) (gNm 1)) (sSeq (sAsg (eBin fAdd (eV 1) (eLst (aCons (eIsX (lkT [(14, false), (13, false), (12, false), (11, false), (18, false), (17, false), (16, false), (15, true), (22, false), (21, false), (20, false), (19, false), (23, false), (25, false), (24, false)]) (eV 0)) (aCons (eIsX (lkT [(14, false), (13, false), (12, false), (11, false), (18, false), (17, false), (16, true), (15, false), (22, false), (21, false), (20, false), (19, false), (23, false), (25, false), (24, false)]) (eV 0)) (aCons (eIsX (lkT [(14, false), (13, false), (12, false), (11, false), (18, false), (17, true), (16, false), (15, false), (22, false), (21, false), (20, false), (19, false), (23, false), (25, false), (24, false)]) (eV 0)) aNil))))) (gNm 1)) (sSeq (sAsg (eBin fAdd (eV 1) (eLst (aCons (eIsX (lkT [(14, false), (13, false), (12, false), (11, false), (18, true), (17, false), (16, false), (15, false), (22, false), (21, false), (20, false), (19, false), (23, false), (25, false), (24, false)]) (eV 0)) (aCons (eIsX (lkT [(14, false), (13, false), (12, false), (11, false), (18, false), (17, false), (16, false), (15, false), (22, false), (21, false), (20, false), (19, true), (23, false), (25, false), (24, false)]) (eV 0)) (aCons (eIsX (lkT [(14, false), (13, false), (12, false), (11, false), (18, false), (17, false), (16, false), (15, false), (22, false), (21, false), (20, true), (19, false), (23, false), (25, false), (24, false)]) (eV 0)) aNil))))) (gNm 1)) (sSeq (sRet (eBin fAdd (eV 1) (eLst (aCons (eIsX (lkT [(14, false), (13, false), (12, false), (11, false), (18, false), (17, false), (16, false), (15, false), (22, false), (21, true), (20, false), (19, false), (23, false), (25, false), (24, false)]) (eV 0)) (aCons (eIsX (lkT [(14, false), (13, false), (12, false), (11, false), (18, false), (17, false), (16, false), (15, false), (22, true), (21, false), (20, false), (19, false), (23, false), (25, false), (24, false)]) (eV 0)) (aCons (eIsX (lkT [(14, false), (13, false), (12, false), (11, false), (18, false), (17, false), (16, false), (15, false), (22, false), (21, false), (20, false), (19, false), (23, true), (25, false), (24, false)]) (eV 0)) aNil)))))) sNx))))
def f__law_kinds : MF := runB 1 1 m__law_kinds
def m__law_others_right : MS := (sSeq (sAsg (eLst (aCons (eCall (cExV 24 s_most) (aCons (eV 0) aNil)) (aCons (eCallK 0 1 (kExV 24 s_most) aNil (aCons (eV 0) aNil)) (aCons (eCall (cExV 25 s_hand) (aCons (eV 0) aNil)) (aCons (eCallK 0 1 (kExV 25 s_hand) aNil (aCons (eV 0) aNil)) aNil))))) (gNm 1)) (sSeq (sIf (tOf (eBin fNe (eLst (aCons (eFldX [24] s_most (eBin fIx (eV 1) (eC (.int 0)))) (aCons (eFldX [24] s_most (eBin fIx (eV 1) (eC (.int 1)))) (aCons (eFldX [25] s_hand (eBin fIx (eV 1) (eC (.int 2)))) (aCons (eFldX [25] s_hand (eBin fIx (eV 1) (eC (.int 3)))) aNil))))) (eBin fMul (eLst (aCons (eV 0) aNil)) (eC (.int 4))))) (sRet (eC (.bl false))) sNx) (sSeq (sIf (tOf (eBin fNe (eLc (iSeq (eV 1)) (.one 2) [2] (tOrM (tOf (eIsX (lkT [(14, true), (13, true), (12, true), (11, true), (18, true), (17, true), (16, true), (15, true), (22, true), (21, true), (20, true), (19, true), (23, true), (25, false), (24, false)]) (eV 2))) (tOf (eBin fIn (eC (.bl true)) (eCall f__law_kinds (aCons (eV 2) aNil))))) (eV 2)) (eLst aNil))) (sRet (eC (.bl false))) sNx) (sSeq (sIf (tOrM (tNotM (tOf (eIsX (lkT [(14, false), (13, false), (12, false), (11, false), (18, false), (17, false), (16, false), (15, false), (22, false), (21, false), (20, false), (19, false), (23, false), (25, false), (24, true)]) (eBin fIx (eV 1) (eC (.int 0)))))) (tOf (eIsX (lkT [(14, false), (13, false), (12, false), (11, false), (18, false), (17, false), (16, false), (15, false), (22, false), (21, false), (20, false), (19, false), (23, false), (25, true), (24, false)]) (eBin fIx (eV 1) (eC (.int 0)))))) (sRet (eC (.bl false))) sNx) (sSeq (sRet (eAnd (eIsX (lkT [(14, false), (13, false), (12, false), (11, false), (18, false), (17, false), (16, false), (15, false), (22, false), (21, false), (20, false), (19, false), (23, false), (25, true), (24, false)]) (eBin fIx (eV 1) (eC (.int 2)))) (eNot (eIsX (lkT [(14, false), (13, false), (12, false), (11, false), (18, false), (17, false), (16, false), (15, false), (22, false), (21, false), (20, false), (19, false), (23, false), (25, false), (24, true)]) (eBin fIx (eV 1) (eC (.int 2))))))) sNx)))))
def f__law_others_right : MF := runB 1 2 m__law_others_right
def m_law : MS := (sSeq (sFor (iSeq (eLst (aCons (eCB cLen (aCons (eV 0) aNil)) (aCons (eC .non) (aCons (eC (.str s_a)) (aCons (eLst (aCons (eC (.int 1)) (aCons (eC (.str s_b)) aNil))) (aCons (eTup (aCons (eC (.int 2)) aNil)) (aCons (eC (.bl true)) aNil)))))))) (gNm 1) (sFor (iSeq (eLst (aCons (eCall f__law_by_place (aCons (eV 1) aNil)) (aCons (eCall f__law_by_name (aCons (eV 1) aNil)) aNil)))) (gNm 2) (sSeq (sIf (tOrM (tOf (eBin fNe (eCall f__law_kept (aCons (eV 2) aNil)) (eBin fMul (eLst (aCons (eV 1) aNil)) (eC (.int 13))))) (tNotM (tOf (eCall f__law_others_right (aCons (eV 1) aNil))))) (sRet (eC (.bl false))) sNx) (sSeq (sFor (iEnumM (eV 2)) (gTgt (.many [3, 4])) (sSeq (sIf (tOrM (tNotM (tOf (eIsX (lkT [(14, true), (13, true), (12, true), (11, true), (18, true), (17, true), (16, true), (15, true), (22, true), (21, true), (20, true), (19, true), (23, true), (25, false), (24, false)]) (eV 4)))) (tNotM (tOf (eIsX (lkT [(14, true), (13, true), (12, true), (11, true), (18, true), (17, true), (16, true), (15, true), (22, true), (21, true), (20, true), (19, true), (23, true), (25, false), (24, false)]) (eV 4))))) (sRet (eC (.bl false))) sNx) (sSeq (sIf (tOf (eBin fNe (eCall f__law_kinds (aCons (eV 4) aNil)) (eLc (iRng (aCons (eC (.int 13)) aNil)) (.one 5) [5] tYesM (eBin fEqX (eV 5) (eV 3))))) (sRet (eC (.bl false))) sNx) sNx))) sNx)))) (sSeq (sRet (eC (.bl true))) sNx))
def f_law : MF := runB 1 5 m_law
abbrev st_NoValueD_initD : Stmt := clsAt 5 0
abbrev a_NoValueD_initD : Defn := mA "NoValue" "__init__"
abbrev st_NoSwitchD_initD : Stmt := clsAt 4 0
abbrev a_NoSwitchD_initD : Defn := mA "NoSwitch" "__init__"
abbrev st_NoSizeD_initD : Stmt := clsAt 3 0
abbrev a_NoSizeD_initD : Defn := mA "NoSize" "__init__"
abbrev st_NoNumberD_initD : Stmt := clsAt 2 0
abbrev a_NoNumberD_initD : Defn := mA "NoNumber" "__init__"
abbrev st_NothingBackD_initD : Stmt := clsAt 9 0
abbrev a_NothingBackD_initD : Defn := mA "NothingBack" "__init__"
abbrev st_NoMoveD_initD : Stmt := clsAt 8 0
abbrev a_NoMoveD_initD : Defn := mA "NoMove" "__init__"
abbrev st_NoSettingD_initD : Stmt := clsAt 7 0
abbrev a_NoSettingD_initD : Defn := mA "NoSetting" "__init__"
abbrev st_NoBookD_initD : Stmt := clsAt 6 0
abbrev a_NoBookD_initD : Defn := mA "NoBook" "__init__"
abbrev st_NoNoteD_initD : Stmt := clsAt 13 0
abbrev a_NoNoteD_initD : Defn := mA "NoNote" "__init__"
abbrev st_NoPickD_initD : Stmt := clsAt 12 0
abbrev a_NoPickD_initD : Defn := mA "NoPick" "__init__"
abbrev st_NoChangeD_initD : Stmt := clsAt 11 0
abbrev a_NoChangeD_initD : Defn := mA "NoChange" "__init__"
abbrev st_NoTableD_initD : Stmt := clsAt 10 0
abbrev a_NoTableD_initD : Defn := mA "NoTable" "__init__"
abbrev st_IsSafeD_initD : Stmt := clsAt 14 0
abbrev a_IsSafeD_initD : Defn := mA "IsSafe" "__init__"
abbrev st__law_by_name : Stmt := top 19
abbrev a__law_by_name : Defn := gA "_law_by_name"
abbrev st__law_by_place : Stmt := top 18
abbrev a__law_by_place : Defn := gA "_law_by_place"
abbrev st__law_kept : Stmt := top 20
abbrev a__law_kept : Defn := gA "_law_kept"
abbrev st_NoHandD_initD : Stmt := clsAt 16 0
abbrev a_NoHandD_initD : Defn := mA "NoHand" "__init__"
abbrev st_TooManyD_initD : Stmt := clsAt 15 0
abbrev a_TooManyD_initD : Defn := mA "TooMany" "__init__"
abbrev st__law_kinds : Stmt := top 21
abbrev a__law_kinds : Defn := gA "_law_kinds"
abbrev st__law_others_right : Stmt := top 22
abbrev a__law_others_right : Defn := gA "_law_others_right"
abbrev st_law : Stmt := top 23
abbrev a_law : Defn := gA "law"
def gd__law_by_name : GDef := ⟨a__law_by_name, "_law_by_name", "_law_by_name", defArgs st__law_by_name, defBody st__law_by_name, defScope st__law_by_name, [], []⟩
def gd__law_by_place : GDef := ⟨a__law_by_place, "_law_by_place", "_law_by_place", defArgs st__law_by_place, defBody st__law_by_place, defScope st__law_by_place, [], []⟩
def gd__law_kept : GDef := ⟨a__law_kept, "_law_kept", "_law_kept", defArgs st__law_kept, defBody st__law_kept, defScope st__law_kept, [], []⟩
def gd__law_kinds : GDef := ⟨a__law_kinds, "_law_kinds", "_law_kinds", defArgs st__law_kinds, defBody st__law_kinds, defScope st__law_kinds, [], []⟩
def gd__law_others_right : GDef := ⟨a__law_others_right, "_law_others_right", "_law_others_right", defArgs st__law_others_right, defBody st__law_others_right, defScope st__law_others_right, [], []⟩
def gd_law : GDef := ⟨a_law, "law", "law", defArgs st_law, defBody st_law, defScope st_law, [], []⟩
def sd_NoValueD_initD : SDef := ⟨a_NoValueD_initD, "__init__", "NoValue.__init__", defArgs st_NoValueD_initD, defBody st_NoValueD_initD, defScope st_NoValueD_initD, [], "NoValue", P.main.file⟩
def sd_NoSwitchD_initD : SDef := ⟨a_NoSwitchD_initD, "__init__", "NoSwitch.__init__", defArgs st_NoSwitchD_initD, defBody st_NoSwitchD_initD, defScope st_NoSwitchD_initD, [], "NoSwitch", P.main.file⟩
def sd_NoSizeD_initD : SDef := ⟨a_NoSizeD_initD, "__init__", "NoSize.__init__", defArgs st_NoSizeD_initD, defBody st_NoSizeD_initD, defScope st_NoSizeD_initD, [], "NoSize", P.main.file⟩
def sd_NoNumberD_initD : SDef := ⟨a_NoNumberD_initD, "__init__", "NoNumber.__init__", defArgs st_NoNumberD_initD, defBody st_NoNumberD_initD, defScope st_NoNumberD_initD, [], "NoNumber", P.main.file⟩
def sd_NothingBackD_initD : SDef := ⟨a_NothingBackD_initD, "__init__", "NothingBack.__init__", defArgs st_NothingBackD_initD, defBody st_NothingBackD_initD, defScope st_NothingBackD_initD, [], "NothingBack", P.main.file⟩
def sd_NoMoveD_initD : SDef := ⟨a_NoMoveD_initD, "__init__", "NoMove.__init__", defArgs st_NoMoveD_initD, defBody st_NoMoveD_initD, defScope st_NoMoveD_initD, [], "NoMove", P.main.file⟩
def sd_NoSettingD_initD : SDef := ⟨a_NoSettingD_initD, "__init__", "NoSetting.__init__", defArgs st_NoSettingD_initD, defBody st_NoSettingD_initD, defScope st_NoSettingD_initD, [], "NoSetting", P.main.file⟩
def sd_NoBookD_initD : SDef := ⟨a_NoBookD_initD, "__init__", "NoBook.__init__", defArgs st_NoBookD_initD, defBody st_NoBookD_initD, defScope st_NoBookD_initD, [], "NoBook", P.main.file⟩
def sd_NoNoteD_initD : SDef := ⟨a_NoNoteD_initD, "__init__", "NoNote.__init__", defArgs st_NoNoteD_initD, defBody st_NoNoteD_initD, defScope st_NoNoteD_initD, [], "NoNote", P.main.file⟩
def sd_NoPickD_initD : SDef := ⟨a_NoPickD_initD, "__init__", "NoPick.__init__", defArgs st_NoPickD_initD, defBody st_NoPickD_initD, defScope st_NoPickD_initD, [], "NoPick", P.main.file⟩
def sd_NoChangeD_initD : SDef := ⟨a_NoChangeD_initD, "__init__", "NoChange.__init__", defArgs st_NoChangeD_initD, defBody st_NoChangeD_initD, defScope st_NoChangeD_initD, [], "NoChange", P.main.file⟩
def sd_NoTableD_initD : SDef := ⟨a_NoTableD_initD, "__init__", "NoTable.__init__", defArgs st_NoTableD_initD, defBody st_NoTableD_initD, defScope st_NoTableD_initD, [], "NoTable", P.main.file⟩
def sd_IsSafeD_initD : SDef := ⟨a_IsSafeD_initD, "__init__", "IsSafe.__init__", defArgs st_IsSafeD_initD, defBody st_IsSafeD_initD, defScope st_IsSafeD_initD, [], "IsSafe", P.main.file⟩
def sd_NoHandD_initD : SDef := ⟨a_NoHandD_initD, "__init__", "NoHand.__init__", defArgs st_NoHandD_initD, defBody st_NoHandD_initD, defScope st_NoHandD_initD, [], "NoHand", P.main.file⟩
def sd_TooManyD_initD : SDef := ⟨a_TooManyD_initD, "__init__", "TooMany.__init__", defArgs st_TooManyD_initD, defBody st_TooManyD_initD, defScope st_TooManyD_initD, [], "TooMany", P.main.file⟩
def fnL : List GDef := [gd__law_by_name, gd__law_by_place, gd__law_kept, gd__law_kinds, gd__law_others_right, gd_law]
def sfL : List SDef := [sd_NoValueD_initD, sd_NoSwitchD_initD, sd_NoSizeD_initD, sd_NoNumberD_initD, sd_NothingBackD_initD, sd_NoMoveD_initD, sd_NoSettingD_initD, sd_NoBookD_initD, sd_NoNoteD_initD, sd_NoPickD_initD, sd_NoChangeD_initD, sd_NoTableD_initD, sd_IsSafeD_initD, sd_NoHandD_initD, sd_TooManyD_initD]
def tsL : List Tab := []
def exL : List (PySem.W.Frag → Bool) := [fun K => (Fa.free "len").ok K,
  fun K => excB K "NoValue",
  fun K => exiB K "NoValue" "word" a_NoValueD_initD,
  fun K => (Fa.glo "NoValue").ok K,
  fun K => excB K "NoSwitch",
  fun K => exiB K "NoSwitch" "word" a_NoSwitchD_initD,
  fun K => (Fa.glo "NoSwitch").ok K,
  fun K => excB K "NoSize",
  fun K => exiB K "NoSize" "size" a_NoSizeD_initD,
  fun K => (Fa.glo "NoSize").ok K,
  fun K => excB K "NoNumber",
  fun K => exiB K "NoNumber" "value" a_NoNumberD_initD,
  fun K => (Fa.glo "NoNumber").ok K,
  fun K => excB K "NothingBack",
  fun K => exiB K "NothingBack" "many" a_NothingBackD_initD,
  fun K => (Fa.glo "NothingBack").ok K,
  fun K => excB K "NoMove",
  fun K => exiB K "NoMove" "index" a_NoMoveD_initD,
  fun K => (Fa.glo "NoMove").ok K,
  fun K => excB K "NoSetting",
  fun K => exiB K "NoSetting" "word" a_NoSettingD_initD,
  fun K => (Fa.glo "NoSetting").ok K,
  fun K => excB K "NoBook",
  fun K => exiB K "NoBook" "value" a_NoBookD_initD,
  fun K => (Fa.glo "NoBook").ok K,
  fun K => excB K "NoNote",
  fun K => exiB K "NoNote" "line" a_NoNoteD_initD,
  fun K => (Fa.glo "NoNote").ok K,
  fun K => excB K "NoPick",
  fun K => exiB K "NoPick" "pick" a_NoPickD_initD,
  fun K => (Fa.glo "NoPick").ok K,
  fun K => excB K "NoChange",
  fun K => exiB K "NoChange" "at" a_NoChangeD_initD,
  fun K => (Fa.glo "NoChange").ok K,
  fun K => excB K "NoTable",
  fun K => exiB K "NoTable" "states" a_NoTableD_initD,
  fun K => (Fa.glo "NoTable").ok K,
  fun K => excB K "IsSafe",
  fun K => exiB K "IsSafe" "value" a_IsSafeD_initD,
  fun K => (Fa.glo "IsSafe").ok K,
  fun K => (Fa.glo "_law_by_name").ok K,
  fun K => (Fa.glo "_law_by_place").ok K,
  fun K => xcB K nm [14, 13, 16] (toStr s_word),
  fun K => xcB K nm [11, 15, 23] (toStr s_value),
  fun K => xcB K nm [12] (toStr s_size),
  fun K => xcB K nm [21] (toStr s_pick),
  fun K => xcB K nm [20] (toStr s_at),
  fun K => xcB K nm [19] (toStr s_states),
  fun K => xcB K nm [18] (toStr s_many),
  fun K => xcB K nm [17] (toStr s_index),
  fun K => xcB K nm [22] (toStr s_line),
  fun K => (Fa.glo "_law_kept").ok K,
  fun K => excTB "LookupError.__new__" keTail K "NoHand",
  fun K => exiTB "KeyError" "KeyError.__init__" K "NoHand" "hand" a_NoHandD_initD,
  fun K => (Fa.glo "NoHand").ok K,
  fun K => excTB "OverflowError.__new__" oeTail K "TooMany",
  fun K => exiTB "OverflowError" "OverflowError.__init__" K "TooMany" "most" a_TooManyD_initD,
  fun K => (Fa.glo "TooMany").ok K,
  fun K => xcB K nm [25] (toStr s_hand),
  fun K => xcB K nm [24] (toStr s_most),
  fun K => (Fa.glo "RoomsError").ok K,
  fun K => xiB K nm (.own "RoomsError") [(14, true), (13, true), (12, true), (11, true), (18, true), (17, true), (16, true), (15, true), (22, true), (21, true), (20, true), (19, true), (23, true), (25, false), (24, false)],
  fun K => (Fa.free "isinstance").ok K,
  fun K => xiB K nm (.own "NoValue") [(14, true), (13, false), (12, false), (11, false), (18, false), (17, false), (16, false), (15, false), (22, false), (21, false), (20, false), (19, false), (23, false), (25, false), (24, false)],
  fun K => xiB K nm (.own "NoSwitch") [(14, false), (13, true), (12, false), (11, false), (18, false), (17, false), (16, false), (15, false), (22, false), (21, false), (20, false), (19, false), (23, false), (25, false), (24, false)],
  fun K => xiB K nm (.own "NoSize") [(14, false), (13, false), (12, true), (11, false), (18, false), (17, false), (16, false), (15, false), (22, false), (21, false), (20, false), (19, false), (23, false), (25, false), (24, false)],
  fun K => xiB K nm (.own "NoNumber") [(14, false), (13, false), (12, false), (11, true), (18, false), (17, false), (16, false), (15, false), (22, false), (21, false), (20, false), (19, false), (23, false), (25, false), (24, false)],
  fun K => xiB K nm (.own "NoMove") [(14, false), (13, false), (12, false), (11, false), (18, false), (17, true), (16, false), (15, false), (22, false), (21, false), (20, false), (19, false), (23, false), (25, false), (24, false)],
  fun K => xiB K nm (.own "NoSetting") [(14, false), (13, false), (12, false), (11, false), (18, false), (17, false), (16, true), (15, false), (22, false), (21, false), (20, false), (19, false), (23, false), (25, false), (24, false)],
  fun K => xiB K nm (.own "NoBook") [(14, false), (13, false), (12, false), (11, false), (18, false), (17, false), (16, false), (15, true), (22, false), (21, false), (20, false), (19, false), (23, false), (25, false), (24, false)],
  fun K => xiB K nm (.own "NoChange") [(14, false), (13, false), (12, false), (11, false), (18, false), (17, false), (16, false), (15, false), (22, false), (21, false), (20, true), (19, false), (23, false), (25, false), (24, false)],
  fun K => xiB K nm (.own "NoTable") [(14, false), (13, false), (12, false), (11, false), (18, false), (17, false), (16, false), (15, false), (22, false), (21, false), (20, false), (19, true), (23, false), (25, false), (24, false)],
  fun K => xiB K nm (.own "NothingBack") [(14, false), (13, false), (12, false), (11, false), (18, true), (17, false), (16, false), (15, false), (22, false), (21, false), (20, false), (19, false), (23, false), (25, false), (24, false)],
  fun K => xiB K nm (.own "IsSafe") [(14, false), (13, false), (12, false), (11, false), (18, false), (17, false), (16, false), (15, false), (22, false), (21, false), (20, false), (19, false), (23, true), (25, false), (24, false)],
  fun K => xiB K nm (.own "NoNote") [(14, false), (13, false), (12, false), (11, false), (18, false), (17, false), (16, false), (15, false), (22, true), (21, false), (20, false), (19, false), (23, false), (25, false), (24, false)],
  fun K => xiB K nm (.own "NoPick") [(14, false), (13, false), (12, false), (11, false), (18, false), (17, false), (16, false), (15, false), (22, false), (21, true), (20, false), (19, false), (23, false), (25, false), (24, false)],
  fun K => (Fa.glo "_law_kinds").ok K,
  fun K => (Fa.free "OverflowError").ok K,
  fun K => xiB K nm (.ty "OverflowError") [(14, false), (13, false), (12, false), (11, false), (18, false), (17, false), (16, false), (15, false), (22, false), (21, false), (20, false), (19, false), (23, false), (25, false), (24, true)],
  fun K => (Fa.free "KeyError").ok K,
  fun K => xiB K nm (.ty "KeyError") [(14, false), (13, false), (12, false), (11, false), (18, false), (17, false), (16, false), (15, false), (22, false), (21, false), (20, false), (19, false), (23, false), (25, true), (24, false)],
  fun K => (Fa.glo "_law_others_right").ok K,
  fun K => (Fa.free "enumerate").ok K,
  fun K => (Fa.free "ValueError").ok K,
  fun K => xiB K nm (.ty "ValueError") [(14, true), (13, true), (12, true), (11, true), (18, true), (17, true), (16, true), (15, true), (22, true), (21, true), (20, true), (19, true), (23, true), (25, false), (24, false)],
  fun K => (Fa.free "range").ok K,
  fun K => (Fa.free "super").ok K,
  fun K => (Fa.glo "law").ok K,
  noLstB]
def spec : MSpec := ⟨fnL, sfL, tsL, exL⟩
section
variable {w : World} {K : PySem.W.Frag} {mg : Str → Option Value} {base : Heap}
theorem bn_NoValueD_initD (E : Ev spec w K mg) : BOk K a_NoValueD_initD ["self", "word"] := FunS.bindsN (E.says.sup 0 (d := sd_NoValueD_initD)) fun _ _ _ _ _ _ us hl => match us, hl with | [_, _], _ => rfl
theorem bd_NoValueD_initD_1_word (E : Ev spec w K mg) : Bnd (GxOf w K mg nm) K (fdOf K a_NoValueD_initD) ["self", "word"] 1 ["word"] ar_bd_NoValueD_initD_1_word :=
  ⟨_, _, FunS.kbindsN (ps := ["self", "word"]) (E.says.sup 0 (d := sd_NoValueD_initD)) 1 ["word"] (fun us ws => arr3 se_bd_NoValueD_initD_1_word us [] ws) (fun r1 r3 => arr3_vals r1 .nil r3 _)
    (fun kV doc pm an cdv ct us ws l1 l2 => match us, l1, ws, l2 with
      | [u0], _, [w0], _ => rfl), fun ρ H args zargs vs zs r1 r2 l1 l2 => arr3_rvs r1 .nil r2 _⟩
theorem sc_NoValueD_initD : NdefX.NScope ["self", "word", "__class__"] ["self", "word"] ["__class__"] (defScope st_NoValueD_initD) := NdefX.nscope_by (by decide +kernel)
theorem ix_NoValueD_initD {z : Bool} (E : Ev spec w K mg) : FnOk P w K mg base (CX z P w) 1 (a_NoValueD_initD K) (fdOf K a_NoValueD_initD) ["self", "word"] (spI (ga K "NoValue") (toStr s_word)) := by
  rw [← t_word]
  refine exFn (k := 0) (m := "a value is none of a switch") (E.says.sup 0 (d := sd_NoValueD_initD)) sc_NoValueD_initD (excB_ok (E.says.ex 1)) (exiB_ok (E.says.ex 2)).no (fun _ _ _ _ _ => (exiB_ok (E.says.ex 2)).supX) (fun A outer s H Ex => ?_)
  exact ex_body (supD_of (E.says.sup 0 (d := sd_NoValueD_initD)) rfl rfl (by rfl) rfl (by kernel_rfl) (by kernel_rfl) (exiB_ok (E.says.ex 2)).any) rfl (E.free 86) rfl rfl (.inr (.inr rfl)) rfl (by first | exact .inl rfl | exact .inr (.inl rfl)) rfl (by first | exact .inl rfl | exact .inr (.inl rfl)) rfl rfl rfl rfl rfl rfl (by decide) (by decide)
theorem bn_NoSwitchD_initD (E : Ev spec w K mg) : BOk K a_NoSwitchD_initD ["self", "word"] := FunS.bindsN (E.says.sup 1 (d := sd_NoSwitchD_initD)) fun _ _ _ _ _ _ us hl => match us, hl with | [_, _], _ => rfl
theorem bd_NoSwitchD_initD_1_word (E : Ev spec w K mg) : Bnd (GxOf w K mg nm) K (fdOf K a_NoSwitchD_initD) ["self", "word"] 1 ["word"] ar_bd_NoSwitchD_initD_1_word :=
  ⟨_, _, FunS.kbindsN (ps := ["self", "word"]) (E.says.sup 1 (d := sd_NoSwitchD_initD)) 1 ["word"] (fun us ws => arr3 se_bd_NoSwitchD_initD_1_word us [] ws) (fun r1 r3 => arr3_vals r1 .nil r3 _)
    (fun kV doc pm an cdv ct us ws l1 l2 => match us, l1, ws, l2 with
      | [u0], _, [w0], _ => rfl), fun ρ H args zargs vs zs r1 r2 l1 l2 => arr3_rvs r1 .nil r2 _⟩
theorem sc_NoSwitchD_initD : NdefX.NScope ["self", "word", "__class__"] ["self", "word"] ["__class__"] (defScope st_NoSwitchD_initD) := NdefX.nscope_by (by decide +kernel)
theorem ix_NoSwitchD_initD {z : Bool} (E : Ev spec w K mg) : FnOk P w K mg base (CX z P w) 1 (a_NoSwitchD_initD K) (fdOf K a_NoSwitchD_initD) ["self", "word"] (spI (ga K "NoSwitch") (toStr s_word)) := by
  rw [← t_word]
  refine exFn (k := 0) (m := "a word is no switch of a book") (E.says.sup 1 (d := sd_NoSwitchD_initD)) sc_NoSwitchD_initD (excB_ok (E.says.ex 4)) (exiB_ok (E.says.ex 5)).no (fun _ _ _ _ _ => (exiB_ok (E.says.ex 5)).supX) (fun A outer s H Ex => ?_)
  exact ex_body (supD_of (E.says.sup 1 (d := sd_NoSwitchD_initD)) rfl rfl (by rfl) rfl (by kernel_rfl) (by kernel_rfl) (exiB_ok (E.says.ex 5)).any) rfl (E.free 86) rfl rfl (.inr (.inr rfl)) rfl (by first | exact .inl rfl | exact .inr (.inl rfl)) rfl (by first | exact .inl rfl | exact .inr (.inl rfl)) rfl rfl rfl rfl rfl rfl (by decide) (by decide)
theorem bn_NoSizeD_initD (E : Ev spec w K mg) : BOk K a_NoSizeD_initD ["self", "size"] := FunS.bindsN (E.says.sup 2 (d := sd_NoSizeD_initD)) fun _ _ _ _ _ _ us hl => match us, hl with | [_, _], _ => rfl
theorem bd_NoSizeD_initD_1_size (E : Ev spec w K mg) : Bnd (GxOf w K mg nm) K (fdOf K a_NoSizeD_initD) ["self", "size"] 1 ["size"] ar_bd_NoSizeD_initD_1_size :=
  ⟨_, _, FunS.kbindsN (ps := ["self", "size"]) (E.says.sup 2 (d := sd_NoSizeD_initD)) 1 ["size"] (fun us ws => arr3 se_bd_NoSizeD_initD_1_size us [] ws) (fun r1 r3 => arr3_vals r1 .nil r3 _)
    (fun kV doc pm an cdv ct us ws l1 l2 => match us, l1, ws, l2 with
      | [u0], _, [w0], _ => rfl), fun ρ H args zargs vs zs r1 r2 l1 l2 => arr3_rvs r1 .nil r2 _⟩
theorem sc_NoSizeD_initD : NdefX.NScope ["self", "size", "__class__"] ["self", "size"] ["__class__"] (defScope st_NoSizeD_initD) := NdefX.nscope_by (by decide +kernel)
theorem ix_NoSizeD_initD {z : Bool} (E : Ev spec w K mg) : FnOk P w K mg base (CX z P w) 1 (a_NoSizeD_initD K) (fdOf K a_NoSizeD_initD) ["self", "size"] (spI (ga K "NoSize") (toStr s_size)) := by
  rw [← t_size]
  refine exFn (k := 0) (m := "a size is none that wrapping numbers can have") (E.says.sup 2 (d := sd_NoSizeD_initD)) sc_NoSizeD_initD (excB_ok (E.says.ex 7)) (exiB_ok (E.says.ex 8)).no (fun _ _ _ _ _ => (exiB_ok (E.says.ex 8)).supX) (fun A outer s H Ex => ?_)
  exact ex_body (supD_of (E.says.sup 2 (d := sd_NoSizeD_initD)) rfl rfl (by rfl) rfl (by kernel_rfl) (by kernel_rfl) (exiB_ok (E.says.ex 8)).any) rfl (E.free 86) rfl rfl (.inr (.inr rfl)) rfl (by first | exact .inl rfl | exact .inr (.inl rfl)) rfl (by first | exact .inl rfl | exact .inr (.inl rfl)) rfl rfl rfl rfl rfl rfl (by decide) (by decide)
theorem bn_NoNumberD_initD (E : Ev spec w K mg) : BOk K a_NoNumberD_initD ["self", "value"] := FunS.bindsN (E.says.sup 3 (d := sd_NoNumberD_initD)) fun _ _ _ _ _ _ us hl => match us, hl with | [_, _], _ => rfl
theorem bd_NoNumberD_initD_1_value (E : Ev spec w K mg) : Bnd (GxOf w K mg nm) K (fdOf K a_NoNumberD_initD) ["self", "value"] 1 ["value"] ar_bd_NoNumberD_initD_1_value :=
  ⟨_, _, FunS.kbindsN (ps := ["self", "value"]) (E.says.sup 3 (d := sd_NoNumberD_initD)) 1 ["value"] (fun us ws => arr3 se_bd_NoNumberD_initD_1_value us [] ws) (fun r1 r3 => arr3_vals r1 .nil r3 _)
    (fun kV doc pm an cdv ct us ws l1 l2 => match us, l1, ws, l2 with
      | [u0], _, [w0], _ => rfl), fun ρ H args zargs vs zs r1 r2 l1 l2 => arr3_rvs r1 .nil r2 _⟩
theorem sc_NoNumberD_initD : NdefX.NScope ["self", "value", "__class__"] ["self", "value"] ["__class__"] (defScope st_NoNumberD_initD) := NdefX.nscope_by (by decide +kernel)
theorem ix_NoNumberD_initD {z : Bool} (E : Ev spec w K mg) : FnOk P w K mg base (CX z P w) 1 (a_NoNumberD_initD K) (fdOf K a_NoNumberD_initD) ["self", "value"] (spI (ga K "NoNumber") (toStr s_value)) := by
  rw [← t_value]
  refine exFn (k := 0) (m := "a value is no number that is allowed") (E.says.sup 3 (d := sd_NoNumberD_initD)) sc_NoNumberD_initD (excB_ok (E.says.ex 10)) (exiB_ok (E.says.ex 11)).no (fun _ _ _ _ _ => (exiB_ok (E.says.ex 11)).supX) (fun A outer s H Ex => ?_)
  exact ex_body (supD_of (E.says.sup 3 (d := sd_NoNumberD_initD)) rfl rfl (by rfl) rfl (by kernel_rfl) (by kernel_rfl) (exiB_ok (E.says.ex 11)).any) rfl (E.free 86) rfl rfl (.inr (.inr rfl)) rfl (by first | exact .inl rfl | exact .inr (.inl rfl)) rfl (by first | exact .inl rfl | exact .inr (.inl rfl)) rfl rfl rfl rfl rfl rfl (by decide) (by decide)
theorem bn_NothingBackD_initD (E : Ev spec w K mg) : BOk K a_NothingBackD_initD ["self", "many"] := FunS.bindsN (E.says.sup 4 (d := sd_NothingBackD_initD)) fun _ _ _ _ _ _ us hl => match us, hl with | [_, _], _ => rfl
theorem bd_NothingBackD_initD_1_many (E : Ev spec w K mg) : Bnd (GxOf w K mg nm) K (fdOf K a_NothingBackD_initD) ["self", "many"] 1 ["many"] ar_bd_NothingBackD_initD_1_many :=
  ⟨_, _, FunS.kbindsN (ps := ["self", "many"]) (E.says.sup 4 (d := sd_NothingBackD_initD)) 1 ["many"] (fun us ws => arr3 se_bd_NothingBackD_initD_1_many us [] ws) (fun r1 r3 => arr3_vals r1 .nil r3 _)
    (fun kV doc pm an cdv ct us ws l1 l2 => match us, l1, ws, l2 with
      | [u0], _, [w0], _ => rfl), fun ρ H args zargs vs zs r1 r2 l1 l2 => arr3_rvs r1 .nil r2 _⟩
theorem sc_NothingBackD_initD : NdefX.NScope ["self", "many", "__class__"] ["self", "many"] ["__class__"] (defScope st_NothingBackD_initD) := NdefX.nscope_by (by decide +kernel)
theorem ix_NothingBackD_initD {z : Bool} (E : Ev spec w K mg) : FnOk P w K mg base (CX z P w) 1 (a_NothingBackD_initD K) (fdOf K a_NothingBackD_initD) ["self", "many"] (spI (ga K "NothingBack") (toStr s_many)) := by
  rw [← t_many]
  refine exFn (k := 0) (m := "so many moves can't be taken back") (E.says.sup 4 (d := sd_NothingBackD_initD)) sc_NothingBackD_initD (excB_ok (E.says.ex 13)) (exiB_ok (E.says.ex 14)).no (fun _ _ _ _ _ => (exiB_ok (E.says.ex 14)).supX) (fun A outer s H Ex => ?_)
  exact ex_body (supD_of (E.says.sup 4 (d := sd_NothingBackD_initD)) rfl rfl (by rfl) rfl (by kernel_rfl) (by kernel_rfl) (exiB_ok (E.says.ex 14)).any) rfl (E.free 86) rfl rfl (.inr (.inr rfl)) rfl (by first | exact .inl rfl | exact .inr (.inl rfl)) rfl (by first | exact .inl rfl | exact .inr (.inl rfl)) rfl rfl rfl rfl rfl rfl (by decide) (by decide)
theorem bn_NoMoveD_initD (E : Ev spec w K mg) : BOk K a_NoMoveD_initD ["self", "index"] := FunS.bindsN (E.says.sup 5 (d := sd_NoMoveD_initD)) fun _ _ _ _ _ _ us hl => match us, hl with | [_, _], _ => rfl
theorem bd_NoMoveD_initD_1_index (E : Ev spec w K mg) : Bnd (GxOf w K mg nm) K (fdOf K a_NoMoveD_initD) ["self", "index"] 1 ["index"] ar_bd_NoMoveD_initD_1_index :=
  ⟨_, _, FunS.kbindsN (ps := ["self", "index"]) (E.says.sup 5 (d := sd_NoMoveD_initD)) 1 ["index"] (fun us ws => arr3 se_bd_NoMoveD_initD_1_index us [] ws) (fun r1 r3 => arr3_vals r1 .nil r3 _)
    (fun kV doc pm an cdv ct us ws l1 l2 => match us, l1, ws, l2 with
      | [u0], _, [w0], _ => rfl), fun ρ H args zargs vs zs r1 r2 l1 l2 => arr3_rvs r1 .nil r2 _⟩
theorem sc_NoMoveD_initD : NdefX.NScope ["self", "index", "__class__"] ["self", "index"] ["__class__"] (defScope st_NoMoveD_initD) := NdefX.nscope_by (by decide +kernel)
theorem ix_NoMoveD_initD {z : Bool} (E : Ev spec w K mg) : FnOk P w K mg base (CX z P w) 1 (a_NoMoveD_initD K) (fdOf K a_NoMoveD_initD) ["self", "index"] (spI (ga K "NoMove") (toStr s_index)) := by
  rw [← t_index]
  refine exFn (k := 0) (m := "a move is not possible") (E.says.sup 5 (d := sd_NoMoveD_initD)) sc_NoMoveD_initD (excB_ok (E.says.ex 16)) (exiB_ok (E.says.ex 17)).no (fun _ _ _ _ _ => (exiB_ok (E.says.ex 17)).supX) (fun A outer s H Ex => ?_)
  exact ex_body (supD_of (E.says.sup 5 (d := sd_NoMoveD_initD)) rfl rfl (by rfl) rfl (by kernel_rfl) (by kernel_rfl) (exiB_ok (E.says.ex 17)).any) rfl (E.free 86) rfl rfl (.inr (.inr rfl)) rfl (by first | exact .inl rfl | exact .inr (.inl rfl)) rfl (by first | exact .inl rfl | exact .inr (.inl rfl)) rfl rfl rfl rfl rfl rfl (by decide) (by decide)
theorem bn_NoSettingD_initD (E : Ev spec w K mg) : BOk K a_NoSettingD_initD ["self", "word"] := FunS.bindsN (E.says.sup 6 (d := sd_NoSettingD_initD)) fun _ _ _ _ _ _ us hl => match us, hl with | [_, _], _ => rfl
theorem bd_NoSettingD_initD_1_word (E : Ev spec w K mg) : Bnd (GxOf w K mg nm) K (fdOf K a_NoSettingD_initD) ["self", "word"] 1 ["word"] ar_bd_NoSettingD_initD_1_word :=
  ⟨_, _, FunS.kbindsN (ps := ["self", "word"]) (E.says.sup 6 (d := sd_NoSettingD_initD)) 1 ["word"] (fun us ws => arr3 se_bd_NoSettingD_initD_1_word us [] ws) (fun r1 r3 => arr3_vals r1 .nil r3 _)
    (fun kV doc pm an cdv ct us ws l1 l2 => match us, l1, ws, l2 with
      | [u0], _, [w0], _ => rfl), fun ρ H args zargs vs zs r1 r2 l1 l2 => arr3_rvs r1 .nil r2 _⟩
theorem sc_NoSettingD_initD : NdefX.NScope ["self", "word", "__class__"] ["self", "word"] ["__class__"] (defScope st_NoSettingD_initD) := NdefX.nscope_by (by decide +kernel)
theorem ix_NoSettingD_initD {z : Bool} (E : Ev spec w K mg) : FnOk P w K mg base (CX z P w) 1 (a_NoSettingD_initD K) (fdOf K a_NoSettingD_initD) ["self", "word"] (spI (ga K "NoSetting") (toStr s_word)) := by
  rw [← t_word]
  refine exFn (k := 0) (m := "a part of a setting is none, or a value is no setting") (E.says.sup 6 (d := sd_NoSettingD_initD)) sc_NoSettingD_initD (excB_ok (E.says.ex 19)) (exiB_ok (E.says.ex 20)).no (fun _ _ _ _ _ => (exiB_ok (E.says.ex 20)).supX) (fun A outer s H Ex => ?_)
  exact ex_body (supD_of (E.says.sup 6 (d := sd_NoSettingD_initD)) rfl rfl (by rfl) rfl (by kernel_rfl) (by kernel_rfl) (exiB_ok (E.says.ex 20)).any) rfl (E.free 86) rfl rfl (.inr (.inr rfl)) rfl (by first | exact .inl rfl | exact .inr (.inl rfl)) rfl (by first | exact .inl rfl | exact .inr (.inl rfl)) rfl rfl rfl rfl rfl rfl (by decide) (by decide)
theorem bn_NoBookD_initD (E : Ev spec w K mg) : BOk K a_NoBookD_initD ["self", "value"] := FunS.bindsN (E.says.sup 7 (d := sd_NoBookD_initD)) fun _ _ _ _ _ _ us hl => match us, hl with | [_, _], _ => rfl
theorem bd_NoBookD_initD_1_value (E : Ev spec w K mg) : Bnd (GxOf w K mg nm) K (fdOf K a_NoBookD_initD) ["self", "value"] 1 ["value"] ar_bd_NoBookD_initD_1_value :=
  ⟨_, _, FunS.kbindsN (ps := ["self", "value"]) (E.says.sup 7 (d := sd_NoBookD_initD)) 1 ["value"] (fun us ws => arr3 se_bd_NoBookD_initD_1_value us [] ws) (fun r1 r3 => arr3_vals r1 .nil r3 _)
    (fun kV doc pm an cdv ct us ws l1 l2 => match us, l1, ws, l2 with
      | [u0], _, [w0], _ => rfl), fun ρ H args zargs vs zs r1 r2 l1 l2 => arr3_rvs r1 .nil r2 _⟩
theorem sc_NoBookD_initD : NdefX.NScope ["self", "value", "__class__"] ["self", "value"] ["__class__"] (defScope st_NoBookD_initD) := NdefX.nscope_by (by decide +kernel)
theorem ix_NoBookD_initD {z : Bool} (E : Ev spec w K mg) : FnOk P w K mg base (CX z P w) 1 (a_NoBookD_initD K) (fdOf K a_NoBookD_initD) ["self", "value"] (spI (ga K "NoBook") (toStr s_value)) := by
  rw [← t_value]
  refine exFn (k := 0) (m := "a value is no book") (E.says.sup 7 (d := sd_NoBookD_initD)) sc_NoBookD_initD (excB_ok (E.says.ex 22)) (exiB_ok (E.says.ex 23)).no (fun _ _ _ _ _ => (exiB_ok (E.says.ex 23)).supX) (fun A outer s H Ex => ?_)
  exact ex_body (supD_of (E.says.sup 7 (d := sd_NoBookD_initD)) rfl rfl (by rfl) rfl (by kernel_rfl) (by kernel_rfl) (exiB_ok (E.says.ex 23)).any) rfl (E.free 86) rfl rfl (.inr (.inr rfl)) rfl (by first | exact .inl rfl | exact .inr (.inl rfl)) rfl (by first | exact .inl rfl | exact .inr (.inl rfl)) rfl rfl rfl rfl rfl rfl (by decide) (by decide)
theorem bn_NoNoteD_initD (E : Ev spec w K mg) : BOk K a_NoNoteD_initD ["self", "line"] := FunS.bindsN (E.says.sup 8 (d := sd_NoNoteD_initD)) fun _ _ _ _ _ _ us hl => match us, hl with | [_, _], _ => rfl
theorem bd_NoNoteD_initD_1_line (E : Ev spec w K mg) : Bnd (GxOf w K mg nm) K (fdOf K a_NoNoteD_initD) ["self", "line"] 1 ["line"] ar_bd_NoNoteD_initD_1_line :=
  ⟨_, _, FunS.kbindsN (ps := ["self", "line"]) (E.says.sup 8 (d := sd_NoNoteD_initD)) 1 ["line"] (fun us ws => arr3 se_bd_NoNoteD_initD_1_line us [] ws) (fun r1 r3 => arr3_vals r1 .nil r3 _)
    (fun kV doc pm an cdv ct us ws l1 l2 => match us, l1, ws, l2 with
      | [u0], _, [w0], _ => rfl), fun ρ H args zargs vs zs r1 r2 l1 l2 => arr3_rvs r1 .nil r2 _⟩
theorem sc_NoNoteD_initD : NdefX.NScope ["self", "line", "__class__"] ["self", "line"] ["__class__"] (defScope st_NoNoteD_initD) := NdefX.nscope_by (by decide +kernel)
theorem ix_NoNoteD_initD {z : Bool} (E : Ev spec w K mg) : FnOk P w K mg base (CX z P w) 1 (a_NoNoteD_initD K) (fdOf K a_NoNoteD_initD) ["self", "line"] (spI (ga K "NoNote") (toStr s_line)) := by
  rw [← t_line]
  refine exFn (k := 0) (m := "a row is not written as it has to be") (E.says.sup 8 (d := sd_NoNoteD_initD)) sc_NoNoteD_initD (excB_ok (E.says.ex 25)) (exiB_ok (E.says.ex 26)).no (fun _ _ _ _ _ => (exiB_ok (E.says.ex 26)).supX) (fun A outer s H Ex => ?_)
  exact ex_body (supD_of (E.says.sup 8 (d := sd_NoNoteD_initD)) rfl rfl (by rfl) rfl (by kernel_rfl) (by kernel_rfl) (exiB_ok (E.says.ex 26)).any) rfl (E.free 86) rfl rfl (.inr (.inr rfl)) rfl (by first | exact .inl rfl | exact .inr (.inl rfl)) rfl (by first | exact .inl rfl | exact .inr (.inl rfl)) rfl rfl rfl rfl rfl rfl (by decide) (by decide)
theorem bn_NoPickD_initD (E : Ev spec w K mg) : BOk K a_NoPickD_initD ["self", "pick"] := FunS.bindsN (E.says.sup 9 (d := sd_NoPickD_initD)) fun _ _ _ _ _ _ us hl => match us, hl with | [_, _], _ => rfl
theorem bd_NoPickD_initD_1_pick (E : Ev spec w K mg) : Bnd (GxOf w K mg nm) K (fdOf K a_NoPickD_initD) ["self", "pick"] 1 ["pick"] ar_bd_NoPickD_initD_1_pick :=
  ⟨_, _, FunS.kbindsN (ps := ["self", "pick"]) (E.says.sup 9 (d := sd_NoPickD_initD)) 1 ["pick"] (fun us ws => arr3 se_bd_NoPickD_initD_1_pick us [] ws) (fun r1 r3 => arr3_vals r1 .nil r3 _)
    (fun kV doc pm an cdv ct us ws l1 l2 => match us, l1, ws, l2 with
      | [u0], _, [w0], _ => rfl), fun ρ H args zargs vs zs r1 r2 l1 l2 => arr3_rvs r1 .nil r2 _⟩
theorem sc_NoPickD_initD : NdefX.NScope ["self", "pick", "__class__"] ["self", "pick"] ["__class__"] (defScope st_NoPickD_initD) := NdefX.nscope_by (by decide +kernel)
theorem ix_NoPickD_initD {z : Bool} (E : Ev spec w K mg) : FnOk P w K mg base (CX z P w) 1 (a_NoPickD_initD K) (fdOf K a_NoPickD_initD) ["self", "pick"] (spI (ga K "NoPick") (toStr s_pick)) := by
  rw [← t_pick]
  refine exFn (k := 0) (m := "a pick is none, or makes no book") (E.says.sup 9 (d := sd_NoPickD_initD)) sc_NoPickD_initD (excB_ok (E.says.ex 28)) (exiB_ok (E.says.ex 29)).no (fun _ _ _ _ _ => (exiB_ok (E.says.ex 29)).supX) (fun A outer s H Ex => ?_)
  exact ex_body (supD_of (E.says.sup 9 (d := sd_NoPickD_initD)) rfl rfl (by rfl) rfl (by kernel_rfl) (by kernel_rfl) (exiB_ok (E.says.ex 29)).any) rfl (E.free 86) rfl rfl (.inr (.inr rfl)) rfl (by first | exact .inl rfl | exact .inr (.inl rfl)) rfl (by first | exact .inl rfl | exact .inr (.inl rfl)) rfl rfl rfl rfl rfl rfl (by decide) (by decide)
theorem bn_NoChangeD_initD (E : Ev spec w K mg) : BOk K a_NoChangeD_initD ["self", "at"] := FunS.bindsN (E.says.sup 10 (d := sd_NoChangeD_initD)) fun _ _ _ _ _ _ us hl => match us, hl with | [_, _], _ => rfl
theorem bd_NoChangeD_initD_1_at (E : Ev spec w K mg) : Bnd (GxOf w K mg nm) K (fdOf K a_NoChangeD_initD) ["self", "at"] 1 ["at"] ar_bd_NoChangeD_initD_1_at :=
  ⟨_, _, FunS.kbindsN (ps := ["self", "at"]) (E.says.sup 10 (d := sd_NoChangeD_initD)) 1 ["at"] (fun us ws => arr3 se_bd_NoChangeD_initD_1_at us [] ws) (fun r1 r3 => arr3_vals r1 .nil r3 _)
    (fun kV doc pm an cdv ct us ws l1 l2 => match us, l1, ws, l2 with
      | [u0], _, [w0], _ => rfl), fun ρ H args zargs vs zs r1 r2 l1 l2 => arr3_rvs r1 .nil r2 _⟩
theorem sc_NoChangeD_initD : NdefX.NScope ["self", "at", "__class__"] ["self", "at"] ["__class__"] (defScope st_NoChangeD_initD) := NdefX.nscope_by (by decide +kernel)
theorem ix_NoChangeD_initD {z : Bool} (E : Ev spec w K mg) : FnOk P w K mg base (CX z P w) 1 (a_NoChangeD_initD K) (fdOf K a_NoChangeD_initD) ["self", "at"] (spI (ga K "NoChange") (toStr s_at)) := by
  rw [← t_at]
  refine exFn (k := 0) (m := "a change is none of the book") (E.says.sup 10 (d := sd_NoChangeD_initD)) sc_NoChangeD_initD (excB_ok (E.says.ex 31)) (exiB_ok (E.says.ex 32)).no (fun _ _ _ _ _ => (exiB_ok (E.says.ex 32)).supX) (fun A outer s H Ex => ?_)
  exact ex_body (supD_of (E.says.sup 10 (d := sd_NoChangeD_initD)) rfl rfl (by rfl) rfl (by kernel_rfl) (by kernel_rfl) (exiB_ok (E.says.ex 32)).any) rfl (E.free 86) rfl rfl (.inr (.inr rfl)) rfl (by first | exact .inl rfl | exact .inr (.inl rfl)) rfl (by first | exact .inl rfl | exact .inr (.inl rfl)) rfl rfl rfl rfl rfl rfl (by decide) (by decide)
theorem bn_NoTableD_initD (E : Ev spec w K mg) : BOk K a_NoTableD_initD ["self", "states"] := FunS.bindsN (E.says.sup 11 (d := sd_NoTableD_initD)) fun _ _ _ _ _ _ us hl => match us, hl with | [_, _], _ => rfl
theorem bd_NoTableD_initD_1_states (E : Ev spec w K mg) : Bnd (GxOf w K mg nm) K (fdOf K a_NoTableD_initD) ["self", "states"] 1 ["states"] ar_bd_NoTableD_initD_1_states :=
  ⟨_, _, FunS.kbindsN (ps := ["self", "states"]) (E.says.sup 11 (d := sd_NoTableD_initD)) 1 ["states"] (fun us ws => arr3 se_bd_NoTableD_initD_1_states us [] ws) (fun r1 r3 => arr3_vals r1 .nil r3 _)
    (fun kV doc pm an cdv ct us ws l1 l2 => match us, l1, ws, l2 with
      | [u0], _, [w0], _ => rfl), fun ρ H args zargs vs zs r1 r2 l1 l2 => arr3_rvs r1 .nil r2 _⟩
theorem sc_NoTableD_initD : NdefX.NScope ["self", "states", "__class__"] ["self", "states"] ["__class__"] (defScope st_NoTableD_initD) := NdefX.nscope_by (by decide +kernel)
theorem ix_NoTableD_initD {z : Bool} (E : Ev spec w K mg) : FnOk P w K mg base (CX z P w) 1 (a_NoTableD_initD K) (fdOf K a_NoTableD_initD) ["self", "states"] (spI (ga K "NoTable") (toStr s_states)) := by
  rw [← t_states]
  refine exFn (k := 0) (m := "values are no states of a table") (E.says.sup 11 (d := sd_NoTableD_initD)) sc_NoTableD_initD (excB_ok (E.says.ex 34)) (exiB_ok (E.says.ex 35)).no (fun _ _ _ _ _ => (exiB_ok (E.says.ex 35)).supX) (fun A outer s H Ex => ?_)
  exact ex_body (supD_of (E.says.sup 11 (d := sd_NoTableD_initD)) rfl rfl (by rfl) rfl (by kernel_rfl) (by kernel_rfl) (exiB_ok (E.says.ex 35)).any) rfl (E.free 86) rfl rfl (.inr (.inr rfl)) rfl (by first | exact .inl rfl | exact .inr (.inl rfl)) rfl (by first | exact .inl rfl | exact .inr (.inl rfl)) rfl rfl rfl rfl rfl rfl (by decide) (by decide)
theorem bn_IsSafeD_initD (E : Ev spec w K mg) : BOk K a_IsSafeD_initD ["self", "value"] := FunS.bindsN (E.says.sup 12 (d := sd_IsSafeD_initD)) fun _ _ _ _ _ _ us hl => match us, hl with | [_, _], _ => rfl
theorem bd_IsSafeD_initD_1_value (E : Ev spec w K mg) : Bnd (GxOf w K mg nm) K (fdOf K a_IsSafeD_initD) ["self", "value"] 1 ["value"] ar_bd_IsSafeD_initD_1_value :=
  ⟨_, _, FunS.kbindsN (ps := ["self", "value"]) (E.says.sup 12 (d := sd_IsSafeD_initD)) 1 ["value"] (fun us ws => arr3 se_bd_IsSafeD_initD_1_value us [] ws) (fun r1 r3 => arr3_vals r1 .nil r3 _)
    (fun kV doc pm an cdv ct us ws l1 l2 => match us, l1, ws, l2 with
      | [u0], _, [w0], _ => rfl), fun ρ H args zargs vs zs r1 r2 l1 l2 => arr3_rvs r1 .nil r2 _⟩
theorem sc_IsSafeD_initD : NdefX.NScope ["self", "value", "__class__"] ["self", "value"] ["__class__"] (defScope st_IsSafeD_initD) := NdefX.nscope_by (by decide +kernel)
theorem ix_IsSafeD_initD {z : Bool} (E : Ev spec w K mg) : FnOk P w K mg base (CX z P w) 1 (a_IsSafeD_initD K) (fdOf K a_IsSafeD_initD) ["self", "value"] (spI (ga K "IsSafe") (toStr s_value)) := by
  rw [← t_value]
  refine exFn (k := 0) (m := "a book is safe, so there is no breaking run") (E.says.sup 12 (d := sd_IsSafeD_initD)) sc_IsSafeD_initD (excB_ok (E.says.ex 37)) (exiB_ok (E.says.ex 38)).no (fun _ _ _ _ _ => (exiB_ok (E.says.ex 38)).supX) (fun A outer s H Ex => ?_)
  exact ex_body (supD_of (E.says.sup 12 (d := sd_IsSafeD_initD)) rfl rfl (by rfl) rfl (by kernel_rfl) (by kernel_rfl) (exiB_ok (E.says.ex 38)).any) rfl (E.free 86) rfl rfl (.inr (.inr rfl)) rfl (by first | exact .inl rfl | exact .inr (.inl rfl)) rfl (by first | exact .inl rfl | exact .inr (.inl rfl)) rfl rfl rfl rfl rfl rfl (by decide) (by decide)
theorem bn__law_by_name (E : Ev spec w K mg) : BOk K a__law_by_name ["_law_thing"] := FunD.bindsN (E.says.def_ 0 (d := gd__law_by_name)) fun _ _ _ _ _ _ us hl => match us, hl with | [_], _ => rfl
theorem sc__law_by_name : FnScope ["_law_thing", "_law_found"] ["_law_thing"] (defScope st__law_by_name) := ⟨rfl, rfl, rfl, by decide +kernel, rfl, by decide +kernel, by decide +kernel⟩
theorem ok__law_by_name {z : Bool} (E : Ev spec w K mg) : DOk z P w K mg base nm 4 a__law_by_name ["_law_thing"] f__law_by_name := by
  obtain ⟨hX, XI, Gn⟩ := E.hh
  have sc := sc__law_by_name
  refine ⟨fn_M (N := ["_law_thing", "_law_found"]) (E.says.def_ 0 (d := gd__law_by_name)) sc rfl (fun cdv A outer s H Ex hr tk hp => ?_), arity_runB, (E.says.def_ 0 (d := gd__law_by_name)).kp⟩
  exact (ms_cons (ms_set (i := 1) sc.nd rfl (by first | exact .inl rfl | exact .inr rfl) (me_lst (ma_cons (me_callK0 (callK_exvB (z := false) (c := 11) (f := s_value) (excB_ok (E.says.ex 10)) (exiB_ok (E.says.ex 11)).ini (exiB_ok (E.says.ex 11)).ty (ix_NoNumberD_initD E) (hr.mono (by decide)) (bd_NoNumberD_initD_1_value E) (fun _ _ => rfl) rfl) rfl (E.glo 12) (excB_ok (E.says.ex 10)).kC (mk_cons (xv 0) mk_nil)) (ma_cons (me_callK0 (callK_exvB (z := false) (c := 12) (f := s_size) (excB_ok (E.says.ex 7)) (exiB_ok (E.says.ex 8)).ini (exiB_ok (E.says.ex 8)).ty (ix_NoSizeD_initD E) (hr.mono (by decide)) (bd_NoSizeD_initD_1_size E) (fun _ _ => rfl) rfl) rfl (E.glo 9) (excB_ok (E.says.ex 7)).kC (mk_cons (xv 0) mk_nil)) (ma_cons (me_callK0 (callK_exvB (z := false) (c := 13) (f := s_word) (excB_ok (E.says.ex 4)) (exiB_ok (E.says.ex 5)).ini (exiB_ok (E.says.ex 5)).ty (ix_NoSwitchD_initD E) (hr.mono (by decide)) (bd_NoSwitchD_initD_1_word E) (fun _ _ => rfl) rfl) rfl (E.glo 6) (excB_ok (E.says.ex 4)).kC (mk_cons (xv 0) mk_nil)) (ma_cons (me_callK0 (callK_exvB (z := false) (c := 14) (f := s_word) (excB_ok (E.says.ex 1)) (exiB_ok (E.says.ex 2)).ini (exiB_ok (E.says.ex 2)).ty (ix_NoValueD_initD E) (hr.mono (by decide)) (bd_NoValueD_initD_1_word E) (fun _ _ => rfl) rfl) rfl (E.glo 3) (excB_ok (E.says.ex 1)).kC (mk_cons (xv 0) mk_nil)) ma_nil)))))) (ms_cons (ms_set (i := 1) sc.nd rfl (by first | exact .inl rfl | exact .inr rfl) (me_bin (mo_add rfl) (xv 1) (me_lst (ma_cons (me_callK0 (callK_exvB (z := false) (c := 15) (f := s_value) (excB_ok (E.says.ex 22)) (exiB_ok (E.says.ex 23)).ini (exiB_ok (E.says.ex 23)).ty (ix_NoBookD_initD E) (hr.mono (by decide)) (bd_NoBookD_initD_1_value E) (fun _ _ => rfl) rfl) rfl (E.glo 24) (excB_ok (E.says.ex 22)).kC (mk_cons (xv 0) mk_nil)) (ma_cons (me_callK0 (callK_exvB (z := false) (c := 16) (f := s_word) (excB_ok (E.says.ex 19)) (exiB_ok (E.says.ex 20)).ini (exiB_ok (E.says.ex 20)).ty (ix_NoSettingD_initD E) (hr.mono (by decide)) (bd_NoSettingD_initD_1_word E) (fun _ _ => rfl) rfl) rfl (E.glo 21) (excB_ok (E.says.ex 19)).kC (mk_cons (xv 0) mk_nil)) (ma_cons (me_callK0 (callK_exvB (z := false) (c := 17) (f := s_index) (excB_ok (E.says.ex 16)) (exiB_ok (E.says.ex 17)).ini (exiB_ok (E.says.ex 17)).ty (ix_NoMoveD_initD E) (hr.mono (by decide)) (bd_NoMoveD_initD_1_index E) (fun _ _ => rfl) rfl) rfl (E.glo 18) (excB_ok (E.says.ex 16)).kC (mk_cons (xv 0) mk_nil)) (ma_cons (me_callK0 (callK_exvB (z := false) (c := 18) (f := s_many) (excB_ok (E.says.ex 13)) (exiB_ok (E.says.ex 14)).ini (exiB_ok (E.says.ex 14)).ty (ix_NothingBackD_initD E) (hr.mono (by decide)) (bd_NothingBackD_initD_1_many E) (fun _ _ => rfl) rfl) rfl (E.glo 15) (excB_ok (E.says.ex 13)).kC (mk_cons (xv 0) mk_nil)) ma_nil))))))) (ms_cons (ms_set (i := 1) sc.nd rfl (by first | exact .inl rfl | exact .inr rfl) (me_bin (mo_add rfl) (xv 1) (me_lst (ma_cons (me_callK0 (callK_exvB (z := false) (c := 19) (f := s_states) (excB_ok (E.says.ex 34)) (exiB_ok (E.says.ex 35)).ini (exiB_ok (E.says.ex 35)).ty (ix_NoTableD_initD E) (hr.mono (by decide)) (bd_NoTableD_initD_1_states E) (fun _ _ => rfl) rfl) rfl (E.glo 36) (excB_ok (E.says.ex 34)).kC (mk_cons (xv 0) mk_nil)) (ma_cons (me_callK0 (callK_exvB (z := false) (c := 20) (f := s_at) (excB_ok (E.says.ex 31)) (exiB_ok (E.says.ex 32)).ini (exiB_ok (E.says.ex 32)).ty (ix_NoChangeD_initD E) (hr.mono (by decide)) (bd_NoChangeD_initD_1_at E) (fun _ _ => rfl) rfl) rfl (E.glo 33) (excB_ok (E.says.ex 31)).kC (mk_cons (xv 0) mk_nil)) (ma_cons (me_callK0 (callK_exvB (z := false) (c := 21) (f := s_pick) (excB_ok (E.says.ex 28)) (exiB_ok (E.says.ex 29)).ini (exiB_ok (E.says.ex 29)).ty (ix_NoPickD_initD E) (hr.mono (by decide)) (bd_NoPickD_initD_1_pick E) (fun _ _ => rfl) rfl) rfl (E.glo 30) (excB_ok (E.says.ex 28)).kC (mk_cons (xv 0) mk_nil)) (ma_cons (me_callK0 (callK_exvB (z := false) (c := 22) (f := s_line) (excB_ok (E.says.ex 25)) (exiB_ok (E.says.ex 26)).ini (exiB_ok (E.says.ex 26)).ty (ix_NoNoteD_initD E) (hr.mono (by decide)) (bd_NoNoteD_initD_1_line E) (fun _ _ => rfl) rfl) rfl (E.glo 27) (excB_ok (E.says.ex 25)).kC (mk_cons (xv 0) mk_nil)) ma_nil))))))) (ms_cons (ms_ret (me_bin (mo_add rfl) (xv 1) (me_lst (ma_cons (me_callK0 (callK_exvB (z := false) (c := 23) (f := s_value) (excB_ok (E.says.ex 37)) (exiB_ok (E.says.ex 38)).ini (exiB_ok (E.says.ex 38)).ty (ix_IsSafeD_initD E) (hr.mono (by decide)) (bd_IsSafeD_initD_1_value E) (fun _ _ => rfl) rfl) rfl (E.glo 39) (excB_ok (E.says.ex 37)).kC (mk_cons (xv 0) mk_nil)) ma_nil)))) ms_nil))))
theorem bn__law_by_place (E : Ev spec w K mg) : BOk K a__law_by_place ["_law_thing"] := FunD.bindsN (E.says.def_ 1 (d := gd__law_by_place)) fun _ _ _ _ _ _ us hl => match us, hl with | [_], _ => rfl
theorem sc__law_by_place : FnScope ["_law_thing", "_law_found"] ["_law_thing"] (defScope st__law_by_place) := ⟨rfl, rfl, rfl, by decide +kernel, rfl, by decide +kernel, by decide +kernel⟩
theorem ok__law_by_place (E : Ev spec w K mg) : DOk false P w K mg base nm 4 a__law_by_place ["_law_thing"] f__law_by_place := by
  obtain ⟨hX, XI, Gn⟩ := E.hh
  have sc := sc__law_by_place
  refine ⟨fn_M (N := ["_law_thing", "_law_found"]) (E.says.def_ 1 (d := gd__law_by_place)) sc rfl (fun cdv A outer s H Ex hr tk hp => ?_), arity_runB, (E.says.def_ 1 (d := gd__law_by_place)).kp⟩
  exact (ms_cons (ms_set (i := 1) sc.nd rfl (by first | exact .inl rfl | exact .inr rfl) (me_lst (ma_cons (me_call (callM_exv (z := false) (c := 11) (f := s_value) (excB_ok (E.says.ex 10)) (exiB_ok (E.says.ex 11)).ini (exiB_ok (E.says.ex 11)).ty (ix_NoNumberD_initD E) (hr.mono (by decide)) rfl (bn_NoNumberD_initD E) rfl) rfl (E.glo 12) (excB_ok (E.says.ex 10)).kC (ma_cons (xv 0) ma_nil)) (ma_cons (me_call (callM_exv (z := false) (c := 12) (f := s_size) (excB_ok (E.says.ex 7)) (exiB_ok (E.says.ex 8)).ini (exiB_ok (E.says.ex 8)).ty (ix_NoSizeD_initD E) (hr.mono (by decide)) rfl (bn_NoSizeD_initD E) rfl) rfl (E.glo 9) (excB_ok (E.says.ex 7)).kC (ma_cons (xv 0) ma_nil)) (ma_cons (me_call (callM_exv (z := false) (c := 13) (f := s_word) (excB_ok (E.says.ex 4)) (exiB_ok (E.says.ex 5)).ini (exiB_ok (E.says.ex 5)).ty (ix_NoSwitchD_initD E) (hr.mono (by decide)) rfl (bn_NoSwitchD_initD E) rfl) rfl (E.glo 6) (excB_ok (E.says.ex 4)).kC (ma_cons (xv 0) ma_nil)) (ma_cons (me_call (callM_exv (z := false) (c := 14) (f := s_word) (excB_ok (E.says.ex 1)) (exiB_ok (E.says.ex 2)).ini (exiB_ok (E.says.ex 2)).ty (ix_NoValueD_initD E) (hr.mono (by decide)) rfl (bn_NoValueD_initD E) rfl) rfl (E.glo 3) (excB_ok (E.says.ex 1)).kC (ma_cons (xv 0) ma_nil)) (ma_cons (me_call (callM_exv (z := false) (c := 15) (f := s_value) (excB_ok (E.says.ex 22)) (exiB_ok (E.says.ex 23)).ini (exiB_ok (E.says.ex 23)).ty (ix_NoBookD_initD E) (hr.mono (by decide)) rfl (bn_NoBookD_initD E) rfl) rfl (E.glo 24) (excB_ok (E.says.ex 22)).kC (ma_cons (xv 0) ma_nil)) (ma_cons (me_call (callM_exv (z := false) (c := 16) (f := s_word) (excB_ok (E.says.ex 19)) (exiB_ok (E.says.ex 20)).ini (exiB_ok (E.says.ex 20)).ty (ix_NoSettingD_initD E) (hr.mono (by decide)) rfl (bn_NoSettingD_initD E) rfl) rfl (E.glo 21) (excB_ok (E.says.ex 19)).kC (ma_cons (xv 0) ma_nil)) ma_nil)))))))) (ms_cons (ms_set (i := 1) sc.nd rfl (by first | exact .inl rfl | exact .inr rfl) (me_bin (mo_add rfl) (xv 1) (me_lst (ma_cons (me_call (callM_exv (z := false) (c := 17) (f := s_index) (excB_ok (E.says.ex 16)) (exiB_ok (E.says.ex 17)).ini (exiB_ok (E.says.ex 17)).ty (ix_NoMoveD_initD E) (hr.mono (by decide)) rfl (bn_NoMoveD_initD E) rfl) rfl (E.glo 18) (excB_ok (E.says.ex 16)).kC (ma_cons (xv 0) ma_nil)) (ma_cons (me_call (callM_exv (z := false) (c := 18) (f := s_many) (excB_ok (E.says.ex 13)) (exiB_ok (E.says.ex 14)).ini (exiB_ok (E.says.ex 14)).ty (ix_NothingBackD_initD E) (hr.mono (by decide)) rfl (bn_NothingBackD_initD E) rfl) rfl (E.glo 15) (excB_ok (E.says.ex 13)).kC (ma_cons (xv 0) ma_nil)) (ma_cons (me_call (callM_exv (z := false) (c := 19) (f := s_states) (excB_ok (E.says.ex 34)) (exiB_ok (E.says.ex 35)).ini (exiB_ok (E.says.ex 35)).ty (ix_NoTableD_initD E) (hr.mono (by decide)) rfl (bn_NoTableD_initD E) rfl) rfl (E.glo 36) (excB_ok (E.says.ex 34)).kC (ma_cons (xv 0) ma_nil)) (ma_cons (me_call (callM_exv (z := false) (c := 20) (f := s_at) (excB_ok (E.says.ex 31)) (exiB_ok (E.says.ex 32)).ini (exiB_ok (E.says.ex 32)).ty (ix_NoChangeD_initD E) (hr.mono (by decide)) rfl (bn_NoChangeD_initD E) rfl) rfl (E.glo 33) (excB_ok (E.says.ex 31)).kC (ma_cons (xv 0) ma_nil)) (ma_cons (me_call (callM_exv (z := false) (c := 21) (f := s_pick) (excB_ok (E.says.ex 28)) (exiB_ok (E.says.ex 29)).ini (exiB_ok (E.says.ex 29)).ty (ix_NoPickD_initD E) (hr.mono (by decide)) rfl (bn_NoPickD_initD E) rfl) rfl (E.glo 30) (excB_ok (E.says.ex 28)).kC (ma_cons (xv 0) ma_nil)) ma_nil)))))))) (ms_cons (ms_ret (me_bin (mo_add rfl) (xv 1) (me_lst (ma_cons (me_call (callM_exv (z := false) (c := 22) (f := s_line) (excB_ok (E.says.ex 25)) (exiB_ok (E.says.ex 26)).ini (exiB_ok (E.says.ex 26)).ty (ix_NoNoteD_initD E) (hr.mono (by decide)) rfl (bn_NoNoteD_initD E) rfl) rfl (E.glo 27) (excB_ok (E.says.ex 25)).kC (ma_cons (xv 0) ma_nil)) (ma_cons (me_call (callM_exv (z := false) (c := 23) (f := s_value) (excB_ok (E.says.ex 37)) (exiB_ok (E.says.ex 38)).ini (exiB_ok (E.says.ex 38)).ty (ix_IsSafeD_initD E) (hr.mono (by decide)) rfl (bn_IsSafeD_initD E) rfl) rfl (E.glo 39) (excB_ok (E.says.ex 37)).kC (ma_cons (xv 0) ma_nil)) ma_nil))))) ms_nil)))
theorem bn__law_kept (E : Ev spec w K mg) : BOk K a__law_kept ["_law_found"] := FunD.bindsN (E.says.def_ 2 (d := gd__law_kept)) fun _ _ _ _ _ _ us hl => match us, hl with | [_], _ => rfl
theorem sc__law_kept : FnScope ["_law_found", "_law_parts"] ["_law_found"] (defScope st__law_kept) := ⟨rfl, rfl, rfl, by decide +kernel, rfl, by decide +kernel, by decide +kernel⟩
theorem ok__law_kept {z : Bool} (E : Ev spec w K mg) : DOk z P w K mg base nm 1 a__law_kept ["_law_found"] f__law_kept := by
  obtain ⟨hX, XI, Gn⟩ := E.hh
  have sc := sc__law_kept
  refine ⟨fn_M (N := ["_law_found", "_law_parts"]) (E.says.def_ 2 (d := gd__law_kept)) sc rfl (fun cdv A outer s H Ex hr tk hp => ?_), arity_runB, (E.says.def_ 2 (d := gd__law_kept)).kp⟩
  exact (ms_cons (ms_set (i := 1) sc.nd rfl (by first | exact .inl rfl | exact .inr rfl) (me_lst (ma_cons (me_fldX t_value (xcB_ok (E.says.ex 43)) (me_ix rfl (hu1 hr) (xv 0) me_int (by intro _ _; rfl)) rfl) (ma_cons (me_fldX t_size (xcB_ok (E.says.ex 44)) (me_ix rfl (hu1 hr) (xv 0) me_int (by intro _ _; rfl)) rfl) (ma_cons (me_fldX t_word (xcB_ok (E.says.ex 42)) (me_ix rfl (hu1 hr) (xv 0) me_int (by intro _ _; rfl)) rfl) (ma_cons (me_fldX t_word (xcB_ok (E.says.ex 42)) (me_ix rfl (hu1 hr) (xv 0) me_int (by intro _ _; rfl)) rfl) (ma_cons (me_fldX t_value (xcB_ok (E.says.ex 43)) (me_ix rfl (hu1 hr) (xv 0) me_int (by intro _ _; rfl)) rfl) (ma_cons (me_fldX t_word (xcB_ok (E.says.ex 42)) (me_ix rfl (hu1 hr) (xv 0) me_int (by intro _ _; rfl)) rfl) ma_nil)))))))) (ms_cons (ms_set (i := 1) sc.nd rfl (by first | exact .inl rfl | exact .inr rfl) (me_bin (mo_add rfl) (xv 1) (me_lst (ma_cons (me_fldX t_index (xcB_ok (E.says.ex 49)) (me_ix rfl (hu1 hr) (xv 0) me_int (by intro _ _; rfl)) rfl) (ma_cons (me_fldX t_many (xcB_ok (E.says.ex 48)) (me_ix rfl (hu1 hr) (xv 0) me_int (by intro _ _; rfl)) rfl) (ma_cons (me_fldX t_states (xcB_ok (E.says.ex 47)) (me_ix rfl (hu1 hr) (xv 0) me_int (by intro _ _; rfl)) rfl) (ma_cons (me_fldX t_at (xcB_ok (E.says.ex 46)) (me_ix rfl (hu1 hr) (xv 0) me_int (by intro _ _; rfl)) rfl) (ma_cons (me_fldX t_pick (xcB_ok (E.says.ex 45)) (me_ix rfl (hu1 hr) (xv 0) me_int (by intro _ _; rfl)) rfl) ma_nil)))))))) (ms_cons (ms_ret (me_bin (mo_add rfl) (xv 1) (me_lst (ma_cons (me_fldX t_line (xcB_ok (E.says.ex 50)) (me_ix rfl (hu1 hr) (xv 0) me_int (by intro _ _; rfl)) rfl) (ma_cons (me_fldX t_value (xcB_ok (E.says.ex 43)) (me_ix rfl (hu1 hr) (xv 0) me_int (by intro _ _; rfl)) rfl) ma_nil))))) ms_nil)))
theorem bn_NoHandD_initD (E : Ev spec w K mg) : BOk K a_NoHandD_initD ["self", "hand"] := FunS.bindsN (E.says.sup 13 (d := sd_NoHandD_initD)) fun _ _ _ _ _ _ us hl => match us, hl with | [_, _], _ => rfl
theorem bd_NoHandD_initD_1_hand (E : Ev spec w K mg) : Bnd (GxOf w K mg nm) K (fdOf K a_NoHandD_initD) ["self", "hand"] 1 ["hand"] ar_bd_NoHandD_initD_1_hand :=
  ⟨_, _, FunS.kbindsN (ps := ["self", "hand"]) (E.says.sup 13 (d := sd_NoHandD_initD)) 1 ["hand"] (fun us ws => arr3 se_bd_NoHandD_initD_1_hand us [] ws) (fun r1 r3 => arr3_vals r1 .nil r3 _)
    (fun kV doc pm an cdv ct us ws l1 l2 => match us, l1, ws, l2 with
      | [u0], _, [w0], _ => rfl), fun ρ H args zargs vs zs r1 r2 l1 l2 => arr3_rvs r1 .nil r2 _⟩
theorem sc_NoHandD_initD : NdefX.NScope ["self", "hand", "__class__"] ["self", "hand"] ["__class__"] (defScope st_NoHandD_initD) := NdefX.nscope_by (by decide +kernel)
theorem ix_NoHandD_initD (E : Ev spec w K mg) : FnOk P w K mg base (CX false P w) 1 (a_NoHandD_initD K) (fdOf K a_NoHandD_initD) ["self", "hand"] (spI (ga K "NoHand") (toStr s_hand)) := by
  rw [← t_hand]
  refine exFnT (k := 0) (m := "no such hand") (E.says.sup 13 (d := sd_NoHandD_initD)) sc_NoHandD_initD (excTB_ok (E.says.ex 52)) (exiTB_ok (E.says.ex 53)).no (fun _ _ _ _ _ => (exiTB_ok (E.says.ex 53)).supX) (fun A outer s H Ex => ?_)
  exact ex_bodyT xb_KeyError (supD_of (E.says.sup 13 (d := sd_NoHandD_initD)) rfl rfl (by rfl) rfl (by kernel_rfl) (by kernel_rfl) (exiTB_ok (E.says.ex 53)).any) rfl (E.free 86) rfl rfl (.inr (.inr rfl)) rfl (by first | exact .inl rfl | exact .inr (.inl rfl)) rfl (by first | exact .inl rfl | exact .inr (.inl rfl)) rfl rfl rfl rfl rfl rfl (by decide) (by decide)
theorem bn_TooManyD_initD (E : Ev spec w K mg) : BOk K a_TooManyD_initD ["self", "most"] := FunS.bindsN (E.says.sup 14 (d := sd_TooManyD_initD)) fun _ _ _ _ _ _ us hl => match us, hl with | [_, _], _ => rfl
theorem bd_TooManyD_initD_1_most (E : Ev spec w K mg) : Bnd (GxOf w K mg nm) K (fdOf K a_TooManyD_initD) ["self", "most"] 1 ["most"] ar_bd_TooManyD_initD_1_most :=
  ⟨_, _, FunS.kbindsN (ps := ["self", "most"]) (E.says.sup 14 (d := sd_TooManyD_initD)) 1 ["most"] (fun us ws => arr3 se_bd_TooManyD_initD_1_most us [] ws) (fun r1 r3 => arr3_vals r1 .nil r3 _)
    (fun kV doc pm an cdv ct us ws l1 l2 => match us, l1, ws, l2 with
      | [u0], _, [w0], _ => rfl), fun ρ H args zargs vs zs r1 r2 l1 l2 => arr3_rvs r1 .nil r2 _⟩
theorem sc_TooManyD_initD : NdefX.NScope ["self", "most", "__class__"] ["self", "most"] ["__class__"] (defScope st_TooManyD_initD) := NdefX.nscope_by (by decide +kernel)
theorem ix_TooManyD_initD (E : Ev spec w K mg) : FnOk P w K mg base (CX false P w) 1 (a_TooManyD_initD K) (fdOf K a_TooManyD_initD) ["self", "most"] (spI (ga K "TooMany") (toStr s_most)) := by
  rw [← t_most]
  refine exFnT (k := 0) (m := "more than allowed") (E.says.sup 14 (d := sd_TooManyD_initD)) sc_TooManyD_initD (excTB_ok (E.says.ex 55)) (exiTB_ok (E.says.ex 56)).no (fun _ _ _ _ _ => (exiTB_ok (E.says.ex 56)).supX) (fun A outer s H Ex => ?_)
  exact ex_bodyT xb_OverflowError (supD_of (E.says.sup 14 (d := sd_TooManyD_initD)) rfl rfl (by rfl) rfl (by kernel_rfl) (by kernel_rfl) (exiTB_ok (E.says.ex 56)).any) rfl (E.free 86) rfl rfl (.inr (.inr rfl)) rfl (by first | exact .inl rfl | exact .inr (.inl rfl)) rfl (by first | exact .inl rfl | exact .inr (.inl rfl)) rfl rfl rfl rfl rfl rfl (by decide) (by decide)
theorem bn__law_kinds (E : Ev spec w K mg) : BOk K a__law_kinds ["_law_e"] := FunD.bindsN (E.says.def_ 3 (d := gd__law_kinds)) fun _ _ _ _ _ _ us hl => match us, hl with | [_], _ => rfl
theorem sc__law_kinds : FnScope ["_law_e", "_law_kinds_here"] ["_law_e"] (defScope st__law_kinds) := ⟨rfl, rfl, rfl, by decide +kernel, rfl, by decide +kernel, by decide +kernel⟩
theorem ok__law_kinds {z : Bool} (E : Ev spec w K mg) : DOk z P w K mg base nm 1 a__law_kinds ["_law_e"] f__law_kinds := by
  obtain ⟨hX, XI, Gn⟩ := E.hh
  have sc := sc__law_kinds
  refine ⟨fn_M (N := ["_law_e", "_law_kinds_here"]) (E.says.def_ 3 (d := gd__law_kinds)) sc rfl (fun cdv A outer s H Ex hr tk hp => ?_), arity_runB, (E.says.def_ 3 (d := gd__law_kinds)).kp⟩
  exact (ms_cons (ms_set (i := 1) sc.nd rfl (by first | exact .inl rfl | exact .inr rfl) (me_lst (ma_cons (me_isX (xiB_ok (r := .own "NoNumber") (E.says.ex 66)) rfl (E.free 62) (xv 0) (pe_cl rfl (E.glo 12)) (ClsR.ok _ (.own "NoNumber"))) (ma_cons (me_isX (xiB_ok (r := .own "NoSize") (E.says.ex 65)) rfl (E.free 62) (xv 0) (pe_cl rfl (E.glo 9)) (ClsR.ok _ (.own "NoSize"))) (ma_cons (me_isX (xiB_ok (r := .own "NoSwitch") (E.says.ex 64)) rfl (E.free 62) (xv 0) (pe_cl rfl (E.glo 6)) (ClsR.ok _ (.own "NoSwitch"))) (ma_cons (me_isX (xiB_ok (r := .own "NoValue") (E.says.ex 63)) rfl (E.free 62) (xv 0) (pe_cl rfl (E.glo 3)) (ClsR.ok _ (.own "NoValue"))) ma_nil)))))) (ms_cons (ms_set (i := 1) sc.nd rfl (by first | exact .inl rfl | exact .inr rfl) (me_bin (mo_add rfl) (xv 1) (me_lst (ma_cons (me_isX (xiB_ok (r := .own "NoBook") (E.says.ex 69)) rfl (E.free 62) (xv 0) (pe_cl rfl (E.glo 24)) (ClsR.ok _ (.own "NoBook"))) (ma_cons (me_isX (xiB_ok (r := .own "NoSetting") (E.says.ex 68)) rfl (E.free 62) (xv 0) (pe_cl rfl (E.glo 21)) (ClsR.ok _ (.own "NoSetting"))) (ma_cons (me_isX (xiB_ok (r := .own "NoMove") (E.says.ex 67)) rfl (E.free 62) (xv 0) (pe_cl rfl (E.glo 18)) (ClsR.ok _ (.own "NoMove"))) ma_nil)))))) (ms_cons (ms_set (i := 1) sc.nd rfl (by first | exact .inl rfl | exact .inr rfl) (me_bin (mo_add rfl) (xv 1) (me_lst (ma_cons (me_isX (xiB_ok (r := .own "NothingBack") (E.says.ex 72)) rfl (E.free 62) (xv 0) (pe_cl rfl (E.glo 15)) (ClsR.ok _ (.own "NothingBack"))) (ma_cons (me_isX (xiB_ok (r := .own "NoTable") (E.says.ex 71)) rfl (E.free 62) (xv 0) (pe_cl rfl (E.glo 36)) (ClsR.ok _ (.own "NoTable"))) (ma_cons (me_isX (xiB_ok (r := .own "NoChange") (E.says.ex 70)) rfl (E.free 62) (xv 0) (pe_cl rfl (E.glo 33)) (ClsR.ok _ (.own "NoChange"))) ma_nil)))))) (ms_cons (ms_ret (me_bin (mo_add rfl) (xv 1) (me_lst (ma_cons (me_isX (xiB_ok (r := .own "NoPick") (E.says.ex 75)) rfl (E.free 62) (xv 0) (pe_cl rfl (E.glo 30)) (ClsR.ok _ (.own "NoPick"))) (ma_cons (me_isX (xiB_ok (r := .own "NoNote") (E.says.ex 74)) rfl (E.free 62) (xv 0) (pe_cl rfl (E.glo 27)) (ClsR.ok _ (.own "NoNote"))) (ma_cons (me_isX (xiB_ok (r := .own "IsSafe") (E.says.ex 73)) rfl (E.free 62) (xv 0) (pe_cl rfl (E.glo 39)) (ClsR.ok _ (.own "IsSafe"))) ma_nil)))))) ms_nil))))
theorem bn__law_others_right (E : Ev spec w K mg) : BOk K a__law_others_right ["_law_thing"] := FunD.bindsN (E.says.def_ 4 (d := gd__law_others_right)) fun _ _ _ _ _ _ us hl => match us, hl with | [_], _ => rfl
theorem sc__law_others_right : FnScope ["_law_thing", "_law_some", "_law_e"] ["_law_thing"] (defScope st__law_others_right) := ⟨rfl, rfl, rfl, by decide +kernel, rfl, by decide +kernel, by decide +kernel⟩
theorem ok__law_others_right (E : Ev spec w K mg) : DOk false P w K mg base nm 4 a__law_others_right ["_law_thing"] f__law_others_right := by
  obtain ⟨hX, XI, Gn⟩ := E.hh
  have sc := sc__law_others_right
  refine ⟨fn_M (N := ["_law_thing", "_law_some", "_law_e"]) (E.says.def_ 4 (d := gd__law_others_right)) sc rfl (fun cdv A outer s H Ex hr tk hp => ?_), arity_runB, (E.says.def_ 4 (d := gd__law_others_right)).kp⟩
  exact (ms_cons (ms_set (i := 1) sc.nd rfl (by first | exact .inl rfl | exact .inr rfl) (me_lst (ma_cons (me_call (callM_exvT (z := false) (c := 24) (f := s_most) xb_OverflowError (excTB_ok (E.says.ex 55)) (exiTB_ok (E.says.ex 56)).ini (exiTB_ok (E.says.ex 56)).ty (ix_TooManyD_initD E) (hr.mono (by decide)) rfl (bn_TooManyD_initD E) rfl) rfl (E.glo 57) (excTB_ok (E.says.ex 55)).kC (ma_cons (xv 0) ma_nil)) (ma_cons (me_callK0 (callK_exvTB (z := false) (c := 24) (f := s_most) xb_OverflowError (excTB_ok (E.says.ex 55)) (exiTB_ok (E.says.ex 56)).ini (exiTB_ok (E.says.ex 56)).ty (ix_TooManyD_initD E) (hr.mono (by decide)) (bd_TooManyD_initD_1_most E) (fun _ _ => rfl) rfl) rfl (E.glo 57) (excTB_ok (E.says.ex 55)).kC (mk_cons (xv 0) mk_nil)) (ma_cons (me_call (callM_exvT (z := false) (c := 25) (f := s_hand) xb_KeyError (excTB_ok (E.says.ex 52)) (exiTB_ok (E.says.ex 53)).ini (exiTB_ok (E.says.ex 53)).ty (ix_NoHandD_initD E) (hr.mono (by decide)) rfl (bn_NoHandD_initD E) rfl) rfl (E.glo 54) (excTB_ok (E.says.ex 52)).kC (ma_cons (xv 0) ma_nil)) (ma_cons (me_callK0 (callK_exvTB (z := false) (c := 25) (f := s_hand) xb_KeyError (excTB_ok (E.says.ex 52)) (exiTB_ok (E.says.ex 53)).ini (exiTB_ok (E.says.ex 53)).ty (ix_NoHandD_initD E) (hr.mono (by decide)) (bd_NoHandD_initD_1_hand E) (fun _ _ => rfl) rfl) rfl (E.glo 54) (excTB_ok (E.says.ex 52)).kC (mk_cons (xv 0) mk_nil)) ma_nil)))))) (ms_cons (ms_if (mt_cmpR (mo_ne rfl (hu64 hr)) (me_lst (ma_cons (me_fldX t_most (xcB_ok (E.says.ex 59)) (me_ix rfl (hu1 hr) (xv 1) me_int (by intro _ _; rfl)) rfl) (ma_cons (me_fldX t_most (xcB_ok (E.says.ex 59)) (me_ix rfl (hu1 hr) (xv 1) me_int (by intro _ _; rfl)) rfl) (ma_cons (me_fldX t_hand (xcB_ok (E.says.ex 58)) (me_ix rfl (hu1 hr) (xv 1) me_int (by intro _ _; rfl)) rfl) (ma_cons (me_fldX t_hand (xcB_ok (E.says.ex 58)) (me_ix rfl (hu1 hr) (xv 1) me_int (by intro _ _; rfl)) rfl) ma_nil))))) (me_bin (mo_mul rfl) (me_lst (ma_cons (xv 0) ma_nil)) me_int) rfl) (ms_one (ms_ret me_bl)) ms_nil) (ms_cons (ms_if (mt_cmpR (mo_ne rfl (hu64 hr)) (me_lc1 (t := .one 2) (own := [(("_law_e" : Str), 2)]) rfl rfl sc.nd (mi_seq rfl (xv 1)) (blkOk_by (by kernel_rfl)) (by decide) (fun _ _ _ _ _ => (pg_name sc.nd rfl (by first | exact .inl rfl | exact .inr rfl))) (fun _ _ _ _ _ => (PW.pt (mw_or (mt_val (me_isX (xiB_ok (r := .own "RoomsError") (E.says.ex 61)) rfl (E.free 62) (xv 2) (pe_cl rfl (E.glo 60)) (ClsR.ok _ (.own "RoomsError")))) (mw_or1 (mt_cmpR (mo_in rfl (hu65 hr)) me_bl (xcall (ok__law_kinds E) (bn__law_kinds E) hr takes0 (E.glo 76) (ma_cons (xv 2) ma_nil)) rfl))))) (fun _ _ _ _ _ => (xv 2))) (me_lst ma_nil) rfl) (ms_one (ms_ret me_bl)) ms_nil) (ms_cons (ms_if (PW.pt (mw_or (mt_not (mt_val (me_isX (xiB_ok (r := .ty "OverflowError") (E.says.ex 78)) rfl (E.free 62) (me_ix rfl (hu1 hr) (xv 1) me_int (by intro _ _; rfl)) (pe_ty rfl (E.free 77) boot_OverflowError) (ClsR.ok _ (.ty "OverflowError"))))) (mw_or1 (mt_val (me_isX (xiB_ok (r := .ty "KeyError") (E.says.ex 80)) rfl (E.free 62) (me_ix rfl (hu1 hr) (xv 1) me_int (by intro _ _; rfl)) (pe_ty rfl (E.free 79) boot_KeyError) (ClsR.ok _ (.ty "KeyError"))))))) (ms_one (ms_ret me_bl)) ms_nil) (ms_cons (ms_ret (me_and (me_isX (xiB_ok (r := .ty "KeyError") (E.says.ex 80)) rfl (E.free 62) (me_ix rfl (hu1 hr) (xv 1) me_int (by intro _ _; rfl)) (pe_ty rfl (E.free 79) boot_KeyError) (ClsR.ok _ (.ty "KeyError"))) (me_one (me_not (me_isX (xiB_ok (r := .ty "OverflowError") (E.says.ex 78)) rfl (E.free 62) (me_ix rfl (hu1 hr) (xv 1) me_int (by intro _ _; rfl)) (pe_ty rfl (E.free 77) boot_OverflowError) (ClsR.ok _ (.ty "OverflowError"))))))) ms_nil)))))
theorem sc_law : FnScope ["_law_script", "_law_thing", "_law_found", "_law_own", "_law_e", "_law_spot"] ["_law_script"] (defScope st_law) := ⟨rfl, rfl, rfl, by decide +kernel, rfl, by decide +kernel, by decide +kernel⟩
theorem ok_law (E : Ev spec w K mg) : DOk false P w K mg base nm 7 a_law ["_law_script"] f_law := by
  obtain ⟨hX, XI, Gn⟩ := E.hh
  have sc := sc_law
  refine ⟨fn_M (N := ["_law_script", "_law_thing", "_law_found", "_law_own", "_law_e", "_law_spot"]) (E.says.def_ 5 (d := gd_law)) sc rfl (fun cdv A outer s H Ex hr tk hp => ?_), arity_runB, (E.says.def_ 5 (d := gd_law)).kp⟩
  exact (ms_cons (ms_for hp rfl (mi_seq rfl (me_lst (ma_cons (me_cb (mc_len rfl) rfl (E.free 0) boot_len (ma_cons (xv 0) ma_nil)) (ma_cons me_non (ma_cons (me_str t_a) (ma_cons (me_lst (ma_cons me_int (ma_cons (me_str t_b) ma_nil))) (ma_cons (me_tup (ma_cons me_int ma_nil)) (ma_cons me_bl ma_nil)))))))) (mg_name sc.nd rfl (by first | exact .inl rfl | exact .inr rfl)) (onlyNx_name _) (ms_one (ms_for hp rfl (mi_seq rfl (me_lst (ma_cons (xcall (ok__law_by_place E) (bn__law_by_place E) hr tk (E.glo 41) (ma_cons (xv 1) ma_nil)) (ma_cons (xcall (ok__law_by_name E) (bn__law_by_name E) hr tk (E.glo 40) (ma_cons (xv 1) ma_nil)) ma_nil)))) (mg_name sc.nd rfl (by first | exact .inl rfl | exact .inr rfl)) (onlyNx_name _) (ms_cons (ms_if (PW.pt (mw_or (mt_cmpR (mo_ne rfl (hu64 hr)) (xcall (ok__law_kept E) (bn__law_kept E) hr tk (E.glo 51) (ma_cons (xv 2) ma_nil)) (me_bin (mo_mul rfl) (me_lst (ma_cons (xv 1) ma_nil)) me_int) rfl) (mw_or1 (mt_not (mt_val (xcall (ok__law_others_right E) (bn__law_others_right E) hr tk (E.glo 81) (ma_cons (xv 1) ma_nil))))))) (ms_one (ms_ret me_bl)) ms_nil) (ms_cons (ms_for hp rfl (mi_enum rfl rfl (E.free 82) (xv 2)) (mg_tgt (t := .many [3, 4]) rfl (pg_tup rfl (pgs_cons (pg_name sc.nd rfl (by first | exact .inl rfl | exact .inr rfl)) (pgs_cons (pg_name sc.nd rfl (by first | exact .inl rfl | exact .inr rfl)) pgs_nil)))) (onlyNx_tgt _) (ms_cons (ms_if (PW.pt (mw_or (mt_not (mt_val (me_isX (xiB_ok (r := .own "RoomsError") (E.says.ex 61)) rfl (E.free 62) (xv 4) (pe_cl rfl (E.glo 60)) (ClsR.ok _ (.own "RoomsError"))))) (mw_or1 (mt_not (mt_val (me_isX (xiB_ok (r := .ty "ValueError") (E.says.ex 84)) rfl (E.free 62) (xv 4) (pe_ty rfl (E.free 83) boot_ValueError) (ClsR.ok _ (.ty "ValueError")))))))) (ms_one (ms_ret me_bl)) ms_nil) (ms_cons (ms_if (mt_cmpR (mo_ne rfl (hu64 hr)) (xcall (ok__law_kinds E) (bn__law_kinds E) hr tk (E.glo 76) (ma_cons (xv 4) ma_nil)) (me_lc0 (t := .one 5) (own := [(("_law_spot" : Str), 5)]) rfl rfl sc.nd (mi_rng1 rfl (E.free 85) (ma_cons me_int ma_nil) rfl aCons1) (blkOk_by (by kernel_rfl)) (by decide) (fun _ _ _ _ _ => (pg_name sc.nd rfl (by first | exact .inl rfl | exact .inr rfl))) (fun _ _ _ _ _ => (me_cmp (mo_eqX rfl (hu64 hr)) (xv 5) (xv 3) rfl))) rfl) (ms_one (ms_ret me_bl)) ms_nil) ms_nil))) ms_nil))))) (ms_cons (ms_ret me_bl) ms_nil))
end
end Lw
end
section
set_option synthInstance.maxHeartbeats 0
set_option synthInstance.maxSize 1000000
namespace Lw
open PySem L2 ML
instance : LAr ar_bd_NoValueD_initD_1_word := ⟨fun r vs vs' zs zs' a b => arr32 a (CVs.self r) b _⟩
instance : LAr ar_bd_NoSwitchD_initD_1_word := ⟨fun r vs vs' zs zs' a b => arr32 a (CVs.self r) b _⟩
instance : LAr ar_bd_NoSizeD_initD_1_size := ⟨fun r vs vs' zs zs' a b => arr32 a (CVs.self r) b _⟩
instance : LAr ar_bd_NoNumberD_initD_1_value := ⟨fun r vs vs' zs zs' a b => arr32 a (CVs.self r) b _⟩
instance : LAr ar_bd_NothingBackD_initD_1_many := ⟨fun r vs vs' zs zs' a b => arr32 a (CVs.self r) b _⟩
instance : LAr ar_bd_NoMoveD_initD_1_index := ⟨fun r vs vs' zs zs' a b => arr32 a (CVs.self r) b _⟩
instance : LAr ar_bd_NoSettingD_initD_1_word := ⟨fun r vs vs' zs zs' a b => arr32 a (CVs.self r) b _⟩
instance : LAr ar_bd_NoBookD_initD_1_value := ⟨fun r vs vs' zs zs' a b => arr32 a (CVs.self r) b _⟩
instance : LAr ar_bd_NoNoteD_initD_1_line := ⟨fun r vs vs' zs zs' a b => arr32 a (CVs.self r) b _⟩
instance : LAr ar_bd_NoPickD_initD_1_pick := ⟨fun r vs vs' zs zs' a b => arr32 a (CVs.self r) b _⟩
instance : LAr ar_bd_NoChangeD_initD_1_at := ⟨fun r vs vs' zs zs' a b => arr32 a (CVs.self r) b _⟩
instance : LAr ar_bd_NoTableD_initD_1_states := ⟨fun r vs vs' zs zs' a b => arr32 a (CVs.self r) b _⟩
instance : LAr ar_bd_IsSafeD_initD_1_value := ⟨fun r vs vs' zs zs' a b => arr32 a (CVs.self r) b _⟩
instance : LAr ar_bd_NoHandD_initD_1_hand := ⟨fun r vs vs' zs zs' a b => arr32 a (CVs.self r) b _⟩
instance : LAr ar_bd_TooManyD_initD_1_most := ⟨fun r vs vs' zs zs' a b => arr32 a (CVs.self r) b _⟩
instance : LF f__law_by_name := lf_runB (by unfold m__law_by_name; infer_instance)
instance : LF f__law_by_place := lf_runB (by unfold m__law_by_place; infer_instance)
instance : LF f__law_kept := lf_runB (by unfold m__law_kept; infer_instance)
instance : LF f__law_kinds := lf_runB (by unfold m__law_kinds; infer_instance)
instance : LF f__law_others_right := lf_runB (by unfold m__law_others_right; infer_instance)
instance : LF f_law := lf_runB (by unfold m_law; infer_instance)
end Lw
end
section
namespace ML
open PySem PySem.Spec PyProof.Rows L2 He
theorem ints_rv {G : Gx} {ρ : List Addr} {H : Hp} : ∀ ns : List Int, RVs G ρ H (ns.map VI.int) (ns.map V.int)
  | [] => .nil
  | n :: ns => .cons (.int n) (ints_rv ns)
theorem scr_ag {G : Gx} {K : PySem.W.Frag} {H : Hp} {a : Addr} {ns : List Int} (nl : noLstB K = true) (hO : Only H) (hS : SqL K H a (ns.map V.int)) : Ag G [a] [.scr (ns.map VI.int)] H := by
  refine ⟨by simp, rfl, fun n o e => ?_⟩
  cases n with
  | succ n => simp at e
  | zero =>
    cases e
    refine ⟨a, rfl, ?_⟩
    rcases hS with (h | ⟨ob, h⟩) | ⟨o, its, n, h, hc, _⟩
    · rcases hO a with z | ⟨o, xs, z⟩
      · rw [z] at h; cases h
      · rw [z] at h; cases h
    · exact ⟨ob, _, h, ints_rv ns⟩
    · exact absurd hc (noLst_ok nl h)
theorem law_sp {G : Gx} {K : PySem.W.Frag} {H : Hp} {a : Addr} {ns : List Int} {g : MF} {h' : Hi} (nl : noLstB K = true) (hO : Only H) (hS : SqL K H a (ns.map V.int)) (e : g [.ref 0] [.scr (ns.map VI.int)] = .ok (.bl true) h') :
    spM G 1 g [.ref a] H (fun v _ => v = .bl true) fun _ _ _ => False := by
  refine ⟨[a], [.scr (ns.map VI.int)], [.ref 0], rfl, scr_ag nl hO hS, .cons (.ref rfl) .nil, ?_⟩
  rw [e]
  intro ρ' H' x _ _ r
  cases r
  rfl
theorem fn_cx0 {P : Program} {w : World} {K : PySem.W.Frag} {mg : Str → Option Value} {base : Heap} {k : Nat} {f : Addr} {fd : FuncData} {ps : List Str} {sp : Sp} (F : FnOk P w K mg base (L2.CX P w) k f fd ps sp) :
    FnOk P w K mg base CX0 k f fd ps fun vs H Q _ => sp vs H Q fun _ _ _ => False :=
  ⟨fun vs H Q E h => F.len vs H Q _ h, fun A outer s H args us vs Q E hr e0 hb hv h => codeAny_mono (F.run A outer s H args us vs Q (fun _ _ _ => False) hr e0 hb hv h) fun r s' q => by
    cases r with
    | ok f => cases f <;> exact q
    | error e =>
      obtain ⟨_, _, _, _, _, _, _, _, _, _, _, _, z⟩ := q
      exact z.elim⟩
end ML
end
section
namespace ML
open PySem PySem.Spec PyProof.Rows L2 He
def obsLG (as : List Addr) (m : MSpec) (g : Addr → Option Obj) : AlM := obsM m (frG g as)
def hookL (as : List Addr) (m : MSpec) : PySem.W.Hook where
  α := AlM
  obs := fun s => obsLG as m s.heap.get?
  val := fun w => valM m w
  says := fun w h => ∃ K : PySem.W.Frag, K.In h ∧ SaysM m w K
  of := fun _ _ e => ⟨_, frG_in, e⟩
  keeps := fun _ _ _ ⟨K, hK, c⟩ k => ⟨K, PySem.W.Frag.In.keeps hK k, c⟩
theorem obsLG_eq {as : List Addr} {m : MSpec} {g : Addr → Option Obj} {s : Shared} (h : ∀ a, g a = s.heap.get? a) : obsLG as m g = (hookL as m).obs s := by
  have e : g = s.heap.get? := funext h
  rw [e] <;> rfl
end ML
end
section
noncomputable section
namespace MHP
open PySem PySem.W PySem.Calls PyProof.Rows HandSHeadRun
section
variable (st : SharedT → Thread → Option (SharedT × Thread)) (n0 : Nat) (ann : Option Value)
def segF (b : Nat) : Nat → SharedT → Thread → Option (Flow × SharedT × Code × Pos)
  | 0, _, _ => none
  | m + 1, s, t => match endAt b t with
    | some f => some (f, s, t.code, t.pos)
    | none => match stepOk n0 ann t with
      | false => none
      | true => match st s t with
        | some (s', t') => frS s' fun s' => segF b m s' t'
        | none => none
def topF : Nat → SharedT → Thread → Option (SharedT × Thread)
  | 0, s, t => some (s, t)
  | m + 1, s, t => match through t with
    | true => none
    | false => match stepOk n0 ann t with
      | false => none
      | true => match st s t with
        | some (s', t') => frS s' fun s' => topF m s' t'
        | none => none
end
section
variable {tb : String → Option Builtin} {p : Program} {w : World} {n0 : Nat} {ann : Option Value} {b : Nat}
theorem segF_ok : ∀ {m : Nat} {s s' : SharedT} {t : Thread} {f : Flow} {c : Code} {q : Pos}, segF (stepT (denote tb) p w) n0 ann b m s t = some (f, s', c, q) → segRun tb p w n0 ann b m s.abs t = some (f, s'.abs, c, q)
  | 0, _, _, _, _, _, _, h => by cases h
  | m + 1, s, s', t, f, c, q, h => by
    unfold segF at h
    unfold segRun
    cases he : endAt b t with
    | some x => rw [he] at h; cases h; rfl
    | none =>
      rw [he] at h
      cases hk : stepOk n0 ann t with
      | false => rw [hk] at h; cases h
      | true =>
        rw [hk] at h
        cases hs : stepT (denote tb) p w s t with
        | none => rw [hs] at h; cases h
        | some r =>
          obtain ⟨s2, t2⟩ := r
          rw [hs] at h
          dsimp only at h
          rw [frS_eq] at h
          rw [stepT_spec hs]
          exact segF_ok h
theorem topF_ok : ∀ {m : Nat} {s s' : SharedT} {t t' : Thread}, topF (stepT (denote tb) p w) n0 ann m s t = some (s', t') → topGo tb p w n0 ann m s.abs t = some (s'.abs, t')
  | 0, _, _, _, _, h => by cases h; rfl
  | m + 1, s, s', t, t', h => by
    unfold topF at h
    unfold topGo
    cases he : through t with
    | true => rw [he] at h; cases h
    | false =>
      rw [he] at h
      cases hk : stepOk n0 ann t with
      | false => rw [hk] at h; cases h
      | true =>
        rw [hk] at h
        cases hs : stepT (denote tb) p w s t with
        | none => rw [hs] at h; cases h
        | some r =>
          obtain ⟨s2, t2⟩ := r
          rw [hs] at h
          dsimp only at h
          rw [frS_eq] at h
          rw [stepT_spec hs]
          exact topF_ok h
end
def preF (st : SharedT → Thread → Option (SharedT × Thread)) (n0 : Nat) (ann : Option Value) (k : Nat) (p : Program) (w : World) (os : OsState) : Option (SharedT × Thread) := match putAll (boot_heap w.params).objs.toList .nil 0 with
  | some (t, n) => topF st n0 ann k (bootT w os (t, n)) (topStub p)
  | none => none
theorem preF_ok {tb : String → Option Builtin} {n0 k : Nat} {ann : Option Value} {p : Program} {w : World} {os : OsState} {s : SharedT} {t : Thread} (h : preF (stepT (denote tb) p w) n0 ann k p w os = some (s, t)) :
    topGo tb p w n0 ann k ⟨boot_heap w.params, #[], boot_drawn, boot_toks, os⟩ (topStub p) = some (s.abs, t) := by
  unfold preF at h
  cases e : putAll (boot_heap w.params).objs.toList .nil 0 with
  | none => rw [e] at h; cases h
  | some r =>
    obtain ⟨T, n⟩ := r
    rw [e] at h
    have q := topF_ok h
    have eh := putAll_heap e
    have eb : (bootT w os (T, n)).abs = ⟨boot_heap w.params, #[], boot_drawn, boot_toks, os⟩ := by
      show (⟨absHeap T n (boot_heap w.params).life, #[], boot_drawn, boot_toks, os⟩ : Shared) = _
      rw [eh]
    rw [eb] at q
    exact q
theorem fin_ok {p : Program} {w : World} {n0 m : Nat} {ann : Option Value} {s s' : SharedT} {t : Thread} (h : goF (stepQ (denQ tabQ) p w) n0 ann m s t = some s') : topRun treeTable p w n0 ann m s.abs t = some s'.abs :=
  goF_ok (by rw [stepQ_eq, denQ_eq, tabQ_eq]; exact h)
theorem seg_ok {p : Program} {w : World} {n0 m : Nat} {ann : Option Value} {s s' : SharedT} {t : Thread} {c : Code} {q : Pos} (h : segF (stepQ (denQ tabQ) p w) n0 ann 1 m s t = some (.next, s', c, q)) : segRun treeTable p w n0 ann 1 m s.abs t = some (.next, s'.abs, c, q) :=
  segF_ok (by rw [stepQ_eq, denQ_eq, tabQ_eq]; exact h)
theorem left_pc {p q : Program} {loose : List Str} {Xt : Shared → Bool} {α : Type} {Yf : Shared → α} {Ya : World → α} {N k0 M1 m0 : Nat} {ann : Option Value} {A Z : World → OsState → SharedT} {th : Thread}
    (e : opening p = plainProg p.main.scope.names) (hN : Nat.ble 600 N = true) (f : ∀ s, fenceModules? p s = some s) (le : Nat.ble (k0 + M1) N = true)
    (hm : ∀ w : World, (boot_heap w.params).objs.size = m0) (ha : ∀ w : World, bootAnn w = ann)
    (pre : ∀ (w : World) (os : OsState), preF (stepQ (denQ tabQ) p w) m0 ann k0 p w os = some (A w os, th))
    (rest : ∀ (w : World) (os : OsState), topRun treeTable p w m0 ann M1 (A w os).abs th = some (Z w os).abs)
    (l1 : ∀ (w : World) (os : OsState), looksF p (boot_heap w.params) (Z w os).abs = true)
    (l2 : ∀ (w : World) (os : OsState), seenQ q loose (importedModules p.main.body) Xt (Z w os).abs = openGood q loose)
    (l3 : ∀ (w : World) (os : OsState), Yf (Z w os).abs = Ya w) : LeftO p q loose Xt Yf Ya N true := fun w => by
  obtain ⟨⟨h, gs, d, k, os⟩, a, a'⟩ := Option.map_eq_some_iff.mp (boot_open e hN f w)
  obtain ⟨rfl, rfl, rfl, rfl⟩ : h = boot_heap w.params ∧ gs = Array.mk [] ∧ d = boot_drawn ∧ k = boot_toks := by simpa using a'
  have pr := pre w os
  rw [← stepQ_eq, ← denQ_eq, ← tabQ_eq] at pr
  have r0 := go_top (preF_ok pr) (rest w os)
  rw [← hm w, ← ha w] at r0
  have r := topRun_mono (N - (k0 + M1)) _ _ _ _ r0
  rw [show k0 + M1 + (N - (k0 + M1)) = N by have := Nat.le_of_ble_eq_true le; omega] at r
  have l1' : (staticsOk (importedModules p.main.body) (boot_heap w.params) (Z w os).abs.heap && namesBound p (Z w os).abs.heap && gensDone (Z w os).abs && laidKept (boot_heap w.params) (Z w os).abs.heap) = true := l1 w os
  have t : topFrom treeTable p w N ⟨boot_heap w.params, Array.mk [], boot_drawn, boot_toks, os⟩ = some (Z w os).abs := by
    unfold topFrom
    dsimp only
    rw [boot_ns]
    show (topRun treeTable p w (boot_heap w.params).objs.size (bootAnn w) N ⟨boot_heap w.params, #[], boot_drawn, boot_toks, os⟩ (topStub p)).bind _ = _
    rw [r]
    show (match staticsOk (importedModules p.main.body) (boot_heap w.params) (Z w os).abs.heap && namesBound p (Z w os).abs.heap && gensDone (Z w os).abs && laidKept (boot_heap w.params) (Z w os).abs.heap with | true => some (Z w os).abs | false => none) = _
    rw [l1']
  have l2' := l2 w os
  rw [← seenQ_eq] at l2'
  unfold openEnds
  rw [a]
  show (topFrom treeTable p w N _).map _ = _
  rw [t]
  exact congrArg some (Prod.ext l2' (l3 w os))
theorem head_left {r : OpenRow} {q : Program} {H : Hook} {N : Nat} {loose : List PySem.Str} {d : DefRec} {kwd : List (PySem.Str × PySem.Expr)}
    (left : LeftO r.prog q loose (fun s => xlAt q [] s && recOk r.toRowW.records s) H.obs H.val N true)
    (hdef : defOf q r.name = some (d, kwd)) (hp : r.prog.theDef r.name = some (d.params, d.body, d.scope)) (hk : kwWritten? d.params.kwonlyargs d.params.kw_defaults = some kwd)
    (hwr : (!r.writes || r.records.isEmpty) = true) (k1 : r.wellSaid = true) (ok : (chainsOk q && opensWell r.prog && (frees r.toRowW && r.within.isEmpty)) = true) (hb : r.prog.bare) (hw : r.toRowW.promised)
    (call : WalkO q loose (XL q []) H.says r.toRowW d kwd fun f vs => PySem.call f vs) : r.Holds :=
  holds_open (r := r) (q := q) (loose := loose) (XP := XL q []) (YP := H.says) (d := d) (kwd := kwd) left H.of H.keeps (fun s z => xl_of s (Bool.and_eq_true_iff.mp z).1) XL.keeps hdef hp hk (fun s z => recFacts_of (Bool.and_eq_true_iff.mp z).2) hwr k1 ok hb hw call
def tS (p : Program) (i : Nat) : Stmt := p.main.body.getD i (.Pass ⟨0, 0, 0, 0⟩)
def cS (p : Program) (i j : Nat) : Stmt := (match tS p i with
  | .ClassDef _ _ _ b _ _ _ _ _ _ _ => b
  | _ => []).getD j (.Pass ⟨0, 0, 0, 0⟩)
def sub (l : List Stmt) (a n : Nat) : List Stmt := (l.drop a).take n
end MHP
end
section
set_option maxHeartbeats 0
namespace Lw
open PySem PySem.Spec PyProof.Rows PySem.W L2 He MHP HandSHeadRun
abbrev Rr : OpenRow := OpenLaw.row PySem.Challenge.rw_epochrooms_k80_errors_by_hand
abbrev PP : Program := PySem.Challenge.pw_epochrooms_k80_errors_by_hand
abbrev zA (i : Nat) := defArgs (tS PP i)
abbrev zAC (i j : Nat) := defArgs (cS PP i j)
abbrev zB (i : Nat) := defBody (tS PP i)
abbrev zBC (i j : Nat) := defBody (cS PP i j)
abbrev zS (i : Nat) := defScope (tS PP i)
abbrev zSC (i j : Nat) := defScope (cS PP i j)
abbrev zo (x : String) : Str := .ofString x
abbrev zi (n : Int) : Value := .int n 0
abbrev N := @BT.node
abbrev Z := BT.nil
abbrev zhK (P : Params) (x : String) := PyData.keyHash P (.ofString x)
abbrev zsK (x : String) (n : Nat) : Value := .str (.ofString x) n
abbrev zt (l : List Value) : Obj := ⟨.type "tuple", none, .seq l.toArray 0, #[]⟩
abbrev zc (l : List Value) : Obj := ⟨.type "code", none, .fields l.toArray, #[]⟩
abbrev zf (f : FuncData) : Obj := ⟨.type "function", none, .func f, #[]⟩
abbrev zm (x y : String) (a b c d e f : Nat) (q : String) (n r : Nat) : Obj := zf ⟨.ofString x, .ofString y, zAC a b, .stmts (zBC c d), zSC e f, 3, [], .none, .none, .none, zsK q n, none, .ref r, .none, 0⟩
abbrev zn (l : List Value) : Obj := ⟨.none, none, .fields l.toArray, #[]⟩
def B11 : Obj := zt []
def B12 : Obj := zn []
def B13 : Obj := zc [(zsK "<module>" 182), (zsK "<module>" 183), (zsK "/claim/cut.py" 184), (zi 1), (zi 0), (zi 0), (zi 0), (zi 0), (.ref 11), (.bool false), (zi 181), (.ref 12), .none, .none, .none, .none, (zi 185), (zi 1), (zsK "/claim/cut.py" 186)]
def B14 : Obj := ⟨(.type "frame"), none, .plain, #[(some (.ref 13)), (some (.ref 3)), (some (.ref 3)), none, (some (zsK "__main__" 164)), none, (some (.ref 0))]⟩
def C2 (P : Params) : Obj := ⟨.none, none, (.dict #[⟨(zhK P "type.__subclasses__.OverflowError.0"), (zsK "type.__subclasses__.OverflowError.0" 585), (zi 319)⟩, ⟨(zhK P "type.__subclasses__.OverflowError.n"), (zsK "type.__subclasses__.OverflowError.n" 586), (zi 1)⟩, ⟨(zhK P "type.__subclasses__.KeyError.0"), (zsK "type.__subclasses__.KeyError.0" 616), (zi 341)⟩, ⟨(zhK P "type.__subclasses__.KeyError.n"), (zsK "type.__subclasses__.KeyError.n" 617), (zi 1)⟩] 4), #[]⟩
def C3 (P : Params) : Obj := ⟨(.type "dict"), none, (.dict #[⟨(zhK P "__name__"), (zsK "__name__" 165), (zsK "law_epochrooms_k80_errors_by_hand" 620)⟩, ⟨(zhK P "__doc__"), (zsK "__doc__" 166), .none⟩, ⟨(zhK P "__package__"), (zsK "__package__" 167), .none⟩, ⟨(zhK P "__loader__"), (zsK "__loader__" 168), (.builtin "__main__.__loader__#opaque")⟩, ⟨(zhK P "__spec__"), (zsK "__spec__" 169), .none⟩, ⟨(zhK P "__annotations__"), (zsK "__annotations__" 170), (.ref 6)⟩, ⟨(zhK P "__builtins__"), (zsK "__builtins__" 171), (.ref 4)⟩, ⟨(zhK P "__file__"), (zsK "__file__" 173), (zsK "/claim/cut.py" 172)⟩, ⟨(zhK P "__cached__"), (zsK "__cached__" 174), .none⟩, ⟨(zhK P "RoomsError"), (zsK "RoomsError" 206), (.ref 24)⟩, ⟨(zhK P "NoNumber"), (zsK "NoNumber" 233), (.ref 46)⟩, ⟨(zhK P "NoSize"), (zsK "NoSize" 260), (.ref 67)⟩, ⟨(zhK P "NoSwitch"), (zsK "NoSwitch" 287), (.ref 88)⟩, ⟨(zhK P "NoValue"), (zsK "NoValue" 314), (.ref 109)⟩, ⟨(zhK P "NoBook"), (zsK "NoBook" 341), (.ref 130)⟩, ⟨(zhK P "NoSetting"), (zsK "NoSetting" 368), (.ref 151)⟩, ⟨(zhK P "NoMove"), (zsK "NoMove" 395), (.ref 172)⟩, ⟨(zhK P "NothingBack"), (zsK "NothingBack" 422), (.ref 193)⟩, ⟨(zhK P "NoTable"), (zsK "NoTable" 449), (.ref 214)⟩, ⟨(zhK P "NoChange"), (zsK "NoChange" 476), (.ref 235)⟩, ⟨(zhK P "NoPick"), (zsK "NoPick" 503), (.ref 256)⟩, ⟨(zhK P "NoNote"), (zsK "NoNote" 530), (.ref 277)⟩, ⟨(zhK P "IsSafe"), (zsK "IsSafe" 557), (.ref 298)⟩, ⟨(zhK P "TooMany"), (zsK "TooMany" 588), (.ref 319)⟩, ⟨(zhK P "NoHand"), (zsK "NoHand" 619), (.ref 341)⟩, ⟨(zhK P "_law_by_place"), (zsK "_law_by_place" 629), (.ref 351)⟩, ⟨(zhK P "_law_by_name"), (zsK "_law_by_name" 637), (.ref 358)⟩, ⟨(zhK P "_law_kept"), (zsK "_law_kept" 645), (.ref 365)⟩, ⟨(zhK P "_law_kinds"), (zsK "_law_kinds" 653), (.ref 372)⟩, ⟨(zhK P "_law_others_right"), (zsK "_law_others_right" 659), (.ref 377)⟩, ⟨(zhK P "law"), (zsK "law" 665), (.ref 382)⟩] 31), #[]⟩
def C12 : Obj := zn [(zi 2), (zi 0), (.ref 20), (zi 4), (zi 0), (.ref 34), (zi 9), (zi 0), (.ref 55), (zi 14), (zi 0), (.ref 76), (zi 19), (zi 0), (.ref 97), (zi 24), (zi 0), (.ref 118), (zi 29), (zi 0), (.ref 139), (zi 34), (zi 0), (.ref 160), (zi 39), (zi 0), (.ref 181), (zi 44), (zi 0), (.ref 202), (zi 49), (zi 0), (.ref 223), (zi 54), (zi 0), (.ref 244), (zi 59), (zi 0), (.ref 265), (zi 64), (zi 0), (.ref 286), (zi 69), (zi 0), (.ref 307), (zi 74), (zi 0), (.ref 329), (zi 80), (zi 0), (.ref 350), (zi 84), (zi 0), (.ref 357), (zi 89), (zi 0), (.ref 364), (zi 93), (zi 0), (.ref 371), (zi 98), (zi 0), (.ref 376), (zi 107), (zi 0), (.ref 381)]
def C15 : Obj := zt [(.type "ValueError")]
def C16 : Obj := ⟨(.type "builtin_function_or_method"), none, (.fields #[(.builtin "type.__prepare__"), (.type "type")]), #[]⟩
def C17 (P : Params) : Obj := ⟨(.type "dict"), none, (.dict #[⟨(zhK P "__module__"), (zsK "__module__" 196), (zsK "epochrooms.errors" 187)⟩, ⟨(zhK P "__qualname__"), (zsK "__qualname__" 198), (zsK "RoomsError" 197)⟩, ⟨(zhK P "__firstlineno__"), (zsK "__firstlineno__" 200), (.int 2 199)⟩, ⟨(zhK P "__static_attributes__"), (zsK "__static_attributes__" 201), (.ref 22)⟩] 4), #[]⟩
def C18 : Obj := zt []
def C19 : Obj := zn []
def C20 : Obj := zc [(zsK "RoomsError" 191), (zsK "RoomsError" 192), (zsK "/claim/cut.py" 193), (zi 2), (zi 0), (zi 0), (zi 0), (zi 0), (.ref 18), (.bool false), (zi 181), (.ref 19), .none, .none, .none, .none, (zi 194), (zi 2), (zsK "/claim/cut.py" 195)]
def C21 : Obj := ⟨(.type "frame"), none, .plain, #[(some (.ref 20)), (some (.ref 3)), (some (.ref 17)), none, (some (zsK "epochrooms.errors" 187)), none, (some (.ref 0))]⟩
def C22 : Obj := zt []
def C23 (P : Params) : Obj := ⟨(.type "dict"), none, (.dict #[⟨(zhK P "__module__"), (zsK "__module__" 196), (zsK "epochrooms.errors" 187)⟩, ⟨(zhK P "__firstlineno__"), (zsK "__firstlineno__" 200), (.int 2 199)⟩, ⟨(zhK P "__static_attributes__"), (zsK "__static_attributes__" 201), (.ref 22)⟩, ⟨(zhK P "__weakref__"), (zsK "__weakref__" 203), (.ref 25)⟩, ⟨(zhK P "__doc__"), (zsK "__doc__" 204), .none⟩] 3), #[]⟩
def C24 : Obj := ⟨(.type "type"), none, (.cls ⟨(zo "RoomsError"), [(.type "ValueError")], [(.ref 24), (.type "ValueError"), (.type "Exception"), (.type "BaseException"), (.type "object")], 23, (zo "RoomsError"), true, [], [(.ref 46), (.ref 67), (.ref 88), (.ref 109), (.ref 130), (.ref 151), (.ref 172), (.ref 193), (.ref 214), (.ref 235), (.ref 256), (.ref 277), (.ref 298)], false, none, false⟩), #[(some (.ref 15)), none, (some (zsK "RoomsError" 189)), (some (zsK "RoomsError" 197)), (some (.builtin "ValueError.__new__")), (some (.bool true))]⟩
def C25 : Obj := ⟨(.type "getset_descriptor"), none, (.fields #[(zsK "__weakref__" 202), (.ref 24), (.builtin "ExceptionGroup.__weakref__"), .none]), #[]⟩
def C26 : Obj := ⟨(.type "super"), none, (.fields #[(.ref 24), (.ref 24), (.ref 24)]), #[]⟩
def C27 : Obj := ⟨(.type "builtin_function_or_method"), none, (.fields #[(.builtin "object.__init_subclass__"), (.ref 24)]), #[]⟩
def C28 : Obj := zt [(.ref 24)]
def C29 : Obj := ⟨(.type "builtin_function_or_method"), none, (.fields #[(.builtin "type.__prepare__"), (.type "type")]), #[]⟩
def C30 (P : Params) : Obj := ⟨(.type "dict"), none, (.dict #[⟨(zhK P "__module__"), (zsK "__module__" 214), (zsK "epochrooms.errors" 187)⟩, ⟨(zhK P "__qualname__"), (zsK "__qualname__" 216), (zsK "NoNumber" 215)⟩, ⟨(zhK P "__firstlineno__"), (zsK "__firstlineno__" 218), (.int 4 217)⟩, ⟨(zhK P "__init__"), (zsK "__init__" 227), (.ref 43)⟩, ⟨(zhK P "__static_attributes__"), (zsK "__static_attributes__" 229), (.ref 44)⟩, ⟨(zhK P "__classcell__"), (zsK "__classcell__" 230), (.ref 31)⟩] 6), #[]⟩
def C31 : Obj := ⟨(.type "cell"), none, (.cell (some (.ref 46))), #[]⟩
def C32 : Obj := zt []
def C33 : Obj := zn [(zi 6), (zi 4), (.ref 42)]
def C34 : Obj := zc [(zsK "NoNumber" 209), (zsK "NoNumber" 210), (zsK "/claim/cut.py" 211), (zi 4), (zi 0), (zi 0), (zi 0), (zi 0), (.ref 32), (.bool false), (zi 181), (.ref 33), .none, .none, .none, .none, (zi 212), (zi 4), (zsK "/claim/cut.py" 213)]
def C35 : Obj := ⟨(.type "frame"), none, .plain, #[(some (.ref 34)), (some (.ref 3)), (some (.ref 30)), none, (some (zsK "epochrooms.errors" 187)), none, (some (.ref 0))]⟩
def C36 : Obj := zt [(.ref 31)]
def C37 : Obj := zt [(zsK "__class__" 222)]
def C38 : Obj := zn []
def C39 : Obj := zt [(zsK "self" 223), (zsK "value" 224)]
def C40 : Obj := zt []
def C41 : Obj := ⟨.none, none, (.func ⟨(zo "__init__"), (zo "NoNumber.__init__"), (zAC 2 0), (.stmts (zBC 2 0)), (zSC 14 0), 0, [], .none, .none, .none, .none, none, .none, .none, 0⟩), #[]⟩
def C42 : Obj := zc [(zsK "__init__" 219), (zsK "NoNumber.__init__" 220), (zsK "/claim/cut.py" 221), (zi 6), (zi 2), (zi 0), (zi 0), (zi 3), (.ref 37), (.bool true), (zi 181), (.ref 38), .none, (.ref 39), (.ref 40), (.ref 41), (zi 225), (zi 6), (zsK "/claim/cut.py" 226)]
def C43 : Obj := zf ⟨(zo "__init__"), (zo "NoNumber.__init__"), (zAC 2 0), (.stmts (zBC 2 0)), (zSC 14 0), 3, [((zo "__class__"), 31)], .none, .none, .none, (zsK "epochrooms.errors" 187), none, (.ref 42), (.ref 36), 0⟩
def C44 : Obj := zt [(zsK "value" 228)]
def C45 (P : Params) : Obj := ⟨(.type "dict"), none, (.dict #[⟨(zhK P "__module__"), (zsK "__module__" 214), (zsK "epochrooms.errors" 187)⟩, ⟨(zhK P "__firstlineno__"), (zsK "__firstlineno__" 218), (.int 4 217)⟩, ⟨(zhK P "__init__"), (zsK "__init__" 227), (.ref 43)⟩, ⟨(zhK P "__static_attributes__"), (zsK "__static_attributes__" 229), (.ref 44)⟩, ⟨(zhK P "__doc__"), (zsK "__doc__" 231), .none⟩] 3), #[]⟩
def C46 : Obj := ⟨(.type "type"), none, (.cls ⟨(zo "NoNumber"), [(.ref 24)], [(.ref 46), (.ref 24), (.type "ValueError"), (.type "Exception"), (.type "BaseException"), (.type "object")], 45, (zo "NoNumber"), true, [], [], false, none, false⟩), #[(some (.ref 28)), none, (some (zsK "NoNumber" 207)), (some (zsK "NoNumber" 215)), (some (.builtin "ValueError.__new__")), (some (.bool true))]⟩
def C47 : Obj := ⟨(.type "super"), none, (.fields #[(.ref 46), (.ref 46), (.ref 46)]), #[]⟩
def C48 : Obj := ⟨(.type "builtin_function_or_method"), none, (.fields #[(.builtin "object.__init_subclass__"), (.ref 46)]), #[]⟩
def C49 : Obj := zt [(.ref 24)]
def C50 : Obj := ⟨(.type "builtin_function_or_method"), none, (.fields #[(.builtin "type.__prepare__"), (.type "type")]), #[]⟩
def C51 (P : Params) : Obj := ⟨(.type "dict"), none, (.dict #[⟨(zhK P "__module__"), (zsK "__module__" 241), (zsK "epochrooms.errors" 187)⟩, ⟨(zhK P "__qualname__"), (zsK "__qualname__" 243), (zsK "NoSize" 242)⟩, ⟨(zhK P "__firstlineno__"), (zsK "__firstlineno__" 245), (.int 9 244)⟩, ⟨(zhK P "__init__"), (zsK "__init__" 254), (.ref 64)⟩, ⟨(zhK P "__static_attributes__"), (zsK "__static_attributes__" 256), (.ref 65)⟩, ⟨(zhK P "__classcell__"), (zsK "__classcell__" 257), (.ref 52)⟩] 6), #[]⟩
def C52 : Obj := ⟨(.type "cell"), none, (.cell (some (.ref 67))), #[]⟩
def C53 : Obj := zt []
def C54 : Obj := zn [(zi 11), (zi 4), (.ref 63)]
def C55 : Obj := zc [(zsK "NoSize" 236), (zsK "NoSize" 237), (zsK "/claim/cut.py" 238), (zi 9), (zi 0), (zi 0), (zi 0), (zi 0), (.ref 53), (.bool false), (zi 181), (.ref 54), .none, .none, .none, .none, (zi 239), (zi 9), (zsK "/claim/cut.py" 240)]
def C56 : Obj := ⟨(.type "frame"), none, .plain, #[(some (.ref 55)), (some (.ref 3)), (some (.ref 51)), none, (some (zsK "epochrooms.errors" 187)), none, (some (.ref 0))]⟩
def C57 : Obj := zt [(.ref 52)]
def C58 : Obj := zt [(zsK "__class__" 249)]
def C59 : Obj := zn []
def C60 : Obj := zt [(zsK "self" 250), (zsK "size" 251)]
def C61 : Obj := zt []
def C62 : Obj := ⟨.none, none, (.func ⟨(zo "__init__"), (zo "NoSize.__init__"), (zAC 3 0), (.stmts (zBC 3 0)), (zSC 3 0), 0, [], .none, .none, .none, .none, none, .none, .none, 0⟩), #[]⟩
def C63 : Obj := zc [(zsK "__init__" 246), (zsK "NoSize.__init__" 247), (zsK "/claim/cut.py" 248), (zi 11), (zi 2), (zi 0), (zi 0), (zi 3), (.ref 58), (.bool true), (zi 181), (.ref 59), .none, (.ref 60), (.ref 61), (.ref 62), (zi 252), (zi 11), (zsK "/claim/cut.py" 253)]
def C64 : Obj := zf ⟨(zo "__init__"), (zo "NoSize.__init__"), (zAC 3 0), (.stmts (zBC 3 0)), (zSC 3 0), 3, [((zo "__class__"), 52)], .none, .none, .none, (zsK "epochrooms.errors" 187), none, (.ref 63), (.ref 57), 0⟩
def C65 : Obj := zt [(zsK "size" 255)]
def C66 (P : Params) : Obj := ⟨(.type "dict"), none, (.dict #[⟨(zhK P "__module__"), (zsK "__module__" 241), (zsK "epochrooms.errors" 187)⟩, ⟨(zhK P "__firstlineno__"), (zsK "__firstlineno__" 245), (.int 9 244)⟩, ⟨(zhK P "__init__"), (zsK "__init__" 254), (.ref 64)⟩, ⟨(zhK P "__static_attributes__"), (zsK "__static_attributes__" 256), (.ref 65)⟩, ⟨(zhK P "__doc__"), (zsK "__doc__" 258), .none⟩] 3), #[]⟩
def C67 : Obj := ⟨(.type "type"), none, (.cls ⟨(zo "NoSize"), [(.ref 24)], [(.ref 67), (.ref 24), (.type "ValueError"), (.type "Exception"), (.type "BaseException"), (.type "object")], 66, (zo "NoSize"), true, [], [], false, none, false⟩), #[(some (.ref 49)), none, (some (zsK "NoSize" 234)), (some (zsK "NoSize" 242)), (some (.builtin "ValueError.__new__")), (some (.bool true))]⟩
def C68 : Obj := ⟨(.type "super"), none, (.fields #[(.ref 67), (.ref 67), (.ref 67)]), #[]⟩
def C69 : Obj := ⟨(.type "builtin_function_or_method"), none, (.fields #[(.builtin "object.__init_subclass__"), (.ref 67)]), #[]⟩
def C70 : Obj := zt [(.ref 24)]
def C71 : Obj := ⟨(.type "builtin_function_or_method"), none, (.fields #[(.builtin "type.__prepare__"), (.type "type")]), #[]⟩
def C72 (P : Params) : Obj := ⟨(.type "dict"), none, (.dict #[⟨(zhK P "__module__"), (zsK "__module__" 268), (zsK "epochrooms.errors" 187)⟩, ⟨(zhK P "__qualname__"), (zsK "__qualname__" 270), (zsK "NoSwitch" 269)⟩, ⟨(zhK P "__firstlineno__"), (zsK "__firstlineno__" 272), (.int 14 271)⟩, ⟨(zhK P "__init__"), (zsK "__init__" 281), (.ref 85)⟩, ⟨(zhK P "__static_attributes__"), (zsK "__static_attributes__" 283), (.ref 86)⟩, ⟨(zhK P "__classcell__"), (zsK "__classcell__" 284), (.ref 73)⟩] 6), #[]⟩
def C73 : Obj := ⟨(.type "cell"), none, (.cell (some (.ref 88))), #[]⟩
def C74 : Obj := zt []
def C75 : Obj := zn [(zi 16), (zi 4), (.ref 84)]
def C76 : Obj := zc [(zsK "NoSwitch" 263), (zsK "NoSwitch" 264), (zsK "/claim/cut.py" 265), (zi 14), (zi 0), (zi 0), (zi 0), (zi 0), (.ref 74), (.bool false), (zi 181), (.ref 75), .none, .none, .none, .none, (zi 266), (zi 14), (zsK "/claim/cut.py" 267)]
def C77 : Obj := ⟨(.type "frame"), none, .plain, #[(some (.ref 76)), (some (.ref 3)), (some (.ref 72)), none, (some (zsK "epochrooms.errors" 187)), none, (some (.ref 0))]⟩
def C78 : Obj := zt [(.ref 73)]
def C79 : Obj := zt [(zsK "__class__" 276)]
def C80 : Obj := zn []
def C81 : Obj := zt [(zsK "self" 277), (zsK "word" 278)]
def C82 : Obj := zt []
def C83 : Obj := ⟨.none, none, (.func ⟨(zo "__init__"), (zo "NoSwitch.__init__"), (zAC 4 0), (.stmts (zBC 4 0)), (zSC 7 0), 0, [], .none, .none, .none, .none, none, .none, .none, 0⟩), #[]⟩
def C84 : Obj := zc [(zsK "__init__" 273), (zsK "NoSwitch.__init__" 274), (zsK "/claim/cut.py" 275), (zi 16), (zi 2), (zi 0), (zi 0), (zi 3), (.ref 79), (.bool true), (zi 181), (.ref 80), .none, (.ref 81), (.ref 82), (.ref 83), (zi 279), (zi 16), (zsK "/claim/cut.py" 280)]
def C85 : Obj := zf ⟨(zo "__init__"), (zo "NoSwitch.__init__"), (zAC 4 0), (.stmts (zBC 4 0)), (zSC 7 0), 3, [((zo "__class__"), 73)], .none, .none, .none, (zsK "epochrooms.errors" 187), none, (.ref 84), (.ref 78), 0⟩
def C86 : Obj := zt [(zsK "word" 282)]
def C87 (P : Params) : Obj := ⟨(.type "dict"), none, (.dict #[⟨(zhK P "__module__"), (zsK "__module__" 268), (zsK "epochrooms.errors" 187)⟩, ⟨(zhK P "__firstlineno__"), (zsK "__firstlineno__" 272), (.int 14 271)⟩, ⟨(zhK P "__init__"), (zsK "__init__" 281), (.ref 85)⟩, ⟨(zhK P "__static_attributes__"), (zsK "__static_attributes__" 283), (.ref 86)⟩, ⟨(zhK P "__doc__"), (zsK "__doc__" 285), .none⟩] 3), #[]⟩
def C88 : Obj := ⟨(.type "type"), none, (.cls ⟨(zo "NoSwitch"), [(.ref 24)], [(.ref 88), (.ref 24), (.type "ValueError"), (.type "Exception"), (.type "BaseException"), (.type "object")], 87, (zo "NoSwitch"), true, [], [], false, none, false⟩), #[(some (.ref 70)), none, (some (zsK "NoSwitch" 261)), (some (zsK "NoSwitch" 269)), (some (.builtin "ValueError.__new__")), (some (.bool true))]⟩
def C89 : Obj := ⟨(.type "super"), none, (.fields #[(.ref 88), (.ref 88), (.ref 88)]), #[]⟩
def C90 : Obj := ⟨(.type "builtin_function_or_method"), none, (.fields #[(.builtin "object.__init_subclass__"), (.ref 88)]), #[]⟩
def C91 : Obj := zt [(.ref 24)]
def C92 : Obj := ⟨(.type "builtin_function_or_method"), none, (.fields #[(.builtin "type.__prepare__"), (.type "type")]), #[]⟩
def C93 (P : Params) : Obj := ⟨(.type "dict"), none, (.dict #[⟨(zhK P "__module__"), (zsK "__module__" 295), (zsK "epochrooms.errors" 187)⟩, ⟨(zhK P "__qualname__"), (zsK "__qualname__" 297), (zsK "NoValue" 296)⟩, ⟨(zhK P "__firstlineno__"), (zsK "__firstlineno__" 299), (.int 19 298)⟩, ⟨(zhK P "__init__"), (zsK "__init__" 308), (.ref 106)⟩, ⟨(zhK P "__static_attributes__"), (zsK "__static_attributes__" 310), (.ref 107)⟩, ⟨(zhK P "__classcell__"), (zsK "__classcell__" 311), (.ref 94)⟩] 6), #[]⟩
def C94 : Obj := ⟨(.type "cell"), none, (.cell (some (.ref 109))), #[]⟩
def C95 : Obj := zt []
def C96 : Obj := zn [(zi 21), (zi 4), (.ref 105)]
def C97 : Obj := zc [(zsK "NoValue" 290), (zsK "NoValue" 291), (zsK "/claim/cut.py" 292), (zi 19), (zi 0), (zi 0), (zi 0), (zi 0), (.ref 95), (.bool false), (zi 181), (.ref 96), .none, .none, .none, .none, (zi 293), (zi 19), (zsK "/claim/cut.py" 294)]
def C98 : Obj := ⟨(.type "frame"), none, .plain, #[(some (.ref 97)), (some (.ref 3)), (some (.ref 93)), none, (some (zsK "epochrooms.errors" 187)), none, (some (.ref 0))]⟩
def C99 : Obj := zt [(.ref 94)]
def C100 : Obj := zt [(zsK "__class__" 303)]
def C101 : Obj := zn []
def C102 : Obj := zt [(zsK "self" 304), (zsK "word" 305)]
def C103 : Obj := zt []
def C104 : Obj := ⟨.none, none, (.func ⟨(zo "__init__"), (zo "NoValue.__init__"), (zAC 5 0), (.stmts (zBC 5 0)), (zSC 7 0), 0, [], .none, .none, .none, .none, none, .none, .none, 0⟩), #[]⟩
def C105 : Obj := zc [(zsK "__init__" 300), (zsK "NoValue.__init__" 301), (zsK "/claim/cut.py" 302), (zi 21), (zi 2), (zi 0), (zi 0), (zi 3), (.ref 100), (.bool true), (zi 181), (.ref 101), .none, (.ref 102), (.ref 103), (.ref 104), (zi 306), (zi 21), (zsK "/claim/cut.py" 307)]
def C106 : Obj := zf ⟨(zo "__init__"), (zo "NoValue.__init__"), (zAC 5 0), (.stmts (zBC 5 0)), (zSC 7 0), 3, [((zo "__class__"), 94)], .none, .none, .none, (zsK "epochrooms.errors" 187), none, (.ref 105), (.ref 99), 0⟩
def C107 : Obj := zt [(zsK "word" 309)]
def C108 (P : Params) : Obj := ⟨(.type "dict"), none, (.dict #[⟨(zhK P "__module__"), (zsK "__module__" 295), (zsK "epochrooms.errors" 187)⟩, ⟨(zhK P "__firstlineno__"), (zsK "__firstlineno__" 299), (.int 19 298)⟩, ⟨(zhK P "__init__"), (zsK "__init__" 308), (.ref 106)⟩, ⟨(zhK P "__static_attributes__"), (zsK "__static_attributes__" 310), (.ref 107)⟩, ⟨(zhK P "__doc__"), (zsK "__doc__" 312), .none⟩] 3), #[]⟩
def C109 : Obj := ⟨(.type "type"), none, (.cls ⟨(zo "NoValue"), [(.ref 24)], [(.ref 109), (.ref 24), (.type "ValueError"), (.type "Exception"), (.type "BaseException"), (.type "object")], 108, (zo "NoValue"), true, [], [], false, none, false⟩), #[(some (.ref 91)), none, (some (zsK "NoValue" 288)), (some (zsK "NoValue" 296)), (some (.builtin "ValueError.__new__")), (some (.bool true))]⟩
def C110 : Obj := ⟨(.type "super"), none, (.fields #[(.ref 109), (.ref 109), (.ref 109)]), #[]⟩
def C111 : Obj := ⟨(.type "builtin_function_or_method"), none, (.fields #[(.builtin "object.__init_subclass__"), (.ref 109)]), #[]⟩
def C112 : Obj := zt [(.ref 24)]
def C113 : Obj := ⟨(.type "builtin_function_or_method"), none, (.fields #[(.builtin "type.__prepare__"), (.type "type")]), #[]⟩
def C114 (P : Params) : Obj := ⟨(.type "dict"), none, (.dict #[⟨(zhK P "__module__"), (zsK "__module__" 322), (zsK "epochrooms.errors" 187)⟩, ⟨(zhK P "__qualname__"), (zsK "__qualname__" 324), (zsK "NoBook" 323)⟩, ⟨(zhK P "__firstlineno__"), (zsK "__firstlineno__" 326), (.int 24 325)⟩, ⟨(zhK P "__init__"), (zsK "__init__" 335), (.ref 127)⟩, ⟨(zhK P "__static_attributes__"), (zsK "__static_attributes__" 337), (.ref 128)⟩, ⟨(zhK P "__classcell__"), (zsK "__classcell__" 338), (.ref 115)⟩] 6), #[]⟩
def C115 : Obj := ⟨(.type "cell"), none, (.cell (some (.ref 130))), #[]⟩
def C116 : Obj := zt []
def C117 : Obj := zn [(zi 26), (zi 4), (.ref 126)]
def C118 : Obj := zc [(zsK "NoBook" 317), (zsK "NoBook" 318), (zsK "/claim/cut.py" 319), (zi 24), (zi 0), (zi 0), (zi 0), (zi 0), (.ref 116), (.bool false), (zi 181), (.ref 117), .none, .none, .none, .none, (zi 320), (zi 24), (zsK "/claim/cut.py" 321)]
def C119 : Obj := ⟨(.type "frame"), none, .plain, #[(some (.ref 118)), (some (.ref 3)), (some (.ref 114)), none, (some (zsK "epochrooms.errors" 187)), none, (some (.ref 0))]⟩
def C120 : Obj := zt [(.ref 115)]
def C121 : Obj := zt [(zsK "__class__" 330)]
def C122 : Obj := zn []
def C123 : Obj := zt [(zsK "self" 331), (zsK "value" 332)]
def C124 : Obj := zt []
def C125 : Obj := ⟨.none, none, (.func ⟨(zo "__init__"), (zo "NoBook.__init__"), (zAC 6 0), (.stmts (zBC 6 0)), (zSC 14 0), 0, [], .none, .none, .none, .none, none, .none, .none, 0⟩), #[]⟩
def C126 : Obj := zc [(zsK "__init__" 327), (zsK "NoBook.__init__" 328), (zsK "/claim/cut.py" 329), (zi 26), (zi 2), (zi 0), (zi 0), (zi 3), (.ref 121), (.bool true), (zi 181), (.ref 122), .none, (.ref 123), (.ref 124), (.ref 125), (zi 333), (zi 26), (zsK "/claim/cut.py" 334)]
def C127 : Obj := zf ⟨(zo "__init__"), (zo "NoBook.__init__"), (zAC 6 0), (.stmts (zBC 6 0)), (zSC 14 0), 3, [((zo "__class__"), 115)], .none, .none, .none, (zsK "epochrooms.errors" 187), none, (.ref 126), (.ref 120), 0⟩
def C128 : Obj := zt [(zsK "value" 336)]
def C129 (P : Params) : Obj := ⟨(.type "dict"), none, (.dict #[⟨(zhK P "__module__"), (zsK "__module__" 322), (zsK "epochrooms.errors" 187)⟩, ⟨(zhK P "__firstlineno__"), (zsK "__firstlineno__" 326), (.int 24 325)⟩, ⟨(zhK P "__init__"), (zsK "__init__" 335), (.ref 127)⟩, ⟨(zhK P "__static_attributes__"), (zsK "__static_attributes__" 337), (.ref 128)⟩, ⟨(zhK P "__doc__"), (zsK "__doc__" 339), .none⟩] 3), #[]⟩
def C130 : Obj := ⟨(.type "type"), none, (.cls ⟨(zo "NoBook"), [(.ref 24)], [(.ref 130), (.ref 24), (.type "ValueError"), (.type "Exception"), (.type "BaseException"), (.type "object")], 129, (zo "NoBook"), true, [], [], false, none, false⟩), #[(some (.ref 112)), none, (some (zsK "NoBook" 315)), (some (zsK "NoBook" 323)), (some (.builtin "ValueError.__new__")), (some (.bool true))]⟩
def C131 : Obj := ⟨(.type "super"), none, (.fields #[(.ref 130), (.ref 130), (.ref 130)]), #[]⟩
def C132 : Obj := ⟨(.type "builtin_function_or_method"), none, (.fields #[(.builtin "object.__init_subclass__"), (.ref 130)]), #[]⟩
def C133 : Obj := zt [(.ref 24)]
def C134 : Obj := ⟨(.type "builtin_function_or_method"), none, (.fields #[(.builtin "type.__prepare__"), (.type "type")]), #[]⟩
def C135 (P : Params) : Obj := ⟨(.type "dict"), none, (.dict #[⟨(zhK P "__module__"), (zsK "__module__" 349), (zsK "epochrooms.errors" 187)⟩, ⟨(zhK P "__qualname__"), (zsK "__qualname__" 351), (zsK "NoSetting" 350)⟩, ⟨(zhK P "__firstlineno__"), (zsK "__firstlineno__" 353), (.int 29 352)⟩, ⟨(zhK P "__init__"), (zsK "__init__" 362), (.ref 148)⟩, ⟨(zhK P "__static_attributes__"), (zsK "__static_attributes__" 364), (.ref 149)⟩, ⟨(zhK P "__classcell__"), (zsK "__classcell__" 365), (.ref 136)⟩] 6), #[]⟩
def C136 : Obj := ⟨(.type "cell"), none, (.cell (some (.ref 151))), #[]⟩
def C137 : Obj := zt []
def C138 : Obj := zn [(zi 31), (zi 4), (.ref 147)]
def C139 : Obj := zc [(zsK "NoSetting" 344), (zsK "NoSetting" 345), (zsK "/claim/cut.py" 346), (zi 29), (zi 0), (zi 0), (zi 0), (zi 0), (.ref 137), (.bool false), (zi 181), (.ref 138), .none, .none, .none, .none, (zi 347), (zi 29), (zsK "/claim/cut.py" 348)]
def C140 : Obj := ⟨(.type "frame"), none, .plain, #[(some (.ref 139)), (some (.ref 3)), (some (.ref 135)), none, (some (zsK "epochrooms.errors" 187)), none, (some (.ref 0))]⟩
def C141 : Obj := zt [(.ref 136)]
def C142 : Obj := zt [(zsK "__class__" 357)]
def C143 : Obj := zn []
def C144 : Obj := zt [(zsK "self" 358), (zsK "word" 359)]
def C145 : Obj := zt []
def C146 : Obj := ⟨.none, none, (.func ⟨(zo "__init__"), (zo "NoSetting.__init__"), (zAC 7 0), (.stmts (zBC 7 0)), (zSC 7 0), 0, [], .none, .none, .none, .none, none, .none, .none, 0⟩), #[]⟩
def C147 : Obj := zc [(zsK "__init__" 354), (zsK "NoSetting.__init__" 355), (zsK "/claim/cut.py" 356), (zi 31), (zi 2), (zi 0), (zi 0), (zi 3), (.ref 142), (.bool true), (zi 181), (.ref 143), .none, (.ref 144), (.ref 145), (.ref 146), (zi 360), (zi 31), (zsK "/claim/cut.py" 361)]
def C148 : Obj := zf ⟨(zo "__init__"), (zo "NoSetting.__init__"), (zAC 7 0), (.stmts (zBC 7 0)), (zSC 7 0), 3, [((zo "__class__"), 136)], .none, .none, .none, (zsK "epochrooms.errors" 187), none, (.ref 147), (.ref 141), 0⟩
def C149 : Obj := zt [(zsK "word" 363)]
def C150 (P : Params) : Obj := ⟨(.type "dict"), none, (.dict #[⟨(zhK P "__module__"), (zsK "__module__" 349), (zsK "epochrooms.errors" 187)⟩, ⟨(zhK P "__firstlineno__"), (zsK "__firstlineno__" 353), (.int 29 352)⟩, ⟨(zhK P "__init__"), (zsK "__init__" 362), (.ref 148)⟩, ⟨(zhK P "__static_attributes__"), (zsK "__static_attributes__" 364), (.ref 149)⟩, ⟨(zhK P "__doc__"), (zsK "__doc__" 366), .none⟩] 3), #[]⟩
def C151 : Obj := ⟨(.type "type"), none, (.cls ⟨(zo "NoSetting"), [(.ref 24)], [(.ref 151), (.ref 24), (.type "ValueError"), (.type "Exception"), (.type "BaseException"), (.type "object")], 150, (zo "NoSetting"), true, [], [], false, none, false⟩), #[(some (.ref 133)), none, (some (zsK "NoSetting" 342)), (some (zsK "NoSetting" 350)), (some (.builtin "ValueError.__new__")), (some (.bool true))]⟩
def C152 : Obj := ⟨(.type "super"), none, (.fields #[(.ref 151), (.ref 151), (.ref 151)]), #[]⟩
def C153 : Obj := ⟨(.type "builtin_function_or_method"), none, (.fields #[(.builtin "object.__init_subclass__"), (.ref 151)]), #[]⟩
def C154 : Obj := zt [(.ref 24)]
def C155 : Obj := ⟨(.type "builtin_function_or_method"), none, (.fields #[(.builtin "type.__prepare__"), (.type "type")]), #[]⟩
def C156 (P : Params) : Obj := ⟨(.type "dict"), none, (.dict #[⟨(zhK P "__module__"), (zsK "__module__" 376), (zsK "epochrooms.errors" 187)⟩, ⟨(zhK P "__qualname__"), (zsK "__qualname__" 378), (zsK "NoMove" 377)⟩, ⟨(zhK P "__firstlineno__"), (zsK "__firstlineno__" 380), (.int 34 379)⟩, ⟨(zhK P "__init__"), (zsK "__init__" 389), (.ref 169)⟩, ⟨(zhK P "__static_attributes__"), (zsK "__static_attributes__" 391), (.ref 170)⟩, ⟨(zhK P "__classcell__"), (zsK "__classcell__" 392), (.ref 157)⟩] 6), #[]⟩
def C157 : Obj := ⟨(.type "cell"), none, (.cell (some (.ref 172))), #[]⟩
def C158 : Obj := zt []
def C159 : Obj := zn [(zi 36), (zi 4), (.ref 168)]
def C160 : Obj := zc [(zsK "NoMove" 371), (zsK "NoMove" 372), (zsK "/claim/cut.py" 373), (zi 34), (zi 0), (zi 0), (zi 0), (zi 0), (.ref 158), (.bool false), (zi 181), (.ref 159), .none, .none, .none, .none, (zi 374), (zi 34), (zsK "/claim/cut.py" 375)]
def C161 : Obj := ⟨(.type "frame"), none, .plain, #[(some (.ref 160)), (some (.ref 3)), (some (.ref 156)), none, (some (zsK "epochrooms.errors" 187)), none, (some (.ref 0))]⟩
def C162 : Obj := zt [(.ref 157)]
def C163 : Obj := zt [(zsK "__class__" 384)]
def C164 : Obj := zn []
def C165 : Obj := zt [(zsK "self" 385), (zsK "index" 386)]
def C166 : Obj := zt []
def C167 : Obj := ⟨.none, none, (.func ⟨(zo "__init__"), (zo "NoMove.__init__"), (zAC 8 0), (.stmts (zBC 8 0)), (zSC 8 0), 0, [], .none, .none, .none, .none, none, .none, .none, 0⟩), #[]⟩
def C168 : Obj := zc [(zsK "__init__" 381), (zsK "NoMove.__init__" 382), (zsK "/claim/cut.py" 383), (zi 36), (zi 2), (zi 0), (zi 0), (zi 3), (.ref 163), (.bool true), (zi 181), (.ref 164), .none, (.ref 165), (.ref 166), (.ref 167), (zi 387), (zi 36), (zsK "/claim/cut.py" 388)]
def C169 : Obj := zf ⟨(zo "__init__"), (zo "NoMove.__init__"), (zAC 8 0), (.stmts (zBC 8 0)), (zSC 8 0), 3, [((zo "__class__"), 157)], .none, .none, .none, (zsK "epochrooms.errors" 187), none, (.ref 168), (.ref 162), 0⟩
def C170 : Obj := zt [(zsK "index" 390)]
def C171 (P : Params) : Obj := ⟨(.type "dict"), none, (.dict #[⟨(zhK P "__module__"), (zsK "__module__" 376), (zsK "epochrooms.errors" 187)⟩, ⟨(zhK P "__firstlineno__"), (zsK "__firstlineno__" 380), (.int 34 379)⟩, ⟨(zhK P "__init__"), (zsK "__init__" 389), (.ref 169)⟩, ⟨(zhK P "__static_attributes__"), (zsK "__static_attributes__" 391), (.ref 170)⟩, ⟨(zhK P "__doc__"), (zsK "__doc__" 393), .none⟩] 3), #[]⟩
def C172 : Obj := ⟨(.type "type"), none, (.cls ⟨(zo "NoMove"), [(.ref 24)], [(.ref 172), (.ref 24), (.type "ValueError"), (.type "Exception"), (.type "BaseException"), (.type "object")], 171, (zo "NoMove"), true, [], [], false, none, false⟩), #[(some (.ref 154)), none, (some (zsK "NoMove" 369)), (some (zsK "NoMove" 377)), (some (.builtin "ValueError.__new__")), (some (.bool true))]⟩
def C173 : Obj := ⟨(.type "super"), none, (.fields #[(.ref 172), (.ref 172), (.ref 172)]), #[]⟩
def C174 : Obj := ⟨(.type "builtin_function_or_method"), none, (.fields #[(.builtin "object.__init_subclass__"), (.ref 172)]), #[]⟩
def C175 : Obj := zt [(.ref 24)]
def C176 : Obj := ⟨(.type "builtin_function_or_method"), none, (.fields #[(.builtin "type.__prepare__"), (.type "type")]), #[]⟩
def C177 (P : Params) : Obj := ⟨(.type "dict"), none, (.dict #[⟨(zhK P "__module__"), (zsK "__module__" 403), (zsK "epochrooms.errors" 187)⟩, ⟨(zhK P "__qualname__"), (zsK "__qualname__" 405), (zsK "NothingBack" 404)⟩, ⟨(zhK P "__firstlineno__"), (zsK "__firstlineno__" 407), (.int 39 406)⟩, ⟨(zhK P "__init__"), (zsK "__init__" 416), (.ref 190)⟩, ⟨(zhK P "__static_attributes__"), (zsK "__static_attributes__" 418), (.ref 191)⟩, ⟨(zhK P "__classcell__"), (zsK "__classcell__" 419), (.ref 178)⟩] 6), #[]⟩
def C178 : Obj := ⟨(.type "cell"), none, (.cell (some (.ref 193))), #[]⟩
def C179 : Obj := zt []
def C180 : Obj := zn [(zi 41), (zi 4), (.ref 189)]
def C181 : Obj := zc [(zsK "NothingBack" 398), (zsK "NothingBack" 399), (zsK "/claim/cut.py" 400), (zi 39), (zi 0), (zi 0), (zi 0), (zi 0), (.ref 179), (.bool false), (zi 181), (.ref 180), .none, .none, .none, .none, (zi 401), (zi 39), (zsK "/claim/cut.py" 402)]
def C182 : Obj := ⟨(.type "frame"), none, .plain, #[(some (.ref 181)), (some (.ref 3)), (some (.ref 177)), none, (some (zsK "epochrooms.errors" 187)), none, (some (.ref 0))]⟩
def C183 : Obj := zt [(.ref 178)]
def C184 : Obj := zt [(zsK "__class__" 411)]
def C185 : Obj := zn []
def C186 : Obj := zt [(zsK "self" 412), (zsK "many" 413)]
def C187 : Obj := zt []
def C188 : Obj := ⟨.none, none, (.func ⟨(zo "__init__"), (zo "NothingBack.__init__"), (zAC 9 0), (.stmts (zBC 9 0)), (zSC 9 0), 0, [], .none, .none, .none, .none, none, .none, .none, 0⟩), #[]⟩
def C189 : Obj := zc [(zsK "__init__" 408), (zsK "NothingBack.__init__" 409), (zsK "/claim/cut.py" 410), (zi 41), (zi 2), (zi 0), (zi 0), (zi 3), (.ref 184), (.bool true), (zi 181), (.ref 185), .none, (.ref 186), (.ref 187), (.ref 188), (zi 414), (zi 41), (zsK "/claim/cut.py" 415)]
def C190 : Obj := zf ⟨(zo "__init__"), (zo "NothingBack.__init__"), (zAC 9 0), (.stmts (zBC 9 0)), (zSC 9 0), 3, [((zo "__class__"), 178)], .none, .none, .none, (zsK "epochrooms.errors" 187), none, (.ref 189), (.ref 183), 0⟩
def C191 : Obj := zt [(zsK "many" 417)]
def C192 (P : Params) : Obj := ⟨(.type "dict"), none, (.dict #[⟨(zhK P "__module__"), (zsK "__module__" 403), (zsK "epochrooms.errors" 187)⟩, ⟨(zhK P "__firstlineno__"), (zsK "__firstlineno__" 407), (.int 39 406)⟩, ⟨(zhK P "__init__"), (zsK "__init__" 416), (.ref 190)⟩, ⟨(zhK P "__static_attributes__"), (zsK "__static_attributes__" 418), (.ref 191)⟩, ⟨(zhK P "__doc__"), (zsK "__doc__" 420), .none⟩] 3), #[]⟩
def C193 : Obj := ⟨(.type "type"), none, (.cls ⟨(zo "NothingBack"), [(.ref 24)], [(.ref 193), (.ref 24), (.type "ValueError"), (.type "Exception"), (.type "BaseException"), (.type "object")], 192, (zo "NothingBack"), true, [], [], false, none, false⟩), #[(some (.ref 175)), none, (some (zsK "NothingBack" 396)), (some (zsK "NothingBack" 404)), (some (.builtin "ValueError.__new__")), (some (.bool true))]⟩
def C194 : Obj := ⟨(.type "super"), none, (.fields #[(.ref 193), (.ref 193), (.ref 193)]), #[]⟩
def C195 : Obj := ⟨(.type "builtin_function_or_method"), none, (.fields #[(.builtin "object.__init_subclass__"), (.ref 193)]), #[]⟩
def C196 : Obj := zt [(.ref 24)]
def C197 : Obj := ⟨(.type "builtin_function_or_method"), none, (.fields #[(.builtin "type.__prepare__"), (.type "type")]), #[]⟩
def C198 (P : Params) : Obj := ⟨(.type "dict"), none, (.dict #[⟨(zhK P "__module__"), (zsK "__module__" 430), (zsK "epochrooms.errors" 187)⟩, ⟨(zhK P "__qualname__"), (zsK "__qualname__" 432), (zsK "NoTable" 431)⟩, ⟨(zhK P "__firstlineno__"), (zsK "__firstlineno__" 434), (.int 44 433)⟩, ⟨(zhK P "__init__"), (zsK "__init__" 443), (.ref 211)⟩, ⟨(zhK P "__static_attributes__"), (zsK "__static_attributes__" 445), (.ref 212)⟩, ⟨(zhK P "__classcell__"), (zsK "__classcell__" 446), (.ref 199)⟩] 6), #[]⟩
def C199 : Obj := ⟨(.type "cell"), none, (.cell (some (.ref 214))), #[]⟩
def C200 : Obj := zt []
def C201 : Obj := zn [(zi 46), (zi 4), (.ref 210)]
def C202 : Obj := zc [(zsK "NoTable" 425), (zsK "NoTable" 426), (zsK "/claim/cut.py" 427), (zi 44), (zi 0), (zi 0), (zi 0), (zi 0), (.ref 200), (.bool false), (zi 181), (.ref 201), .none, .none, .none, .none, (zi 428), (zi 44), (zsK "/claim/cut.py" 429)]
def C203 : Obj := ⟨(.type "frame"), none, .plain, #[(some (.ref 202)), (some (.ref 3)), (some (.ref 198)), none, (some (zsK "epochrooms.errors" 187)), none, (some (.ref 0))]⟩
def C204 : Obj := zt [(.ref 199)]
def C205 : Obj := zt [(zsK "__class__" 438)]
def C206 : Obj := zn []
def C207 : Obj := zt [(zsK "self" 439), (zsK "states" 440)]
def C208 : Obj := zt []
def C209 : Obj := ⟨.none, none, (.func ⟨(zo "__init__"), (zo "NoTable.__init__"), (zAC 10 0), (.stmts (zBC 10 0)), (zSC 10 0), 0, [], .none, .none, .none, .none, none, .none, .none, 0⟩), #[]⟩
def C210 : Obj := zc [(zsK "__init__" 435), (zsK "NoTable.__init__" 436), (zsK "/claim/cut.py" 437), (zi 46), (zi 2), (zi 0), (zi 0), (zi 3), (.ref 205), (.bool true), (zi 181), (.ref 206), .none, (.ref 207), (.ref 208), (.ref 209), (zi 441), (zi 46), (zsK "/claim/cut.py" 442)]
def C211 : Obj := zf ⟨(zo "__init__"), (zo "NoTable.__init__"), (zAC 10 0), (.stmts (zBC 10 0)), (zSC 10 0), 3, [((zo "__class__"), 199)], .none, .none, .none, (zsK "epochrooms.errors" 187), none, (.ref 210), (.ref 204), 0⟩
def C212 : Obj := zt [(zsK "states" 444)]
def C213 (P : Params) : Obj := ⟨(.type "dict"), none, (.dict #[⟨(zhK P "__module__"), (zsK "__module__" 430), (zsK "epochrooms.errors" 187)⟩, ⟨(zhK P "__firstlineno__"), (zsK "__firstlineno__" 434), (.int 44 433)⟩, ⟨(zhK P "__init__"), (zsK "__init__" 443), (.ref 211)⟩, ⟨(zhK P "__static_attributes__"), (zsK "__static_attributes__" 445), (.ref 212)⟩, ⟨(zhK P "__doc__"), (zsK "__doc__" 447), .none⟩] 3), #[]⟩
def C214 : Obj := ⟨(.type "type"), none, (.cls ⟨(zo "NoTable"), [(.ref 24)], [(.ref 214), (.ref 24), (.type "ValueError"), (.type "Exception"), (.type "BaseException"), (.type "object")], 213, (zo "NoTable"), true, [], [], false, none, false⟩), #[(some (.ref 196)), none, (some (zsK "NoTable" 423)), (some (zsK "NoTable" 431)), (some (.builtin "ValueError.__new__")), (some (.bool true))]⟩
def C215 : Obj := ⟨(.type "super"), none, (.fields #[(.ref 214), (.ref 214), (.ref 214)]), #[]⟩
def C216 : Obj := ⟨(.type "builtin_function_or_method"), none, (.fields #[(.builtin "object.__init_subclass__"), (.ref 214)]), #[]⟩
def C217 : Obj := zt [(.ref 24)]
def C218 : Obj := ⟨(.type "builtin_function_or_method"), none, (.fields #[(.builtin "type.__prepare__"), (.type "type")]), #[]⟩
def C219 (P : Params) : Obj := ⟨(.type "dict"), none, (.dict #[⟨(zhK P "__module__"), (zsK "__module__" 457), (zsK "epochrooms.errors" 187)⟩, ⟨(zhK P "__qualname__"), (zsK "__qualname__" 459), (zsK "NoChange" 458)⟩, ⟨(zhK P "__firstlineno__"), (zsK "__firstlineno__" 461), (.int 49 460)⟩, ⟨(zhK P "__init__"), (zsK "__init__" 470), (.ref 232)⟩, ⟨(zhK P "__static_attributes__"), (zsK "__static_attributes__" 472), (.ref 233)⟩, ⟨(zhK P "__classcell__"), (zsK "__classcell__" 473), (.ref 220)⟩] 6), #[]⟩
def C220 : Obj := ⟨(.type "cell"), none, (.cell (some (.ref 235))), #[]⟩
def C221 : Obj := zt []
def C222 : Obj := zn [(zi 51), (zi 4), (.ref 231)]
def C223 : Obj := zc [(zsK "NoChange" 452), (zsK "NoChange" 453), (zsK "/claim/cut.py" 454), (zi 49), (zi 0), (zi 0), (zi 0), (zi 0), (.ref 221), (.bool false), (zi 181), (.ref 222), .none, .none, .none, .none, (zi 455), (zi 49), (zsK "/claim/cut.py" 456)]
def C224 : Obj := ⟨(.type "frame"), none, .plain, #[(some (.ref 223)), (some (.ref 3)), (some (.ref 219)), none, (some (zsK "epochrooms.errors" 187)), none, (some (.ref 0))]⟩
def C225 : Obj := zt [(.ref 220)]
def C226 : Obj := zt [(zsK "__class__" 465)]
def C227 : Obj := zn []
def C228 : Obj := zt [(zsK "self" 466), (zsK "at" 467)]
def C229 : Obj := zt []
def C230 : Obj := ⟨.none, none, (.func ⟨(zo "__init__"), (zo "NoChange.__init__"), (zAC 11 0), (.stmts (zBC 11 0)), (zSC 11 0), 0, [], .none, .none, .none, .none, none, .none, .none, 0⟩), #[]⟩
def C231 : Obj := zc [(zsK "__init__" 462), (zsK "NoChange.__init__" 463), (zsK "/claim/cut.py" 464), (zi 51), (zi 2), (zi 0), (zi 0), (zi 3), (.ref 226), (.bool true), (zi 181), (.ref 227), .none, (.ref 228), (.ref 229), (.ref 230), (zi 468), (zi 51), (zsK "/claim/cut.py" 469)]
def C232 : Obj := zf ⟨(zo "__init__"), (zo "NoChange.__init__"), (zAC 11 0), (.stmts (zBC 11 0)), (zSC 11 0), 3, [((zo "__class__"), 220)], .none, .none, .none, (zsK "epochrooms.errors" 187), none, (.ref 231), (.ref 225), 0⟩
def C233 : Obj := zt [(zsK "at" 471)]
def C234 (P : Params) : Obj := ⟨(.type "dict"), none, (.dict #[⟨(zhK P "__module__"), (zsK "__module__" 457), (zsK "epochrooms.errors" 187)⟩, ⟨(zhK P "__firstlineno__"), (zsK "__firstlineno__" 461), (.int 49 460)⟩, ⟨(zhK P "__init__"), (zsK "__init__" 470), (.ref 232)⟩, ⟨(zhK P "__static_attributes__"), (zsK "__static_attributes__" 472), (.ref 233)⟩, ⟨(zhK P "__doc__"), (zsK "__doc__" 474), .none⟩] 3), #[]⟩
def C235 : Obj := ⟨(.type "type"), none, (.cls ⟨(zo "NoChange"), [(.ref 24)], [(.ref 235), (.ref 24), (.type "ValueError"), (.type "Exception"), (.type "BaseException"), (.type "object")], 234, (zo "NoChange"), true, [], [], false, none, false⟩), #[(some (.ref 217)), none, (some (zsK "NoChange" 450)), (some (zsK "NoChange" 458)), (some (.builtin "ValueError.__new__")), (some (.bool true))]⟩
def C236 : Obj := ⟨(.type "super"), none, (.fields #[(.ref 235), (.ref 235), (.ref 235)]), #[]⟩
def C237 : Obj := ⟨(.type "builtin_function_or_method"), none, (.fields #[(.builtin "object.__init_subclass__"), (.ref 235)]), #[]⟩
def C238 : Obj := zt [(.ref 24)]
def C239 : Obj := ⟨(.type "builtin_function_or_method"), none, (.fields #[(.builtin "type.__prepare__"), (.type "type")]), #[]⟩
def C240 (P : Params) : Obj := ⟨(.type "dict"), none, (.dict #[⟨(zhK P "__module__"), (zsK "__module__" 484), (zsK "epochrooms.errors" 187)⟩, ⟨(zhK P "__qualname__"), (zsK "__qualname__" 486), (zsK "NoPick" 485)⟩, ⟨(zhK P "__firstlineno__"), (zsK "__firstlineno__" 488), (.int 54 487)⟩, ⟨(zhK P "__init__"), (zsK "__init__" 497), (.ref 253)⟩, ⟨(zhK P "__static_attributes__"), (zsK "__static_attributes__" 499), (.ref 254)⟩, ⟨(zhK P "__classcell__"), (zsK "__classcell__" 500), (.ref 241)⟩] 6), #[]⟩
def C241 : Obj := ⟨(.type "cell"), none, (.cell (some (.ref 256))), #[]⟩
def C242 : Obj := zt []
def C243 : Obj := zn [(zi 56), (zi 4), (.ref 252)]
def C244 : Obj := zc [(zsK "NoPick" 479), (zsK "NoPick" 480), (zsK "/claim/cut.py" 481), (zi 54), (zi 0), (zi 0), (zi 0), (zi 0), (.ref 242), (.bool false), (zi 181), (.ref 243), .none, .none, .none, .none, (zi 482), (zi 54), (zsK "/claim/cut.py" 483)]
def C245 : Obj := ⟨(.type "frame"), none, .plain, #[(some (.ref 244)), (some (.ref 3)), (some (.ref 240)), none, (some (zsK "epochrooms.errors" 187)), none, (some (.ref 0))]⟩
def C246 : Obj := zt [(.ref 241)]
def C247 : Obj := zt [(zsK "__class__" 492)]
def C248 : Obj := zn []
def C249 : Obj := zt [(zsK "self" 493), (zsK "pick" 494)]
def C250 : Obj := zt []
def C251 : Obj := ⟨.none, none, (.func ⟨(zo "__init__"), (zo "NoPick.__init__"), (zAC 12 0), (.stmts (zBC 12 0)), (zSC 12 0), 0, [], .none, .none, .none, .none, none, .none, .none, 0⟩), #[]⟩
def C252 : Obj := zc [(zsK "__init__" 489), (zsK "NoPick.__init__" 490), (zsK "/claim/cut.py" 491), (zi 56), (zi 2), (zi 0), (zi 0), (zi 3), (.ref 247), (.bool true), (zi 181), (.ref 248), .none, (.ref 249), (.ref 250), (.ref 251), (zi 495), (zi 56), (zsK "/claim/cut.py" 496)]
def C253 : Obj := zf ⟨(zo "__init__"), (zo "NoPick.__init__"), (zAC 12 0), (.stmts (zBC 12 0)), (zSC 12 0), 3, [((zo "__class__"), 241)], .none, .none, .none, (zsK "epochrooms.errors" 187), none, (.ref 252), (.ref 246), 0⟩
def C254 : Obj := zt [(zsK "pick" 498)]
def C255 (P : Params) : Obj := ⟨(.type "dict"), none, (.dict #[⟨(zhK P "__module__"), (zsK "__module__" 484), (zsK "epochrooms.errors" 187)⟩, ⟨(zhK P "__firstlineno__"), (zsK "__firstlineno__" 488), (.int 54 487)⟩, ⟨(zhK P "__init__"), (zsK "__init__" 497), (.ref 253)⟩, ⟨(zhK P "__static_attributes__"), (zsK "__static_attributes__" 499), (.ref 254)⟩, ⟨(zhK P "__doc__"), (zsK "__doc__" 501), .none⟩] 3), #[]⟩
def C256 : Obj := ⟨(.type "type"), none, (.cls ⟨(zo "NoPick"), [(.ref 24)], [(.ref 256), (.ref 24), (.type "ValueError"), (.type "Exception"), (.type "BaseException"), (.type "object")], 255, (zo "NoPick"), true, [], [], false, none, false⟩), #[(some (.ref 238)), none, (some (zsK "NoPick" 477)), (some (zsK "NoPick" 485)), (some (.builtin "ValueError.__new__")), (some (.bool true))]⟩
def C257 : Obj := ⟨(.type "super"), none, (.fields #[(.ref 256), (.ref 256), (.ref 256)]), #[]⟩
def C258 : Obj := ⟨(.type "builtin_function_or_method"), none, (.fields #[(.builtin "object.__init_subclass__"), (.ref 256)]), #[]⟩
def C259 : Obj := zt [(.ref 24)]
def C260 : Obj := ⟨(.type "builtin_function_or_method"), none, (.fields #[(.builtin "type.__prepare__"), (.type "type")]), #[]⟩
def C261 (P : Params) : Obj := ⟨(.type "dict"), none, (.dict #[⟨(zhK P "__module__"), (zsK "__module__" 511), (zsK "epochrooms.errors" 187)⟩, ⟨(zhK P "__qualname__"), (zsK "__qualname__" 513), (zsK "NoNote" 512)⟩, ⟨(zhK P "__firstlineno__"), (zsK "__firstlineno__" 515), (.int 59 514)⟩, ⟨(zhK P "__init__"), (zsK "__init__" 524), (.ref 274)⟩, ⟨(zhK P "__static_attributes__"), (zsK "__static_attributes__" 526), (.ref 275)⟩, ⟨(zhK P "__classcell__"), (zsK "__classcell__" 527), (.ref 262)⟩] 6), #[]⟩
def C262 : Obj := ⟨(.type "cell"), none, (.cell (some (.ref 277))), #[]⟩
def C263 : Obj := zt []
def C264 : Obj := zn [(zi 61), (zi 4), (.ref 273)]
def C265 : Obj := zc [(zsK "NoNote" 506), (zsK "NoNote" 507), (zsK "/claim/cut.py" 508), (zi 59), (zi 0), (zi 0), (zi 0), (zi 0), (.ref 263), (.bool false), (zi 181), (.ref 264), .none, .none, .none, .none, (zi 509), (zi 59), (zsK "/claim/cut.py" 510)]
def C266 : Obj := ⟨(.type "frame"), none, .plain, #[(some (.ref 265)), (some (.ref 3)), (some (.ref 261)), none, (some (zsK "epochrooms.errors" 187)), none, (some (.ref 0))]⟩
def C267 : Obj := zt [(.ref 262)]
def C268 : Obj := zt [(zsK "__class__" 519)]
def C269 : Obj := zn []
def C270 : Obj := zt [(zsK "self" 520), (zsK "line" 521)]
def C271 : Obj := zt []
def C272 : Obj := ⟨.none, none, (.func ⟨(zo "__init__"), (zo "NoNote.__init__"), (zAC 13 0), (.stmts (zBC 13 0)), (zSC 13 0), 0, [], .none, .none, .none, .none, none, .none, .none, 0⟩), #[]⟩
def C273 : Obj := zc [(zsK "__init__" 516), (zsK "NoNote.__init__" 517), (zsK "/claim/cut.py" 518), (zi 61), (zi 2), (zi 0), (zi 0), (zi 3), (.ref 268), (.bool true), (zi 181), (.ref 269), .none, (.ref 270), (.ref 271), (.ref 272), (zi 522), (zi 61), (zsK "/claim/cut.py" 523)]
def C274 : Obj := zf ⟨(zo "__init__"), (zo "NoNote.__init__"), (zAC 13 0), (.stmts (zBC 13 0)), (zSC 13 0), 3, [((zo "__class__"), 262)], .none, .none, .none, (zsK "epochrooms.errors" 187), none, (.ref 273), (.ref 267), 0⟩
def C275 : Obj := zt [(zsK "line" 525)]
def C276 (P : Params) : Obj := ⟨(.type "dict"), none, (.dict #[⟨(zhK P "__module__"), (zsK "__module__" 511), (zsK "epochrooms.errors" 187)⟩, ⟨(zhK P "__firstlineno__"), (zsK "__firstlineno__" 515), (.int 59 514)⟩, ⟨(zhK P "__init__"), (zsK "__init__" 524), (.ref 274)⟩, ⟨(zhK P "__static_attributes__"), (zsK "__static_attributes__" 526), (.ref 275)⟩, ⟨(zhK P "__doc__"), (zsK "__doc__" 528), .none⟩] 3), #[]⟩
def C277 : Obj := ⟨(.type "type"), none, (.cls ⟨(zo "NoNote"), [(.ref 24)], [(.ref 277), (.ref 24), (.type "ValueError"), (.type "Exception"), (.type "BaseException"), (.type "object")], 276, (zo "NoNote"), true, [], [], false, none, false⟩), #[(some (.ref 259)), none, (some (zsK "NoNote" 504)), (some (zsK "NoNote" 512)), (some (.builtin "ValueError.__new__")), (some (.bool true))]⟩
def C278 : Obj := ⟨(.type "super"), none, (.fields #[(.ref 277), (.ref 277), (.ref 277)]), #[]⟩
def C279 : Obj := ⟨(.type "builtin_function_or_method"), none, (.fields #[(.builtin "object.__init_subclass__"), (.ref 277)]), #[]⟩
def C280 : Obj := zt [(.ref 24)]
def C281 : Obj := ⟨(.type "builtin_function_or_method"), none, (.fields #[(.builtin "type.__prepare__"), (.type "type")]), #[]⟩
def C282 (P : Params) : Obj := ⟨(.type "dict"), none, (.dict #[⟨(zhK P "__module__"), (zsK "__module__" 538), (zsK "epochrooms.errors" 187)⟩, ⟨(zhK P "__qualname__"), (zsK "__qualname__" 540), (zsK "IsSafe" 539)⟩, ⟨(zhK P "__firstlineno__"), (zsK "__firstlineno__" 542), (.int 64 541)⟩, ⟨(zhK P "__init__"), (zsK "__init__" 551), (.ref 295)⟩, ⟨(zhK P "__static_attributes__"), (zsK "__static_attributes__" 553), (.ref 296)⟩, ⟨(zhK P "__classcell__"), (zsK "__classcell__" 554), (.ref 283)⟩] 6), #[]⟩
def C283 : Obj := ⟨(.type "cell"), none, (.cell (some (.ref 298))), #[]⟩
def C284 : Obj := zt []
def C285 : Obj := zn [(zi 66), (zi 4), (.ref 294)]
def C286 : Obj := zc [(zsK "IsSafe" 533), (zsK "IsSafe" 534), (zsK "/claim/cut.py" 535), (zi 64), (zi 0), (zi 0), (zi 0), (zi 0), (.ref 284), (.bool false), (zi 181), (.ref 285), .none, .none, .none, .none, (zi 536), (zi 64), (zsK "/claim/cut.py" 537)]
def C287 : Obj := ⟨(.type "frame"), none, .plain, #[(some (.ref 286)), (some (.ref 3)), (some (.ref 282)), none, (some (zsK "epochrooms.errors" 187)), none, (some (.ref 0))]⟩
def C288 : Obj := zt [(.ref 283)]
def C289 : Obj := zt [(zsK "__class__" 546)]
def C290 : Obj := zn []
def C291 : Obj := zt [(zsK "self" 547), (zsK "value" 548)]
def C292 : Obj := zt []
def C293 : Obj := ⟨.none, none, (.func ⟨(zo "__init__"), (zo "IsSafe.__init__"), (zAC 14 0), (.stmts (zBC 14 0)), (zSC 14 0), 0, [], .none, .none, .none, .none, none, .none, .none, 0⟩), #[]⟩
def C294 : Obj := zc [(zsK "__init__" 543), (zsK "IsSafe.__init__" 544), (zsK "/claim/cut.py" 545), (zi 66), (zi 2), (zi 0), (zi 0), (zi 3), (.ref 289), (.bool true), (zi 181), (.ref 290), .none, (.ref 291), (.ref 292), (.ref 293), (zi 549), (zi 66), (zsK "/claim/cut.py" 550)]
def C295 : Obj := zf ⟨(zo "__init__"), (zo "IsSafe.__init__"), (zAC 14 0), (.stmts (zBC 14 0)), (zSC 14 0), 3, [((zo "__class__"), 283)], .none, .none, .none, (zsK "epochrooms.errors" 187), none, (.ref 294), (.ref 288), 0⟩
def C296 : Obj := zt [(zsK "value" 552)]
def C297 (P : Params) : Obj := ⟨(.type "dict"), none, (.dict #[⟨(zhK P "__module__"), (zsK "__module__" 538), (zsK "epochrooms.errors" 187)⟩, ⟨(zhK P "__firstlineno__"), (zsK "__firstlineno__" 542), (.int 64 541)⟩, ⟨(zhK P "__init__"), (zsK "__init__" 551), (.ref 295)⟩, ⟨(zhK P "__static_attributes__"), (zsK "__static_attributes__" 553), (.ref 296)⟩, ⟨(zhK P "__doc__"), (zsK "__doc__" 555), .none⟩] 3), #[]⟩
def C298 : Obj := ⟨(.type "type"), none, (.cls ⟨(zo "IsSafe"), [(.ref 24)], [(.ref 298), (.ref 24), (.type "ValueError"), (.type "Exception"), (.type "BaseException"), (.type "object")], 297, (zo "IsSafe"), true, [], [], false, none, false⟩), #[(some (.ref 280)), none, (some (zsK "IsSafe" 531)), (some (zsK "IsSafe" 539)), (some (.builtin "ValueError.__new__")), (some (.bool true))]⟩
def C299 : Obj := ⟨(.type "super"), none, (.fields #[(.ref 298), (.ref 298), (.ref 298)]), #[]⟩
def C300 : Obj := ⟨(.type "builtin_function_or_method"), none, (.fields #[(.builtin "object.__init_subclass__"), (.ref 298)]), #[]⟩
def C301 : Obj := zt [(.type "OverflowError")]
def C302 : Obj := ⟨(.type "builtin_function_or_method"), none, (.fields #[(.builtin "type.__prepare__"), (.type "type")]), #[]⟩
def C303 (P : Params) : Obj := ⟨(.type "dict"), none, (.dict #[⟨(zhK P "__module__"), (zsK "__module__" 565), (zsK "epochrooms.errors" 187)⟩, ⟨(zhK P "__qualname__"), (zsK "__qualname__" 567), (zsK "TooMany" 566)⟩, ⟨(zhK P "__firstlineno__"), (zsK "__firstlineno__" 569), (.int 69 568)⟩, ⟨(zhK P "__init__"), (zsK "__init__" 578), (.ref 316)⟩, ⟨(zhK P "__static_attributes__"), (zsK "__static_attributes__" 580), (.ref 317)⟩, ⟨(zhK P "__classcell__"), (zsK "__classcell__" 581), (.ref 304)⟩] 6), #[]⟩
def C304 : Obj := ⟨(.type "cell"), none, (.cell (some (.ref 319))), #[]⟩
def C305 : Obj := zt []
def C306 : Obj := zn [(zi 71), (zi 4), (.ref 315)]
def C307 : Obj := zc [(zsK "TooMany" 560), (zsK "TooMany" 561), (zsK "/claim/cut.py" 562), (zi 69), (zi 0), (zi 0), (zi 0), (zi 0), (.ref 305), (.bool false), (zi 181), (.ref 306), .none, .none, .none, .none, (zi 563), (zi 69), (zsK "/claim/cut.py" 564)]
def C308 : Obj := ⟨(.type "frame"), none, .plain, #[(some (.ref 307)), (some (.ref 3)), (some (.ref 303)), none, (some (zsK "epochrooms.errors" 187)), none, (some (.ref 0))]⟩
def C309 : Obj := zt [(.ref 304)]
def C310 : Obj := zt [(zsK "__class__" 573)]
def C311 : Obj := zn []
def C312 : Obj := zt [(zsK "self" 574), (zsK "most" 575)]
def C313 : Obj := zt []
def C314 : Obj := ⟨.none, none, (.func ⟨(zo "__init__"), (zo "TooMany.__init__"), (zAC 15 0), (.stmts (zBC 15 0)), (zSC 15 0), 0, [], .none, .none, .none, .none, none, .none, .none, 0⟩), #[]⟩
def C315 : Obj := zc [(zsK "__init__" 570), (zsK "TooMany.__init__" 571), (zsK "/claim/cut.py" 572), (zi 71), (zi 2), (zi 0), (zi 0), (zi 3), (.ref 310), (.bool true), (zi 181), (.ref 311), .none, (.ref 312), (.ref 313), (.ref 314), (zi 576), (zi 71), (zsK "/claim/cut.py" 577)]
def C316 : Obj := zf ⟨(zo "__init__"), (zo "TooMany.__init__"), (zAC 15 0), (.stmts (zBC 15 0)), (zSC 15 0), 3, [((zo "__class__"), 304)], .none, .none, .none, (zsK "epochrooms.errors" 187), none, (.ref 315), (.ref 309), 0⟩
def C317 : Obj := zt [(zsK "most" 579)]
def C318 (P : Params) : Obj := ⟨(.type "dict"), none, (.dict #[⟨(zhK P "__module__"), (zsK "__module__" 565), (zsK "epochrooms.errors" 187)⟩, ⟨(zhK P "__firstlineno__"), (zsK "__firstlineno__" 569), (.int 69 568)⟩, ⟨(zhK P "__init__"), (zsK "__init__" 578), (.ref 316)⟩, ⟨(zhK P "__static_attributes__"), (zsK "__static_attributes__" 580), (.ref 317)⟩, ⟨(zhK P "__weakref__"), (zsK "__weakref__" 583), (.ref 320)⟩, ⟨(zhK P "__doc__"), (zsK "__doc__" 584), .none⟩] 4), #[]⟩
def C319 : Obj := ⟨(.type "type"), none, (.cls ⟨(zo "TooMany"), [(.type "OverflowError")], [(.ref 319), (.type "OverflowError"), (.type "ArithmeticError"), (.type "Exception"), (.type "BaseException"), (.type "object")], 318, (zo "TooMany"), true, [], [], false, none, false⟩), #[(some (.ref 301)), none, (some (zsK "TooMany" 558)), (some (zsK "TooMany" 566)), (some (.builtin "OverflowError.__new__")), (some (.bool true))]⟩
def C320 : Obj := ⟨(.type "getset_descriptor"), none, (.fields #[(zsK "__weakref__" 582), (.ref 319), (.builtin "ExceptionGroup.__weakref__"), .none]), #[]⟩
def C321 : Obj := ⟨(.type "super"), none, (.fields #[(.ref 319), (.ref 319), (.ref 319)]), #[]⟩
def C322 : Obj := ⟨(.type "builtin_function_or_method"), none, (.fields #[(.builtin "object.__init_subclass__"), (.ref 319)]), #[]⟩
def C323 : Obj := zt [(.type "KeyError")]
def C324 : Obj := ⟨(.type "builtin_function_or_method"), none, (.fields #[(.builtin "type.__prepare__"), (.type "type")]), #[]⟩
def C325 (P : Params) : Obj := ⟨(.type "dict"), none, (.dict #[⟨(zhK P "__module__"), (zsK "__module__" 596), (zsK "epochrooms.errors" 187)⟩, ⟨(zhK P "__qualname__"), (zsK "__qualname__" 598), (zsK "NoHand" 597)⟩, ⟨(zhK P "__firstlineno__"), (zsK "__firstlineno__" 600), (.int 74 599)⟩, ⟨(zhK P "__init__"), (zsK "__init__" 609), (.ref 338)⟩, ⟨(zhK P "__static_attributes__"), (zsK "__static_attributes__" 611), (.ref 339)⟩, ⟨(zhK P "__classcell__"), (zsK "__classcell__" 612), (.ref 326)⟩] 6), #[]⟩
def C326 : Obj := ⟨(.type "cell"), none, (.cell (some (.ref 341))), #[]⟩
def C327 : Obj := zt []
def C328 : Obj := zn [(zi 76), (zi 4), (.ref 337)]
def C329 : Obj := zc [(zsK "NoHand" 591), (zsK "NoHand" 592), (zsK "/claim/cut.py" 593), (zi 74), (zi 0), (zi 0), (zi 0), (zi 0), (.ref 327), (.bool false), (zi 181), (.ref 328), .none, .none, .none, .none, (zi 594), (zi 74), (zsK "/claim/cut.py" 595)]
def C330 : Obj := ⟨(.type "frame"), none, .plain, #[(some (.ref 329)), (some (.ref 3)), (some (.ref 325)), none, (some (zsK "epochrooms.errors" 187)), none, (some (.ref 0))]⟩
def C331 : Obj := zt [(.ref 326)]
def C332 : Obj := zt [(zsK "__class__" 604)]
def C333 : Obj := zn []
def C334 : Obj := zt [(zsK "self" 605), (zsK "hand" 606)]
def C335 : Obj := zt []
def C336 : Obj := ⟨.none, none, (.func ⟨(zo "__init__"), (zo "NoHand.__init__"), (zAC 16 0), (.stmts (zBC 16 0)), (zSC 16 0), 0, [], .none, .none, .none, .none, none, .none, .none, 0⟩), #[]⟩
def C337 : Obj := zc [(zsK "__init__" 601), (zsK "NoHand.__init__" 602), (zsK "/claim/cut.py" 603), (zi 76), (zi 2), (zi 0), (zi 0), (zi 3), (.ref 332), (.bool true), (zi 181), (.ref 333), .none, (.ref 334), (.ref 335), (.ref 336), (zi 607), (zi 76), (zsK "/claim/cut.py" 608)]
def C338 : Obj := zf ⟨(zo "__init__"), (zo "NoHand.__init__"), (zAC 16 0), (.stmts (zBC 16 0)), (zSC 16 0), 3, [((zo "__class__"), 326)], .none, .none, .none, (zsK "epochrooms.errors" 187), none, (.ref 337), (.ref 331), 0⟩
def C339 : Obj := zt [(zsK "hand" 610)]
def C340 (P : Params) : Obj := ⟨(.type "dict"), none, (.dict #[⟨(zhK P "__module__"), (zsK "__module__" 596), (zsK "epochrooms.errors" 187)⟩, ⟨(zhK P "__firstlineno__"), (zsK "__firstlineno__" 600), (.int 74 599)⟩, ⟨(zhK P "__init__"), (zsK "__init__" 609), (.ref 338)⟩, ⟨(zhK P "__static_attributes__"), (zsK "__static_attributes__" 611), (.ref 339)⟩, ⟨(zhK P "__weakref__"), (zsK "__weakref__" 614), (.ref 342)⟩, ⟨(zhK P "__doc__"), (zsK "__doc__" 615), .none⟩] 4), #[]⟩
def C341 : Obj := ⟨(.type "type"), none, (.cls ⟨(zo "NoHand"), [(.type "KeyError")], [(.ref 341), (.type "KeyError"), (.type "LookupError"), (.type "Exception"), (.type "BaseException"), (.type "object")], 340, (zo "NoHand"), true, [], [], false, none, false⟩), #[(some (.ref 323)), none, (some (zsK "NoHand" 589)), (some (zsK "NoHand" 597)), (some (.builtin "LookupError.__new__")), (some (.bool true))]⟩
def C342 : Obj := ⟨(.type "getset_descriptor"), none, (.fields #[(zsK "__weakref__" 613), (.ref 341), (.builtin "ExceptionGroup.__weakref__"), .none]), #[]⟩
def C343 : Obj := ⟨(.type "super"), none, (.fields #[(.ref 341), (.ref 341), (.ref 341)]), #[]⟩
def C344 : Obj := ⟨(.type "builtin_function_or_method"), none, (.fields #[(.builtin "object.__init_subclass__"), (.ref 341)]), #[]⟩
def C345 : Obj := zt []
def C346 : Obj := zn []
def C347 : Obj := zt [(zsK "_law_thing" 625), (zsK "_law_found" 626)]
def C348 : Obj := zt []
def C349 : Obj := ⟨.none, none, (.func ⟨(zo "_law_by_place"), (zo "_law_by_place"), (zA 18), (.stmts (zB 18)), (zS 19), 0, [], .none, .none, .none, .none, none, .none, .none, 0⟩), #[]⟩
def C350 : Obj := zc [(zsK "_law_by_place" 622), (zsK "_law_by_place" 623), (zsK "/claim/cut.py" 624), (zi 80), (zi 1), (zi 0), (zi 0), (zi 3), (.ref 345), (.bool true), (zi 181), (.ref 346), .none, (.ref 347), (.ref 348), (.ref 349), (zi 627), (zi 80), (zsK "/claim/cut.py" 628)]
def C351 : Obj := zf ⟨(zo "_law_by_place"), (zo "_law_by_place"), (zA 18), (.stmts (zB 18)), (zS 19), 3, [], .none, .none, .none, (zsK "law_epochrooms_k80_errors_by_hand" 620), none, (.ref 350), .none, 0⟩
def C352 : Obj := zt []
def C353 : Obj := zn []
def C354 : Obj := zt [(zsK "_law_thing" 633), (zsK "_law_found" 634)]
def C355 : Obj := zt []
def C356 : Obj := ⟨.none, none, (.func ⟨(zo "_law_by_name"), (zo "_law_by_name"), (zA 19), (.stmts (zB 19)), (zS 19), 0, [], .none, .none, .none, .none, none, .none, .none, 0⟩), #[]⟩
def C357 : Obj := zc [(zsK "_law_by_name" 630), (zsK "_law_by_name" 631), (zsK "/claim/cut.py" 632), (zi 84), (zi 1), (zi 0), (zi 0), (zi 3), (.ref 352), (.bool true), (zi 181), (.ref 353), .none, (.ref 354), (.ref 355), (.ref 356), (zi 635), (zi 84), (zsK "/claim/cut.py" 636)]
def C358 : Obj := zf ⟨(zo "_law_by_name"), (zo "_law_by_name"), (zA 19), (.stmts (zB 19)), (zS 19), 3, [], .none, .none, .none, (zsK "law_epochrooms_k80_errors_by_hand" 620), none, (.ref 357), .none, 0⟩
def C359 : Obj := zt []
def C360 : Obj := zn []
def C361 : Obj := zt [(zsK "_law_found" 641), (zsK "_law_parts" 642)]
def C362 : Obj := zt []
def C363 : Obj := ⟨.none, none, (.func ⟨(zo "_law_kept"), (zo "_law_kept"), (zA 20), (.stmts (zB 20)), (zS 20), 0, [], .none, .none, .none, .none, none, .none, .none, 0⟩), #[]⟩
def C364 : Obj := zc [(zsK "_law_kept" 638), (zsK "_law_kept" 639), (zsK "/claim/cut.py" 640), (zi 89), (zi 1), (zi 0), (zi 0), (zi 3), (.ref 359), (.bool true), (zi 181), (.ref 360), .none, (.ref 361), (.ref 362), (.ref 363), (zi 643), (zi 89), (zsK "/claim/cut.py" 644)]
def C365 : Obj := zf ⟨(zo "_law_kept"), (zo "_law_kept"), (zA 20), (.stmts (zB 20)), (zS 20), 3, [], .none, .none, .none, (zsK "law_epochrooms_k80_errors_by_hand" 620), none, (.ref 364), .none, 0⟩
def C366 : Obj := zt []
def C367 : Obj := zn []
def C368 : Obj := zt [(zsK "_law_e" 649), (zsK "_law_kinds_here" 650)]
def C369 : Obj := zt []
def C370 : Obj := ⟨.none, none, (.func ⟨(zo "_law_kinds"), (zo "_law_kinds"), (zA 21), (.stmts (zB 21)), (zS 21), 0, [], .none, .none, .none, .none, none, .none, .none, 0⟩), #[]⟩
def C371 : Obj := zc [(zsK "_law_kinds" 646), (zsK "_law_kinds" 647), (zsK "/claim/cut.py" 648), (zi 93), (zi 1), (zi 0), (zi 0), (zi 3), (.ref 366), (.bool true), (zi 181), (.ref 367), .none, (.ref 368), (.ref 369), (.ref 370), (zi 651), (zi 93), (zsK "/claim/cut.py" 652)]
def C372 : Obj := zf ⟨(zo "_law_kinds"), (zo "_law_kinds"), (zA 21), (.stmts (zB 21)), (zS 21), 3, [], .none, .none, .none, (zsK "law_epochrooms_k80_errors_by_hand" 620), none, (.ref 371), .none, 0⟩
def C373 : Obj := zt []
def C374 : Obj := zn []
def C375 : Obj := ⟨.none, none, (.func ⟨(zo "_law_others_right"), (zo "_law_others_right"), (zA 22), (.stmts (zB 22)), (zS 22), 0, [], .none, .none, .none, .none, none, .none, .none, 0⟩), #[]⟩
def C376 : Obj := zc [(zsK "_law_others_right" 654), (zsK "_law_others_right" 655), (zsK "/claim/cut.py" 656), (zi 98), (zi 1), (zi 0), (zi 0), (zi 3), (.ref 373), (.bool true), (zi 181), (.ref 374), .none, .none, .none, (.ref 375), (zi 657), (zi 98), (zsK "/claim/cut.py" 658)]
def C377 : Obj := zf ⟨(zo "_law_others_right"), (zo "_law_others_right"), (zA 22), (.stmts (zB 22)), (zS 22), 3, [], .none, .none, .none, (zsK "law_epochrooms_k80_errors_by_hand" 620), none, (.ref 376), .none, 0⟩
def C378 : Obj := zt []
def C379 : Obj := zn []
def C380 : Obj := ⟨.none, none, (.func ⟨(zo "law"), (zo "law"), (zA 23), (.stmts (zB 23)), (zS 23), 0, [], .none, .none, .none, .none, none, .none, .none, 0⟩), #[]⟩
def C381 : Obj := zc [(zsK "law" 660), (zsK "law" 661), (zsK "/claim/cut.py" 662), (zi 107), (zi 1), (zi 0), (zi 0), (zi 3), (.ref 378), (.bool true), (zi 181), (.ref 379), .none, .none, .none, (.ref 380), (zi 663), (zi 107), (zsK "/claim/cut.py" 664)]
def C382 : Obj := zf ⟨(zo "law"), (zo "law"), (zA 23), (.stmts (zB 23)), (zS 23), 3, [], .none, .none, .none, (zsK "law_epochrooms_k80_errors_by_hand" 620), none, (.ref 381), .none, 0⟩
noncomputable def zTA (P : Params) : BT := (N (boot_o_0 P) (N (boot_o_1 P) (N (boot_o_3 P) (N (boot_o_7 P) Z Z) (N B11 Z Z)) (N (boot_o_5 P) (N (boot_o_9 P) Z Z) (N B13 Z Z))) (N (boot_o_2 P) (N (boot_o_4 P) (N (boot_o_8 P) Z Z) (N B12 Z Z)) (N (boot_o_6 P) (N (boot_o_10 P) Z Z) (N B14 Z Z))))
noncomputable def zStA (w : World) (os : OsState) : SharedT := ⟨zTA w.params, 15, ⟨[], [], [], 0, [], [], false, #[], [], 0, false, false, false, 0, [2000, 10, 10], false, 0, true, [], [], 0, false⟩, #[], ⟨0, 0, 0, 0⟩, 187, os⟩
noncomputable def zT23 (P : Params) : BT := (N (boot_o_0 P) (N (boot_o_1 P) (N (C3 P) (N (boot_o_7 P) (N C15 (N C31 (N C63 (N C127 (N (C255 P) Z Z) Z) (N C191 (N C319 Z Z) Z)) (N C95 (N C159 (N C287 Z Z) Z) (N C223 (N C351 Z Z) Z))) (N C47 (N C79 (N C143 (N C271 Z Z) Z) (N C207 (N C335 Z Z) Z)) (N C111 (N C175 (N (C303 P) Z Z) Z) (N C239 (N C367 Z Z) Z)))) (N (C23 P) (N C39 (N C71 (N (C135 P) (N C263 Z Z) Z) (N C199 (N C327 Z Z) Z)) (N C103 (N C167 (N C295 Z Z) Z) (N C231 (N C359 Z Z) Z))) (N C55 (N (C87 P) (N C151 (N C279 Z Z) Z) (N C215 (N C343 Z Z) Z)) (N C119 (N C183 (N C311 Z Z) Z) (N C247 (N C375 Z Z) Z))))) (N B11 (N C19 (N C35 (N C67 (N C131 (N C259 Z Z) Z) (N C195 (N C323 Z Z) Z)) (N C99 (N C163 (N C291 Z Z) Z) (N C227 (N C355 Z Z) Z))) (N (C51 P) (N C83 (N C147 (N C275 Z Z) Z) (N C211 (N C339 Z Z) Z)) (N C115 (N C179 (N C307 Z Z) Z) (N C243 (N C371 Z Z) Z)))) (N C27 (N C43 (N C75 (N C139 (N C267 Z Z) Z) (N C203 (N C331 Z Z) Z)) (N C107 (N (C171 P) (N C299 Z Z) Z) (N C235 (N C363 Z Z) Z))) (N C59 (N C91 (N C155 (N C283 Z Z) Z) (N (C219 P) (N C347 Z Z) Z)) (N C123 (N C187 (N C315 Z Z) Z) (N C251 (N C379 Z Z) Z)))))) (N (boot_o_5 P) (N (boot_o_9 P) (N (C17 P) (N C33 (N C65 (N (C129 P) (N C257 Z Z) Z) (N C193 (N C321 Z Z) Z)) (N C97 (N C161 (N C289 Z Z) Z) (N C225 (N C353 Z Z) Z))) (N C49 (N C81 (N C145 (N C273 Z Z) Z) (N C209 (N C337 Z Z) Z)) (N C113 (N (C177 P) (N C305 Z Z) Z) (N C241 (N C369 Z Z) Z)))) (N C25 (N C41 (N C73 (N C137 (N C265 Z Z) Z) (N C201 (N C329 Z Z) Z)) (N C105 (N C169 (N (C297 P) Z Z) Z) (N C233 (N C361 Z Z) Z))) (N C57 (N C89 (N C153 (N C281 Z Z) Z) (N C217 (N C345 Z Z) Z)) (N C121 (N C185 (N C313 Z Z) Z) (N C249 (N C377 Z Z) Z))))) (N B13 (N C21 (N C37 (N C69 (N C133 (N (C261 P) Z Z) Z) (N C197 (N (C325 P) Z Z) Z)) (N C101 (N C165 (N C293 Z Z) Z) (N C229 (N C357 Z Z) Z))) (N C53 (N C85 (N C149 (N C277 Z Z) Z) (N (C213 P) (N C341 Z Z) Z)) (N C117 (N C181 (N C309 Z Z) Z) (N C245 (N C373 Z Z) Z)))) (N C29 (N (C45 P) (N C77 (N C141 (N C269 Z Z) Z) (N C205 (N C333 Z Z) Z)) (N C109 (N C173 (N C301 Z Z) Z) (N C237 (N C365 Z Z) Z))) (N C61 (N (C93 P) (N C157 (N C285 Z Z) Z) (N C221 (N C349 Z Z) Z)) (N C125 (N C189 (N C317 Z Z) Z) (N C253 (N C381 Z Z) Z))))))) (N (C2 P) (N (boot_o_4 P) (N (boot_o_8 P) (N C16 (N C32 (N C64 (N C128 (N C256 Z Z) Z) (N (C192 P) (N C320 Z Z) Z)) (N C96 (N C160 (N C288 Z Z) Z) (N C224 (N C352 Z Z) Z))) (N C48 (N C80 (N C144 (N C272 Z Z) Z) (N C208 (N C336 Z Z) Z)) (N C112 (N C176 (N C304 Z Z) Z) (N (C240 P) (N C368 Z Z) Z)))) (N C24 (N C40 (N (C72 P) (N C136 (N C264 Z Z) Z) (N C200 (N C328 Z Z) Z)) (N C104 (N C168 (N C296 Z Z) Z) (N C232 (N C360 Z Z) Z))) (N C56 (N C88 (N C152 (N C280 Z Z) Z) (N C216 (N C344 Z Z) Z)) (N C120 (N C184 (N C312 Z Z) Z) (N C248 (N C376 Z Z) Z))))) (N C12 (N C20 (N C36 (N C68 (N C132 (N C260 Z Z) Z) (N C196 (N C324 Z Z) Z)) (N C100 (N C164 (N C292 Z Z) Z) (N C228 (N C356 Z Z) Z))) (N C52 (N C84 (N C148 (N (C276 P) Z Z) Z) (N C212 (N (C340 P) Z Z) Z)) (N C116 (N C180 (N C308 Z Z) Z) (N C244 (N C372 Z Z) Z)))) (N C28 (N C44 (N C76 (N C140 (N C268 Z Z) Z) (N C204 (N C332 Z Z) Z)) (N (C108 P) (N C172 (N C300 Z Z) Z) (N C236 (N C364 Z Z) Z))) (N C60 (N C92 (N (C156 P) (N C284 Z Z) Z) (N C220 (N C348 Z Z) Z)) (N C124 (N C188 (N C316 Z Z) Z) (N C252 (N C380 Z Z) Z)))))) (N (boot_o_6 P) (N (boot_o_10 P) (N C18 (N C34 (N (C66 P) (N C130 (N C258 Z Z) Z) (N C194 (N C322 Z Z) Z)) (N C98 (N C162 (N C290 Z Z) Z) (N C226 (N C354 Z Z) Z))) (N C50 (N C82 (N C146 (N C274 Z Z) Z) (N C210 (N C338 Z Z) Z)) (N (C114 P) (N C178 (N C306 Z Z) Z) (N C242 (N C370 Z Z) Z)))) (N C26 (N C42 (N C74 (N C138 (N C266 Z Z) Z) (N C202 (N C330 Z Z) Z)) (N C106 (N C170 (N C298 Z Z) Z) (N (C234 P) (N C362 Z Z) Z))) (N C58 (N C90 (N C154 (N (C282 P) Z Z) Z) (N C218 (N C346 Z Z) Z)) (N C122 (N C186 (N C314 Z Z) Z) (N C250 (N C378 Z Z) Z))))) (N B14 (N C22 (N C38 (N C70 (N C134 (N C262 Z Z) Z) (N (C198 P) (N C326 Z Z) Z)) (N C102 (N C166 (N C294 Z Z) Z) (N C230 (N C358 Z Z) Z))) (N C54 (N C86 (N (C150 P) (N C278 Z Z) Z) (N C214 (N C342 Z Z) Z)) (N C118 (N C182 (N C310 Z Z) Z) (N C246 (N C374 Z Z) Z)))) (N (C30 P) (N C46 (N C78 (N C142 (N C270 Z Z) Z) (N C206 (N C334 Z Z) Z)) (N C110 (N C174 (N C302 Z Z) Z) (N C238 (N C366 Z Z) Z))) (N C62 (N C94 (N C158 (N C286 Z Z) Z) (N C222 (N C350 Z Z) Z)) (N C126 (N C190 (N (C318 P) Z Z) Z) (N C254 (N C382 Z Z) Z))))))))
noncomputable def zSt23 (w : World) (os : OsState) : SharedT := ⟨zT23 w.params, 383, ⟨[], [], [], 0, [], [], false, #[], [], 0, false, false, false, 0, [2000, 10, 10], false, 0, true, [], [], 0, false⟩, #[], ⟨0, 0, 0, 0⟩, 666, os⟩
def envT : Env := { scope := PP.main.scope, locals := mainNs, globals := mainNs, cells := [], code := (.ref 13), frame := some 14 }
def qT : Pos := ⟨0, 0, 0, 0⟩
def annT : Option Value := (some (.ref 6))
abbrev bodyT : List Stmt := behindTheImports PP
abbrev codeT : Code := .body bodyT envT
noncomputable def thT : Thread := ⟨denote treeTable codeT, codeT, ⟨0, 0, 0, 0⟩, [topFrame qT]⟩
noncomputable def thQ : Thread := ⟨denQ tabQ codeT, codeT, ⟨0, 0, 0, 0⟩, [topFrame qT]⟩
open ML
def lo0 : List Str := ["RoomsError", "NoNumber", "NoSize", "NoSwitch", "NoValue", "NoBook", "NoSetting", "NoMove", "NothingBack", "NoTable", "NoChange", "NoPick", "NoNote", "IsSafe", "TooMany", "NoHand", "_law_by_place", "_law_by_name", "_law_kept", "_law_kinds", "_law_others_right"]
def loA : List Str := lo0
def adL : List Addr := [2, 3, 6, 4, 24, 46, 67, 88, 109, 130, 151, 172, 193, 214, 235, 256, 277, 298, 319, 341, 351, 358, 365, 372, 377, 382, 0, 23, 45, 66, 87, 108, 129, 150, 171, 192, 213, 234, 255, 276, 297, 318, 340, 350, 357, 364, 371, 376, 381, 22, 25, 43, 44, 64, 65, 85, 86, 106, 107, 127, 128, 148, 149, 169, 170, 190, 191, 211, 212, 232, 233, 253, 254, 274, 275, 295, 296, 316, 317, 320, 338, 339, 342, 345, 346, 347, 348, 349, 352, 353, 354, 355, 356, 359, 360, 361, 362, 363, 366, 367, 368, 369, 370, 373, 374, 375, 378, 379, 380, 42, 31, 63, 52, 84, 73, 105, 94, 126, 115, 147, 136, 168, 157, 189, 178, 210, 199, 231, 220, 252, 241, 273, 262, 294, 283, 315, 304, 337, 326, 37, 38, 39, 40, 41, 58, 59, 60, 61, 62, 79, 80, 81, 82, 83, 100, 101, 102, 103, 104, 121, 122, 123, 124, 125, 142, 143, 144, 145, 146, 163, 164, 165, 166, 167, 184, 185, 186, 187, 188, 205, 206, 207, 208, 209, 226, 227, 228, 229, 230, 247, 248, 249, 250, 251, 268, 269, 270, 271, 272, 289, 290, 291, 292, 293, 310, 311, 312, 313, 314, 332, 333, 334, 335, 336]
abbrev hk : Hook := hookL adL spec
def ob (s : SharedT) : AlM := obsLG adL spec (getT s)
theorem ob_eq (s : SharedT) : ob s = hk.obs s.abs := obsLG_eq (getT_eq s)
abbrev qV : Program := view PP [23]
theorem look1 (w : World) (os : OsState) : looksF PP (boot_heap w.params) (zSt23 w os).abs = true := by kernel_rfl
theorem look2 (w : World) (os : OsState) : seenQ qV loA (importedModules PP.main.body) (fun s => xlAt qV [] s && recOk Rr.toRowW.records s) (zSt23 w os).abs = openGood qV loA := by kernel_rfl
theorem look3a (w : World) (os : OsState) : ob (zSt23 w os) = hk.val w := by kernel_rfl
abbrev TLeft : Prop := LeftO PP qV loA (fun s => xlAt qV [] s && recOk Rr.toRowW.records s) hk.obs hk.val 4972 true
abbrev TFacts : Prop := ∀ {w : World} {K : PySem.W.Frag} {h : Heap} {mg : Str → Option Value} {f : Addr} (X : K.In h) (Gn : h.Ns mainGlobals mg) (hfa : mg ("law" : Str) = some (.ref f)) (c : SaysM spec w K), ∃ fd : FuncData, (∀ (s : Shared) (v : Value), BindsTo s fd ⟨[v], []⟩ [("_law_script", v)]) ∧ ∀ base : Heap, K.In base → base.Ns mainGlobals mg → FnOk P w K mg base CX0 7 f fd ["_law_script"] (fun vs H Q _ => spM (GxOf w K mg nm) 1 f_law vs H Q fun _ _ _ => False)
abbrev TPure : Prop := ∀ (ns : List Int) (hl : ns.length ≤ 63), ∃ h', f_law [.ref 0] [.scr (ns.map VI.int)] = .ok (.bl true) h'
end Lw
end
section
set_option maxHeartbeats 0
open PySem PySem.W PySem.Calls PyProof.Rows
theorem Lw.fin_row (hleft : Lw.TLeft) (hfacts : Lw.TFacts) (hpure : Lw.TPure) : PySem.Challenge.rw_epochrooms_k80_errors_by_hand.Holds := by
  refine Lw.pre_row fun said => ?_
  refine MHP.head_left (r := OpenLaw.row PySem.Challenge.rw_epochrooms_k80_errors_by_hand) (q := view (OpenLaw.row PySem.Challenge.rw_epochrooms_k80_errors_by_hand).prog [23]) (H := Lw.hk) (loose := Lw.loA) (d := HandSHeadRun.topDef (OpenLaw.row PySem.Challenge.rw_epochrooms_k80_errors_by_hand).prog 23) (kwd := []) hleft
    (by kernel_rfl) (by kernel_rfl) (by kernel_rfl) (by rfl) (by first | assumption | decide +kernel) (by decide +kernel) ⟨rfl, rfl, rfl, rfl, rfl, by decide +kernel⟩ ?hw ?hc
  case hw => w_witness2
  case hc =>
    refine L2.walk_ofE (l := PySem.Challenge.rw_epochrooms_k80_errors_by_hand) (n := 63) (k := 7) (x := "_law_script") (CX := L2.CX0) rfl (by decide) (by kernel_rfl) ⟨rfl, by decide, by decide⟩ ?F (fun _ _ _ _ z => z)
    intro w mg fa h Y G hmg0
    obtain ⟨K, KX, c⟩ := Y
    have hmg : mg ("law" : PySem.Str) = some (.ref fa) := by
      have e : (HandSHeadRun.topDef (OpenLaw.row PySem.Challenge.rw_epochrooms_k80_errors_by_hand).prog 23).name = ("law" : PySem.Str) := by kernel_rfl
      rw [← e]
      exact hmg0
    obtain ⟨fd, hb, hF⟩ := hfacts KX G hmg c
    exact ⟨K, fd, _, KX, hb, fun H a ns hl hO hS => by
      obtain ⟨h', e⟩ := hpure ns hl
      exact ML.law_sp (c.ex 88 (f := ML.noLstB) rfl) hO hS e, hF⟩
end
section
set_option maxHeartbeats 0
namespace Lw
open PySem PySem.Spec PyProof.Rows PySem.W L2 He MHP HandSHeadRun
theorem th_eq : thQ = thT := by
  unfold thQ thT
  rw [← denQ_eq, ← tabQ_eq]
theorem preQ (w : World) (os : OsState) : preF (stepQ (denQ tabQ) PP w) 11 annT 12 PP w os = some (zStA w os, thQ) := by kernel_rfl
theorem preT (w : World) (os : OsState) : preF (stepQ (denQ tabQ) PP w) 11 annT 12 PP w os = some (zStA w os, thT) := by
  rw [← th_eq]
  exact preQ w os
theorem sizeT (w : World) : (boot_heap w.params).objs.size = 11 := by kernel_rfl
theorem annT_ok (w : World) : bootAnn w = annT := by kernel_rfl
theorem blockT (w : World) (os : OsState) : segRun treeTable PP w 11 annT 1 1 (zStA w os).abs (blockOf bodyT envT codeT ⟨0, 0, 0, 0⟩ [topFrame qT]) = some (.next, (zStA w os).abs, codeT, ⟨0, 0, 0, 0⟩) := by kernel_rfl
theorem seg23 (w : World) : ∀ os : OsState, segF (stepQ (denQ tabQ) PP (w)) 11 annT 1 4258 (zStA (w) os) (piecesOf (sub bodyT 0 24) envT codeT ⟨0, 0, 0, 0⟩ [topFrame qT]) = some (.next, zSt23 (w) os, codeT, ⟨107, 0, 117, 15⟩) := by
  intro os
  kernel_rfl
theorem finT (w : World) (os : OsState) : goF (stepQ (denQ tabQ) PP w) 11 annT 2 (zSt23 w os) (restOf [] envT codeT ⟨107, 0, 117, 15⟩ [topFrame qT]) = some (zSt23 w os) := by kernel_rfl
theorem bodyT_eq : bodyT = (sub bodyT 0 24 ++ []) := by kernel_rfl
theorem restT (w : World) (os : OsState) : topRun treeTable PP w 11 annT (1 + (4258 + (2))) (zStA w os).abs thT = some (zSt23 w os).abs := by
  have z : topRun treeTable PP w 11 annT (4258 + (2)) (zStA w os).abs (restOf (sub bodyT 0 24 ++ []) envT codeT ⟨0, 0, 0, 0⟩ [topFrame qT]) = some (zSt23 w os).abs := piece_app (seg_ok (seg23 w os)) (fin_ok (finT w os))
  rw [← bodyT_eq] at z
  exact piece_block (blockT w os) z
end Lw
end
section
namespace ML
open PySem L2
def sok (s : S) : Bool := SeqAt.shaped (.str (toStr s))
theorem beqI (a b : Int) : (a == b) = decide (a = b) := by
  by_cases h : a = b <;> simp [h]
theorem w_eqI (a b : Int) (h : Hi) : fEq (.int a) (.int b) h = some (.bl (decide (a = b)), h) := by
  have e : eqD h (.int a) (.int b) = some (a == b) := by kernel_rfl
  simp only [fEq, e, beqI]
theorem w_eqX_II (a b : Int) (h : Hi) : fEqX (.int a) (.int b) h = some (.bl (decide (a = b)), h) := w_eqI a b h
end ML
end
section
namespace ML
open PySem L2
theorem turnsC_fm {it : Itm} {t : Tgt} {vs : List Nat} {tt : MT} {el : ME} {σ : Sg} {xs : List VI} {h1 : Hi} {τ : VI → Sg} {p : VI → Bool} {f : VI → VI}
    (hn : ∀ i acc, it.nxt i (h1 ++ [.lst acc]) = some xs[i]?) (hput : ∀ x ∈ xs, t.put x (wipeM σ vs) = some (τ x)) (htt : ∀ x ∈ xs, ∀ acc, tt (τ x) (h1 ++ [.lst acc]) = .ok (p x) (h1 ++ [.lst acc]))
    (hel : ∀ x ∈ xs, p x = true → ∀ acc, el (τ x) (h1 ++ [.lst acc]) = .ok (f x) (h1 ++ [.lst acc])) (sm : xs.length ≤ 100000) : ∀ k i acc, i + k = xs.length → acc.length ≤ i →
    turnsC it t vs tt el h1.length σ k i (h1 ++ [.lst acc]) = some (h1 ++ [.lst (acc ++ ((xs.drop i).filter p).map f)])
  | 0, i, acc, e, _ => by
    have : xs.length ≤ i := by omega
    unfold turnsC
    rw [hn, List.getElem?_eq_none_iff.mpr this, List.drop_of_length_le this]
    simp
  | k + 1, i, acc, e, ha => by
    have hi : i < xs.length := by omega
    unfold turnsC
    rw [hn, List.getElem?_eq_getElem hi]
    have hm := List.getElem_mem hi
    dsimp only
    rw [hput _ hm]
    dsimp only
    rw [htt _ hm]
    have hd : xs.drop i = xs[i] :: xs.drop (i + 1) := List.drop_eq_getElem_cons hi
    rw [hd]
    cases q : p xs[i] with
    | false =>
      dsimp only
      rw [turnsC_fm hn hput htt hel sm k (i + 1) acc (by omega) (by omega), List.filter_cons_of_neg (by simp [q])]
    | true =>
      dsimp only
      rw [hel _ hm q]
      have e1 : (h1 ++ [OI.lst acc])[h1.length]? = some (.lst acc) := by simp
      dsimp only
      rw [e1]
      dsimp only
      have e2 : small (acc.length + 1) = true := by rw [z_small]; simp; omega
      rw [e2]
      dsimp only
      have e3 : (h1 ++ [OI.lst acc]).set h1.length (.lst (acc ++ [f xs[i]])) = h1 ++ [.lst (acc ++ [f xs[i]])] := by simp
      rw [e3, turnsC_fm hn hput htt hel sm k (i + 1) _ (by omega) (by simp; omega), List.filter_cons_of_pos (by simp [q])]
      simp
theorem lc_fm {mi : MI} {it : Itm} {t : Tgt} {vs : List Nat} {tt : MT} {el : ME} {σ : Sg} {xs : List VI} {h h1 : Hi} (τ : VI → Sg) (p : VI → Bool) (f : VI → VI) (hmi : mi σ h = .ok it h1) (hfu : it.fuel h1 = xs.length)
    (hn : ∀ i acc, it.nxt i (h1 ++ [.lst acc]) = some xs[i]?) (hput : ∀ x ∈ xs, t.put x (wipeM σ vs) = some (τ x)) (htt : ∀ x ∈ xs, ∀ acc, tt (τ x) (h1 ++ [.lst acc]) = .ok (p x) (h1 ++ [.lst acc]))
    (hel : ∀ x ∈ xs, p x = true → ∀ acc, el (τ x) (h1 ++ [.lst acc]) = .ok (f x) (h1 ++ [.lst acc])) (sm : xs.length ≤ 100000) :
    eLc mi t vs tt el σ h = .ok (.ref h1.length) (h1 ++ [.lst ((xs.filter p).map f)]) := by
  unfold eLc
  rw [hmi]
  show (match turnsC it t vs tt el h1.length σ (it.fuel h1) 0 (h1 ++ [.lst []]) with | some h2 => Res.ok (VI.ref h1.length) h2 | none => .err) = _
  rw [hfu, turnsC_fm hn hput htt hel sm xs.length 0 [] (by omega) (by simp)]
  simp
theorem lc_m {mi : MI} {it : Itm} {t : Tgt} {vs : List Nat} {el : ME} {σ : Sg} {xs : List VI} {h h1 : Hi} (τ : VI → Sg) (f : VI → VI) (hmi : mi σ h = .ok it h1) (hfu : it.fuel h1 = xs.length)
    (hn : ∀ i acc, it.nxt i (h1 ++ [.lst acc]) = some xs[i]?) (hput : ∀ x ∈ xs, t.put x (wipeM σ vs) = some (τ x))
    (hel : ∀ x ∈ xs, ∀ acc, el (τ x) (h1 ++ [.lst acc]) = .ok (f x) (h1 ++ [.lst acc])) (sm : xs.length ≤ 100000) :
    eLc mi t vs tYesM el σ h = .ok (.ref h1.length) (h1 ++ [.lst (xs.map f)]) := by
  have := lc_fm (tt := tYesM) τ (fun _ => true) f hmi hfu hn hput (fun _ _ _ => rfl) (fun x hx _ acc => hel x hx acc) sm
  rw [List.filter_eq_self.mpr (fun _ _ => rfl)] at this
  exact this
theorem nxt_lst {n : Nat} {xs : List VI} {h : Hi} (e : h[n]? = some (.lst xs)) (i : Nat) : (Itm.lst n).nxt i h = some xs[i]? := by simp [Itm.nxt, listAt, e]
theorem fuel_lst {n : Nat} {xs : List VI} {h : Hi} (e : h[n]? = some (.lst xs)) : (Itm.lst n).fuel h = xs.length := by simp [Itm.fuel, listAt, e]
theorem seq_lst {n : Nat} {xs : List VI} {h : Hi} (e : h[n]? = some (.lst xs)) : seqOf (.ref n) h = some (.lst n) := by simp [seqOf, listAt, e]
theorem at_app {h q : Hi} {m : Nat} {o : OI} (e : h[m]? = some o) : (h ++ q)[m]? = some o := by rw [List.getElem?_append_left (List.getElem?_eq_some_iff.mp e).1]; exact e
theorem fAdd_l {h : Hi} {a b : Nat} {xs ys : List VI} (e1 : h[a]? = some (.lst xs)) (e2 : h[b]? = some (.lst ys)) (sm : xs.length + ys.length ≤ 100000) : fAdd (.ref a) (.ref b) h = some (.ref h.length, h ++ [.lst (xs ++ ys)]) := by
  have s : small (xs.length + ys.length) = true := by rw [z_small]; simp; omega
  simp only [fAdd, e1, e2, s]
end ML
namespace ML
open PySem L2
end ML
end
section
namespace ML
open PySem L2
mutual
def pdV : VI → PyData
  | .bl b => .bool b
  | .int i => .int i
  | .str s => .str (toStr s)
  | .tup xs => .tuple (pdVs xs)
  | _ => .none
def pdVs : List VI → List PyData
  | [] => []
  | x :: xs => pdV x :: pdVs xs
end
mutual
def plV : Nat → VI → Bool
  | _, .non => true
  | _, .bl _ => true
  | _, .int _ => true
  | _, .str s => sok s
  | 0, .tup _ => false
  | n + 1, .tup xs => plVs n xs
  | _, _ => false
def plVs : Nat → List VI → Bool
  | _, [] => true
  | n, x :: xs => plV n x && plVs n xs
end
theorem sok_ok {s : S} (h : sok s = true) : PyData.canLay0 (.str (toStr s)) = true := by
  unfold sok at h
  exact SeqAt.canLay_of_shaped h
mutual
theorem dat_pd : ∀ (n m : Nat) (v : VI) (h : Hi), plV n v = true → n < m → dat m h v = some (pdV v)
  | n, 0, _, _, _, l => absurd l (Nat.not_lt_zero _)
  | _, m + 1, .non, _, _, _ => rfl
  | _, m + 1, .bl _, _, _, _ => rfl
  | _, m + 1, .int _, _, _, _ => rfl
  | _, m + 1, .str _, _, _, _ => rfl
  | 0, m + 1, .tup _, _, e, _ => by cases e
  | n + 1, m + 1, .tup xs, h, e, l => by
    have := datL_pd n m xs h (by simpa [plV] using e) (by omega)
    simp [dat, this, pdV]
  | 0, m + 1, .glo _, _, e, _ => by cases e
  | n + 1, m + 1, .glo _, _, e, _ => by cases e
  | 0, m + 1, .ref _, _, e, _ => by cases e
  | n + 1, m + 1, .ref _, _, e, _ => by cases e
theorem datL_pd : ∀ (n m : Nat) (xs : List VI) (h : Hi), plVs n xs = true → n < m → datL (dat m h) xs = some (pdVs xs)
  | _, _, [], _, _, _ => rfl
  | n, m, x :: xs, h, e, l => by
    simp only [plVs, Bool.and_eq_true] at e
    simp [datL, dat_pd n m x h e.1 l, datL_pd n m xs h e.2 l, pdVs]
end
mutual
theorem lay_pd : ∀ (n : Nat) (v : VI), plV n v = true → PyData.canLay0 (pdV v) = true ∧ PyData.depth (pdV v) ≤ n
  | _, .non, _ => ⟨rfl, Nat.zero_le _⟩
  | _, .bl _, _ => ⟨rfl, Nat.zero_le _⟩
  | _, .int _, _ => ⟨rfl, Nat.zero_le _⟩
  | n, .str s, e => ⟨sok_ok (by simpa [plV] using e), Nat.zero_le _⟩
  | 0, .tup _, e => by cases e
  | n + 1, .tup xs, e => by
    have := lays_pd n xs (by simpa [plV] using e)
    refine ⟨by simp [pdV, PyData.canLay0, this.1], ?_⟩
    simp only [pdV, PyData.depth]
    omega
  | 0, .glo _, e => by cases e
  | n + 1, .glo _, e => by cases e
  | 0, .ref _, e => by cases e
  | n + 1, .ref _, e => by cases e
theorem lays_pd : ∀ (n : Nat) (xs : List VI), plVs n xs = true → PyData.canLayAll0 (pdVs xs) = true ∧ PyData.depthAll (pdVs xs) ≤ n
  | _, [], _ => ⟨rfl, Nat.zero_le _⟩
  | n, x :: xs, e => by
    simp only [plVs, Bool.and_eq_true] at e
    have h1 := lay_pd n x e.1
    have h2 := lays_pd n xs e.2
    refine ⟨by simp [pdVs, PyData.canLayAll0, h1.1, h2.1], ?_⟩
    simp only [pdVs, PyData.depthAll]
    omega
end
mutual
theorem eqv_self : ∀ (v : VI), PyData.eqv (pdV v) (pdV v) = true
  | .non => by simp [pdV, PyData.eqv]
  | .bl _ => by simp [pdV, PyData.eqv]
  | .int _ => by simp [pdV, PyData.eqv]
  | .str s => by simp [pdV, PyData.eqv]
  | .tup xs => by simp [pdV, PyData.eqv, eqvs_self xs]
  | .glo _ => by simp [pdV, PyData.eqv]
  | .ref _ => by simp [pdV, PyData.eqv]
theorem eqvs_self : ∀ (xs : List VI), PyData.eqvAll (pdVs xs) (pdVs xs) = true
  | [] => by simp [pdVs, PyData.eqvAll]
  | x :: xs => by simp [pdVs, PyData.eqvAll, eqv_self x, eqvs_self xs]
end
mutual
def nbV : VI → Bool
  | .bl _ => false
  | .glo _ => false
  | .ref _ => false
  | .tup xs => nbVs xs
  | _ => true
def nbVs : List VI → Bool
  | [] => true
  | x :: xs => nbV x && nbVs xs
end
mutual
theorem eqv_inj : ∀ (v w : VI), nbV v = true → nbV w = true → PyData.eqv (pdV v) (pdV w) = true → v = w
  | .non, w, _, hw, e => by cases w <;> simp [pdV, PyData.eqv, nbV] at e hw ⊢
  | .bl _, _, hv, _, _ => by cases hv
  | .int i, w, _, hw, e => by
    cases w <;> simp [pdV, PyData.eqv, nbV] at e hw ⊢
    exact e
  | .str s, w, _, hw, e => by
    cases w <;> simp [pdV, PyData.eqv, nbV] at e hw ⊢
    exact toStr_inj e
  | .tup xs, w, hv, hw, e => by
    cases w with
    | tup ys =>
      simp only [pdV, PyData.eqv, nbV] at e hw hv
      rw [eqvs_inj xs ys hv hw e]
    | _ => simp [pdV, PyData.eqv, nbV] at e hw
  | .glo _, _, hv, _, _ => by cases hv
  | .ref _, _, hv, _, _ => by cases hv
theorem eqvs_inj : ∀ (xs ys : List VI), nbVs xs = true → nbVs ys = true → PyData.eqvAll (pdVs xs) (pdVs ys) = true → xs = ys
  | [], [], _, _, _ => rfl
  | [], y :: ys, _, _, e => by simp [pdVs, PyData.eqvAll] at e
  | x :: xs, [], _, _, e => by simp [pdVs, PyData.eqvAll] at e
  | x :: xs, y :: ys, hv, hw, e => by
    simp only [pdVs, PyData.eqvAll, Bool.and_eq_true, nbVs] at e hv hw
    rw [eqv_inj x y hv.1 hw.1 e.1, eqvs_inj xs ys hv.2 hw.2 e.2]
end
end ML
end
section
set_option maxHeartbeats 400000
namespace ML
open PySem L2
mutual
def flatV : VI → Bool
  | .ref _ => false
  | .tup xs => flatVs xs
  | _ => true
def flatVs : List VI → Bool
  | [] => true
  | x :: xs => flatV x && flatVs xs
end
def flatF : List (S × VI) → Bool
  | [] => true
  | (_, v) :: r => flatV v && flatF r
def flatK : List (VI × VI) → Bool
  | [] => true
  | (k, v) :: r => flatV k && (flatV v && flatK r)
def flatO : OI → Bool
  | .lst xs => flatVs xs
  | .scr xs => flatVs xs
  | .dic kvs => flatK kvs
  | .ins _ fs => flatF fs
  | .xd fs => flatF fs
  | .dnk kvs => flatK kvs
  | .dcl kvs => flatK kvs
  | .dnl kvs => flatK kvs
  | .exo _ _ => false
section
variable {r : List Nat}
mutual
theorem RV2.flat : ∀ {v w : VI}, RV2 r v w → flatV v = true → w = v
  | _, _, .non, _ => rfl
  | _, _, .bl _, _ => rfl
  | _, _, .int _, _ => rfl
  | _, _, .str _, _ => rfl
  | _, _, .glo _, _ => rfl
  | _, _, .ref _, e => by simp [flatV] at e
  | _, _, .tup t, e => by rw [RVs2.flat t (by simpa [flatV] using e)]
theorem RVs2.flat : ∀ {v w : List VI}, RVs2 r v w → flatVs v = true → w = v
  | _, _, .nil, _ => rfl
  | _, _, .cons a t, e => by
    simp only [flatVs, Bool.and_eq_true] at e
    rw [RV2.flat a e.1, RVs2.flat t e.2]
end
mutual
theorem RV2.self : ∀ (v : VI), flatV v = true → RV2 r v v
  | .non, _ => .non
  | .bl b, _ => .bl b
  | .int b, _ => .int b
  | .str b, _ => .str b
  | .glo b, _ => .glo b
  | .ref n, e => by simp [flatV] at e
  | .tup xs, e => .tup (RVs2.self xs (by simpa [flatV] using e))
theorem RVs2.self : ∀ (v : List VI), flatVs v = true → RVs2 r v v
  | [], _ => .nil
  | x :: xs, e => by
    simp only [flatVs, Bool.and_eq_true] at e
    exact .cons (RV2.self x e.1) (RVs2.self xs e.2)
end
theorem RFs2.flat : ∀ {v w : List (S × VI)}, RFs2 r v w → flatF v = true → w = v
  | _, _, .nil, _ => rfl
  | _, _, .cons a t, e => by
    simp only [flatF, Bool.and_eq_true] at e
    rw [a.flat e.1, RFs2.flat t e.2]
theorem RKs2.flat : ∀ {v w : List (VI × VI)}, RKs2 r v w → flatK v = true → w = v
  | _, _, .nil, _ => rfl
  | _, _, .cons a b t, e => by
    simp only [flatK, Bool.and_eq_true] at e
    rw [a.flat e.1, b.flat e.2.1, RKs2.flat t e.2.2]
theorem RFs2.self : ∀ (v : List (S × VI)), flatF v = true → RFs2 r v v
  | [], _ => .nil
  | (f, x) :: xs, e => by
    simp only [flatF, Bool.and_eq_true] at e
    exact .cons (RV2.self x e.1) (RFs2.self xs e.2)
theorem RKs2.self : ∀ (v : List (VI × VI)), flatK v = true → RKs2 r v v
  | [], _ => .nil
  | (f, x) :: xs, e => by
    simp only [flatK, Bool.and_eq_true] at e
    exact .cons (RV2.self f e.1) (RV2.self x e.2.1) (RKs2.self xs e.2.2)
theorem RO2.flat {o o' : OI} (k : RO2 r o o') (e : flatO o = true) : o' = o := by
  cases k with
  | lst t => rw [t.flat e]
  | scr t => rw [t.flat e]
  | dic t => rw [t.flat e]
  | ins t => rw [t.flat e]
  | xd t => rw [t.flat e]
  | dnk t => rw [t.flat e]
  | dcl t => rw [t.flat e]
  | dnl t => rw [t.flat e]
  | exo t => cases e
theorem RO2.self (o : OI) (e : flatO o = true) : RO2 r o o := by
  cases o with
  | lst t => exact .lst (.self _ e)
  | scr t => exact .scr (.self _ e)
  | dic t => exact .dic (.self _ e)
  | ins c t => exact .ins (.self _ e)
  | xd t => exact .xd (.self _ e)
  | dnk t => exact .dnk (.self _ e)
  | dcl t => exact .dcl (.self _ e)
  | dnl t => exact .dnl (.self _ e)
  | exo _ _ => cases e
end
theorem Ag2.of {r : List Nat} {s h : Hi} (nd : r.Nodup) (len : r.length = s.length) (k : ∀ (n : Nat) (o : OI), s[n]? = some o → ∃ (m : Nat) (o' : OI), r[n]? = some m ∧ h[m]? = some o' ∧ RO2 r o o') : Ag2 r s h := ⟨nd, len, k⟩
theorem Ag2.one {p : Nat} {o o' : OI} {h : Hi} (e : h[p]? = some o') (k : RO2 [p] o o') : Ag2 [p] [o] h := ⟨by simp, rfl, fun n u q => by
  cases n with
  | zero => cases q; exact ⟨p, o', rfl, e, k⟩
  | succ n => simp at q⟩
theorem Ag2.two {p p2 : Nat} {o o' u u' : OI} {h : Hi} (ne : p ≠ p2) (e : h[p]? = some o') (k : RO2 [p, p2] o o') (e2 : h[p2]? = some u') (k2 : RO2 [p, p2] u u') : Ag2 [p, p2] [o, u] h := ⟨by simp [ne], rfl, fun n w q => by
  match n with
  | 0 => cases q; exact ⟨p, o', rfl, e, k⟩
  | 1 => cases q; exact ⟨p2, u', rfl, e2, k2⟩
  | n + 2 => simp at q⟩
structure Fr (ps : List Nat) (h h' : Hi) : Prop where
  len : h.length ≤ h'.length
  at_ : ∀ (m : Nat) (o : OI), m ∉ ps → h[m]? = some o → h'[m]? = some o
theorem Fr.refl {ps : List Nat} {h : Hi} : Fr ps h h := ⟨Nat.le_refl _, fun _ _ _ e => e⟩
theorem Fr.trans {ps : List Nat} {h h1 h2 : Hi} (a : Fr ps h h1) (b : Fr ps h1 h2) : Fr ps h h2 := ⟨Nat.le_trans a.len b.len, fun m o n e => b.at_ m o n (a.at_ m o n e)⟩
theorem Fr.weak {ps qs : List Nat} {h h1 : Hi} (a : Fr ps h h1) (k : ∀ m ∈ ps, m ∈ qs) : Fr qs h h1 := ⟨a.len, fun m o n e => a.at_ m o (fun z => n (k m z)) e⟩
theorem Fr.app {ps : List Nat} {h q : Hi} : Fr ps h (h ++ q) := ⟨by simp, fun m o _ e => by rw [List.getElem?_append_left (List.getElem?_eq_some_iff.mp e).1]; exact e⟩
theorem Ex2.fresh {r r' : List Nat} {h h' : Hi} (e : Ex2 r h r' h') {n m : Nat} (q : r'[n]? = some m) (l : r.length ≤ n) : h.length ≤ m := by
  obtain ⟨z, rfl, k⟩ := e.more
  rw [List.getElem?_append_right l] at q
  exact k m (List.mem_of_getElem? q)
end ML
end
section
set_option maxHeartbeats 400000
namespace ML
open PySem L2
section
variable {α β : Type} {σ σ1 : Sg} {h h1 : Hi}
@[simp] theorem x_bind (a : α) (f : α → Hi → Res β) : Res.bind (.ok a h) f = f a h := rfl
@[simp] theorem x_bindS (a : α) (f : α → Hi → RS) : Res.bindS (.ok a h) σ f = f a h := rfl
@[simp] theorem x_nx (f : MS) : RS.andThen (.nx σ h) f = f σ h := rfl
@[simp] theorem x_rt (v : VI) (f : MS) : RS.andThen (.rt v h) f = .rt v h := rfl
@[simp] theorem x_endN : endB (.nx σ h) = .ok .non h := rfl
@[simp] theorem x_endR (v : VI) : endB (.rt v h) = .ok v h := rfl
@[simp] theorem x_eV (i : Nat) : eV i σ h = match σ[i]? with
  | some (some v) => .ok v h
  | _ => .err := rfl
@[simp] theorem x_eC (v : VI) : eC v σ h = .ok v h := rfl
@[simp] theorem x_aNil : aNil σ h = .ok [] h := rfl
@[simp] theorem x_aCons (a : ME) (r : MA) : aCons a r σ h = (a σ h).bind fun x h1 => (r σ h1).bind fun xs h2 => .ok (x :: xs) h2 := rfl
@[simp] theorem x_eBin (f : Op2) (a b : ME) : eBin f a b σ h = (a σ h).bind fun x h1 => (b σ h1).bind fun y h2 => ofO (f x y h2) := rfl
@[simp] theorem x_ofO (v : α) : ofO (some (v, h)) = .ok v h := rfl
@[simp] theorem x_tOf (e : ME) : tOf e σ h = (e σ h).bind fun v h1 => match v with
  | .bl b => .ok b h1
  | _ => .err := rfl
@[simp] theorem x_tAnd (a b : MT) : tAndM a b σ h = (a σ h).bind fun c h1 => match c with
  | true => b σ h1
  | false => .ok false h1 := rfl
@[simp] theorem x_tOr (a b : MT) : tOrM a b σ h = (a σ h).bind fun c h1 => match c with
  | true => .ok true h1
  | false => b σ h1 := rfl
@[simp] theorem x_tNot (a : MT) : tNotM a σ h = (a σ h).bind fun c h1 => .ok (!c) h1 := rfl
@[simp] theorem x_eIf (t : MT) (a b : ME) : eIf t a b σ h = (t σ h).bind fun c h1 => match c with
  | true => a σ h1
  | false => b σ h1 := rfl
@[simp] theorem x_sNx : sNx σ h = .nx σ h := rfl
@[simp] theorem x_sSeq (a b : MS) : sSeq a b σ h = (a σ h).andThen b := rfl
@[simp] theorem x_sRet (e : ME) : sRet e σ h = (e σ h).bindS σ fun v h1 => .rt v h1 := rfl
@[simp] theorem x_sDrop (e : ME) : sDrop e σ h = (e σ h).bindS σ fun _ h1 => .nx σ h1 := rfl
@[simp] theorem x_sIf (t : MT) (a b : MS) : sIf t a b σ h = (t σ h).bindS σ fun c h1 => match c with
  | true => a σ h1
  | false => b σ h1 := rfl
@[simp] theorem x_gNm (i : Nat) (v : VI) : gNm i v σ h = .nx (σ.set i (some v)) h := rfl
@[simp] theorem x_sAsg (e : ME) (g : MG) : sAsg e g σ h = (e σ h).bindS σ fun v h1 => g v σ h1 := rfl
@[simp] theorem x_eCall (g : MF) (ma : MA) : eCall g ma σ h = (ma σ h).bind fun vs h1 => g vs h1 := rfl
@[simp] theorem x_eCB (f : OpC) (ma : MA) : eCB f ma σ h = (ma σ h).bind fun vs h1 => ofO (f vs h1) := rfl
@[simp] theorem x_sFor (mi : MI) (g : MG) (b : MS) : sFor mi g b σ h = (mi σ h).bindS σ fun it h1 => turns it g b (it.fuel h1) 0 σ h1 := rfl
@[simp] theorem x_iSeq (e : ME) : iSeq e σ h = (e σ h).bind fun v h1 => ofI (seqOf v h1) h1 := rfl
@[simp] theorem x_iRng (a : MA) : iRng a σ h = (a σ h).bind fun vs h1 => ofI (rngOf vs) h1 := rfl
@[simp] theorem x_ofI (it : Itm) : ofI (some it) h = .ok it h := rfl
@[simp] theorem x_dropV (v : VI) : dropV σ (.ok v h) = .nx σ h := rfl
@[simp] theorem x_nxO : nxO σ (some h) = .nx σ h := rfl
@[simp] theorem x_okM (v : VI) : okM (.ok v h) = .ok v h := rfl
end
@[simp] theorem x_run0 (n : Nat) (b : MS) (h : Hi) : runB 0 n b [] h = endB (b (List.replicate n none) h) := rfl
@[simp] theorem x_run1 (n : Nat) (b : MS) (a0 : VI) (h : Hi) : runB 1 n b [a0] h = endB (b (some a0 :: List.replicate n none) h) := rfl
@[simp] theorem x_run2 (n : Nat) (b : MS) (a0 a1 : VI) (h : Hi) : runB 2 n b [a0, a1] h = endB (b (some a0 :: some a1 :: List.replicate n none) h) := rfl
@[simp] theorem x_run3 (n : Nat) (b : MS) (a0 a1 a2 : VI) (h : Hi) : runB 3 n b [a0, a1, a2] h = endB (b (some a0 :: some a1 :: some a2 :: List.replicate n none) h) := rfl
@[simp] theorem x_run4 (n : Nat) (b : MS) (a0 a1 a2 a3 : VI) (h : Hi) : runB 4 n b [a0, a1, a2, a3] h = endB (b (some a0 :: some a1 :: some a2 :: some a3 :: List.replicate n none) h) := rfl
@[simp] theorem x_run5 (n : Nat) (b : MS) (a0 a1 a2 a3 a4 : VI) (h : Hi) : runB 5 n b [a0, a1, a2, a3, a4] h = endB (b (some a0 :: some a1 :: some a2 :: some a3 :: some a4 :: List.replicate n none) h) := rfl
@[simp] theorem x_run6 (n : Nat) (b : MS) (a0 a1 a2 a3 a4 a5 : VI) (h : Hi) : runB 6 n b [a0, a1, a2, a3, a4, a5] h = endB (b (some a0 :: some a1 :: some a2 :: some a3 :: some a4 :: some a5 :: List.replicate n none) h) := rfl
@[simp] theorem x_run7 (n : Nat) (b : MS) (a0 a1 a2 a3 a4 a5 a6 : VI) (h : Hi) : runB 7 n b [a0, a1, a2, a3, a4, a5, a6] h = endB (b (some a0 :: some a1 :: some a2 :: some a3 :: some a4 :: some a5 :: some a6 :: List.replicate n none) h) := rfl
@[simp] theorem x_run8 (n : Nat) (b : MS) (a0 a1 a2 a3 a4 a5 a6 a7 : VI) (h : Hi) : runB 8 n b [a0, a1, a2, a3, a4, a5, a6, a7] h = endB (b (some a0 :: some a1 :: some a2 :: some a3 :: some a4 :: some a5 :: some a6 :: some a7 :: List.replicate n none) h) := rfl
@[simp] theorem x_run9 (n : Nat) (b : MS) (a0 a1 a2 a3 a4 a5 a6 a7 a8 : VI) (h : Hi) : runB 9 n b [a0, a1, a2, a3, a4, a5, a6, a7, a8] h = endB (b (some a0 :: some a1 :: some a2 :: some a3 :: some a4 :: some a5 :: some a6 :: some a7 :: some a8 :: List.replicate n none) h) := rfl
@[simp] theorem x_rep0 : (List.replicate 0 none : Sg) = [] := rfl
@[simp] theorem x_rep1 : (List.replicate 1 none : Sg) = [none] := rfl
@[simp] theorem x_rep2 : (List.replicate 2 none : Sg) = [none, none] := rfl
@[simp] theorem x_rep3 : (List.replicate 3 none : Sg) = [none, none, none] := rfl
@[simp] theorem x_rep4 : (List.replicate 4 none : Sg) = [none, none, none, none] := rfl
@[simp] theorem x_rep5 : (List.replicate 5 none : Sg) = [none, none, none, none, none] := rfl
theorem turns_inv {it : Itm} {g : MG} {body : MS} (n : Nat) (I : Nat → Sg → Hi → Prop)
    (step : ∀ i σ h, i < n → I i σ h → ∃ x σ1 h1 σ2 h2, it.nxt i h = some (some x) ∧ g x σ h = .nx σ1 h1 ∧ body σ1 h1 = .nx σ2 h2 ∧ I (i + 1) σ2 h2)
    (fin : ∀ σ h, I n σ h → it.nxt n h = some none) : ∀ k i σ h, i + k = n → I i σ h → ∃ σ2 h2, turns it g body k i σ h = .nx σ2 h2 ∧ I n σ2 h2
  | 0, i, σ, h, e, q => by
    have : i = n := by omega
    subst this
    refine ⟨σ, h, ?_, q⟩
    unfold turns
    rw [fin σ h q]
  | k + 1, i, σ, h, e, q => by
    obtain ⟨x, σ1, h1, σ2, h2, a, b, c, q2⟩ := step i σ h (by omega) q
    obtain ⟨σ3, h3, r, q3⟩ := turns_inv n I step fin k (i + 1) σ2 h2 (by omega) q2
    refine ⟨σ3, h3, ?_, q3⟩
    unfold turns
    simp only [a, b, c, x_nx]
    exact r
end ML
end
local macro_rules | `(tactic| simp? [$l,*]) => `(tactic| simp (decide := true) only [ML.z_bind, ML.z_bindS, ML.z_bindX, ML.z_bindSX, ML.z_nx, ML.z_rt, ML.z_exx, ML.z_endN, ML.z_endR, ML.z_eV, ML.z_slK, ML.z_eC, ML.z_aNil, ML.z_aCons, ML.z_consK, ML.z_eBin, ML.z_binK, ML.z_ofO, ML.z_tOf, ML.z_bolK, ML.z_tAnd, ML.z_andT, ML.z_andF, ML.z_tOr, ML.z_orT, ML.z_orF, ML.z_tNot, ML.z_notK, ML.z_eIf, ML.z_ifT, ML.z_ifF, ML.z_eAnd, ML.z_eandT, ML.z_eandF, ML.z_eOr, ML.z_eorT, ML.z_eorF, ML.z_eNot, ML.z_enotK, ML.z_eNeg, ML.z_negK, ML.z_sNx, ML.z_sSeq, ML.z_sRet, ML.z_rtK, ML.z_sDrop, ML.z_dropK, ML.z_sIf, ML.z_sifT, ML.z_sifF, ML.z_gNm, ML.z_sAsg, ML.z_gTgt, ML.z_tgtK, ML.z_put1, ML.z_putM, ML.z_pm0, ML.z_pm1, ML.z_gTupM, ML.z_tupM, ML.z_gSeq0, ML.z_gSeq1, ML.z_sPar, ML.z_parK, ML.z_sPar3, ML.z_par3K, ML.z_eCall, ML.z_callK, ML.z_eCB, ML.z_cbK, ML.z_eTup, ML.z_tupK, ML.z_tupB, ML.z_eLst, ML.z_lstK, ML.z_lstB, ML.z_small, ML.z_eFld, ML.z_fldK, ML.z_fldO, ML.z_fldV, ML.z_getF, ML.z_getF0, ML.z_gfT, ML.z_gfF, ML.z_setF, ML.z_setF0, ML.z_sfT, ML.z_sfF, ML.z_sFldM, ML.z_gFld, ML.z_stoK, ML.z_stoO, ML.z_stoB, ML.z_blt, ML.z_beq, ML.z_sFldAug, ML.z_augK, ML.z_augQ, ML.z_augR, ML.z_augP, ML.z_augO, ML.z_augB, ML.z_eMeth, ML.z_metK, ML.z_metO, ML.z_metB, ML.z_eProp, ML.z_prpK, ML.z_prpO, ML.z_prpB, ML.z_okM, ML.z_eCon, ML.z_conK, ML.z_conO, ML.z_conB, ML.z_lkT, ML.z_lkT0, ML.z_ltT, ML.z_ltF, ML.z_lkS, ML.z_lkS0, ML.z_lsT, ML.z_lsF, ML.z_eKd, ML.z_kdK, ML.z_kdB, ML.z_eIxU, ML.z_ixT, ML.z_ixR, ML.z_ixI, ML.z_ixL, ML.z_ixS, ML.z_ixD, ML.z_ixDB, ML.z_ixV, ML.z_okO, ML.z_keyS, ML.z_keyI, ML.z_getD, ML.z_getD0, ML.z_gdT, ML.z_gdF, ML.z_keS, ML.z_keI, ML.z_ixL0, ML.z_gIxU, ML.z_pixR, ML.z_pixI, ML.z_pixLo, ML.z_pixDo, ML.z_pixL, ML.z_pixD, ML.z_pixV, ML.z_dropV, ML.z_eCmpU, ML.z_cmpK, ML.z_cmpN, ML.z_cmpS, ML.z_cmpB, ML.z_boolR, ML.z_eNeU, ML.z_neuK, ML.z_neuN, ML.z_eIsi, ML.z_isiK, ML.z_isiB, ML.z_isR, ML.z_isN, ML.z_isB, ML.z_isI, ML.z_isS, ML.z_isT, ML.z_isOl, ML.z_isOd, ML.z_isOi, ML.z_insR, ML.z_insOi, ML.z_insOl, ML.z_insOs, ML.z_insOd, ML.z_insI, ML.z_insS, ML.z_insN, ML.z_insT, ML.z_insB, ML.z_eLenU, ML.z_lenK, ML.z_lenN, ML.z_cLenT, ML.z_cLenR, ML.z_clL, ML.z_clS, ML.z_clD, ML.z_cListT, ML.z_cListR, ML.z_cliL, ML.z_cTupT, ML.z_cTupR, ML.z_ctuL, ML.z_eSl, ML.z_slC, ML.z_slT, ML.z_oNo, ML.z_oSome, ML.z_osK, ML.z_mkM, ML.z_mkE, ML.z_mkK, ML.z_run0, ML.z_run1, ML.z_run2, ML.z_run3, ML.z_run4, ML.z_run5, ML.z_run6, ML.z_rep0, ML.z_rep, List.getElem?_cons_zero, List.getElem?_cons_succ, List.set_cons_zero, List.set_cons_succ, List.contains_cons, List.contains_nil, Bool.or_false, Bool.false_or, Bool.or_true, Bool.true_or, Bool.and_true, Bool.true_and, Bool.and_false, Bool.false_and, Bool.not_true, Bool.not_false, List.length_cons, List.length_nil, decide_true, decide_false, Bool.or_self, Bool.and_self, List.cons_append, List.nil_append, Nat.zero_add, Nat.reduceBEq, Nat.reduceEqDiff, Nat.reduceLeDiff, Nat.reduceLT, Nat.reduceAdd, Nat.reduceSub, beq_self_eq_true, eq_self, if_true, if_false, Bool.false_eq_true, reduceIte, $l,*])
section
namespace ML
open PySem L2
theorem Fr.get {ps : List Nat} {h h' : Hi} (F : Fr ps h h') {m : Nat} {o : OI} (e : h[m]? = some o) (n : m ∉ ps) : h'[m]? = some o := F.at_ m o n e
theorem at_lt {h : Hi} {m : Nat} {o : OI} (e : h[m]? = some o) : m < h.length := (List.getElem?_eq_some_iff.mp e).1
theorem Fr.set1 {h : Hi} {n : Nat} {o : OI} : Fr [n] h (h.set n o) := ⟨by simp, fun m u hn e => by
  have z : n ≠ m := fun z => hn (by simp [z])
  rw [List.getElem?_set_ne z]
  exact e⟩
theorem turnsC_fr {it : Itm} {t : Tgt} {vs : List Nat} {tt : MT} {el : ME} {D : Nat} {σ : Sg} {xs : List VI} {h0 : Hi} {τ : VI → Sg} {p : VI → Bool} {f : VI → VI}
    (hn : ∀ i h, Fr [D] h0 h → it.nxt i h = some xs[i]?) (hput : ∀ x ∈ xs, t.put x (wipeM σ vs) = some (τ x))
    (htt : ∀ x ∈ xs, ∀ h, Fr [D] h0 h → ∃ h', tt (τ x) h = .ok (p x) h' ∧ Fr [] h h')
    (hel : ∀ x ∈ xs, p x = true → ∀ h, Fr [D] h0 h → ∃ h', el (τ x) h = .ok (f x) h' ∧ Fr [] h h') :
    ∀ k i acc h, i + k = xs.length → h[D]? = some (.lst acc) → Fr [D] h0 h → acc.length + k ≤ 100000 →
      ∃ h', turnsC it t vs tt el D σ k i h = some h' ∧ h'[D]? = some (.lst (acc ++ ((xs.drop i).filter p).map f)) ∧ Fr [D] h h'
  | 0, i, acc, h, e, hD, F, _ => by
    have : xs.length ≤ i := by omega
    refine ⟨h, ?_, by rw [List.drop_of_length_le this]; simpa using hD, .refl⟩
    unfold turnsC
    rw [hn i h F, List.getElem?_eq_none_iff.mpr this]
  | k + 1, i, acc, h, e, hD, F, ha => by
    have hi : i < xs.length := by omega
    have hm := List.getElem_mem hi
    have hd : xs.drop i = xs[i] :: xs.drop (i + 1) := List.drop_eq_getElem_cons hi
    obtain ⟨h2, e2, F2⟩ := htt _ hm h F
    have FF2 := F.trans (F2.weak (qs := [D]) (by simp))
    have d2 := F2.get hD (by simp)
    by_cases q : p xs[i] = true
    · obtain ⟨h3, e3, F3⟩ := hel _ hm q h2 FF2
      have d3 := F3.get d2 (by simp)
      have F4 : Fr [D] h3 (h3.set D (.lst (acc ++ [f xs[i]]))) := .set1
      have FF4 := (FF2.trans (F3.weak (qs := [D]) (by simp))).trans F4
      obtain ⟨h5, e5, d5, F5⟩ := turnsC_fr hn hput htt hel k (i + 1) (acc ++ [f xs[i]]) _ (by omega) (List.getElem?_set_self (at_lt d3)) FF4 (by simp; omega)
      refine ⟨h5, ?_, by rw [d5, hd, List.filter_cons_of_pos q, List.map_cons, List.append_assoc, List.singleton_append], ((F2.trans F3).weak (by simp)).trans (F4.trans F5)⟩
      have sm : small (acc.length + 1) = true := by rw [z_small]; simp; omega
      unfold turnsC
      rw [hn i h F, List.getElem?_eq_getElem hi]
      dsimp only
      rw [hput _ hm]
      dsimp only
      rw [e2, q]
      dsimp only
      rw [e3]
      dsimp only
      rw [d3]
      dsimp only
      rw [sm]
      exact e5
    · have q : p xs[i] = false := by simpa using q
      obtain ⟨h5, e5, d5, F5⟩ := turnsC_fr hn hput htt hel k (i + 1) acc h2 (by omega) d2 FF2 (by omega)
      refine ⟨h5, ?_, by rw [d5, hd, List.filter_cons_of_neg (by simp [q])], (F2.weak (by simp)).trans F5⟩
      unfold turnsC
      rw [hn i h F, List.getElem?_eq_getElem hi]
      dsimp only
      rw [hput _ hm]
      dsimp only
      rw [e2, q]
      exact e5
theorem made_fr {h1 h' : Hi} {o : OI} (F : Fr [h1.length] (h1 ++ [o]) h') : Fr [] h1 h' := ⟨by have := F.len; simp at this; omega, fun m u _ e => F.at_ m u (by simp; have := at_lt e; omega) (at_app e)⟩
theorem lc_fr {mi : MI} {it : Itm} {t : Tgt} {vs : List Nat} {tt : MT} {el : ME} {σ : Sg} {xs : List VI} {h h1 : Hi} (τ : VI → Sg) (p : VI → Bool) (f : VI → VI) (hmi : mi σ h = .ok it h1) (hfu : it.fuel h1 = xs.length)
    (hn : ∀ i h', Fr [h1.length] (h1 ++ [.lst []]) h' → it.nxt i h' = some xs[i]?) (hput : ∀ x ∈ xs, t.put x (wipeM σ vs) = some (τ x))
    (htt : ∀ x ∈ xs, ∀ h', Fr [h1.length] (h1 ++ [.lst []]) h' → ∃ h2, tt (τ x) h' = .ok (p x) h2 ∧ Fr [] h' h2)
    (hel : ∀ x ∈ xs, p x = true → ∀ h', Fr [h1.length] (h1 ++ [.lst []]) h' → ∃ h2, el (τ x) h' = .ok (f x) h2 ∧ Fr [] h' h2) (sm : xs.length ≤ 100000) :
    ∃ h', eLc mi t vs tt el σ h = .ok (.ref h1.length) h' ∧ h'[h1.length]? = some (.lst ((xs.filter p).map f)) ∧ Fr [] h1 h' := by
  obtain ⟨h', e, d, F⟩ := turnsC_fr hn hput htt hel xs.length 0 [] (h1 ++ [.lst []]) (by omega) (by simp) .refl (by simpa using sm)
  refine ⟨h', ?_, by simpa using d, made_fr F⟩
  unfold eLc
  rw [hmi]
  show (match turnsC it t vs tt el h1.length σ (it.fuel h1) 0 (h1 ++ [.lst []]) with | some h2 => Res.ok (VI.ref h1.length) h2 | none => .err) = _
  rw [hfu, e]
theorem dat_lst {n m k : Nat} {h : Hi} {xs : List VI} (e : h[n]? = some (.lst xs)) (px : plVs k xs = true) (l : k < m) : dat (m + 1) h (.ref n) = some (.list (pdVs xs)) := by
  simp [dat, e, datL_pd k m xs h px l]
theorem eqD_same {n m k : Nat} {h : Hi} {xs : List VI} (e1 : h[n]? = some (.lst xs)) (e2 : h[m]? = some (.lst xs)) (px : plVs k xs = true) (l : k < 60) : eqD h (.ref n) (.ref m) = some true := by
  unfold eqD
  rw [dat_lst e1 px (by omega), dat_lst e2 px (by omega)]
  have a := lays_pd k xs px
  have s1 : SeqAt.shaped (.list (pdVs xs)) = true := by
    simp [SeqAt.shaped, PyData.canLay0, PyData.depth, a.1]; omega
  dsimp only
  rw [s1]
  simp [PyData.eqv, eqvs_self]
theorem ne_lists {k : Nat} {h : Hi} {n m : Nat} {l : List VI} (e1 : h[n]? = some (.lst l)) (e2 : h[m]? = some (.lst l)) (px : plVs k l = true) (z : k < 60) : fNe (.ref n) (.ref m) h = some (.bl false, h) := by
  unfold fNe
  rw [eqD_same e1 e2 px z]
  rfl
theorem nxt_rng {a : Int} {n i : Nat} (h : Hi) (l : i < n) : (Itm.rng a n).nxt i h = some (some (.int (a + i))) := by
  have bl : Nat.blt i n = true := by
    unfold Nat.blt
    exact Nat.ble_eq_true_of_le (by omega)
  simp [Itm.nxt, bl]
theorem rng_n {n : Int} (a : 0 ≤ n) (b : n ≤ 1000) : rngOf [.int n] = some (.rng 0 n.toNat) := by
  have a1 : decide (-(2 ^ 62 : Int) ≤ n) = true := by simp; omega
  have a2 : decide (n < (2 ^ 62 : Int)) = true := by simp; omega
  simp only [rngOf, a1, a2, Bool.and_self]
theorem rgg {a : ME} {it : Itm} {v : VI} {σ : Sg} {h : Hi} (ha : a σ h = .ok v h) (r1 : rngOf [v] = some it) : iRng (aCons a aNil) σ h = .ok it h := by
  simp only [iRng, z_aCons, ha, z_bind, z_aNil, z_consK, r1, ofI]
theorem addX {σ : Sg} {i a : Nat} {xs ys : List VI} {h h1 : Hi} {E : MA} (hσ : σ[i]? = some (some (.ref a))) (ha : h[a]? = some (.lst xs)) (hE : E σ h = .ok ys h1) (F : Fr [] h h1) (sm : xs.length ≤ 1000 ∧ ys.length ≤ 1000) :
    ∃ h' n, eBin fAdd (eV i) (eLst E) σ h = .ok (.ref n) h' ∧ h'[n]? = some (.lst (xs ++ ys)) ∧ Fr [] h h' ∧ Fr [] h1 h' := by
  obtain ⟨h2, e2⟩ : ∃ y, y = h1 ++ [OI.lst ys] := ⟨_, rfl⟩
  have F2 : Fr [] h1 h2 := by rw [e2]; exact .app
  have k2 : h2[h1.length]? = some (.lst ys) := by rw [e2]; simp
  have ad := fAdd_l ((F.trans F2).get ha (by simp)) k2 (by omega)
  have s : decide (ys.length ≤ 100000) = true := decide_eq_true (by omega)
  refine ⟨h2 ++ [.lst (xs ++ ys)], h2.length, ?_, by simp, F.trans (F2.trans .app), F2.trans .app⟩
  simp? [hσ, hE, s, ← e2, ad]
  all_goals rfl
theorem lstX {σ : Sg} {ys : List VI} {h h1 : Hi} {E : MA} (hE : E σ h = .ok ys h1) (sm : ys.length ≤ 1000) : eLst E σ h = .ok (.ref h1.length) (h1 ++ [.lst ys]) := by
  have s : decide (ys.length ≤ 100000) = true := decide_eq_true (by omega)
  simp? [hE, s]
  all_goals rfl
theorem asgX {σ : Sg} {j : Nat} {v : VI} {h h1 : Hi} {e : ME} (he : e σ h = .ok v h1) : sAsg e (gNm j) σ h = .nx (σ.set j (some v)) h1 := by
  simp only [x_sAsg, he, x_bindS, x_gNm]
theorem retX {σ : Sg} {v : VI} {h h1 : Hi} {e : ME} (he : e σ h = .ok v h1) : sRet e σ h = .rt v h1 := by
  simp only [x_sRet, he, x_bindS]
end ML
end
section
namespace Lw
open PySem L2 ML
def XA (h : Hi) (p c : Nat) (f : S) (v : VI) : Prop := ∃ q, h[p]? = some (.exo c q) ∧ h[q]? = some (.xd [(f, v)])
theorem XA.fr {h h' : Hi} {p c : Nat} {f : S} {v : VI} (x : XA h p c f v) (F : Fr [] h h') : XA h' p c f v := by
  obtain ⟨q, a, b⟩ := x
  exact ⟨q, F.get a (by simp), F.get b (by simp)⟩
def XL (h : Hi) (v : VI) : List VI → List (Nat × S) → Prop
  | x :: l, (c, f) :: cs => (∃ p, x = .ref p ∧ XA h p c f v) ∧ XL h v l cs
  | [], [] => True
  | _, _ => False
theorem XL.fr {h h' : Hi} {v : VI} : ∀ {l : List VI} {cs : List (Nat × S)}, XL h v l cs → Fr [] h h' → XL h' v l cs
  | x :: l, (c, f) :: cs, ⟨⟨p, e, a⟩, r⟩, F => ⟨⟨p, e, a.fr F⟩, XL.fr r F⟩
  | [], [], _, _ => trivial
  | [], _ :: _, q, _ => q.elim
  | _ :: _, [], q, _ => q.elim
theorem XL.len {h : Hi} {v : VI} : ∀ {l : List VI} {cs : List (Nat × S)}, XL h v l cs → l.length = cs.length
  | x :: l, (c, f) :: cs, q => by have := XL.len q.2; simp [this]
  | [], [], _ => rfl
  | [], _ :: _, q => q.elim
  | _ :: _, [], q => q.elim
theorem XL.app {h : Hi} {v : VI} : ∀ {l l2 : List VI} {cs cs2 : List (Nat × S)}, XL h v l cs → XL h v l2 cs2 → XL h v (l ++ l2) (cs ++ cs2)
  | x :: l, l2, (c, f) :: cs, cs2, a, b => ⟨a.1, XL.app a.2 b⟩
  | [], _, [], _, _, b => b
  | [], _, _ :: _, _, q, _ => q.elim
  | _ :: _, _, [], _, q, _ => q.elim
theorem XL.at_ {h : Hi} {v : VI} : ∀ {l : List VI} {cs : List (Nat × S)} {i c : Nat} {f : S}, XL h v l cs → cs[i]? = some (c, f) → ∃ p, l[i]? = some (.ref p) ∧ XA h p c f v
  | x :: l, (c, f) :: cs, 0, _, _, q, e => by
    cases e
    obtain ⟨p, rfl, a⟩ := q.1
    exact ⟨p, rfl, a⟩
  | x :: l, (c, f) :: cs, i + 1, _, _, q, e => XL.at_ (i := i) q.2 (by simpa using e)
  | [], [], _, _, _, _, e => by simp at e
  | [], _ :: _, _, _, _, q, _ => q.elim
  | _ :: _, [], _, _, _, q, _ => q.elim
def exE : List (Nat × S) → MA
  | [] => aNil
  | (c, f) :: r => aCons (eCall (cExV c f) (aCons (eV 0) aNil)) (exE r)
def exK : List (Nat × S) → MA
  | [] => aNil
  | (c, f) :: r => aCons (eCallK 0 1 (kExV c f) aNil (aCons (eV 0) aNil)) (exK r)
section
variable {v : VI} {σ : Sg}
theorem cx_g (hσ : σ[0]? = some (some v)) (c : Nat) (f : S) (h : Hi) : ∃ p h', eCall (cExV c f) (aCons (eV 0) aNil) σ h = .ok (.ref p) h' ∧ XA h' p c f v ∧ Fr [] h h' := by
  refine ⟨h.length + 1, h ++ [.xd [(f, v)]] ++ [.exo c h.length], ?_, ⟨h.length, ?_, ?_⟩, Fr.app.trans .app⟩
  · simp only [x_eCall, x_aCons, x_eV, hσ, x_bind, x_aNil, cExV]
  · rw [List.getElem?_append_right (by simp)]; simp
  · rw [List.getElem?_append_left (by simp)]; simp
theorem ck_g (hσ : σ[0]? = some (some v)) (c : Nat) (f : S) (h : Hi) : ∃ p h', eCallK 0 1 (kExV c f) aNil (aCons (eV 0) aNil) σ h = .ok (.ref p) h' ∧ XA h' p c f v ∧ Fr [] h h' := by
  refine ⟨h.length + 1, h ++ [.xd [(f, v)]] ++ [.exo c h.length], ?_, ⟨h.length, ?_, ?_⟩, Fr.app.trans .app⟩
  · have nb0 : (Nat.beq 0 0 && Nat.beq 1 1) = true := rfl
    unfold eCallK
    simp only [x_aCons, x_eV, hσ, x_bind, x_aNil, kExV, List.length_nil, List.length_cons, Nat.zero_add, nb0]
  · rw [List.getElem?_append_right (by simp)]; simp
  · rw [List.getElem?_append_left (by simp)]; simp
theorem exE_g (hσ : σ[0]? = some (some v)) : ∀ (cs : List (Nat × S)) (h : Hi), ∃ l h', exE cs σ h = .ok l h' ∧ XL h' v l cs ∧ Fr [] h h'
  | [], h => ⟨[], h, rfl, trivial, .refl⟩
  | (c, f) :: r, h => by
    obtain ⟨p, h1, e1, a1, F1⟩ := cx_g hσ c f h
    obtain ⟨l, h2, e2, a2, F2⟩ := exE_g hσ r h1
    refine ⟨.ref p :: l, h2, ?_, ⟨⟨p, rfl, a1.fr F2⟩, a2⟩, F1.trans F2⟩
    show aCons (eCall (cExV c f) (aCons (eV 0) aNil)) (exE r) σ h = _
    rw [x_aCons, e1, x_bind, e2, x_bind]
theorem exK_g (hσ : σ[0]? = some (some v)) : ∀ (cs : List (Nat × S)) (h : Hi), ∃ l h', exK cs σ h = .ok l h' ∧ XL h' v l cs ∧ Fr [] h h'
  | [], h => ⟨[], h, rfl, trivial, .refl⟩
  | (c, f) :: r, h => by
    obtain ⟨p, h1, e1, a1, F1⟩ := ck_g hσ c f h
    obtain ⟨l, h2, e2, a2, F2⟩ := exK_g hσ r h1
    refine ⟨.ref p :: l, h2, ?_, ⟨⟨p, rfl, a1.fr F2⟩, a2⟩, F1.trans F2⟩
    show aCons (eCallK 0 1 (kExV c f) aNil (aCons (eV 0) aNil)) (exK r) σ h = _
    rw [x_aCons, e1, x_bind, e2, x_bind]
end
def csF : List (Nat × S) := [(11, s_value), (12, s_size), (13, s_word), (14, s_word), (15, s_value), (16, s_word), (17, s_index), (18, s_many), (19, s_states), (20, s_at), (21, s_pick), (22, s_line), (23, s_value)]
theorem place_eq : m__law_by_place = sSeq (sAsg (eLst (exE [(11, s_value), (12, s_size), (13, s_word), (14, s_word), (15, s_value), (16, s_word)])) (gNm 1)) (sSeq (sAsg (eBin fAdd (eV 1) (eLst (exE [(17, s_index), (18, s_many), (19, s_states), (20, s_at), (21, s_pick)]))) (gNm 1)) (sSeq (sRet (eBin fAdd (eV 1) (eLst (exE [(22, s_line), (23, s_value)])))) sNx)) := rfl
theorem name_eq : m__law_by_name = sSeq (sAsg (eLst (exK [(11, s_value), (12, s_size), (13, s_word), (14, s_word)])) (gNm 1)) (sSeq (sAsg (eBin fAdd (eV 1) (eLst (exK [(15, s_value), (16, s_word), (17, s_index), (18, s_many)]))) (gNm 1)) (sSeq (sAsg (eBin fAdd (eV 1) (eLst (exK [(19, s_states), (20, s_at), (21, s_pick), (22, s_line)]))) (gNm 1)) (sSeq (sRet (eBin fAdd (eV 1) (eLst (exK [(23, s_value)])))) sNx))) := rfl
theorem place_g (v : VI) (h : Hi) : ∃ n l h', f__law_by_place [v] h = .ok (.ref n) h' ∧ h'[n]? = some (.lst l) ∧ XL h' v l csF ∧ Fr [] h h' := by
  obtain ⟨l1, h1, e1, x1, F1⟩ := exE_g (v := v) (σ := [some v, none]) rfl [(11, s_value), (12, s_size), (13, s_word), (14, s_word), (15, s_value), (16, s_word)] h
  have ll1 := x1.len
  have q1 := lstX e1 (by rw [ll1]; simp)
  have G1 : Fr [] h1 (h1 ++ [.lst l1]) := .app
  obtain ⟨h1', eh1⟩ : ∃ y, y = h1 ++ [OI.lst l1] := ⟨_, rfl⟩
  rw [← eh1] at q1 G1
  have k1 : h1'[h1.length]? = some (.lst l1) := by rw [eh1]; simp
  obtain ⟨l2, h2, e2, x2, F2⟩ := exE_g (v := v) (σ := [some v, some (.ref h1.length)]) rfl [(17, s_index), (18, s_many), (19, s_states), (20, s_at), (21, s_pick)] h1'
  have ll2 := x2.len
  obtain ⟨h3, n3, q2, k3, F3, G3⟩ := addX (σ := [some v, some (.ref h1.length)]) (i := 1) rfl k1 e2 F2 (by rw [ll1, ll2]; simp)
  obtain ⟨l4, h4, e4, x4, F4⟩ := exE_g (v := v) (σ := [some v, some (.ref n3)]) rfl [(22, s_line), (23, s_value)] h3
  have ll4 := x4.len
  obtain ⟨h5, n5, q4, k5, F5, G5⟩ := addX (σ := [some v, some (.ref n3)]) (i := 1) rfl k3 e4 F4 (by rw [List.length_append, ll1, ll2, ll4]; simp)
  refine ⟨n5, l1 ++ l2 ++ l4, h5, ?_, k5, ?_, (F1.trans G1).trans (F3.trans F5)⟩
  · have r0 : f__law_by_place [v] h = endB (m__law_by_place [some v, none] h) := rfl
    have a1 := asgX (j := 1) q1
    have a2 := asgX (j := 1) q2
    simp only [List.set_cons_succ, List.set_cons_zero] at a1 a2
    rw [r0, place_eq, x_sSeq, a1, x_nx, x_sSeq, a2, x_nx, x_sSeq, retX q4]
    rfl
  · exact ((x1.fr (G1.trans (F3.trans F5))).app (x2.fr (G3.trans F5))).app (x4.fr G5)
theorem name_g (v : VI) (h : Hi) : ∃ n l h', f__law_by_name [v] h = .ok (.ref n) h' ∧ h'[n]? = some (.lst l) ∧ XL h' v l csF ∧ Fr [] h h' := by
  obtain ⟨l1, h1, e1, x1, F1⟩ := exK_g (v := v) (σ := [some v, none]) rfl [(11, s_value), (12, s_size), (13, s_word), (14, s_word)] h
  have ll1 := x1.len
  have q1 := lstX e1 (by rw [ll1]; simp)
  have G1 : Fr [] h1 (h1 ++ [.lst l1]) := .app
  obtain ⟨h1', eh1⟩ : ∃ y, y = h1 ++ [OI.lst l1] := ⟨_, rfl⟩
  rw [← eh1] at q1 G1
  have k1 : h1'[h1.length]? = some (.lst l1) := by rw [eh1]; simp
  obtain ⟨l2, h2, e2, x2, F2⟩ := exK_g (v := v) (σ := [some v, some (.ref h1.length)]) rfl [(15, s_value), (16, s_word), (17, s_index), (18, s_many)] h1'
  have ll2 := x2.len
  obtain ⟨h3, n3, q2, k3, F3, G3⟩ := addX (σ := [some v, some (.ref h1.length)]) (i := 1) rfl k1 e2 F2 (by rw [ll1, ll2]; simp)
  obtain ⟨l4, h4, e4, x4, F4⟩ := exK_g (v := v) (σ := [some v, some (.ref n3)]) rfl [(19, s_states), (20, s_at), (21, s_pick), (22, s_line)] h3
  have ll4 := x4.len
  obtain ⟨h5, n5, q4, k5, F5, G5⟩ := addX (σ := [some v, some (.ref n3)]) (i := 1) rfl k3 e4 F4 (by rw [List.length_append, ll1, ll2, ll4]; simp)
  obtain ⟨l6, h6, e6, x6, F6⟩ := exK_g (v := v) (σ := [some v, some (.ref n5)]) rfl [(23, s_value)] h5
  have ll6 := x6.len
  obtain ⟨h7, n7, q6, k7, F7, G7⟩ := addX (σ := [some v, some (.ref n5)]) (i := 1) rfl k5 e6 F6 (by rw [List.length_append, List.length_append, ll1, ll2, ll4, ll6]; simp)
  refine ⟨n7, l1 ++ l2 ++ l4 ++ l6, h7, ?_, k7, ?_, (F1.trans G1).trans (F3.trans (F5.trans F7))⟩
  · have r0 : f__law_by_name [v] h = endB (m__law_by_name [some v, none] h) := rfl
    have a1 := asgX (j := 1) q1
    have a2 := asgX (j := 1) q2
    have a4 := asgX (j := 1) q4
    simp only [List.set_cons_succ, List.set_cons_zero] at a1 a2 a4
    rw [r0, name_eq, x_sSeq, a1, x_nx, x_sSeq, a2, x_nx, x_sSeq, a4, x_nx, x_sSeq, retX q6]
    rfl
  · exact (((x1.fr (G1.trans (F3.trans (F5.trans F7)))).app (x2.fr (G3.trans (F5.trans F7)))).app (x4.fr (G5.trans F7))).app (x6.fr G7)
def kpE : List (List Nat × S × Nat) → MA
  | [] => aNil
  | (cs, f, i) :: r => aCons (eFldX cs f (eBin fIx (eV 0) (eC (.int i)))) (kpE r)
section
variable {h : Hi} {v : VI} {σ : Sg} {n : Nat} {l : List VI}
theorem ixX {j : Nat} (hσ : σ[j]? = some (some (.ref n))) (g : h[n]? = some (.lst l)) {i : Nat} {x : VI} (e : l[i]? = some x) : eBin fIx (eV j) (eC (.int i)) σ h = .ok x h := by
  have ix : ixL l (i : Int) = some x := by
    obtain ⟨il, _⟩ := List.getElem?_eq_some_iff.mp e
    have q : ixI l.length (i : Int) = some i := by
      simp only [ixI]
      rw [if_pos (by omega), if_pos (by omega)]
      congr 1
    unfold ixL
    rw [q]
    exact e
  have fx : fIx (.ref n) (.int i) h = some (x, h) := by simp only [fIx, g, ix]
  simp only [x_eBin, x_eV, hσ, x_bind, x_eC, fx, x_ofO]
theorem fldX_g {e : ME} {p c : Nat} {f : S} {cs : List Nat} (he : e σ h = .ok (.ref p) h) (x : XA h p c f v) (hc : cs.contains c = true) : eFldX cs f e σ h = .ok v h := by
  obtain ⟨q, a, b⟩ := x
  have gf : getF f [(f, v)] = some v := by simp [getF]
  unfold eFldX
  simp only [he, x_bind, a, hc, b, gf]
def kpOk (cs : List (Nat × S)) (k : List Nat × S × Nat) : Prop := ∃ c, cs[k.2.2]? = some (c, k.2.1) ∧ k.1.contains c = true
theorem kpE_g (hσ : σ[0]? = some (some (.ref n))) (g : h[n]? = some (.lst l)) {cs : List (Nat × S)} (X : XL h v l cs) : ∀ ks : List (List Nat × S × Nat), (∀ k ∈ ks, kpOk cs k) → kpE ks σ h = .ok (List.replicate ks.length v) h
  | [], _ => rfl
  | (ct, f, i) :: r, hk => by
    obtain ⟨c, a, b⟩ := hk (ct, f, i) (by simp)
    obtain ⟨p, e1, xa⟩ := X.at_ a
    have q := fldX_g (ixX hσ g e1) xa b
    have ih := kpE_g hσ g X r fun k hk2 => hk k (List.mem_cons_of_mem _ hk2)
    show aCons (eFldX ct f (eBin fIx (eV 0) (eC (.int i)))) (kpE r) σ h = _
    rw [x_aCons, q, x_bind, ih, x_bind]
    rfl
end
theorem kept_eq : m__law_kept = sSeq (sAsg (eLst (kpE [([11, 15, 23], s_value, 0), ([12], s_size, 1), ([14, 13, 16], s_word, 2), ([14, 13, 16], s_word, 3), ([11, 15, 23], s_value, 4), ([14, 13, 16], s_word, 5)])) (gNm 1)) (sSeq (sAsg (eBin fAdd (eV 1) (eLst (kpE [([17], s_index, 6), ([18], s_many, 7), ([19], s_states, 8), ([20], s_at, 9), ([21], s_pick, 10)]))) (gNm 1)) (sSeq (sRet (eBin fAdd (eV 1) (eLst (kpE [([22], s_line, 11), ([11, 15, 23], s_value, 12)])))) sNx)) := rfl
theorem kept_g {h : Hi} {v : VI} {n : Nat} {l : List VI} (g : h[n]? = some (.lst l)) (X : XL h v l csF) : ∃ m h', f__law_kept [.ref n] h = .ok (.ref m) h' ∧ h'[m]? = some (.lst (List.replicate 13 v)) ∧ Fr [] h h' := by
  have e1 := kpE_g (σ := [some (.ref n), none]) rfl g X [([11, 15, 23], s_value, 0), ([12], s_size, 1), ([14, 13, 16], s_word, 2), ([14, 13, 16], s_word, 3), ([11, 15, 23], s_value, 4), ([14, 13, 16], s_word, 5)] (by
    intro k hk
    simp only [List.mem_cons, List.not_mem_nil, or_false] at hk
    rcases hk with rfl | rfl | rfl | rfl | rfl | rfl <;> exact ⟨_, rfl, rfl⟩)
  have q1 := lstX e1 (by simp)
  obtain ⟨h1, eh1⟩ : ∃ y, y = h ++ [OI.lst (List.replicate 6 v)] := ⟨_, rfl⟩
  have q1 : eLst (kpE [([11, 15, 23], s_value, 0), ([12], s_size, 1), ([14, 13, 16], s_word, 2), ([14, 13, 16], s_word, 3), ([11, 15, 23], s_value, 4), ([14, 13, 16], s_word, 5)]) [some (.ref n), none] h = .ok (.ref h.length) h1 := by rw [eh1]; exact q1
  have F1 : Fr [] h h1 := by rw [eh1]; exact .app
  have k1 : h1[h.length]? = some (.lst (List.replicate 6 v)) := by rw [eh1]; simp
  have e2 := kpE_g (σ := [some (.ref n), some (.ref h.length)]) rfl (F1.get g (by simp)) (X.fr F1) [([17], s_index, 6), ([18], s_many, 7), ([19], s_states, 8), ([20], s_at, 9), ([21], s_pick, 10)] (by
    intro k hk
    simp only [List.mem_cons, List.not_mem_nil, or_false] at hk
    rcases hk with rfl | rfl | rfl | rfl | rfl <;> exact ⟨_, rfl, rfl⟩)
  obtain ⟨h2, n2, q2, k2, F2, _⟩ := addX (σ := [some (.ref n), some (.ref h.length)]) (i := 1) rfl k1 e2 .refl (by simp)
  have e3 := kpE_g (σ := [some (.ref n), some (.ref n2)]) rfl ((F1.trans F2).get g (by simp)) (X.fr (F1.trans F2)) [([22], s_line, 11), ([11, 15, 23], s_value, 12)] (by
    intro k hk
    simp only [List.mem_cons, List.not_mem_nil, or_false] at hk
    rcases hk with rfl | rfl <;> exact ⟨_, rfl, rfl⟩)
  obtain ⟨h3, n3, q3, k3, F3, _⟩ := addX (σ := [some (.ref n), some (.ref n2)]) (i := 1) rfl k2 e3 .refl (by simp)
  refine ⟨n3, h3, ?_, ?_, F1.trans (F2.trans F3)⟩
  · have r0 : f__law_kept [.ref n] h = endB (m__law_kept [some (.ref n), none] h) := rfl
    have a1 := asgX (j := 1) q1
    have a2 := asgX (j := 1) q2
    simp only [List.set_cons_succ, List.set_cons_zero] at a1 a2
    rw [r0, kept_eq, x_sSeq, a1, x_nx, x_sSeq, a2, x_nx, x_sSeq, retX q3]
    rfl
  · rw [k3]
    rfl
def kt (c : Nat) : List (Nat × Bool) := [14, 13, 12, 11, 18, 17, 16, 15, 22, 21, 20, 19, 23, 25, 24].map fun x => (x, Nat.beq x c)
def kdE : List Nat → MA
  | [] => aNil
  | c :: r => aCons (eIsX (lkT (kt c)) (eV 0)) (kdE r)
def kb (ts : List Nat) (c : Nat) : List VI := ts.map fun t => .bl (Nat.beq c t)
theorem kinds_eq : m__law_kinds = sSeq (sAsg (eLst (kdE [11, 12, 13, 14])) (gNm 1)) (sSeq (sAsg (eBin fAdd (eV 1) (eLst (kdE [15, 16, 17]))) (gNm 1)) (sSeq (sAsg (eBin fAdd (eV 1) (eLst (kdE [18, 19, 20]))) (gNm 1)) (sSeq (sRet (eBin fAdd (eV 1) (eLst (kdE [21, 22, 23])))) sNx))) := rfl
section
variable {h : Hi} {v : VI} {σ : Sg} {p c : Nat} {f : S}
theorem isX_g {tbl : Nat → Option Bool} {e : ME} {b : Bool} (he : e σ h = .ok (.ref p) h) (x : XA h p c f v) (hb : tbl c = some b) : eIsX tbl e σ h = .ok (.bl b) h := by
  obtain ⟨q, a1, a2⟩ := x
  unfold eIsX
  simp only [he, x_bind, a1, hb, a2]
theorem kt_at (hc : 11 ≤ c ∧ c ≤ 25) (t : Nat) : lkT (kt t) c = some (Nat.beq c t) := by
  rcases (by omega : c = 11 ∨ c = 12 ∨ c = 13 ∨ c = 14 ∨ c = 15 ∨ c = 16 ∨ c = 17 ∨ c = 18 ∨ c = 19 ∨ c = 20 ∨ c = 21 ∨ c = 22 ∨ c = 23 ∨ c = 24 ∨ c = 25) with rfl | rfl | rfl | rfl | rfl | rfl | rfl | rfl | rfl | rfl | rfl | rfl | rfl | rfl | rfl <;> rfl
theorem kdE_g (hσ : σ[0]? = some (some (.ref p))) (x : XA h p c f v) (hc : 11 ≤ c ∧ c ≤ 25) : ∀ ts : List Nat, kdE ts σ h = .ok (kb ts c) h
  | [] => rfl
  | t :: r => by
    have q := isX_g (e := eV 0) (tbl := lkT (kt t)) (σ := σ) (by simp only [x_eV, hσ]) x (kt_at hc t)
    have ih := kdE_g hσ x hc r
    show aCons (eIsX (lkT (kt t)) (eV 0)) (kdE r) σ h = _
    rw [x_aCons, q, x_bind, ih, x_bind]
    rfl
def kbF (c : Nat) : List VI := kb [11, 12, 13, 14, 15, 16, 17, 18, 19, 20, 21, 22, 23] c
theorem kinds_g (x : XA h p c f v) (hc : 11 ≤ c ∧ c ≤ 25) : ∃ m h', f__law_kinds [.ref p] h = .ok (.ref m) h' ∧ h'[m]? = some (.lst (kbF c)) ∧ Fr [] h h' := by
  have e1 := kdE_g (σ := [some (.ref p), none]) rfl x hc [11, 12, 13, 14]
  have q1 := lstX e1 (by simp [kb])
  obtain ⟨h1, eh1⟩ : ∃ y, y = h ++ [OI.lst (kb [11, 12, 13, 14] c)] := ⟨_, rfl⟩
  rw [← eh1] at q1
  have F1 : Fr [] h h1 := by rw [eh1]; exact .app
  have k1 : h1[h.length]? = some (.lst (kb [11, 12, 13, 14] c)) := by rw [eh1]; simp
  have e2 := kdE_g (σ := [some (.ref p), some (.ref h.length)]) rfl (x.fr F1) hc [15, 16, 17]
  obtain ⟨h2, n2, q2, k2, F2, _⟩ := addX (σ := [some (.ref p), some (.ref h.length)]) (i := 1) rfl k1 e2 .refl (by simp [kb])
  have e3 := kdE_g (σ := [some (.ref p), some (.ref n2)]) rfl (x.fr (F1.trans F2)) hc [18, 19, 20]
  obtain ⟨h3, n3, q3, k3, F3, _⟩ := addX (σ := [some (.ref p), some (.ref n2)]) (i := 1) rfl k2 e3 .refl (by simp [kb])
  have e4 := kdE_g (σ := [some (.ref p), some (.ref n3)]) rfl (x.fr (F1.trans (F2.trans F3))) hc [21, 22, 23]
  obtain ⟨h4, n4, q4, k4, F4, _⟩ := addX (σ := [some (.ref p), some (.ref n3)]) (i := 1) rfl k3 e4 .refl (by simp [kb])
  refine ⟨n4, h4, ?_, ?_, F1.trans (F2.trans (F3.trans F4))⟩
  · have r0 : f__law_kinds [.ref p] h = endB (m__law_kinds [some (.ref p), none] h) := rfl
    have a1 := asgX (j := 1) q1
    have a2 := asgX (j := 1) q2
    have a3 := asgX (j := 1) q3
    simp only [List.set_cons_succ, List.set_cons_zero] at a1 a2 a3
    rw [r0, kinds_eq, x_sSeq, a1, x_nx, x_sSeq, a2, x_nx, x_sSeq, a3, x_nx, x_sSeq, retX q4]
    rfl
  · rw [k4]
    rfl
end
end Lw
end
section
namespace ML
open PySem L2
structure DV (h : Hi) (v : VI) (d : PyData) : Prop where
  dat : dat 65 h v = some d
  lay : PyData.canLay0 d = true
  dep : PyData.depth d ≤ 2
  eqv : PyData.eqv d d = true
theorem datL_rep {k : Nat} {h : Hi} {v : VI} {d : PyData} (e : dat k h v = some d) : ∀ n : Nat, datL (dat k h) (List.replicate n v) = some (List.replicate n d)
  | 0 => rfl
  | n + 1 => by
    have ih := datL_rep e n
    simp only [List.replicate_succ, datL, e, ih]
theorem lay_rep {d : PyData} (e : PyData.canLay0 d = true) : ∀ n : Nat, PyData.canLayAll0 (List.replicate n d) = true
  | 0 => rfl
  | n + 1 => by
    have ih := lay_rep e n
    simp only [List.replicate_succ, PyData.canLayAll0, e, ih, Bool.and_self]
theorem dep_rep {d : PyData} (e : PyData.depth d ≤ 2) : ∀ n : Nat, PyData.depthAll (List.replicate n d) ≤ 2
  | 0 => Nat.zero_le _
  | n + 1 => by
    have ih := dep_rep e n
    simp only [List.replicate_succ, PyData.depthAll]
    omega
theorem eqv_rep {d : PyData} (e : PyData.eqv d d = true) : ∀ n : Nat, PyData.eqvAll (List.replicate n d) (List.replicate n d) = true
  | 0 => rfl
  | n + 1 => by
    have ih := eqv_rep e n
    simp only [List.replicate_succ, PyData.eqvAll, e, ih, Bool.and_self]
theorem ne_rep {h : Hi} {a b n : Nat} {v : VI} {d : PyData} (D : DV h v d) (ha : h[a]? = some (.lst (List.replicate n v))) (hb : h[b]? = some (.lst (List.replicate n v))) : fNe (.ref a) (.ref b) h = some (.bl false, h) := by
  have e := datL_rep D.dat n
  have d1 : dat 66 h (.ref a) = some (.list (List.replicate n d)) := by
    rw [dat]
    simp only [ha, e]
    rfl
  have d2 : dat 66 h (.ref b) = some (.list (List.replicate n d)) := by
    rw [dat]
    simp only [hb, e]
    rfl
  have s1 : SeqAt.shaped (.list (List.replicate n d)) = true := by
    have := dep_rep D.dep n
    simp [SeqAt.shaped, PyData.canLay0, lay_rep D.lay n, PyData.depth]
    omega
  have ev : PyData.eqv (.list (List.replicate n d)) (.list (List.replicate n d)) = true := by
    have := eqv_rep D.eqv n
    simp [PyData.eqv, this]
  unfold fNe eqD
  simp only [d1, d2, s1, Bool.and_self, ev, Bool.not_true]
inductive Th (h : Hi) : VI → Prop
  | p {v : VI} (e : plV 1 v = true) : Th h v
  | l {m : Nat} {xs : List VI} (e : h[m]? = some (.lst xs)) (k : plVs 1 xs = true) : Th h (.ref m)
theorem Th.dv {h : Hi} {v : VI} (t : Th h v) : ∃ d, DV h v d := by
  cases t with
  | @p v e =>
    have a := lay_pd 1 v e
    exact ⟨pdV v, dat_pd 1 65 v h e (by omega), a.1, by omega, eqv_self v⟩
  | @l m xs e k =>
    have a := lays_pd 1 xs k
    refine ⟨.list (pdVs xs), dat_lst (m := 64) e k (by omega), ?_, ?_, ?_⟩
    · simp [PyData.canLay0, a.1]
    · simp only [PyData.depth]; omega
    · simp [PyData.eqv, eqvs_self]
theorem Th.fr {h h' : Hi} {v : VI} (t : Th h v) (F : Fr [] h h') : Th h' v := by
  cases t with
  | p e => exact .p e
  | l e k => exact .l (F.get e (by simp)) k
end ML
namespace Lw
open PySem L2 ML
section
variable {h : Hi} {v : VI} {σ : Sg}
theorem mul_g {j : Nat} (n : Nat) (hn : n ≤ 100) (hσ : σ[j]? = some (some v)) (h : Hi) : ∃ m h', eBin fMul (eLst (aCons (eV j) aNil)) (eC (.int n)) σ h = .ok (.ref m) h' ∧ h'[m]? = some (.lst (repL [v] n)) ∧ Fr [] h h' := by
  obtain ⟨h1, e1⟩ : ∃ y, y = h ++ [OI.lst [v]] := ⟨_, rfl⟩
  have F1 : Fr [] h h1 := by rw [e1]; exact .app
  have k1 : h1[h.length]? = some (.lst [v]) := by rw [e1]; simp
  have q1 : eLst (aCons (eV j) aNil) σ h = .ok (.ref h.length) h1 := by
    rw [e1]
    exact lstX (by simp only [x_aCons, x_eV, hσ, x_bind, x_aNil]) (by simp)
  have b1 : (decide ((0 : Int) ≤ (n : Int)) && decide ((n : Int) ≤ 1000)) = true := by simp; omega
  have b2 : small ([v].length * n) = true := by rw [z_small]; simp; omega
  have fm : fMul (.ref h.length) (.int n) h1 = some (.ref h1.length, h1 ++ [.lst (repL [v] n)]) := by
    simp only [fMul, k1, b1, Int.toNat_natCast, b2, Bool.and_self]
  refine ⟨h1.length, h1 ++ [.lst (repL [v] n)], ?_, by simp, F1.trans .app⟩
  simp only [x_eBin, q1, x_bind, x_eC, fm, x_ofO]
end
def oE : MA := aCons (eCall (cExV 24 s_most) (aCons (eV 0) aNil)) (aCons (eCallK 0 1 (kExV 24 s_most) aNil (aCons (eV 0) aNil)) (aCons (eCall (cExV 25 s_hand) (aCons (eV 0) aNil)) (aCons (eCallK 0 1 (kExV 25 s_hand) aNil (aCons (eV 0) aNil)) aNil)))
def csO : List (Nat × S) := [(24, s_most), (24, s_most), (25, s_hand), (25, s_hand)]
theorem oE_g {v : VI} {σ : Sg} (hσ : σ[0]? = some (some v)) (h : Hi) : ∃ l h', oE σ h = .ok l h' ∧ XL h' v l csO ∧ Fr [] h h' := by
  obtain ⟨p1, h1, e1, a1, F1⟩ := cx_g hσ 24 s_most h
  obtain ⟨p2, h2, e2, a2, F2⟩ := ck_g hσ 24 s_most h1
  obtain ⟨p3, h3, e3, a3, F3⟩ := cx_g hσ 25 s_hand h2
  obtain ⟨p4, h4, e4, a4, F4⟩ := ck_g hσ 25 s_hand h3
  refine ⟨[.ref p1, .ref p2, .ref p3, .ref p4], h4, ?_, ⟨⟨p1, rfl, a1.fr (F2.trans (F3.trans F4))⟩, ⟨p2, rfl, a2.fr (F3.trans F4)⟩, ⟨p3, rfl, a3.fr F4⟩, ⟨p4, rfl, a4⟩, trivial⟩, F1.trans (F2.trans (F3.trans F4))⟩
  unfold oE
  rw [x_aCons, e1, x_bind, x_aCons, e2, x_bind, x_aCons, e3, x_bind, x_aCons, e4, x_bind, x_aNil]
  rfl
def kpJ (j : Nat) : List (List Nat × S × Nat) → MA
  | [] => aNil
  | (cs, f, i) :: r => aCons (eFldX cs f (eBin fIx (eV j) (eC (.int i)))) (kpJ j r)
theorem kpJ_g {h : Hi} {v : VI} {σ : Sg} {n j : Nat} {l : List VI} (hσ : σ[j]? = some (some (.ref n))) (g : h[n]? = some (.lst l)) {cs : List (Nat × S)} (X : XL h v l cs) : ∀ ks : List (List Nat × S × Nat), (∀ k ∈ ks, kpOk cs k) → kpJ j ks σ h = .ok (List.replicate ks.length v) h
  | [], _ => rfl
  | (ct, f, i) :: r, hk => by
    obtain ⟨c, a, b⟩ := hk (ct, f, i) (by simp)
    obtain ⟨p, e1, xa⟩ := X.at_ a
    have q := fldX_g (ixX hσ g e1) xa b
    have ih := kpJ_g hσ g X r fun k hk2 => hk k (List.mem_cons_of_mem _ hk2)
    show aCons (eFldX ct f (eBin fIx (eV j) (eC (.int i)))) (kpJ j r) σ h = _
    rw [x_aCons, q, x_bind, ih, x_bind]
    rfl
def rmT : List (Nat × Bool) := [(14, true), (13, true), (12, true), (11, true), (18, true), (17, true), (16, true), (15, true), (22, true), (21, true), (20, true), (19, true), (23, true), (25, false), (24, false)]
def oC : ME := eLc (iSeq (eV 1)) (.one 2) [2] (tOrM (tOf (eIsX (lkT rmT) (eV 2))) (tOf (eBin fIn (eC (.bl true)) (eCall f__law_kinds (aCons (eV 2) aNil))))) (eV 2)
def o1 : MS := sAsg (eLst oE) (gNm 1)
def o2 : MS := sIf (tOf (eBin fNe (eLst (kpJ 1 [([24], s_most, 0), ([24], s_most, 1), ([25], s_hand, 2), ([25], s_hand, 3)])) (eBin fMul (eLst (aCons (eV 0) aNil)) (eC (.int 4))))) (sRet (eC (.bl false))) sNx
def o3 : MS := sIf (tOf (eBin fNe oC (eLst aNil))) (sRet (eC (.bl false))) sNx
def o4 : MS := sIf (tOrM (tNotM (tOf (eIsX (lkT (kt 24)) (eBin fIx (eV 1) (eC (.int 0)))))) (tOf (eIsX (lkT (kt 25)) (eBin fIx (eV 1) (eC (.int 0)))))) (sRet (eC (.bl false))) sNx
def o5 : MS := sRet (eAnd (eIsX (lkT (kt 25)) (eBin fIx (eV 1) (eC (.int 2)))) (eNot (eIsX (lkT (kt 24)) (eBin fIx (eV 1) (eC (.int 2))))))
theorem others_eq : m__law_others_right = sSeq o1 (sSeq o2 (sSeq o3 (sSeq o4 (sSeq o5 sNx)))) := rfl
section
variable {h : Hi} {v : VI} {n : Nat} {l : List VI}
theorem o2_g (t : Th h v) (g : h[n]? = some (.lst l)) (X : XL h v l csO) (x2 : Option VI) : ∃ h', o2 [some v, some (.ref n), x2] h = .nx [some v, some (.ref n), x2] h' ∧ Fr [] h h' := by
  have e1 := kpJ_g (σ := [some v, some (.ref n), x2]) (j := 1) rfl g X [([24], s_most, 0), ([24], s_most, 1), ([25], s_hand, 2), ([25], s_hand, 3)] (by
    intro k hk
    simp only [List.mem_cons, List.not_mem_nil, or_false] at hk
    rcases hk with rfl | rfl | rfl | rfl <;> exact ⟨_, rfl, rfl⟩)
  have q1 := lstX e1 (by simp)
  obtain ⟨h1, eh1⟩ : ∃ y, y = h ++ [OI.lst (List.replicate 4 v)] := ⟨_, rfl⟩
  have q1 : eLst (kpJ 1 [([24], s_most, 0), ([24], s_most, 1), ([25], s_hand, 2), ([25], s_hand, 3)]) [some v, some (.ref n), x2] h = .ok (.ref h.length) h1 := by rw [eh1]; exact q1
  have F1 : Fr [] h h1 := by rw [eh1]; exact .app
  have k1 : h1[h.length]? = some (.lst (List.replicate 4 v)) := by rw [eh1]; simp
  obtain ⟨m, h2, q2, k2, F2⟩ := mul_g (σ := [some v, some (.ref n), x2]) (j := 0) (v := v) 4 (by omega) rfl h1
  have k2 : h2[m]? = some (.lst (List.replicate 4 v)) := k2
  have q2 : eBin fMul (eLst (aCons (eV 0) aNil)) (eC (.int 4)) [some v, some (.ref n), x2] h1 = .ok (.ref m) h2 := q2
  obtain ⟨d, D⟩ := (t.fr (F1.trans F2)).dv
  have ne := ne_rep D (F2.get k1 (by simp)) k2
  refine ⟨h2, ?_, F1.trans F2⟩
  unfold o2
  generalize eLst (kpJ 1 [([24], s_most, 0), ([24], s_most, 1), ([25], s_hand, 2), ([25], s_hand, 3)]) = A at q1 ⊢
  generalize eBin fMul (eLst (aCons (eV 0) aNil)) (eC (.int 4)) = B at q2 ⊢
  simp? [q1, q2, ne]
theorem XA.cls {p c : Nat} {f : S} (x : XA h p c f v) : h[p]? ≠ none := by
  obtain ⟨q, a, _⟩ := x
  rw [a]
  simp
theorem kb_no {c : Nat} (hc : c = 24 ∨ c = 25) {m : Nat} {h : Hi} (k : h[m]? = some (.lst (kbF c))) : fIn (.bl true) (.ref m) h = some (.bl false, h) := by
  rcases hc with rfl | rfl
  · have e : inM (.bl true) (.ref m) h = some false := by
      simp only [inM, k]
      rfl
    unfold fIn
    rw [e]
  · have e : inM (.bl true) (.ref m) h = some false := by
      simp only [inM, k]
      rfl
    unfold fIn
    rw [e]
theorem oC_g (g : h[n]? = some (.lst l)) (X : XL h v l csO) (x2 : Option VI) : ∃ h' m, oC [some v, some (.ref n), x2] h = .ok (.ref m) h' ∧ h'[m]? = some (.lst []) ∧ Fr [] h h' := by
  have nl := at_lt g
  have mem : ∀ x ∈ l, ∃ p c f, x = .ref p ∧ (c = 24 ∨ c = 25) ∧ XA h p c f v := fun x hx => by
    obtain ⟨i, hi⟩ := List.mem_iff_getElem?.mp hx
    have il : i < 4 := by
      have := (List.getElem?_eq_some_iff.mp hi).1
      have := X.len
      simp [csO] at this
      omega
    rcases (by omega : i = 0 ∨ i = 1 ∨ i = 2 ∨ i = 3) with rfl | rfl | rfl | rfl
    · obtain ⟨p, e, a⟩ := X.at_ (i := 0) rfl
      rw [hi] at e
      cases e
      exact ⟨p, _, _, rfl, .inl rfl, a⟩
    · obtain ⟨p, e, a⟩ := X.at_ (i := 1) rfl
      rw [hi] at e
      cases e
      exact ⟨p, _, _, rfl, .inl rfl, a⟩
    · obtain ⟨p, e, a⟩ := X.at_ (i := 2) rfl
      rw [hi] at e
      cases e
      exact ⟨p, _, _, rfl, .inr rfl, a⟩
    · obtain ⟨p, e, a⟩ := X.at_ (i := 3) rfl
      rw [hi] at e
      cases e
      exact ⟨p, _, _, rfl, .inr rfl, a⟩
  have sq := seq_lst g
  obtain ⟨h', e, k, F⟩ := lc_fr (mi := iSeq (eV 1)) (it := .lst n) (t := .one 2) (vs := [2]) (tt := tOrM (tOf (eIsX (lkT rmT) (eV 2))) (tOf (eBin fIn (eC (.bl true)) (eCall f__law_kinds (aCons (eV 2) aNil))))) (el := eV 2) (σ := [some v, some (.ref n), x2]) (xs := l) (h := h) (h1 := h)
    (fun x => [some v, some (.ref n), some x]) (fun _ => false) (fun x => x)
    (by
      have oi : ∀ (it : Itm) (h : Hi), ofI (some it) h = .ok it h := fun _ _ => rfl
      simp only [x_iSeq, x_eV, List.getElem?_cons_zero, List.getElem?_cons_succ, x_bind, sq, oi]) (fuel_lst g)
    (fun i h' F => nxt_lst (F.get (at_app g) (by simp; omega)) i) (fun x hx => rfl)
    (fun x hx g' F => by
      obtain ⟨p, c, f, rfl, hc, q, a1, a2⟩ := mem x hx
      have b1 := F.get (at_app a1) (by simp; have := at_lt a1; omega)
      have b2 := F.get (at_app a2) (by simp; have := at_lt a2; omega)
      have xa : XA g' p c f v := ⟨q, b1, b2⟩
      have i1 : eIsX (lkT rmT) (eV 2) [some v, some (.ref n), some (.ref p)] g' = .ok (.bl false) g' := isX_g (e := eV 2) rfl xa (by rcases hc with rfl | rfl <;> rfl)
      obtain ⟨m, g2, e2, k2, F2⟩ := kinds_g xa (by omega)
      have fi := kb_no hc k2
      refine ⟨g2, ?_, F2⟩
      generalize eIsX (lkT rmT) (eV 2) = I1 at i1 ⊢
      simp? [i1, e2, fi])
    (fun x hx z => by cases z) (by have := X.len; simp [csO] at this; omega)
  refine ⟨h', h.length, e, ?_, F⟩
  rw [k]
  simp
theorem o3_g (g : h[n]? = some (.lst l)) (X : XL h v l csO) (x2 : Option VI) : ∃ h', o3 [some v, some (.ref n), x2] h = .nx [some v, some (.ref n), x2] h' ∧ Fr [] h h' := by
  obtain ⟨h1, m, e1, k1, F1⟩ := oC_g g X x2
  obtain ⟨h2, e2⟩ : ∃ y, y = h1 ++ [OI.lst []] := ⟨_, rfl⟩
  have F2 : Fr [] h1 h2 := by rw [e2]; exact .app
  have ne := ne_lists (k := 1) (F2.get k1 (by simp)) (m := h1.length) (by rw [e2]; simp) rfl (by omega)
  have s0 : small 0 = true := rfl
  refine ⟨h2, ?_, F1.trans F2⟩
  unfold o3
  generalize oC = C at e1 ⊢
  simp? [e1, s0, ← e2, ne]
theorem o45_g (g : h[n]? = some (.lst l)) (X : XL h v l csO) (x2 : Option VI) : o4 [some v, some (.ref n), x2] h = .nx [some v, some (.ref n), x2] h ∧ o5 [some v, some (.ref n), x2] h = .rt (.bl true) h := by
  obtain ⟨p, e, a⟩ := X.at_ (i := 0) rfl
  obtain ⟨p2, e2, a2⟩ := X.at_ (i := 2) rfl
  have i1 := ixX (σ := [some v, some (.ref n), x2]) (j := 1) rfl g e
  have i2 := ixX (σ := [some v, some (.ref n), x2]) (j := 1) rfl g e2
  have q1 := isX_g (tbl := lkT (kt 24)) i1 a rfl
  have q2 := isX_g (tbl := lkT (kt 25)) i1 a rfl
  have q3 := isX_g (tbl := lkT (kt 25)) i2 a2 rfl
  have q4 := isX_g (tbl := lkT (kt 24)) i2 a2 rfl
  have q1 : eIsX (lkT (kt 24)) (eBin fIx (eV 1) (eC (.int 0))) [some v, some (.ref n), x2] h = .ok (.bl true) h := q1
  have q2 : eIsX (lkT (kt 25)) (eBin fIx (eV 1) (eC (.int 0))) [some v, some (.ref n), x2] h = .ok (.bl false) h := q2
  have q3 : eIsX (lkT (kt 25)) (eBin fIx (eV 1) (eC (.int 2))) [some v, some (.ref n), x2] h = .ok (.bl true) h := q3
  have q4 : eIsX (lkT (kt 24)) (eBin fIx (eV 1) (eC (.int 2))) [some v, some (.ref n), x2] h = .ok (.bl false) h := q4
  constructor
  · unfold o4
    generalize eIsX (lkT (kt 24)) (eBin fIx (eV 1) (eC (.int 0))) = A at q1 ⊢
    generalize eIsX (lkT (kt 25)) (eBin fIx (eV 1) (eC (.int 0))) = B at q2 ⊢
    simp? [q1, q2]
  · unfold o5
    generalize eIsX (lkT (kt 25)) (eBin fIx (eV 1) (eC (.int 2))) = A at q3 ⊢
    generalize eIsX (lkT (kt 24)) (eBin fIx (eV 1) (eC (.int 2))) = B at q4 ⊢
    have ea : eAnd A (eNot B) [some v, some (.ref n), x2] h = .ok (.bl true) h := by
      unfold eAnd
      rw [q3]
      show (eNot B) _ h = _
      unfold eNot
      rw [q4]
      rfl
    rw [retX ea]
end
theorem others_g {v : VI} {h : Hi} (t : Th h v) : ∃ h', f__law_others_right [v] h = .ok (.bl true) h' ∧ Fr [] h h' := by
  obtain ⟨l, h1, e1, X1, F1⟩ := oE_g (v := v) (σ := [some v, none, none]) rfl h
  have ll := X1.len
  have q1 := asgX (j := 1) (lstX e1 (by rw [ll]; simp [csO]))
  obtain ⟨h2, e2⟩ : ∃ y, y = h1 ++ [OI.lst l] := ⟨_, rfl⟩
  rw [← e2] at q1
  have F2 : Fr [] h1 h2 := by rw [e2]; exact .app
  have g2 : h2[h1.length]? = some (.lst l) := by rw [e2]; simp
  have X2 := X1.fr F2
  obtain ⟨h3, q3, F3⟩ := o2_g (t.fr (F1.trans F2)) g2 X2 none
  obtain ⟨h4, q4, F4⟩ := o3_g (F3.get g2 (by simp)) (X2.fr F3) none
  obtain ⟨q5, q6⟩ := o45_g ((F3.trans F4).get g2 (by simp)) (X2.fr (F3.trans F4)) none
  refine ⟨h4, ?_, F1.trans (F2.trans (F3.trans F4))⟩
  have r0 : f__law_others_right [v] h = endB (m__law_others_right [some v, none, none] h) := rfl
  have q1 : o1 [some v, none, none] h = .nx [some v, some (.ref h1.length), none] h2 := q1
  rw [r0, others_eq, x_sSeq, q1, x_nx, x_sSeq, q3, x_nx, x_sSeq, q4, x_nx, x_sSeq, q5, x_nx, x_sSeq, q6]
  rfl
end Lw
end
section
namespace ML
open PySem L2
theorem nxt_enl {n : Nat} {xs : List VI} {h : Hi} (e : h[n]? = some (.lst xs)) (i : Nat) : (Itm.enl n).nxt i h = some (xs[i]?.map fun x => VI.tup [.int (i : Nat), x]) := by
  simp only [Itm.nxt, listAt, e]
  cases xs[i]? <;> rfl
end ML
namespace Lw
open PySem L2 ML
def eLcR : ME := eLc (iRng (aCons (eC (.int 13)) aNil)) (.one 5) [5] tYesM (eBin fEqX (eV 5) (eV 3))
def ebB : MS := sSeq (sIf (tOrM (tNotM (tOf (eIsX (lkT rmT) (eV 4)))) (tNotM (tOf (eIsX (lkT rmT) (eV 4))))) (sRet (eC (.bl false))) sNx) (sSeq (sIf (tOf (eBin fNe (eCall f__law_kinds (aCons (eV 4) aNil)) eLcR)) (sRet (eC (.bl false))) sNx) sNx)
def inB : MS := sSeq (sIf (tOrM (tOf (eBin fNe (eCall f__law_kept (aCons (eV 2) aNil)) (eBin fMul (eLst (aCons (eV 1) aNil)) (eC (.int 13))))) (tNotM (tOf (eCall f__law_others_right (aCons (eV 1) aNil))))) (sRet (eC (.bl false))) sNx) (sSeq (sFor (iEnumM (eV 2)) (gTgt (.many [3, 4])) ebB) sNx)
def tnB : MS := sFor (iSeq (eLst (aCons (eCall f__law_by_place (aCons (eV 1) aNil)) (aCons (eCall f__law_by_name (aCons (eV 1) aNil)) aNil)))) (gNm 2) inB
theorem law_eq : m_law = sSeq (sFor (iSeq (eLst (aCons (eCB cLen (aCons (eV 0) aNil)) (aCons (eC .non) (aCons (eC (.str s_a)) (aCons (eLst (aCons (eC (.int 1)) (aCons (eC (.str s_b)) aNil))) (aCons (eTup (aCons (eC (.int 2)) aNil)) (aCons (eC (.bl true)) aNil)))))))) (gNm 1) tnB) (sSeq (sRet (eC (.bl true))) sNx) := rfl
def bF (i : Nat) : VI → VI
  | .int s => .bl (decide (s = (i : Int)))
  | _ => .non
def rgV : List VI := (List.range 13).map fun s => .int (0 + ((s : Nat) : Int))
theorem rg_kb {i : Nat} (hi : i < 13) : rgV.map (bF i) = kbF (11 + i) := by
  rcases (by omega : i = 0 ∨ i = 1 ∨ i = 2 ∨ i = 3 ∨ i = 4 ∨ i = 5 ∨ i = 6 ∨ i = 7 ∨ i = 8 ∨ i = 9 ∨ i = 10 ∨ i = 11 ∨ i = 12) with rfl | rfl | rfl | rfl | rfl | rfl | rfl | rfl | rfl | rfl | rfl | rfl | rfl <;> kernel_rfl
theorem pl_kb (c : Nat) : plVs 1 (kbF c) = true := rfl
section
variable {h : Hi} {v : VI} {x0 x1 x2 x3 x4 x5 : Option VI}
theorem lcR_g {i : Nat} (hi : i < 13) (h : Hi) : eLcR [x0, x1, x2, some (.int i), x4, x5] h = .ok (.ref h.length) (h ++ [.lst (kbF (11 + i))]) := by
  have rg : rngOf [.int 13] = some (.rng 0 13) := by have := rng_n (n := 13) (by omega) (by omega); exact this
  have r := lc_m (mi := iRng (aCons (eC (.int 13)) aNil)) (it := .rng 0 13) (t := .one 5) (vs := [5]) (el := eBin fEqX (eV 5) (eV 3)) (σ := [x0, x1, x2, some (.int i), x4, x5]) (xs := rgV) (h := h) (h1 := h)
    (fun x => [x0, x1, x2, some (.int i), x4, some x]) (bF i) (rgg (v := .int 13) rfl rg) rfl (fun j acc => by
      by_cases q : j < 13
      · rw [nxt_rng _ q]
        have : rgV[j]? = some (.int (0 + (j : Int))) := by
          unfold rgV
          rw [List.getElem?_map, List.getElem?_range q]
          rfl
        rw [this]
      · have e : rgV[j]? = none := List.getElem?_eq_none (by simp [rgV]; omega)
        rw [e]
        have bl : Nat.blt j 13 = false := by
          unfold Nat.blt
          cases z : Nat.ble (j + 1) 13 with
          | false => rfl
          | true => have := Nat.le_of_ble_eq_true z; omega
        simp [Itm.nxt, bl]) (fun x hx => rfl) (fun x hx acc => by
      obtain ⟨s, hs, rfl⟩ := List.mem_map.mp hx
      have w := w_eqX_II (0 + ((s : Nat) : Int)) (i : Int) (h ++ [OI.lst acc])
      simp only [x_eBin, x_eV, List.getElem?_cons_zero, List.getElem?_cons_succ, x_bind, w, x_ofO, bF]) (by simp [rgV])
  rw [rg_kb hi] at r
  exact r
theorem ebB_g {i p : Nat} {f : S} (hi : i < 13) (x : XA h p (11 + i) f v) : ∃ h', ebB [x0, x1, x2, some (.int i), some (.ref p), x5] h = .nx [x0, x1, x2, some (.int i), some (.ref p), x5] h' ∧ Fr [] h h' := by
  have i1 : eIsX (lkT rmT) (eV 4) [x0, x1, x2, some (.int i), some (.ref p), x5] h = .ok (.bl true) h := isX_g (e := eV 4) rfl x (by rcases (by omega : i = 0 ∨ i = 1 ∨ i = 2 ∨ i = 3 ∨ i = 4 ∨ i = 5 ∨ i = 6 ∨ i = 7 ∨ i = 8 ∨ i = 9 ∨ i = 10 ∨ i = 11 ∨ i = 12) with rfl | rfl | rfl | rfl | rfl | rfl | rfl | rfl | rfl | rfl | rfl | rfl | rfl <;> rfl)
  obtain ⟨m, h1, e1, k1, F1⟩ := kinds_g x (by omega)
  have lc := lcR_g (x0 := x0) (x1 := x1) (x2 := x2) (x4 := some (.ref p)) (x5 := x5) hi h1
  obtain ⟨h2, e2⟩ : ∃ y, y = h1 ++ [OI.lst (kbF (11 + i))] := ⟨_, rfl⟩
  rw [← e2] at lc
  have F2 : Fr [] h1 h2 := by rw [e2]; exact .app
  have ne := ne_lists (k := 1) (F2.get k1 (by simp)) (m := h1.length) (by rw [e2]; simp) (pl_kb _) (by omega)
  refine ⟨h2, ?_, F1.trans F2⟩
  unfold ebB
  generalize eIsX (lkT rmT) (eV 4) = I1 at i1 ⊢
  generalize eLcR = LR at lc ⊢
  simp? [i1, e1, lc, ne]
theorem inB_g {n : Nat} {l : List VI} (t : Th h v) (g : h[n]? = some (.lst l)) (X : XL h v l csF) (y3 y4 : Option VI) : ∃ h' z3 z4, inB [x0, some v, some (.ref n), y3, y4, x5] h = .nx [x0, some v, some (.ref n), z3, z4, x5] h' ∧ Fr [] h h' := by
  obtain ⟨m, h1, e1, k1, F1⟩ := kept_g g X
  obtain ⟨m2, h2, e2, k2, F2⟩ := mul_g (σ := [x0, some v, some (.ref n), y3, y4, x5]) (j := 1) (v := v) 13 (by omega) rfl h1
  have k2 : h2[m2]? = some (.lst (List.replicate 13 v)) := k2
  have e2 : eBin fMul (eLst (aCons (eV 1) aNil)) (eC (.int 13)) [x0, some v, some (.ref n), y3, y4, x5] h1 = .ok (.ref m2) h2 := e2
  obtain ⟨d, D⟩ := (t.fr (F1.trans F2)).dv
  have ne := ne_rep D (F2.get k1 (by simp)) k2
  obtain ⟨h3, e3, F3⟩ := others_g (t.fr (F1.trans F2))
  have F13 := F1.trans (F2.trans F3)
  have g3 := F13.get g (by simp)
  have X3 := X.fr F13
  have ll := X.len
  obtain ⟨σ', h4, e4, ⟨z3, z4, rfl, F4⟩⟩ := turns_inv (it := .enl n) (g := gTgt (.many [3, 4])) (body := ebB) 13
    (fun i σ g => ∃ z3 z4, σ = [x0, some v, some (.ref n), z3, z4, x5] ∧ Fr [] h3 g)
    (fun i σ g hi ⟨z3, z4, e, F⟩ => by
      subst e
      have gi := F.get g3 (by simp)
      obtain ⟨c, f, hc, e11⟩ : ∃ c f, csF[i]? = some (c, f) ∧ c = 11 + i := by
        rcases (by omega : i = 0 ∨ i = 1 ∨ i = 2 ∨ i = 3 ∨ i = 4 ∨ i = 5 ∨ i = 6 ∨ i = 7 ∨ i = 8 ∨ i = 9 ∨ i = 10 ∨ i = 11 ∨ i = 12) with rfl | rfl | rfl | rfl | rfl | rfl | rfl | rfl | rfl | rfl | rfl | rfl | rfl <;> exact ⟨_, _, rfl, rfl⟩
      obtain ⟨p, ep, xa⟩ := (X3.fr F).at_ hc
      rw [e11] at xa
      obtain ⟨g', e', F'⟩ := ebB_g (x0 := x0) (x1 := some v) (x2 := some (.ref n)) (x5 := x5) hi xa
      refine ⟨.tup [.int (i : Nat), .ref p], [x0, some v, some (.ref n), some (.int (i : Nat)), some (.ref p), x5], g, [x0, some v, some (.ref n), some (.int (i : Nat)), some (.ref p), x5], g', ?_, rfl, e', _, _, rfl, F.trans F'⟩
      rw [nxt_enl gi, ep]
      rfl)
    (fun σ g ⟨z3, z4, e, F⟩ => by
      rw [nxt_enl (F.get g3 (by simp)), List.getElem?_eq_none (by rw [ll]; simp [csF])]
      rfl) 13 0 [x0, some v, some (.ref n), y3, y4, x5] h3 (by omega) ⟨_, _, rfl, .refl⟩
  refine ⟨h4, z3, z4, ?_, F13.trans F4⟩
  have fu : (Itm.enl n).fuel h3 = 13 := by
    simp only [Itm.fuel, listAt, g3, ll]
    rfl
  have en : enlOf (.ref n) h3 = some (.enl n) := by simp [enlOf, listAt, g3]
  have oi : ∀ (it : Itm) (h : Hi), ofI (some it) h = .ok it h := fun _ _ => rfl
  unfold inB
  generalize eBin fMul (eLst (aCons (eV 1) aNil)) (eC (.int 13)) = MU at e2 ⊢
  generalize ebB = EB at e4 ⊢
  simp? [e1, e2, ne, e3, iEnumM, en, oi, sFor, fu, e4]
theorem tnB_g (t : Th h v) (y2 y3 y4 : Option VI) : ∃ h' z2 z3 z4, tnB [x0, some v, y2, y3, y4, x5] h = .nx [x0, some v, z2, z3, z4, x5] h' ∧ Fr [] h h' := by
  obtain ⟨n1, l1, h1, e1, g1, X1, F1⟩ := place_g v h
  obtain ⟨n2, l2, h2, e2, g2, X2, F2⟩ := name_g v h1
  obtain ⟨h3, e3⟩ : ∃ y, y = h2 ++ [OI.lst [.ref n1, .ref n2]] := ⟨_, rfl⟩
  have F3 : Fr [] h2 h3 := by rw [e3]; exact .app
  have k3 : h3[h2.length]? = some (.lst [.ref n1, .ref n2]) := by rw [e3]; simp
  have t3 := t.fr (F1.trans (F2.trans F3))
  have a1 := (F2.trans F3).get g1 (by simp)
  have a2 := F3.get g2 (by simp)
  obtain ⟨σ', h4, e4, ⟨z2, z3, z4, rfl, F4⟩⟩ := turns_inv (it := .lst h2.length) (g := gNm 2) (body := inB) 2
    (fun i σ g => ∃ z2 z3 z4, σ = [x0, some v, z2, z3, z4, x5] ∧ Fr [] h3 g)
    (fun i σ g hi ⟨z2, z3, z4, e, F⟩ => by
      subst e
      have gi := F.get k3 (by simp)
      obtain ⟨n, l, en, gn, Xn⟩ : ∃ n l, [VI.ref n1, VI.ref n2][i]? = some (.ref n) ∧ g[n]? = some (.lst l) ∧ XL g v l csF := by
        rcases (by omega : i = 0 ∨ i = 1) with rfl | rfl
        · exact ⟨n1, l1, rfl, F.get a1 (by simp), X1.fr ((F2.trans F3).trans F)⟩
        · exact ⟨n2, l2, rfl, F.get a2 (by simp), X2.fr (F3.trans F)⟩
      obtain ⟨g', y3', y4', e', F'⟩ := inB_g (x0 := x0) (x5 := x5) (t3.fr F) gn Xn z3 z4
      refine ⟨.ref n, [x0, some v, some (.ref n), z3, z4, x5], g, _, g', ?_, rfl, e', _, _, _, rfl, F.trans F'⟩
      rw [nxt_lst gi, en])
    (fun σ g ⟨z2, z3, z4, e, F⟩ => by rw [nxt_lst (F.get k3 (by simp))]; rfl) 2 0 [x0, some v, y2, y3, y4, x5] h3 (by omega) ⟨_, _, _, rfl, .refl⟩
  refine ⟨h4, z2, z3, z4, ?_, F1.trans (F2.trans (F3.trans F4))⟩
  have sq := seq_lst k3
  have oi : ∀ (it : Itm) (h : Hi), ofI (some it) h = .ok it h := fun _ _ => rfl
  have fu : (Itm.lst h2.length).fuel h3 = 2 := fuel_lst k3
  have s2 : small 2 = true := rfl
  unfold tnB
  generalize inB = IB at e4 ⊢
  simp? [sFor, iSeq, e1, e2, s2, ← e3, sq, oi, fu, e4]
end
theorem pure_law (ns : List Int) (hl : ns.length ≤ 63) : ∃ h', f_law [.ref 0] [.scr (ns.map VI.int)] = .ok (.bl true) h' := by
  obtain ⟨h0, e0⟩ : ∃ y : Hi, y = [.scr (ns.map VI.int)] := ⟨_, rfl⟩
  have cl : cLen [.ref 0] h0 = some (.int ns.length, h0) := by rw [e0]; simp [cLen]
  obtain ⟨h1, e1⟩ : ∃ y, y = h0 ++ [OI.lst [.int 1, .str s_b]] := ⟨_, rfl⟩
  obtain ⟨h2, e2⟩ : ∃ y, y = h1 ++ [OI.lst [.int ns.length, .non, .str s_a, .ref h0.length, .tup [.int 2], .bl true]] := ⟨_, rfl⟩
  have F2 : Fr [] h1 h2 := by rw [e2]; exact .app
  have k1 : h2[h0.length]? = some (.lst [.int 1, .str s_b]) := F2.get (by rw [e1]; simp) (by simp)
  have k2 : h2[h1.length]? = some (.lst [.int ns.length, .non, .str s_a, .ref h0.length, .tup [.int 2], .bl true]) := by rw [e2]; simp
  obtain ⟨σ', h3, e3, ⟨z1, z2, z3, z4, rfl, F3⟩⟩ := turns_inv (it := .lst h1.length) (g := gNm 1) (body := tnB) 6
    (fun i σ g => ∃ z1 z2 z3 z4, σ = [some (.ref 0), z1, z2, z3, z4, none] ∧ Fr [] h2 g)
    (fun i σ g hi ⟨z1, z2, z3, z4, e, F⟩ => by
      subst e
      have gi := F.get k2 (by simp)
      obtain ⟨v, ev, t⟩ : ∃ v, [VI.int ns.length, .non, .str s_a, .ref h0.length, .tup [.int 2], .bl true][i]? = some v ∧ Th g v := by
        rcases (by omega : i = 0 ∨ i = 1 ∨ i = 2 ∨ i = 3 ∨ i = 4 ∨ i = 5) with rfl | rfl | rfl | rfl | rfl | rfl
        · exact ⟨_, rfl, .p rfl⟩
        · exact ⟨_, rfl, .p rfl⟩
        · exact ⟨_, rfl, .p (by kernel_rfl)⟩
        · exact ⟨_, rfl, .l (F.get k1 (by simp)) (by kernel_rfl)⟩
        · exact ⟨_, rfl, .p rfl⟩
        · exact ⟨_, rfl, .p rfl⟩
      obtain ⟨g', y2, y3, y4, e', F'⟩ := tnB_g (x0 := some (.ref 0)) (x5 := none) t z2 z3 z4
      refine ⟨v, [some (.ref 0), some v, z2, z3, z4, none], g, _, g', ?_, rfl, e', _, _, _, _, rfl, F.trans F'⟩
      rw [nxt_lst gi, ev])
    (fun σ g ⟨z1, z2, z3, z4, e, F⟩ => by rw [nxt_lst (F.get k2 (by simp))]; rfl) 6 0 [some (.ref 0), none, none, none, none, none] h2 (by omega) ⟨_, _, _, _, rfl, .refl⟩
  refine ⟨h3, ?_⟩
  have sq := seq_lst k2
  have oi : ∀ (it : Itm) (h : Hi), ofI (some it) h = .ok it h := fun _ _ => rfl
  have fu : (Itm.lst h1.length).fuel h2 = 6 := fuel_lst k2
  have s2 : small 2 = true := rfl
  have s6 : small 6 = true := rfl
  have r0 : f_law [.ref 0] h0 = endB (m_law [some (.ref 0), none, none, none, none, none] h0) := rfl
  rw [← e0, r0, law_eq]
  generalize tnB = TB at e3 ⊢
  simp? [sFor, iSeq, cl, s2, ← e1, s6, ← e2, sq, oi, fu, e3]
  all_goals rfl
end Lw
end
set_option maxHeartbeats 0
namespace Lw
open PySem PySem.Spec PyProof.Rows PySem.W L2 He ML MHP HandSHeadRun
theorem leftT : LeftO PP qV loA (fun s => xlAt qV [] s && recOk Rr.toRowW.records s) hk.obs hk.val 4972 true :=
  left_pc (A := zStA) (Z := zSt23) (th := thT) (k0 := 12) (M1 := 1 + (4258 + (2))) (by kernel_rfl) (by decide +kernel) (fun s => by kernel_rfl) (by decide +kernel) sizeT annT_ok preT restT look1 look2 fun w os => by rw [← ob_eq]; exact look3a w os
theorem facts {w : World} {K : PySem.W.Frag} {h : Heap} {mg : Str → Option Value} {f : Addr} (X : K.In h) (Gn : h.Ns mainGlobals mg) (hfa : mg ("law" : Str) = some (.ref f)) (c : SaysM spec w K) :
    ∃ fd : FuncData, (∀ (s : Shared) (v : Value), BindsTo s fd ⟨[v], []⟩ [("_law_script", v)]) ∧ ∀ base : Heap, K.In base → base.Ns mainGlobals mg → FnOk P w K mg base CX0 7 f fd ["_law_script"] (fun vs H Q _ => spM (GxOf w K mg nm) 1 f_law vs H Q fun _ _ _ => False) := by
  have E : Ev spec w K mg := ⟨c, h, X, Gn⟩
  have e := hfa.symm.trans (glo_ok X Gn (c.ex 87 (f := fun K => (Fa.glo "law").ok K) rfl))
  cases e
  have b := FunD.bindsA (ps := ["_law_script"]) (c.def_ 5 (d := gd_law) rfl) fun _ _ _ _ _ _ us hl => match us, hl with | [_], _ => rfl
  exact ⟨_, fun s v => b s [v] rfl, fun base _ _ => fn_cx0 (ok_law (base := base) E).ok⟩
end Lw
open PySem PySem.W PySem.Calls PyProof.Rows
theorem PySem.Challenge.cw_epochrooms_k80_errors_by_hand_holds : PySem.Challenge.rw_epochrooms_k80_errors_by_hand.Holds := by
  exact Lw.fin_row Lw.leftT Lw.facts Lw.pure_law
