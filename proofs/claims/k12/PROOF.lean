import PyProof.Rows.All
import Wide.All
import OpenK.AllK
import Wide.FinOn
import HandS.ForMost
import HandS.ForExc
import HandS.Lambda
import HandS.Wide
import HandS.TupAny
import HandS.TupMul
import HandS.IsInst
import HandS.SortInts
import HandS.Conv
import HandS.Flow
import HandS.Zip
import HandS.RevRange
import HandS.Style
import HandS.AnyAll
import HandS.GenOver
import PyProof.CodeObjX
import HandS.ExcField
import HandS.ExcInit
import KE.KExcSuper
import HandS.HeadEnd
import HandS.HeadWalk
import HandS.EndTab
import HandS.More
import HandS.HeadHook4
import HandS.Head2
import HandS.Set
import HandS.SetFor
import HandS.Strs
import HandS.SortOrd
import HandS.TupSets
import PySem.Challenge.RW_tidemaker_k12_whole_docks
set_option Elab.async false
set_option linter.all false
set_option maxRecDepth 100000
set_option maxHeartbeats 1000000
set_option maxRecDepth 100000
set_option maxHeartbeats 1000000
/-! FL: the functional layer. Data without a heap, slots, simulation of readings by functions on slots. -/
namespace FL
open PySem PySem.Spec PyProof.Rows L2

/-! ### data -/
/-- a tuple that stands in G, or in the written part -/
def TupAt (K : PySem.W.Frag) (G : Hp) (a : Addr) (xs : List V) : Prop :=
  G a = some (.tup xs) ∨ ∃ (o : Obj) (its : Array Value) (n : Nat), K.lookup a = some o ∧ o.cls = .type "tuple" ∧ o.data = .seq its n ∧ its.size ≤ sizeLine ∧ Vals xs its.toList
theorem TupAt.sqT {K : PySem.W.Frag} {G : Hp} {a : Addr} {xs : List V} (h : TupAt K G a xs) : SqT K G a xs := by
  rcases h with h | h
  · exact .inl (.inl h)
  · exact .inr h
mutual
inductive DP (K : PySem.W.Frag) (G : Hp) : V → PyData → Prop
  | non : DP K G .non .none
  | bl (b : Bool) : DP K G (.bl b) (.bool b)
  | int (i : Int) : DP K G (.int i) (.int i)
  | str (x : Str) : DP K G (.str x) (.str x)
  | lst {a : Addr} {xs : List V} {ds : List PyData} : G a = some (.lst xs) → DPs K G xs ds → DP K G (.ref a) (.list ds)
  | tup {a : Addr} {xs : List V} {ds : List PyData} : TupAt K G a xs → DPs K G xs ds → DP K G (.ref a) (.tuple ds)
inductive DPs (K : PySem.W.Frag) (G : Hp) : List V → List PyData → Prop
  | nil : DPs K G [] []
  | cons {v : V} {vs : List V} {d : PyData} {ds : List PyData} : DP K G v d → DPs K G vs ds → DPs K G (v :: vs) (d :: ds)
end
/-- G stands in G' -/
def Le (G G' : Hp) : Prop := ∀ b o, G b = some o → G' b = some o
theorem Le.refl (G : Hp) : Le G G := fun _ _ h => h
theorem Le.trans {G G1 G2 : Hp} (a : Le G G1) (b : Le G1 G2) : Le G G2 := fun c o h => b c o (a c o h)
theorem Le.sqT {K : PySem.W.Frag} {G G' : Hp} {a : Addr} {xs : List V} (e : Le G G') (h : SqT K G a xs) : SqT K G' a xs := by
  rcases h with (h | ⟨o, h⟩) | h
  · exact .inl (.inl (e _ _ h))
  · exact .inl (.inr ⟨o, e _ _ h⟩)
  · exact .inr h
theorem Le.sqL {K : PySem.W.Frag} {G G' : Hp} {a : Addr} {xs : List V} (e : Le G G') (h : SqL K G a xs) : SqL K G' a xs := by
  rcases h with (h | ⟨o, h⟩) | h
  · exact .inl (.inl (e _ _ h))
  · exact .inl (.inr ⟨o, e _ _ h⟩)
  · exact .inr h
theorem Le.tupAt {K : PySem.W.Frag} {G G' : Hp} {a : Addr} {xs : List V} (e : Le G G') (h : TupAt K G a xs) : TupAt K G' a xs := by
  rcases h with h | h
  · exact .inl (e _ _ h)
  · exact .inr h
theorem Le.upd {G : Hp} {p : Addr} {o : HO} (h : G p = none) : Le G (upd G p o) := fun b u e => by
  rw [upd_ne (ne_of_none e h)]
  exact e
theorem Le.upd2 {G H : Hp} {p : Addr} {o : HO} (h : Le G H) (n : H p = none) : Le (L2.upd G p o) (L2.upd H p o) := fun b u e => by
  by_cases hb : b = p
  · rw [hb, upd_same] at e ⊢
    exact e
  · rw [upd_ne hb] at e ⊢
    exact h b u e
theorem Le.none {G H : Hp} {p : Addr} (h : Le G H) (n : H p = none) : G p = none := by
  cases q : G p with
  | none => rfl
  | some o =>
    rw [h p o q] at n
    cases n
mutual
theorem DP.mono {K : PySem.W.Frag} {G G' : Hp} (e : Le G G') : ∀ {v : V} {d : PyData}, DP K G v d → DP K G' v d
  | _, _, .non => .non
  | _, _, .bl b => .bl b
  | _, _, .int i => .int i
  | _, _, .str x => .str x
  | _, _, .lst h r => .lst (e _ _ h) (DPs.mono e r)
  | _, _, .tup h r => .tup (e.tupAt h) (DPs.mono e r)
theorem DPs.mono {K : PySem.W.Frag} {G G' : Hp} (e : Le G G') : ∀ {vs : List V} {ds : List PyData}, DPs K G vs ds → DPs K G' vs ds
  | _, _, .nil => .nil
  | _, _, .cons h r => .cons (DP.mono e h) (DPs.mono e r)
end
mutual
theorem DP.toDp {K : PySem.W.Frag} {G H : Hp} (e : Le G H) : ∀ {v : V} {d : PyData}, DP K G v d → Dp K H v d
  | _, _, .non => .non
  | _, _, .bl b => .bl b
  | _, _, .int i => .int i
  | _, _, .str x => .str x
  | _, _, .lst h r => .lst (SqL.of (e _ _ h)) (DPs.toDp e r)
  | _, _, .tup h r => .tup (e.sqT h.sqT) (DPs.toDp e r)
theorem DPs.toDp {K : PySem.W.Frag} {G H : Hp} (e : Le G H) : ∀ {vs : List V} {ds : List PyData}, DPs K G vs ds → DpAll K H vs ds
  | _, _, .nil => .nil
  | _, _, .cons h r => .cons (DP.toDp e h) (DPs.toDp e r)
end
theorem DPs.length {K : PySem.W.Frag} {G : Hp} : ∀ {vs : List V} {ds : List PyData}, DPs K G vs ds → vs.length = ds.length
  | _, _, .nil => rfl
  | _, _, .cons _ r => congrArg Nat.succ (DPs.length r)
theorem DPs.get {K : PySem.W.Frag} {G : Hp} : ∀ {vs : List V} {ds : List PyData} {i : Nat} {d : PyData}, DPs K G vs ds → ds[i]? = some d → ∃ v, vs[i]? = some v ∧ DP K G v d
  | _, _, _, _, .nil, e => by simp at e
  | _, _, 0, _, .cons h _, e => by
    simp at e
    subst e
    exact ⟨_, rfl, h⟩
  | _, _, i + 1, _, .cons _ r, e => by
    obtain ⟨v, h1, h2⟩ := DPs.get (i := i) r (by simpa using e)
    exact ⟨v, by simpa using h1, h2⟩
theorem DPs.getV {K : PySem.W.Frag} {G : Hp} : ∀ {vs : List V} {ds : List PyData} {i : Nat} {v : V}, DPs K G vs ds → vs[i]? = some v → ∃ d, ds[i]? = some d ∧ DP K G v d
  | _, _, _, _, .nil, e => by simp at e
  | _, _, 0, _, .cons h _, e => by
    simp at e
    subst e
    exact ⟨_, rfl, h⟩
  | _, _, i + 1, _, .cons _ r, e => by
    obtain ⟨v, h1, h2⟩ := DPs.getV (i := i) r (by simpa using e)
    exact ⟨v, by simpa using h1, h2⟩
theorem DPs.append {K : PySem.W.Frag} {G : Hp} : ∀ {vs ws : List V} {ds es : List PyData}, DPs K G vs ds → DPs K G ws es → DPs K G (vs ++ ws) (ds ++ es)
  | _, _, _, _, .nil, s => s
  | _, _, _, _, .cons h r, s => .cons h (DPs.append r s)
theorem DPs.take {K : PySem.W.Frag} {G : Hp} : ∀ {vs : List V} {ds : List PyData} (n : Nat), DPs K G vs ds → DPs K G (vs.take n) (ds.take n)
  | _, _, 0, _ => by simp only [List.take_zero]; exact .nil
  | _, _, _ + 1, .nil => .nil
  | _, _, n + 1, .cons h r => .cons h (DPs.take n r)
theorem DPs.drop {K : PySem.W.Frag} {G : Hp} : ∀ {vs : List V} {ds : List PyData} (n : Nat), DPs K G vs ds → DPs K G (vs.drop n) (ds.drop n)
  | _, _, 0, r => r
  | _, _, _ + 1, .nil => .nil
  | _, _, n + 1, .cons _ r => DPs.drop n r
theorem DPs.set {K : PySem.W.Frag} {G : Hp} {v : V} {d : PyData} (h : DP K G v d) : ∀ {vs : List V} {ds : List PyData} (i : Nat), DPs K G vs ds → DPs K G (vs.set i v) (ds.set i d)
  | _, _, _, .nil => .nil
  | _, _, 0, .cons _ r => .cons h r
  | _, _, i + 1, .cons q r => .cons q (DPs.set h i r)

/-! ### slots -/
inductive Slot where
  | un
  | dat (d : PyData)
  /-- a list that is the frame's own (p: its caller's) -/
  | lst (p : Bool) (xs : List PyData)
  | dK (p : Bool) (kvs : List (Key × PyData))
  | dT (p : Bool) (kvs : List (List Key × PyData))
abbrev Sl := List Slot
def Slot.own : Slot → Bool
  | .un => false
  | .dat _ => false
  | _ => true
def Slot.pin : Slot → Bool
  | .lst p _ => p
  | .dK p _ => p
  | .dT p _ => p
  | _ => false
structure Exn where
  c : Nat
  ds : List PyData
/-- what the layer is over: the written part, the tables of code objects, how an exception lies -/
structure Par where
  K : PySem.W.Frag
  T : List (Addr × Str)
  EX : Exn → Value → Option Addr → Hp → Prop
def KVs {κ : Type} (K : PySem.W.Frag) (G : Hp) : List (κ × V) → List (κ × PyData) → Prop := Paired fun p q => p.1 = q.1 ∧ DP K G p.2 q.2
theorem KVs.mono {κ : Type} {K : PySem.W.Frag} {G G' : Hp} (e : Le G G') {vs : List (κ × V)} {ds : List (κ × PyData)} (h : KVs K G vs ds) : KVs K G' vs ds :=
  Paired.mapP h fun _ _ q => ⟨q.1, q.2.mono e⟩
def ObjIs (K : PySem.W.Frag) (G H : Hp) (a : Addr) : Slot → Prop
  | .lst _ xs => ∃ vs, H a = some (.lst vs) ∧ DPs K G vs xs
  | .dK _ kvs => ∃ vs, H a = some (.dK vs) ∧ KVs K G vs kvs
  | .dT _ kvs => ∃ vs, H a = some (.dT vs) ∧ KVs K G vs kvs
  | _ => True
theorem ObjIs.mono {K : PySem.W.Frag} {G G' H H' : Hp} {a : Addr} {s : Slot} (e : Le G G') (h : H' a = H a) (q : ObjIs K G H a s) : ObjIs K G' H' a s := by
  cases s with
  | un => trivial
  | dat d => trivial
  | lst p xs => obtain ⟨vs, h1, h2⟩ := q; exact ⟨vs, h.trans h1, h2.mono e⟩
  | dK p xs => obtain ⟨vs, h1, h2⟩ := q; exact ⟨vs, h.trans h1, h2.mono e⟩
  | dT p xs => obtain ⟨vs, h1, h2⟩ := q; exact ⟨vs, h.trans h1, h2.mono e⟩
theorem ObjIs.some {K : PySem.W.Frag} {G H : Hp} {a : Addr} {s : Slot} (q : ObjIs K G H a s) (o : s.own = true) : ∃ u, H a = some u ∧ Mut (some u) ∧ ∀ ps, u ≠ .tbl ps := by
  cases s with
  | un => cases o
  | dat d => cases o
  | lst p xs => obtain ⟨vs, h1, h2⟩ := q; exact ⟨_, h1, trivial, fun _ z => by cases z⟩
  | dK p xs => obtain ⟨vs, h1, h2⟩ := q; exact ⟨_, h1, trivial, fun _ z => by cases z⟩
  | dT p xs => obtain ⟨vs, h1, h2⟩ := q; exact ⟨_, h1, trivial, fun _ z => by cases z⟩
structure OwnOk (K : PySem.W.Frag) (G H : Hp) (a : Addr) (o : Option (Option V)) (s : Slot) : Prop where
  v : o = Option.some (Option.some (.ref a))
  g : G a = none
  ob : ObjIs K G H a s
structure Sat (P : Par) (G0 Z : Hp) (pa : Nat → Addr) (G : Hp) (ad : Nat → Addr) (σ : L2.St) (H : Hp) (e : Sl) : Prop where
  g0 : Le G0 G
  sub : Le G H
  z : ∀ b o, Z b = some o → H b = some o ∧ G b = none
  zt : ∀ b ps, Z b ≠ some (.tbl ps)
  gt : ∀ b ps, G b ≠ some (.tbl ps)
  tabs : LamX.Tabs P.T H
  len : σ.length = e.length
  dat : ∀ (i : Nat) (d : PyData), e[i]? = some (Slot.dat d) → ∃ v, σ[i]? = some (some v) ∧ DP P.K G v d
  own : ∀ (i : Nat) (s : Slot), e[i]? = some s → s.own = true → OwnOk P.K G H (ad i) σ[i]? s
  inj : ∀ (i j : Nat) (s t : Slot), e[i]? = some s → e[j]? = some t → s.own = true → t.own = true → ad i = ad j → i = j
  noz : ∀ (i : Nat) (s : Slot), e[i]? = some s → s.own = true → Z (ad i) = none
  pin : ∀ (i : Nat) (s : Slot), e[i]? = some s → s.pin = true → ad i = pa i
section
variable {P : Par} {G0 Z : Hp} {pa : Nat → Addr} {G : Hp} {ad : Nat → Addr} {σ : L2.St} {H : Hp} {e : Sl}
theorem Sat.self (S : Sat P G0 Z pa G ad σ H e) : Sat P G Z pa G ad σ H e := { S with g0 := Le.refl G }
theorem Sat.base {G1 : Hp} (S : Sat P G0 Z pa G ad σ H e) (h : Le G1 G0) : Sat P G1 Z pa G ad σ H e := { S with g0 := h.trans S.g0 }
/-- a new object that is never changed -/
theorem Sat.new {p : Addr} {o : HO} (S : Sat P G0 Z pa G ad σ H e) (h : H p = none) (ht : ∀ ps, o ≠ .tbl ps) : Sat P G Z pa (upd G p o) ad σ (upd H p o) e := by
  have gn : G p = none := S.sub.none h
  have ne : ∀ {b : Addr} {u : HO}, H b = some u → b ≠ p := fun q => ne_of_none q h
  refine { g0 := Le.upd gn, sub := Le.upd2 S.sub h, z := fun b u q => ?_, zt := S.zt, gt := fun b ps => ?_, tabs := S.tabs.ext fun b u q => ?_, len := S.len, dat := fun i d q => ?_, own := fun i s q k => ?_, inj := S.inj, noz := S.noz, pin := S.pin }
  · obtain ⟨h1, h2⟩ := S.z b u q
    rw [upd_ne (ne h1), upd_ne (ne h1)]
    exact ⟨h1, h2⟩
  · by_cases hb : b = p
    · rw [hb, upd_same]
      exact fun q => ht ps (Option.some.inj q)
    · rw [upd_ne hb]
      exact S.gt b ps
  · rw [upd_ne (ne q)]
    exact q
  · obtain ⟨v, h1, h2⟩ := S.dat i d q
    exact ⟨v, h1, h2.mono (Le.upd gn)⟩
  · obtain ⟨h1, h2, h3⟩ := S.own i s q k
    obtain ⟨u, hu, _⟩ := h3.some k
    exact ⟨h1, by rw [upd_ne (ne hu)]; exact h2, h3.mono (Le.upd gn) (upd_ne (ne hu))⟩
/-- a slot gets data -/
theorem Sat.setDat {i : Nat} {v : V} {d : PyData} {s0 : Slot} (S : Sat P G0 Z pa G ad σ H e) (h0 : e[i]? = some s0) (hd : DP P.K G v d) : Sat P G0 Z pa G ad (σ.set i (some v)) H (e.set i (.dat d)) := by
  have hi : i < e.length := (List.getElem?_eq_some_iff.mp h0).1
  have hi2 : i < σ.length := by rw [S.len]; exact hi
  have keep : ∀ {j : Nat} {s : Slot}, (e.set i (.dat d))[j]? = some s → s.own = true → j ≠ i ∧ e[j]? = some s := fun {j s} q k => by
    by_cases hj : i = j
    · rw [← hj, List.getElem?_set_self hi] at q
      cases q
      cases k
    · rw [List.getElem?_set_ne hj] at q
      exact ⟨Ne.symm hj, q⟩
  have pk : ∀ {s : Slot}, s.pin = true → s.own = true := fun {s} q => by cases s <;> first | rfl | cases q
  refine { S with len := by rw [List.length_set, List.length_set]; exact S.len, dat := fun j c q => ?_, own := fun j s q k => ?_, inj := fun j l s t q1 q2 k1 k2 a => ?_, noz := fun j s q k => ?_, pin := fun j s q k => ?_ }
  · by_cases hj : i = j
    · rw [← hj, List.getElem?_set_self hi] at q
      cases q
      exact ⟨v, by rw [← hj, List.getElem?_set_self hi2], hd⟩
    · rw [List.getElem?_set_ne hj] at q ⊢
      exact S.dat j c q
  · obtain ⟨n, q⟩ := keep q k
    rw [List.getElem?_set_ne (Ne.symm n)]
    exact S.own j s q k
  · exact S.inj j l s t (keep q1 k1).2 (keep q2 k2).2 k1 k2 a
  · exact S.noz j s (keep q k).2 k
  · exact S.pin j s (keep q (pk k)).2 k
end

/-! ### functions and simulations -/
inductive R (α : Type) where
  | ok (a : α) (e : Sl)
  | ex (x : Exn) (e : Sl)
  | bad
def R.bind {α β : Type} : R α → (α → Sl → R β) → R β
  | .ok a e, k => k a e
  | .ex x e, _ => .ex x e
  | .bad, _ => .bad
def R.opt {α : Type} : Option α → Sl → R α
  | some a, e => .ok a e
  | none, _ => .bad
inductive Out where
  | nx (e : Sl)
  | rt (d : PyData) (e : Sl)
  | bk (e : Sl)
  | ct (e : Sl)
  | ex (x : Exn) (e : Sl)
  | bad
abbrev FE := Sl → R PyData
abbrev FT := Sl → R Bool
abbrev FA := Sl → R (List PyData)
abbrev FS := Sl → Out
section
variable {α β γ δ : Type}
/-- what is wanted behind a piece of code whose function gives r -/
def Post (P : Par) (E : XK) (G Z : Hp) (pa : Nat → Addr) (σ : L2.St) (Rel : Hp → β → α → Prop) (Q : β → Hp → Prop) : R α → Prop
  | .ok d e' => ∀ v G' ad' H', Sat P G Z pa G' ad' σ H' e' → Rel G' v d → Q v H'
  | .ex x e' => ∀ cls dd G' ad' H', Sat P G Z pa G' ad' σ H' e' → P.EX x cls dd H' → E cls dd H'
  | .bad => False
def Sim (P : Par) (E : XK) (Rel : Hp → β → α → Prop) (t : L2.St → Hp → (β → Hp → Prop) → Prop) (f : Sl → R α) : Prop := ∀ (G0 Z : Hp) (pa : Nat → Addr) (G : Hp) (ad : Nat → Addr) (σ : L2.St) (H : Hp) (e : Sl), Sat P G0 Z pa G ad σ H e →
  ∀ Q : β → Hp → Prop, Post P E G Z pa σ Rel Q (f e) → t σ H Q
theorem Post.mono {P : Par} {E : XK} {G G1 Z : Hp} {pa : Nat → Addr} {σ : L2.St} {Rel : Hp → β → α → Prop} {Q : β → Hp → Prop} {r : R α} (h : Post P E G Z pa σ Rel Q r) (l : Le G G1) : Post P E G1 Z pa σ Rel Q r := by
  cases r with
  | ok d e' => exact fun v G' ad' H' S q => h v G' ad' H' (S.base l) q
  | ex x e' => exact fun cls dd G' ad' H' S q => h cls dd G' ad' H' (S.base l) q
  | bad => exact h
theorem Sim.bind {P : Par} {E : XK} {G0 G Z : Hp} {pa ad : Nat → Addr} {σ : L2.St} {H : Hp} {e : Sl} {Rel : Hp → β → α → Prop} {Rel' : Hp → δ → γ → Prop} {t : L2.St → Hp → (β → Hp → Prop) → Prop} {f : Sl → R α} {k : α → Sl → R γ} {Q : δ → Hp → Prop} {Qa : β → Hp → Prop}
    (ha : Sim P E Rel t f) (S : Sat P G0 Z pa G ad σ H e) (h : Post P E G Z pa σ Rel' Q ((f e).bind k))
    (c : ∀ v d e' G' ad' H', Sat P G Z pa G' ad' σ H' e' → Rel G' v d → Post P E G' Z pa σ Rel' Q (k d e') → Qa v H') : t σ H Qa := by
  refine ha _ _ _ _ _ _ _ _ S Qa ?_
  cases q : f e with
  | ok d e' =>
    rw [q] at h
    exact fun v G' ad' H' S' r => c v d e' G' ad' H' S' r (Post.mono h S'.g0)
  | ex x e' =>
    rw [q] at h
    exact h
  | bad =>
    rw [q] at h
    exact h
end
abbrev SimE (P : Par) (E : XK) (t : TE) (f : FE) : Prop := Sim P E (DP P.K) t f
abbrev SimT (P : Par) (E : XK) (t : TT) (f : FT) : Prop := Sim P E (fun _ a b => a = b) t f
abbrev SimA (P : Par) (E : XK) (t : TA) (f : FA) : Prop := Sim P E (DPs P.K) t f
/-- a value at once, data d -/
theorem Post.out {P : Par} {E : XK} {G0 Z : Hp} {pa : Nat → Addr} {G : Hp} {ad : Nat → Addr} {σ : L2.St} {H : Hp} {e : Sl} {Q : VK} {v : V} {d : PyData} (S : Sat P G0 Z pa G ad σ H e) (h : Post P E G Z pa σ (DP P.K) Q (.ok d e)) (hd : DP P.K G v d) : Q v H :=
  h v G ad H S.self hd
theorem Post.outB {P : Par} {E : XK} {G0 Z : Hp} {pa : Nat → Addr} {G : Hp} {ad : Nat → Addr} {σ : L2.St} {H : Hp} {e : Sl} {Q : Bool → Hp → Prop} {b : Bool} (S : Sat P G0 Z pa G ad σ H e) (h : Post P E G Z pa σ (fun _ a b => a = b) Q (.ok b e)) : Q b H :=
  h b G ad H S.self rfl
/-- a new list, a new tuple -/
theorem Post.newL {P : Par} {E : XK} {G0 Z : Hp} {pa : Nat → Addr} {G : Hp} {ad : Nat → Addr} {σ : L2.St} {H : Hp} {e : Sl} {Q : VK} {vs : List V} {ds : List PyData} {p : Addr} (S : Sat P G0 Z pa G ad σ H e) (h : Post P E G Z pa σ (DP P.K) Q (.ok (.list ds) e)) (hd : DPs P.K G vs ds) (hp : H p = none) :
    Q (.ref p) (upd H p (.lst vs)) :=
  h (.ref p) (upd G p (.lst vs)) ad _ (S.new hp fun _ z => by cases z) (.lst upd_same (hd.mono (Le.upd (S.sub.none hp))))
theorem Post.newT {P : Par} {E : XK} {G0 Z : Hp} {pa : Nat → Addr} {G : Hp} {ad : Nat → Addr} {σ : L2.St} {H : Hp} {e : Sl} {Q : VK} {vs : List V} {ds : List PyData} {p : Addr} (S : Sat P G0 Z pa G ad σ H e) (h : Post P E G Z pa σ (DP P.K) Q (.ok (.tuple ds) e)) (hd : DPs P.K G vs ds) (hp : H p = none) :
    Q (.ref p) (upd H p (.tup vs)) :=
  h (.ref p) (upd G p (.tup vs)) ad _ (S.new hp fun _ z => by cases z) (.tup (.inl upd_same) (hd.mono (Le.upd (S.sub.none hp))))
end FL

set_option maxRecDepth 100000
set_option maxHeartbeats 1000000
/-! FL, expressions. -/
namespace FL
open PySem PySem.Spec PyProof.Rows L2

/-! ### values -/
def fC (d : PyData) : FE := fun e => .ok d e
/-- a slot's value; a list of the frame's own is from then on never changed -/
def fV (i : Nat) : FE := fun e => match e[i]? with
  | some (.dat d) => .ok d e
  | some (.lst false xs) => .ok (.list xs) (e.set i (.dat (.list xs)))
  | _ => .bad
section
variable {P : Par} {E : XK}
theorem sim_c {v : V} {d : PyData} (h : ∀ G, DP P.K G v d) : SimE P E (tC v) (fC d) := fun G0 Z pa G ad σ H e S Q q => Post.out S q (h G)
theorem sim_int {i : Int} : SimE P E (tC (.int i)) (fC (.int i)) := sim_c fun _ => .int i
theorem sim_bl {i : Bool} : SimE P E (tC (.bl i)) (fC (.bool i)) := sim_c fun _ => .bl i
theorem sim_non : SimE P E (tC .non) (fC .none) := sim_c fun _ => .non
theorem sim_str {i : Str} : SimE P E (tC (.str i)) (fC (.str i)) := sim_c fun _ => .str i
/-- an own list is frozen -/
theorem Sat.freeze {G0 Z : Hp} {pa : Nat → Addr} {G : Hp} {ad : Nat → Addr} {σ : L2.St} {H : Hp} {e : Sl} {i : Nat} {xs : List PyData} (S : Sat P G0 Z pa G ad σ H e) (h : e[i]? = some (.lst false xs)) :
    ∃ G', Sat P G Z pa G' ad σ H (e.set i (.dat (.list xs))) ∧ σ[i]? = some (some (.ref (ad i))) ∧ DP P.K G' (.ref (ad i)) (.list xs) := by
  obtain ⟨h1, h2, vs, h3, h4⟩ := S.own i _ h rfl
  have hi : i < e.length := (List.getElem?_eq_some_iff.mp h).1
  have le : Le G (upd G (ad i) (.lst vs)) := Le.upd h2
  have ne : ∀ {j : Nat} {s : Slot}, (e.set i (.dat (.list xs)))[j]? = some s → s.own = true → j ≠ i ∧ e[j]? = some s := fun {j s} q k => by
    by_cases hj : i = j
    · rw [← hj, List.getElem?_set_self hi] at q
      cases q
      cases k
    · rw [List.getElem?_set_ne hj] at q
      exact ⟨Ne.symm hj, q⟩
  have pk : ∀ {s : Slot}, s.pin = true → s.own = true := fun {s} q => by cases s <;> first | rfl | cases q
  have hd : DP P.K (upd G (ad i) (.lst vs)) (.ref (ad i)) (.list xs) := .lst upd_same (h4.mono le)
  refine ⟨upd G (ad i) (.lst vs), ?_, h1, hd⟩
  refine { g0 := le, sub := fun b o q => ?_, z := fun b o q => ?_, zt := S.zt, gt := fun b ps => ?_, tabs := S.tabs, len := (by rw [List.length_set]; exact S.len), dat := fun j d q => ?_, own := fun j s q k => ?_, inj := fun j l s t q1 q2 k1 k2 a => S.inj j l s t (ne q1 k1).2 (ne q2 k2).2 k1 k2 a, noz := fun j s q k => S.noz j s (ne q k).2 k, pin := fun j s q k => S.pin j s (ne q (pk k)).2 k }
  · by_cases hb : b = ad i
    · rw [hb, upd_same] at q
      cases q
      rw [hb]
      exact h3
    · rw [upd_ne hb] at q
      exact S.sub b o q
  · obtain ⟨q1, q2⟩ := S.z b o q
    have hb : b ≠ ad i := fun z => by
      have := S.noz i _ h rfl
      rw [← z, q] at this
      cases this
    exact ⟨q1, by rw [upd_ne hb]; exact q2⟩
  · by_cases hb : b = ad i
    · rw [hb, upd_same]
      exact fun q => by cases q
    · rw [upd_ne hb]
      exact S.gt b ps
  · by_cases hj : i = j
    · rw [← hj, List.getElem?_set_self hi] at q
      cases q
      rw [← hj]
      exact ⟨_, h1, hd⟩
    · rw [List.getElem?_set_ne hj] at q
      obtain ⟨v, q1, q2⟩ := S.dat j d q
      exact ⟨v, q1, q2.mono le⟩
  · obtain ⟨n, q'⟩ := ne q k
    obtain ⟨a1, a2, a3⟩ := S.own j s q' k
    have hb : ad j ≠ ad i := fun z => n (S.inj j i _ _ q' h k rfl z)
    exact ⟨a1, by rw [upd_ne hb]; exact a2, a3.mono le rfl⟩
theorem sim_v (i : Nat) : SimE P E (tVar i) (fV i) := fun G0 Z pa G ad σ H e S Q q => by
  unfold fV at q
  split at q
  · rename_i d h
    obtain ⟨v, h1, h2⟩ := S.dat i d h
    exact ⟨v, h1, Post.out S q h2⟩
  · rename_i xs h
    obtain ⟨G', S', h1, h2⟩ := S.freeze h
    exact ⟨_, h1, q _ G' ad H S' h2⟩
  · exact q.elim
/-- a value of the module that is data -/
theorem sim_glob {v : V} {d : PyData} (h : ∀ G, DP P.K G v d) : SimE P E (tC v) (fC d) := sim_c h

/-! ### operators -/
def VOp (P : Par) (r : R2) (g : PyData → PyData → Option PyData) : Prop := ∀ {E : XK} {G0 Z : Hp} {pa : Nat → Addr} {G : Hp} {ad : Nat → Addr} {σ : L2.St} {H : Hp} {e : Sl} {x y : V} {a b : PyData}, Sat P G0 Z pa G ad σ H e →
  DP P.K G x a → DP P.K G y b → ∀ Q : VK, Post P E G Z pa σ (DP P.K) Q (R.opt (g a b) e) → r x y H Q
def fOp (g : PyData → PyData → Option PyData) (fa fb : FE) : FE := fun e => (fa e).bind fun a e1 => (fb e1).bind fun b e2 => R.opt (g a b) e2
theorem sim_op {r : R2} {g : PyData → PyData → Option PyData} {ta tb : TE} {fa fb : FE} (hr : VOp P r g) (ha : SimE P E ta fa) (hb : SimE P E tb fb) : SimE P E (tOp r ta tb) (fOp g fa fb) := fun G0 Z pa G ad σ H e S Q h =>
  ha.bind S h fun x a e1 G1 ad1 H1 S1 hx h1 => hb.bind S1 h1 fun y b e2 G2 ad2 H2 S2 hy h2 => hr S2 (hx.mono S2.g0) hy Q h2
def VUn (P : Par) (r : V → Hp → VK → Prop) (g : PyData → Option PyData) : Prop := ∀ {E : XK} {G0 Z : Hp} {pa : Nat → Addr} {G : Hp} {ad : Nat → Addr} {σ : L2.St} {H : Hp} {e : Sl} {x : V} {a : PyData}, Sat P G0 Z pa G ad σ H e →
  DP P.K G x a → ∀ Q : VK, Post P E G Z pa σ (DP P.K) Q (R.opt (g a) e) → r x H Q
def fUn (g : PyData → Option PyData) (fa : FE) : FE := fun e => (fa e).bind fun a e1 => R.opt (g a) e1
theorem sim_un {r : V → Hp → VK → Prop} {g : PyData → Option PyData} {ta : TE} {fa : FE} (hr : VUn P r g) (ha : SimE P E ta fa) : SimE P E (tUn r ta) (fUn g fa) := fun G0 Z pa G ad σ H e S Q h =>
  ha.bind S h fun x a e1 G1 ad1 H1 S1 hx h1 => hr S1 hx Q h1

def gAdd : PyData → PyData → Option PyData
  | .int i, .int j => some (.int (i + j))
  | .str x, .str y => if x.length + y.length ≤ sizeLine then some (.str (x ++ y)) else none
  | .tuple xs, .tuple ys => if xs.length + ys.length ≤ sizeLine then some (.tuple (xs ++ ys)) else none
  | .list xs, .list ys => if xs.length + ys.length ≤ sizeLine then some (.list (xs ++ ys)) else none
  | _, _ => none
abbrev rAddAll (K : PySem.W.Frag) : R2 := fun x y H Q => rI0 (fun i j => .int (i + j)) x y H Q ∨ ((∃ i j, x = .str i ∧ y = .str j ∧ i.length + j.length ≤ sizeLine ∧ Q (.str (i ++ j)) H) ∨ (rCatA K x y H Q ∨ rCat x y H Q))
theorem op_addAll {X : Cx} : OpR X (binaryOp .Add) (rAddAll X.K) := op_add.or (op_add_str.or (op_catA.or op_cat))
theorem v_add : VOp P (rAddAll P.K) gAdd := fun {E G0 Z pa G ad σ H e x y a b} S hx hy Q h => by
  cases hx with
  | int i =>
    cases hy with
    | int j => exact .inl ⟨i, j, rfl, rfl, Post.out S h (.int _)⟩
    | _ => exact h.elim
  | str x =>
    cases hy with
    | str y =>
      simp only [gAdd] at h
      split at h
      · rename_i c
        exact .inr (.inl ⟨x, y, rfl, rfl, c, Post.out S h (.str _)⟩)
      · exact h.elim
    | _ => exact h.elim
  | tup h1 r1 =>
    cases hy with
    | tup h2 r2 =>
      simp only [gAdd] at h
      split at h
      · rename_i c
        refine .inr (.inr (.inl ⟨_, _, _, _, rfl, rfl, S.sub.sqT h1.sqT, S.sub.sqT h2.sqT, by rw [r1.length, r2.length]; exact c, fun z => ?_, fun n z => ?_, fun n1 n2 p hp => Post.newT S h (r1.append r2) hp⟩))
        · subst z
          cases r1
          exact Post.out S h (.tup h2 r2)
        · subst z
          cases r2
          rw [List.append_nil] at h
          exact Post.out S h (.tup h1 r1)
      · exact h.elim
    | _ => exact h.elim
  | lst h1 r1 =>
    cases hy with
    | lst h2 r2 =>
      simp only [gAdd] at h
      split at h
      · rename_i c
        exact .inr (.inr (.inr ⟨_, _, _, _, rfl, rfl, S.sub _ _ h1, S.sub _ _ h2, by rw [r1.length, r2.length]; exact c, fun p hp => Post.newL S h (r1.append r2) hp⟩))
      · exact h.elim
    | _ => exact h.elim
  | _ => exact h.elim
/-- an operator of two ints -/
def gII (C : Int → Int → Prop) [∀ i j, Decidable (C i j)] (g : Int → Int → PyData) : PyData → PyData → Option PyData
  | .int i, .int j => if C i j then some (g i j) else none
  | _, _ => none
theorem v_ii {C : Int → Int → Prop} [∀ i j, Decidable (C i j)] {r : R2} {g : Int → Int → PyData} (hr : ∀ (i j : Int) (H : Hp) (Q : VK), C i j → (∀ v, (∀ G, DP P.K G v (g i j)) → Q v H) → r (.int i) (.int j) H Q) : VOp P r (gII C g) := fun {E G0 Z pa G ad σ H e x y a b} S hx hy Q h => by
  cases hx with
  | int i =>
    cases hy with
    | int j =>
      simp only [gII] at h
      split at h
      · rename_i c
        exact hr i j H Q c fun v hv => Post.out S h (hv G)
      · exact h.elim
    | _ => exact h.elim
  | _ => cases hy <;> exact h.elim
def gDif : PyData → PyData → Option PyData
  | .int i, .int j => some (.int (i - j))
  | _, _ => none
abbrev rSubI : R2 := rI0 fun i j => .int (i - j)
theorem v_sub : VOp P rSubI gDif := fun {E G0 Z pa G ad σ H e x y a b} S hx hy Q h => by
  cases hx with
  | int i =>
    cases hy with
    | int j => exact ⟨i, j, rfl, rfl, Post.out S h (.int _)⟩
    | _ => exact h.elim
  | _ => cases hy <;> exact h.elim
abbrev CMulB (i j : Int) : Prop := ((-(2 ^ 64) < i ∧ i < 2 ^ 64) ∨ (-(2 ^ 64) < j ∧ j < 2 ^ 64)) ∨ i.natAbs.log2 + j.natAbs.log2 < 1000000
/-- (as a Bool whose evaluation by the kernel sticks at once where a number is not known) -/
def mulB (i j : Int) : Bool := Nat.ble i.natAbs 10000000000000000000 || (Nat.ble j.natAbs 10000000000000000000 || decide (i.natAbs.log2 + j.natAbs.log2 < 1000000))
theorem mulB_to {i j : Int} (h : mulB i j = true) : CMulB i j := by
  unfold mulB at h
  rw [Bool.or_eq_true, Bool.or_eq_true, decide_eq_true_eq] at h
  rcases h with h | h | h
  · have := Nat.le_of_ble_eq_true h
    exact .inl (.inl (by omega))
  · have := Nat.le_of_ble_eq_true h
    exact .inl (.inr (by omega))
  · exact .inr h
def gMul : PyData → PyData → Option PyData
  | .int i, .int j => if mulB i j = true then some (.int (i * j)) else none
  | .list xs, .int k => if (Nat.ble k.natAbs 9000000000000000000 && Nat.ble (xs.length * k.toNat) sizeLine) = true then some (.list (List.replicate k.toNat xs).flatten) else none
  | .tuple xs, .int k => if xs ≠ [] ∧ 2 ≤ k ∧ k ≤ 1000 ∧ xs.length ≤ 1000 then some (.tuple (List.replicate k.toNat xs).flatten) else none
  | _, _ => none
abbrev rMulAll (K : PySem.W.Frag) : R2 := fun x y H Q => (rI CMul (fun i j => .int (i * j)) x y H Q ∨ rI CMulW (fun i j => .int (i * j)) x y H Q) ∨ (rRep x y H Q ∨ rRepT K x y H Q)
theorem op_mulAll {X : Cx} : OpR X (binaryOp .Mult) (rMulAll X.K) := (op_mul.or op_mulW).or (op_rep.or op_repT)
theorem DPs.rep {K : PySem.W.Frag} {G : Hp} {vs : List V} {ds : List PyData} (h : DPs K G vs ds) : ∀ n : Nat, DPs K G (List.replicate n vs).flatten (List.replicate n ds).flatten
  | 0 => .nil
  | n + 1 => by
    rw [List.replicate_succ, List.replicate_succ, List.flatten_cons, List.flatten_cons]
    exact h.append (DPs.rep h n)
theorem DPs.nil_iff {K : PySem.W.Frag} {G : Hp} {vs : List V} {ds : List PyData} (h : DPs K G vs ds) : vs = [] → ds = [] := fun e => by
  subst e
  cases h
  rfl
theorem v_mul : VOp P (rMulAll P.K) gMul := fun {E G0 Z pa G ad σ H e x y a b} S hx hy Q h => by
  cases hx with
  | int i =>
    cases hy with
    | int j =>
      simp only [gMul] at h
      split at h
      · rename_i c
        have c := mulB_to c
        rcases c with c | c
        · exact .inl (.inl ⟨i, j, rfl, rfl, c, Post.out S h (.int _)⟩)
        · exact .inl (.inr ⟨i, j, rfl, rfl, c, Post.out S h (.int _)⟩)
      · exact h.elim
    | _ => exact h.elim
  | lst h1 r1 =>
    cases hy with
    | int k =>
      simp only [gMul] at h
      split at h
      · rename_i c
        rw [Bool.and_eq_true] at c
        have c0 := Nat.le_of_ble_eq_true c.1
        have c3 := Nat.le_of_ble_eq_true c.2
        have c1 : -(2 ^ 63) ≤ k := by omega
        have c2 : k < 2 ^ 63 := by omega
        exact .inr (.inl ⟨_, k, _, rfl, rfl, S.sub _ _ h1, c1, c2, by rw [r1.length]; exact c3, fun p hp => Post.newL S h (r1.rep _) hp⟩)
      · exact h.elim
    | _ => exact h.elim
  | tup h1 r1 =>
    cases hy with
    | int k =>
      simp only [gMul] at h
      split at h
      · rename_i c
        obtain ⟨c0, c1, c2, c3⟩ := c
        exact .inr (.inr ⟨_, k, _, rfl, rfl, S.sub.sqT h1.sqT, fun z => c0 (r1.nil_iff z), c1, c2, by rw [r1.length]; exact c3, fun p hp => Post.newT S h (r1.rep _) hp⟩)
      · exact h.elim
    | _ => exact h.elim
  | _ => cases hy <;> exact h.elim
abbrev CDivB (j : Int) : Prop := j ≠ 0 ∧ j.natAbs < 1073741824
def gDiv : PyData → PyData → Option PyData
  | .int i, .int j => if CDivB j then some (.int (i.fdiv j)) else if 0 < j ∧ j.natAbs.log2 < 9000 then some (.int (i / j)) else none
  | _, _ => none
abbrev rDivAll : R2 := fun x y H Q => rI CDivN (fun i j => .int (i.fdiv j)) x y H Q ∨ rI CDivW (fun i j => .int (i / j)) x y H Q
theorem op_divAll {X : Cx} : OpR X (binaryOp .FloorDiv) rDivAll := op_fdivN.or op_fdivW
theorem v_div : VOp P rDivAll gDiv := fun {E G0 Z pa G ad σ H e x y a b} S hx hy Q h => by
  cases hx with
  | int i =>
    cases hy with
    | int j =>
      simp only [gDiv] at h
      split at h
      · rename_i c
        exact .inl ⟨i, j, rfl, rfl, c, Post.out S h (.int _)⟩
      · split at h
        · rename_i c
          exact .inr ⟨i, j, rfl, rfl, c, Post.out S h (.int _)⟩
        · exact h.elim
    | _ => exact h.elim
  | _ => cases hy <;> exact h.elim
def gMod : PyData → PyData → Option PyData
  | .int i, .int j => if j ≠ 0 then some (.int (i.fmod j)) else none
  | _, _ => none
abbrev rModN : R2 := rI (fun _ j => j ≠ 0) fun i j => .int (i.fmod j)
theorem v_mod : VOp P rModN gMod := fun {E G0 Z pa G ad σ H e x y a b} S hx hy Q h => by
  cases hx with
  | int i =>
    cases hy with
    | int j =>
      simp only [gMod] at h
      split at h
      · rename_i c
        exact ⟨i, j, rfl, rfl, c, Post.out S h (.int _)⟩
      · exact h.elim
    | _ => exact h.elim
  | _ => cases hy <;> exact h.elim
def gPow : PyData → PyData → Option PyData
  | .int i, .int j => if 0 ≤ j ∧ j ≤ 1000000 ∧ i.natAbs < 2 ^ 64 then some (.int (i ^ j.toNat)) else none
  | _, _ => none
abbrev rPowI : R2 := rI CPow fun i j => .int (i ^ j.toNat)
theorem v_pow : VOp P rPowI gPow := fun {E G0 Z pa G ad σ H e x y a b} S hx hy Q h => by
  cases hx with
  | int i =>
    cases hy with
    | int j =>
      simp only [gPow] at h
      split at h
      · rename_i c
        exact ⟨i, j, rfl, rfl, c, Post.out S h (.int _)⟩
      · exact h.elim
    | _ => exact h.elim
  | _ => cases hy <;> exact h.elim
/-- a comparison of two ints -/
def gCmp (p : Int → Int → Bool) : PyData → PyData → Option PyData
  | .int i, .int j => some (.bool (p i j))
  | _, _ => none
theorem v_cmp {p : Int → Int → Bool} : VOp P (rI0 fun i j => .bl (p i j)) (gCmp p) := fun {E G0 Z pa G ad σ H e x y a b} S hx hy Q h => by
  cases hx with
  | int i =>
    cases hy with
    | int j => exact ⟨i, j, rfl, rfl, Post.out S h (.bl _)⟩
    | _ => exact h.elim
  | _ => cases hy <;> exact h.elim
abbrev gLt := gCmp fun i j => decide (i < j)
abbrev gLe := gCmp fun i j => decide (i ≤ j)
abbrev gGt := gCmp fun i j => decide (j < i)
abbrev gGe := gCmp fun i j => decide (j ≤ i)
def gEq (a b : PyData) : Option PyData := if SeqAt.shaped a = true ∧ SeqAt.shaped b = true then some (.bool (PyData.eqv a b)) else none
def gNe (a b : PyData) : Option PyData := if SeqAt.shaped a = true ∧ SeqAt.shaped b = true then some (.bool (!PyData.eqv a b)) else none
theorem v_eq : VOp P (rEqD P.K) gEq := fun {E G0 Z pa G ad σ H e x y a b} S hx hy Q h => by
  unfold gEq at h
  split at h
  · rename_i c
    exact ⟨a, b, hx.toDp S.sub, hy.toDp S.sub, c.1, c.2, Post.out S h (.bl _)⟩
  · exact h.elim
theorem v_ne : VOp P (rNeD P.K) gNe := fun {E G0 Z pa G ad σ H e x y a b} S hx hy Q h => by
  unfold gNe at h
  split at h
  · rename_i c
    exact ⟨a, b, hx.toDp S.sub, hy.toDp S.sub, c.1, c.2, Post.out S h (.bl _)⟩
  · exact h.elim
def isNone : PyData → Bool
  | .none => true
  | _ => false
def gIsN (a b : PyData) : Option PyData := if isNone b then some (.bool (isNone a)) else none
def gNotN (a b : PyData) : Option PyData := if isNone b then some (.bool (!isNone a)) else none
abbrev rIsNone : R2 := fun x y H Q => y = .non ∧ Q (.bl (decide (x = .non))) H
abbrev rNotNone : R2 := fun x y H Q => y = .non ∧ Q (.bl (!decide (x = .non))) H
theorem isNone_of {K : PySem.W.Frag} {G : Hp} {v : V} {d : PyData} (h : DP K G v d) : decide (v = .non) = isNone d := by
  cases h <;> rfl
theorem v_isN : VOp P rIsNone gIsN := fun {E G0 Z pa G ad σ H e x y a b} S hx hy Q h => by
  cases hy with
  | non =>
    refine ⟨rfl, ?_⟩
    rw [isNone_of hx]
    exact Post.out S h (.bl _)
  | _ => exact h.elim
theorem v_notN : VOp P rNotNone gNotN := fun {E G0 Z pa G ad σ H e x y a b} S hx hy Q h => by
  cases hy with
  | non =>
    refine ⟨rfl, ?_⟩
    rw [isNone_of hx]
    exact Post.out S h (.bl _)
  | _ => exact h.elim
end
end FL

set_option maxRecDepth 100000
set_option maxHeartbeats 1000000
/-! FL, tests, displays, subscripts, built-ins. -/
namespace FL
open PySem PySem.Spec PyProof.Rows L2
section
variable {P : Par} {E : XK}
/-! ### tests -/
def asB : PyData → Option Bool
  | .bool b => some b
  | _ => none
def fTst (f : FE) : FT := fun e => (f e).bind fun d e1 => R.opt (asB d) e1
theorem sim_tst {t : TE} {f : FE} (h : SimE P E t f) : SimT P E (tTest t) (fTst f) := fun G0 Z pa G ad σ H e S Q q =>
  h.bind S q fun x d e1 G1 ad1 H1 S1 hx h1 => by
    cases hx with
    | bl b => exact ⟨b, rfl, Post.outB S1 h1⟩
    | _ => exact h1.elim
theorem sim_tstB {t : TE} {f : FE} (h : SimE P E t f) : SimT P E (tB t) (fTst f) := sim_tst h
def fAndT (f g : FT) : FT := fun e => (f e).bind fun b e1 => if b then g e1 else .ok false e1
def fOrT (f g : FT) : FT := fun e => (f e).bind fun b e1 => if b then .ok true e1 else g e1
def fNotT (f : FT) : FT := fun e => (f e).bind fun b e1 => .ok (!b) e1
theorem sim_andT {t u : TT} {f g : FT} (ht : SimT P E t f) (hu : SimT P E u g) : SimT P E (tAnd t u) (fAndT f g) := fun G0 Z pa G ad σ H e S Q q =>
  ht.bind S q fun b c e1 G1 ad1 H1 S1 hx h1 => by
    subst hx
    cases b with
    | true => exact hu _ _ _ _ _ _ _ _ S1 Q h1
    | false => exact Post.outB S1 h1
theorem sim_orT {t u : TT} {f g : FT} (ht : SimT P E t f) (hu : SimT P E u g) : SimT P E (tOr t u) (fOrT f g) := fun G0 Z pa G ad σ H e S Q q =>
  ht.bind S q fun b c e1 G1 ad1 H1 S1 hx h1 => by
    subst hx
    cases b with
    | true => exact Post.outB S1 h1
    | false => exact hu _ _ _ _ _ _ _ _ S1 Q h1
theorem sim_notT {t : TT} {f : FT} (ht : SimT P E t f) : SimT P E (tNot t) (fNotT f) := fun G0 Z pa G ad σ H e S Q q =>
  ht.bind S q fun b c e1 G1 ad1 H1 S1 hx h1 => by
    subst hx
    exact Post.outB S1 h1
def fYes : FT := fun e => .ok true e
theorem sim_yes : SimT P E tYes fYes := fun G0 Z pa G ad σ H e S Q q => Post.outB S q
/-- and, or, not as values (all True or False but the last) -/
def fAndV (f g : FE) : FE := fun e => (f e).bind fun d e1 => match asB d with
  | some true => g e1
  | some false => .ok (.bool false) e1
  | none => .bad
def fOrV (f g : FE) : FE := fun e => (f e).bind fun d e1 => match asB d with
  | some true => .ok (.bool true) e1
  | some false => g e1
  | none => .bad
def fNotV (f : FE) : FE := fun e => (f e).bind fun d e1 => R.opt ((asB d).map fun b => .bool (!b)) e1
theorem sim_andV {t u : TE} {f g : FE} (ht : SimE P E t f) (hu : SimE P E u g) : SimE P E (tAndV t u) (fAndV f g) := fun G0 Z pa G ad σ H e S Q q =>
  ht.bind S q fun x d e1 G1 ad1 H1 S1 hx h1 => by
    cases hx with
    | bl b =>
      refine ⟨b, rfl, ?_⟩
      cases b with
      | true => exact hu _ _ _ _ _ _ _ _ S1 Q h1
      | false => exact Post.out S1 h1 (.bl _)
    | _ => exact h1.elim
theorem sim_orV {t u : TE} {f g : FE} (ht : SimE P E t f) (hu : SimE P E u g) : SimE P E (tOrV t u) (fOrV f g) := fun G0 Z pa G ad σ H e S Q q =>
  ht.bind S q fun x d e1 G1 ad1 H1 S1 hx h1 => by
    cases hx with
    | bl b =>
      refine ⟨b, rfl, ?_⟩
      cases b with
      | true => exact Post.out S1 h1 (.bl _)
      | false => exact hu _ _ _ _ _ _ _ _ S1 Q h1
    | _ => exact h1.elim
theorem sim_notV {t : TE} {f : FE} (ht : SimE P E t f) : SimE P E (tNotV t) (fNotV f) := fun G0 Z pa G ad σ H e S Q q =>
  ht.bind S q fun x d e1 G1 ad1 H1 S1 hx h1 => by
    cases hx with
    | bl b => exact ⟨b, rfl, Post.out S1 h1 (.bl _)⟩
    | _ => exact h1.elim
/-- a if c else b -/
def fIf (c : FT) (f g : FE) : FE := fun e => (c e).bind fun b e1 => if b then f e1 else g e1
theorem sim_if {c : TT} {t u : TE} {fc : FT} {f g : FE} (hc : SimT P E c fc) (ht : SimE P E t f) (hu : SimE P E u g) : SimE P E (tIf c t u) (fIf fc f g) := fun G0 Z pa G ad σ H e S Q q =>
  hc.bind S q fun b c e1 G1 ad1 H1 S1 hx h1 => by
    subst hx
    cases b with
    | true => exact ht _ _ _ _ _ _ _ _ S1 Q h1
    | false => exact hu _ _ _ _ _ _ _ _ S1 Q h1
/-- a < b < c -/
def fChain (g g' : PyData → PyData → Option PyData) (fa fb fc : FE) : FE := fun e => (fa e).bind fun a e1 => (fb e1).bind fun b e2 => match (g a b).bind asB with
  | some true => (fc e2).bind fun c e3 => R.opt (g' b c) e3
  | some false => .ok (.bool false) e2
  | none => .bad
theorem sim_chain {r r' : R2} {g g' : PyData → PyData → Option PyData} {ta tb tc : TE} {fa fb fc : FE} (hr : VOp P r g) (hr' : VOp P r' g') (ha : SimE P E ta fa) (hb : SimE P E tb fb) (hc : SimE P E tc fc) : SimE P E (tChain r r' ta tb tc) (fChain g g' fa fb fc) := fun G0 Z pa G ad σ H e S Q h =>
  ha.bind S h fun x a e1 G1 ad1 H1 S1 hx h1 => hb.bind S1 h1 fun y b e2 G2 ad2 H2 S2 hy h2 => by
    have hx2 := hx.mono S2.g0
    cases q : g a b with
    | none =>
      rw [q] at h2
      exact h2.elim
    | some z =>
      rw [q] at h2
      refine hr (E := fun _ _ _ => False) S2 hx2 hy _ ?_
      rw [q]
      intro v G3 ad3 H3 S3 hv
      cases hv with
      | bl k =>
        refine ⟨k, rfl, ?_⟩
        cases k with
        | true =>
          show tc σ H3 _
          exact hc.bind S3 (Post.mono h2 S3.g0) fun w c e4 G4 ad4 H4 S4 hw h4 => hr' S4 ((hy.mono S3.g0).mono S4.g0) hw Q h4
        | false => exact Post.out S3 (Post.mono h2 S3.g0) (.bl _)
      | _ => exact h2.elim

/-! ### arguments, displays -/
def fNil : FA := fun e => .ok [] e
def fCons (f : FE) (g : FA) : FA := fun e => (f e).bind fun d e1 => (g e1).bind fun ds e2 => .ok (d :: ds) e2
theorem sim_nil : SimA P E tNil fNil := fun G0 Z pa G ad σ H e S Q q => q [] G ad H S.self .nil
theorem sim_cons {t : TE} {u : TA} {f : FE} {g : FA} (ht : SimE P E t f) (hu : SimA P E u g) : SimA P E (tCons t u) (fCons f g) := fun G0 Z pa G ad σ H e S Q q =>
  ht.bind S q fun x d e1 G1 ad1 H1 S1 hx h1 => hu.bind S1 h1 fun xs ds e2 G2 ad2 H2 S2 hxs h2 => h2 _ G2 ad2 H2 S2.self (.cons (hx.mono S2.g0) hxs)
def gTupD (ds : List PyData) : Option PyData := if ds.length ≤ sizeLine then some (.tuple ds) else none
def fTup (f : FA) : FE := fun e => (f e).bind fun ds e1 => R.opt (gTupD ds) e1
theorem sim_tup {t : TA} {f : FA} (h : SimA P E t f) : SimE P E (tTup t) (fTup f) := fun G0 Z pa G ad σ H e S Q q =>
  h.bind S q fun xs ds e1 G1 ad1 H1 S1 hx h1 => by
    unfold gTupD at h1
    split at h1
    · rename_i c
      exact ⟨by rw [hx.length]; exact c, fun p hp => Post.newT S1 h1 hx hp⟩
    · exact h1.elim
/-- an expression that makes a new list -/
def PostF (P : Par) (E : XK) (G Z : Hp) (pa : Nat → Addr) (σ : L2.St) (Q : VK) : R (List PyData) → Prop
  | .ok ds e' => ∀ vs G' ad' H' p, Sat P G Z pa G' ad' σ H' e' → DPs P.K G' vs ds → H' p = none → Q (.ref p) (upd H' p (.lst vs))
  | .ex x e' => ∀ cls dd G' ad' H', Sat P G Z pa G' ad' σ H' e' → P.EX x cls dd H' → E cls dd H'
  | .bad => False
theorem PostF.mono {G G1 Z : Hp} {pa : Nat → Addr} {σ : L2.St} {Q : VK} {r : R (List PyData)} (h : PostF P E G Z pa σ Q r) (l : Le G G1) : PostF P E G1 Z pa σ Q r := by
  cases r with
  | ok d e' => exact fun vs G' ad' H' p S q => h vs G' ad' H' p (S.base l) q
  | ex x e' => exact fun cls dd G' ad' H' S q => h cls dd G' ad' H' (S.base l) q
  | bad => exact h
def SimF (P : Par) (E : XK) (t : TE) (f : FA) : Prop := ∀ (G0 Z : Hp) (pa : Nat → Addr) (G : Hp) (ad : Nat → Addr) (σ : L2.St) (H : Hp) (e : Sl), Sat P G0 Z pa G ad σ H e → ∀ Q : VK, PostF P E G Z pa σ Q (f e) → t σ H Q
/-- .. behind a first piece -/
theorem Sim.bindF {α β : Type} {G0 G Z : Hp} {pa ad : Nat → Addr} {σ : L2.St} {H : Hp} {e : Sl} {Rel : Hp → β → α → Prop} {t : L2.St → Hp → (β → Hp → Prop) → Prop} {f : Sl → R α} {k : α → Sl → R (List PyData)} {Q : VK} {Qa : β → Hp → Prop}
    (ha : Sim P E Rel t f) (S : Sat P G0 Z pa G ad σ H e) (h : PostF P E G Z pa σ Q ((f e).bind k))
    (c : ∀ v d e' G' ad' H', Sat P G Z pa G' ad' σ H' e' → Rel G' v d → PostF P E G' Z pa σ Q (k d e') → Qa v H') : t σ H Qa := by
  refine ha _ _ _ _ _ _ _ _ S Qa ?_
  cases q : f e with
  | ok d e' =>
    rw [q] at h
    exact fun v G' ad' H' S' r => c v d e' G' ad' H' S' r (PostF.mono h S'.g0)
  | ex x e' =>
    rw [q] at h
    exact h
  | bad =>
    rw [q] at h
    exact h
def fL (f : FA) : FE := fun e => (f e).bind fun ds e1 => .ok (.list ds) e1
theorem sim_L {t : TE} {f : FA} (h : SimF P E t f) : SimE P E t (fL f) := fun G0 Z pa G ad σ H e S Q q => by
  refine h _ _ _ _ _ _ _ _ S Q ?_
  unfold fL at q
  cases c : f e with
  | ok ds e' =>
    rw [c] at q
    exact fun vs G' ad' H' p S' hd hp => Post.newL S' (Post.mono q S'.g0) hd hp
  | ex x e' =>
    rw [c] at q
    exact q
  | bad =>
    rw [c] at q
    exact q
def fLst (f : FA) : FA := fun e => (f e).bind fun ds e1 => if ds.length ≤ sizeLine then .ok ds e1 else .bad
theorem sim_lst {t : TA} {f : FA} (h : SimA P E t f) : SimF P E (tLst t) (fLst f) := fun G0 Z pa G ad σ H e S Q q =>
  h.bindF S q fun vs ds e1 G1 ad1 H1 S1 hd h1 => by
    split at h1
    · rename_i z
      exact ⟨by rw [hd.length]; exact z, fun p hp => h1 vs G1 ad1 H1 p S1.self hd hp⟩
    · exact h1.elim

/-! ### in -/
def flatD : PyData → Bool
  | .none => true
  | .bool _ => true
  | .int _ => true
  | .str _ => true
  | _ => false
theorem DP.flat {K : PySem.W.Frag} {G : Hp} {v : V} {d : PyData} (h : DP K G v d) : flatV v = flatD d := by cases h <;> rfl
theorem DPs.flat {K : PySem.W.Frag} {G : Hp} : ∀ {vs : List V} {ds : List PyData}, DPs K G vs ds → vs.all flatV = ds.all flatD
  | _, _, .nil => rfl
  | _, _, .cons h r => by rw [List.all_cons, List.all_cons, h.flat, r.flat]
theorem DP.eqv {K : PySem.W.Frag} {G : Hp} {v w : V} {d c : PyData} (h : DP K G v d) (h' : DP K G w c) (f : flatD d = true) (f' : flatD c = true) : eqV v w = PyData.eqv d c := by
  cases h <;> cases h' <;> first | rfl | cases f | cases f' | (simp only [eqV, PyData.eqv])
theorem DPs.inV {K : PySem.W.Frag} {G : Hp} {v : V} {d : PyData} (h : DP K G v d) (f : flatD d = true) : ∀ {vs : List V} {ds : List PyData}, DPs K G vs ds → ds.all flatD = true → L2.inV v vs = ds.any fun z => PyData.eqv z d
  | _, _, .nil, _ => rfl
  | _, _, .cons q r, c => by
    rw [List.all_cons, Bool.and_eq_true] at c
    show (eqV _ v || L2.inV v _) = _
    rw [List.any_cons, q.eqv h c.1 f, DPs.inV h f r c.2]
def gIn (neg : Bool) (a : PyData) : PyData → Option PyData
  | .list ds => if flatD a = true ∧ ds.all flatD = true then some (.bool (if neg then !ds.any (fun z => PyData.eqv z a) else ds.any fun z => PyData.eqv z a)) else none
  | .tuple ds => if flatD a = true ∧ ds.all flatD = true then some (.bool (if neg then !ds.any (fun z => PyData.eqv z a) else ds.any fun z => PyData.eqv z a)) else none
  | .str j => match a with
    | .str i => some (.bool (if neg then !(!(Builtin.Str.occurrences j i 0 j.length 1).isEmpty) else !(Builtin.Str.occurrences j i 0 j.length 1).isEmpty))
    | _ => none
  | _ => none
abbrev rInAll (K : PySem.W.Frag) : R2 := fun x y H Q => rIn K false x y H Q ∨ ∃ i j, x = .str i ∧ y = .str j ∧ Q (.bl (!(Builtin.Str.occurrences j i 0 j.length 1).isEmpty)) H
abbrev rNotInAll (K : PySem.W.Frag) : R2 := fun x y H Q => rIn K true x y H Q ∨ ∃ i j, x = .str i ∧ y = .str j ∧ Q (.bl (!(!(Builtin.Str.occurrences j i 0 j.length 1).isEmpty))) H
theorem op_inAll {X : Cx} : OpR X (compareOp .In) (rInAll X.K) := op_in_seq.or op_in_str
theorem op_notInAll {X : Cx} : OpR X (compareOp .NotIn) (rNotInAll X.K) := op_notIn_seq.or op_notin_str
theorem v_in : VOp P (rInAll P.K) (gIn false) := fun {E G0 Z pa G ad σ H e x y a b} S hx hy Q h => by
  cases hy with
  | lst h1 r1 =>
    simp only [gIn] at h
    split at h
    · rename_i c
      refine .inl ⟨_, _, rfl, .inl (SqL.of (S.sub _ _ h1)), by rw [hx.flat]; exact c.1, by rw [r1.flat]; exact c.2, ?_⟩
      rw [if_neg Bool.false_ne_true, r1.inV hx c.1 c.2]
      exact Post.out S h (.bl _)
    · exact h.elim
  | tup h1 r1 =>
    simp only [gIn] at h
    split at h
    · rename_i c
      refine .inl ⟨_, _, rfl, .inr (S.sub.sqT h1.sqT), by rw [hx.flat]; exact c.1, by rw [r1.flat]; exact c.2, ?_⟩
      rw [if_neg Bool.false_ne_true, r1.inV hx c.1 c.2]
      exact Post.out S h (.bl _)
    · exact h.elim
  | str j =>
    cases hx with
    | str i => exact .inr ⟨i, j, rfl, rfl, Post.out S h (.bl _)⟩
    | _ => exact h.elim
  | _ => exact h.elim
theorem v_notIn : VOp P (rNotInAll P.K) (gIn true) := fun {E G0 Z pa G ad σ H e x y a b} S hx hy Q h => by
  cases hy with
  | lst h1 r1 =>
    simp only [gIn] at h
    split at h
    · rename_i c
      refine .inl ⟨_, _, rfl, .inl (SqL.of (S.sub _ _ h1)), by rw [hx.flat]; exact c.1, by rw [r1.flat]; exact c.2, ?_⟩
      rw [if_pos rfl, r1.inV hx c.1 c.2]
      exact Post.out S h (.bl _)
    · exact h.elim
  | tup h1 r1 =>
    simp only [gIn] at h
    split at h
    · rename_i c
      refine .inl ⟨_, _, rfl, .inr (S.sub.sqT h1.sqT), by rw [hx.flat]; exact c.1, by rw [r1.flat]; exact c.2, ?_⟩
      rw [if_pos rfl, r1.inV hx c.1 c.2]
      exact Post.out S h (.bl _)
    · exact h.elim
  | str j =>
    cases hx with
    | str i => exact .inr ⟨i, j, rfl, rfl, Post.out S h (.bl _)⟩
    | _ => exact h.elim
  | _ => exact h.elim

/-! ### subscripts -/
def gIx (a b : PyData) : Option PyData := match a, b with
  | .list ds, .int i => atI ds i
  | .tuple ds, .int i => atI ds i
  | .str z, .int i => if z.length ≤ sizeLine then (atI z.cps.toList i).map fun c => .str ⟨#[c]⟩ else none
  | _, _ => none
theorem DPs.atI {K : PySem.W.Frag} {G : Hp} {vs : List V} {ds : List PyData} {i : Int} {d : PyData} (h : DPs K G vs ds) (e : L2.atI ds i = some d) : ∃ v, L2.atI vs i = some v ∧ DP K G v d := by
  unfold L2.atI at e ⊢
  rw [← h.length] at e
  cases q : ixN vs.length i with
  | none =>
    rw [q] at e
    cases e
  | some j =>
    rw [q] at e
    obtain ⟨v, h1, h2⟩ := h.get (i := j) e
    exact ⟨v, h1, h2⟩
theorem Post.opt {α β : Type} {E : XK} {G Z : Hp} {pa : Nat → Addr} {σ : L2.St} {Rel : Hp → β → α → Prop} {Q : β → Hp → Prop} {o : Option α} {e : Sl} (h : Post P E G Z pa σ Rel Q (R.opt o e)) : ∃ d, o = some d ∧ Post P E G Z pa σ Rel Q (.ok d e) := by
  cases o with
  | none => exact h.elim
  | some d => exact ⟨d, rfl, h⟩
theorem v_ix : VOp P (rIx P.K) gIx := fun {E G0 Z pa G ad σ H e x y a b} S hx hy Q h => by
  obtain ⟨d, ed, hh⟩ := Post.opt h
  clear h
  have h := hh
  clear hh
  cases hy with
  | int i =>
    cases hx with
    | lst h1 r1 =>
      obtain ⟨v, q1, q2⟩ := r1.atI (show atI _ i = some d from ed)
      exact .inl ⟨_, _, i, v, rfl, rfl, SqL.of (S.sub _ _ h1), q1, Post.out S h q2⟩
    | tup h1 r1 =>
      obtain ⟨v, q1, q2⟩ := r1.atI (show atI _ i = some d from ed)
      exact .inr (.inl ⟨_, _, i, v, rfl, rfl, S.sub.sqT h1.sqT, q1, Post.out S h q2⟩)
    | str z =>
      simp only [gIx] at ed
      split at ed
      · rename_i c
        cases q : atI z.cps.toList i with
        | none =>
          rw [q] at ed
          cases ed
        | some u =>
          rw [q] at ed
          cases ed
          exact .inr (.inr ⟨z, i, u, rfl, rfl, c, q, Post.out S h (.str _)⟩)
      · cases ed
    | _ => cases ed
  | _ => cases hx <;> cases ed
/-- x[i], x a name whose list may be the frame's own -/
def fIxV (i : Nat) (fb : FE) : FE := fun e => match e[i]? with
  | some (.dat d) => (fb e).bind fun b e1 => R.opt (gIx d b) e1
  | some (.lst _ _) => (fb e).bind fun b e1 => match e1[i]? with
    | some (.lst _ xs) => R.opt (gIx (.list xs) b) e1
    | _ => .bad
  | _ => .bad
theorem Sat.ownL {G0 Z : Hp} {pa : Nat → Addr} {G : Hp} {ad : Nat → Addr} {σ : L2.St} {H : Hp} {e : Sl} {i : Nat} {p : Bool} {xs : List PyData} (S : Sat P G0 Z pa G ad σ H e) (h : e[i]? = some (.lst p xs)) :
    σ[i]? = some (some (.ref (ad i))) ∧ ∃ vs, H (ad i) = some (.lst vs) ∧ DPs P.K G vs xs := by
  obtain ⟨h1, h2, vs, h3, h4⟩ := S.own i _ h rfl
  exact ⟨h1, vs, h3, h4⟩
theorem same_ref {σ : L2.St} {i : Nat} {a b : Addr} (h : σ[i]? = some (some (V.ref a))) (h' : σ[i]? = some (some (V.ref b))) : a = b := by
  rw [h] at h'
  cases h'
  rfl
theorem sim_ixV {i : Nat} {tb : TE} {fb : FE} (hb : SimE P E tb fb) : SimE P E (tOp (rIx P.K) (tVar i) tb) (fIxV i fb) := fun G0 Z pa G ad σ H e S Q h => by
  unfold fIxV at h
  split at h
  · rename_i d hd
    obtain ⟨v, h1, h2⟩ := S.dat i d hd
    exact ⟨v, h1, hb.bind S h fun y b e1 G1 ad1 H1 S1 hy h1 => v_ix S1 (h2.mono S1.g0) hy Q h1⟩
  · rename_i p xs hd
    obtain ⟨h1, vs, h2, h3⟩ := S.ownL hd
    refine ⟨_, h1, hb.bind S h fun y b e1 G1 ad1 H1 S1 hy h4 => ?_⟩
    split at h4
    · rename_i p' ys hd'
      obtain ⟨g1, ws, g2, g3⟩ := S1.ownL hd'
      rw [same_ref h1 g1]
      obtain ⟨d, ed, h5⟩ := Post.opt h4
      cases hy with
      | int j =>
        obtain ⟨v, q1, q2⟩ := g3.atI (show atI _ j = some d from ed)
        exact .inl ⟨_, _, j, v, rfl, rfl, SqL.of g2, q1, Post.out S1 h5 q2⟩
      | _ => cases ed
    · exact h4.elim
  · exact h.elim

/-! ### slices -/
def cutD (xs : List PyData) (lo hi : Option Int) : List PyData := (xs.drop (HT.sIx xs.length 0 lo)).take (HT.sIx xs.length xs.length hi - HT.sIx xs.length 0 lo)
theorem DPs.cut {K : PySem.W.Frag} {G : Hp} {vs : List V} {ds : List PyData} (h : DPs K G vs ds) (lo hi : Option Int) : DPs K G (cutV vs lo hi) (cutD ds lo hi) := by
  unfold cutV cutD
  rw [h.length]
  exact (h.drop _).take _
abbrev FO := Sl → R (Option Int)
abbrev SimO (P : Par) (E : XK) (t : TO) (f : FO) : Prop := Sim P E (fun _ a b => a = b) t f
def fNo : FO := fun e => .ok none e
def asI : PyData → Option Int
  | .int i => some i
  | _ => none
def fPart (f : FE) : FO := fun e => (f e).bind fun d e1 => R.opt ((asI d).map some) e1
theorem sim_no : SimO P E tNoPart fNo := fun G0 Z pa G ad σ H e S Q q => q none G ad H S.self rfl
theorem sim_part {t : TE} {f : FE} (h : SimE P E t f) : SimO P E (tPart t) (fPart f) := fun G0 Z pa G ad σ H e S Q q =>
  h.bind S q fun x d e1 G1 ad1 H1 S1 hx h1 => by
    obtain ⟨o, eo, h2⟩ := Post.opt h1
    cases hx with
    | int i =>
      cases eo
      exact ⟨i, rfl, h2 _ G1 ad1 H1 S1.self rfl⟩
    | _ => cases eo
def gSl (a : PyData) (lo hi : Option Int) : Option PyData := match a with
  | .list ds => some (.list (cutD ds lo hi))
  | .tuple ds => some (.tuple (cutD ds lo hi))
  | .str z => if z.length ≤ sizeLine then some (.str (cutS z lo hi)) else none
  | _ => none
abbrev rSlAll (K : PySem.W.Frag) : V → Option Int → Option Int → Hp → VK → Prop := fun x lo hi H Q => rSlL K x lo hi H Q ∨ (rSlA K x lo hi H Q ∨ rSlS x lo hi H Q)
theorem sl_all {X : Cx} : SlR X (rSlAll X.K) := sl_list.or (sl_tupA.or sl_str)
theorem cut_whole {xs : List PyData} {lo hi : Option Int} (h : HT.sIx xs.length 0 lo = 0 ∧ HT.sIx xs.length xs.length hi = xs.length) : cutD xs lo hi = xs := by
  unfold cutD
  rw [h.1, h.2, List.drop_zero, Nat.sub_zero, List.take_length]
theorem v_sl {G0 Z : Hp} {pa : Nat → Addr} {G : Hp} {ad : Nat → Addr} {σ : L2.St} {H : Hp} {e : Sl} {x : V} {a : PyData} {lo hi : Option Int} (S : Sat P G0 Z pa G ad σ H e) (hx : DP P.K G x a) (Q : VK) (h : Post P E G Z pa σ (DP P.K) Q (R.opt (gSl a lo hi) e)) :
    rSlAll P.K x lo hi H Q := by
  obtain ⟨d, ed, hh⟩ := Post.opt h
  clear h
  have h := hh
  clear hh
  cases hx with
  | lst h1 r1 =>
    cases ed
    exact .inl ⟨_, _, rfl, SqL.of (S.sub _ _ h1), fun p hp => Post.newL S h (r1.cut lo hi) hp⟩
  | tup h1 r1 =>
    cases ed
    refine .inr (.inl ⟨_, _, rfl, S.sub.sqT h1.sqT, fun c => ?_, fun _ p hp => Post.newT S h (r1.cut lo hi) hp⟩)
    rw [r1.length] at c
    rw [cut_whole c] at h
    exact Post.out S h (.tup h1 r1)
  | str z =>
    simp only [gSl] at ed
    split at ed
    · rename_i c
      cases ed
      exact .inr (.inr ⟨z, rfl, c, Post.out S h (.str _)⟩)
    · cases ed
  | _ => cases ed
def fSl (f : FE) (fl fh : FO) : FE := fun e => (f e).bind fun a e1 => (fl e1).bind fun lo e2 => (fh e2).bind fun hi e3 => R.opt (gSl a lo hi) e3
theorem sim_sl {t : TE} {tl th : TO} {f : FE} {fl fh : FO} (ht : SimE P E t f) (hl : SimO P E tl fl) (hh : SimO P E th fh) : SimE P E (tSl (rSlAll P.K) t tl th) (fSl f fl fh) := fun G0 Z pa G ad σ H e S Q q =>
  ht.bind S q fun x a e1 G1 ad1 H1 S1 hx h1 => hl.bind S1 h1 fun lo lo' e2 G2 ad2 H2 S2 z2 h2 => hh.bind S2 h2 fun hi hi' e3 G3 ad3 H3 S3 z3 h3 => by
    subst z2
    subst z3
    exact v_sl S3 ((hx.mono S2.g0).mono S3.g0) Q h3

/-! ### calls of built-ins -/
def VCall (P : Par) (r : List V → Hp → VK → Prop) (g : List PyData → Option PyData) : Prop := ∀ {E : XK} {G0 Z : Hp} {pa : Nat → Addr} {G : Hp} {ad : Nat → Addr} {σ : L2.St} {H : Hp} {e : Sl} {xs : List V} {as : List PyData}, Sat P G0 Z pa G ad σ H e →
  DPs P.K G xs as → ∀ Q : VK, Post P E G Z pa σ (DP P.K) Q (R.opt (g as) e) → r xs H Q
def fCB (g : List PyData → Option PyData) (fa : FA) : FE := fun e => (fa e).bind fun as e1 => R.opt (g as) e1
theorem sim_cb {r : List V → Hp → VK → Prop} {g : List PyData → Option PyData} {t : TA} {f : FA} (hr : VCall P r g) (h : SimA P E t f) : SimE P E (tCB r t) (fCB g f) := fun G0 Z pa G ad σ H e S Q q =>
  h.bind S q fun xs as e1 G1 ad1 H1 S1 hx h1 => hr S1 hx Q h1
def gLen : List PyData → Option PyData
  | [.list ds] => some (.int ds.length)
  | [.tuple ds] => some (.int ds.length)
  | [.str z] => if z.length ≤ sizeLine then some (.int z.length) else none
  | _ => none
abbrev rLenA (K : PySem.W.Frag) : List V → Hp → VK → Prop := fun xs H Q => ∃ x n, xs = [x] ∧ LenV K x H n ∧ Q (.int n) H
theorem DPs.one {K : PySem.W.Frag} {G : Hp} {xs : List V} {d : PyData} (h : DPs K G xs [d]) : ∃ v, xs = [v] ∧ DP K G v d := by
  cases h with
  | cons h r =>
    cases r
    exact ⟨_, rfl, h⟩
theorem DPs.two {K : PySem.W.Frag} {G : Hp} {xs : List V} {d c : PyData} (h : DPs K G xs [d, c]) : ∃ v w, xs = [v, w] ∧ DP K G v d ∧ DP K G w c := by
  cases h with
  | cons h r =>
    obtain ⟨w, rfl, h2⟩ := r.one
    exact ⟨_, w, rfl, h, h2⟩
theorem v_len : VCall P (rLenA P.K) gLen := fun {E G0 Z pa G ad σ H e xs as} S hx Q h => by
  obtain ⟨d, ed, hh⟩ := Post.opt h
  clear h
  have h := hh
  clear hh
  unfold gLen at ed
  split at ed
  · obtain ⟨v, rfl, hv⟩ := hx.one
    cases hv with
    | lst h1 r1 =>
      cases ed
      refine ⟨_, _, rfl, .inl ⟨_, SqL.of (S.sub _ _ h1), rfl⟩, ?_⟩
      rw [r1.length]
      exact Post.out S h (.int _)
  · obtain ⟨v, rfl, hv⟩ := hx.one
    cases hv with
    | tup h1 r1 =>
      cases ed
      refine ⟨_, _, rfl, .inr ⟨_, S.sub.sqT h1.sqT, rfl⟩, ?_⟩
      rw [r1.length]
      exact Post.out S h (.int _)
  · obtain ⟨v, rfl, hv⟩ := hx.one
    cases hv with
    | str z =>
      split at ed
      · rename_i c
        cases ed
        exact ⟨_, _, rfl, ⟨c, rfl⟩, Post.out S h (.int _)⟩
      · cases ed
  · cases ed
/-- len(x), x a name whose list may be the frame's own -/
def fLenV (i : Nat) : FE := fun e => match e[i]? with
  | some (.dat d) => R.opt (gLen [d]) e
  | some (.lst _ xs) => .ok (.int xs.length) e
  | _ => .bad
theorem sim_lenV {i : Nat} : SimE P E (tCB (rLenA P.K) (tCons (tVar i) tNil)) (fLenV i) := fun G0 Z pa G ad σ H e S Q h => by
  unfold fLenV at h
  split at h
  · rename_i d hd
    obtain ⟨v, h1, h2⟩ := S.dat i d hd
    exact ⟨v, h1, v_len S (.cons h2 .nil) Q h⟩
  · rename_i p xs hd
    obtain ⟨h1, vs, h2, h3⟩ := S.ownL hd
    refine ⟨_, h1, _, _, rfl, .inl ⟨_, SqL.of h2, rfl⟩, ?_⟩
    rw [h3.length]
    exact Post.out S h (.int _)
  · exact h.elim
def gAbs : List PyData → Option PyData
  | [.int i] => some (.int (if i < 0 then -i else i))
  | _ => none
abbrev rAbs : List V → Hp → VK → Prop := fun xs H Q => ∃ i, xs = [.int i] ∧ Q (.int (if i < 0 then -i else i)) H
theorem v_abs : VCall P rAbs gAbs := fun {E G0 Z pa G ad σ H e xs as} S hx Q h => by
  obtain ⟨d, ed, hh⟩ := Post.opt h
  clear h
  have h := hh
  clear hh
  unfold gAbs at ed
  split at ed
  · obtain ⟨v, rfl, hv⟩ := hx.one
    cases hv
    cases ed
    exact ⟨_, rfl, Post.out S h (.int _)⟩
  · cases ed
def gMax2 : List PyData → Option PyData
  | [.int i, .int j] => some (.int (if j > i then j else i))
  | _ => none
def gMin2 : List PyData → Option PyData
  | [.int i, .int j] => some (.int (if j < i then j else i))
  | _ => none
abbrev rMax2 : List V → Hp → VK → Prop := fun xs H Q => ∃ i j, xs = [.int i, .int j] ∧ Q (.int (if j > i then j else i)) H
abbrev rMin2 : List V → Hp → VK → Prop := fun xs H Q => ∃ i j, xs = [.int i, .int j] ∧ Q (.int (if j < i then j else i)) H
theorem v_max2 : VCall P rMax2 gMax2 := fun {E G0 Z pa G ad σ H e xs as} S hx Q h => by
  obtain ⟨d, ed, hh⟩ := Post.opt h
  clear h
  have h := hh
  clear hh
  unfold gMax2 at ed
  split at ed
  · obtain ⟨v, w, rfl, hv, hw⟩ := hx.two
    cases hv
    cases hw
    cases ed
    exact ⟨_, _, rfl, Post.out S h (.int _)⟩
  · cases ed
theorem v_min2 : VCall P rMin2 gMin2 := fun {E G0 Z pa G ad σ H e xs as} S hx Q h => by
  obtain ⟨d, ed, hh⟩ := Post.opt h
  clear h
  have h := hh
  clear hh
  unfold gMin2 at ed
  split at ed
  · obtain ⟨v, w, rfl, hv, hw⟩ := hx.two
    cases hv
    cases hw
    cases ed
    exact ⟨_, _, rfl, Post.out S h (.int _)⟩
  · cases ed
def gInt : List PyData → Option PyData
  | [.int i] => some (.int i)
  | _ => none
abbrev rInt1 : List V → Hp → VK → Prop := fun xs H Q => (∃ i, xs = [.int i] ∧ Q (.int i) H) ∨ ∃ k, xs = [.bl k] ∧ Q (.int (if k then 1 else 0)) H
theorem v_int : VCall P rInt1 gInt := fun {E G0 Z pa G ad σ H e xs as} S hx Q h => by
  obtain ⟨d, ed, hh⟩ := Post.opt h
  clear h
  have h := hh
  clear hh
  unfold gInt at ed
  split at ed
  · obtain ⟨v, rfl, hv⟩ := hx.one
    cases hv
    cases ed
    exact .inl ⟨_, rfl, Post.out S h (.int _)⟩
  · cases ed
/-- a list of toInts, of truth values -/
def toInts : List PyData → Option (List Int)
  | [] => some []
  | .int i :: r => (toInts r).map (i :: ·)
  | _ => none
def toBools : List PyData → Option (List Bool)
  | [] => some []
  | .bool i :: r => (toBools r).map (i :: ·)
  | _ => none
theorem DPs.toInts {K : PySem.W.Frag} {G : Hp} : ∀ {vs : List V} {ds : List PyData} {ns : List Int}, DPs K G vs ds → FL.toInts ds = some ns → vs = ns.map V.int
  | _, _, _, .nil, h => by
    cases h
    rfl
  | _, _, _, .cons (.int i) r, h => by
    unfold FL.toInts at h
    obtain ⟨ms, h1, rfl⟩ := Option.map_eq_some_iff.mp h
    rw [DPs.toInts r h1, List.map_cons]
  | _, _, _, .cons .non _, h => by cases h
  | _, _, _, .cons (.bl _) _, h => by cases h
  | _, _, _, .cons (.str _) _, h => by cases h
  | _, _, _, .cons (.lst _ _) _, h => by cases h
  | _, _, _, .cons (.tup _ _) _, h => by cases h
theorem DPs.toBools {K : PySem.W.Frag} {G : Hp} : ∀ {vs : List V} {ds : List PyData} {ns : List Bool}, DPs K G vs ds → FL.toBools ds = some ns → vs = ns.map V.bl
  | _, _, _, .nil, h => by
    cases h
    rfl
  | _, _, _, .cons (.bl i) r, h => by
    unfold FL.toBools at h
    obtain ⟨ms, h1, rfl⟩ := Option.map_eq_some_iff.mp h
    rw [DPs.toBools r h1, List.map_cons]
  | _, _, _, .cons .non _, h => by cases h
  | _, _, _, .cons (.int _) _, h => by cases h
  | _, _, _, .cons (.str _) _, h => by cases h
  | _, _, _, .cons (.lst _ _) _, h => by cases h
  | _, _, _, .cons (.tup _ _) _, h => by cases h
def gSum : List PyData → Option PyData
  | [.list ds] => (toInts ds).map fun ns => .int ns.sum
  | _ => none
theorem v_sum : VCall P (rSum P.K) gSum := fun {E G0 Z pa G ad σ H e xs as} S hx Q h => by
  obtain ⟨d, ed, hh⟩ := Post.opt h
  clear h
  have h := hh
  clear hh
  unfold gSum at ed
  split at ed
  · obtain ⟨v, rfl, hv⟩ := hx.one
    cases hv with
    | lst h1 r1 =>
      obtain ⟨ns, h2, rfl⟩ := Option.map_eq_some_iff.mp ed
      exact ⟨_, ns, rfl, by rw [← r1.toInts h2]; exact SqL.of (S.sub _ _ h1), Post.out S h (.int _)⟩
  · cases ed
/-- the greatest, the least of a list -/
def maxL : List Int → Int
  | [] => 0
  | [x] => x
  | x :: y :: r => maxL ((if y > x then y else x) :: r)
termination_by l => l.length
def minL : List Int → Int
  | [] => 0
  | [x] => x
  | x :: y :: r => minL ((if y < x then y else x) :: r)
termination_by l => l.length
theorem maxL_spec : ∀ (l : List Int), l ≠ [] → maxL l ∈ l ∧ ∀ y ∈ l, y ≤ maxL l
  | [], h => absurd rfl h
  | [x], _ => by simp [maxL]
  | x :: y :: r, _ => by
    obtain ⟨h1, h2⟩ := maxL_spec ((if y > x then y else x) :: r) (by simp)
    rw [maxL]
    have h3 := h2 (if y > x then y else x) List.mem_cons_self
    refine ⟨?_, fun z hz => ?_⟩
    · rcases List.mem_cons.mp h1 with q | q
      · rw [q]
        split
        · exact List.mem_cons_of_mem _ List.mem_cons_self
        · exact List.mem_cons_self
      · exact List.mem_cons_of_mem _ (List.mem_cons_of_mem _ q)
    · rcases List.mem_cons.mp hz with q | q
      · subst q
        split at h3 <;> rename_i c
        · rw [if_pos c] at *
          omega
        · rw [if_neg c] at *
          omega
      · rcases List.mem_cons.mp q with q | q
        · subst q
          split at h3 <;> rename_i c
          · rw [if_pos c] at *
            omega
          · rw [if_neg c] at *
            omega
        · exact h2 z (List.mem_cons_of_mem _ q)
termination_by l => l.length
theorem minL_spec : ∀ (l : List Int), l ≠ [] → minL l ∈ l ∧ ∀ y ∈ l, minL l ≤ y
  | [], h => absurd rfl h
  | [x], _ => by simp [minL]
  | x :: y :: r, _ => by
    obtain ⟨h1, h2⟩ := minL_spec ((if y < x then y else x) :: r) (by simp)
    rw [minL]
    have h3 := h2 (if y < x then y else x) List.mem_cons_self
    refine ⟨?_, fun z hz => ?_⟩
    · rcases List.mem_cons.mp h1 with q | q
      · rw [q]
        split
        · exact List.mem_cons_of_mem _ List.mem_cons_self
        · exact List.mem_cons_self
      · exact List.mem_cons_of_mem _ (List.mem_cons_of_mem _ q)
    · rcases List.mem_cons.mp hz with q | q
      · subst q
        split at h3 <;> rename_i c
        · rw [if_pos c] at *
          omega
        · rw [if_neg c] at *
          omega
      · rcases List.mem_cons.mp q with q | q
        · subst q
          split at h3 <;> rename_i c
          · rw [if_pos c] at *
            omega
          · rw [if_neg c] at *
            omega
        · exact h2 z (List.mem_cons_of_mem _ q)
termination_by l => l.length
def gMax : List PyData → Option PyData
  | [.list ds] => (toInts ds).bind fun ns => if ns.length = 0 then none else some (.int (maxL ns))
  | _ => none
def gMin : List PyData → Option PyData
  | [.list ds] => (toInts ds).bind fun ns => if ns.length = 0 then none else some (.int (minL ns))
  | _ => none
theorem v_max : VCall P (rMax P.K) gMax := fun {E G0 Z pa G ad σ H e xs as} S hx Q h => by
  obtain ⟨d, ed, hh⟩ := Post.opt h
  clear h
  have h := hh
  clear hh
  unfold gMax at ed
  split at ed
  · obtain ⟨v, rfl, hv⟩ := hx.one
    cases hv with
    | lst h1 r1 =>
      obtain ⟨ns, h2, h3⟩ := Option.bind_eq_some_iff.mp ed
      split at h3
      · cases h3
      · rename_i c
        cases h3
        refine ⟨_, ns, rfl, by rw [← r1.toInts h2]; exact SqL.of (S.sub _ _ h1), by omega, fun m hm hle => ?_⟩
        obtain ⟨q1, q2⟩ := maxL_spec ns (fun z => c (by rw [z]; rfl))
        have : m = maxL ns := Int.le_antisymm (q2 m hm) (hle _ q1)
        rw [this]
        exact Post.out S h (.int _)
  · cases ed
theorem v_min : VCall P (rMin P.K) gMin := fun {E G0 Z pa G ad σ H e xs as} S hx Q h => by
  obtain ⟨d, ed, hh⟩ := Post.opt h
  clear h
  have h := hh
  clear hh
  unfold gMin at ed
  split at ed
  · obtain ⟨v, rfl, hv⟩ := hx.one
    cases hv with
    | lst h1 r1 =>
      obtain ⟨ns, h2, h3⟩ := Option.bind_eq_some_iff.mp ed
      split at h3
      · cases h3
      · rename_i c
        cases h3
        refine ⟨_, ns, rfl, by rw [← r1.toInts h2]; exact SqL.of (S.sub _ _ h1), by omega, fun m hm hle => ?_⟩
        obtain ⟨q1, q2⟩ := minL_spec ns (fun z => c (by rw [z]; rfl))
        have : m = minL ns := Int.le_antisymm (hle _ q1) (q2 m hm)
        rw [this]
        exact Post.out S h (.int _)
  · cases ed
def gAny : List PyData → Option PyData
  | [.list ds] => (toBools ds).map fun ns => .bool (ns.any id)
  | _ => none
def gAll : List PyData → Option PyData
  | [.list ds] => (toBools ds).map fun ns => .bool (ns.all id)
  | _ => none
theorem v_any : VCall P (rAny P.K) gAny := fun {E G0 Z pa G ad σ H e xs as} S hx Q h => by
  obtain ⟨d, ed, hh⟩ := Post.opt h
  clear h
  have h := hh
  clear hh
  unfold gAny at ed
  split at ed
  · obtain ⟨v, rfl, hv⟩ := hx.one
    cases hv with
    | lst h1 r1 =>
      obtain ⟨ns, h2, rfl⟩ := Option.map_eq_some_iff.mp ed
      exact ⟨_, ns, rfl, by rw [← r1.toBools h2]; exact SqL.of (S.sub _ _ h1), Post.out S h (.bl _)⟩
  · cases ed
theorem v_all : VCall P (rAll P.K) gAll := fun {E G0 Z pa G ad σ H e xs as} S hx Q h => by
  obtain ⟨d, ed, hh⟩ := Post.opt h
  clear h
  have h := hh
  clear hh
  unfold gAll at ed
  split at ed
  · obtain ⟨v, rfl, hv⟩ := hx.one
    cases hv with
    | lst h1 r1 =>
      obtain ⟨ns, h2, rfl⟩ := Option.map_eq_some_iff.mp ed
      exact ⟨_, ns, rfl, by rw [← r1.toBools h2]; exact SqL.of (S.sub _ _ h1), Post.out S h (.bl _)⟩
  · cases ed
def gTuple : List PyData → Option PyData
  | [.list ds] => some (.tuple ds)
  | [.tuple ds] => some (.tuple ds)
  | _ => none
abbrev rTupleOf (K : PySem.W.Frag) : List V → Hp → VK → Prop := fun xs H Q => ∃ p ys, xs = [.ref p] ∧ ((SqL K H p ys ∧ ∀ l, H l = none → Q (.ref l) (upd H l (.tup ys))) ∨ (SqT K H p ys ∧ Q (.ref p) H))
theorem v_tuple : VCall P (rTupleOf P.K) gTuple := fun {E G0 Z pa G ad σ H e xs as} S hx Q h => by
  obtain ⟨d, ed, hh⟩ := Post.opt h
  clear h
  have h := hh
  clear hh
  unfold gTuple at ed
  split at ed
  · obtain ⟨v, rfl, hv⟩ := hx.one
    cases hv with
    | lst h1 r1 =>
      cases ed
      exact ⟨_, _, rfl, .inl ⟨SqL.of (S.sub _ _ h1), fun l hl => Post.newT S h r1 hl⟩⟩
  · obtain ⟨v, rfl, hv⟩ := hx.one
    cases hv with
    | tup h1 r1 =>
      cases ed
      exact ⟨_, _, rfl, .inr ⟨S.sub.sqT h1.sqT, Post.out S h (.tup h1 r1)⟩⟩
  · cases ed
def gList : List PyData → Option PyData
  | [.list ds] => some (.list ds)
  | [.tuple ds] => some (.list ds)
  | _ => none
abbrev rListOf (K : PySem.W.Frag) : List V → Hp → VK → Prop := fun xs H Q => ∃ p ys, xs = [.ref p] ∧ (SqL K H p ys ∨ SqT K H p ys) ∧ ∀ l, H l = none → Q (.ref l) (upd H l (.lst ys))
theorem v_list : VCall P (rListOf P.K) gList := fun {E G0 Z pa G ad σ H e xs as} S hx Q h => by
  obtain ⟨d, ed, hh⟩ := Post.opt h
  clear h
  have h := hh
  clear hh
  unfold gList at ed
  split at ed
  · obtain ⟨v, rfl, hv⟩ := hx.one
    cases hv with
    | lst h1 r1 =>
      cases ed
      exact ⟨_, _, rfl, .inl (SqL.of (S.sub _ _ h1)), fun l hl => Post.newL S h r1 hl⟩
  · obtain ⟨v, rfl, hv⟩ := hx.one
    cases hv with
    | tup h1 r1 =>
      cases ed
      exact ⟨_, _, rfl, .inr (S.sub.sqT h1.sqT), fun l hl => Post.newL S h r1 hl⟩
  · cases ed
/-- isinstance(x, T), T a written built-in class -/
def tyD : PyData → String
  | .none => "NoneType"
  | .bool _ => "bool"
  | .int _ => "int"
  | .str _ => "str"
  | .list _ => "list"
  | .tuple _ => "tuple"
  | .dict _ => "dict"
theorem DP.ty {K : PySem.W.Frag} {G H : Hp} (e : Le G H) {v : V} {d : PyData} (h : DP K G v d) : TyX K H v (.type (tyD d)) := by
  cases h with
  | non => exact .base .non
  | bl b => exact .base (.bl b)
  | int i => exact .base (.int i)
  | str x => exact .base (.str x)
  | lst h1 _ => exact .base (.lst (e _ _ h1))
  | tup h1 _ =>
    rcases h1 with h1 | ⟨o, its, n, h1, h2, _⟩
    · exact .base (.tup (e _ _ h1))
    · exact .kTuple h1 h2
def gIsi (T : String) (d : PyData) : Option PyData := (kitB (tyD d) T).map .bool
def fIsi (T : String) (f : FE) : FE := fUn (gIsi T) f
theorem sim_isi {T : String} {t : TE} {f : FE} (h : SimE P E t f) : SimE P E (tCB (rIsi P.K) (tCons t (tCons (tC (.ty T)) tNil))) (fIsi T f) := fun G0 Z pa G ad σ H e S Q q =>
  h.bind S q fun x d e1 G1 ad1 H1 S1 hx h1 => by
    obtain ⟨c, ec, h2⟩ := Post.opt h1
    obtain ⟨b, hb, rfl⟩ := Option.map_eq_some_iff.mp ec
    exact ⟨x, .ty T, _, _, b, rfl, .ty T, hx.ty S1.sub, kit_ty hb, Post.out S1 h2 (.bl _)⟩
def gSorted : List PyData → Option PyData
  | [.list ds] => (toInts ds).map fun ns => .list ((ns.mergeSort fun a b => decide (a ≤ b)).map PyData.int)
  | _ => none
end
end FL

set_option maxRecDepth 100000
set_option maxHeartbeats 1000000
/-! FL, statements, loops, comprehensions. -/
namespace FL
open PySem PySem.Spec PyProof.Rows L2
section
variable {P : Par} {E : XK}
/-! ### statements -/
def PostS (P : Par) (E : XK) (G Z : Hp) (pa : Nat → Addr) (D : Ends) : Out → Prop
  | .nx e' => ∀ G' ad' σ' H', Sat P G Z pa G' ad' σ' H' e' → D.nx σ' H'
  | .rt d e' => ∀ v G' ad' σ' H', Sat P G Z pa G' ad' σ' H' e' → DP P.K G' v d → D.rt v H'
  | .bk e' => ∀ G' ad' σ' H', Sat P G Z pa G' ad' σ' H' e' → D.bk σ' H'
  | .ct e' => ∀ G' ad' σ' H', Sat P G Z pa G' ad' σ' H' e' → D.ct σ' H'
  | .ex x e' => ∀ cls dd G' ad' σ' H', Sat P G Z pa G' ad' σ' H' e' → P.EX x cls dd H' → E cls dd H'
  | .bad => False
def SimS (P : Par) (E : XK) (t : TS) (f : FS) : Prop := ∀ (G0 Z : Hp) (pa : Nat → Addr) (G : Hp) (ad : Nat → Addr) (σ : L2.St) (H : Hp) (e : Sl), Sat P G0 Z pa G ad σ H e → ∀ D : Ends, PostS P E G Z pa D (f e) → t D σ H
theorem PostS.mono {G G1 Z : Hp} {pa : Nat → Addr} {D : Ends} {r : Out} (h : PostS P E G Z pa D r) (l : Le G G1) : PostS P E G1 Z pa D r := by
  cases r with
  | nx e' => exact fun G' ad' σ' H' S => h G' ad' σ' H' (S.base l)
  | rt d e' => exact fun v G' ad' σ' H' S q => h v G' ad' σ' H' (S.base l) q
  | bk e' => exact fun G' ad' σ' H' S => h G' ad' σ' H' (S.base l)
  | ct e' => exact fun G' ad' σ' H' S => h G' ad' σ' H' (S.base l)
  | ex x e' => exact fun cls dd G' ad' σ' H' S q => h cls dd G' ad' σ' H' (S.base l) q
  | bad => exact h
def R.out {α : Type} : R α → (α → Sl → Out) → Out
  | .ok a e, k => k a e
  | .ex x e, _ => .ex x e
  | .bad, _ => .bad
theorem Sim.out {α β : Type} {G0 G Z : Hp} {pa ad : Nat → Addr} {σ : L2.St} {H : Hp} {e : Sl} {Rel : Hp → β → α → Prop} {t : L2.St → Hp → (β → Hp → Prop) → Prop} {f : Sl → R α} {k : α → Sl → Out} {D : Ends} {Qa : β → Hp → Prop}
    (ha : Sim P E Rel t f) (S : Sat P G0 Z pa G ad σ H e) (h : PostS P E G Z pa D ((f e).out k))
    (c : ∀ v d e' G' ad' H', Sat P G Z pa G' ad' σ H' e' → Rel G' v d → PostS P E G' Z pa D (k d e') → Qa v H') : t σ H Qa := by
  refine ha _ _ _ _ _ _ _ _ S Qa ?_
  cases q : f e with
  | ok d e' =>
    rw [q] at h
    exact fun v G' ad' H' S' r => c v d e' G' ad' H' S' r (PostS.mono h S'.g0)
  | ex x e' =>
    rw [q] at h
    exact fun cls dd G' ad' H' S' r => h cls dd G' ad' σ H' S' r
  | bad =>
    rw [q] at h
    exact h
def Out.seq : Out → FS → Out
  | .nx e, k => k e
  | o, _ => o
def fNext : FS := fun e => .nx e
def fSeq (f g : FS) : FS := fun e => (f e).seq g
theorem sim_next : SimS P E tNext fNext := fun G0 Z pa G ad σ H e S D h => h G ad σ H S.self
theorem sim_seq {t u : TS} {f g : FS} (ht : SimS P E t f) (hu : SimS P E u g) : SimS P E (tSeq t u) (fSeq f g) := fun G0 Z pa G ad σ H e S D h => by
  refine ht _ _ _ _ _ _ _ _ S _ ?_
  unfold fSeq at h
  cases q : f e with
  | nx e' =>
    rw [q] at h
    exact fun G' ad' σ' H' S' => hu _ _ _ _ _ _ _ _ S' D (PostS.mono h S'.g0)
  | _ =>
    rw [q] at h
    exact h
def fBreak : FS := fun e => .bk e
def fCont : FS := fun e => .ct e
theorem sim_break : SimS P E tBreak fBreak := fun G0 Z pa G ad σ H e S D h => h G ad σ H S.self
theorem sim_cont : SimS P E tCont fCont := fun G0 Z pa G ad σ H e S D h => h G ad σ H S.self
def fDrop (f : FE) : FS := fun e => (f e).out fun _ e1 => .nx e1
theorem sim_drop {t : TE} {f : FE} (ht : SimE P E t f) : SimS P E (tDrop t) (fDrop f) := fun G0 Z pa G ad σ H e S D h =>
  ht.out S h fun v d e1 G1 ad1 H1 S1 hv h1 => h1 G1 ad1 σ H1 S1.self
def fRet (f : FE) : FS := fun e => (f e).out fun d e1 => .rt d e1
theorem sim_ret {t : TE} {f : FE} (ht : SimE P E t f) : SimS P E (tRet t) (fRet f) := fun G0 Z pa G ad σ H e S D h =>
  ht.out S h fun v d e1 G1 ad1 H1 S1 hv h1 => h1 v G1 ad1 σ H1 S1.self hv
def fRetN : FS := fun e => .rt .none e
theorem sim_retN : SimS P E tRetN fRetN := fun G0 Z pa G ad σ H e S D h => h .non G ad σ H S.self .non
def fIfS (c : FT) (f g : FS) : FS := fun e => (c e).out fun b e1 => if b then f e1 else g e1
theorem sim_ifS {c : TT} {t u : TS} {fc : FT} {f g : FS} (hc : SimT P E c fc) (ht : SimS P E t f) (hu : SimS P E u g) : SimS P E (tIfS c t u) (fIfS fc f g) := fun G0 Z pa G ad σ H e S D h =>
  hc.out S h fun b b' e1 G1 ad1 H1 S1 hb h1 => by
    subst hb
    cases b with
    | true => exact ht _ _ _ _ _ _ _ _ S1 D h1
    | false => exact hu _ _ _ _ _ _ _ _ S1 D h1

/-! ### targets -/
abbrev FG := PyData → Sl → Option Sl
/-- all but some places stand -/
def Keep (vs : List Nat) (σ σ' : L2.St) : Prop := σ'.length = σ.length ∧ ∀ j, j ∉ vs → σ'[j]? = σ[j]?
theorem Keep.refl (vs : List Nat) (σ : L2.St) : Keep vs σ σ := ⟨rfl, fun _ _ => rfl⟩
theorem Keep.trans {vs : List Nat} {σ σ1 σ2 : L2.St} (a : Keep vs σ σ1) (b : Keep vs σ1 σ2) : Keep vs σ σ2 := ⟨b.1.trans a.1, fun j h => (b.2 j h).trans (a.2 j h)⟩
theorem Keep.mono {vs ws : List Nat} {σ σ' : L2.St} (a : Keep vs σ σ') (h : ∀ j ∈ vs, j ∈ ws) : Keep ws σ σ' := ⟨a.1, fun j hj => a.2 j fun z => hj (h j z)⟩
def SimG (P : Par) (vs : List Nat) (g : TG) (f : FG) : Prop := ∀ (G0 Z : Hp) (pa : Nat → Addr) (G : Hp) (ad : Nat → Addr) (σ : L2.St) (H : Hp) (e e' : Sl) (x : V) (d : PyData), Sat P G0 Z pa G ad σ H e → DP P.K G x d → f d e = some e' →
  ∀ Q : L2.St → Hp → Prop, (∀ ad' σ', Sat P G Z pa G ad' σ' H e' → Keep vs σ σ' → Q σ' H) → g x σ H Q
def SimGs (P : Par) (vs : List Nat) (g : TGs) (f : List PyData → Sl → Option Sl) : Prop := ∀ (G0 Z : Hp) (pa : Nat → Addr) (G : Hp) (ad : Nat → Addr) (σ : L2.St) (H : Hp) (e e' : Sl) (xs : List V) (ds : List PyData), Sat P G0 Z pa G ad σ H e → DPs P.K G xs ds → f ds e = some e' →
  ∀ Q : L2.St → Hp → Prop, (∀ ad' σ', Sat P G Z pa G ad' σ' H e' → Keep vs σ σ' → Q σ' H) → g xs σ H Q
/-- the slot gets data; what the caller owns is not overwritten -/
def fgN (i : Nat) : FG := fun d e => match e[i]? with
  | some s => if s.pin = true then none else some (e.set i (.dat d))
  | none => none
theorem sim_gN {i : Nat} : SimG P [i] (gName i) (fgN i) := fun G0 Z pa G ad σ H e e' x d S hx he Q q => by
  unfold fgN at he
  split at he
  · rename_i s hs
    split at he
    · cases he
    · cases he
      exact q ad _ (S.self.setDat hs hx) ⟨List.length_set, fun j hj => List.getElem?_set_ne fun z => hj (by rw [z]; exact List.mem_singleton.mpr rfl)⟩
  · cases he
def fgNil : List PyData → Sl → Option Sl := fun ds e => match ds with
  | [] => some e
  | _ => none
def fgCons (f : FG) (g : List PyData → Sl → Option Sl) : List PyData → Sl → Option Sl := fun ds e => match ds with
  | d :: r => (f d e).bind fun e1 => g r e1
  | [] => none
theorem sim_gNil : SimGs P [] gNil fgNil := fun G0 Z pa G ad σ H e e' xs ds S hx he Q q => by
  cases hx with
  | nil =>
    cases he
    exact ⟨rfl, q ad σ S.self (Keep.refl _ _)⟩
  | cons h r => cases he
theorem sim_gCons {vs ws : List Nat} {t : TG} {u : TGs} {f : FG} {g : List PyData → Sl → Option Sl} (ht : SimG P vs t f) (hu : SimGs P ws u g) : SimGs P (vs ++ ws) (gCons t u) (fgCons f g) := fun G0 Z pa G ad σ H e e' xs ds S hx he Q q => by
  cases hx with
  | nil => cases he
  | cons h r =>
    obtain ⟨e1, h1, h2⟩ := Option.bind_eq_some_iff.mp he
    exact ⟨_, _, rfl, ht _ _ _ _ _ _ _ _ _ _ _ S h h1 _ fun ad1 σ1 S1 k1 => hu _ _ _ _ _ _ _ _ _ _ _ S1 r h2 _ fun ad2 σ2 S2 k2 => q ad2 σ2 S2 ((k1.mono fun _ z => List.mem_append_left _ z).trans (k2.mono fun _ z => List.mem_append_right _ z))⟩
def fgTup (g : List PyData → Sl → Option Sl) (n : Nat) : FG := fun d e => match d with
  | .tuple ds => if ds.length = n then g ds e else none
  | _ => none
theorem sim_gTup {vs : List Nat} {n : Nat} {t : TGs} {g : List PyData → Sl → Option Sl} (ht : SimGs P vs t g) : SimG P vs (gTup P.K n t) (fgTup g n) := fun G0 Z pa G ad σ H e e' x d S hx he Q q => by
  cases hx with
  | tup h1 r1 =>
    simp only [fgTup] at he
    split at he
    · rename_i c
      exact ⟨_, _, rfl, S.sub.sqT h1.sqT, by rw [r1.length]; exact c, ht _ _ _ _ _ _ _ _ _ _ _ S r1 he Q q⟩
    · cases he
  | _ => cases he
def Out.opt : Option Sl → Out
  | some e => .nx e
  | none => .bad
def fAsg (f : FE) (g : FG) : FS := fun e => (f e).out fun d e1 => Out.opt (g d e1)
theorem sim_asg {vs : List Nat} {t : TE} {g : TG} {f : FE} {fg : FG} (ht : SimE P E t f) (hg : SimG P vs g fg) : SimS P E (tAsg t g) (fAsg f fg) := fun G0 Z pa G ad σ H e S D h =>
  ht.out S h fun v d e1 G1 ad1 H1 S1 hv h1 => by
    cases q : fg d e1 with
    | none =>
      rw [q] at h1
      exact h1.elim
    | some e2 =>
      rw [q] at h1
      exact hg _ _ _ _ _ _ _ _ _ _ _ S1 hv q _ fun ad2 σ2 S2 _ => h1 G1 ad2 σ2 H1 S2.self
abbrev fSet (i : Nat) (f : FE) : FS := fAsg f (fgN i)
theorem sim_set {i : Nat} {t : TE} {f : FE} (ht : SimE P E t f) : SimS P E (tAsg t (gName i)) (fSet i f) := sim_asg ht sim_gN
/-- a, b = x, y (two names, no tuple is made) -/
def fPar (i j : Nat) (f : FA) : FS := fun e => (f e).out fun ds e1 => match ds with
  | [c, d] => Out.opt ((fgN i c e1).bind fun e2 => fgN j d e2)
  | _ => .bad
theorem sim_par {i j : Nat} {t : TA} {f : FA} (ht : SimA P E t f) : SimS P E (tPar i j t) (fPar i j f) := fun G0 Z pa G ad σ H e S D h =>
  ht.out S h fun vs ds e1 G1 ad1 H1 S1 hv h1 => by
    split at h1
    · rename_i c d
      obtain ⟨v, w, rfl, hv, hw⟩ := hv.two
      cases q : (fgN i c e1).bind fun e2 => fgN j d e2 with
      | none =>
        rw [q] at h1
        exact h1.elim
      | some e3 =>
        rw [q] at h1
        obtain ⟨e2, q1, q2⟩ := Option.bind_eq_some_iff.mp q
        refine ⟨v, w, rfl, ?_⟩
        refine sim_gN (P := P) (i := i) _ _ _ _ _ _ _ _ _ _ _ S1 hv q1 (fun σ' H' => D.nx (σ'.set j (some w)) H') fun ad2 σ2 S2 _ => ?_
        exact sim_gN (P := P) (i := j) _ _ _ _ _ _ _ _ _ _ _ S2 hw q2 D.nx fun ad3 σ3 S3 _ => h1 G1 ad3 σ3 H1 S3.self
    · exact h1.elim
def fPar3 (i j k : Nat) (f : FA) : FS := fun e => (f e).out fun ds e1 => match ds with
  | [c, d, b] => Out.opt ((fgN i c e1).bind fun e2 => (fgN j d e2).bind fun e3 => fgN k b e3)
  | _ => .bad
/-- x += e, x a name of an int -/
def fAug (i : Nat) (g : PyData → PyData → Option PyData) (f : FE) : FS := fun e => match e[i]? with
  | some (.dat a) => (f e).out fun b e1 => match g a b with
    | some d => Out.opt (fgN i d e1)
    | none => .bad
  | _ => .bad
theorem sim_augI {i : Nat} {p : Int → Int → Int} {g : PyData → PyData → Option PyData} {t : TE} {f : FE} (hg : ∀ a b d, g a b = some d → ∃ x y, a = .int x ∧ b = .int y ∧ d = .int (p x y)) (ht : SimE P E t f) : SimS P E (tAug i t (ipI p)) (fAug i g f) := fun G0 Z pa G ad σ H e S D h => by
  unfold fAug at h
  split at h
  · rename_i a ha
    obtain ⟨v, h1, h2⟩ := S.dat i a ha
    refine ⟨v, h1, ht.out S h fun w b e1 G1 ad1 H1 S1 hw h3 => ?_⟩
    cases q : g a b with
    | none =>
      rw [q] at h3
      exact h3.elim
    | some d =>
      rw [q] at h3
      obtain ⟨x, y, rfl, rfl, rfl⟩ := hg a b d q
      cases h2
      cases hw
      refine ⟨x, y, rfl, rfl, ?_⟩
      dsimp only at h3
      cases q2 : fgN i (.int (p x y)) e1 with
      | none =>
        rw [q2] at h3
        exact h3.elim
      | some e2 =>
        rw [q2] at h3
        exact sim_gN (P := P) (i := i) _ _ _ _ _ _ _ _ _ _ _ S1 (.int _) q2 D.nx fun ad2 σ2 S2 _ => h3 G1 ad2 σ2 H1 S2.self
  · exact h.elim

def gAddI : PyData → PyData → Option PyData
  | .int i, .int j => some (.int (i + j))
  | _, _ => none
theorem gSub_int (a b d : PyData) (h : gDif a b = some d) : ∃ x y, a = .int x ∧ b = .int y ∧ d = .int (x - y) := by
  unfold gDif at h
  split at h
  · cases h
    exact ⟨_, _, rfl, rfl, rfl⟩
  · cases h
theorem gAddI_int (a b d : PyData) (h : gAddI a b = some d) : ∃ x y, a = .int x ∧ b = .int y ∧ d = .int (x + y) := by
  unfold gAddI at h
  split at h
  · cases h
    exact ⟨_, _, rfl, rfl, rfl⟩
  · cases h
theorem sim_augAdd {i : Nat} {t : TE} {f : FE} (ht : SimE P E t f) : SimS P E (tAug i t (ipI fun a b => a + b)) (fAug i gAddI f) := sim_augI gAddI_int ht
theorem sim_augSub {i : Nat} {t : TE} {f : FE} (ht : SimE P E t f) : SimS P E (tAug i t (ipI fun a b => a - b)) (fAug i gDif f) := sim_augI gSub_int ht

/-! ### what is walked -/
structure Items (P : Par) (J : It) (G : Hp) (ds : List PyData) : Prop where
  stop : ∀ H, Le G H → J.stop ds.length H
  go : ∀ i H, i < ds.length → Le G H → J.go i H
  yld : ∀ {G0 Z : Hp} {pa : Nat → Addr} {G1 : Hp} {ad : Nat → Addr} {σ : L2.St} {H : Hp} {e : Sl}, Sat P G0 Z pa G1 ad σ H e → Le G G1 → ∀ i d, ds[i]? = some d → ∀ x H', J.yld i H x H' → ∃ G2, Sat P G1 Z pa G2 ad σ H' e ∧ DP P.K G2 x d
abbrev SimI (P : Par) (E : XK) (w : TI) (f : FA) : Prop := Sim P E (fun G J ds => Items P J G ds) w f
theorem items_list {K : PySem.W.Frag} {G : Hp} {a : Addr} {xs : List V} {ds : List PyData} (hK : K = P.K) (h : G a = some (.lst xs)) (r : DPs P.K G xs ds) : Items P (Itl K a) G ds where
  stop := fun H l => ⟨xs, SqL.of (l _ _ h), Nat.le_of_eq r.length⟩
  go := fun i H hi l => ⟨xs, xs[i]'(by rw [r.length]; exact hi), SqL.of (l _ _ h), List.getElem?_eq_getElem _⟩
  yld := fun {G0 Z pa G1 ad σ H e} S l i d hd x H' y => by
    obtain ⟨e1, y⟩ := y
    subst e1
    have hx := y xs (SqL.of (S.sub _ _ (l _ _ h)))
    obtain ⟨v, q1, q2⟩ := r.get hd
    rw [hx] at q1
    cases q1
    exact ⟨G1, S.self, q2.mono l⟩
theorem items_tup {K : PySem.W.Frag} {G : Hp} {a : Addr} {xs : List V} {ds : List PyData} (hK : K = P.K) (h : TupAt P.K G a xs) (r : DPs P.K G xs ds) : Items P (Itt K a) G ds where
  stop := fun H l => ⟨xs, by rw [hK]; exact l.sqT h.sqT, Nat.le_of_eq r.length⟩
  go := fun i H hi l => ⟨xs, xs[i]'(by rw [r.length]; exact hi), by rw [hK]; exact l.sqT h.sqT, List.getElem?_eq_getElem _⟩
  yld := fun {G0 Z pa G1 ad σ H e} S l i d hd x H' y => by
    obtain ⟨e1, y⟩ := y
    subst e1
    have hx := y xs (by rw [hK]; exact S.sub.sqT (l.sqT h.sqT))
    obtain ⟨v, q1, q2⟩ := r.get hd
    rw [hx] at q1
    cases q1
    exact ⟨G1, S.self, q2.mono l⟩
theorem items_str {z : Str} {G : Hp} : Items P (Its z) G (z.cps.toList.map fun c => .str ⟨#[c]⟩) where
  stop := fun H l => by show z.cps.size ≤ _; simp
  go := fun i H hi l => by
    show i < z.cps.size
    simpa using hi
  yld := fun {G0 Z pa G1 ad σ H e} S l i d hd x H' y => by
    obtain ⟨e1, c, y1, y2⟩ := y
    subst e1
    subst y2
    rw [List.getElem?_map, Array.getElem?_toList, y1] at hd
    cases hd
    exact ⟨G1, S.self, .str _⟩
def iSeq (K : PySem.W.Frag) (tl : TE) : TI := fun σ H R => tl σ H fun x H1 => (∃ a, x = .ref a ∧ (∃ xs, SqL K H1 a xs) ∧ R (Itl K a) H1) ∨ ((∃ a, x = .ref a ∧ (∃ xs, SqT K H1 a xs) ∧ R (Itt K a) H1) ∨ ∃ z, x = .str z ∧ R (Its z) H1)
theorem pi_seq {X : Cx} {tg l : Expr} {tl : TE} (hl : PE X l tl) : PI X tg l (iSeq X.K tl) := by
  refine PI.mk fun pn s σ H R J0 h0 => thn (hl.run pn s σ H _ J0 h0) fun u s' hq => ?_
  obtain ⟨v, H', J, rv, c⟩ := hq
  rcases c with ⟨a, rfl, ⟨xs, hx⟩, c⟩ | ⟨a, rfl, ⟨xs, hx⟩, c⟩ | ⟨z, rfl, c⟩
  · cases rv
    obtain ⟨ws, _, pl, _⟩ := J.list hx
    refine wpAny_pyIter_list pl.isList ⟨s'.heap.objs.size, [s'.heap.objs.size], _, _, H', rfl, J.kept (t' := s'.toks) fun b o q => Heap.get?_push_of_some _ q, turn_list a _, ⟨_, Heap.get?_push_size _ rfl, rfl, rfl⟩, fun b hb => ?_, c⟩
    rw [List.mem_singleton.mp hb]
    exact J.fpOk (Nat.le_refl _) (J.hok.fresh (Nat.le_refl _))
  · cases rv
    obtain ⟨ws, _, pl, _⟩ := J.tuple hx
    refine wpAny_pyIter_tuple (show s'.heap.IsTuple a ws.toArray from pl) ⟨s'.heap.objs.size, [s'.heap.objs.size], _, _, H', rfl, J.kept (t' := s'.toks) fun b o q => Heap.get?_push_of_some _ q, turn_tuple a _, ⟨_, Heap.get?_push_size _ rfl, rfl, rfl⟩, fun b hb => ?_, c⟩
    rw [List.mem_singleton.mp hb]
    exact J.fpOk (Nat.le_refl _) (J.hok.fresh (Nat.le_refl _))
  · obtain ⟨tk, rfl⟩ := rv
    cases low : z.cps.all (· < 128)
    · exact wpAny_pyIter_wide low (pi_one (tk := s'.toks) J _ (turn_str _ z tk "str_iterator" (.inr rfl)) ⟨_, Heap.get?_push_size _ rfl, rfl, rfl⟩ c)
    · exact wpAny_pyIter_ascii low (pi_one (tk := s'.toks) J _ (turn_str _ z tk "str_ascii_iterator" (.inl rfl)) ⟨_, Heap.get?_push_size _ rfl, rfl, rfl⟩ c)
def fiSeq (f : FE) : FA := fun e => (f e).bind fun d e1 => match d with
  | .list ds => .ok ds e1
  | .tuple ds => .ok ds e1
  | .str z => .ok (z.cps.toList.map fun c => .str ⟨#[c]⟩) e1
  | _ => .bad
theorem sim_iSeq {t : TE} {f : FE} (h : SimE P E t f) : SimI P E (iSeq P.K t) (fiSeq f) := fun G0 Z pa G ad σ H e S Q q =>
  h.bind S q fun x d e1 G1 ad1 H1 S1 hx h1 => by
    cases hx with
    | lst h2 r2 => exact .inl ⟨_, rfl, ⟨_, SqL.of (S1.sub _ _ h2)⟩, h1 _ G1 ad1 H1 S1.self (items_list rfl h2 r2)⟩
    | tup h2 r2 => exact .inr (.inl ⟨_, rfl, ⟨_, S1.sub.sqT h2.sqT⟩, h1 _ G1 ad1 H1 S1.self (items_tup rfl h2 r2)⟩)
    | str z => exact .inr (.inr ⟨z, rfl, h1 _ G1 ad1 H1 S1.self items_str⟩)
    | _ => exact h1.elim
/-! ### ranges -/
def rng (lo : Int) (n : Nat) (c : Int) : List PyData := (List.range n).map fun (i : Nat) => PyData.int (lo + (i : Int) * c)
theorem items_rng {G : Hp} {lo : Int} {n : Nat} : Items P (Itr lo n) G (rng lo n 1) where
  stop := fun H l => by show n ≤ _; simp [rng]
  go := fun i H hi l => by
    show i < n
    simpa [rng] using hi
  yld := fun {G0 Z pa G1 ad σ H e} S l i d hd x H' y => by
    obtain ⟨e1, y2⟩ := y
    subst e1
    subst y2
    unfold rng at hd
    obtain ⟨j, hj, rfl⟩ := List.getElem?_map .. ▸ hd |> Option.map_eq_some_iff.mp
    obtain ⟨h1, h2⟩ := List.getElem?_eq_some_iff.mp hj
    rw [List.getElem_range] at h2
    subst h2
    rw [Int.mul_one]
    exact ⟨G1, S.self, .int _⟩
theorem items_rngC {G : Hp} {lo c : Int} {n : Nat} : Items P (Itc lo c n) G (rng lo n c) where
  stop := fun H l => by show n ≤ _; simp [rng]
  go := fun i H hi l => by
    show i < n
    simpa [rng] using hi
  yld := fun {G0 Z pa G1 ad σ H e} S l i d hd x H' y => by
    obtain ⟨e1, y2⟩ := y
    subst e1
    subst y2
    unfold rng at hd
    obtain ⟨j, hj, rfl⟩ := List.getElem?_map .. ▸ hd |> Option.map_eq_some_iff.mp
    obtain ⟨h1, h2⟩ := List.getElem?_eq_some_iff.mp hj
    rw [List.getElem_range] at h2
    subst h2
    exact ⟨G1, S.self, .int _⟩
def rgB (j : Int) : Bool := Nat.ble j.natAbs 4000000000000000000
theorem rgB_to {j : Int} (h : rgB j = true) : -(2 ^ 62) ≤ j ∧ j < 2 ^ 62 := by
  have := Nat.le_of_ble_eq_true h
  omega
theorem rgB_ok {j : Int} (h1 : -1000000000000000 ≤ j) (h2 : j ≤ 1000000000000000) : rgB j = true := Nat.ble_eq_true_of_le (by omega)
def fRng1 (f : FA) : FA := fun e => (f e).bind fun ds e1 => match ds with
  | [.int j] => if rgB j = true then .ok (rng 0 j.toNat 1) e1 else .bad
  | _ => .bad
theorem sim_rng1 {t : TA} {f : FA} (h : SimA P E t f) : SimI P E (iRng1 t) (fRng1 f) := fun G0 Z pa G ad σ H e S Q q =>
  h.bind S q fun xs ds e1 G1 ad1 H1 S1 hx h1 => by
    split at h1
    · rename_i j
      split at h1
      · rename_i c
        obtain ⟨v, rfl, hv⟩ := hx.one
        cases hv
        exact ⟨j, rfl, (rgB_to c).1, (rgB_to c).2, h1 _ G1 ad1 H1 S1.self items_rng⟩
      · exact h1.elim
    · exact h1.elim
def fRng2 (f : FA) : FA := fun e => (f e).bind fun ds e1 => match ds with
  | [.int i, .int j] => if (rgB i && rgB j) = true then .ok (rng i (j - i).toNat 1) e1 else .bad
  | _ => .bad
theorem sim_rng2 {t : TA} {f : FA} (h : SimA P E t f) : SimI P E (iRng2 t) (fRng2 f) := fun G0 Z pa G ad σ H e S Q q =>
  h.bind S q fun xs ds e1 G1 ad1 H1 S1 hx h1 => by
    split at h1
    · rename_i i j
      split at h1
      · rename_i c
        obtain ⟨v, w, rfl, hv, hw⟩ := hx.two
        cases hv
        cases hw
        exact ⟨i, j, rfl, ⟨(rgB_to (Bool.and_eq_true_iff.mp c).1).1, (rgB_to (Bool.and_eq_true_iff.mp c).1).2, (rgB_to (Bool.and_eq_true_iff.mp c).2).1, (rgB_to (Bool.and_eq_true_iff.mp c).2).2⟩, h1 _ G1 ad1 H1 S1.self items_rng⟩
      · exact h1.elim
    · exact h1.elim
theorem DPs.three {K : PySem.W.Frag} {G : Hp} {xs : List V} {d c b : PyData} (h : DPs K G xs [d, c, b]) : ∃ v w u, xs = [v, w, u] ∧ DP K G v d ∧ DP K G w c ∧ DP K G u b := by
  cases h with
  | cons h r =>
    obtain ⟨w, u, rfl, h2, h3⟩ := r.two
    exact ⟨_, w, u, rfl, h, h2, h3⟩
theorem sim_par3 {i j k : Nat} {t : TA} {f : FA} (ht : SimA P E t f) : SimS P E (tPar3 i j k t) (fPar3 i j k f) := fun G0 Z pa G ad σ H e S D h =>
  ht.out S h fun vs ds e1 G1 ad1 H1 S1 hv h1 => by
    split at h1
    · rename_i c d b
      obtain ⟨v, w, u, rfl, hv, hw, hu⟩ := hv.three
      cases q : (fgN i c e1).bind fun e2 => (fgN j d e2).bind fun e3 => fgN k b e3 with
      | none =>
        rw [q] at h1
        exact h1.elim
      | some e4 =>
        rw [q] at h1
        obtain ⟨e2, q1, q2⟩ := Option.bind_eq_some_iff.mp q
        obtain ⟨e3, q2, q3⟩ := Option.bind_eq_some_iff.mp q2
        refine ⟨v, w, u, rfl, ?_⟩
        refine sim_gN (P := P) (i := i) _ _ _ _ _ _ _ _ _ _ _ S1 hv q1 (fun σ' H' => D.nx ((σ'.set j (some w)).set k (some u)) H') fun ad2 σ2 S2 _ => ?_
        refine sim_gN (P := P) (i := j) _ _ _ _ _ _ _ _ _ _ _ S2 hw q2 (fun σ' H' => D.nx (σ'.set k (some u)) H') fun ad3 σ3 S3 _ => ?_
        exact sim_gN (P := P) (i := k) _ _ _ _ _ _ _ _ _ _ _ S3 hu q3 D.nx fun ad4 σ4 S4 _ => h1 G1 ad4 σ4 H1 S4.self
    · exact h1.elim
/-- the number of turns of range(i, j, c) -/
def stepsOf (i j c : Int) : Nat := if 0 < c then ((j - i + (c - 1)) / c).toNat else ((i - j + (-c - 1)) / (-c)).toNat
/-! ### zip -/
def zipD (xs ys : List PyData) : List PyData := (xs.zip ys).map fun p => .tuple [p.1, p.2]
theorem zipD_get {xs ys : List PyData} {i : Nat} {d : PyData} (h : (zipD xs ys)[i]? = some d) : ∃ a b, xs[i]? = some a ∧ ys[i]? = some b ∧ d = .tuple [a, b] := by
  unfold zipD at h
  rw [List.getElem?_map] at h
  obtain ⟨⟨a, b⟩, h1, rfl⟩ := Option.map_eq_some_iff.mp h
  obtain ⟨h2, h3⟩ := List.getElem?_zip_eq_some.mp h1
  exact ⟨a, b, h2, h3, rfl⟩
theorem zipD_length (xs ys : List PyData) : (zipD xs ys).length = min xs.length ys.length := by
  unfold zipD
  rw [List.length_map, List.length_zip]
theorem items_zip {G : Hp} {a b : Addr} {xs ys : List V} {ds es : List PyData} (h1 : G a = some (.lst xs)) (h2 : G b = some (.lst ys)) (r1 : DPs P.K G xs ds) (r2 : DPs P.K G ys es) : Items P (Itz P.K a b) G (zipD ds es) where
  stop := fun H l => ⟨xs, ys, SqL.of (l _ _ h1), SqL.of (l _ _ h2), by
    rw [zipD_length, r1.length, r2.length]
    omega⟩
  go := fun i H hi l => by
    rw [zipD_length, ← r1.length, ← r2.length] at hi
    exact ⟨xs, ys, xs[i]'(by omega), ys[i]'(by omega), SqL.of (l _ _ h1), SqL.of (l _ _ h2), List.getElem?_eq_getElem _, List.getElem?_eq_getElem _⟩
  yld := fun {G0 Z pa G1 ad σ H e} S l i d hd x H' y => by
    obtain ⟨T, u, v, rfl, hT, rfl, y1, y2⟩ := y
    obtain ⟨da, db, q1, q2, rfl⟩ := zipD_get hd
    have e1 := y1 xs (SqL.of (S.sub _ _ (l _ _ h1)))
    have e2 := y2 ys (SqL.of (S.sub _ _ (l _ _ h2)))
    obtain ⟨v1, p1, p2⟩ := r1.get q1
    obtain ⟨v2, p3, p4⟩ := r2.get q2
    rw [e1] at p1
    cases p1
    rw [e2] at p3
    cases p3
    refine ⟨upd G1 T (.tup [u, v]), S.new hT fun _ z => (by cases z), .tup (.inl upd_same) ?_⟩
    have l2 : Le G (upd G1 T (.tup [u, v])) := l.trans (Le.upd (S.sub.none hT))
    exact .cons (p2.mono l2) (.cons (p4.mono l2) .nil)
theorem items_zipT {G : Hp} {a b : Addr} {xs ys : List V} {ds es : List PyData} (h1 : TupAt P.K G a xs) (h2 : TupAt P.K G b ys) (r1 : DPs P.K G xs ds) (r2 : DPs P.K G ys es) : Items P (RZ.ItzT P.K a b) G (zipD ds es) where
  stop := fun H l => ⟨xs, ys, l.sqT h1.sqT, l.sqT h2.sqT, by
    rw [zipD_length, r1.length, r2.length]
    omega⟩
  go := fun i H hi l => by
    rw [zipD_length, ← r1.length, ← r2.length] at hi
    exact ⟨xs, ys, xs[i]'(by omega), ys[i]'(by omega), l.sqT h1.sqT, l.sqT h2.sqT, List.getElem?_eq_getElem _, List.getElem?_eq_getElem _⟩
  yld := fun {G0 Z pa G1 ad σ H e} S l i d hd x H' y => by
    obtain ⟨T, u, v, rfl, hT, rfl, y1, y2⟩ := y
    obtain ⟨da, db, q1, q2, rfl⟩ := zipD_get hd
    have e1 := y1 xs (S.sub.sqT (l.sqT h1.sqT))
    have e2 := y2 ys (S.sub.sqT (l.sqT h2.sqT))
    obtain ⟨v1, p1, p2⟩ := r1.get q1
    obtain ⟨v2, p3, p4⟩ := r2.get q2
    rw [e1] at p1
    cases p1
    rw [e2] at p3
    cases p3
    refine ⟨upd G1 T (.tup [u, v]), S.new hT fun _ z => (by cases z), .tup (.inl upd_same) ?_⟩
    have l2 : Le G (upd G1 T (.tup [u, v])) := l.trans (Le.upd (S.sub.none hT))
    exact .cons (p2.mono l2) (.cons (p4.mono l2) .nil)
def fZip (f : FA) : FA := fun e => (f e).bind fun ds e1 => match ds with
  | [.list xs, .list ys] => .ok (zipD xs ys) e1
  | [.tuple xs, .tuple ys] => .ok (zipD xs ys) e1
  | _ => .bad
theorem sim_zip {t : TA} {f : FA} (h : SimA P E t f) : SimI P E (RZ.iZipA P.K t) (fZip f) := fun G0 Z pa G ad σ H e S Q q =>
  h.bind S q fun xs ds e1 G1 ad1 H1 S1 hx h1 => by
    split at h1
    · obtain ⟨v, w, rfl, hv, hw⟩ := hx.two
      cases hv with
      | lst a1 b1 =>
        cases hw with
        | lst a2 b2 => exact ⟨_, _, _, _, rfl, .inl ⟨SqL.of (S1.sub _ _ a1), SqL.of (S1.sub _ _ a2), h1 _ G1 ad1 H1 S1.self (items_zip a1 a2 b1 b2)⟩⟩
    · obtain ⟨v, w, rfl, hv, hw⟩ := hx.two
      cases hv with
      | tup a1 b1 =>
        cases hw with
        | tup a2 b2 => exact ⟨_, _, _, _, rfl, .inr ⟨S1.sub.sqT a1.sqT, S1.sub.sqT a2.sqT, h1 _ G1 ad1 H1 S1.self (items_zipT a1 a2 b1 b2)⟩⟩
    · exact h1.elim

/-! ### for -/
def forGo (fg : FG) (fb : FS) : List PyData → FS
  | [], e => .nx e
  | d :: ds, e => match fg d e with
    | none => .bad
    | some e1 => match fb e1 with
      | .nx e2 => forGo fg fb ds e2
      | .ct e2 => forGo fg fb ds e2
      | .bk e2 => .nx e2
      | .rt v e2 => .rt v e2
      | .ex x e2 => .ex x e2
      | .bad => .bad
def fFor (fi : FA) (fg : FG) (fb : FS) : FS := fun e => (fi e).out fun ds e1 => forGo fg fb ds e1
theorem drop_of_get {α : Type} {xs : List α} {i : Nat} {x : α} (h : xs[i]? = some x) : xs.drop i = x :: xs.drop (i + 1) := by
  obtain ⟨h1, h2⟩ := List.getElem?_eq_some_iff.mp h
  rw [List.drop_eq_getElem_cons h1, h2]
theorem sim_for {vs : List Nat} {w : TI} {g : TG} {t : TS} {fi : FA} {fg : FG} {fb : FS} (hi : SimI P E w fi) (hg : SimG P vs g fg) (hb : SimS P E t fb) : SimS P E (tFor w g t) (fFor fi fg fb) := fun G0 Z pa G ad σ H e S D h =>
  hi.out S h fun J ds e1 G1 ad1 H1 S1 hJ h1 => by
    refine ⟨fun i m σ H => m + i = ds.length ∧ ∃ G' ad' e', Sat P G1 Z pa G' ad' σ H e' ∧ PostS P E G' Z pa D (forGo fg fb (ds.drop i) e'), ⟨ds.length, by simp, G1, ad1, e1, S1.self, by simpa using h1⟩, ?_⟩
    rintro i m σ' H' ⟨hm, G2, ad2, e2, S2, h2⟩
    cases hd : ds[i]? with
    | none =>
      have hl : ds.length ≤ i := List.getElem?_eq_none_iff.mp hd
      have : i = ds.length := by omega
      subst this
      rw [List.drop_length] at h2
      exact .inl ⟨hJ.stop _ (S2.g0.trans S2.sub), h2 G2 ad2 σ' H' S2.self⟩
    | some d =>
      have hl : i < ds.length := (List.getElem?_eq_some_iff.mp hd).1
      rw [drop_of_get hd] at h2
      unfold forGo at h2
      refine .inr ⟨hJ.go i _ hl (S2.g0.trans S2.sub), fun σ3 H3 => ∃ G' ad' e', Sat P G1 Z pa G' ad' σ3 H3 e' ∧ PostS P E G' Z pa D (forGo fg fb (ds.drop (i + 1)) e'), fun σ3 H3 ⟨G', ad', e', S', h'⟩ => ⟨m - 1, by omega, by omega, G', ad', e', S', h'⟩, fun x H3 y => ?_⟩
      obtain ⟨G3, S3, hx⟩ := hJ.yld S2 S2.g0 i d hd x H3 y
      have h3 := PostS.mono h2 S3.g0
      cases q : fg d e2 with
      | none =>
        rw [q] at h3
        exact h3.elim
      | some e3 =>
        rw [q] at h3
        refine hg _ _ _ _ _ _ _ _ _ _ _ S3 hx q _ fun ad4 σ4 S4 _ => hb _ _ _ _ _ _ _ _ S4 _ ?_
        have base : ∀ {G' : Hp}, Le G3 G' → Le G1 G' := fun l => (S2.g0.trans S3.g0).trans l
        dsimp only at h3
        cases q2 : fb e3 with
        | nx e4 =>
          rw [q2] at h3
          exact fun G' ad' σ5 H5 S5 => ⟨G', ad', e4, { S5 with g0 := base S5.g0 }, PostS.mono h3 S5.g0⟩
        | ct e4 =>
          rw [q2] at h3
          exact fun G' ad' σ5 H5 S5 => ⟨G', ad', e4, { S5 with g0 := base S5.g0 }, PostS.mono h3 S5.g0⟩
        | bk e4 =>
          rw [q2] at h3
          exact fun G' ad' σ5 H5 S5 => h3 G' ad' σ5 H5 S5
        | rt v e4 =>
          rw [q2] at h3
          exact fun w G' ad' σ5 H5 S5 r => h3 w G' ad' σ5 H5 S5 r
        | ex x e4 =>
          rw [q2] at h3
          exact fun c dd G' ad' σ5 H5 S5 r => h3 c dd G' ad' σ5 H5 S5 r
        | bad =>
          rw [q2] at h3
          exact h3
/-! ### while: so many turns as it takes -/
def whileGo (fc : FT) (fb : FS) : Nat → Sl → Option Out
  | 0, _ => none
  | n + 1, e => match fc e with
    | .ok true e1 => match fb e1 with
      | .nx e2 => whileGo fc fb n e2
      | .ct e2 => whileGo fc fb n e2
      | .bk e2 => some (.nx e2)
      | .rt v e2 => some (.rt v e2)
      | .ex x e2 => some (.ex x e2)
      | .bad => some .bad
    | .ok false e1 => some (.nx e1)
    | .ex x e1 => some (.ex x e1)
    | .bad => some .bad
open Classical in
noncomputable def fWhile (fc : FT) (fb : FS) : FS := fun e => if h : ∃ n o, whileGo fc fb n e = some o then h.choose_spec.choose else .bad
theorem whileGo_mono {fc : FT} {fb : FS} : ∀ {n m : Nat} {e : Sl} {o : Out}, whileGo fc fb n e = some o → n ≤ m → whileGo fc fb m e = some o
  | 0, _, _, _, h, _ => by cases h
  | n + 1, 0, _, _, _, l => by omega
  | n + 1, m + 1, e, o, h, l => by
    unfold whileGo at h ⊢
    split at h
    · split at h
      · exact whileGo_mono h (by omega)
      · exact whileGo_mono h (by omega)
      all_goals exact h
    all_goals exact h
theorem fWhile_eq {fc : FT} {fb : FS} {n : Nat} {e : Sl} {o : Out} (h : whileGo fc fb n e = some o) : fWhile fc fb e = o := by
  have hx : ∃ n o, whileGo fc fb n e = some o := ⟨n, o, h⟩
  unfold fWhile
  rw [dif_pos hx]
  have h2 := hx.choose_spec.choose_spec
  have a := whileGo_mono h (Nat.le_max_left n hx.choose)
  have b := whileGo_mono h2 (Nat.le_max_right n hx.choose)
  rw [a] at b
  exact (Option.some.inj b).symm
theorem fWhile_goes {fc : FT} {fb : FS} {e : Sl} : (∃ n, whileGo fc fb n e = some (fWhile fc fb e)) ∨ fWhile fc fb e = .bad := by
  by_cases hx : ∃ n o, whileGo fc fb n e = some o
  · obtain ⟨n, o, h⟩ := hx
    exact .inl ⟨n, by rw [fWhile_eq h]; exact h⟩
  · right
    unfold fWhile
    rw [dif_neg hx]
theorem sim_while {c : TT} {t : TS} {fc : FT} {fb : FS} (hc : SimT P E c fc) (hb : SimS P E t fb) : SimS P E (tWhile c t) (fWhile fc fb) := fun G0 Z pa G ad σ H e S D h => by
  rcases fWhile_goes (fc := fc) (fb := fb) (e := e) with ⟨n, hn⟩ | hn
  · refine ⟨fun m σ H => ∃ G' ad' e' o, Sat P G Z pa G' ad' σ H e' ∧ whileGo fc fb m e' = some o ∧ PostS P E G' Z pa D o, ⟨n, G, ad, e, _, S.self, hn, h⟩, ?_⟩
    rintro m σ1 H1 ⟨G1, ad1, e1, o, S1, h1, h2⟩
    cases m with
    | zero => cases h1
    | succ m =>
      unfold whileGo at h1
      refine hc _ _ _ _ _ _ _ _ S1 _ ?_
      cases q : fc e1 with
      | ok b e2 =>
        rw [q] at h1
        intro b' G2 ad2 H2 S2 hb'
        subst hb'
        cases b' with
        | false =>
          dsimp only at h1
          cases h1
          exact h2 G2 ad2 σ1 H2 S2
        | true =>
          dsimp only at h1
          refine ⟨fun σ3 H3 => ∃ G' ad' e' o, Sat P G Z pa G' ad' σ3 H3 e' ∧ whileGo fc fb m e' = some o ∧ PostS P E G' Z pa D o, fun σ3 H3 z => ⟨m, Nat.lt_succ_self m, z⟩, hb _ _ _ _ _ _ _ _ S2 _ ?_⟩
          have base : ∀ {G' : Hp}, Le G2 G' → Le G G' := fun l => (S1.g0.trans S2.g0).trans l
          have post : ∀ {G' : Hp}, Le G2 G' → PostS P E G' Z pa D o := fun l => PostS.mono h2 (S2.g0.trans l)
          cases q2 : fb e2 with
          | nx e3 =>
            rw [q2] at h1
            exact fun G' ad' σ5 H5 S5 => ⟨G', ad', e3, o, { S5 with g0 := base S5.g0 }, h1, post S5.g0⟩
          | ct e3 =>
            rw [q2] at h1
            exact fun G' ad' σ5 H5 S5 => ⟨G', ad', e3, o, { S5 with g0 := base S5.g0 }, h1, post S5.g0⟩
          | bk e3 =>
            rw [q2] at h1
            cases h1
            exact fun G' ad' σ5 H5 S5 => h2 G' ad' σ5 H5 { S5 with g0 := S2.g0.trans S5.g0 }
          | rt v e3 =>
            rw [q2] at h1
            cases h1
            exact fun w G' ad' σ5 H5 S5 r => h2 w G' ad' σ5 H5 { S5 with g0 := S2.g0.trans S5.g0 } r
          | ex x e3 =>
            rw [q2] at h1
            cases h1
            exact fun c dd G' ad' σ5 H5 S5 r => h2 c dd G' ad' σ5 H5 { S5 with g0 := S2.g0.trans S5.g0 } r
          | bad =>
            rw [q2] at h1
            cases h1
            exact h2
      | ex x e2 =>
        rw [q] at h1
        cases h1
        exact fun c dd G' ad' H5 S5 r => h2 c dd G' ad' σ1 H5 S5 r
      | bad =>
        rw [q] at h1
        cases h1
        exact h2
  · rw [hn] at h
    exact h.elim
end
end FL

set_option maxRecDepth 100000
set_option maxHeartbeats 1000000
/-! FL, comprehensions, own lists. -/
namespace FL
open PySem PySem.Spec PyProof.Rows L2
section
variable {P : Par} {E : XK}
def R.noex {α : Type} : R α → R α
  | .ex _ _ => .bad
  | r => r
def wipeE (e : Sl) : List Nat → Sl
  | [] => e
  | v :: vs => (wipeE e vs).set v .un
theorem wipeE_length (e : Sl) : ∀ vs : List Nat, (wipeE e vs).length = e.length
  | [] => rfl
  | v :: vs => by rw [wipeE, List.length_set, wipeE_length]
theorem wipeE_get {e : Sl} {j : Nat} {s : Slot} : ∀ {vs : List Nat}, (wipeE e vs)[j]? = some s → s = .un ∨ (j ∉ vs ∧ e[j]? = some s)
  | [], h => .inr ⟨by simp, h⟩
  | v :: vs, h => by
    unfold wipeE at h
    by_cases hv : v = j
    · left
      subst hv
      rw [List.getElem?_set] at h
      simp only [if_true] at h
      split at h
      · exact (Option.some.inj h).symm
      · cases h
    · rw [List.getElem?_set_ne hv] at h
      rcases wipeE_get h with q | ⟨q1, q2⟩
      · exact .inl q
      · exact .inr ⟨fun z => by
          rcases List.mem_cons.mp z with z | z
          · exact hv z.symm
          · exact q1 z, q2⟩
theorem wipe_get {σ : L2.St} {j : Nat} : ∀ {vs : List Nat}, j ∉ vs → (L2.wipe σ vs)[j]? = σ[j]?
  | [], _ => rfl
  | v :: vs, h => by
    show ((L2.wipe σ vs).set v none)[j]? = _
    rw [List.getElem?_set_ne (fun z => h (by rw [z]; exact List.mem_cons_self))]
    exact wipe_get fun z => h (List.mem_cons_of_mem _ z)
theorem wipe_in {σ : L2.St} {j : Nat} : ∀ {vs : List Nat}, j ∈ vs → (L2.wipe σ vs)[j]? = if j < σ.length then some none else none
  | v :: vs, h => by
    show ((L2.wipe σ vs).set v none)[j]? = _
    by_cases hv : v = j
    · subst hv
      rw [List.getElem?_set, L2.wipe_length]
      simp
    · rw [List.getElem?_set_ne hv]
      rcases List.mem_cons.mp h with z | z
      · exact absurd z.symm hv
      · exact wipe_in z
theorem wipe_keep {σ σ' : L2.St} {vs : List Nat} (k : Keep vs σ σ') : L2.wipe σ' vs = L2.wipe σ vs := by
  refine List.ext_getElem? fun j => ?_
  by_cases hj : j ∈ vs
  · rw [wipe_in hj, wipe_in hj, k.1]
  · rw [wipe_get hj, wipe_get hj, k.2 j hj]
theorem wipe_wipe {σ : L2.St} {vs : List Nat} : L2.wipe (L2.wipe σ vs) vs = L2.wipe σ vs := by
  refine wipe_keep ⟨L2.wipe_length _ _, fun j hj => wipe_get hj⟩
theorem Sat.wipe {G0 Z : Hp} {pa : Nat → Addr} {G : Hp} {ad : Nat → Addr} {σ : L2.St} {H : Hp} {e : Sl} (vs : List Nat) (S : Sat P G0 Z pa G ad σ H e) : Sat P G0 Z pa G ad (L2.wipe σ vs) H (wipeE e vs) := by
  have op : ∀ {s : Slot}, s.pin = true → s.own = true := fun {s} q => by cases s <;> first | rfl | cases q
  have ow : ∀ {j : Nat} {s : Slot}, (wipeE e vs)[j]? = some s → s.own = true → j ∉ vs ∧ e[j]? = some s := fun {j s} h k => by
    rcases wipeE_get h with q | q
    · subst q
      cases k
    · exact q
  refine { S with len := (by rw [L2.wipe_length, wipeE_length]; exact S.len), dat := fun i d h => ?_, own := fun i s h k => ?_, inj := fun i j s t h1 h2 k1 k2 => S.inj i j s t (ow h1 k1).2 (ow h2 k2).2 k1 k2, noz := fun i s h k => S.noz i s (ow h k).2 k, pin := fun i s h k => S.pin i s (ow h (op k)).2 k }
  · rcases wipeE_get h with q | ⟨q1, q2⟩
    · cases q
    · obtain ⟨v, h1, h2⟩ := S.dat i d q2
      exact ⟨v, by rw [wipe_get q1]; exact h1, h2⟩
  · obtain ⟨q1, q2⟩ := ow h k
    rw [wipe_get q1]
    exact S.own i s q2 k
/-- behind the block: the block's own slots as they were -/
def restore (vs : List Nat) (e e' : Sl) : Sl := vs.foldr (fun v l => match e[v]? with
  | some s => l.set v s
  | none => l) e'
theorem restore_length (vs : List Nat) (e e' : Sl) : (restore vs e e').length = e'.length := by
  unfold restore
  induction vs with
  | nil => rfl
  | cons v vs ih =>
    rw [List.foldr_cons]
    split
    · rw [List.length_set, ih]
    · exact ih
theorem restore_get {e e' : Sl} {j : Nat} {s : Slot} (hl : e.length = e'.length) : ∀ {vs : List Nat}, (restore vs e e')[j]? = some s → (j ∈ vs ∧ e[j]? = some s) ∨ (j ∉ vs ∧ e'[j]? = some s)
  | [], h => .inr ⟨by simp, h⟩
  | v :: vs, h => by
    unfold restore at h
    rw [List.foldr_cons] at h
    by_cases hv : v = j
    · subst hv
      left
      refine ⟨List.mem_cons_self, ?_⟩
      cases q : e[v]? with
      | none =>
        rw [q] at h
        have h1 : v < (restore vs e e').length := (List.getElem?_eq_some_iff.mp h).1
        rw [restore_length, ← hl] at h1
        rw [List.getElem?_eq_getElem h1] at q
        cases q
      | some t =>
        rw [q] at h
        dsimp only at h
        have h0 : ((restore vs e e').set v t)[v]? = some s := h
        have h1 : v < (restore vs e e').length := by
          have := (List.getElem?_eq_some_iff.mp h0).1
          rwa [List.length_set] at this
        rw [List.getElem?_set_self h1] at h0
        exact h0
    · have h' : (restore vs e e')[j]? = some s := by
        cases q : e[v]? with
        | none =>
          rw [q] at h
          exact h
        | some t =>
          rw [q] at h
          dsimp only at h
          rw [List.getElem?_set_ne hv] at h
          exact h
      rcases restore_get hl h' with ⟨q1, q2⟩ | ⟨q1, q2⟩
      · exact .inl ⟨List.mem_cons_of_mem _ q1, q2⟩
      · exact .inr ⟨fun z => by
          rcases List.mem_cons.mp z with z | z
          · exact hv z.symm
          · exact q1 z, q2⟩
def noOwn (e : Sl) (vs : List Nat) : Bool := vs.all fun v => match e[v]? with
  | some s => !s.own
  | none => true
theorem noOwn_get {e : Sl} {vs : List Nat} {j : Nat} {s : Slot} (h : noOwn e vs = true) (hj : j ∈ vs) (q : e[j]? = some s) : s.own = false := by
  have := List.all_eq_true.mp h j hj
  rw [q] at this
  simpa using this
/-- the state behind a block is one of the code around it -/
theorem Sat.unwipe {G0 Z G1 Z1 : Hp} {pa : Nat → Addr} {G G' : Hp} {ad ad' : Nat → Addr} {σ : L2.St} {H H' : Hp} {e e' : Sl} {vs : List Nat} (S : Sat P G0 Z pa G ad σ H e) (S' : Sat P G1 Z1 pa G' ad' (L2.wipe σ vs) H' e') (l : Le G G') (hn : noOwn e vs = true) :
    Sat P G1 Z1 pa G' ad' σ H' (restore vs e e') := by
  have hl : e.length = e'.length := by rw [← S.len, ← S'.len, L2.wipe_length]
  have op : ∀ {s : Slot}, s.pin = true → s.own = true := fun {s} q => by cases s <;> first | rfl | cases q
  have ow : ∀ {j : Nat} {s : Slot}, (restore vs e e')[j]? = some s → s.own = true → j ∉ vs ∧ e'[j]? = some s := fun {j s} h k => by
    rcases restore_get hl h with ⟨q1, q2⟩ | q
    · rw [noOwn_get hn q1 q2] at k
      cases k
    · exact q
  refine { S' with len := (by rw [restore_length, ← hl]; exact S.len), dat := fun i d h => ?_, own := fun i s h k => ?_, inj := fun i j s t h1 h2 k1 k2 => S'.inj i j s t (ow h1 k1).2 (ow h2 k2).2 k1 k2, noz := fun i s h k => S'.noz i s (ow h k).2 k, pin := fun i s h k => S'.pin i s (ow h (op k)).2 k }
  · rcases restore_get hl h with ⟨q1, q2⟩ | ⟨q1, q2⟩
    · obtain ⟨v, h1, h2⟩ := S.dat i d q2
      exact ⟨v, h1, h2.mono l⟩
    · obtain ⟨v, h1, h2⟩ := S'.dat i d q2
      rw [wipe_get q1] at h1
      exact ⟨v, h1, h2⟩
  · obtain ⟨q1, q2⟩ := ow h k
    have := S'.own i s q2 k
    rw [wipe_get q1] at this
    exact this
/-! ### the block's list -/
def zput (Z : Hp) (D : Addr) (o : HO) : Hp := fun b => if b = D then some o else Z b
theorem Sat.zadd {G0 Z : Hp} {pa : Nat → Addr} {G : Hp} {ad : Nat → Addr} {σ : L2.St} {H : Hp} {e : Sl} {D : Addr} {vs : List V} (S : Sat P G0 Z pa G ad σ H e) (h : H D = none) : Sat P G (zput Z D (.lst vs)) pa G ad σ (upd H D (.lst vs)) e := by
  have ne : ∀ {b : Addr} {u : HO}, H b = some u → b ≠ D := fun q => ne_of_none q h
  refine { g0 := Le.refl G, sub := fun b o q => ?_, z := fun b o q => ?_, zt := fun b ps q => ?_, gt := S.gt, tabs := S.tabs.ext fun b u q => ?_, len := S.len, dat := S.dat, own := fun i s q k => ?_, inj := S.inj, noz := fun i s q k => ?_, pin := S.pin }
  · have := S.sub b o q
    rw [upd_ne (ne this)]
    exact this
  · unfold zput at q
    split at q
    · rename_i c
      cases q
      rw [c]
      exact ⟨upd_same, S.sub.none h⟩
    · rename_i c
      obtain ⟨q1, q2⟩ := S.z b o q
      rw [upd_ne c]
      exact ⟨q1, q2⟩
  · unfold zput at q
    split at q
    · cases q
    · exact S.zt b ps q
  · rw [upd_ne (ne q)]
    exact q
  · obtain ⟨h1, h2, h3⟩ := S.own i s q k
    obtain ⟨u, hu, _⟩ := h3.some k
    exact ⟨h1, h2, h3.mono (Le.refl G) (upd_ne (ne hu))⟩
  · obtain ⟨h1, h2, h3⟩ := S.own i s q k
    obtain ⟨u, hu, _⟩ := h3.some k
    unfold zput
    rw [if_neg (ne hu)]
    exact S.noz i s q k
theorem tabs_but {T : List (Addr × Str)} {H H' : Hp} {D : Addr} {vs : List V} (t : LamX.Tabs T H) (hD : H D = some (.lst vs)) (hk : ∀ b, b ≠ D → H' b = H b) : LamX.Tabs T H' := fun p hp => by
  obtain ⟨ps, h1, h2, h3⟩ := t p hp
  have n : ∀ {b : Addr} {o : HO}, H b = some o → (∀ ws, o ≠ .lst ws) → b ≠ D := fun {b o} q c z => by
    rw [z, hD] at q
    exact c vs (Option.some.inj q).symm
  refine ⟨ps, by rw [hk _ (n h1 fun _ z => by cases z)]; exact h1, h2, fun pos cv q => ?_⟩
  obtain ⟨c, e1, e2⟩ := h3 pos cv q
  exact ⟨c, e1, by rw [hk _ (n e2 fun _ z => by unfold LamX.CodeO at z; cases z)]; exact e2⟩
/-- the block's list, changed -/
theorem Sat.zset {G0 Z : Hp} {pa : Nat → Addr} {G : Hp} {ad : Nat → Addr} {σ : L2.St} {H : Hp} {e : Sl} {D : Addr} {vs ws : List V} (S : Sat P G0 (zput Z D (.lst vs)) pa G ad σ H e) : Sat P G0 (zput Z D (.lst ws)) pa G ad σ (upd H D (.lst ws)) e := by
  have hz : zput Z D (.lst vs) D = some (.lst vs) := by
    unfold zput
    rw [if_pos rfl]
  obtain ⟨hD, gD⟩ := S.z D _ hz
  have nG : ∀ {b : Addr} {u : HO}, G b = some u → b ≠ D := fun q => ne_of_none q gD
  have nO : ∀ {i : Nat} {s : Slot}, e[i]? = some s → s.own = true → ad i ≠ D := fun {i s} q k z => by
    have := S.noz i s q k
    rw [z, hz] at this
    cases this
  refine { g0 := S.g0, sub := fun b o q => ?_, z := fun b o q => ?_, zt := fun b ps q => ?_, gt := S.gt, tabs := tabs_but S.tabs hD fun b hb => upd_ne hb, len := S.len, dat := S.dat, own := fun i s q k => ?_, inj := S.inj, noz := fun i s q k => ?_, pin := S.pin }
  · rw [upd_ne (nG q)]
    exact S.sub b o q
  · unfold zput at q
    split at q
    · rename_i c
      cases q
      rw [c]
      exact ⟨upd_same, gD⟩
    · rename_i c
      have : zput Z D (.lst vs) b = some o := by
        unfold zput
        rw [if_neg c]
        exact q
      obtain ⟨q1, q2⟩ := S.z b o this
      rw [upd_ne c]
      exact ⟨q1, q2⟩
  · unfold zput at q
    split at q
    · cases q
    · rename_i c
      refine S.zt b ps ?_
      unfold zput
      rw [if_neg c]
      exact q
  · obtain ⟨h1, h2, h3⟩ := S.own i s q k
    exact ⟨h1, h2, h3.mono (Le.refl G) (upd_ne (nO q k))⟩
  · have := S.noz i s q k
    unfold zput at this ⊢
    rw [if_neg (nO q k)] at this ⊢
    exact this
/-- .. and taken out -/
def hdel (H : Hp) (D : Addr) : Hp := fun b => if b = D then none else H b
theorem upd_hdel {H : Hp} {D : Addr} {o : HO} (h : H D = some o) : upd (hdel H D) D o = H := by
  funext b
  by_cases hb : b = D
  · rw [hb, upd_same, h]
  · rw [upd_ne hb]
    unfold hdel
    rw [if_neg hb]
theorem Sat.zdel {G0 Z : Hp} {pa : Nat → Addr} {G : Hp} {ad : Nat → Addr} {σ : L2.St} {H : Hp} {e : Sl} {D : Addr} {vs : List V} (S : Sat P G0 (zput Z D (.lst vs)) pa G ad σ H e) (hZ : Z D = none) : Sat P G0 Z pa G ad σ (hdel H D) e ∧ H D = some (.lst vs) := by
  have hz : zput Z D (.lst vs) D = some (.lst vs) := by
    unfold zput
    rw [if_pos rfl]
  obtain ⟨hD, gD⟩ := S.z D _ hz
  have hk : ∀ {b : Addr}, b ≠ D → hdel H D b = H b := fun {b} c => by
    unfold hdel
    rw [if_neg c]
  have nO : ∀ {i : Nat} {s : Slot}, e[i]? = some s → s.own = true → ad i ≠ D := fun {i s} q k z => by
    have := S.noz i s q k
    rw [z, hz] at this
    cases this
  refine ⟨{ g0 := S.g0, sub := fun b o q => ?_, z := fun b o q => ?_, zt := fun b ps q => ?_, gt := S.gt, tabs := tabs_but S.tabs hD fun b hb => hk hb, len := S.len, dat := S.dat, own := fun i s q k => ?_, inj := S.inj, noz := fun i s q k => ?_, pin := S.pin }, hD⟩
  · rw [hk (ne_of_none q gD)]
    exact S.sub b o q
  · have c : b ≠ D := ne_of_none q hZ
    have : zput Z D (.lst vs) b = some o := by
      unfold zput
      rw [if_neg c]
      exact q
    obtain ⟨q1, q2⟩ := S.z b o this
    rw [hk c]
    exact ⟨q1, q2⟩
  · have c : b ≠ D := ne_of_none q hZ
    refine S.zt b ps ?_
    unfold zput
    rw [if_neg c]
    exact q
  · obtain ⟨h1, h2, h3⟩ := S.own i s q k
    exact ⟨h1, h2, h3.mono (Le.refl G) (hk (nO q k))⟩
  · have := S.noz i s q k
    unfold zput at this
    rw [if_neg (nO q k)] at this
    exact this
/-! ### comprehensions -/
def compGo (fg : FG) (ft : FT) (fe : FE) (own : List Nat) : List PyData → Sl → List PyData → R (List PyData)
  | [], e, acc => .ok acc e
  | d :: ds, e, acc => match fg d e with
    | none => .bad
    | some e1 => (ft e1).noex.bind fun b e2 => if b = true then (fe e2).noex.bind fun y e3 => if acc.length < sizeLine then compGo fg ft fe own ds (wipeE e3 own) (acc ++ [y]) else .bad
      else compGo fg ft fe own ds (wipeE e2 own) acc
def fComp (fi : FA) (fg : FG) (ft : FT) (fe : FE) (own : List Nat) : FA := fun e => (fi e).bind fun ds e1 => if noOwn e1 own = true then (compGo fg ft fe own ds (wipeE e1 own) []).bind fun ys e2 => .ok ys (restore own e1 e2) else .bad
abbrev E00 : XK := fun _ _ _ => False
theorem Sim.block {α β : Type} {G0 Z : Hp} {pa ad : Nat → Addr} {G : Hp} {σ : L2.St} {H : Hp} {e : Sl} {Rel : Hp → β → α → Prop} {t : L2.St → Hp → (β → Hp → Prop) → Prop} {f : Sl → R α} {Qa : β → Hp → Prop} {C : Hp → R α → Prop}
    (ha : Sim P E00 Rel t f) (S : Sat P G0 Z pa G ad σ H e) (hb : C G (f e).noex) (nb : ∀ G, ¬ C G .bad) (mono : ∀ G' r, Le G G' → C G r → C G' r)
    (c : ∀ v d e' G' ad' H', Sat P G Z pa G' ad' σ H' e' → Rel G' v d → C G' (.ok d e') → Qa v H') : t σ H Qa := by
  refine ha _ _ _ _ _ _ _ _ S Qa ?_
  cases q : f e with
  | ok d e' =>
    rw [q] at hb
    exact fun v G' ad' H' S' r => c v d e' G' ad' H' S' r (mono G' _ S'.g0 hb)
  | ex x e' =>
    rw [q] at hb
    exact (nb G hb).elim
  | bad =>
    rw [q] at hb
    exact (nb G hb).elim
theorem sim_comp {own : List Nat} {w : TI} {g : TG} {tt : TT} {te : TE} {fi : FA} {fg : FG} {ft : FT} {fe : FE} (hi : SimI P E w fi) (hg : SimG P own g fg) (ht : SimT P E00 tt ft) (he : SimE P E00 te fe) : SimF P E (tLc w g tt te own) (fComp fi fg ft fe own) := fun G0 Z pa G ad σ H e S Q q =>
  hi.bindF S q fun J ds e1 G1 ad1 H1 S1 hJ h1 => by
    intro D hD
    split at h1
    · rename_i hno
      have hZ : Z D = none := by
        cases c : Z D with
        | none => rfl
        | some o =>
          have := (S1.z D o c).1
          rw [hD] at this
          cases this
      -- what is wanted of the rest's result
      let C : Hp → R (List PyData) → Prop := fun G' r => PostF P E G' Z pa σ Q (r.bind fun ys e2 => .ok ys (restore own e1 e2))
      have Cmono : ∀ G' G'' r, Le G' G'' → C G' r → C G'' r := fun G' G'' r l h => PostF.mono h l
      refine ⟨fun i m H => m + i = ds.length ∧ ∃ G' ad' e' acc vs, Sat P G1 (zput Z D (.lst vs)) pa G' ad' (L2.wipe σ own) H e' ∧ DPs P.K G' vs acc ∧ C G' (compGo fg ft fe own (ds.drop i) e' acc), ⟨ds.length, by simp, G1, ad1, wipeE e1 own, [], [], (S1.zadd hD).wipe own, .nil, by simpa using h1⟩, ?_⟩
      rintro i m H2 ⟨hm, G2, ad2, e2, acc, vs, S2, hacc, h2⟩
      cases hd : ds[i]? with
      | none =>
        have hl : ds.length ≤ i := List.getElem?_eq_none_iff.mp hd
        have : i = ds.length := by omega
        subst this
        rw [List.drop_length] at h2
        refine .inl ⟨hJ.stop _ (S2.g0.trans S2.sub), ?_⟩
        have S3 := Sat.unwipe S1 S2 S2.g0 hno
        obtain ⟨S4, hHD⟩ := S3.zdel hZ
        have h3 : PostF P E G2 Z pa σ Q (.ok acc (restore own e1 e2)) := h2
        have := h3 vs G2 ad2 (hdel H2 D) D S4.self hacc (by unfold hdel; rw [if_pos rfl])
        rw [upd_hdel hHD] at this
        exact this
      | some d =>
        have hl : i < ds.length := (List.getElem?_eq_some_iff.mp hd).1
        rw [drop_of_get hd] at h2
        unfold compGo at h2
        refine .inr ⟨hJ.go i _ hl (S2.g0.trans S2.sub), fun H3 => ∃ G' ad' e' acc vs, Sat P G1 (zput Z D (.lst vs)) pa G' ad' (L2.wipe σ own) H3 e' ∧ DPs P.K G' vs acc ∧ C G' (compGo fg ft fe own (ds.drop (i + 1)) e' acc), fun H3 z => ⟨m - 1, by omega, by omega, z⟩, fun x H3 y => ?_⟩
        obtain ⟨G3, S3, hx⟩ := hJ.yld S2 S2.g0 i d hd x H3 y
        have h3 := Cmono _ _ _ S3.g0 h2
        have acc3 := hacc.mono S3.g0
        cases q : fg d e2 with
        | none =>
          rw [q] at h3
          exact h3.elim
        | some e3 =>
          rw [q] at h3
          dsimp only at h3
          refine hg _ _ _ _ _ _ _ _ _ _ _ S3 hx q _ fun ad4 σ4 S4 k4 => ⟨?_, ?_⟩
          · rw [wipe_keep k4, wipe_wipe]
          have hw : L2.wipe σ4 own = L2.wipe σ own := by rw [wipe_keep k4, wipe_wipe]
          refine ht.block S4 (C := fun G' r => C G' (r.bind fun b e2 => if b = true then (fe e2).noex.bind fun y e3 => if acc.length < sizeLine then compGo fg ft fe own (ds.drop (i + 1)) (wipeE e3 own) (acc ++ [y]) else .bad else compGo fg ft fe own (ds.drop (i + 1)) (wipeE e2 own) acc)) h3 (fun _ z => z) (fun G' r l z => Cmono _ _ _ l z) ?_
          intro b b' e5 G5 ad5 H5 S5 hb h5
          subst hb
          have l5 : Le G1 G5 := (S2.g0.trans S3.g0).trans S5.g0
          cases b with
          | false =>
            rw [if_neg Bool.false_ne_true]
            dsimp only [R.bind] at h5
            rw [if_neg Bool.false_ne_true] at h5
            exact ⟨G5, ad5, wipeE e5 own, acc, vs, by rw [← hw]; exact ({ S5 with g0 := l5 } : Sat P G1 _ pa G5 ad5 σ4 H5 e5).wipe own, acc3.mono S5.g0, h5⟩
          | true =>
            rw [if_pos rfl]
            dsimp only [R.bind] at h5
            rw [if_pos rfl] at h5
            refine he.block S5 (C := fun G' r => C G' (r.bind fun y e3 => if acc.length < sizeLine then compGo fg ft fe own (ds.drop (i + 1)) (wipeE e3 own) (acc ++ [y]) else .bad)) h5 (fun _ z => z) (fun G' r l z => Cmono _ _ _ l z) ?_
            intro y dy e6 G6 ad6 H6 S6 hy h6
            dsimp only [R.bind] at h6
            split at h6
            · rename_i hz
              have hD6 := (S6.z D (.lst vs) (by unfold zput; rw [if_pos rfl])).1
              have a6 := (acc3.mono S5.g0).mono S6.g0
              refine ⟨vs, hD6, by rw [a6.length]; exact hz, G6, ad6, wipeE e6 own, acc ++ [dy], vs ++ [y], ?_, a6.append (.cons hy .nil), h6⟩
              rw [← hw]
              exact (Sat.zset (ws := vs ++ [y]) ({ S6 with g0 := l5.trans S6.g0 } : Sat P G1 _ pa G6 ad6 σ4 H6 e6)).wipe own
            · exact h6.elim
    · exact h1.elim

/-! ### lists of the frame's own -/
/-- a slot gets a new object -/
theorem Sat.setOwn {G0 Z : Hp} {pa : Nat → Addr} {G : Hp} {ad : Nat → Addr} {σ : L2.St} {H : Hp} {e : Sl} {i : Nat} {s0 s : Slot} {p : Addr} {o : HO} (S : Sat P G0 Z pa G ad σ H e) (h0 : e[i]? = some s0) (hp : H p = none) (ho : s.own = true) (hpin : s.pin = false)
    (ob : ObjIs P.K G (upd H p o) p s) : Sat P G Z pa G (fun j => if j = i then p else ad j) (σ.set i (some (.ref p))) (upd H p o) (e.set i s) := by
  have hi : i < e.length := (List.getElem?_eq_some_iff.mp h0).1
  have hi2 : i < σ.length := by rw [S.len]; exact hi
  have ne : ∀ {b : Addr} {u : HO}, H b = some u → b ≠ p := fun q => ne_of_none q hp
  have op : ∀ {s : Slot}, s.pin = true → s.own = true := fun {s} q => by cases s <;> first | rfl | cases q
  have at_ : ∀ {j : Nat} {t : Slot}, (e.set i s)[j]? = some t → (j = i ∧ t = s) ∨ (j ≠ i ∧ e[j]? = some t) := fun {j t} q => by
    by_cases hj : i = j
    · rw [← hj, List.getElem?_set_self hi] at q
      exact .inl ⟨hj.symm, (Option.some.inj q).symm⟩
    · rw [List.getElem?_set_ne hj] at q
      exact .inr ⟨Ne.symm hj, q⟩
  have nad : ∀ {j : Nat} {t : Slot}, e[j]? = some t → t.own = true → ad j ≠ p := fun {j t} q k => by
    obtain ⟨_, _, h3⟩ := S.own j t q k
    obtain ⟨u, hu, _⟩ := h3.some k
    exact ne hu
  refine { g0 := Le.refl G, sub := fun b u q => ?_, z := fun b u q => ?_, zt := S.zt, gt := S.gt, tabs := S.tabs.ext fun b u q => ?_, len := (by rw [List.length_set, List.length_set]; exact S.len), dat := fun j d q => ?_, own := fun j t q k => ?_, inj := fun j l t u q1 q2 k1 k2 a => ?_, noz := fun j t q k => ?_, pin := fun j t q k => ?_ }
  · have := S.sub b u q
    rw [upd_ne (ne this)]
    exact this
  · obtain ⟨q1, q2⟩ := S.z b u q
    rw [upd_ne (ne q1)]
    exact ⟨q1, q2⟩
  · rw [upd_ne (ne q)]
    exact q
  · rcases at_ q with ⟨_, q2⟩ | ⟨q1, q2⟩
    · rw [← q2] at ho
      cases ho
    · rw [List.getElem?_set_ne (Ne.symm q1)]
      exact S.dat j d q2
  · rcases at_ q with ⟨q1, q2⟩ | ⟨q1, q2⟩
    · subst q1
      subst q2
      rw [if_pos rfl]
      exact ⟨List.getElem?_set_self hi2, S.sub.none hp, ob⟩
    · rw [if_neg q1, List.getElem?_set_ne (Ne.symm q1)]
      obtain ⟨h1, h2, h3⟩ := S.own j t q2 k
      exact ⟨h1, h2, h3.mono (Le.refl G) (upd_ne (nad q2 k))⟩
  · rcases at_ q1 with ⟨a1, a2⟩ | ⟨a1, a2⟩
    · rcases at_ q2 with ⟨b1, b2⟩ | ⟨b1, b2⟩
      · rw [a1, b1]
      · rw [if_pos a1, if_neg b1] at a
        exact absurd a.symm (nad b2 k2)
    · rcases at_ q2 with ⟨b1, b2⟩ | ⟨b1, b2⟩
      · rw [if_neg a1, if_pos b1] at a
        exact absurd a (nad a2 k1)
      · rw [if_neg a1, if_neg b1] at a
        exact S.inj j l t u a2 b2 k1 k2 a
  · rcases at_ q with ⟨a1, a2⟩ | ⟨a1, a2⟩
    · rw [if_pos a1]
      cases c : Z p with
      | none => rfl
      | some u => exact absurd rfl (ne (S.z p u c).1)
    · rw [if_neg a1]
      exact S.noz j t a2 k
  · rcases at_ q with ⟨a1, a2⟩ | ⟨a1, a2⟩
    · rw [a2, hpin] at k
      cases k
    · rw [if_neg a1]
      exact S.pin j t a2 k
/-- the object of a slot is changed -/
theorem Sat.change {G0 Z : Hp} {pa : Nat → Addr} {G : Hp} {ad : Nat → Addr} {σ : L2.St} {H : Hp} {e : Sl} {i : Nat} {s0 s : Slot} {o : HO} (S : Sat P G0 Z pa G ad σ H e) (h0 : e[i]? = some s0) (k0 : s0.own = true) (ho : s.own = true) (hpin : s.pin = s0.pin)
    (ob : ObjIs P.K G (upd H (ad i) o) (ad i) s) : Sat P G Z pa G ad σ (upd H (ad i) o) (e.set i s) := by
  have hi : i < e.length := (List.getElem?_eq_some_iff.mp h0).1
  obtain ⟨a1, a2, a3⟩ := S.own i s0 h0 k0
  obtain ⟨u0, hu0, mu0, nt0⟩ := a3.some k0
  have op : ∀ {s : Slot}, s.pin = true → s.own = true := fun {s} q => by cases s <;> first | rfl | cases q
  have at_ : ∀ {j : Nat} {t : Slot}, (e.set i s)[j]? = some t → (j = i ∧ t = s) ∨ (j ≠ i ∧ e[j]? = some t) := fun {j t} q => by
    by_cases hj : i = j
    · rw [← hj, List.getElem?_set_self hi] at q
      exact .inl ⟨hj.symm, (Option.some.inj q).symm⟩
    · rw [List.getElem?_set_ne hj] at q
      exact .inr ⟨Ne.symm hj, q⟩
  have old : ∀ {j : Nat} {t : Slot}, (e.set i s)[j]? = some t → t.own = true → ∃ t', e[j]? = some t' ∧ t'.own = true ∧ t'.pin = t.pin := fun {j t} q k => by
    rcases at_ q with ⟨q1, q2⟩ | ⟨q1, q2⟩
    · rw [q1, q2]
      exact ⟨s0, h0, k0, hpin.symm⟩
    · exact ⟨t, q2, k, rfl⟩
  refine { g0 := Le.refl G, sub := fun b u q => ?_, z := fun b u q => ?_, zt := S.zt, gt := S.gt, tabs := fun p hp => ?_, len := (by rw [List.length_set]; exact S.len), dat := fun j d q => ?_, own := fun j t q k => ?_, inj := fun j l t u q1 q2 k1 k2 a => ?_, noz := fun j t q k => ?_, pin := fun j t q k => ?_ }
  · rw [upd_ne (ne_of_none q a2)]
    exact S.sub b u q
  · obtain ⟨q1, q2⟩ := S.z b u q
    have : b ≠ ad i := fun z => by
      have := S.noz i s0 h0 k0
      rw [← z, q] at this
      cases this
    rw [upd_ne this]
    exact ⟨q1, q2⟩
  · obtain ⟨ps, h1, h2, h3⟩ := S.tabs p hp
    have n1 : p.1 ≠ ad i := fun z => by
      rw [z, hu0] at h1
      exact nt0 ps (Option.some.inj h1)
    refine ⟨ps, by rw [upd_ne n1]; exact h1, h2, fun pos cv q => ?_⟩
    obtain ⟨c, e1, e2⟩ := h3 pos cv q
    have n2 : c ≠ ad i := fun z => by
      rw [z, hu0] at e2
      cases s0 with
      | un => cases k0
      | dat d => cases k0
      | lst p xs =>
        obtain ⟨vs, z1, _⟩ := a3
        rw [hu0, Option.some.inj e2] at z1
        unfold LamX.CodeO at z1
        cases z1
      | dK p xs =>
        obtain ⟨vs, z1, _⟩ := a3
        rw [hu0, Option.some.inj e2] at z1
        unfold LamX.CodeO at z1
        cases z1
      | dT p xs =>
        obtain ⟨vs, z1, _⟩ := a3
        rw [hu0, Option.some.inj e2] at z1
        unfold LamX.CodeO at z1
        cases z1
    exact ⟨c, e1, by rw [upd_ne n2]; exact e2⟩
  · rcases at_ q with ⟨_, q2⟩ | ⟨q1, q2⟩
    · rw [← q2] at ho
      cases ho
    · exact S.dat j d q2
  · rcases at_ q with ⟨q1, q2⟩ | ⟨q1, q2⟩
    · subst q1
      subst q2
      exact ⟨a1, a2, ob⟩
    · obtain ⟨h1, h2, h3⟩ := S.own j t q2 k
      have n : ad j ≠ ad i := fun z => q1 (S.inj j i t s0 q2 h0 k k0 z)
      exact ⟨h1, h2, h3.mono (Le.refl G) (upd_ne n)⟩
  · obtain ⟨t', b1, b2, _⟩ := old q1 k1
    obtain ⟨u', c1, c2, _⟩ := old q2 k2
    exact S.inj j l t' u' b1 c1 b2 c2 a
  · obtain ⟨t', b1, b2, _⟩ := old q k
    exact S.noz j t' b1 b2
  · obtain ⟨t', b1, b2, b3⟩ := old q (op k)
    exact S.pin j t' b1 (b3.trans k)
def pinnedAt (e : Sl) (i : Nat) : Bool := match e[i]? with
  | some s => s.pin
  | none => true
/-- x = a new list that will be changed -/
def fOwn (i : Nat) (f : FA) : FS := fun e => (f e).out fun ds e1 => if pinnedAt e1 i = true then .bad else .nx (e1.set i (.lst false ds))
theorem sim_own {i : Nat} {t : TE} {f : FA} (ht : SimF P E t f) : SimS P E (tAsg t (gName i)) (fOwn i f) := fun G0 Z pa G ad σ H e S D h => by
  refine ht _ _ _ _ _ _ _ _ S _ ?_
  unfold fOwn at h
  cases q : f e with
  | ok ds e1 =>
    rw [q] at h
    dsimp only [R.out] at h
    intro vs G1 ad1 H1 p S1 hd hp
    split at h
    · exact h.elim
    · rename_i c
      unfold pinnedAt at c
      cases q2 : e1[i]? with
      | none =>
        rw [q2] at c
        exact absurd rfl c
      | some s0 => exact PostS.mono h S1.g0 G1 _ _ _ (S1.setOwn q2 hp (s := .lst false ds) rfl rfl ⟨vs, upd_same, hd⟩)
  | ex x e1 =>
    rw [q] at h
    exact fun cls dd G' ad' H' S' r => h cls dd G' ad' σ H' S' r
  | bad =>
    rw [q] at h
    exact h
/-- x.append(e) -/
def fApp (i : Nat) (f : FE) : FS := fun e => match e[i]? with
  | some (.lst _ _) => (f e).out fun d e1 => match e1[i]? with
    | some (.lst p xs) => if xs.length < sizeLine then .nx (e1.set i (.lst p (xs ++ [d]))) else .bad
    | _ => .bad
  | _ => .bad
theorem sim_app {i : Nat} {t : TE} {f : FE} (ht : SimE P E t f) : SimS P E (tDrop (tBM P.K "list" rAppend (tVar i) (tCons t tNil))) (fApp i f) := fun G0 Z pa G ad σ H e S D h => by
  unfold fApp at h
  split at h
  · rename_i p xs hx
    obtain ⟨h1, vs, h2, h3⟩ := S.ownL hx
    refine ⟨_, h1, .inl ⟨rfl, _, SqL.of h2⟩, ?_⟩
    refine ht.out S h fun v d e1 G1 ad1 H1 S1 hv h4 => ?_
    split at h4
    · rename_i p' ys hy
      obtain ⟨g1, ws, g2, g3⟩ := S1.ownL hy
      rw [same_ref h1 g1]
      split at h4
      · rename_i c
        refine ⟨_, ws, v, rfl, rfl, g2, by rw [g3.length]; exact c, ?_⟩
        exact h4 G1 ad1 σ _ (S1.change (s := .lst p' (ys ++ [d])) hy rfl rfl rfl ⟨_, upd_same, g3.append (.cons hv .nil)⟩)
      · exact h4.elim
    · exact h4.elim
  · exact h.elim
/-- x.extend(e), e a list -/
def fExt (i : Nat) (f : FE) : FS := fun e => match e[i]? with
  | some (.lst _ _) => (f e).out fun d e1 => match e1[i]?, d with
    | some (.lst p xs), .list ds => if xs.length + ds.length ≤ sizeLine then .nx (e1.set i (.lst p (xs ++ ds))) else .bad
    | _, _ => .bad
  | _ => .bad
theorem sim_ext {i : Nat} {t : TE} {f : FE} (ht : SimE P E t f) : SimS P E (tDrop (tBM P.K "list" rExtend (tVar i) (tCons t tNil))) (fExt i f) := fun G0 Z pa G ad σ H e S D h => by
  unfold fExt at h
  split at h
  · rename_i p xs hx
    obtain ⟨h1, vs, h2, h3⟩ := S.ownL hx
    refine ⟨_, h1, .inl ⟨rfl, _, SqL.of h2⟩, ?_⟩
    refine ht.out S h fun v d e1 G1 ad1 H1 S1 hv h4 => ?_
    split at h4
    · rename_i p' ys ds hy
      obtain ⟨g1, ws, g2, g3⟩ := S1.ownL hy
      rw [same_ref h1 g1]
      cases hv with
      | lst b1 b2 =>
        split at h4
        · rename_i c
          refine ⟨_, _, ws, _, rfl, rfl, g2, S1.sub _ _ b1, by rw [g3.length, b2.length]; exact c, ?_⟩
          exact h4 G1 ad1 σ _ (S1.change (s := .lst p' (ys ++ ds)) hy rfl rfl rfl ⟨_, upd_same, g3.append b2⟩)
        · exact h4.elim
    · exact h4.elim
  · exact h.elim
/-- x[k] = e -/
def fSetI (i : Nat) (fk f : FE) : FS := fun e => (f e).out fun d e1 => match e1[i]? with
  | some (.lst _ _) => (fk e1).out fun k e2 => match e2[i]?, k with
    | some (.lst p xs), .int j => match ixN xs.length j with
      | some n => .nx (e2.set i (.lst p (xs.set n d)))
      | none => .bad
    | _, _ => .bad
  | _ => .bad
theorem sim_setI {i : Nat} {tk t : TE} {fk f : FE} (hk : SimE P E tk fk) (ht : SimE P E t f) : SimS P E (tAsg t (gSub (tVar i) tk rSetL)) (fSetI i fk f) := fun G0 Z pa G ad σ H e S D h =>
  ht.out S h fun v d e1 G1 ad1 H1 S1 hv h1 => by
    split at h1
    · rename_i p xs hx
      obtain ⟨a1, vs, a2, a3⟩ := S1.ownL hx
      refine ⟨_, a1, hk.out S1 h1 fun w k e2 G2 ad2 H2 S2 hw h2 => ?_⟩
      split at h2
      · rename_i p' ys j hy
        obtain ⟨g1, ws, g2, g3⟩ := S2.ownL hy
        rw [same_ref a1 g1]
        cases hw
        split at h2
        · rename_i n hn
          refine ⟨_, ws, j, n, rfl, rfl, g2, by rw [g3.length]; exact hn, ?_⟩
          exact h2 G2 ad2 σ _ (S2.change (s := .lst p' (ys.set n d)) hy rfl rfl rfl ⟨_, upd_same, g3.set (hv.mono S2.g0) n⟩)
        · exact h2.elim
      · exact h2.elim
    · exact h1.elim
end
end FL

set_option maxRecDepth 100000
set_option maxHeartbeats 1000000
/-! FL, own defs: their promise, their call. -/
namespace FL
open PySem PySem.Spec PyProof.Rows L2
section
variable {P : Par} {E : XK}
/-- a def that keeps the function F of slots -/
def spF (P : Par) (n : Nat) (F : Sl → R PyData) : Sp := fun vs H Q E => vs.length = n ∧ ∃ (G0 Z : Hp) (pa : Nat → Addr) (G : Hp) (ad : Nat → Addr) (as : Sl), Sat P G0 Z pa G ad (vs.map some) H as ∧ (∀ s ∈ as, s.own = true → s.pin = true) ∧ Post P E G Z pa (vs.map some) (DP P.K) Q (F as)
/-- the arguments behind the call -/
def outs : Sl → Sl → Option Sl
  | [], _ => some []
  | _ :: _, [] => none
  | a :: as, b :: bs => if a.own = true then (if b.pin = true then (outs as bs).map (b :: ·) else none) else (outs as bs).map (a :: ·)
def R.fin (as : Sl) (d : PyData) (e : Sl) : R PyData := match outs as e with
  | some as' => .ok d as'
  | none => .bad
def R.finX (as : Sl) (x : Exn) (e : Sl) : R PyData := match outs as e with
  | some as' => .ex x as'
  | none => .bad
/-- a def with so many slots behind its parameters -/
def fRun (n : Nat) (body : FS) : Sl → R PyData := fun as => match body (as ++ List.replicate n .un) with
  | .rt d e => R.fin as d e
  | .nx e => R.fin as .none e
  | .ex x e => R.finX as x e
  | _ => .bad
theorem outs_get : ∀ {as e as' : Sl} {i : Nat} {s : Slot}, outs as e = some as' → as'[i]? = some s → (as[i]? = some s ∧ s.own = false) ∨ (e[i]? = some s ∧ s.pin = true ∧ ∃ a, as[i]? = some a ∧ a.own = true)
  | [], _, _, _, _, h, q => by
    cases h
    simp at q
  | _ :: _, [], _, _, _, h, _ => by cases h
  | a :: as, b :: bs, as', i, s, h, q => by
    unfold outs at h
    split at h
    · rename_i ha
      split at h
      · rename_i hb
        obtain ⟨r, h1, rfl⟩ := Option.map_eq_some_iff.mp h
        cases i with
        | zero =>
          simp at q
          subst q
          exact .inr ⟨rfl, hb, a, rfl, ha⟩
        | succ i => simpa using outs_get h1 (by simpa using q)
      · cases h
    · rename_i ha
      obtain ⟨r, h1, rfl⟩ := Option.map_eq_some_iff.mp h
      cases i with
      | zero =>
        simp at q
        subst q
        exact .inl ⟨rfl, by simpa using ha⟩
      | succ i => simpa using outs_get h1 (by simpa using q)
theorem outs_length : ∀ {as e as' : Sl}, outs as e = some as' → as'.length = as.length
  | [], _, _, h => by
    cases h
    rfl
  | _ :: _, [], _, h => by cases h
  | a :: as, b :: bs, as', h => by
    unfold outs at h
    split at h
    · split at h
      · obtain ⟨r, h1, rfl⟩ := Option.map_eq_some_iff.mp h
        simp [outs_length h1]
      · cases h
    · obtain ⟨r, h1, rfl⟩ := Option.map_eq_some_iff.mp h
      simp [outs_length h1]
theorem pin_own {s : Slot} (h : s.pin = true) : s.own = true := by cases s <;> first | rfl | cases h
theorem Sat.start {G0 Z : Hp} {pa : Nat → Addr} {G : Hp} {ad : Nat → Addr} {H : Hp} {as : Sl} {vs : List V} (S : Sat P G0 Z pa G ad (vs.map some) H as) (n : Nat) : Sat P G0 Z pa G ad (vs.map some ++ List.replicate n none) H (as ++ List.replicate n .un) := by
  have hl : vs.length = as.length := by
    have := S.len
    rwa [List.length_map] at this
  have at_ : ∀ {i : Nat} {s : Slot}, (as ++ List.replicate n .un)[i]? = some s → s ≠ .un → as[i]? = some s := fun {i s} h c => by
    by_cases hi : i < as.length
    · rwa [List.getElem?_append_left hi] at h
    · rw [List.getElem?_append_right (by omega), List.getElem?_replicate] at h
      split at h
      · exact absurd (Option.some.inj h).symm c
      · cases h
  have un : ∀ {s : Slot}, s.own = true → s ≠ .un := fun {s} h z => by
    subst z
    cases h
  have st : ∀ {i : Nat} {o : Option V}, (vs.map some)[i]? = some o → (vs.map some ++ List.replicate n none)[i]? = some o := fun {i o} h => by
    rw [List.getElem?_append_left (List.getElem?_eq_some_iff.mp h).1]
    exact h
  refine { S with len := by simp [hl], dat := fun i d h => ?_, own := fun i s h k => ?_, inj := fun i j s t h1 h2 k1 k2 => S.inj i j s t (at_ h1 (un k1)) (at_ h2 (un k2)) k1 k2, noz := fun i s h k => S.noz i s (at_ h (un k)) k, pin := fun i s h k => S.pin i s (at_ h (un (pin_own k))) k }
  · obtain ⟨v, h1, h2⟩ := S.dat i d (at_ h fun z => by cases z)
    exact ⟨v, st h1, h2⟩
  · obtain ⟨h1, h2, h3⟩ := S.own i s (at_ h (un k)) k
    exact ⟨st h1, h2, h3⟩
/-- back among the arguments -/
theorem Sat.fin {G0 Z G1 : Hp} {pa : Nat → Addr} {G G' : Hp} {ad ad' : Nat → Addr} {H H' : Hp} {as e as' : Sl} {vs : List V} {σ : L2.St} (S : Sat P G0 Z pa G ad (vs.map some) H as) (hp : ∀ s ∈ as, s.own = true → s.pin = true) (S' : Sat P G1 Z pa G' ad' σ H' e) (l : Le G G') (h : outs as e = some as') :
    Sat P G1 Z pa G' ad' (vs.map some) H' as' := by
  have hl : vs.length = as.length := by
    have := S.len
    rwa [List.length_map] at this
  have ow : ∀ {i : Nat} {s : Slot}, as'[i]? = some s → s.own = true → e[i]? = some s ∧ s.pin = true ∧ ∃ a, as[i]? = some a ∧ a.own = true := fun {i s} q k => by
    rcases outs_get h q with ⟨_, q2⟩ | q
    · rw [k] at q2
      cases q2
    · exact q
  refine { S' with len := (by rw [List.length_map, outs_length h]; exact hl), dat := fun i d q => ?_, own := fun i s q k => ?_, inj := fun i j s t h1 h2 k1 k2 => S'.inj i j s t (ow h1 k1).1 (ow h2 k2).1 k1 k2, noz := fun i s q k => S'.noz i s (ow q k).1 k, pin := fun i s q k => S'.pin i s (ow q (pin_own k)).1 k }
  · rcases outs_get h q with ⟨q1, _⟩ | ⟨_, q2, _⟩
    · obtain ⟨v, h1, h2⟩ := S.dat i d q1
      exact ⟨v, h1, h2.mono l⟩
    · cases q2
  · obtain ⟨q1, q2, a, q3, q4⟩ := ow q k
    obtain ⟨h1, h2, h3⟩ := S'.own i s q1 k
    have e1 := S'.pin i s q1 q2
    have e2 := S.pin i a q3 (hp a (List.mem_of_getElem? q3) q4)
    have e3 := (S.own i a q3 q4).v
    rw [e2, ← e1] at e3
    exact ⟨e3, h2, h3⟩
/-- THE RULE for a def's body -/
theorem spF_body {n k : Nat} {t : TS} {body : FS} {N : List Str} {vs : List V} {H : Hp} {Q : VK} (hN : N.length = n + k) (hb : SimS P E t body) (h : spF P n (fRun k body) vs H Q E) : t { nx := fun _ H' => Q .non H', rt := Q } (L2.start N vs) H := by
  obtain ⟨hn, G0, Z, pa, G, ad, as, S, hp, h⟩ := h
  unfold L2.start
  have hk : N.length - vs.length = k := by omega
  rw [hk]
  refine hb _ _ _ _ _ _ _ _ (S.start k) _ ?_
  unfold fRun at h
  cases q : body (as ++ List.replicate k .un) with
  | rt d e =>
    rw [q] at h
    dsimp only [R.fin] at h
    intro v G' ad' σ' H' S' hd
    cases q2 : outs as e with
    | none =>
      rw [q2] at h
      exact h.elim
    | some as' =>
      rw [q2] at h
      exact h v G' ad' H' (S.fin hp S' S'.g0 q2) hd
  | nx e =>
    rw [q] at h
    dsimp only [R.fin] at h
    intro G' ad' σ' H' S'
    cases q2 : outs as e with
    | none =>
      rw [q2] at h
      exact h.elim
    | some as' =>
      rw [q2] at h
      exact h .non G' ad' H' (S.fin hp S' S'.g0 q2) .non
  | ex x e =>
    rw [q] at h
    dsimp only [R.finX] at h
    intro cls dd G' ad' σ' H' S' hx
    cases q2 : outs as e with
    | none =>
      rw [q2] at h
      exact h.elim
    | some as' =>
      rw [q2] at h
      exact h cls dd G' ad' H' (S.fin hp S' S'.g0 q2) hx
  | bk e =>
    rw [q] at h
    exact h.elim
  | ct e =>
    rw [q] at h
    exact h.elim
  | bad =>
    rw [q] at h
    exact h.elim
theorem spF_len {n : Nat} {F : Sl → R PyData} (vs : List V) (H : Hp) (Q : VK) (E : XK) (h : spF P n F vs H Q E) : vs.length = n := h.1

/-! ### calls -/
/-- an argument: data, or a slot's own object -/
inductive Arg where
  | d (d : PyData)
  | o (i : Nat)
inductive ArgR (K : PySem.W.Frag) (σ : L2.St) (G : Hp) : V → Arg → Prop
  | d {v : V} {d : PyData} : DP K G v d → ArgR K σ G v (.d d)
  | o {v : V} {i : Nat} : σ[i]? = some (some v) → ArgR K σ G v (.o i)
def ArgsR (K : PySem.W.Frag) (σ : L2.St) (G : Hp) : List V → List Arg → Prop := Paired (ArgR K σ G)
theorem ArgsR.mono {K : PySem.W.Frag} {σ : L2.St} {G G' : Hp} (l : Le G G') {vs : List V} {as : List Arg} (h : ArgsR K σ G vs as) : ArgsR K σ G' vs as := Paired.mapP h fun _ _ q => by
  cases q with
  | d h => exact .d (h.mono l)
  | o h => exact .o h
abbrev FAg := Sl → R (List Arg)
def SimAg (P : Par) (E : XK) (t : TA) (f : FAg) : Prop := ∀ (G0 Z : Hp) (pa : Nat → Addr) (G : Hp) (ad : Nat → Addr) (σ : L2.St) (H : Hp) (e : Sl), Sat P G0 Z pa G ad σ H e → ∀ Q : List V → Hp → Prop, Post P E G Z pa σ (ArgsR P.K σ) Q (f e) → t σ H Q
def faNil : FAg := fun e => .ok [] e
def faCons (f : FE) (g : FAg) : FAg := fun e => (f e).bind fun d e1 => (g e1).bind fun as e2 => .ok (.d d :: as) e2
def faOwn (i : Nat) (g : FAg) : FAg := fun e => match e[i]? with
  | some s => if s.own = true then (g e).bind fun as e2 => .ok (.o i :: as) e2 else .bad
  | none => .bad
theorem SimAg.bind {β γ : Type} {G0 G Z : Hp} {pa ad : Nat → Addr} {σ : L2.St} {H : Hp} {e : Sl} {Rel' : Hp → β → γ → Prop} {t : TA} {f : FAg} {k : List Arg → Sl → R γ} {Q : β → Hp → Prop} {Qa : List V → Hp → Prop}
    (ha : SimAg P E t f) (S : Sat P G0 Z pa G ad σ H e) (h : Post P E G Z pa σ Rel' Q ((f e).bind k))
    (c : ∀ v d e' G' ad' H', Sat P G Z pa G' ad' σ H' e' → ArgsR P.K σ G' v d → Post P E G' Z pa σ Rel' Q (k d e') → Qa v H') : t σ H Qa := by
  refine ha _ _ _ _ _ _ _ _ S Qa ?_
  cases q : f e with
  | ok d e' =>
    rw [q] at h
    exact fun v G' ad' H' S' r => c v d e' G' ad' H' S' r (Post.mono h S'.g0)
  | ex x e' =>
    rw [q] at h
    exact h
  | bad =>
    rw [q] at h
    exact h
theorem sim_aNil : SimAg P E tNil faNil := fun G0 Z pa G ad σ H e S Q q => q [] G ad H S.self .nil
theorem sim_aCons {t : TE} {u : TA} {f : FE} {g : FAg} (ht : SimE P E t f) (hu : SimAg P E u g) : SimAg P E (tCons t u) (faCons f g) := fun G0 Z pa G ad σ H e S Q q =>
  ht.bind S q fun x d e1 G1 ad1 H1 S1 hx h1 => hu.bind S1 h1 fun xs ds e2 G2 ad2 H2 S2 hxs h2 => h2 _ G2 ad2 H2 S2.self (.cons (.d (hx.mono S2.g0)) hxs)
theorem sim_aOwn {i : Nat} {u : TA} {g : FAg} (hu : SimAg P E u g) : SimAg P E (tCons (tVar i) u) (faOwn i g) := fun G0 Z pa G ad σ H e S Q q => by
  unfold faOwn at q
  split at q
  · rename_i s hs
    split at q
    · rename_i c
      have h1 := (S.own i s hs c).v
      exact ⟨_, h1, hu.bind S q fun xs ds e2 G2 ad2 H2 S2 hxs h2 => h2 _ G2 ad2 H2 S2.self (.cons (.o h1) hxs)⟩
    · exact q.elim
  · exact q.elim
def Slot.rep (p : Bool) : Slot → Slot
  | .lst _ xs => .lst p xs
  | .dK _ xs => .dK p xs
  | .dT _ xs => .dT p xs
  | s => s
theorem Slot.rep_own (p : Bool) (s : Slot) : (s.rep p).own = s.own := by cases s <;> rfl
theorem Slot.rep_pin (p : Bool) (s : Slot) (h : s.own = true) : (s.rep p).pin = p := by cases s <;> first | rfl | cases h
theorem ObjIs.rep {K : PySem.W.Frag} {G H : Hp} {a : Addr} {s : Slot} (p : Bool) (h : ObjIs K G H a s) : ObjIs K G H a (s.rep p) := by cases s <;> exact h
/-- the slots that the called def begins with -/
def slotsOf (e : Sl) : List Arg → Option Sl
  | [] => some []
  | .d d :: as => (slotsOf e as).map (.dat d :: ·)
  | .o i :: as => match e[i]? with
    | some s => if s.own = true then (slotsOf e as).map (s.rep true :: ·) else none
    | none => none
def ownArg : List Arg → Option (Nat × Nat)
  | [] => none
  | .d _ :: as => (ownArg as).map fun p => (p.1 + 1, p.2)
  | .o i :: _ => some (0, i)
def oneOwn : List Arg → Bool
  | [] => true
  | .d _ :: as => oneOwn as
  | .o _ :: as => as.all fun a => match a with
    | .d _ => true
    | .o _ => false
/-- behind the call: the slot whose object was handed in -/
def back (e : Sl) (as : List Arg) (ss : Sl) : Option Sl := match ownArg as with
  | none => some e
  | some (k, i) => match ss[k]?, e[i]? with
    | some s, some s0 => if s.pin = true then some (e.set i (s.rep s0.pin)) else none
    | _, _ => none
def callF (F : Sl → R PyData) (as : List Arg) (e : Sl) : R PyData := if oneOwn as = true then match slotsOf e as with
    | some ss => match F ss with
      | .ok d ss' => match back e as ss' with
        | some e' => .ok d e'
        | none => .bad
      | .ex x ss' => match back e as ss' with
        | some e' => .ex x e'
        | none => .bad
      | .bad => .bad
    | none => .bad
  else .bad
def fCall (F : Sl → R PyData) (fa : FAg) : FE := fun e => (fa e).bind fun as e1 => callF F as e1
theorem slotsOf_get {e : Sl} : ∀ {as : List Arg} {ss : Sl} {k : Nat} {s : Slot}, slotsOf e as = some ss → ss[k]? = some s → (∃ d, as[k]? = some (.d d) ∧ s = .dat d) ∨ ∃ i s0, as[k]? = some (.o i) ∧ e[i]? = some s0 ∧ s0.own = true ∧ s = s0.rep true
  | [], _, _, _, h, q => by
    cases h
    simp at q
  | .d d :: as, ss, k, s, h, q => by
    unfold slotsOf at h
    obtain ⟨r, h1, rfl⟩ := Option.map_eq_some_iff.mp h
    cases k with
    | zero =>
      simp at q
      exact .inl ⟨d, rfl, q.symm⟩
    | succ k => simpa using slotsOf_get h1 (by simpa using q)
  | .o i :: as, ss, k, s, h, q => by
    unfold slotsOf at h
    split at h
    · rename_i s0 hs
      split at h
      · rename_i c
        obtain ⟨r, h1, rfl⟩ := Option.map_eq_some_iff.mp h
        cases k with
        | zero =>
          simp at q
          exact .inr ⟨i, s0, rfl, hs, c, q.symm⟩
        | succ k => simpa using slotsOf_get h1 (by simpa using q)
      · cases h
    · cases h
theorem slotsOf_length {e : Sl} : ∀ {as : List Arg} {ss : Sl}, slotsOf e as = some ss → ss.length = as.length
  | [], _, h => by
    cases h
    rfl
  | .d d :: as, ss, h => by
    unfold slotsOf at h
    obtain ⟨r, h1, rfl⟩ := Option.map_eq_some_iff.mp h
    simp [slotsOf_length h1]
  | .o i :: as, ss, h => by
    unfold slotsOf at h
    split at h
    · split at h
      · obtain ⟨r, h1, rfl⟩ := Option.map_eq_some_iff.mp h
        simp [slotsOf_length h1]
      · cases h
    · cases h
theorem ownArg_at : ∀ {as : List Arg} {k i : Nat}, oneOwn as = true → as[k]? = some (.o i) → ownArg as = some (k, i)
  | [], _, _, _, h => by simp at h
  | .d d :: as, 0, i, _, h => by simp at h
  | .d d :: as, k + 1, i, o, h => by
    have ih := ownArg_at (as := as) (k := k) (i := i) o (by simpa using h)
    show (ownArg as).map _ = _
    rw [ih]
    rfl
  | .o j :: as, 0, i, _, h => by
    simp at h
    rw [h]
    rfl
  | .o j :: as, k + 1, i, o, h => by
    have := List.all_eq_true.mp o (.o i) (List.mem_of_getElem? (by simpa using h))
    cases this
theorem ownArg_get : ∀ {as : List Arg} {k i : Nat}, ownArg as = some (k, i) → as[k]? = some (.o i)
  | [], _, _, h => by cases h
  | .d d :: as, k, i, h => by
    unfold ownArg at h
    obtain ⟨⟨k', i'⟩, h1, h2⟩ := Option.map_eq_some_iff.mp h
    cases h2
    simpa using ownArg_get h1
  | .o j :: as, k, i, h => by
    unfold ownArg at h
    cases h
    rfl
theorem paired_get {α β : Type} {F : α → β → Prop} : ∀ {xs : List α} {ys : List β} {i : Nat} {x : α} {y : β}, Paired F xs ys → xs[i]? = some x → ys[i]? = some y → F x y
  | _, _, _, _, _, .nil, h, _ => by simp at h
  | _, _, 0, _, _, .cons r _, h, h' => by
    simp at h h'
    subst h
    subst h'
    exact r
  | _, _, i + 1, _, _, .cons _ r, h, h' => paired_get (i := i) r (by simpa using h) (by simpa using h')
theorem rep_dat {p : Bool} {s : Slot} {d : PyData} (h : s.own = true) : Slot.dat d ≠ s.rep p := fun z => by
  have := congrArg Slot.own z
  rw [Slot.rep_own, h] at this
  cases this
open Classical in
/-- what stands still while the called def runs -/
noncomputable def zCall (Z : Hp) (ad : Nat → Addr) (H : Hp) (e : Sl) (oi : Option Nat) : Hp := fun b => if ∃ i s, e[i]? = some s ∧ s.own = true ∧ ad i = b ∧ oi ≠ some i then H b else if oi.map ad = some b then none else Z b
theorem call_ok {G0 Z : Hp} {pa : Nat → Addr} {G : Hp} {ad : Nat → Addr} {σ : L2.St} {H : Hp} {e : Sl} {F : Sl → R PyData} {as : List Arg} {vs : List V} {Q : VK} {n : Nat} (S : Sat P G0 Z pa G ad σ H e) (ha : ArgsR P.K σ G vs as) (hn : as.length = n)
    (h : Post P E G Z pa σ (DP P.K) Q (callF F as e)) : spF P n F vs H Q E := by
  unfold callF at h
  split at h
  rotate_left
  · exact h.elim
  rename_i one
  cases hs : slotsOf e as with
  | none =>
    rw [hs] at h
    exact h.elim
  | some ss =>
    rw [hs] at h
    dsimp only at h
    have vlen : vs.length = as.length := Paired.length ha
    obtain ⟨oi, hoi⟩ : ∃ oi, oi = (ownArg as).map (·.2) := ⟨_, rfl⟩
    obtain ⟨a0, ha0⟩ : ∃ a0, a0 = (oi.map ad).getD 0 := ⟨_, rfl⟩
    have aV : ∀ {k : Nat} {i : Nat}, as[k]? = some (Arg.o i) → oi = some i ∧ a0 = ad i ∧ (vs.map some)[k]? = σ[i]? := fun {k i} q => by
      have q1 := ownArg_at one q
      have q2 : oi = some i := by
        rw [hoi, q1]
        rfl
      refine ⟨q2, by rw [ha0, q2]; rfl, ?_⟩
      have hk : k < vs.length := by
        rw [vlen]
        exact (List.getElem?_eq_some_iff.mp q).1
      have r := paired_get ha (List.getElem?_eq_getElem hk) q
      rw [List.getElem?_map, List.getElem?_eq_getElem hk]
      cases r with
      | o r => exact r.symm
    have oA : ∀ {i : Nat}, oi = some i → ∃ k s0, as[k]? = some (Arg.o i) ∧ e[i]? = some s0 ∧ s0.own = true := fun {i} q => by
      rw [hoi] at q
      obtain ⟨⟨k, i'⟩, q2, q3⟩ := Option.map_eq_some_iff.mp q
      cases q3
      have hk := ownArg_get q2
      have hk2 : k < ss.length := by
        rw [slotsOf_length hs]
        exact (List.getElem?_eq_some_iff.mp hk).1
      rcases slotsOf_get hs (List.getElem?_eq_getElem hk2) with ⟨d, q4, _⟩ | ⟨j, s0, q4, q5, q6, _⟩
      · rw [hk] at q4
        cases q4
      · rw [hk] at q4
        cases q4
        exact ⟨k, s0, hk, q5, q6⟩
    have slotO : ∀ {k : Nat} {s : Slot}, ss[k]? = some s → s.own = true → ∃ i s0, as[k]? = some (Arg.o i) ∧ e[i]? = some s0 ∧ s0.own = true ∧ s = s0.rep true := fun {k s} q c => by
      rcases slotsOf_get hs q with ⟨d, _, rfl⟩ | q
      · cases c
      · exact q
    have Zo : ∀ {i : Nat} {s : Slot}, e[i]? = some s → s.own = true → oi ≠ some i → zCall Z ad H e oi (ad i) = H (ad i) := fun {i s} h1 h2 h3 => by
      unfold zCall
      rw [if_pos ⟨i, s, h1, h2, rfl, h3⟩]
    have Zz : ∀ {b : Addr} {o : HO}, Z b = some o → zCall Z ad H e oi b = some o := fun {b o} q => by
      unfold zCall
      split
      · exact (S.z b o q).1
      · split
        · rename_i c
          obtain ⟨i, c1, c2⟩ := Option.map_eq_some_iff.mp c
          obtain ⟨k, s0, _, q5, q6⟩ := oA c1
          have := S.noz i s0 q5 q6
          rw [c2, q] at this
          cases this
        · exact q
    have Zs : ∀ {b : Addr} {o : HO}, zCall Z ad H e oi b = some o → H b = some o ∧ G b = none ∧ (∀ ps, o ≠ .tbl ps) ∧ oi.map ad ≠ some b := fun {b o} q => by
      unfold zCall at q
      split at q
      · rename_i c
        obtain ⟨i, s, h1, h2, h3, h4⟩ := c
        obtain ⟨_, g2, g3⟩ := S.own i s h1 h2
        obtain ⟨u, hu, _, nt⟩ := g3.some h2
        rw [h3] at g2 hu
        rw [hu] at q
        cases q
        refine ⟨hu, g2, nt, fun z => ?_⟩
        obtain ⟨j, c1, c2⟩ := Option.map_eq_some_iff.mp z
        obtain ⟨k, s0, _, q5, q6⟩ := oA c1
        exact h4 (by rw [c1, S.inj i j s s0 h1 q5 h2 q6 (h3.trans c2.symm)])
      · split at q
        · cases q
        · rename_i c
          obtain ⟨q1, q2⟩ := S.z b o q
          exact ⟨q1, q2, fun ps z => S.zt b ps (by rw [← z]; exact q), c⟩
    have S2 : Sat P G (zCall Z ad H e oi) (fun _ => a0) G (fun _ => a0) (vs.map some) H ss := by
      refine { g0 := Le.refl G, sub := S.sub, z := fun b o q => ⟨(Zs q).1, (Zs q).2.1⟩, zt := fun b ps q => (Zs q).2.2.1 ps rfl, gt := S.gt, tabs := S.tabs, len := (by rw [List.length_map, vlen, slotsOf_length hs]), dat := fun k d q => ?_, own := fun k s q c => ?_, inj := fun k l s t q1 q2 c1 c2 _ => ?_, noz := fun k s q c => ?_, pin := fun _ _ _ _ => rfl }
      · rcases slotsOf_get hs q with ⟨d', q1, q2⟩ | ⟨i, s0, _, _, q3, q4⟩
        · cases q2
          have hk : k < vs.length := by
            rw [vlen]
            exact (List.getElem?_eq_some_iff.mp q1).1
          have r := paired_get ha (List.getElem?_eq_getElem hk) q1
          refine ⟨vs[k], by rw [List.getElem?_map, List.getElem?_eq_getElem hk]; rfl, ?_⟩
          cases r with
          | d r => exact r
        · exact absurd q4 (rep_dat q3)
      · obtain ⟨i, s0, q1, q2, q3, rfl⟩ := slotO q c
        obtain ⟨_, b1, b2⟩ := aV q1
        obtain ⟨g1, g2, g3⟩ := S.own i s0 q2 q3
        exact ⟨by rw [b2, b1]; exact g1, by rw [b1]; exact g2, by rw [b1]; exact g3.rep true⟩
      · obtain ⟨i, s0, p1, _⟩ := slotO q1 c1
        obtain ⟨j, t0, p2, _⟩ := slotO q2 c2
        have e1 := ownArg_at one p1
        have e2 := ownArg_at one p2
        rw [e1] at e2
        cases e2
        rfl
      · obtain ⟨i, s0, q1, q2, q3, rfl⟩ := slotO q c
        obtain ⟨b0, b1, _⟩ := aV q1
        cases z : zCall Z ad H e oi a0 with
        | none => rfl
        | some o =>
          refine absurd ?_ (Zs z).2.2.2
          rw [b0, b1]
          rfl
    -- the caller's state behind the call
    have after : ∀ {G' : Hp} {ad' : Nat → Addr} {H' : Hp} {ss' e' : Sl}, Sat P G (zCall Z ad H e oi) (fun _ => a0) G' ad' (vs.map some) H' ss' → back e as ss' = some e' → Sat P G Z pa G' ad σ H' e' := by
      intro G' ad' H' ss' e' S' hb
      have olds : ∀ {i : Nat} {s : Slot}, e'[i]? = some s → (e[i]? = some s ∧ (s.own = true → oi ≠ some i)) ∨ (oi = some i ∧ ∃ (k : Nat) (s1 s0 : Slot), as[k]? = some (Arg.o i) ∧ ss'[k]? = some s1 ∧ e[i]? = some s0 ∧ s1.pin = true ∧ s = s1.rep s0.pin) := fun {i s} q => by
        unfold back at hb
        cases hk : ownArg as with
        | none =>
          rw [hk] at hb
          cases hb
          refine .inl ⟨q, fun _ z => ?_⟩
          rw [hoi, hk] at z
          cases z
        | some p =>
          obtain ⟨k, j⟩ := p
          rw [hk] at hb
          dsimp only at hb
          split at hb
          · rename_i s1 s0 h1 h2
            split at hb
            · rename_i c
              cases hb
              have hoj : oi = some j := by
                rw [hoi, hk]
                rfl
              have hj : j < e.length := (List.getElem?_eq_some_iff.mp h2).1
              by_cases hij : j = i
              · subst hij
                rw [List.getElem?_set_self hj] at q
                cases q
                exact .inr ⟨hoj, k, s1, s0, ownArg_get hk, h1, h2, c, rfl⟩
              · rw [List.getElem?_set_ne hij] at q
                refine .inl ⟨q, fun _ z => hij ?_⟩
                rw [hoj] at z
                exact Option.some.inj z
            · cases hb
          · cases hb
      have elen : e'.length = e.length := by
        unfold back at hb
        split at hb
        · cases hb
          rfl
        · split at hb
          · split at hb
            · cases hb
              rw [List.length_set]
            · cases hb
          · cases hb
      have ow : ∀ {i : Nat} {s : Slot}, e'[i]? = some s → s.own = true → ∃ s0, e[i]? = some s0 ∧ s0.own = true ∧ s0.pin = s.pin := fun {i s} q c => by
        rcases olds q with ⟨q1, _⟩ | ⟨q0, k, s1, s0, q1, q2, q3, q4, rfl⟩
        · exact ⟨s, q1, c, rfl⟩
        · obtain ⟨k', s0', _, q6, q7⟩ := oA q0
          rw [q3] at q6
          cases q6
          exact ⟨s0, q3, q7, (Slot.rep_pin _ _ (pin_own q4)).symm⟩
      refine { g0 := S'.g0, sub := S'.sub, z := fun b o q => S'.z b o (Zz q), zt := S.zt, gt := S'.gt, tabs := S'.tabs, len := (by rw [elen]; exact S.len), dat := fun i d q => ?_, own := fun i s q c => ?_, inj := fun i j s t q1 q2 c1 c2 z => ?_, noz := fun i s q c => ?_, pin := fun i s q c => ?_ }
      · rcases olds q with ⟨q1, _⟩ | ⟨_, k, s1, s0, _, _, _, q4, q5⟩
        · obtain ⟨v, h1, h2⟩ := S.dat i d q1
          exact ⟨v, h1, h2.mono S'.g0⟩
        · exact absurd q5 (rep_dat (pin_own q4))
      · rcases olds q with ⟨q1, q2⟩ | ⟨q0, k, s1, s0, q1, q2, q3, q4, rfl⟩
        · obtain ⟨h1, h2, h3⟩ := S.own i s q1 c
          obtain ⟨u, hu, _⟩ := h3.some c
          have z1 := Zo q1 c (q2 c)
          rw [hu] at z1
          obtain ⟨z2, z3⟩ := S'.z _ _ z1
          exact ⟨h1, z3, h3.mono S'.g0 (z2.trans hu.symm)⟩
        · obtain ⟨_, b1, b2⟩ := aV q1
          obtain ⟨h1, h2, h3⟩ := S'.own k s1 q2 (pin_own q4)
          have e1 : ad' k = a0 := S'.pin k s1 q2 q4
          rw [e1, b1] at h1 h2 h3
          exact ⟨by rw [← b2]; exact h1, h2, h3.rep _⟩
      · obtain ⟨s0, a1, a2, _⟩ := ow q1 c1
        obtain ⟨t0, b1, b2, _⟩ := ow q2 c2
        exact S.inj i j s0 t0 a1 b1 a2 b2 z
      · obtain ⟨s0, a1, a2, _⟩ := ow q c
        exact S.noz i s0 a1 a2
      · obtain ⟨s0, a1, a2, a3⟩ := ow q (pin_own c)
        exact S.pin i s0 a1 (a3.trans c)
    refine ⟨by rw [vlen]; exact hn, G, zCall Z ad H e oi, fun _ => a0, G, fun _ => a0, ss, S2, fun s hm hown => ?_, ?_⟩
    · obtain ⟨k, hk⟩ := List.getElem?_of_mem hm
      obtain ⟨i, s0, _, _, q3, rfl⟩ := slotO hk hown
      exact Slot.rep_pin _ _ q3
    · cases hF : F ss with
      | ok d ss' =>
        rw [hF] at h
        dsimp only at h
        intro v G' ad' H' S' hd
        cases hb : back e as ss' with
        | none =>
          rw [hb] at h
          exact h.elim
        | some e' =>
          rw [hb] at h
          exact h v G' ad H' (after S' hb) hd
      | ex x ss' =>
        rw [hF] at h
        dsimp only at h
        intro cls dd G' ad' H' S' hd
        cases hb : back e as ss' with
        | none =>
          rw [hb] at h
          exact h.elim
        | some e' =>
          rw [hb] at h
          exact h cls dd G' ad H' (after S' hb) hd
      | bad =>
        rw [hF] at h
        exact h.elim
/-- a call of a def that keeps F -/
def fCallN (n : Nat) (F : Sl → R PyData) (fa : FAg) : FE := fun e => (fa e).bind fun as e1 => if as.length = n then callF F as e1 else .bad
theorem sim_call {n : Nat} {F : Sl → R PyData} {t : TA} {fa : FAg} (ht : SimAg P E t fa) : SimE P E (tCall (spF P n F) [] E t) (fCallN n F fa) := fun G0 Z pa G ad σ H e S Q q =>
  ht.bind S q fun vs as e1 G1 ad1 H1 S1 ha h1 => by
    rw [List.append_nil]
    split at h1
    · rename_i c
      exact call_ok S1 ha c h1
    · exact h1.elim
end
end FL

set_option maxRecDepth 100000
set_option maxHeartbeats 1000000
/-! all(elt for x in e), the element any expression of the layer (calls, generators within). -/
namespace GX
open PySem PySem.Spec PyProof.Rows L2 GenW
/-- nothing but generators' states, tokens and new objects -/
def Nap (s s' : Shared) : Prop := s'.os = s.os ∧ AllBare s'.gens ∧ ∀ b o, s.heap.get? b = some o → s'.heap.get? b = some o
theorem Nap.refl {s : Shared} (h : AllBare s.gens) : Nap s s := ⟨rfl, h, fun _ _ e => e⟩
theorem Nap.trans {s s1 s2 : Shared} (a : Nap s s1) (b : Nap s1 s2) : Nap s s2 := ⟨b.1.trans a.1, b.2.1, fun c o e => b.2.2 c o (a.2.2 c o e)⟩
theorem bare_set {gs : Array GenState} {n : Nat} {x : GenState} (h : AllBare gs) (hx : x.bare = true) : AllBare (gs.setIfInBounds n x) := fun y hy => by
  obtain ⟨i, hi, rfl⟩ := Array.mem_iff_getElem.mp hy
  have hi2 : i < gs.size := by simpa using hi
  rw [Array.getElem_setIfInBounds hi2]
  split
  · exact hx
  · exact h _ (Array.getElem_mem hi2)
section
variable {X : Cx} {pins : List (Addr × Obj)} {σ : L2.St} {H : Hp} {s s' : Shared}
theorem inv_nap (I : Inv X pins σ H s) (z : Nap s s') : Inv X pins σ H s' := by
  obtain ⟨h', g', d', t', o'⟩ := s'
  obtain ⟨z1, z2, z3⟩ := z
  have e : o' = s.os := z1
  subst e
  exact I.step (g' := g') (t' := t') (d' := d') (ch := []) (fun b hb => absurd hb (by simp)) (fun b o _ _ _ q _ => z3 b o q) (fun b o _ _ _ q _ => ⟨o.slots, z3 b o q⟩) (fun _ _ _ _ n => n) (fun b o _ q => ⟨o, z3 b o q⟩)
    (fun _ _ q => q) (fun _ _ _ q => q) (fun b ps q => ⟨#[], by rw [q]; simp⟩) (fun m hn => hn.keeps z3) (I.hok.kept z3) z2
end
/-- the context of the generator's frame -/
def gCx (X : Cx) (A : Around) (s : Shared) (H : Hp) (env : Env) (fp : List Addr) : Cx := { X with A := A, s_0 := s, H_0 := H, env := env, outer := X.stack, stack := env :: X.stack, ex := fp, fn := fun _ => false, calm := true, pn := [], xe := fun _ _ => False }
/-- the generator expression's names: .0, x, captured ones -/
structure GS (sc scope : Scope) (x : Str) : Prop where
  kind : scope.kind = .function
  co : scope.isCoroutine = false
  cell : ∀ y ∈ scope.names, y.2 ≠ .cell
  dot : scope.names.lookup (".0" : Str) = some NameKind.local
  loc : scope.names.lookup x = some .local
  own : ∀ y ∈ scope.names, y.2 = .local → y.1 = ".0" ∨ y.1 = x
  free : ∀ y ∈ scope.names, y.2 = .free → sc.names.lookup y.1 = some .cell ∨ sc.names.lookup y.1 = some .free
def gsB (sc scope : Scope) (x : Str) : Bool :=
  decide (scope.kind = .function) && !scope.isCoroutine && decide (scope.names.lookup (".0" : Str) = some NameKind.local) && decide (scope.names.lookup x = some .local) &&
    scope.names.all fun y => !decide (y.2 = .cell) && (!decide (y.2 = .local) || decide (y.1 = ".0") || decide (y.1 = x)) && (!decide (y.2 = .free) || decide (sc.names.lookup y.1 = some .cell) || decide (sc.names.lookup y.1 = some .free))
theorem gs_by {sc scope : Scope} {x : Str} (h : gsB sc scope x = true) : GS sc scope x := by
  unfold gsB at h
  simp only [Bool.and_eq_true, Bool.or_eq_true, Bool.not_eq_true', decide_eq_true_eq, decide_eq_false_iff_not, List.all_eq_true] at h
  obtain ⟨⟨⟨⟨h1, h2⟩, h3⟩, h4⟩, h5⟩ := h
  refine ⟨h1, h2, fun y hy => (h5 y hy).1.1, h3, h4, fun y hy e => ?_, fun y hy e => ?_⟩
  · rcases (h5 y hy).1.2 with (z | z) | z
    · exact absurd e z
    · exact .inl z
    · exact .inr z
  · rcases (h5 y hy).2 with (z | z) | z
    · exact absurd e z
    · exact .inl z
    · exact .inr z
theorem GS.has {X : Cx} {scope : Scope} {x : Str} (L : GS X.env.scope scope x) (ok : X.Ok) : ∀ y ∈ scope.names, y.2 = .free → ∃ c, X.env.cells.lookup y.1 = some c := fun y hy e => by
  rcases L.free y hy e with k | k
  · exact ok.has _ (.inl k)
  · exact ok.has _ (.inr k)
abbrev gEnvOf (X : Cx) (scope : Scope) (C : Addr) (code : Value) (bi : Addr) : PySem.Env := genEnv scope (cloFrom X.env.cells scope.names []) C code bi X.env
abbrev gCode (elt iter : Expr) (x : Str) (px : Pos) (scope : Scope) (gpos : Pos) (it : Addr) (env : PySem.Env) : Code := .compLoop (.GeneratorExp elt [⟨.Name x px, iter, [], 0⟩] scope gpos) 0 (.ref it) .none env
abbrev gCode0 (elt iter : Expr) (x : Str) (px : Pos) (scope : Scope) (gpos : Pos) (it : Addr) (env : PySem.Env) : Code := .compStart (.GeneratorExp elt [⟨.Name x px, iter, [], 0⟩] scope gpos) 0 (.ref it) .none env
section
variable {X : Cx} {pins : List (Addr × Obj)} {σ : L2.St} {H : Hp} {s s' : Shared} {elt iter : Expr} {x : Str} {px gpos : Pos} {scope : Scope} {it C bi g : Addr} {code : Value} {ix : Nat} {fp : List Addr} {go : Obj}
/-- the frame stands: s4 ahead of it, s5 behind it and the generator object -/
theorem gen_start {A : Around} {s5 : Shared} {m : Str → Option Value} (I : Inv X pins σ H s) (S : GS X.env.scope scope x) (hN : X.N.Nodup) (hix : X.N[ix]? = some x) (dotN : (".0" : Str) ∉ X.N) (hd : A.handled = none) (hfr : A.frames = some (gEnvOf X scope s.heap.objs.size code bi :: X.stack)) (hbi : bi = builtinsNs)
    (hfp : ∀ b ∈ fp, FpOk X pins H b ∧ b < s.heap.objs.size) (hns : s5.heap.Ns s.heap.objs.size m) (hC : s.heap.objs.size < s5.heap.objs.size) (z : Nap s s5) (hg : s5.heap.get? g = some go) (hgo : ∀ v, go.data ≠ .cell v) (hgn : s.heap.objs.size < g) :
    Inv (gCx X A s H (gEnvOf X scope s.heap.objs.size code bi) fp) [(g, go)] (L2.wipe σ [ix]) H s5 := by
  obtain ⟨z1, z2, z3⟩ := z
  have hfree := S.has I.ok
  have cm : ∀ {y c}, (cloFrom X.env.cells scope.names []).lookup y = some c → X.env.cells.lookup y = some c := fun {y c} e => by
    rcases cloFrom_mem (PySem.mem_of_lookup e) with hm | ⟨h1, h2⟩
    · cases hm
    · obtain ⟨c1, hc⟩ := hfree _ h1 rfl
      have hc : X.env.cells.lookup y = some c1 := hc
      have e2 : c = c1 := by
        rw [h2, hc]
        rfl
      rw [e2]
      exact hc
  have look : ∀ {y}, scope.names.lookup y = some .free → ∃ c, (cloFrom X.env.cells scope.names []).lookup y = some c := fun {y} hl => mem_lookup (cloFrom_has (cells := X.env.cells) (acc := []) (PySem.mem_of_lookup hl))
  have cellK : ∀ {c : Addr} {v : Option Value}, s.heap.IsCell c v → s5.heap.IsCell c v := fun {c v} ⟨o, ho, hd⟩ => ⟨o, z3 _ _ ho, hd⟩
  refine ⟨⟨I.ok.mod, S.kind, I.ok.glob, hbi, Nat.le_refl _, fun y z c e1 e2 => I.ok.inj y z c (cm e1) (cm e2), fun y hy => ?_, fun y c k _ => (by cases k), fun _ => hd, hfr, .inr ⟨rfl, rfl⟩, fun b hb => ⟨?_, fun y c e => ?_⟩, I.bs, Nat.le_trans I.ok.bsz I.sz, fun b o e hb => ?_, fun b hb k => ?_, I.stack, I.stkFree⟩,
    z1, z2, Un.kept z3, ⟨m, hns, fun i y v e1 e2 e3 => ?_⟩, fun y c e => ?_, I.hok.fresh (Nat.le_refl _), fun y c e => I.freeC y c (cm e), fun p hp => ?_, I.hok.kept z3, by rw [L2.wipe_length]; exact I.len⟩
  · have hy : scope.names.lookup y = some .cell ∨ scope.names.lookup y = some .free := hy
    rcases hy with hy | hy
    · exact absurd rfl (S.cell _ (PySem.mem_of_lookup hy))
    · exact look hy
  · exact Nat.ne_of_lt (hfp b hb).2
  · exact (hfp b hb).1.2.2.2.2.1 y c (cm e)
  · rcases (hfp b hb).1.2.2.2.1 with k | k
    · exact I.ok.noex b o e k
    · exact absurd (Nat.lt_of_lt_of_le (Heap.lt_size e) (Nat.le_trans I.ok.bsz k)) (Nat.lt_irrefl _)
  · rcases List.mem_cons.mp (I.stkSub b k) with k | k
    · exact (hfp b hb).1.2.1 k
    · exact (hfp b hb).1.2.2.1 k
  · obtain ⟨e2, hne⟩ := wipe_some e2
    have e3 : Vis scope y := e3
    have hfr : scope.names.lookup y = some .free := by
      rcases e3 with k | k | k
      · rcases S.own _ (PySem.mem_of_lookup k) rfl with q | q
        · exact absurd (by rw [← show y = ".0" from q]; exact List.mem_of_getElem? e1) dotN
        · have q : y = x := q
          rw [q] at e1
          exact absurd (by rw [nodup_ix hN e1 hix]; exact List.mem_singleton.mpr rfl) hne
      · exact absurd rfl (S.cell _ (PySem.mem_of_lookup k))
      · exact k
    obtain ⟨m0, hn, hl⟩ := I.loc
    have hvis : Vis X.env.scope y := (S.free _ (PySem.mem_of_lookup hfr) rfl).elim (fun k => .inr (.inl k)) (fun k => .inr (.inr k))
    obtain ⟨w', r, q⟩ := hl i y v e1 e2 hvis
    obtain ⟨c2, h2⟩ := look hfr
    refine ⟨w', r, .inr ⟨.inr hfr, c2, h2, ?_⟩⟩
    have c1 := cm h2
    rcases q with ⟨k', _⟩ | ⟨_, c3, e', k⟩
    · have k' : X.env.scope.names.lookup y = some .local := k'
      rcases S.free _ (PySem.mem_of_lookup hfr) rfl with k2 | k2 <;> rw [show X.env.scope.names.lookup y = _ from k2] at k' <;> cases k'
    · rw [c1] at e'
      cases e'
      exact cellK k
  · obtain ⟨w', k⟩ := I.cell y c (cm e)
    exact ⟨w', cellK k⟩
  · have hp : p ∈ ([] : List (Addr × Obj)) ++ [(g, go)] := hp
    have e : p = (g, go) := by simpa using hp
    subst e
    refine ⟨hg, I.hok.fresh (Nat.le_of_lt hgn), Nat.ne_of_gt hgn, fun k => ?_, hgo⟩
    rcases List.mem_cons.mp (I.stkSub g k) with k | k
    · have := I.lt
      rw [← k] at this
      exact Nat.lt_irrefl _ (Nat.lt_trans hgn this)
    · exact I.nofs (Nat.le_of_lt hgn) k
/-- back in the maker's context -/
theorem gen_back {A : Around} {H' : Hp} {σ' : L2.St} {ps : List (Addr × Obj)} (I : Inv X pins σ H s) (hfp : ∀ b ∈ fp, FpOk X pins H b ∧ b < s.heap.objs.size) (J : Inv (gCx X A s H (gEnvOf X scope s.heap.objs.size code bi) fp) ps σ' H' s') : Inv X pins σ H' s' :=
  I.call' (ch := fp) J.os J.base J.hok J.bare fun b hb => ⟨(hfp b hb).1.2.2.2.1, (hfp b hb).1.2.1, (hfp b hb).1.2.2.2.2.1, (hfp b hb).1.2.2.2.2.2⟩

/-! ### the protocol: what is wanted of the whole call stands in it -/
def Fin (X : Cx) (pins : List (Addr × Obj)) (σ : L2.St) (Q : VK) (b : Bool) (s : Shared) : Prop := ∀ s', Nap s s' → EP X pins σ Q (.bool b) s'
def gY (X : Cx) (pins : List (Addr × Obj)) (σ : L2.St) (Q : VK) (g : Addr) (go : Obj) : Protocol := fun n s₀ v s kap =>
  ∃ b, v = .bool b ∧ s.heap.get? g = some go ∧ s.heap.NoLimit ∧ AllBare s.gens ∧ (b = true → ∀ s'', Nap s s'' → kap (.send .none) s'') ∧ (b = false → Fin X pins σ Q false s)
def gP (X : Cx) (pins : List (Addr × Obj)) (σ : L2.St) (Q : VK) : Nat → Shared → Shared → Prop := fun n s₀ s => AllBare s.gens ∧ Fin X pins σ Q true s
abbrev gR (X : Cx) (pins : List (Addr × Obj)) (σ : L2.St) (Q : VK) : GenEnd := fun n s₀ r s => r = .ok .next ∧ gP X pins σ Q n s₀ s
/-- the reading's turns -/
def GT (J : It) (g : TG) (te : TE) (ix : Nat) (σ : L2.St) (Q : VK) (W : Nat → Nat → Hp → Prop) : Prop := ∀ i m H, W i m H → (J.stop i H ∧ Q (.bl true) H) ∨ (J.go i H ∧ ∃ Nx : Hp → Prop, (∀ H', Nx H' → ∃ m', m' < m ∧ W (i + 1) m' H') ∧
  ∀ v H', J.yld i H v H' → g v (L2.wipe σ [ix]) H' fun σ2 H2 => L2.wipe σ2 [ix] = L2.wipe σ [ix] ∧ te σ2 H2 fun y H3 => ∃ b, y = .bl b ∧ if b = true then Nx H3 else Q (.bl false) H3)
/-- the loop's code -/
theorem seg_all {J : It} {te : TE} {tn : Nat → Heap → Prop} {W : Nat → Nat → Hp → Prop} {Q : VK} {Ag A2 : Around} {genv : PySem.Env} (he0 : genv = gEnvOf X scope s.heap.objs.size code bi) (hA : ∀ c : Code, (c = gCode elt iter x px scope gpos it genv ∨ c = gCode0 elt iter x px scope gpos it genv) → A2.over c [] = Ag)
    (I : Inv X pins σ H s) (S : GS X.env.scope scope x) (hN : X.N.Nodup) (hix : X.N[ix]? = some x) (hfp : ∀ b ∈ fp, FpOk X pins H b ∧ b < s.heap.objs.size) (T : Turn X.prog X.w X.K (.Name x px) J fp it tn) (hgf : g ∉ fp)
    (he : PE (gCx X Ag s H genv fp) elt te) (hT : GT J (gName ix) te ix σ Q W) :
    ∀ (n m i : Nat) (s₀ s5 : Shared) (H5 : Hp), m < n → Inv (gCx X Ag s H genv fp) [(g, go)] (L2.wipe σ [ix]) H5 s5 → tn i s5.heap → (∀ b ∈ fp, H5 b = none) → W i m H5 →
      Seg (model X.prog X.w) A2 (gR X pins σ Q) (gY X pins σ Q g go) n s₀ (gCode elt iter x px scope gpos it genv) ((model X.prog X.w).den (gCode elt iter x px scope gpos it genv)) [] s5 := by
  intro n
  induction n with
  | zero => exact fun m i s₀ s5 H5 h => absurd h (Nat.not_lt_zero _)
  | succ n ih =>
    intro m i s₀ s5 H5 hm J5 st n5 w5
    have ov := hA _ (.inl rfl)
    have pg : PG (gCx X Ag s H genv fp) (.Name x px) (gName ix) := pg_name hN hix (.inl (by rw [he0]; exact S.loc)) (hf := .inr (by rw [he0]; exact S.loc))
    have stat : ∀ {σ' : L2.St} {H' : Hp} {s' : Shared}, Inv (gCx X Ag s H genv fp) [(g, go)] σ' H' s' → (∀ b ∈ fp, H' b = none) → ∀ b ∈ fp, FpOk (gCx X Ag s H genv fp) [(g, go)] H' b := fun {σ' H' s'} I' hn b hb =>
      ⟨hn b hb, (I'.ok.exf b hb).1, I'.ok.exfs b hb, .inl hb, fun y c e => (I'.ok.exf b hb).2 y c e, fun p hp => by
        have hp : p ∈ ([] : List (Addr × Obj)) ++ [(g, go)] := hp
        have e : p = (g, go) := by simpa using hp
        rw [e]
        exact fun k => hgf (by rw [show g = b from k]; exact hb)⟩
    show Seg _ A2 _ _ _ s₀ _ ((compTurn (.GeneratorExp elt [⟨.Name x px, iter, [], 0⟩] scope gpos) 0 (.ref it) .none genv).onRaise (leaving genv)) [] s5
    rw [compTurn_gen, Sem.onRaise_eq_wrap]
    refine seg_bind_wrap (wpAny_standAt ?_)
    refine seg_bind_wrap ?_
    rw [ov]
    rcases hT i m H5 w5 with ⟨stop, qq⟩ | ⟨go', Nx, hNx, step⟩
    · have td := T.done (gCx X Ag s H genv fp) rfl rfl rfl rfl i [(g, go)] s5 _ H5 (fun _ _ => False) J5 (stat J5 n5) st stop
      refine wpAny_mono td (fun r s6 ⟨hr, J6⟩ => ?_) fun _ _ z => z.elim
      subst hr
      refine seg_end (.ok .next) ⟨rfl, J6.bare, fun s' z => ?_⟩
      rw [he0] at J6
      exact ⟨.bl true, H5, inv_nap (gen_back I hfp J6) z, rfl, qq⟩
    · have ti := T.item (gCx X Ag s H genv fp) rfl rfl rfl rfl i [(g, go)] s5 _ H5 (fun _ _ => False) J5 (stat J5 n5) st go'
      refine wpAny_mono ti (fun r s6 ⟨u, hr, h6⟩ => ?_) fun _ _ z => z.elim
      subst hr
      refine seg_bind_wrap ?_
      rw [ov]
      refine wpAny_mono h6 (fun _ s7 ⟨v, H7, J7, r7, y7, st7, n7⟩ => ?_) fun _ _ z => z.elim
      have J7' := J7.pinned (stat J7 n7) (T.obj _ _ st7)
      refine seg_bind_wrap ?_
      rw [ov]
      refine wpAny_mono (pg.run _ s7 _ H7 v u _ J7' r7 (step v H7 y7)) (fun _ s8 ⟨σ8, H8, J8, hw8, q8⟩ => ?_) fun _ _ z => z.elim
      simp only [List.forIn_nil]
      refine seg_bind_wrap (wpAny_pure ?_)
      simp only [if_true]
      have hy : ∀ v, yieldOut genv v = yieldValue v := fun v => by
        have : genv.scope.isCoroutine = false := by rw [he0]; exact S.co
        simp only [yieldOut, this, Bool.false_eq_true, if_false]
      simp only [hy]
      rw [Sem.bind_eq_wrap', Sem.bind_eq_wrap', Sem.wrap_wrap, Sem.wrap_wrap]
      refine seg_wrap ?_
      rw [ov]
      refine wpAny_mono (he.run _ s8 σ8 H8 _ J8 q8) (fun yv s9 ⟨y, H9, J9, r9, b, eb, q9⟩ => ?_) fun _ _ z => z.elim
      subst eb
      obtain rfl : yv = Value.bool b := r9
      have pin9 : ∀ c ∈ fp, ∀ o, s7.heap.get? c = some o → s9.heap.get? c = some o ∧ H9 c = none := fun c hc o e =>
        let z := J9.pin (c, o) (List.mem_append_right _ (List.mem_append_right _ (mem_pinsAt hc e)))
        ⟨z.1, z.2.1⟩
      have hl : (L2.wipe σ [ix]).length = σ8.length := by rw [← hw8, L2.wipe_length]
      have J9' : Inv (gCx X Ag s H genv fp) [(g, go)] (L2.wipe σ [ix]) H9 s9 := (J9.unpinned (pins := [(g, go)])).weak hl fun j v e => by
        rw [← hw8] at e
        exact (wipe_some e).1
      have hg9 : s9.heap.get? g = some go := (J9'.pin (g, go) (List.mem_append_right _ (List.mem_singleton.mpr rfl))).1
      refine seg_at (seg_yield rfl rfl rfl ⟨b, rfl, hg9, J9'.nolimit, J9'.bare, fun hb s'' nap => ?_, fun hb => ?_⟩)
      · subst hb
        rw [if_pos rfl] at q9
        obtain ⟨m', hm', w'⟩ := hNx H9 q9
        have J10 := inv_nap J9' nap
        refine seg_again rfl (ih m' (i + 1) s'' s'' H9 (by omega) J10 (T.keep _ _ _ st7 fun c hc o e => nap.2.2 c o (pin9 c hc o e).1) (fun c hc => ?_) w')
        obtain ⟨o, e, _⟩ := T.obj _ _ st7 c hc
        exact (pin9 c hc o e).2
      · subst hb
        rw [if_neg Bool.false_ne_true] at q9
        intro s' nap
        rw [he0] at J9'
        exact ⟨.bl false, H9, inv_nap (gen_back I hfp J9') nap, rfl, q9⟩
/-- the generator, not begun -/
theorem seg_all0 {J : It} {te : TE} {tn : Nat → Heap → Prop} {W : Nat → Nat → Hp → Prop} {Q : VK} {Ag A2 : Around} {genv : PySem.Env} (he0 : genv = gEnvOf X scope s.heap.objs.size code bi) (hA : ∀ c : Code, (c = gCode elt iter x px scope gpos it genv ∨ c = gCode0 elt iter x px scope gpos it genv) → A2.over c [] = Ag)
    (I : Inv X pins σ H s) (S : GS X.env.scope scope x) (hN : X.N.Nodup) (hix : X.N[ix]? = some x) (hfp : ∀ b ∈ fp, FpOk X pins H b ∧ b < s.heap.objs.size) (T : Turn X.prog X.w X.K (.Name x px) J fp it tn) (hgf : g ∉ fp)
    (he : PE (gCx X Ag s H genv fp) elt te) (hT : GT J (gName ix) te ix σ Q W) (n m : Nat) (s₀ s5 : Shared) (H5 : Hp) (hm : m < n) (J5 : Inv (gCx X Ag s H genv fp) [(g, go)] (L2.wipe σ [ix]) H5 s5) (st : tn 0 s5.heap) (n5 : ∀ b ∈ fp, H5 b = none) (w5 : W 0 m H5) :
    Seg (model X.prog X.w) A2 (gR X pins σ Q) (gY X pins σ Q g go) n s₀ (gCode0 elt iter x px scope gpos it genv) ((model X.prog X.w).den (gCode0 elt iter x px scope gpos it genv)) [] s5 := by
  have loop := seg_all he0 hA I S hN hix hfp T hgf he hT n m 0 s₀ s5 H5 hm J5 st n5 w5
  show Seg _ A2 _ _ _ s₀ _ ((compStart (.GeneratorExp elt [⟨.Name x px, iter, [], 0⟩] scope gpos) 0 (.ref it) .none genv).onRaise (leaving genv)) [] s5
  unfold compStart
  rw [Sem.onRaise_eq_wrap]
  show Seg _ A2 _ _ _ s₀ _ ((ask >>= _).wrap _ _ _ _) [] s5
  refine seg_bind_wrap (wpAny_askSetting ?_)
  split
  · exact seg_again rfl loop
  · first
      | exact seg_bind_wrap (wpAny_rule (seg_bind_wrap (wpAny_standAt (seg_bind_wrap (T.self _ 0 s5 _ _ st (seg_again rfl loop))))))
      | (refine seg_bind_wrap (wpAny_rule ?_); show Seg _ A2 _ _ _ s₀ _ ((standAt iter.pos >>= _).wrap _ _ _ _) [] s5; exact seg_bind_wrap (wpAny_standAt (seg_bind_wrap (T.self _ 0 s5 _ _ st (seg_again rfl loop)))))
/-- between two turns of the consumer -/
structure GReady (X : Cx) (pins : List (Addr × Obj)) (σ : L2.St) (Q : VK) (A2 : Around) (g : Addr) (go : Obj) (gn : Nat) (n : Nat) (s : Shared) : Prop where
  at_ : s.heap.get? g = some go
  lim : s.heap.NoLimit
  bare : AllBare s.gens
  go : ∃ gs, s.gens[gn]? = some gs ∧ ∀ s'', Nap s s'' → gs.Goes (model X.prog X.w) A2 (gR X pins σ Q) (gY X pins σ Q g go) n (.send .none) s''
theorem nap_set {s : Shared} {n : Nat} {y : GenState} (h : AllBare s.gens) (hy : y.bare = true) : Nap s (s.setGen n y) := ⟨rfl, bare_set h hy, fun _ _ e => e⟩
theorem all_loop {Q : VK} {gn : Nat} (hh : X.A.handled = none) (hroom : X.A.depth < recursionLimit) (hgo : ∃ nm qn, go.cls = .type "generator" ∧ go.data = .fields #[.int gn 0, nm, qn] ∧ go.slots = #[]) :
    ∀ (n : Nat) (s : Shared), GReady X pins σ Q X.A.in1.in1 g go gn n s → codeAny (model X.prog X.w) X.A (.builtin "all.loop" ⟨[.ref g], []⟩) (fun r s' => ∃ b, r = .ok (.ret (.bool b)) ∧ EP X pins σ Q (.bool b) s') s := by
  have isG : ∀ {h : Heap}, h.get? g = some go → h.IsGen g gn := fun {h} e => let ⟨nm, qn, r⟩ := hgo; ⟨go, nm, qn, e, r⟩
  intro n
  induction n with
  | zero =>
    intro s R0
    obtain ⟨a, lim, bare, gs, hgs, goes⟩ := R0
    refine codeAny_builtin F.entry_all_loop ?_
    rw [Around.under_plainId F.plain_all_loop _]
    show wpAny _ X.A.in1 (pyNext (.ref g) >>= _) _ _ s
    refine wpAny_bind (wpAny_pyNext_genexpQ (P := gP X pins σ Q) (Y := gY X pins σ Q g go) hh lim hroom (isG a) hgs (goes _ (nap_set bare rfl)) (fun v s₁ gs' hb hv => ?_) (fun s₁ hp h' hk => ?_))
    · obtain ⟨b, rfl, a1, lim1, bare1, ht, hf⟩ := hv
      cases b with
      | true => exact (ht rfl s₁ (Nap.refl bare1)).elim
      | false =>
        refine wpAny_bind (wpAny_holding (wpAny_truthy_bool ?_))
        refine wpAny_bind (wpAny_letGo ?_)
        simp only [Bool.false_eq_true, if_false]
        refine wpAny_bind (wpAny_rule (wpAny_pure ?_))
        exact ⟨false, rfl, hf rfl _ (nap_set bare1 hb)⟩
    · refine wpAny_bind (wpAny_rule (wpAny_pure ?_))
      exact ⟨true, rfl, hp.2 _ ⟨rfl, bare_set hp.1 rfl, hk⟩⟩
  | succ n ih =>
    intro s R0
    obtain ⟨a, lim, bare, gs, hgs, goes⟩ := R0
    have hlt : gn < s.gens.size := by
      rcases Nat.lt_or_ge gn s.gens.size with h | h
      · exact h
      · rw [Array.getElem?_eq_none h] at hgs
        cases hgs
    refine codeAny_builtin F.entry_all_loop ?_
    rw [Around.under_plainId F.plain_all_loop _]
    show wpAny _ X.A.in1 (pyNext (.ref g) >>= _) _ _ s
    refine wpAny_bind (GenW.wpAny_gsz (Nat.le_refl s.gens.size) (wpAny_pyNext_genexpQ (P := gP X pins σ Q) (Y := gY X pins σ Q g go) hh lim hroom (isG a) hgs (goes _ (nap_set bare rfl)) (fun v s₁ gs' hb hv sz => ?_) (fun s₁ hp h' hk _ => ?_)))
    · obtain ⟨b, rfl, a1, lim1, bare1, ht, hf⟩ := hv
      cases b with
      | true =>
        refine wpAny_bind (wpAny_holding (wpAny_truthy_bool ?_))
        refine wpAny_bind (wpAny_letGo ?_)
        simp only [if_true]
        refine wpAny_pure ⟨plainId_quiet F.plain_all_loop _, ih _ ⟨a1, lim1, bare_set bare1 hb, gs', ?_, fun s'' z => ht rfl s'' ((nap_set bare1 hb).trans z)⟩⟩
        have sz2 : gn < s₁.gens.size := by
          rw [GenW.setGen_size] at sz
          omega
        simp [Shared.setGen, sz2]
      | false =>
        refine wpAny_bind (wpAny_holding (wpAny_truthy_bool ?_))
        refine wpAny_bind (wpAny_letGo ?_)
        simp only [Bool.false_eq_true, if_false]
        refine wpAny_bind (wpAny_rule (wpAny_pure ?_))
        exact ⟨false, rfl, hf rfl _ (nap_set bare1 hb)⟩
    · refine wpAny_bind (wpAny_rule (wpAny_pure ?_))
      exact ⟨true, rfl, hp.2 _ ⟨rfl, bare_set hp.1 rfl, hk⟩⟩
end
/-- all(elt for x in e) -/
def tAllG (T : List (Addr × Str)) (wi : TI) (ix : Nat) (te : TE) : TE := fun σ H Q => wi σ H fun J H1 => LamX.Tabs T H1 ∧ ∀ H2, LamX.ExtN H1 H2 → LamX.Tabs T H2 → ∃ W : Nat → Nat → Hp → Prop, (∃ m, W 0 m H2) ∧ GT J (gName ix) te ix σ Q W
/-- the generator's code object: new, or found -/
theorem gen_code {X : Cx} {pins : List (Addr × Obj)} {σ : L2.St} {H : Hp} {s : Shared} {T : List (Addr × Str)} {c P : Addr} {scope : Scope} {pos : Pos} {E : Value → Shared → Prop} {Q : Value → Shared → Prop} (I : Inv X pins σ H s) (TB : LamX.TabB X.base X.mg c P) (hcode : X.env.code = .ref c)
    (hm : (P, X.env.qual ++ "<genexpr>") ∈ T) (hu : ∀ p ∈ T, p.1 = P → p.2 = X.env.qual ++ "<genexpr>") (hT : LamX.Tabs T H)
    (h : ∀ (cv : Value) (H1 : Hp) (s' : Shared), Inv X pins σ H1 s' → LamX.ExtN H H1 → LamX.Tabs T H1 → (∀ b o, H b = none → s.heap.get? b = some o → s'.heap.get? b = some o ∧ H1 b = none) → s.heap.objs.size ≤ s'.heap.objs.size → Q cv s') :
    wpAny (model X.prog X.w) X.A (genexprCode X.env pos (X.env.qual ++ "<genexpr>") scope) Q E s := by
  obtain ⟨ps, hP, ht, ha⟩ := hT _ hm
  have hP' : s.heap.get? P = some { cls := .none, data := .fields ps } := I.hok P _ hP
  have cd : PySem.W.CodeHd s.heap c P := TB.code.keeps I.bk
  have neP : ∀ {b : Addr}, H b = none → b ≠ P := fun {b} e z => by
    rw [z, hP] at e
    cases e
  cases hc : codeAmong pos ps.toList with
  | none =>
    refine wpAny_genexprCodeX hcode (cd.code hP' ht) (cd.tab hP') hc fun c' h' tk hx hge hlt hco hrec htab _ => ?_
    obtain ⟨c2, oc, vs, t, e2, hoc, hd, hv⟩ := hrec
    cases e2
    have nC : H c' = none := I.hok.fresh hge
    have I1 := LamX.inv_table (t' := tk) (more := #[rawInt pos.line, rawInt pos.col, .ref c']) (h' := h') I hP (fun b o hb e => hx b o hb e) htab.2 hge ⟨oc, vs, t, hoc, hd, hv⟩
    have hE : LamX.ExtN H (upd (upd H P (.tbl (ps ++ #[rawInt pos.line, rawInt pos.col, .ref c']))) c' (LamX.CodeO c' (X.env.qual ++ "<genexpr>"))) := fun b o e n => by
      rw [upd_ne (ne_of_none e nC), upd_ne (fun z => n ps (Option.some.inj (e.symm.trans (by rw [z]; exact hP))))]
      exact e
    have eL : (ps ++ #[rawInt pos.line, rawInt pos.col, .ref c']).toList = ps.toList ++ [rawInt pos.line, rawInt pos.col, .ref c'] := by simp
    refine h _ _ _ I1 hE (fun p hp => ?_) (fun b o n e => ⟨hx b o (neP n) e, ?_⟩) (Nat.le_trans hge (Nat.le_of_lt hlt))
    · by_cases hb : p.1 = P
      · rw [hu p hp hb, hb]
        refine ⟨_, by rw [upd_ne (ne_of_none hP nC), upd_same], by rw [eL]; exact PySem.TriplesOk_snoc _ _ _ _ ht, fun p' cv hcv => ?_⟩
        rw [eL] at hcv
        rcases LamX.among_app _ ht hcv with z | z
        · obtain ⟨c0, e1, e2⟩ := ha p' cv z
          exact ⟨c0, e1, hE _ _ e2 LamX.codeO_ne⟩
        · exact ⟨c', z, upd_same⟩
      · obtain ⟨ps', a1, a2, a3⟩ := hT p hp
        refine ⟨ps', by rw [upd_ne (ne_of_none a1 nC), upd_ne hb]; exact a1, a2, fun p' cv hcv => ?_⟩
        obtain ⟨c0, e1, e2⟩ := a3 p' cv hcv
        exact ⟨c0, e1, hE _ _ e2 LamX.codeO_ne⟩
    · have nc : b ≠ c' := Nat.ne_of_lt (Nat.lt_of_lt_of_le (Heap.lt_size e) hge)
      rw [upd_ne nc, upd_ne (neP n)]
      exact n
  | some cv =>
    refine wpAny_genexprCode_hit hcode (cd.code hP' ht) hc ?_
    exact h cv H s I (LamX.ExtN.refl H) hT (fun b o n e => ⟨e, n⟩) (Nat.le_refl _)
section
variable {X : Cx}
theorem pe_allG {T : List (Addr × Str)} {c P : Addr} {elt iter : Expr} {x : Str} {ix k : Nat} {wi : TI} {te : TE} {px gpos p pos : Pos} {scope : Scope} (hr : Room (k + 1) X.A) (hg : Gl X "all") (hm : X.mg "all" = none) (hb : bootBuiltins "all" = some (.builtin "all")) (TB : LamX.TabB X.base X.mg c P) (hcode : X.env.code = .ref c)
    (hmT : (P, X.env.qual ++ "<genexpr>") ∈ T) (hu : ∀ p ∈ T, p.1 = P → p.2 = X.env.qual ++ "<genexpr>") (S : GS X.env.scope scope x) (hN : X.N.Nodup) (hix : X.N[ix]? = some x) (dotN : (".0" : Str) ∉ X.N)
    (hi : PI X (.Name x px) iter wi) (he : ∀ (A : Around) (s : Shared) (H : Hp) (C : Addr) (code : Value) (fp : List Addr), Room k A → PE (gCx X A s H (gEnvOf X scope C code builtinsNs) fp) elt te)
    (hs : ∀ v, genFold iter X.env v = pure v := by intro _; rfl)
    (hst : starEach [.GeneratorExp elt [⟨.Name x px, iter, [], 0⟩] scope gpos] X.env = (false, eval (.GeneratorExp elt [⟨.Name x px, iter, [], 0⟩] scope gpos) X.env) :: starEach [] X.env := by rfl) :
    PE X (.Call (.Name "all" p) [.GeneratorExp elt [⟨.Name x px, iter, [], 0⟩] scope gpos] [] pos) (tAllG T wi ix te) := by
  refine PE.mk fun pins s σ H Q I0 h => ?_
  have hdp := hr.dp
  have hun := hr.un
  refine wpAny_Call_Name_kw (ld_blt I0 hg hm hb ?_)
  refine PyProof.Rows.callWith_builtin1 ?_ hst (by rfl)
  rw [hst]
  show wpAny _ _ (spliced ((false, eval (.GeneratorExp elt [⟨.Name x px, iter, [], 0⟩] scope gpos) X.env) :: backTo pos (starEach [] X.env))) _ _ s
  refine Calls.spliced_cons (wpAny_GeneratorExp_make S.co (closure_ok (S.has I0.ok)) S.cell S.dot S.kind (by omega) ?_ hs)
  refine thn (hi.run pins s σ H _ I0 h) fun xv s1 hx => thn hx fun itv s2 h2 => ?_
  obtain ⟨it, fp, tn, J, H2, e, I2, Tn, st2, f2, hT, q⟩ := h2
  subst e
  refine ⟨I2.nolimit, gen_code I2 TB hcode hmT hu hT fun cv H3 s3 I3 hE hT3 hk hsz => ?_⟩
  obtain ⟨bm, ob, e1, e2, e3, e4, e5, e6, e7, e8⟩ := TB.bm.keeps I3.bk
  refine wpAny_builtinsFor (m := X.mg) (by rw [I3.ok.glob]; exact I3.mod.glob.keeps I3.bk) e1 e2 e5 e6 e7 e8 ?_
  intro h' hns' hsb'
  have fpk : ∀ b ∈ fp, FpOk X pins H3 b ∧ b < s3.heap.objs.size := fun b hb' => by
    obtain ⟨o, eo, _⟩ := Tn.obj _ _ st2 b hb'
    obtain ⟨a1, a2, a3, a4, a5, a6⟩ := f2 b hb'
    exact ⟨⟨(hk b o a1 eo).2, a2, a3, a4, a5, a6⟩, Nat.lt_of_lt_of_le (Heap.lt_size eo) hsz⟩
  have st3 : tn 0 s3.heap := Tn.keep _ _ _ st2 fun b hb' o eo => (hk b o (f2 b hb').1 eo).1
  obtain ⟨W, ⟨m0, w0⟩, turns⟩ := q H3 hE hT3
  have hsize : h'.objs.size = s3.heap.objs.size + 1 := by rw [hsb'.1, Heap.size_push]
  have kp : ∀ b o, s3.heap.get? b = some o → h'.get? b = some o := fun b o eo => hsb'.extBut b o (Nat.ne_of_lt (Heap.lt_size eo)) (Heap.get?_push_of_some _ eo)
  generalize hgo : ({ cls := .type "generator", data := .fields #[.int s3.gens.size 0, .str "<genexpr>" (s3.toks + 1), .str (X.env.qual ++ "<genexpr>") (s3.toks + 1 + 1)] } : Obj) = go
  generalize hgenv : genEnv scope (cloFrom X.env.cells scope.names []) s3.heap.objs.size cv builtinsNs X.env = genv
  generalize hs5 : ({ s3 with gens := s3.gens.push (.fresh (.compStart (.GeneratorExp elt [⟨.Name x px, iter, [], 0⟩] scope gpos) 0 (.ref it) .none genv)), toks := s3.toks + 1 + 1 + 1, heap := h'.push go } : Shared) = s5
  have hh5 : s5.heap = h'.push go := by rw [← hs5]
  have hg5 : s5.heap.get? h'.objs.size = some go := by
    rw [hh5]
    exact Heap.get?_push_size _ (by rw [← hgo]; rfl)
  have nap5 : Nap s3 s5 := ⟨by rw [← hs5], by rw [← hs5]; exact I3.bare.push rfl, fun b o eo => by rw [hh5]; exact Heap.get?_push_of_some _ (kp b o eo)⟩
  have hdN : ∀ v, go.data ≠ .cell v := fun v z => by
    rw [← hgo] at z
    cases z
  have hhand := hr.hd
  -- the arounds
  have hA : ∀ cc : Code, (cc = gCode elt iter x px scope gpos it genv ∨ cc = gCode0 elt iter x px scope gpos it genv) → X.A.in1.in1.over cc [] = X.A.in1.in1.over (gCode elt iter x px scope gpos it genv) [] := fun cc hcc => by
    rcases hcc with z | z
    · rw [z]
    · rw [z]
      rfl
  have hfr : (X.A.in1.in1.over (gCode elt iter x px scope gpos it genv) []).frames = some (genv :: X.stack) := by
    show (X.A.frames.map ([genv] ++ ·)) = _
    rw [I3.ok.frames]
    rfl
  have hroomG : Room k (X.A.in1.in1.over (gCode elt iter x px scope gpos it genv) []) := ⟨hhand, by show X.A.depth + 0 + 1 + 3 * k + 5 < recursionLimit; omega, by show X.A.units + 1 + 1 + 0 + 3 + 16 * k + 200 < cLine; omega⟩
  have hnsG : s5.heap.Ns s3.heap.objs.size (fun y => if y = ".0" then some (.ref it) else none) := by
    rw [hh5]
    exact hns'.push _
  have J5 := gen_start (ix := ix) (g := h'.objs.size) (go := go) (code := cv) (bi := builtinsNs) (A := X.A.in1.in1.over (gCode elt iter x px scope gpos it genv) []) I3 S hN hix dotN hhand (by rw [hfr, ← hgenv]) rfl fpk hnsG (by rw [hh5, Heap.size_push]; omega) nap5 hg5 hdN (by omega)
  have hgf : h'.objs.size ∉ fp := fun z => by
    have z1 := (fpk _ z).2
    rw [hsize] at z1
    exact Nat.not_succ_lt_self z1
  have pe := he (X.A.in1.in1.over (gCode elt iter x px scope gpos it genv) []) s3 H3 s3.heap.objs.size cv fp hroomG
  have J5' : Inv (gCx X (X.A.in1.in1.over (gCode elt iter x px scope gpos it genv) []) s3 H3 genv fp) [(h'.objs.size, go)] (L2.wipe σ [ix]) H3 s5 := by
    rw [← hgenv]
    rw [← hgenv] at J5
    exact J5
  have pe' : PE (gCx X (X.A.in1.in1.over (gCode elt iter x px scope gpos it genv) []) s3 H3 genv fp) elt te := by
    rw [← hgenv]
    rw [← hgenv] at pe
    exact pe
  have ready : GReady X pins σ Q X.A.in1.in1 h'.objs.size go s3.gens.size (m0 + 1) s5 := by
    refine ⟨hg5, I3.nolimit.keeps nap5.2.2, nap5.2.1, .fresh (gCode0 elt iter x px scope gpos it genv), by rw [← hs5]; exact Array.getElem?_push_size .., fun s'' z => ⟨rfl, ?_⟩⟩
    exact seg_all0 hgenv.symm hA I3 S hN hix fpk Tn hgf pe' turns (m0 + 1) m0 s'' s'' H3 (Nat.lt_succ_self _) (inv_nap J5' z) (Tn.keep _ _ _ st3 fun b hb' o eo => z.2.2 b o (nap5.2.2 b o eo)) (fun b hb' => (fpk b hb').1.1) w0
  refine Calls.spliced_nil ?_
  refine call_function_tree F.kind_all F.plain_all F.entry_all (F.args_all1 _) ?_
  unfold Builtin.«all»
  refine wpAny_bind (m := oneArg "all" _) (wpAny_pure ?_)
  have isG : s5.heap.IsGen h'.objs.size s3.gens.size := ⟨go, _, _, hg5, by rw [← hgo], by rw [← hgo], by rw [← hgo]⟩
  refine wpAny_bind (wpAny_pyIter_gen isG ?_)
  refine wpAny_pure ⟨plainId_quiet F.plain_all_loop _, codeAny_mono (all_loop hhand (by omega) ⟨_, _, by rw [← hgo], by rw [← hgo], by rw [← hgo]⟩ (m0 + 1) s5 ready) fun r s' hq => ?_⟩
  obtain ⟨b, rfl, hq⟩ := hq
  exact hq
end
end GX

set_option maxRecDepth 100000
set_option maxHeartbeats 1000000
/-! FL, all(.. for ..), lambdas handed to _law_refused, raise. -/
namespace FL
open PySem PySem.Spec PyProof.Rows L2
section
variable {P : Par} {E : XK}
/-- the tables may grow -/
theorem Sat.extN {G0 Z : Hp} {pa : Nat → Addr} {G : Hp} {ad : Nat → Addr} {σ : L2.St} {H H' : Hp} {e : Sl} (S : Sat P G0 Z pa G ad σ H e) (x : LamX.ExtN H H') (t : LamX.Tabs P.T H') : Sat P G Z pa G ad σ H' e := by
  refine { S.self with sub := fun b o q => x b o (S.sub b o q) fun ps z => S.gt b ps (by rw [← z]; exact q), z := fun b o q => ⟨x b o (S.z b o q).1 fun ps z => S.zt b ps (by rw [← z]; exact q), (S.z b o q).2⟩, tabs := t, own := fun i s q k => ?_ }
  obtain ⟨h1, h2, h3⟩ := S.own i s q k
  obtain ⟨u, hu, _, nt⟩ := h3.some k
  exact ⟨h1, h2, h3.mono (Le.refl G) ((x _ _ hu nt).trans hu.symm)⟩
def allGo (ix : Nat) (fe : FE) : List PyData → Sl → R Bool
  | [], e => .ok true e
  | d :: ds, e => match fgN ix d e with
    | none => .bad
    | some e1 => (fe e1).noex.bind fun y e2 => match asB y with
      | some true => allGo ix fe ds (wipeE e2 [ix])
      | some false => .ok false (wipeE e2 [ix])
      | none => .bad
def fAllG (fi : FA) (ix : Nat) (fe : FE) : FE := fun e => (fi e).bind fun ds e1 => if noOwn e1 [ix] = true then (allGo ix fe ds (wipeE e1 [ix])).bind fun b e2 => .ok (.bool b) (restore [ix] e1 e2) else .bad
theorem sim_allG {ix : Nat} {w : TI} {te : TE} {fi : FA} {fe : FE} (hi : SimI P E w fi) (he : SimE P E00 te fe) : SimE P E (GX.tAllG P.T w ix te) (fAllG fi ix fe) := fun G0 Z pa G ad σ H e S Q q =>
  hi.bind S q fun J ds e1 G1 ad1 H1 S1 hJ h1 => by
    refine ⟨S1.tabs, fun H2 x2 t2 => ?_⟩
    have S2 := S1.extN x2 t2
    split at h1
    · rename_i hno
      let C : Hp → R Bool → Prop := fun G' r => Post P E G' Z pa σ (DP P.K) Q (r.bind fun b e2 => .ok (.bool b) (restore [ix] e1 e2))
      have Cmono : ∀ G' G'' r, Le G' G'' → C G' r → C G'' r := fun G' G'' r l h => Post.mono h l
      refine ⟨fun i m H => m + i = ds.length ∧ ∃ G' ad' e', Sat P G1 Z pa G' ad' (L2.wipe σ [ix]) H e' ∧ C G' (allGo ix fe (ds.drop i) e'), ⟨ds.length, by simp, G1, ad1, wipeE e1 [ix], S2.wipe [ix], by simpa using h1⟩, ?_⟩
      rintro i m H3 ⟨hm, G3, ad3, e3, S3, h3⟩
      cases hd : ds[i]? with
      | none =>
        have hl : ds.length ≤ i := List.getElem?_eq_none_iff.mp hd
        have : i = ds.length := by omega
        subst this
        rw [List.drop_length] at h3
        refine .inl ⟨hJ.stop _ (S3.g0.trans S3.sub), ?_⟩
        have S4 := Sat.unwipe S2 S3 S3.g0 hno
        have h4 : Post P E G3 Z pa σ (DP P.K) Q (.ok (.bool true) (restore [ix] e1 e3)) := h3
        exact Post.out S4 h4 (.bl _)
      | some d =>
        have hl : i < ds.length := (List.getElem?_eq_some_iff.mp hd).1
        rw [drop_of_get hd] at h3
        unfold allGo at h3
        refine .inr ⟨hJ.go i _ hl (S3.g0.trans S3.sub), fun H' => ∃ G' ad' e', Sat P G1 Z pa G' ad' (L2.wipe σ [ix]) H' e' ∧ C G' (allGo ix fe (ds.drop (i + 1)) e'), fun H' z => ⟨m - 1, by omega, by omega, z⟩, fun v H' y => ?_⟩
        obtain ⟨G4, S4, hx⟩ := hJ.yld S3 S3.g0 i d hd v H' y
        have h4 := Cmono _ _ _ S4.g0 h3
        cases q4 : fgN ix d e3 with
        | none =>
          rw [q4] at h4
          exact h4.elim
        | some e4 =>
          rw [q4] at h4
          dsimp only at h4
          refine sim_gN _ _ _ _ _ _ _ _ _ _ _ S4 hx q4 _ fun ad5 σ5 S5 k5 => ⟨?_, ?_⟩
          · rw [wipe_keep k5, wipe_wipe]
          have hw : L2.wipe σ5 [ix] = L2.wipe σ [ix] := by rw [wipe_keep k5, wipe_wipe]
          refine he.block S5 (C := fun G' r => C G' (r.bind fun y e2 => match asB y with
            | some true => allGo ix fe (ds.drop (i + 1)) (wipeE e2 [ix])
            | some false => .ok false (wipeE e2 [ix])
            | none => .bad)) h4 (fun _ z => z) (fun G' r l z => Cmono _ _ _ l z) ?_
          intro y dy e6 G6 ad6 H6 S6 hy h6
          have l6 : Le G1 G6 := (S3.g0.trans S4.g0).trans S6.g0
          have S7 : Sat P G1 Z pa G6 ad6 (L2.wipe σ [ix]) H6 (wipeE e6 [ix]) := by
            rw [← hw]
            exact ({ S6 with g0 := l6 } : Sat P G1 _ pa G6 ad6 σ5 H6 e6).wipe [ix]
          cases hy with
          | bl b =>
            refine ⟨b, rfl, ?_⟩
            cases b with
            | true => exact ⟨G6, ad6, wipeE e6 [ix], S7, h6⟩
            | false =>
              have S8 := Sat.unwipe S2 S7 l6 hno
              have h8 : Post P E G6 Z pa σ (DP P.K) Q (.ok (.bool false) (restore [ix] e1 (wipeE e6 [ix]))) := h6
              exact Post.out S8 h8 (.bl _)
          | _ => exact h6.elim
    · exact h1.elim

/-! ### raise -/
/-- an error of the class with the number c that holds one text -/
def fRaise (c : Nat) (fa : FA) : FS := fun e => (fa e).out fun ds e1 => match ds with
  | [.str z] => if z.length ≤ 1000 then .ex ⟨c, [.str z]⟩ e1 else .bad
  | _ => .bad
def tMkN (C : Addr) (f : Str) (ta : TA) : L2.St → Hp → XK → Prop := fun σ H Q => ta σ H fun vs H1 => ∃ z, vs = [.str z] ∧ z.length ≤ 1000 ∧ ∀ d, H1 d = none → Q (.ref C) (some d) (upd H1 d (.xd [(f, .str z)]))
theorem sim_raise {c : Nat} {C : Addr} {f : Str} {t : TA} {fa : FA} (hE : ∀ z H d, H d = some (.xd [(f, .str z)]) → P.EX ⟨c, [.str z]⟩ (.ref C) (some d) H) (ht : SimA P E t fa) : SimS P E (fun _ σ H => tMkN C f t σ H fun cls d H' => E cls d H') (fRaise c fa) := fun G0 Z pa G ad σ H e S D h =>
  ht.out S h fun vs ds e1 G1 ad1 H1 S1 hv h1 => by
    split at h1
    · rename_i z
      split at h1
      · rename_i hz
        obtain ⟨v, rfl, hv2⟩ := hv.one
        cases hv2
        refine ⟨z, rfl, hz, fun d hd => ?_⟩
        exact h1 (.ref C) (some d) _ ad1 σ _ (S1.new hd fun _ q => by cases q) (hE z _ d upd_same)
      · exact h1.elim
    · exact h1.elim

/-! ### a lambda handed to the def that tells the name of what is refused -/
/-- try: x() / except C as e: return e.name / return '' -/
def TTref (K : PySem.W.Frag) (CS : Addr) (f : Str) : (XK → Hp → VK → Prop) → Hp → VK → Prop := fun tl H Q =>
  tl (fun cls dd H' => ∃ d z, cls = .ref CS ∧ dd = some d ∧ H' d = some (.xd [(f, .str z)]) ∧ Q (.str z) H') H (fun _ H' => Q (.str ⟨#[]⟩) H')
def fRef (c : Nat) (fb : FE) : FE := fun e => match fb e with
  | .ok _ e1 => .ok (.str ⟨#[]⟩) e1
  | .ex x e1 => if x.c = c then match x.ds with
      | [.str z] => .ok (.str z) e1
      | _ => .bad
    else .bad
  | .bad => .bad
theorem sim_ref {c : Nat} {CS : Addr} {f : Str} {tb : XK → TE} {fb : FE} (hE : ∀ z cls dd H, P.EX ⟨c, [.str z]⟩ cls dd H → ∃ d, cls = .ref CS ∧ dd = some d ∧ H d = some (.xd [(f, .str z)])) (hb : ∀ E', SimE P E' (tb E') fb) :
    SimE P E (LamX.tLam P.T (TTref P.K CS f) tb) (fRef c fb) := fun G0 Z pa G ad σ H e S Q q => by
  refine ⟨S.tabs, fun H1 x1 t1 => ?_⟩
  have S1 := S.extN x1 t1
  refine hb _ _ _ _ _ _ _ _ _ S1 _ ?_
  unfold fRef at q
  cases h : fb e with
  | ok d e1 =>
    rw [h] at q
    exact fun v G' ad' H' S' _ => q (.str ⟨#[]⟩) G' ad' H' S' (.str _)
  | ex x e1 =>
    rw [h] at q
    dsimp only at q
    intro cls dd G' ad' H' S' hx
    split at q
    · rename_i hc
      split at q
      · rename_i z hz
        obtain ⟨xc, xds⟩ := x
        dsimp only at hc hz
        subst hc
        subst hz
        obtain ⟨d, e1, e2, e3⟩ := hE z cls dd H' hx
        exact ⟨d, z, e1, e2, e3, q (.str z) G' ad' H' S' (.str _)⟩
      · exact q.elim
    · exact q.elim
  | bad =>
    rw [h] at q
    exact q.elim
end
end FL

set_option maxRecDepth 100000
set_option maxHeartbeats 1000000
/-! the def that tells the name of what a call refuses. -/
namespace FL
open PySem PySem.Spec PyProof.Rows L2 LamX
section
variable {X : Cx}
theorem takes_len {X : Cx} {W : WX} (t : Takes X W) : Takes X (fun c d σ H => σ.length = X.N.length → W c d σ H) := fun u s' ⟨a, B, sI, pins, σ, H, cls, d, e, I, nb, up, sky, na, os, ag, w⟩ =>
  t u s' ⟨a, B, sI, pins, σ, H, cls, d, e, I, nb, up, sky, na, os, ag, w I.len⟩
theorem ref_gives {a x q F Cn : Str} {sg : Scope} {g CS : Addr} {cdg : Value} {j : Nat} {nE : Str} {p1 p2 p3 p4 p5 p6 p7 p8 p9 p10 p11 : Pos} (hkind : sg.kind = .function) (hge : sg.names.lookup Cn = some .globalImplicit) (hla : sg.names.lookup a = some .local) (hle : sg.names.lookup nE = some .local) (hae : a ≠ nE) (hme : X.mg Cn = some (.ref CS)) (hde : (Cn == ("__debug__" : Str)) = false)
    (XF : XfC X.K CS) (hno : PySem.W.findIn X.K (.ref CS) F = some none) (hself : PySem.W.exmOne X.K (.ref CS) (.ref CS) = some true)
    (hdb : (nE == ("__debug__" : Str)) = false := by decide) (hcd : (nE == ("__classdict__" : Str)) = false := by decide) (hcalm : ∀ s : Shared, ∀ H : Hp, (cxOf C8.CX0 X.prog X.w X.K X.mg X.base [a, nE] x sg g cdg X.A X.stack s H C8.E0).nox.calm = true := by intro _ _; rfl) :
    GivesTo X [a, nE] x sg g cdg [.Try [.Expr (.Call (.Name a p1) [] [] p2) p3] [.ExceptHandler (some (.Name Cn p4)) (some nE) [.Return (some (.Attribute (.Name nE p5) F p6)) p7] p8] [] [] p9, .Return (some (.Constant (.str ⟨#[]⟩) j p10)) p11] a q (TTref X.K CS F) := by
  intro f c' s H Q tl act hc h
  have hgl : Gl (cxOf C8.CX0 X.prog X.w X.K X.mg X.base [a, nE] x sg g cdg X.A X.stack s H C8.E0).nox Cn := hge
  have nd : ([a, nE] : List Str).Nodup := by simp [hae]
  refine ⟨_, pss_cons (ps_try_as (X := (cxOf C8.CX0 X.prog X.w X.K X.mg X.base [a, nE] x sg g cdg X.A X.stack s H C8.E0).nox) (i := 1) (n := nE) (c := .ref CS) (Wout := fun _ _ _ _ => False)
      (tb := fun W D σ H => ∃ Ech : XK, (∀ cls d σ' H', σ'.length = 2 → Ech cls d H' → W cls d σ' H') ∧ σ[0]? = some (some (.ref f)) ∧ H c' = some (CodeO c' q) ∧ tl Ech H fun _ H1 => D.nx σ H1)
      rfl rfl nd rfl hle ⟨hgl, hde, .inl hme⟩ L2.takes0 (fun W pn xe tk _ => ?_) (fun a0 oe cls d pn hz hf => pss_one (ps_ret (pe_xf (C := CS) XF hno hz hf (pe_var (i := 1) rfl (.inl hle) hdb hcd) (by rfl))))) (pss_one (ps_ret pe_str)), ?_⟩
  · refine PSs.mk fun pins s' σ H' D I h' => ?_
    obtain ⟨Ech, hW, h1, h2, h3⟩ := h'
    have hp := act _ pn xe Ech p1 p2 (takes_len tk) (fun cls d σ' H' e l => hW cls d σ' H' l e)
    have hq := pss_one (ps_expr (pos := p3) hp)
    exact hq.run pins s' σ H' D I ⟨h1, h2, h3⟩
  · -- what is wished of an error does not look at the slots
    refine ⟨fun cls dd H' => ∃ d z, cls = .ref CS ∧ dd = some d ∧ H' d = some (.xd [(F, .str z)]) ∧ Q (.str z) H', fun cls dd σ' H' hl hx => ?_, rfl, hc, h⟩
    obtain ⟨d, z, rfl, rfl, e3, e4⟩ := hx
    refine ⟨true, hself, fun _ a0 _ => ?_, fun z => by cases z⟩
    refine ⟨.ref a0, List.getElem?_set_self (by rw [hl]; decide), rfl, rfl, d, _, .str z, rfl, e3, by simp [List.lookup], e4⟩
end
end FL

set_option maxRecDepth 100000
set_option maxHeartbeats 1000000
/-! an error class over ValueError whose __init__ says super().__init__('..' + name); self.name = name. -/
namespace FL
open PySem PySem.Spec PyProof.Rows L2
/-- what the layer asks of the class and of its __init__ -/
structure BadTxt (prog : Program) (K : PySem.W.Frag) (mg : Str → Option Value) (C fI : Addr) (qual nm : Str) (params : Arguments) (body : List Stmt) (scope : Scope) : Prop where
  oex : OexC K C
  fn : ∃ (oc : Value) (od : Option Addr) (kV doc pm : Value) (an : Option Addr) (ct : Value) (osl : Array (Option Value)) (cda cc : Addr) (ccl : Value) (cdd : Option Addr) (vs : Array Value) (ccs : Array (Option Value)) (file : Str) (tf : Tok) (cl : Value) (cld : Option Addr) (csl : Array (Option Value)),
    K.lookup fI = some ⟨oc, od, .func (PySem.W.ksFn "__init__" qual params body scope .none kV doc pm an (.ref cda) ct cc), osl⟩ ∧ PySem.W.codeIn K (.ref cda) qual = true ∧ K.lookup cda = some ⟨ccl, cdd, .fields vs, ccs⟩ ∧ vs[2]? = some (.str file tf) ∧ (((prog.main.file : Str) == file) = true) ∧
    K.lookup cc = some ⟨cl, cld, .cell (some (.ref C)), csl⟩
  iC : PySem.W.findIn K (.ref C) "__init__" = some (some (.ref fI))
  tI : PySem.W.typeIn K (.ref fI) = some (.type "function")
  sup : PySem.W.ks_superIn K C C "__init__" = some (some (.builtin "ValueError.__init__"))
  subV : PySem.W.subIn K (.ref C) (.type "ValueError") = some true
  mro : PySem.W.mroIn K C (.ref C) = some true
  tp : PySem.W.nsIn K cStatics "thirdparty.any" = some none
  sg : mg "super" = none
  noN : PySem.W.findIn K (.ref C) nm = some none
  XF : XfC K C
  self : PySem.W.exmOne K (.ref C) (.ref C) = some true
  top : (prog.main.scope.names.lookup ("super" : Str)).isSome = false
/-- self.f holds the text that was handed in -/
def spBad (C : Addr) (f : Str) : Sp := fun vs H Q _ => ∃ (a : Addr) (z : Str), vs = [.ref a, .str z] ∧ z.length ≤ 1000 ∧ H a = some (exo a C none) ∧ ∀ d, H d = none → d ≠ a → Q .non (upd (upd H d (exd d [(f, .str z)])) a (exo a C (some d)))
/-- super().__init__(..) called through its bound form: nothing of it is told -/
theorem bound_ok {X : Cx} {pins : List (Addr × Obj)} {σ : L2.St} {H : Hp} {s : Shared} {a C u : Addr} {us : List Value} {Q : Value → Shared → Prop} {E : Value → Shared → Prop} {A : Around} (T : OexC X.K C) (I : Inv X pins σ H s) (e : H a = some (exo a C none)) (hu : s.heap.get? u = some (PySem.W.kxs_mw "ValueError.__init__" a)) (hl : us.length ≤ sizeLine) (h : ∀ s', Inv X pins σ H s' → Q .none s') :
    wpAny (model X.prog X.w) A (call (.ref u) us) Q E s := by
  obtain ⟨nm, q, N, bs, bm, sn, sub, ab, col, dd, k0, k1, k2, k3, k5, hC, hbm⟩ := T.cls
  obtain ⟨t1, ho⟩ := exo_at I.hok e
  obtain ⟨hp, g, d, t, os⟩ := s
  have hC' := I.kIn _ _ hC
  refine wpAny_call (codeAny_of_tree ?_)
  show wpAny _ A.in1 (callAny (.ref u) ⟨us, []⟩) _ _ _
  simp only [callAny]
  refine wpAny_bind (wpAny_load hu ?_)
  simp only [PySem.W.kxs_mw, show (Value.type "method-wrapper" == Value.type "method" || Value.type "method-wrapper" == Value.type "builtin_function_or_method" || Value.type "method-wrapper" == Value.type "method-wrapper") = true by decide, if_true]
  refine PySem.W.KFB.if_so (by decide) ?_
  refine wpAny_bind (PySem.W.check_bound_init F.excBase_ValueError.toExcCallFacts hC' ho rfl ?_)
  refine wpAny_bind (wpAny_pure (wpAny_pure ?_))
  refine ⟨plainId_quiet F.excBase_ValueError.init.plain _, codeAny_builtin F.excBase_ValueError.initEntry ?_⟩
  refine PySem.W.exc_init_tree (cls := .ref C) (t0 := t1) (dv := none) (c2 := .none) (c3 := .none) (b4 := .bool false) ho hl fun h' k hx _ => ?_
  have J := I.write (t' := t) (x := a) (e := a) (o := exo a C none) (by rw [e]; exact True.intro) (.inl rfl) k ⟨_, hx⟩ (exo_ok hx)
  have eu : upd H a (exo a C none) = H := by
    funext b
    by_cases hb : b = a
    · rw [hb, upd_same, e]
    · rw [upd_ne hb]
  rw [eu] at J
  exact h _ J
section
variable {P : Program} {w : World} {K : PySem.W.Frag} {mg : Str → Option Value} {base : Heap}
/-- the frame of the __init__: beside its names it has the class's cell -/
def bCx (P : Program) (w : World) (K : PySem.W.Frag) (mg : Str → Option Value) (base : Heap) (N : List Str) (A : Around) (outer : List Env) (s : Shared) (H : Hp) (qual : Str) (scope : Scope) (fI cda cc : Addr) : Cx where
  prog := P
  w := w
  K := K
  mg := mg
  base := base
  A := A.deeper (PySem.W.ksEnv qual scope s.heap.objs.size fI (.ref cda) cc)
  N := N
  s_0 := s
  H_0 := H
  env := PySem.W.ksEnv qual scope s.heap.objs.size fI (.ref cda) cc
  outer := outer
  stack := PySem.W.ksEnv qual scope s.heap.objs.size fI (.ref cda) cc :: outer
  ex := []
  fn := fun _ => false
  calm := true
  pn := []
  xe := fun _ _ => False
theorem bCx_start {A : Around} {outer : List Env} {s : Shared} {H : Hp} {qual : Str} {scope : Scope} {fI cda cc C : Addr} {cl : Value} {cld : Option Addr} {csl : Array (Option Value)} {sf nm : Str} {h1 : Heap} {tk : Nat} {u1 u2 : Value} {v1 v2 : V} (hd : A.handled = none) (e0 : Env0 P w K mg base A outer s H)
    (hsc : scope.names = [(sf, .local), (nm, .local), ("__class__", .free), ("super", .globalImplicit)]) (hk : scope.kind = .function) (hne : sf ≠ nm) (n1 : ("__class__" : Str) ≠ sf) (n2 : ("__class__" : Str) ≠ nm) (lcc : K.lookup cc = some ⟨cl, cld, .cell (some (.ref C)), csl⟩)
    (r1 : RelV v1 u1) (r2 : RelV v2 u2) (hns : h1.Ns s.heap.objs.size fun y => ([(sf, u1), (nm, u2)] : List (Str × Value)).reverse.lookup y) (kp : ∀ b o, s.heap.get? b = some o → h1.get? b = some o) :
    Inv (bCx P w K mg base [sf, nm] A outer s H qual scope fI cda cc) [] [some v1, some v2] H { s with heap := h1, toks := tk } := by
  have noA : ∀ b : Addr, b ∉ (bCx P w K mg base [sf, nm] A outer s H qual scope fI cda cc).ex := fun b z => absurd (show b ∈ ([] : List Addr) from z) (by simp)
  have lk : ∀ {y : Str} {c : Addr}, (bCx P w K mg base [sf, nm] A outer s H qual scope fI cda cc).env.cells.lookup y = some c → y = "__class__" ∧ c = cc := fun {y c} e => by
    have e' : ([(("__class__" : Str), cc)] : List (Str × Addr)).lookup y = some c := e
    have := PySem.mem_of_lookup e'
    rw [List.mem_singleton] at this
    cases this
    exact ⟨rfl, rfl⟩
  have bcc := e0.bs cc _ (e0.mod.kin cc _ lcc)
  refine ⟨⟨e0.mod, hk, rfl, rfl, Nat.le_refl _, fun y z c a b => (lk a).1.trans (lk b).1.symm, fun y hy => ?_, fun y c z _ => absurd (show false = true from z) (by simp), fun _ => hd, Around.frames_deeper e0.frames, .inr ⟨rfl, rfl⟩, fun b z => absurd z (noA b), e0.bs, e0.bsz, fun b _ _ => noA b, fun b z => absurd z (noA b), e0.funs, e0.frf⟩,
    rfl, e0.bare, Un.kept kp, ⟨_, hns, fun i y v e1 e2 e3 => ?_⟩, fun y c e => ⟨some (.ref C), ?_⟩, e0.hok.fresh (Nat.le_refl _), fun y c e => ?_, fun p hp => absurd (show p ∈ ([] : List (Addr × Obj)) from hp) (by simp), e0.hok.kept kp, rfl⟩
  · have hy : scope.names.lookup y = some .cell ∨ scope.names.lookup y = some .free := hy
    rw [hsc] at hy
    have : y = "__class__" := by
      rcases hy with hy | hy
      · have := PySem.mem_of_lookup hy
        simp at this
      · have := PySem.mem_of_lookup hy
        simpa using this
    subst this
    exact ⟨cc, rfl⟩
  · have e1 : ([sf, nm] : List Str)[i]? = some y := e1
    have lsf : scope.names.lookup sf = some .local := by
      rw [hsc]
      simp [List.lookup]
    have lnm : scope.names.lookup nm = some .local := by
      rw [hsc]
      have : (nm == sf) = false := by simpa using Ne.symm hne
      simp [List.lookup, this]
    match i, e1, e2 with
    | 0, e1, e2 =>
      cases e1
      cases e2
      have q : (sf == nm) = false := by simpa using hne
      exact ⟨u1, r1, .inl ⟨lsf, by simp [List.lookup, q]⟩⟩
    | 1, e1, e2 =>
      cases e1
      cases e2
      exact ⟨u2, r2, .inl ⟨lnm, by simp [List.lookup]⟩⟩
    | (k + 2), e1, e2 => simp at e1
  · obtain ⟨_, rfl⟩ := lk e
    exact ⟨_, kp _ _ bcc.1, rfl⟩
  · obtain ⟨_, rfl⟩ := lk e
    exact bcc.2
theorem fn_bad {C fI : Addr} {qual nm sf s0 : Str} {params : Arguments} {body : List Stmt} {scope : Scope} {p0 p1 p2 p3 p4 p5 p6 p7 p8 p9 p10 p11 : Pos} {j : Nat} (T : BadTxt P K mg C fI qual nm params body scope)
    (hbody : body = [.Expr (.Call (.Attribute (.Call (.Name "super" p0) [] [] p1) "__init__" p2) [.BinOp (.Constant (.str s0) j p3) .Add (.Name nm p4) p5] [] p6) p7, .Assign [.Attribute (.Name sf p8) nm p9] (.Name nm p10) p11])
    (hsc : scope.names = [(sf, .local), (nm, .local), ("__class__", .free), ("super", .globalImplicit)]) (hk : scope.kind = .function) (hco : scope.isCoroutine = false) (hgen : scope.isGenerator = false) (hpar : ∃ ar, (params.posonlyargs ++ params.args).head? = some ar ∧ ar.arg = sf) (hs0 : s0.length ≤ 1000) (hne : sf ≠ nm)
    (n1 : ("__class__" : Str) ≠ sf) (n2 : ("__class__" : Str) ≠ nm) (n3 : ("super" : Str) ≠ sf) (n4 : ("super" : Str) ≠ nm)
    (hds : (sf == ("__debug__" : Str)) = false) (hdn : (nm == ("__debug__" : Str)) = false) (hcs : (sf == ("__classdict__" : Str)) = false) (hcn : (nm == ("__classdict__" : Str)) = false)
    (hint : ∀ L cda cc : Addr, interactive (PySem.W.ksEnv qual scope L fI (.ref cda) cc) = false)
    (hev : ∀ L cda cc : Addr, ∃ pl : Sem Bool, eval (.Call (.Attribute (.Call (.Name "super" p0) [] [] p1) "__init__" p2) [.BinOp (.Constant (.str s0) j p3) .Add (.Name nm p4) p5] [] p6) (PySem.W.ksEnv qual scope L fI (.ref cda) cc) = (do
      let ov ← attributeBase (.Call (.Name "super" p0) [] [] p1) "__init__" (PySem.W.ksEnv qual scope L fI (.ref cda) cc) (eval (.Call (.Name "super" p0) [] [] p1) (PySem.W.ksEnv qual scope L fI (.ref cda) cc))
      standAt p2.atName
      let (f, first) ← holding [ov] (getMethod ov "__init__" pl)
      callWith p6 f first (backTo p6 (starEach [.BinOp (.Constant (.str s0) j p3) .Add (.Name nm p4) p5] (PySem.W.ksEnv qual scope L fI (.ref cda) cc))) [])) :
    ∃ fd : FuncData, FnOk P w K mg base L2.CX0 1 fI fd [sf, nm] (spBad C nm) ∧ ∃ (oc : Value) (od : Option Addr) (osl : Array (Option Value)), K.lookup fI = some ⟨oc, od, .func fd, osl⟩ ∧ ∃ (kV doc pm : Value) (an : Option Addr) (ct : Value) (cda cc : Addr), fd = PySem.W.ksFn "__init__" qual params body scope .none kV doc pm an (.ref cda) ct cc := by
  subst hbody
  obtain ⟨oc, od, kV, doc, pm, an, ct, osl, cda, cc, ccl, cdd, vs, ccs, file, tf, cl, cld, csl, lk, hcd, lcda, hvs, hfile, lcc⟩ := T.fn
  refine ⟨_, ⟨fun vs H Q E h => ?_, fun A outer s H args us vs0 Q E hr e0 hb r hsp => ?_⟩, _, _, _, lk, _, _, _, _, _, _, _, rfl⟩
  · obtain ⟨a, z, rfl, _⟩ := h
    rfl
  obtain ⟨a, z, rfl, hz, ha, hQ⟩ := hsp
  have KX : K.In s.heap := e0.mod.kin.keeps fun b o e => (e0.bs b o e).1
  have lim : s.heap.NoLimit := e0.mod.nolimit.keeps fun b o e => (e0.bs b o e).1
  obtain ⟨u1, u2, rfl, r1, r2⟩ : ∃ u1 u2, us = [u1, u2] ∧ RelV (.ref a) u1 ∧ RelV (.str z) u2 := by
    cases r with
    | cons r1 r =>
      cases r with
      | cons r2 r =>
        cases r
        exact ⟨_, _, rfl, r1, r2⟩
  have r1' : u1 = Value.ref a := r1
  subst r1'
  have lsf : scope.names.lookup sf = some .local := by
    rw [hsc]
    simp [List.lookup]
  have lnm : scope.names.lookup nm = some .local := by
    rw [hsc]
    have : (nm == sf) = false := by simpa using Ne.symm hne
    simp [List.lookup, this]
  have lsu : scope.names.lookup ("super" : Str) = some .globalImplicit := by
    rw [hsc]
    have q1 : (("super" : Str) == sf) = false := by simpa using n3
    have q2 : (("super" : Str) == nm) = false := by simpa using n4
    have q3 : (("super" : Str) == ("__class__" : Str)) = false := by decide
    simp [List.lookup, q1, q2, q3]
  have lcl : scope.names.lookup ("__class__" : Str) = some .free := by
    rw [hsc]
    have q1 : (("__class__" : Str) == sf) = false := by simpa using n1
    have q2 : (("__class__" : Str) == nm) = false := by simpa using n2
    simp [List.lookup, q1, q2]
  have hcell : ∀ x ∈ scope.names, x.2 ≠ .cell := by
    rw [hsc]
    simp
  obtain ⟨ar, hp, har⟩ := hpar
  refine PySem.ks_codeAny_call_defAt (fd := PySem.W.ksFn "__init__" qual params _ scope .none kV doc pm an (.ref cda) ct cc) (binds := [(sf, .ref a), (nm, u2)]) (by have := hr.dp; omega) (KX _ _ lk) rfl lim (PySem.W.codeRec_of KX hcd) rfl hb hcell (fun y hy => ?_) (fun h1 hns kp => ?_) hco hgen hk
  · simp at hy
    rcases hy with rfl | rfl
    · exact lsf
    · exact lnm
  have I : Inv (bCx P w K mg base [sf, nm] A outer s H qual scope fI cda cc) [] [some (.ref a), some (.str z)] H { s with heap := h1, toks := s.toks + 2 } := bCx_start hr.hd e0 hsc hk hne n1 n2 lcc r1 r2 hns kp
  obtain ⟨cnm, cq, cN, bs, bm, sn, sub, ab, col, dd, k0, k1, k2, k3, k5, hC, hbm⟩ := T.oex.cls
  have hD1 := I.kIn _ _ hC
  obtain ⟨t1, ho⟩ := exo_at I.hok ha
  have hcl : PySem.W.clsIn K C = some { name := cnm, bases := bs, mro := .ref C :: bm, ns := cN, qualname := cq, hasDict := true, slotNames := sn, subclasses := sub, abstract := ab, collection := col, hasDel := false } := by unfold PySem.W.clsIn; rw [hC] <;> rfl
  obtain ⟨mb, hb1, hb2⟩ := I.mod.blt
  generalize hs1 : ({ s with heap := h1, toks := s.toks + 2 } : Shared) = s1 at I ho hD1
  obtain ⟨hp1, g1, d1, tk1, os1⟩ := s1
  show PySem.wpAt (model P w) (A.deeper (PySem.W.ksEnv qual scope s.heap.objs.size fI (.ref cda) cc)) (.func _ (PySem.W.ksEnv qual scope s.heap.objs.size fI (.ref cda) cc)) (execs _ (PySem.W.ksEnv qual scope s.heap.objs.size fI (.ref cda) cc)) _ _ _
  obtain ⟨pl, hpl⟩ := hev s.heap.objs.size cda cc
  refine PySem.ks_wpAt_mono (E := fun _ _ => False) (PySem.ks_wpAt_execs_cons (PySem.ks_wpAt_Expr_any (PySem.ks_wpAt_MethodCall (pl := pl) (PySem.ks_wpAt_super_base (cc := cda) lsu lcl (by decide) rfl (I.kIn _ _ lk) rfl hp rfl (I.kIn _ _ lcda) rfl hvs hfile T.top ?_) hpl) (hint _ _ _))) (fun _ _ h => h) (fun _ _ z => z.elim)
  have hn := e0.mod.glob.keeps I.bk
  refine PySem.W.ks_loadName_global hk lsu (Calls.loadGlobal_builtin (env := PySem.W.ksEnv qual scope s.heap.objs.size fI (.ref cda) cc) hn T.sg (hb1.keeps I.bk) ((hb2 _ (by decide)).trans (show bootBuiltins "super" = some (.type "super") by kernel_rfl)) ⟨rfl, ?_⟩)
  refine wpAny_loadName_free hk lcl rfl ⟨_, I.kIn _ _ lcc, rfl⟩ ?_
  rw [har]
  obtain ⟨mL, hnL, hlL⟩ := id I.loc
  obtain ⟨uu, ruu, luu⟩ := hlL 0 sf (.ref a) rfl rfl (.inl lsf)
  have eru : uu = Value.ref a := ruu
  subst eru
  have hms : mL sf = some (.ref a) := by
    rcases luu with ⟨_, q⟩ | ⟨q, _⟩
    · exact q
    · have q : scope.names.lookup sf = some .cell ∨ scope.names.lookup sf = some .free := q
      rw [lsf] at q
      rcases q with q | q <;> cases q
  refine wpAny_loadName_local hk lsf hnL hms ?_
  refine PySem.ks_wpAny_isType_cls hD1 rfl ⟨rfl, ?_⟩
  have hIx : PySem.W.InstAt hp1 a ({ cls := Value.ref C, data := Data.fields #[Value.ref t1, Value.none, Value.none, Value.none, Value.bool false, Value.none] } : Obj) C none := ⟨ho, rfl, rfl, trivial⟩
  refine PySem.ks_wpAny_call_super hD1 rfl ho rfl (fun c e => by cases e) (PySem.W.looks_mroIn I.kIn T.mro) (fun h' eso kso => ?_)
  have I2 := I.kept (t' := tk1) kso
  have hIx2 : PySem.W.InstAt h' a ({ cls := Value.ref C, data := Data.fields #[Value.ref t1, Value.none, Value.none, Value.none, Value.bool false, Value.none] } : Obj) C none := ⟨kso _ _ ho, rfl, rfl, trivial⟩
  have hsup : PySem.W.alongIn K "__init__" (((Value.ref C :: bm).dropWhile (· != .ref C)).drop 1) = some (some (.builtin "ValueError.__init__")) := by
    have q := T.sup
    unfold PySem.W.ks_superIn at q
    rw [hcl] at q
    exact q
  refine PySem.W.kxs_getMethod PySem.W.kxs_ValueError eso (PySem.W.looks_opaque I2.kIn T.tp) (l₀ := Value.ref C :: bm) ?_ rfl I2.kIn hsup (hIx2.type.andThen (PySem.W.looks_subIn I2.kIn T.subV)) (PySem.W.ks_ne I2.kIn hIx2 hcl) (by decide) ?_
  · exact fun A Q E s k q => wpAny_bind ((PySem.W.looks_clsIn I2.kIn hcl) A _ E s k (wpAny_pure q))
  have kmw : ∀ b o, h'.get? b = some o → (h'.push (PySem.W.kxs_mw "ValueError.__init__" a)).get? b = some o := fun b o e => Heap.get?_push_of_some _ e
  have emw : (h'.push (PySem.W.kxs_mw "ValueError.__init__" a)).get? h'.objs.size = some (PySem.W.kxs_mw "ValueError.__init__" a) := Heap.get?_push_at rfl rfl
  have I3 := (I2.kept (t' := tk1 + 1) kmw).pins_of (pins' := [(h'.objs.size, PySem.W.kxs_mw "ValueError.__init__" a)]) (fun p hp => by
    rw [List.mem_singleton] at hp
    subst hp
    exact ⟨emw, I2.hok.fresh (Nat.le_refl _), Ne.symm (Nat.ne_of_lt I2.lt), I2.nofs (Nat.le_refl _), fun v z => by cases z⟩)
  refine PySem.W.kxs_callWith (i := "ValueError.__init__") (x := a) rfl (Calls.evalArgs_plain ?_)
  have pe : PA (bCx P w K mg base [sf, nm] A outer s H qual scope fI cda cc) [.BinOp (.Constant (.str s0) j p3) .Add (.Name nm p4) p5] _ := pa_cons (pe_op op_add_str pe_str (pe_var (i := 1) rfl (.inl lnm) hdn hcn)) pa_nil
  refine thn (pe.run p6 _ _ _ H (fun vs H' => H' = H ∧ vs.length = 1) I3 ⟨_, rfl, s0, z, rfl, rfl, by rw [sizeLine_eq]; omega, rfl, rfl⟩) fun us2 s2 hq2 => ?_
  obtain ⟨vs2, H2, I4, rv2, eH, el⟩ := hq2
  subst eH
  obtain ⟨epin, _⟩ := I4.pin (h'.objs.size, PySem.W.kxs_mw "ValueError.__init__" a) (by simp)
  refine ⟨epin, ?_⟩
  refine bound_ok T.oex I4 ha epin (by show ([] ++ us2).length ≤ _; rw [List.nil_append, ← Paired.length rv2, el, sizeLine_eq]; omega) (fun s3 I5 => ?_)
  refine PySem.ks_wpAt_execs_cons (PySem.wpAt_of_wpAny ?_)
  have pS := ps_ost (X := bCx P w K mg base [sf, nm] A outer s H2 qual scope fI cda cc) (pos := p11) (p' := p9) (f := nm) (pe_var (pos := p8) (i := 0) rfl (.inl lsf) hds hcs) (pe_var (pos := p10) (i := 1) rfl (.inl lnm) hdn hcn)
  refine thn (pS.run _ _ _ H2 { nx := fun _ H' => Q .non H', rt := fun _ _ => False } I5 ⟨.str z, rfl, .ref a, rfl, a, C, rfl, T.oex, T.noN, .inl ⟨ha, hQ⟩⟩) fun fl s4 hq4 => ?_
  cases fl with
  | next =>
    obtain ⟨σ4, H4, I6, q4⟩ := hq4
    refine PySem.wpAt_of_wpAny ?_
    rw [execs]
    refine wpAny_pure ?_
    exact ⟨.non, H4, I6.os, I6.bare, I6.base, I6.hok, rfl, q4⟩
  | ret u =>
    obtain ⟨v, σ', H', _, _, q⟩ := hq4
    exact q.elim
  | brk =>
    obtain ⟨_, _, _, q⟩ := hq4
    exact q.elim
  | cont =>
    obtain ⟨_, _, _, q⟩ := hq4
    exact q.elim
end
section
variable {P : Par} {E : XK}
theorem mkO_heap {H1 : Hp} {a d C : Addr} {fs : List (Str × V)} (ha : H1 a = none) (hda : d ≠ a) (hd : H1 d = none) : upd (del (upd (upd (upd H1 a (exo a C none)) d (exd d fs)) a (exo a C (some d))) a) d (.xd fs) = upd H1 d (.xd fs) := by
  funext b
  by_cases h1 : b = d
  · subst h1
    rw [upd_same, upd_same]
  · rw [upd_ne h1, upd_ne h1]
    by_cases h2 : b = a
    · subst h2
      rw [del_same, ha]
    · rw [del_ne h2, upd_ne h2, upd_ne h1, upd_ne h2]
theorem sim_raiseO {c : Nat} {C : Addr} {f : Str} {t : TA} {fa : FA} (hE : ∀ z H d, H d = some (.xd [(f, .str z)]) → P.EX ⟨c, [.str z]⟩ (.ref C) (some d) H) (ht : SimA P E t fa) : SimS P E (fun _ σ H => tMkO C (spBad C f) [] t σ H fun cls d H' => E cls d H') (fRaise c fa) := fun G0 Z pa G ad σ H e S D h =>
  ht.out S h fun vs ds e1 G1 ad1 H1 S1 hv h1 => by
    split at h1
    · rename_i z
      split at h1
      · rename_i hz
        obtain ⟨v, rfl, hv2⟩ := hv.one
        cases hv2
        refine ⟨by simp, fun a ha => ⟨a, z, rfl, hz, upd_same, fun d hd hda => ⟨rfl, d, [(f, .str z)], upd_same, by rw [upd_ne hda, upd_same], ?_, ?_⟩⟩⟩
        · rwa [upd_ne hda] at hd
        · rw [upd_ne hda] at hd
          rw [mkO_heap ha hda hd]
          exact h1 (.ref C) (some d) _ ad1 σ _ (S1.new hd fun _ q => by cases q) (hE z _ d upd_same)
      · exact h1.elim
    · exact h1.elim
end
end FL

set_option maxRecDepth 100000
set_option maxHeartbeats 1000000
/-! FL, defs by name: what stands at a name, calls with keywords. -/
namespace FL
open PySem PySem.Spec PyProof.Rows L2
/-- the def st, by its name; its code object at c -/
structure Src (K : PySem.W.Frag) (mg : Str → Option Value) (x : Str) (st : Stmt) (c : Addr) : Prop where
  ex : ∃ (f : Addr) (oc : Value) (od : Option Addr) (kV doc pm : Value) (an : Option Addr) (ct : Value) (osl : Array (Option Value)),
    K.lookup f = some ⟨oc, od, .func (PySem.W.fnOf x x (defArgs st) (defBody st) (defScope st) .none kV doc pm an (.ref c) ct), osl⟩ ∧ PySem.W.codeIn K (.ref c) x = true ∧ mg x = some (.ref f) ∧ PySem.W.keepIn K (.ref f) = true
/-- a def that may be called by its name and keeps sp -/
structure Has (P : Program) (w : World) (K : PySem.W.Frag) (mg : Str → Option Value) (base : Heap) (k : Nat) (x : Str) (st : Stmt) (ps : List Str) (sp : Sp) : Prop where
  ex : ∃ (f : Addr) (fd : FuncData), FnOk P w K mg base (L2.CX P w) k f fd ps sp ∧ mg x = some (.ref f) ∧ PySem.W.keepIn K (.ref f) = true ∧ Binds K fd ps [] ∧
    ∃ (kV doc pm : Value) (an : Option Addr) (cdv ct : Value), fd = PySem.W.fnOf x x (defArgs st) (defBody st) (defScope st) .none kV doc pm an cdv ct
section
variable {P : Program} {w : World} {K : PySem.W.Frag} {mg : Str → Option Value} {base : Heap}
def BindsAll (x : Str) (st : Stmt) (ps : List Str) : Prop := ∀ (kV doc pm : Value) (an : Option Addr) (cdv ct : Value) (us : List Value), us.length = ps.length → bindArgs (PySem.W.fnOf x x (defArgs st) (defBody st) (defScope st) .none kV doc pm an cdv ct) ⟨us, []⟩ = pure (ps.zip us)
theorem has_of {Pr : Par} {x : Str} {st : Stmt} {c : Addr} {N ps : List Str} {k n m : Nat} {body : FS} (S : Src K mg x st c) (sc : FnScope N ps (defScope st)) (hb : BindsAll x st ps) (hn : ps.length = n) (hN : N.length = n + m)
    (h : ∀ (f : Addr) (A : Around) (outer : List Env) (s : Shared) (H : Hp) (E : XK), Room k (A.deeper (envOfC x (defScope st) s.heap.objs.size f (.ref c))) →
      ∃ t, PSs (cxOf (L2.CX P w) P w K mg base N x (defScope st) f (.ref c) A outer s H E) (defBody st) t ∧ SimS Pr E t body) : Has P w K mg base (k + 1) x st ps (spF Pr n (fRun m body)) := by
  obtain ⟨f, oc, od, kV, doc, pm, an, ct, osl, lk, hcd, hm, hk⟩ := S.ex
  refine ⟨f, _, fn_of lk hcd sc (fun vs H Q E q => by rw [hn]; exact spF_len vs H Q E q) (fun A outer s H vs Q E hr hsp => ?_), hm, hk, .all (hb kV doc pm an (.ref c) ct), kV, doc, pm, an, .ref c, ct, rfl⟩
  obtain ⟨t, h1, h2⟩ := h f A outer s H E hr
  exact ⟨t, h1, spF_body hN h2 hsp⟩
theorem Has.mono {x : Str} {st : Stmt} {ps : List Str} {sp : Sp} {j k : Nat} (F : Has P w K mg base j x st ps sp) (h : j ≤ k) : Has P w K mg base k x st ps sp := by
  obtain ⟨f, fd, a, b⟩ := F.ex
  exact ⟨f, fd, a.mono h, b⟩
end
section
variable {X : Cx} {k j : Nat} {x : Str} {st : Stmt} {ps : List Str} {sp : Sp} {E : XK} {p pos : Pos} {e : Expr} {es : List Expr} {ta : TA}
theorem pe_callH (c : Has X.prog X.w X.K X.mg X.base k x st ps sp) (hr : Room j X.A) (hkj : k ≤ j) (hg : Gl X x) (hx : Passes (L2.CX X.prog X.w) X E) (ha : PA X (e :: es) ta) (hdb : (x == ("__debug__" : Str)) = false := by decide)
    (he : starEach (e :: es) X.env = (false, eval e X.env) :: starEach es X.env := by rfl) (hpl : (backTo pos (starEach es X.env)).any (·.1) = false := by rfl) :
    PE X (.Call (.Name x p) (e :: es) [] pos) (tCall sp [] E ta) := by
  obtain ⟨f, fd, F, hm, hk, hb, _⟩ := c.ex
  exact pe_call F (hr.mono hkj) hg hm hk hb .nil hx ha hdb he hpl
def gK {α : Type} (n m : Nat) (us ws : List α) : List α := if us.length = n ∧ ws.length = m then us ++ ws else []
def BindsKw (x : Str) (st : Stmt) (ps ks : List Str) (n m : Nat) : Prop := ∀ (kV doc pm : Value) (an : Option Addr) (cdv ct : Value) (us ws : List Value), us.length = n → ws.length = m → bindArgs (PySem.W.fnOf x x (defArgs st) (defBody st) (defScope st) .none kV doc pm an cdv ct) ⟨us, ks.zip ws⟩ = pure (ps.zip (us ++ ws))
theorem pe_callKH {kws : List Keyword} {tk : TA} {ks : List Str} {n m : Nat} (c : Has X.prog X.w X.K X.mg X.base k x st ps sp) (hr : Room j X.A) (hkj : k ≤ j) (hg : Gl X x) (hx : Passes (L2.CX X.prog X.w) X E) (hb : BindsKw x st ps ks n m) (hps : ps.length ≠ 0) (ha : PA X (e :: es) ta) (hkw : PK X kws tk)
    (hall : (backToKw pos (keywordEach kws X.env)).all (·.1.isSome) = true := by rfl) (hks : (backToKw pos (keywordEach kws X.env)).filterMap (·.1) = ks := by rfl) (hdb : (x == ("__debug__" : Str)) = false := by decide)
    (he : starEach (e :: es) X.env = (false, eval e X.env) :: starEach es X.env := by rfl) (hpl : ((backTo pos (starEach (e :: es) X.env)).any (·.1) || (backToKw pos (keywordEach kws X.env)).any (·.1.isNone)) = false := by rfl) :
    PE X (.Call (.Name x p) (e :: es) kws pos) (tCallK sp (gK n m) E ta tk) := by
  obtain ⟨f, fd, F, hm, hk, _, kV, doc, pm, an, cdv, ct, rfl⟩ := c.ex
  refine pe_callK F (hr.mono hkj) hg hm hk (g := gK n m) (ks := ks) ⟨fun s us ws _ hl => ?_, fun {vs us zs ws} r1 r2 => ?_⟩ hx ha hkw hall hks hdb he hpl
  · unfold gK at hl ⊢
    split at hl
    · rename_i c
      rw [if_pos c]
      exact .of_eq (hb kV doc pm an cdv ct us ws c.1 c.2)
    · exact absurd hl.symm hps
  · unfold gK
    rw [Paired.length r1, Paired.length r2]
    split
    · exact r1.append r2
    · exact .nil
end
section
variable {P : Par} {E : XK}
def fCallK (n m : Nat) (F : Sl → R PyData) (fa fb : FAg) : FE := fun e => (fa e).bind fun as e1 => (fb e1).bind fun bs e2 => if as.length = n ∧ bs.length = m then callF F (as ++ bs) e2 else .bad
theorem paired_app {α β : Type} {F : α → β → Prop} {xs xs' : List α} {ys ys' : List β} (h : Paired F xs ys) (h' : Paired F xs' ys') : Paired F (xs ++ xs') (ys ++ ys') := by
  induction h with
  | nil => exact h'
  | cons r _ ih => exact .cons r ih
theorem sim_callK {n m : Nat} {F : Sl → R PyData} {t u : TA} {fa fb : FAg} (ht : SimAg P E t fa) (hu : SimAg P E u fb) : SimE P E (tCallK (spF P (n + m) F) (gK n m) E t u) (fCallK n m F fa fb) := fun G0 Z pa G ad σ H e S Q q =>
  ht.bind S q fun vs as e1 G1 ad1 H1 S1 ha h1 => hu.bind S1 h1 fun ws bs e2 G2 ad2 H2 S2 hb h2 => by
    split at h2
    · rename_i c
      have l1 : vs.length = n := (Paired.length ha).trans c.1
      have l2 : ws.length = m := (Paired.length hb).trans c.2
      rw [gK, if_pos ⟨l1, l2⟩]
      exact call_ok S2 (paired_app (ha.mono S2.g0) hb) (by rw [List.length_append, c.1, c.2]) h2
    · exact h2.elim
end
end FL

set_option maxRecDepth 100000
set_option maxHeartbeats 1000000
/-! FL, further rules. -/
namespace FL
open PySem PySem.Spec PyProof.Rows L2
section
variable {P : Par} {E : XK}
/-! ### -x -/
def gNeg : PyData → Option PyData
  | .int i => some (.int (-i))
  | _ => none
theorem v_neg : VUn P (rU fun i => .int (-i)) gNeg := fun {E G0 Z pa G ad σ H e x a} S hx Q h => by
  cases hx with
  | int i => exact ⟨i, rfl, Post.out S h (.int _)⟩
  | _ => exact h.elim
/-! ### range(a, b, c) -/
def rangeN (i j c : Int) : Nat := (Builtin.Range.rangeSize i j c).toNat
def fRng3 (f : FA) : FA := fun e => (f e).bind fun ds e1 => match ds with
  | [.int i, .int j, .int c] => if (decide (c ≠ 0) && (Nat.ble c.natAbs 1073741823 && (Builtin.Range.small i j c && decide (0 ≤ Builtin.Range.rangeSize i j c)))) = true then .ok (rng i (rangeN i j c) c) e1 else .bad
  | _ => .bad
theorem sim_rng3 {t : TA} {f : FA} (h : SimA P E t f) : SimI P E (iRng3 t) (fRng3 f) := fun G0 Z pa G ad σ H e S Q q =>
  h.bind S q fun vs ds e1 G1 ad1 H1 S1 hv h1 => by
    split at h1
    · rename_i i j c
      split at h1
      · rename_i hc
        simp only [Bool.and_eq_true, decide_eq_true_eq] at hc
        obtain ⟨u, v, w, rfl, a1, a2, a3⟩ := hv.three
        cases a1
        cases a2
        cases a3
        exact ⟨i, j, c, rangeN i j c, rfl, ⟨hc.1, Nat.lt_succ_of_le (Nat.le_of_ble_eq_true hc.2.1), hc.2.2.1, (Int.toNat_of_nonneg hc.2.2.2).symm⟩, h1 _ G1 ad1 H1 S1.self items_rngC⟩
      · exact h1.elim
    · exact h1.elim
/-! ### a fresh list by + and * -/
def fRepF (fa fb : FE) : FA := fun e => (fa e).bind fun a e1 => (fb e1).bind fun b e2 => match a, b with
  | .list xs, .int k => if (Nat.ble k.natAbs 9000000000000000000 && Nat.ble (xs.length * k.toNat) sizeLine) = true then .ok (List.replicate k.toNat xs).flatten e2 else .bad
  | _, _ => .bad
theorem sim_repF {ta tb : TE} {fa fb : FE} (ha : SimE P E ta fa) (hb : SimE P E tb fb) : SimF P E (tOp (rMulAll P.K) ta tb) (fRepF fa fb) := fun G0 Z pa G ad σ H e S Q h =>
  ha.bindF S h fun x a e1 G1 ad1 H1 S1 hx h1 => hb.bindF S1 h1 fun y b e2 G2 ad2 H2 S2 hy h2 => by
    split at h2
    · rename_i xs k
      split at h2
      · rename_i c
        rw [Bool.and_eq_true] at c
        have c0 := Nat.le_of_ble_eq_true c.1
        have c3 := Nat.le_of_ble_eq_true c.2
        have c1 : -(2 ^ 63) ≤ k := by omega
        have c2 : k < 2 ^ 63 := by omega
        have hx' := hx.mono S2.g0
        cases hx' with
        | lst g1 r1 =>
          cases hy
          exact .inr (.inl ⟨_, k, _, rfl, rfl, S2.sub _ _ g1, c1, c2, by rw [r1.length]; exact c3, fun p hp => h2 _ G2 ad2 H2 p S2.self (r1.rep _) hp⟩)
      · exact h2.elim
    · exact h2.elim
def fCatF (fa fb : FE) : FA := fun e => (fa e).bind fun a e1 => (fb e1).bind fun b e2 => match a, b with
  | .list xs, .list ys => if xs.length + ys.length ≤ sizeLine then .ok (xs ++ ys) e2 else .bad
  | _, _ => .bad
theorem sim_catF {ta tb : TE} {fa fb : FE} (ha : SimE P E ta fa) (hb : SimE P E tb fb) : SimF P E (tOp (rAddAll P.K) ta tb) (fCatF fa fb) := fun G0 Z pa G ad σ H e S Q h =>
  ha.bindF S h fun x a e1 G1 ad1 H1 S1 hx h1 => hb.bindF S1 h1 fun y b e2 G2 ad2 H2 S2 hy h2 => by
    split at h2
    · rename_i xs ys
      split at h2
      · rename_i c
        have hx' := hx.mono S2.g0
        cases hx' with
        | lst g1 r1 =>
          cases hy with
          | lst g2 r2 => exact .inr (.inr (.inr ⟨_, _, _, _, rfl, rfl, S2.sub _ _ g1, S2.sub _ _ g2, by rw [r1.length, r2.length]; exact c, fun p hp => h2 _ G2 ad2 H2 p S2.self (r1.append r2) hp⟩))
      · exact h2.elim
    · exact h2.elim
/-- list(x), a new one -/
def fListF (fa : FA) : FA := fun e => (fa e).bind fun as e1 => match as with
  | [.list ds] => .ok ds e1
  | [.tuple ds] => .ok ds e1
  | _ => .bad
theorem sim_listF {t : TA} {f : FA} (h : SimA P E t f) : SimF P E (tCB (rListOf P.K) t) (fListF f) := fun G0 Z pa G ad σ H e S Q q =>
  h.bindF S q fun xs as e1 G1 ad1 H1 S1 hx h1 => by
    split at h1
    · obtain ⟨v, rfl, hv⟩ := hx.one
      cases hv with
      | lst g1 r1 => exact ⟨_, _, rfl, .inl (SqL.of (S1.sub _ _ g1)), fun l hl => h1 _ G1 ad1 H1 l S1.self r1 hl⟩
    · obtain ⟨v, rfl, hv⟩ := hx.one
      cases hv with
      | tup g1 r1 => exact ⟨_, _, rfl, .inr (S1.sub.sqT g1.sqT), fun l hl => h1 _ G1 ad1 H1 l S1.self r1 hl⟩
    · exact h1.elim
/-! ### sorting ints -/
def sortI (ns : List Int) : List Int := ns.mergeSort fun a b => decide (a ≤ b)
theorem sortI_perm (ns : List Int) : (sortI ns).Perm ns := List.mergeSort_perm _ _
theorem sortI_sorted (ns : List Int) : (sortI ns).Pairwise (· ≤ ·) := by
  have h := List.pairwise_mergeSort (le := fun a b : Int => decide (a ≤ b)) (fun a b c h1 h2 => by simp at *; omega) (fun a b => by simp; omega) ns
  exact h.imp fun q => by simpa using q
theorem sorted_uniq : ∀ {xs ys : List Int}, xs.Perm ys → xs.Pairwise (· ≤ ·) → ys.Pairwise (· ≤ ·) → xs = ys
  | [], ys, p, _, _ => (p.symm.eq_nil).symm
  | x :: xs, [], p, _, _ => absurd p.eq_nil (by simp)
  | x :: xs, y :: ys, p, h1, h2 => by
    obtain ⟨a1, a2⟩ := List.pairwise_cons.mp h1
    obtain ⟨b1, b2⟩ := List.pairwise_cons.mp h2
    have hx : x ∈ y :: ys := p.mem_iff.mp List.mem_cons_self
    have hy : y ∈ x :: xs := p.mem_iff.mpr List.mem_cons_self
    have e : x = y := by
      rcases List.mem_cons.mp hx with q | q
      · exact q
      · rcases List.mem_cons.mp hy with r | r
        · exact r.symm
        · exact Int.le_antisymm (a1 y r) (b1 x q)
    subst e
    rw [sorted_uniq (List.perm_cons x |>.mp p) a2 b2]
theorem sortI_uniq {xs ns : List Int} (p : xs.Perm ns) (h : xs.Pairwise (· ≤ ·)) : xs = sortI ns := sorted_uniq (p.trans (sortI_perm ns).symm) h (sortI_sorted ns)
theorem DPs.ints {K : PySem.W.Frag} {G : Hp} : ∀ (ns : List Int), DPs K G (ns.map V.int) (ns.map PyData.int)
  | [] => .nil
  | n :: r => .cons (.int n) (DPs.ints r)
def fSorted (fa : FA) : FA := fun e => (fa e).bind fun as e1 => match as with
  | [.list ds] => match toInts ds with
    | some ns => .ok ((sortI ns).map .int) e1
    | none => .bad
  | [.tuple ds] => .bad
  | _ => .bad
theorem sim_sorted {t : TA} {f : FA} (h : SimA P E t f) : SimF P E (tCB (rSortedI P.K) t) (fSorted f) := fun G0 Z pa G ad σ H e S Q q =>
  h.bindF S q fun xs as e1 G1 ad1 H1 S1 hx h1 => by
    split at h1
    · obtain ⟨v, rfl, hv⟩ := hx.one
      cases hv with
      | lst g1 r1 =>
        split at h1
        · rename_i ns hn
          refine ⟨_, ns, rfl, by rw [← r1.toInts hn]; exact SqL.of (S1.sub _ _ g1), fun ns' p hp hs hf => ?_⟩
          rw [sortI_uniq hp hs]
          exact h1 _ G1 ad1 H1 p S1.self (DPs.ints _) hf
        · exact h1.elim
    · exact h1.elim
    · exact h1.elim
/-! ### dicts of the frame's own -/
def putD {κ : Type} [DecidableEq κ] (kvs : List (κ × PyData)) (k : κ) (v : PyData) : List (κ × PyData) :=
  if (kvs.any fun kv => decide (kv.1 = k)) = true then kvs.map (fun kv => if kv.1 = k then (kv.1, v) else kv) else kvs ++ [(k, v)]
def valD {κ : Type} [DecidableEq κ] (kvs : List (κ × PyData)) (k : κ) : Option PyData := (kvs.find? fun kv => decide (kv.1 = k)).map (·.2)
section
variable {κ : Type} [DecidableEq κ] {K : PySem.W.Frag} {G : Hp}
theorem KVs.length {vs : List (κ × V)} {ds : List (κ × PyData)} (h : KVs K G vs ds) : vs.length = ds.length := Paired.length h
theorem KVs.any {vs : List (κ × V)} {ds : List (κ × PyData)} (h : KVs K G vs ds) (k : κ) : (vs.any fun kv => decide (kv.1 = k)) = (ds.any fun kv => decide (kv.1 = k)) := by
  unfold KVs at h
  induction h with
  | nil => rfl
  | cons r _ ih => rw [List.any_cons, List.any_cons, ih, r.1]
theorem KVs.put {vs : List (κ × V)} {ds : List (κ × PyData)} {k : κ} {v : V} {d : PyData} (h : KVs K G vs ds) (hv : DP K G v d) : KVs K G (putK vs k v) (putD ds k d) := by
  unfold putK putD
  rw [h.any k]
  split
  · rename_i c0
    clear c0
    unfold KVs at h ⊢
    induction h with
    | nil => exact .nil
    | cons r _ ih =>
      rw [List.map_cons, List.map_cons]
      refine .cons ?_ ih
      rw [r.1]
      split
      · exact ⟨rfl, hv⟩
      · exact r
  · exact paired_app h (.cons ⟨rfl, hv⟩ .nil)
theorem KVs.val {vs : List (κ × V)} {ds : List (κ × PyData)} (h : KVs K G vs ds) (k : κ) : (∃ v d, valV vs k = some v ∧ valD ds k = some d ∧ DP K G v d) ∨ (valV vs k = none ∧ valD ds k = none) := by
  unfold KVs at h
  induction h with
  | nil => exact .inr ⟨rfl, rfl⟩
  | @cons p q ps qs r t ih =>
    by_cases c : p.1 = k
    · refine .inl ⟨p.2, q.2, valV_pos c, ?_, r.2⟩
      have c' : q.1 = k := r.1.symm.trans c
      unfold valD
      simp [List.find?_cons, c']
    · have c' : ¬ q.1 = k := fun z => c (r.1.trans z)
      rw [valV_neg c]
      have : valD (q :: qs) k = valD qs k := by
        unfold valD
        simp [List.find?_cons, c']
      rw [this]
      exact ih
theorem KVs.keys {vs : List (κ × V)} {ds : List (κ × PyData)} (h : KVs K G vs ds) : vs.map (·.1) = ds.map (·.1) := by
  unfold KVs at h
  induction h with
  | nil => rfl
  | cons r _ ih => rw [List.map_cons, List.map_cons, ih, r.1]
end
theorem Sat.ownK {G0 Z : Hp} {pa : Nat → Addr} {G : Hp} {ad : Nat → Addr} {σ : L2.St} {H : Hp} {e : Sl} {i : Nat} {p : Bool} {kvs : List (Key × PyData)} (S : Sat P G0 Z pa G ad σ H e) (h : e[i]? = some (.dK p kvs)) :
    σ[i]? = some (some (.ref (ad i))) ∧ ∃ vs, H (ad i) = some (.dK vs) ∧ KVs P.K G vs kvs := by
  obtain ⟨h1, h2, h3⟩ := S.own i _ h rfl
  exact ⟨h1, h3⟩
/-- x = {k: b}, k an int, b a truth value, both written -/
def fDisp1 (i : Nat) (k : Int) (b : Bool) : FS := fun e => if pinnedAt e i = true then .bad else .nx (e.set i (.dK false [(Sum.inl k, .bool b)]))
theorem sim_disp1 {i : Nat} {k : Int} {b : Bool} : SimS P E (tAsg (tDisp [(tC (.int k), tC (.bl b))]) (gName i)) (fDisp1 i k b) := fun G0 Z pa G ad σ H e S D h => by
  unfold fDisp1 at h
  split at h
  · exact h.elim
  · rename_i c
    intro p hp
    refine ⟨upd_same, [(Sum.inl k, .bl b)], rfl, Nat.le_of_ble_eq_true rfl, ?_⟩
    have eu : upd (upd H p (.dK [])) p (.dK (mergeK [] [(Sum.inl k, V.bl b)])) = upd H p (.dK [(Sum.inl k, V.bl b)]) := by
      funext a
      by_cases ha : a = p
      · rw [ha, upd_same, upd_same]
        rfl
      · rw [upd_ne ha, upd_ne ha, upd_ne ha]
    show gName i (.ref p) σ (upd (upd H p (.dK [])) p (.dK (mergeK [] [(Sum.inl k, V.bl b)]))) D.nx
    rw [eu]
    unfold pinnedAt at c
    cases q2 : e[i]? with
    | none =>
      rw [q2] at c
      exact absurd rfl c
    | some s0 => exact PostS.mono h (Le.refl G) G _ _ _ (S.setOwn q2 hp (s := .dK false [(Sum.inl k, .bool b)]) rfl rfl ⟨_, upd_same, .cons ⟨rfl, .bl b⟩ .nil⟩)
/-- x = {} with keys that are ints or texts -/
def fNewK (i : Nat) : FS := fun e => if pinnedAt e i = true then .bad else .nx (e.set i (.dK false []))
/-- x[k] = v, x a dict of the frame's own -/
def fDPut (i : Nat) (fk fv : FE) : FS := fun e => (fv e).out fun v e1 => match e1[i]? with
  | some (.dK _ _) => (fk e1).out fun k e2 => match e2[i]?, k with
    | some (.dK p kvs), .int n => if kvs.length < sizeLine then .nx (e2.set i (.dK p (putD kvs (Sum.inl n) v))) else .bad
    | some (.dK p kvs), .str n => if kvs.length < sizeLine then .nx (e2.set i (.dK p (putD kvs (Sum.inr n) v))) else .bad
    | _, _ => .bad
  | _ => .bad
theorem sim_dput {i : Nat} {tk tv : TE} {fk fv : FE} (hk : SimE P E tk fk) (hv : SimE P E tv fv) : SimS P E (sDPut (tVar i) tk tv) (fDPut i fk fv) := fun G0 Z pa G ad σ H e S D h =>
  hv.out S h fun v d e1 G1 ad1 H1 S1 hv h1 => by
    split at h1
    · rename_i p kvs hx
      obtain ⟨a1, vs, a2, a3⟩ := S1.ownK hx
      refine ⟨_, a1, hk.out S1 h1 fun w k e2 G2 ad2 H2 S2 hw h2 => ?_⟩
      split at h2
      · rename_i p' kvs' n hy
        obtain ⟨g1, ws, g2, g3⟩ := S2.ownK hy
        rw [same_ref a1 g1]
        cases hw
        split at h2
        · rename_i hl
          refine ⟨_, _, rfl, DPut.k (k := Sum.inl n) g2 (by rw [g3.length]; exact hl), ?_⟩
          exact h2 G2 ad2 σ _ (S2.change (s := .dK p' (putD kvs' (Sum.inl n) d)) hy rfl rfl rfl ⟨_, upd_same, g3.put (hv.mono S2.g0)⟩)
        · exact h2.elim
      · rename_i p' kvs' n hy
        obtain ⟨g1, ws, g2, g3⟩ := S2.ownK hy
        rw [same_ref a1 g1]
        cases hw
        split at h2
        · rename_i hl
          refine ⟨_, _, rfl, DPut.k (k := Sum.inr n) g2 (by rw [g3.length]; exact hl), ?_⟩
          exact h2 G2 ad2 σ _ (S2.change (s := .dK p' (putD kvs' (Sum.inr n) d)) hy rfl rfl rfl ⟨_, upd_same, g3.put (hv.mono S2.g0)⟩)
        · exact h2.elim
      · exact h2.elim
    · exact h1.elim
def keysI : List (Key × PyData) → Option (List Int)
  | [] => some []
  | (.inl n, _) :: r => (keysI r).map (n :: ·)
  | _ => none
theorem keysI_eq : ∀ {kvs : List (Key × PyData)} {ks : List Int}, keysI kvs = some ks → kvs.map (·.1) = ks.map Sum.inl
  | [], _, h => by
    cases h
    rfl
  | (.inl n, _) :: r, _, h => by
    unfold keysI at h
    obtain ⟨ms, h1, rfl⟩ := Option.map_eq_some_iff.mp h
    rw [List.map_cons, List.map_cons, keysI_eq h1]
  | (.inr n, _) :: r, _, h => by cases h
abbrev rSortedDI : List V → Hp → VK → Prop := fun xs H Q => ∃ (a : Addr) (kvs : List (Key × V)) (ks : List Int), xs = [.ref a] ∧ Rd H a (.dK kvs) ∧ kvs.map (·.1) = ks.map Sum.inl ∧ ks.length < 64 ∧
    ∀ (ys : List Int) (p : Addr), ys.Perm ks → ys.Pairwise (· ≤ ·) → H p = none → Q (.ref p) (upd H p (.lst (ys.map V.int)))
/-- sorted(d), d a dict of the frame's own -/
def fSortedD (i : Nat) : FA := fun e => match e[i]? with
  | some (.dK _ kvs) => match keysI kvs with
    | some ks => if ks.length < 64 then .ok ((sortI ks).map .int) e else .bad
    | none => .bad
  | _ => .bad
theorem sim_sortedD {i : Nat} : SimF P E (tCB rSortedDI (tCons (tVar i) tNil)) (fSortedD i) := fun G0 Z pa G ad σ H e S Q q => by
  unfold fSortedD at q
  split at q
  · rename_i p kvs hx
    split at q
    · rename_i ks hk
      split at q
      · rename_i hl
        obtain ⟨g1, ws, g2, g3⟩ := S.ownK hx
        refine ⟨_, g1, _, ws, ks, rfl, .inl g2, g3.keys.trans (keysI_eq hk), hl, fun ys p hp hs hf => ?_⟩
        rw [sortI_uniq hp hs]
        exact q _ G ad H p S.self (DPs.ints _) hf
      · exact q.elim
    · exact q.elim
  · exact q.elim
end
end FL

set_option maxRecDepth 100000
set_option maxHeartbeats 1000000
/-! FL, what stands at the module's names; the error class; the def that tells what is refused. -/
namespace FL
open PySem PySem.Spec PyProof.Rows L2 LamX
/-- how the error lies -/
def EXb (C : Addr) : Exn → Value → Option Addr → Hp → Prop := fun x cls dd H => x.c = 0 ∧ ∃ (z : Str) (d : Addr), x.ds = [.str z] ∧ cls = .ref C ∧ dd = some d ∧ H d = some (.xd [(("name" : Str), .str z)])
abbrev PR (K : PySem.W.Frag) (T : List (Addr × Str)) (C : Addr) : Par := ⟨K, T, EXb C⟩
theorem exb_to {K : PySem.W.Frag} {T : List (Addr × Str)} {C : Addr} (z : Str) (H : Hp) (d : Addr) (h : H d = some (.xd [(("name" : Str), .str z)])) : (PR K T C).EX ⟨0, [.str z]⟩ (.ref C) (some d) H := ⟨rfl, z, d, rfl, rfl, rfl, h⟩
theorem exb_of {K : PySem.W.Frag} {T : List (Addr × Str)} {C : Addr} (z : Str) (cls : Value) (dd : Option Addr) (H : Hp) (h : (PR K T C).EX ⟨0, [.str z]⟩ cls dd H) : ∃ d, cls = .ref C ∧ dd = some d ∧ H d = some (.xd [(("name" : Str), .str z)]) := by
  obtain ⟨_, z', d, h1, h2, h3, h4⟩ := h
  cases h1
  exact ⟨d, h2, h3, h4⟩
/-! the built-ins -/
theorem bt_len : bootBuiltins "len" = some (.builtin "len") := by decide +kernel
theorem bt_abs : bootBuiltins "abs" = some (.builtin "abs") := by decide +kernel
theorem bt_max : bootBuiltins "max" = some (.builtin "max") := by decide +kernel
theorem bt_min : bootBuiltins "min" = some (.builtin "min") := by decide +kernel
theorem bt_sum : bootBuiltins "sum" = some (.builtin "sum") := by decide +kernel
theorem bt_any : bootBuiltins "any" = some (.builtin "any") := by decide +kernel
theorem bt_all : bootBuiltins "all" = some (.builtin "all") := by decide +kernel
theorem bt_int : bootBuiltins "int" = some (.type "int") := by decide +kernel
theorem bt_tuple : bootBuiltins "tuple" = some (.type "tuple") := by decide +kernel
theorem bt_list : bootBuiltins "list" = some (.type "list") := by decide +kernel
theorem bt_sorted : bootBuiltins "sorted" = some (.builtin "sorted") := by decide +kernel
theorem bt_isinstance : bootBuiltins "isinstance" = some (.builtin "isinstance") := by decide +kernel
theorem bt_str : bootBuiltins "str" = some (.type "str") := by decide +kernel
theorem bt_bool : bootBuiltins "bool" = some (.type "bool") := by decide +kernel
theorem bt_range : bootBuiltins "range" = some (.type "range") := by decide +kernel
theorem bt_zip : bootBuiltins "zip" = some (.type "zip") := by decide +kernel
theorem bt_set : bootBuiltins "set" = some (.type "set") := by decide +kernel
theorem bt_dict : bootBuiltins "dict" = some (.type "dict") := by decide +kernel
structure BadOk (P : Program) (w : World) (K : PySem.W.Frag) (mg : Str → Option Value) (base : Heap) (C : Addr) : Prop where
  oex : OexC K C
  xf : XfC K C
  no : PySem.W.findIn K (.ref C) "name" = some none
  self : PySem.W.exmOne K (.ref C) (.ref C) = some true
  gm : mg "BadArgument" = some (.ref C)
  fn : ∃ (fI : Addr) (fd : FuncData), PySem.W.findIn K (.ref C) "__init__" = some (some (.ref fI)) ∧ PySem.W.typeIn K (.ref fI) = some (.type "function") ∧ FnOk P w K mg base L2.CX0 1 fI fd ["self", "name"] (spBad C "name") ∧ Binds K fd ["self", "name"] []
section
variable {X : Cx} {C : Addr}
theorem pmk_bad {e : Expr} {ta : TA} {p pos : Pos} {k : Nat} (B : BadOk X.prog X.w X.K X.mg X.base C) (hr : Room k X.A) (hk : 2 ≤ k) (hg : Gl X "BadArgument") (ha : PA X [e] ta)
    (he : starEach [e] X.env = (false, eval e X.env) :: starEach [] X.env := by rfl) (hpl : (backTo pos (starEach [] X.env)).any (·.1) = false := by rfl) :
    PMk X (.Call (.Name "BadArgument" p) [e] [] pos) (tMkO C (spBad C "name") [] ta) := by
  obtain ⟨fI, fd, h1, h2, h3, h4⟩ := B.fn
  exact pmk_oex B.oex h1 h2 h3 (hr.mono hk) h4 .nil pass0 hg B.gm ha (by decide) he hpl
theorem pe_globI {x : Str} {n : Int} {pos : Pos} (hg : Gl X x) (hm : ∃ t, X.mg x = some (.int n t)) (hd : (x == ("__debug__" : Str)) = false := by decide) : PE X (.Name x pos) (tC (.int n)) := by
  obtain ⟨t, h⟩ := hm
  exact pe_glob hg h ⟨t, rfl⟩ hd
theorem pe_globS {x : Str} {z : Str} {pos : Pos} (hg : Gl X x) (hm : ∃ t, X.mg x = some (.str z t)) (hd : (x == ("__debug__" : Str)) = false := by decide) : PE X (.Name x pos) (tC (.str z)) := by
  obtain ⟨t, h⟩ := hm
  exact pe_glob hg h ⟨t, rfl⟩ hd
theorem cx_qual {CX : CXT} {P : Program} {w : World} {K : PySem.W.Frag} {mg : Str → Option Value} {base : Heap} {N : List Str} {qual : Str} {scope : Scope} {f : Addr} {cd : Value} {A : Around} {outer : List Env} {s : Shared} {H : Hp} {E : XK} : (cxOf CX P w K mg base N qual scope f cd A outer s H E).env.qual = qual ++ ".<locals>." := rfl
/-- the table of code objects of the code object at c -/
structure TabOk (T : List (Addr × Str)) (base : Heap) (mg : Str → Option Value) (c : Addr) (q : Str) : Prop where
  ex : ∃ t, LamX.TabB base mg c t ∧ (t, q) ∈ T ∧ ∀ p ∈ T, p.1 = t → p.2 = q
theorem pe_allH {T : List (Addr × Str)} {c : Addr} {elt iter : Expr} {x : Str} {ix k j : Nat} {wi : TI} {te : TE} {px gpos p pos : Pos} {scope : Scope} (hr : Room j X.A) (hj : k + 1 ≤ j) (hg : Gl X "all") (hm : X.mg "all" = none) {q : Str} (TK : TabOk T X.base X.mg c (q ++ "<genexpr>")) (hq : X.env.qual = q) (hcode : X.env.code = .ref c)
    (S : GX.GS X.env.scope scope x) (hN : X.N.Nodup) (hix : X.N[ix]? = some x) (dotN : (".0" : Str) ∉ X.N)
    (hi : PI X (.Name x px) iter wi) (he : ∀ (A : Around) (s : Shared) (H : Hp) (C : Addr) (code : Value) (fp : List Addr), Room k A → PE (GX.gCx X A s H (GX.gEnvOf X scope C code builtinsNs) fp) elt te)
    (hs : ∀ v, genFold iter X.env v = pure v := by intro _; rfl)
    (hst : starEach [.GeneratorExp elt [⟨.Name x px, iter, [], 0⟩] scope gpos] X.env = (false, eval (.GeneratorExp elt [⟨.Name x px, iter, [], 0⟩] scope gpos) X.env) :: starEach [] X.env := by rfl) :
    PE X (.Call (.Name "all" p) [.GeneratorExp elt [⟨.Name x px, iter, [], 0⟩] scope gpos] [] pos) (GX.tAllG T wi ix te) := by
  subst hq
  obtain ⟨t, TB, h1, h2⟩ := TK.ex
  exact GX.pe_allG (hr.mono hj) hg hm bt_all TB hcode h1 h2 S hN hix dotN hi he hs hst
/-- the text of the def that tells the name -/
structure RefTxt (st : Stmt) : Prop where
  body : ∃ (j : Nat) (p1 p2 p3 p4 p5 p6 p7 p8 p9 p10 p11 : Pos), defBody st = [.Try [.Expr (.Call (.Name "call" p1) [] [] p2) p3] [.ExceptHandler (some (.Name "BadArgument" p4)) (some "e") [.Return (some (.Attribute (.Name "e" p5) "name" p6)) p7] p8] [] [] p9, .Return (some (.Constant (.str ⟨#[]⟩) j p10)) p11]
  sc : FnScope ["call", "e"] ["call"] (defScope st)
  ba : BindsAll "_law_refused" st ["call"]
  ge : (defScope st).names.lookup ("BadArgument" : Str) = some .globalImplicit
  la : (defScope st).names.lookup ("call" : Str) = some .local
  le : (defScope st).names.lookup ("e" : Str) = some .local
theorem pe_refused {T : List (Addr × Str)} {st : Stmt} {cR c : Addr} {k j : Nat} {params : Arguments} {body : Expr} {scope : Scope} {t : XK → TE} {p lpos pos : Pos} (R : RefTxt st) (S : Src X.K X.mg "_law_refused" st cR) (B : BadOk X.prog X.w X.K X.mg X.base C) {q : Str} (TK : TabOk T X.base X.mg c (q ++ "<lambda>")) (hq : X.env.qual = q) (hcode : X.env.code = .ref c)
    (hr : Room j X.A) (hj : k + 2 ≤ j) (L : LamS X.env.scope scope) (hg : Gl X "_law_refused") (hdef : defaultsOf params X.env = ([], []))
    (hbind : ∀ (q : Str) (cl : List (Str × Addr)) (pm cv ctv : Value), bindArgs (PySem.W.kla_fn "<lambda>" q params body scope cl pm cv ctv) ⟨[], []⟩ = pure [])
    (hbody : ∀ (A : Around) (outer : List Env) (s : Shared) (H : Hp) (E : XK) (f c' : Addr), Room k (A.deeper (lamEnv X scope s.heap.objs.size f c')) → PE (lamCx X A outer s H E scope f c') body (t E)) :
    PE X (.Call (.Name "_law_refused" p) [.Lambda params body scope lpos] [] pos) (tLam T (TTref X.K C "name") t) := by
  subst hq
  obtain ⟨f, oc, od, kV, doc, pm, an, ct, osl, lk, hcd, hm, hk⟩ := S.ex
  obtain ⟨P, TB, hmT, hu⟩ := TK.ex
  obtain ⟨j, p1, p2, p3, p4, p5, p6, p7, p8, p9, p10, p11, hbd⟩ := R.body
  refine pe_lamcall (Ng := ["call", "e"]) (a := "call") hg hm hk lk hcd (.all (R.ba kV doc pm an (.ref cR) ct)) R.sc rfl (.inl R.la) ?_ TB hcode hmT hu (hr.mono hj) L hdef hbind hbody (by decide) (by decide) (by decide)
  rw [hbd]
  exact ref_gives R.sc.kind R.ge R.la R.le (by decide) B.gm (by decide) B.xf B.no B.self (by decide) (by decide)
end
end FL

set_option maxRecDepth 100000
set_option maxHeartbeats 1000000
/-! FL, evaluation of the functions of slots. -/
namespace FL
open PySem PySem.Spec PyProof.Rows L2
theorem ofEq {α : Sort _} {a b : α} (h : a = b) : a = b := h
section
variable {α β : Type} {f g : FS} {fe fa fb fc : FE} {ft fu : FT} {fl fm : FA} {e : Sl}
@[simp] theorem ev_ok (a : α) (e : Sl) (k : α → Sl → R β) : (R.ok a e).bind k = k a e := ofEq rfl
@[simp] theorem ev_exb (a : Exn) (e : Sl) (k : α → Sl → R β) : (R.ex a e).bind k = .ex a e := ofEq rfl
@[simp] theorem ev_badb (k : α → Sl → R β) : (R.bad : R α).bind k = .bad := ofEq rfl
@[simp] theorem ev_oko (a : α) (e : Sl) (k : α → Sl → Out) : (R.ok a e).out k = k a e := ofEq rfl
@[simp] theorem ev_exo (a : Exn) (e : Sl) (k : α → Sl → Out) : (R.ex a e).out k = .ex a e := ofEq rfl
@[simp] theorem ev_bado (k : α → Sl → Out) : (R.bad : R α).out k = .bad := ofEq rfl
@[simp] theorem ev_some (a : α) (e : Sl) : R.opt (some a) e = .ok a e := ofEq rfl
@[simp] theorem ev_none (e : Sl) : R.opt (none : Option α) e = .bad := ofEq rfl
@[simp] theorem ev_osome (e : Sl) : Out.opt (some e) = .nx e := ofEq rfl
@[simp] theorem ev_onone : Out.opt none = .bad := ofEq rfl
@[simp] theorem ev_nok (a : α) (e : Sl) : (R.ok a e).noex = .ok a e := ofEq rfl
@[simp] theorem ev_seqn : (Out.nx e).seq g = g e := ofEq rfl
@[simp] theorem ev_seqr (d : PyData) : (Out.rt d e).seq g = .rt d e := ofEq rfl
@[simp] theorem ev_seqx (x : Exn) : (Out.ex x e).seq g = .ex x e := ofEq rfl
@[simp] theorem ev_seqb : (Out.bk e).seq g = .bk e := ofEq rfl
@[simp] theorem ev_seqc : (Out.ct e).seq g = .ct e := ofEq rfl
@[simp] theorem ev_seqz : (Out.bad).seq g = .bad := ofEq rfl
@[simp] theorem ev_C (d : PyData) : fC d e = .ok d e := ofEq rfl
@[simp] theorem ev_V (i : Nat) : fV i e = match e[i]? with
  | some (.dat d) => .ok d e
  | some (.lst false xs) => .ok (.list xs) (e.set i (.dat (.list xs)))
  | _ => .bad := ofEq rfl
@[simp] theorem ev_Op (o : PyData → PyData → Option PyData) : fOp o fa fb e = (fa e).bind fun a e1 => (fb e1).bind fun b e2 => R.opt (o a b) e2 := ofEq rfl
@[simp] theorem ev_Un (o : PyData → Option PyData) : fUn o fa e = (fa e).bind fun a e1 => R.opt (o a) e1 := ofEq rfl
@[simp] theorem ev_AndV : fAndV fa fb e = (fa e).bind fun d e1 => match asB d with
  | some true => fb e1
  | some false => .ok (.bool false) e1
  | none => .bad := ofEq rfl
@[simp] theorem ev_OrV : fOrV fa fb e = (fa e).bind fun d e1 => match asB d with
  | some true => .ok (.bool true) e1
  | some false => fb e1
  | none => .bad := ofEq rfl
@[simp] theorem ev_NotV : fNotV fa e = (fa e).bind fun d e1 => R.opt ((asB d).map fun b => .bool (!b)) e1 := ofEq rfl
@[simp] theorem ev_asB (b : Bool) : asB (.bool b) = some b := ofEq rfl
@[simp] theorem ev_asI (b : Int) : asI (.int b) = some b := ofEq rfl
@[simp] theorem ev_Tst : fTst fa e = (fa e).bind fun d e1 => R.opt (asB d) e1 := ofEq rfl
@[simp] theorem ev_AndT : fAndT ft fu e = (ft e).bind fun b e1 => if b then fu e1 else .ok false e1 := ofEq rfl
@[simp] theorem ev_OrT : fOrT ft fu e = (ft e).bind fun b e1 => if b then .ok true e1 else fu e1 := ofEq rfl
@[simp] theorem ev_NotT : fNotT ft e = (ft e).bind fun b e1 => .ok (!b) e1 := ofEq rfl
@[simp] theorem ev_Yes : fYes e = .ok true e := ofEq rfl
@[simp] theorem ev_If : fIf ft fa fb e = (ft e).bind fun b e1 => if b then fa e1 else fb e1 := ofEq rfl
@[simp] theorem ev_Chain (o o' : PyData → PyData → Option PyData) : fChain o o' fa fb fc e = (fa e).bind fun a e1 => (fb e1).bind fun b e2 => match (o a b).bind asB with
  | some true => (fc e2).bind fun c e3 => R.opt (o' b c) e3
  | some false => .ok (.bool false) e2
  | none => .bad := ofEq rfl
@[simp] theorem ev_Nil : fNil e = .ok [] e := ofEq rfl
@[simp] theorem ev_Cons : fCons fa fl e = (fa e).bind fun d e1 => (fl e1).bind fun ds e2 => .ok (d :: ds) e2 := ofEq rfl
@[simp] theorem ev_Tup : fTup fl e = (fl e).bind fun ds e1 => R.opt (gTupD ds) e1 := ofEq rfl
@[simp] theorem ev_L : fL fl e = (fl e).bind fun ds e1 => .ok (.list ds) e1 := ofEq rfl
@[simp] theorem ev_Lst : fLst fl e = (fl e).bind fun ds e1 => if ds.length ≤ sizeLine then .ok ds e1 else .bad := ofEq rfl
@[simp] theorem ev_IxV (i : Nat) : fIxV i fb e = match e[i]? with
  | some (.dat d) => (fb e).bind fun b e1 => R.opt (gIx d b) e1
  | some (.lst _ _) => (fb e).bind fun b e1 => match e1[i]? with
    | some (.lst _ xs) => R.opt (gIx (.list xs) b) e1
    | _ => .bad
  | _ => .bad := ofEq rfl
@[simp] theorem ev_No : fNo e = .ok none e := ofEq rfl
@[simp] theorem ev_Part : fPart fa e = (fa e).bind fun d e1 => R.opt ((asI d).map some) e1 := ofEq rfl
@[simp] theorem ev_Sl (lo hi : FO) : fSl fa lo hi e = (fa e).bind fun a e1 => (lo e1).bind fun l e2 => (hi e2).bind fun h e3 => R.opt (gSl a l h) e3 := ofEq rfl
@[simp] theorem ev_CB (o : List PyData → Option PyData) : fCB o fl e = (fl e).bind fun as e1 => R.opt (o as) e1 := ofEq rfl
@[simp] theorem ev_LenV (i : Nat) : fLenV i e = match e[i]? with
  | some (.dat d) => R.opt (gLen [d]) e
  | some (.lst _ xs) => .ok (.int xs.length) e
  | _ => .bad := ofEq rfl
@[simp] theorem ev_Isi (T : String) : fIsi T fa e = (fa e).bind fun a e1 => R.opt (gIsi T a) e1 := ofEq rfl
@[simp] theorem ev_Next : fNext e = .nx e := ofEq rfl
@[simp] theorem ev_Seq : fSeq f g e = (f e).seq g := ofEq rfl
@[simp] theorem ev_Break : fBreak e = .bk e := ofEq rfl
@[simp] theorem ev_Cont : fCont e = .ct e := ofEq rfl
@[simp] theorem ev_Drop : fDrop fa e = (fa e).out fun _ e1 => .nx e1 := ofEq rfl
@[simp] theorem ev_Ret : fRet fa e = (fa e).out fun d e1 => .rt d e1 := ofEq rfl
@[simp] theorem ev_RetN : fRetN e = .rt .none e := ofEq rfl
@[simp] theorem ev_IfS : fIfS ft f g e = (ft e).out fun b e1 => if b then f e1 else g e1 := ofEq rfl
@[simp] theorem ev_gN (i : Nat) (d : PyData) : fgN i d e = match e[i]? with
  | some s => if s.pin = true then none else some (e.set i (.dat d))
  | none => none := ofEq rfl
@[simp] theorem ev_pinD (d : PyData) : (Slot.dat d).pin = false := ofEq rfl
@[simp] theorem ev_pinU : (Slot.un).pin = false := ofEq rfl
@[simp] theorem ev_pinL (p : Bool) (xs : List PyData) : (Slot.lst p xs).pin = p := ofEq rfl
@[simp] theorem ev_pinK (p : Bool) (xs : List (Key × PyData)) : (Slot.dK p xs).pin = p := ofEq rfl
@[simp] theorem ev_pinT (p : Bool) (xs : List (List Key × PyData)) : (Slot.dT p xs).pin = p := ofEq rfl
@[simp] theorem ev_ownD (d : PyData) : (Slot.dat d).own = false := ofEq rfl
@[simp] theorem ev_ownU : (Slot.un).own = false := ofEq rfl
@[simp] theorem ev_ownL (p : Bool) (xs : List PyData) : (Slot.lst p xs).own = true := ofEq rfl
@[simp] theorem ev_ownK (p : Bool) (xs : List (Key × PyData)) : (Slot.dK p xs).own = true := ofEq rfl
@[simp] theorem ev_ownT (p : Bool) (xs : List (List Key × PyData)) : (Slot.dT p xs).own = true := ofEq rfl
@[simp] theorem ev_Asg (t : FG) : fAsg fa t e = (fa e).out fun d e1 => Out.opt (t d e1) := ofEq rfl
@[simp] theorem ev_Par (i j : Nat) : fPar i j fl e = (fl e).out fun ds e1 => match ds with
  | [c, d] => Out.opt ((fgN i c e1).bind fun e2 => fgN j d e2)
  | _ => .bad := ofEq rfl
@[simp] theorem ev_Par3 (i j k : Nat) : fPar3 i j k fl e = (fl e).out fun ds e1 => match ds with
  | [c, d, b] => Out.opt ((fgN i c e1).bind fun e2 => (fgN j d e2).bind fun e3 => fgN k b e3)
  | _ => .bad := ofEq rfl
@[simp] theorem ev_Aug (i : Nat) (o : PyData → PyData → Option PyData) : fAug i o fa e = match e[i]? with
  | some (.dat a) => (fa e).out fun b e1 => match o a b with
    | some d => Out.opt (fgN i d e1)
    | none => .bad
  | _ => .bad := ofEq rfl
@[simp] theorem ev_For (t : FG) : fFor fl t f e = (fl e).out fun ds e1 => forGo t f ds e1 := ofEq rfl
@[simp] theorem ev_iSeq : fiSeq fa e = (fa e).bind fun d e1 => match d with
  | .list ds => .ok ds e1
  | .tuple ds => .ok ds e1
  | .str z => .ok (z.cps.toList.map fun c => .str ⟨#[c]⟩) e1
  | _ => .bad := by
  unfold fiSeq
  congr 1
@[simp] theorem ev_Own (i : Nat) : fOwn i fl e = (fl e).out fun ds e1 => if pinnedAt e1 i = true then .bad else .nx (e1.set i (.lst false ds)) := ofEq rfl
@[simp] theorem ev_pinned (i : Nat) : pinnedAt e i = match e[i]? with
  | some s => s.pin
  | none => true := ofEq rfl
@[simp] theorem ev_App (i : Nat) : fApp i fa e = match e[i]? with
  | some (.lst _ _) => (fa e).out fun d e1 => match e1[i]? with
    | some (.lst p xs) => if xs.length < sizeLine then .nx (e1.set i (.lst p (xs ++ [d]))) else .bad
    | _ => .bad
  | _ => .bad := ofEq rfl
@[simp] theorem ev_SetI (i : Nat) : fSetI i fb fa e = (fa e).out fun d e1 => match e1[i]? with
  | some (.lst _ _) => (fb e1).out fun k e2 => match e2[i]?, k with
    | some (.lst p xs), .int j => match ixN xs.length j with
      | some n => .nx (e2.set i (.lst p (xs.set n d)))
      | none => .bad
    | _, _ => .bad
  | _ => .bad := ofEq rfl
@[simp] theorem ev_Comp (t : FG) (own : List Nat) : fComp fl t ft fa own e = (fl e).bind fun ds e1 => if noOwn e1 own = true then (compGo t ft fa own ds (wipeE e1 own) []).bind fun ys e2 => .ok ys (restore own e1 e2) else .bad := ofEq rfl
@[simp] theorem ev_wipe0 : wipeE e [] = e := ofEq rfl
@[simp] theorem ev_wipe1 (v : Nat) (vs : List Nat) : wipeE e (v :: vs) = (wipeE e vs).set v .un := ofEq rfl
@[simp] theorem ev_rest0 (e' : Sl) : restore [] e e' = e' := ofEq rfl
@[simp] theorem ev_rest1 (v : Nat) (vs : List Nat) (e' : Sl) : restore (v :: vs) e e' = match e[v]? with
  | some s => (restore vs e e').set v s
  | none => restore vs e e' := ofEq rfl
@[simp] theorem ev_aNil : faNil e = .ok [] e := ofEq rfl
@[simp] theorem ev_aCons (ga : FAg) : faCons fa ga e = (fa e).bind fun d e1 => (ga e1).bind fun as e2 => .ok (.d d :: as) e2 := ofEq rfl
@[simp] theorem ev_aOwn (i : Nat) (ga : FAg) : faOwn i ga e = match e[i]? with
  | some s => if s.own = true then (ga e).bind fun as e2 => .ok (.o i :: as) e2 else .bad
  | none => .bad := ofEq rfl
@[simp] theorem ev_CallN (n : Nat) (F : Sl → R PyData) (ga : FAg) : fCallN n F ga e = (ga e).bind fun as e1 => if as.length = n then callF F as e1 else .bad := ofEq rfl
@[simp] theorem ev_CallK (n m : Nat) (F : Sl → R PyData) (ga gb : FAg) : fCallK n m F ga gb e = (ga e).bind fun as e1 => (gb e1).bind fun bs e2 => if as.length = n ∧ bs.length = m then callF F (as ++ bs) e2 else .bad := ofEq rfl
@[simp] theorem ev_callF (F : Sl → R PyData) (as : List Arg) : callF F as e = if oneOwn as = true then match slotsOf e as with
    | some ss => match F ss with
      | .ok d ss' => match back e as ss' with
        | some e' => .ok d e'
        | none => .bad
      | .ex x ss' => match back e as ss' with
        | some e' => .ex x e'
        | none => .bad
      | .bad => .bad
    | none => .bad
  else .bad := ofEq rfl
@[simp] theorem ev_so0 : slotsOf e [] = some [] := ofEq rfl
@[simp] theorem ev_so1 (d : PyData) (as : List Arg) : slotsOf e (.d d :: as) = (slotsOf e as).map (.dat d :: ·) := ofEq rfl
@[simp] theorem ev_so2 (i : Nat) (as : List Arg) : slotsOf e (.o i :: as) = match e[i]? with
    | some s => if s.own = true then (slotsOf e as).map (s.rep true :: ·) else none
    | none => none := ofEq rfl
@[simp] theorem ev_rep (p q : Bool) (xs : List PyData) : (Slot.lst q xs).rep p = .lst p xs := ofEq rfl
@[simp] theorem ev_oo0 : oneOwn [] = true := ofEq rfl
@[simp] theorem ev_oo1 (d : PyData) (as : List Arg) : oneOwn (.d d :: as) = oneOwn as := ofEq rfl
@[simp] theorem ev_oo2 (i : Nat) (as : List Arg) : oneOwn (.o i :: as) = as.all fun a => match a with
    | .d _ => true
    | .o _ => false := ofEq rfl
@[simp] theorem ev_oa0 : ownArg [] = none := ofEq rfl
@[simp] theorem ev_oa1 (d : PyData) (as : List Arg) : ownArg (.d d :: as) = (ownArg as).map fun p => (p.1 + 1, p.2) := ofEq rfl
@[simp] theorem ev_oa2 (i : Nat) (as : List Arg) : ownArg (.o i :: as) = some (0, i) := ofEq rfl
@[simp] theorem ev_back (as : List Arg) (ss : Sl) : back e as ss = match ownArg as with
  | none => some e
  | some (k, i) => match ss[k]?, e[i]? with
    | some s, some s0 => if s.pin = true then some (e.set i (s.rep s0.pin)) else none
    | _, _ => none := ofEq rfl
@[simp] theorem ev_AllG (ix : Nat) : fAllG fl ix fa e = (fl e).bind fun ds e1 => if noOwn e1 [ix] = true then (allGo ix fa ds (wipeE e1 [ix])).bind fun b e2 => .ok (.bool b) (restore [ix] e1 e2) else .bad := ofEq rfl
@[simp] theorem ev_Raise (c : Nat) : fRaise c fl e = (fl e).out fun ds e1 => match ds with
  | [.str z] => if z.length ≤ 1000 then .ex ⟨c, [.str z]⟩ e1 else .bad
  | _ => .bad := ofEq rfl
@[simp] theorem ev_Ref (c : Nat) : fRef c fa e = match fa e with
  | .ok _ e1 => .ok (.str ⟨#[]⟩) e1
  | .ex x e1 => if x.c = c then match x.ds with
      | [.str z] => .ok (.str z) e1
      | _ => .bad
    else .bad
  | .bad => .bad := ofEq rfl
@[simp] theorem ev_Rng1 : fRng1 fl e = (fl e).bind fun ds e1 => match ds with
  | [.int j] => if rgB j = true then .ok (rng 0 j.toNat 1) e1 else .bad
  | _ => .bad := by
  unfold fRng1
  congr 1
@[simp] theorem ev_Rng2 : fRng2 fl e = (fl e).bind fun ds e1 => match ds with
  | [.int i, .int j] => if (rgB i && rgB j) = true then .ok (rng i (j - i).toNat 1) e1 else .bad
  | _ => .bad := by
  unfold fRng2
  congr 1
@[simp] theorem ev_Rng3 : fRng3 fl e = (fl e).bind fun ds e1 => match ds with
  | [.int i, .int j, .int c] => if (decide (c ≠ 0) && (Nat.ble c.natAbs 1073741823 && (Builtin.Range.small i j c && decide (0 ≤ Builtin.Range.rangeSize i j c)))) = true then .ok (rng i (rangeN i j c) c) e1 else .bad
  | _ => .bad := by
  unfold fRng3
  congr 1
@[simp] theorem ev_RepF : fRepF fa fb e = (fa e).bind fun a e1 => (fb e1).bind fun b e2 => match a, b with
  | .list xs, .int k => if (Nat.ble k.natAbs 9000000000000000000 && Nat.ble (xs.length * k.toNat) sizeLine) = true then .ok (List.replicate k.toNat xs).flatten e2 else .bad
  | _, _ => .bad := by
  unfold fRepF
  congr 1
@[simp] theorem ev_Disp1 (i : Nat) (k : Int) (b : Bool) : fDisp1 i k b e = if pinnedAt e i = true then .bad else .nx (e.set i (.dK false [(Sum.inl k, .bool b)])) := ofEq rfl
@[simp] theorem ev_DPut (i : Nat) : fDPut i fa fb e = (fb e).out fun v e1 => match e1[i]? with
  | some (.dK _ _) => (fa e1).out fun k e2 => match e2[i]?, k with
    | some (.dK p kvs), .int n => if kvs.length < sizeLine then .nx (e2.set i (.dK p (putD kvs (Sum.inl n) v))) else .bad
    | some (.dK p kvs), .str n => if kvs.length < sizeLine then .nx (e2.set i (.dK p (putD kvs (Sum.inr n) v))) else .bad
    | _, _ => .bad
  | _ => .bad := ofEq rfl
@[simp] theorem ev_SortedD (i : Nat) : fSortedD i e = match e[i]? with
  | some (.dK _ kvs) => match keysI kvs with
    | some ks => if ks.length < 64 then .ok ((sortI ks).map .int) e else .bad
    | none => .bad
  | _ => .bad := ofEq rfl
@[simp] theorem ev_allGo0 (ix : Nat) : allGo ix fa [] e = .ok true e := ofEq rfl
@[simp] theorem ev_compGo0 (t : FG) (own : List Nat) (acc : List PyData) : compGo t ft fa own [] e acc = .ok acc e := ofEq rfl
@[simp] theorem ev_forGo0 (t : FG) : forGo t f [] e = .nx e := ofEq rfl
@[simp] theorem ev_fin (as : Sl) (d : PyData) : R.fin as d e = match outs as e with
  | some as' => .ok d as'
  | none => .bad := ofEq rfl
@[simp] theorem ev_finX (as : Sl) (x : Exn) : R.finX as x e = match outs as e with
  | some as' => .ex x as'
  | none => .bad := ofEq rfl
@[simp] theorem ev_outs0 : outs [] e = some [] := ofEq rfl
@[simp] theorem ev_outs1 (a b : Slot) (as bs : Sl) : outs (a :: as) (b :: bs) = if a.own = true then (if b.pin = true then (outs as bs).map (b :: ·) else none) else (outs as bs).map (a :: ·) := ofEq rfl
@[simp] theorem ev_Run (n : Nat) (as : Sl) : fRun n f as = match f (as ++ List.replicate n .un) with
  | .rt d e => R.fin as d e
  | .nx e => R.fin as .none e
  | .ex x e => R.finX as x e
  | _ => .bad := ofEq rfl
theorem allGo_all {ix : Nat} {fa : FE} {e : Sl} {p : PyData → Bool} : ∀ {ds : List PyData}, (∀ d ∈ ds, ∃ e1 e2, fgN ix d e = some e1 ∧ fa e1 = .ok (.bool (p d)) e2 ∧ wipeE e2 [ix] = e) → allGo ix fa ds e = .ok (ds.all p) e
  | [], _ => rfl
  | d :: ds, h => by
    obtain ⟨e1, e2, h1, h2, h3⟩ := h d List.mem_cons_self
    unfold allGo
    rw [h1]
    dsimp only
    rw [h2]
    simp only [ev_nok, ev_ok, ev_asB]
    rw [h3]
    cases q : p d with
    | true =>
      dsimp only
      rw [allGo_all fun d hd => h d (List.mem_cons_of_mem _ hd), List.all_cons, q, Bool.true_and]
    | false => simp [q]
/-- a comprehension without a test -/
theorem compGo_map {t : FG} {own : List Nat} {fa : FE} {e : Sl} {p : PyData → PyData} : ∀ {ds acc : List PyData}, (∀ d ∈ ds, ∃ e1 e2, t d e = some e1 ∧ fa e1 = .ok (p d) e2 ∧ wipeE e2 own = e) → acc.length + ds.length ≤ sizeLine → compGo t fYes fa own ds e acc = .ok (acc ++ ds.map p) e
  | [], acc, _, _ => by simp
  | d :: ds, acc, h, hl => by
    obtain ⟨e1, e2, h1, h2, h3⟩ := h d List.mem_cons_self
    rw [List.length_cons] at hl
    unfold compGo
    rw [h1]
    simp only [ev_Yes, ev_nok, ev_ok, if_true]
    rw [h2]
    simp only [ev_nok, ev_ok]
    rw [if_pos (by omega), h3, compGo_map (fun d hd => h d (List.mem_cons_of_mem _ hd)) (by simp; omega)]
    simp
/-- a comprehension with a test -/
theorem compGo_filter {t : FG} {own : List Nat} {ft : FT} {fa : FE} {e : Sl} {b : PyData → Bool} {p : PyData → PyData} : ∀ {ds acc : List PyData}, (∀ d ∈ ds, ∃ e1 e2, t d e = some e1 ∧ ft e1 = .ok (b d) e2 ∧ (b d = false → wipeE e2 own = e) ∧ (b d = true → ∃ e3, fa e2 = .ok (p d) e3 ∧ wipeE e3 own = e)) → acc.length + ds.length ≤ sizeLine →
    compGo t ft fa own ds e acc = .ok (acc ++ (ds.filter b).map p) e
  | [], acc, _, _ => by simp
  | d :: ds, acc, h, hl => by
    obtain ⟨e1, e2, h1, h2, h3, h4⟩ := h d List.mem_cons_self
    rw [List.length_cons] at hl
    unfold compGo
    rw [h1]
    dsimp only
    rw [h2]
    simp only [ev_nok, ev_ok]
    cases q : b d with
    | true =>
      obtain ⟨e3, h5, h6⟩ := h4 q
      rw [if_pos rfl, h5]
      simp only [ev_nok, ev_ok]
      rw [if_pos (by omega), h6, compGo_filter (fun d hd => h d (List.mem_cons_of_mem _ hd)) (by simp; omega)]
      simp [q]
    | false =>
      rw [if_neg (by simp), h3 q, compGo_filter (fun d hd => h d (List.mem_cons_of_mem _ hd)) (by omega)]
      simp [q]
/-- a for whose body goes on -/
theorem forGo_fold {α : Type} {t : FG} {f : FS} {enc : α → Sl} {step : α → PyData → α} : ∀ {ds : List PyData} {a : α}, (∀ a d, d ∈ ds → ∃ e1, t d (enc a) = some e1 ∧ f e1 = .nx (enc (step a d))) → forGo t f ds (enc a) = .nx (enc (ds.foldl step a))
  | [], _, _ => rfl
  | d :: ds, a, h => by
    obtain ⟨e1, h1, h2⟩ := h a d List.mem_cons_self
    unfold forGo
    rw [h1]
    dsimp only
    rw [h2]
    exact forGo_fold fun a d hd => h a d (List.mem_cons_of_mem _ hd)
theorem forGo_cons {t : FG} {f : FS} {d : PyData} {ds : List PyData} {e e1 e2 : Sl} (h1 : t d e = some e1) (h2 : f e1 = .nx e2) : forGo t f (d :: ds) e = forGo t f ds e2 := by
  rw [forGo, h1]
  dsimp only
  rw [h2]
theorem forGo_rt {t : FG} {f : FS} {d v : PyData} {ds : List PyData} {e e1 e2 : Sl} (h1 : t d e = some e1) (h2 : f e1 = .rt v e2) : forGo t f (d :: ds) e = .rt v e2 := by
  rw [forGo, h1]
  dsimp only
  rw [h2]
/-- a comprehension whose elements change the state -/
theorem compGo_inv {t : FG} {own : List Nat} {fa : FE} (S : Nat → Sl → Prop) (Rp : PyData → Prop) : ∀ {ds acc : List PyData} {e : Sl}, (∀ n e d, S (n + 1) e → d ∈ ds → ∃ e1 e2 y, t d e = some e1 ∧ fa e1 = .ok y e2 ∧ Rp y ∧ S n (wipeE e2 own)) → S ds.length e → acc.length + ds.length ≤ sizeLine →
    ∃ ys e', compGo t fYes fa own ds e acc = .ok (acc ++ ys) e' ∧ ys.length = ds.length ∧ (∀ y ∈ ys, Rp y) ∧ S 0 e'
  | [], acc, e, _, hs, _ => ⟨[], e, by simp, rfl, by simp, hs⟩
  | d :: ds, acc, e, h, hs, hl => by
    obtain ⟨e1, e2, y, h1, h2, h3, h4⟩ := h ds.length e d hs List.mem_cons_self
    rw [List.length_cons] at hl
    obtain ⟨ys, e', q1, q2, q3, q4⟩ := compGo_inv S Rp (ds := ds) (acc := acc ++ [y]) (e := wipeE e2 own) (fun n e d a b => h n e d a (List.mem_cons_of_mem _ b)) h4 (by simp; omega)
    refine ⟨y :: ys, e', ?_, by simp [q2], fun z hz => ?_, q4⟩
    · unfold compGo
      rw [h1]
      simp only [ev_Yes, ev_nok, ev_ok, if_true]
      rw [h2]
      simp only [ev_nok, ev_ok]
      rw [if_pos (by omega), q1]
      simp
    · rcases List.mem_cons.mp hz with rfl | hz
      · exact h3
      · exact q3 z hz
/-- .. whose test changes the state, the element is the item -/
theorem compGo_pick {t : FG} {own : List Nat} {ft : FT} {fa : FE} (S : Nat → Sl → Prop) : ∀ {ds acc : List PyData} {e : Sl}, (∀ n e d, S (n + 1) e → d ∈ ds → ∃ e1 e2 b, t d e = some e1 ∧ ft e1 = .ok b e2 ∧ (b = false → S n (wipeE e2 own)) ∧ (b = true → ∃ e3, fa e2 = .ok d e3 ∧ S n (wipeE e3 own))) → S ds.length e → acc.length + ds.length ≤ sizeLine →
    ∃ ys e', compGo t ft fa own ds e acc = .ok (acc ++ ys) e' ∧ ys.Sublist ds ∧ S 0 e'
  | [], acc, e, _, hs, _ => ⟨[], e, by simp, .slnil, hs⟩
  | d :: ds, acc, e, h, hs, hl => by
    obtain ⟨e1, e2, b, h1, h2, h3, h4⟩ := h ds.length e d hs List.mem_cons_self
    rw [List.length_cons] at hl
    cases b with
    | false =>
      obtain ⟨ys, e', q1, q2, q4⟩ := compGo_pick S (ds := ds) (acc := acc) (e := wipeE e2 own) (fun n e d a b => h n e d a (List.mem_cons_of_mem _ b)) (h3 rfl) (by omega)
      refine ⟨ys, e', ?_, q2.cons _, q4⟩
      unfold compGo
      rw [h1]
      dsimp only
      rw [h2]
      simp only [ev_nok, ev_ok]
      rw [if_neg (by simp), q1]
    | true =>
      obtain ⟨e3, h5, h6⟩ := h4 rfl
      obtain ⟨ys, e', q1, q2, q4⟩ := compGo_pick S (ds := ds) (acc := acc ++ [d]) (e := wipeE e3 own) (fun n e d a b => h n e d a (List.mem_cons_of_mem _ b)) h6 (by simp; omega)
      refine ⟨d :: ys, e', ?_, q2.cons₂ _, q4⟩
      unfold compGo
      rw [h1]
      dsimp only
      rw [h2]
      simp only [ev_nok, ev_ok]
      rw [if_pos trivial, h5]
      simp only [ev_nok, ev_ok]
      rw [if_pos (by omega), q1]
      simp
theorem atI_int {α : Type} {xs : List α} {i : Int} {v : α} (h0 : 0 ≤ i) (h : xs[i.toNat]? = some v) : atI xs i = some v := by
  have e : ((i.toNat : Nat) : Int) = i := Int.toNat_of_nonneg h0
  rw [← e]
  exact atI_nat h
section
variable {κ : Type} {enc : κ → PyData} {t : FG} {own : List Nat} {fa : FE} {ft : FT} {f : FS} {e : Sl}
theorem allGo_L {ix : Nat} {p : κ → Bool} : ∀ {xs : List κ}, (∀ x ∈ xs, ∃ e1 e2, fgN ix (enc x) e = some e1 ∧ fa e1 = .ok (.bool (p x)) e2 ∧ wipeE e2 [ix] = e) → allGo ix fa (xs.map enc) e = .ok (xs.all p) e
  | [], _ => rfl
  | d :: ds, h => by
    obtain ⟨e1, e2, h1, h2, h3⟩ := h d List.mem_cons_self
    rw [List.map_cons]
    unfold allGo
    rw [h1]
    dsimp only
    rw [h2]
    simp only [ev_nok, ev_ok, ev_asB]
    rw [h3]
    cases q : p d with
    | true =>
      dsimp only
      rw [allGo_L fun d hd => h d (List.mem_cons_of_mem _ hd), List.all_cons, q, Bool.true_and]
    | false => simp [q]
theorem compGo_L {q : κ → PyData} : ∀ {xs : List κ} {acc : List PyData}, (∀ x ∈ xs, ∃ e1 e2, t (enc x) e = some e1 ∧ fa e1 = .ok (q x) e2 ∧ wipeE e2 own = e) → acc.length + xs.length ≤ sizeLine → compGo t fYes fa own (xs.map enc) e acc = .ok (acc ++ xs.map q) e
  | [], acc, _, _ => by simp
  | d :: ds, acc, h, hl => by
    obtain ⟨e1, e2, h1, h2, h3⟩ := h d List.mem_cons_self
    rw [List.length_cons] at hl
    rw [List.map_cons]
    unfold compGo
    rw [h1]
    simp only [ev_Yes, ev_nok, ev_ok, if_true]
    rw [h2]
    simp only [ev_nok, ev_ok]
    rw [if_pos (by omega), h3, compGo_L (fun d hd => h d (List.mem_cons_of_mem _ hd)) (by simp; omega)]
    simp
theorem compGo_FL {b : κ → Bool} {q : κ → PyData} : ∀ {xs : List κ} {acc : List PyData}, (∀ d ∈ xs, ∃ e1 e2, t (enc d) e = some e1 ∧ ft e1 = .ok (b d) e2 ∧ (b d = false → wipeE e2 own = e) ∧ (b d = true → ∃ e3, fa e2 = .ok (q d) e3 ∧ wipeE e3 own = e)) → acc.length + xs.length ≤ sizeLine →
    compGo t ft fa own (xs.map enc) e acc = .ok (acc ++ (xs.filter b).map q) e
  | [], acc, _, _ => by simp
  | d :: ds, acc, h, hl => by
    obtain ⟨e1, e2, h1, h2, h3, h4⟩ := h d List.mem_cons_self
    rw [List.length_cons] at hl
    rw [List.map_cons]
    unfold compGo
    rw [h1]
    dsimp only
    rw [h2]
    simp only [ev_nok, ev_ok]
    cases q : b d with
    | true =>
      obtain ⟨e3, h5, h6⟩ := h4 q
      rw [if_pos rfl, h5]
      simp only [ev_nok, ev_ok]
      rw [if_pos (by omega), h6, compGo_FL (fun d hd => h d (List.mem_cons_of_mem _ hd)) (by simp; omega)]
      simp [q]
    | false =>
      rw [if_neg (by simp), h3 q, compGo_FL (fun d hd => h d (List.mem_cons_of_mem _ hd)) (by omega)]
      simp [q]
theorem forGo_L {α : Type} {st : α → Sl} {step : α → κ → α} : ∀ {xs : List κ} {a : α}, (∀ a d, d ∈ xs → ∃ e1, t (enc d) (st a) = some e1 ∧ f e1 = .nx (st (step a d))) → forGo t f (xs.map enc) (st a) = .nx (st (xs.foldl step a))
  | [], _, _ => rfl
  | d :: ds, a, h => by
    obtain ⟨e1, h1, h2⟩ := h a d List.mem_cons_self
    rw [List.map_cons]
    unfold forGo
    rw [h1]
    dsimp only
    rw [h2]
    exact forGo_L fun a d hd => h a d (List.mem_cons_of_mem _ hd)
end
theorem toInts_map {κ : Type} (f : κ → Int) : ∀ xs : List κ, toInts (xs.map fun x => .int (f x)) = some (xs.map f)
  | [] => rfl
  | x :: xs => by
    rw [List.map_cons, toInts, toInts_map f xs]
    rfl
end
theorem gDiv_ok {j : Int} (h : CDivB j) (i : Int) : gDiv (.int i) (.int j) = some (.int (i.fdiv j)) := if_pos h
theorem rep_ok {n k : Nat} (h : n * k ≤ sizeLine) (hk : k ≤ 1000000) : (Nat.ble (k : Int).natAbs 9000000000000000000 && Nat.ble (n * (k : Int).toNat) sizeLine) = true := by
  rw [Int.natAbs_natCast, Int.toNat_natCast, Nat.ble_eq_true_of_le (by omega), Nat.ble_eq_true_of_le h]
  rfl
theorem gMul_ok {i j : Int} (h : mulB i j = true) : gMul (.int i) (.int j) = some (.int (i * j)) := if_pos h
theorem mulB_l {i j : Int} (h : i.natAbs ≤ 10000000000000000000) : mulB i j = true := by
  unfold mulB
  rw [Nat.ble_eq_true_of_le h, Bool.true_or]
theorem mulB_r {i j : Int} (h : j.natAbs ≤ 10000000000000000000) : mulB i j = true := by
  unfold mulB
  rw [Nat.ble_eq_true_of_le h, Bool.true_or, Bool.or_true]
section
variable {fc : FT} {fb : FS} {e e1 e2 : Sl}
theorem whileGo_t (h1 : fc e = .ok true e1) (h2 : fb e1 = .nx e2) (n : Nat) : whileGo fc fb (n + 1) e = whileGo fc fb n e2 := by
  rw [whileGo, h1]
  dsimp only
  rw [h2]
theorem fWhile_t (h1 : fc e = .ok true e1) (h2 : fb e1 = .nx e2) : fWhile fc fb e = fWhile fc fb e2 := by
  rcases fWhile_goes (fc := fc) (fb := fb) (e := e2) with ⟨n, h⟩ | h
  · exact fWhile_eq (n := n + 1) (by rw [whileGo_t h1 h2]; exact h)
  · rcases fWhile_goes (fc := fc) (fb := fb) (e := e) with ⟨n, h'⟩ | h'
    · cases n with
      | zero => cases h'
      | succ n =>
        rw [whileGo_t h1 h2] at h'
        exact (fWhile_eq h').symm
    · rw [h, h']
theorem fWhile_f (h1 : fc e = .ok false e1) : fWhile fc fb e = .nx e1 := fWhile_eq (n := 1) (by rw [whileGo, h1])
theorem fWhile_rt {v : PyData} (h1 : fc e = .ok true e1) (h2 : fb e1 = .rt v e2) : fWhile fc fb e = .rt v e2 := fWhile_eq (n := 1) (by rw [whileGo, h1]; dsimp only; rw [h2])
theorem fWhile_bk (h1 : fc e = .ok true e1) (h2 : fb e1 = .bk e2) : fWhile fc fb e = .nx e2 := fWhile_eq (n := 1) (by rw [whileGo, h1]; dsimp only; rw [h2])
end
end FL

set_option maxRecDepth 100000
set_option maxHeartbeats 1000000
/-! the head: what the Hook tells of the defs, of the error class and its __init__, of the tables. -/
namespace FL
open PySem PySem.Spec PyProof.Rows L2
/-! ### the first statement of a class's body -/
def clsInit (s : Stmt) : Stmt := match s with
  | .ClassDef (body := b) .. => b.getD 0 (.Pass ⟨0, 0, 0, 0⟩)
  | _ => .Pass ⟨0, 0, 0, 0⟩
/-! ### the error class -/
def clB (K : PySem.W.Frag) (C : Addr) : Bool := match K.lookup C with
  | some ⟨.type t, _, .cls cd, sl⟩ => (match cd.mro, sl.toList with
    | .ref C' :: bm, [_, _, _, _, some (.builtin n), _] => decide (t = "type") && (decide (C' = C) && (decide (n = "ValueError.__new__") && (!cd.hasDel && (cd.hasDict && PySem.HandSPX.refsVE bm))))
    | _, _ => false)
  | _ => false
theorem clB_ok {K : PySem.W.Frag} {C : Addr} (h : clB K C = true) : ∃ nm q N bs bm sn sub ab col dd k0 k1 k2 k3 k5, K.lookup C = some (excClassObj nm q C N bs bm true sn sub ab col dd k0 k1 k2 k3 k5 "ValueError.__new__") ∧ PySem.HandSPX.refsVE bm = true := by
  unfold clB at h
  split at h
  · rename_i t dd cd sl ho
    split at h
    · rename_i C' bm k0 k1 k2 k3 n k5 hm hs
      obtain ⟨h1, h⟩ := He.ba h
      obtain ⟨h2, h⟩ := He.ba h
      obtain ⟨h3, h⟩ := He.ba h
      obtain ⟨h4, h⟩ := He.ba h
      obtain ⟨h5, h6⟩ := He.ba h
      obtain rfl := of_decide_eq_true h1
      obtain rfl := of_decide_eq_true h2
      obtain rfl := of_decide_eq_true h3
      obtain ⟨nm, bs, mro, ns, qn, hd, sn, sub, ab, col, del⟩ := cd
      have h4' : del = false := by
        cases del with
        | false => rfl
        | true => cases h4
      have h5' : hd = true := h5
      dsimp only at hm
      subst hm h4' h5'
      have hsl : sl = #[k0, k1, k2, k3, some (.builtin "ValueError.__new__"), k5] := by
        obtain ⟨l⟩ := sl
        simp only at hs
        rw [hs]
      subst hsl
      exact ⟨nm, qn, ns, bs, bm, sn, sub, ab, col, dd, k0, k1, k2, k3, k5, ho, h6⟩
    · cases h
  · cases h
abbrev bC (K : PySem.W.Frag) : Addr := He.ga K "BadArgument"
abbrev bI (K : PySem.W.Frag) : Addr := He.ma K (bC K) "__init__"
abbrev IniV : Type := Option (Str × Str × Arguments × FuncBody × Scope × Addr × Value × Addr × List Str)
def iniW (K : PySem.W.Frag) : IniV := match K.lookup (bI K) with
  | some ⟨_, _, .func fd, _⟩ => some (fd.name, fd.qualname, fd.params, fd.body, fd.scope, fd.globals, fd.defaults, fd.builtins, fd.closure.map (·.1))
  | _ => none
abbrev qB : Str := "BadArgument.__init__"
def iniVal (st : Stmt) : IniV := some ("__init__", qB, defArgs st, .stmts (defBody st), defScope st, mainGlobals, .none, builtinsNs, ["__class__"])
def iniB (file : Str) (K : PySem.W.Frag) : Bool := match K.lookup (bI K) with
  | some ⟨_, _, .func fd, _⟩ => (match fd.code, fd.closure with
    | .ref cda, [(_, cc)] => PySem.W.codeIn K (.ref cda) qB && ((match K.lookup cda with
        | some ⟨_, _, .fields vs, _⟩ => (match (vs : Array Value)[2]? with
          | some (Value.str f _) => file == f
          | _ => false)
        | _ => false) && (match K.lookup cc with
        | some ⟨_, _, .cell (some (.ref C)), _⟩ => decide (C = bC K)
        | _ => false))
    | _, _ => false)
  | _ => false
def badB (file : Str) (K : PySem.W.Frag) : Bool :=
  clB K (bC K) && (He.eqO (PySem.W.findIn K (.ref (bC K)) "__setattr__") (some (some (.builtin "object.__setattr__"))) && (decide (PySem.W.subIn K (.ref (bC K)) (.type "BaseException") = some true) && (decide (PySem.W.typeIn K (.ref (bC K)) = some (.type "type")) && (PySem.W.keepIn K (.ref (bC K)) &&
  (xfB K (bC K) && (He.eqO (PySem.W.findIn K (.ref (bC K)) "name") (some none) && (decide (PySem.W.exmOne K (.ref (bC K)) (.ref (bC K)) = some true) && (He.eqO (PySem.W.findIn K (.ref (bC K)) "__init__") (some (some (.ref (bI K)))) && (decide (PySem.W.typeIn K (.ref (bI K)) = some (.type "function")) &&
  (He.eqO (PySem.W.ks_superIn K (bC K) (bC K) "__init__") (some (some (.builtin "ValueError.__init__"))) && (decide (PySem.W.subIn K (.ref (bC K)) (.type "ValueError") = some true) && (decide (PySem.W.mroIn K (bC K) (.ref (bC K)) = some true) && (He.eqO (PySem.W.nsIn K cStatics "thirdparty.any") (some none) && (He.eqO (PySem.W.nsIn K mainGlobals "super") (some none) && (He.eqO (PySem.W.nsIn K mainGlobals "BadArgument") (some (some (.ref (bC K)))) && iniB file K)))))))))))))))
theorem bad_txt {P : Program} {K : PySem.W.Frag} {h : Heap} {mg : Str → Option Value} {st : Stmt} (X : K.In h) (G : h.Ns mainGlobals mg) (hb : badB P.main.file K = true) (hi : iniW K = iniVal st) (ht : (P.main.scope.names.lookup ("super" : Str)).isSome = false) :
    BadTxt P K mg (bC K) (bI K) qB "name" (defArgs st) (defBody st) (defScope st) ∧ mg "BadArgument" = some (.ref (bC K)) := by
  obtain ⟨h1, hb⟩ := He.ba hb
  obtain ⟨h2, hb⟩ := He.ba hb
  obtain ⟨h3, hb⟩ := He.ba hb
  obtain ⟨h4, hb⟩ := He.ba hb
  obtain ⟨h5, hb⟩ := He.ba hb
  obtain ⟨h6, hb⟩ := He.ba hb
  obtain ⟨h7, hb⟩ := He.ba hb
  obtain ⟨h8, hb⟩ := He.ba hb
  obtain ⟨h9, hb⟩ := He.ba hb
  obtain ⟨h10, hb⟩ := He.ba hb
  obtain ⟨h11, hb⟩ := He.ba hb
  obtain ⟨h12, hb⟩ := He.ba hb
  obtain ⟨h13, hb⟩ := He.ba hb
  obtain ⟨h14, hb⟩ := He.ba hb
  obtain ⟨h15, hb⟩ := He.ba hb
  obtain ⟨h16, hb⟩ := He.ba hb
  refine ⟨⟨⟨clB_ok h1, He.eqO_ok h2, of_decide_eq_true h3, of_decide_eq_true h4, h5⟩, ?_, He.eqO_ok h9, of_decide_eq_true h10, He.eqO_ok h11, of_decide_eq_true h12, of_decide_eq_true h13, He.eqO_ok h14,
    PySem.W.mg_none_of X G (He.eqO_ok h15), He.eqO_ok h7, xfB_ok h6, of_decide_eq_true h8, ht⟩, PySem.W.mg_of X G (He.eqO_ok h16)⟩
  unfold iniB at hb
  unfold iniW at hi
  cases q : K.lookup (bI K) with
  | none =>
    rw [q] at hi
    cases hi
  | some o =>
    obtain ⟨oc, od, dt, osl⟩ := o
    rw [q] at hi hb
    cases dt with
    | func fd =>
      obtain ⟨n1, n2, n3, n4, n5, n6, n7, n8, n9, n10, n11, n12, n13, n14, n15⟩ := fd
      have e2 : (some (n1, n2, n3, n4, n5, n6, n8, n15, n7.map (·.1)) : IniV) = some (("__init__" : Str), qB, defArgs st, FuncBody.stmts (defBody st), defScope st, mainGlobals, Value.none, builtinsNs, [("__class__" : Str)]) := hi
      simp only [Option.some.injEq, Prod.mk.injEq] at e2
      obtain ⟨e1, e2, e3, e4, e5, e6, e7, e8, e9⟩ := e2
      subst e1 e2 e3 e4 e5 e6 e7 e8
      dsimp only at hb
      split at hb
      · rename_i cda nm cc
        have en : nm = "__class__" := by
          have e9' : [nm] = [("__class__" : Str)] := e9
          exact (List.cons.inj e9').1
        subst en
        obtain ⟨k1, hb⟩ := He.ba hb
        obtain ⟨k2, k3⟩ := He.ba hb
        cases q2 : K.lookup cda with
        | none =>
          rw [q2] at k2
          cases k2
        | some o2 =>
          obtain ⟨oc2, od2, dt2, osl2⟩ := o2
          rw [q2] at k2
          cases dt2 with
          | fields vs =>
            dsimp only at k2
            split at k2
            · rename_i f tf hv
              cases q3 : K.lookup cc with
              | none =>
                rw [q3] at k3
                cases k3
              | some o3 =>
                obtain ⟨oc3, od3, dt3, osl3⟩ := o3
                rw [q3] at k3
                split at k3
                · rename_i C' sl0 hq
                  cases hq
                  have eC : C' = bC K := of_decide_eq_true k3
                  subst eC
                  exact ⟨oc, od, n9, n10, n11, n12, n14, osl, cda, cc, oc2, od2, vs, osl2, f, tf, oc3, od3, osl3, rfl, k1, q2, hv, k2, q3⟩
                · cases k3
            · cases k2
          | _ => cases k2
      · cases hb
    | _ => cases hi
def BadFn (P : Program) (st : Stmt) : Prop := ∀ (w : World) (K : PySem.W.Frag) (mg : Str → Option Value) (base : Heap) (C fI : Addr), BadTxt P K mg C fI qB "name" (defArgs st) (defBody st) (defScope st) →
  ∃ fd : FuncData, FnOk P w K mg base L2.CX0 1 fI fd ["self", "name"] (spBad C "name") ∧ ∃ (oc : Value) (od : Option Addr) (osl : Array (Option Value)), K.lookup fI = some ⟨oc, od, .func fd, osl⟩ ∧ ∃ (kV doc pm : Value) (an : Option Addr) (ct : Value) (cda cc : Addr), fd = PySem.W.ksFn "__init__" qB (defArgs st) (defBody st) (defScope st) .none kV doc pm an (.ref cda) ct cc
theorem bad_ok {P : Program} {w : World} {K : PySem.W.Frag} {mg : Str → Option Value} {base : Heap} {C fI : Addr} {st : Stmt} (T : BadTxt P K mg C fI qB "name" (defArgs st) (defBody st) (defScope st)) (gm : mg "BadArgument" = some (.ref C)) (F : BadFn P st)
    (hb : ∀ (kV doc pm : Value) (an : Option Addr) (cdv ct : Value) (cc : Addr) (us : List Value), us.length = 2 → bindArgs (PySem.W.ksFn "__init__" qB (defArgs st) (defBody st) (defScope st) .none kV doc pm an cdv ct cc) ⟨us, []⟩ = pure ((["self", "name"] : List Str).zip us)) : BadOk P w K mg base C := by
  obtain ⟨fd, f1, oc, od, osl, lk, kV, doc, pm, an, ct, cda, cc, rfl⟩ := F w K mg base C fI T
  exact ⟨T.oex, T.XF, T.noN, T.self, gm, fI, _, T.iC, T.tI, f1, .all fun us hl => hb kV doc pm an (.ref cda) ct cc us hl⟩
/-! ### a def -/
def cOf (K : PySem.W.Frag) (x : Str) : Addr := He.codeOf K (x, none)
theorem src_of {K : PySem.W.Frag} {h : Heap} {mg : Str → Option Value} {x : Str} {st : Stmt} {fd : FuncData} (X : K.In h) (G : h.Ns mainGlobals mg) (hg : (He.Fa.glo x).ok K = true) (F : FunD K x x (defArgs st) (defBody st) (defScope st) [] [] (He.fAd K (x, none)) fd) : Src K mg x st (cOf K x) := by
  obtain ⟨oc, od, dV, kV, doc, pm, an, cdv, ct, osl, rfl, lk, hc, hd, hk⟩ := F.ex
  obtain ⟨c, rfl⟩ := He.codeIn_ref hc
  have e : cOf K x = c := He.codeOf_eq lk rfl
  rw [e]
  rcases hd with ⟨_, rfl⟩ | ⟨z, _⟩
  · exact ⟨_, oc, od, kV, doc, pm, an, ct, osl, lk, hc, He.glo_ok X G hg, F.kp⟩
  · exact absurd rfl z
/-! ### the tables -/
abbrev TQ : Type := List (Str × Str)
def tT (K : PySem.W.Frag) (x : Str) : Addr := (He.cT K (x, none)).2
def tabsOf (K : PySem.W.Frag) (tq : TQ) : List (Addr × Str) := tq.map fun z => (tT K z.1, z.2)
def tfOf (tq : TQ) : List He.Defn := tq.map fun z => (z.1, none)
def csOf (K : PySem.W.Frag) (tq : TQ) : List (Addr × Addr) := tq.map fun z => (cOf K z.1, tT K z.1)
def dis : List Addr → Bool
  | [] => true
  | a :: r => r.all (fun b => !Nat.beq a b) && dis r
theorem dis_ok {K : PySem.W.Frag} : ∀ {tq : TQ}, dis (tq.map fun z => tT K z.1) = true → ∀ {z y : Str × Str}, z ∈ tq → y ∈ tq → tT K z.1 = tT K y.1 → z = y
  | [], _, z, y, hz, _, _ => by cases hz
  | u :: r, h, z, y, hz, hy, e => by
    obtain ⟨h1, h2⟩ := He.ba h
    have no : ∀ v ∈ r, tT K u.1 ≠ tT K v.1 := fun v hv q => by
      have z1 := List.all_eq_true.mp h1 (tT K v.1) (List.mem_map.mpr ⟨v, hv, rfl⟩)
      have z2 : (!Nat.beq (tT K u.1) (tT K v.1)) = true := z1
      rw [q, Nat.beq_refl] at z2
      cases z2
    rcases List.mem_cons.mp hz with rfl | hz
    · rcases List.mem_cons.mp hy with rfl | hy
      · rfl
      · exact absurd e (no y hy)
    · rcases List.mem_cons.mp hy with hy | hy
      · rw [hy] at e
        exact absurd e.symm (no z hz)
      · exact dis_ok h2 hz hy e
theorem tabOk_of {K : PySem.W.Frag} {base : Heap} {mg : Str → Option Value} {tq : TQ} {x q : Str} (hd : dis (tq.map fun z => tT K z.1) = true) (hT : ∀ p ∈ csOf K tq, LamX.TabB base mg p.1 p.2) (hx : (x, q) ∈ tq) : TabOk (tabsOf K tq) base mg (cOf K x) q := by
  refine ⟨tT K x, hT (cOf K x, tT K x) (List.mem_map.mpr ⟨(x, q), hx, rfl⟩), List.mem_map.mpr ⟨(x, q), hx, rfl⟩, fun p hp e => ?_⟩
  obtain ⟨z, hz, rfl⟩ := List.mem_map.mp hp
  have := dis_ok hd hz hx e
  subst this
  rfl
/-! ### the Hook -/
abbrev AlB : Type := He.AlT × (Bool × IniV)
def obsBK (fa : List He.Fa) (fn : List He.DefD) (tq : TQ) (file : Str) (g : Addr → Option Obj) (K : PySem.W.Frag) : AlB := (He.obsT fa fn [] K, (badB file K && (dis (tq.map fun z => tT K z.1) && He.tabsB g (tfOf tq) K), iniW K))
def asHB (g : Addr → Option Obj) (n : Nat) : List Addr := cStatics :: He.asD g n
def obsB (n : Nat) (fa : List He.Fa) (fn : List He.DefD) (tq : TQ) (file : Str) (g : Addr → Option Obj) : AlB := obsBK fa fn tq file g (He.frT g (asHB g n))
def valB (fn : List He.DefD) (st : Stmt) (w : World) : AlB := (He.valT fn [] w, (true, iniVal st))
structure SaysB (fa : List He.Fa) (fn : List He.DefD) (tq : TQ) (st : Stmt) (file : Str) (w : World) (h : Heap) (K : PySem.W.Frag) : Prop where
  t : He.SaysT fa fn [] w K
  bad : badB file K = true
  dis : dis (tq.map fun z => tT K z.1) = true
  hd : ∀ z ∈ tq, PySem.W.codeHdIn K (cOf K z.1) (tT K z.1) = true
  out : ∀ z ∈ tq, K.lookup (tT K z.1) = none
  empty : ∀ z ∈ tq, h.get? (tT K z.1) = some { cls := .none, data := .fields #[] }
  ini : iniW K = iniVal st
theorem saysB_of {n : Nat} {fa : List He.Fa} {fn : List He.DefD} {tq : TQ} {st : Stmt} {file : Str} {w : World} {h : Heap} (e : obsB n fa fn tq file h.get? = valB fn st w) : SaysB fa fn tq st file w h (He.frT h.get? (asHB h.get? n)) := by
  have e1 := congrArg (fun z : AlB => z.1) e
  have e2 := congrArg (fun z : AlB => z.2.1) e
  have e3 := congrArg (fun z : AlB => z.2.2) e
  obtain ⟨h1, h2⟩ := He.ba e2
  obtain ⟨h2, h3⟩ := He.ba h2
  have key : ∀ z ∈ tq, PySem.W.codeHdIn (He.frT h.get? (asHB h.get? n)) (cOf (He.frT h.get? (asHB h.get? n)) z.1) (tT (He.frT h.get? (asHB h.get? n)) z.1) = true ∧ ∃ o, h.get? (tT (He.frT h.get? (asHB h.get? n)) z.1) = some o ∧ He.emptyTab o = true := fun z hz => by
    obtain ⟨h4, h5⟩ := He.ba (List.all_eq_true.mp h3 (z.1, none) (List.mem_map.mpr ⟨z, hz, rfl⟩))
    refine ⟨h4, ?_⟩
    have h5' : (match h.get? (tT (He.frT h.get? (asHB h.get? n)) z.1) with
      | some o => He.emptyTab o
      | none => false) = true := h5
    cases q : h.get? (tT (He.frT h.get? (asHB h.get? n)) z.1) with
    | none =>
      rw [q] at h5'
      cases h5'
    | some o =>
      rw [q] at h5'
      exact ⟨o, rfl, h5'⟩
  exact ⟨e1, h1, h2, fun z hz => (key z hz).1, fun z hz => by
    obtain ⟨_, o, q, y⟩ := key z hz
    exact He.frT_none q y, fun z hz => by
    obtain ⟨_, o, q, y⟩ := key z hz
    rw [q, He.emptyTab_eq y], e3⟩
def hookB (n : Nat) (fa : List He.Fa) (fn : List He.DefD) (tq : TQ) (st : Stmt) (file : Str) : PySem.W.Hook where
  α := AlB
  obs := fun s => obsB n fa fn tq file s.heap.get?
  val := fun w => valB fn st w
  says := fun w h => ∃ K : PySem.W.Frag, K.In h ∧ SaysB fa fn tq st file w h K
  of := fun _ _ e => ⟨_, He.frT_in, saysB_of e⟩
  keeps := fun _ _ _ ⟨K, hK, c⟩ k => ⟨K, PySem.W.Frag.In.keeps hK k, ⟨c.t, c.bad, c.dis, c.hd, c.out, fun z hz => k _ _ (c.empty z hz), c.ini⟩⟩
theorem obsB_eq {n : Nat} {fa : List He.Fa} {fn : List He.DefD} {tq : TQ} {st : Stmt} {file : Str} {g : Addr → Option Obj} {s : Shared} (h : ∀ a, g a = s.heap.get? a) : obsB n fa fn tq file g = (hookB n fa fn tq st file).obs s := by
  have e : g = s.heap.get? := funext h
  rw [e] <;> rfl
def dF (x : Str) (st : Stmt) : He.DefD := ⟨(x, none), x, x, defArgs st, defBody st, defScope st, [], []⟩
theorem cx_no {P : Program} (w : World) (H : Hp) (s : Shared) (e : Value) (s' : Shared) : L2.CX P w [] H s (fun _ _ _ => False) e s' → False := by
  intro z
  unfold L2.CX at z
  simp only [and_false, exists_const, exists_false] at z
/-- the end: from the Hook's facts to what the walk asks -/
theorem lawAt {l : PySem.W.OpenLaw} {w : World} {K : PySem.W.Frag} {mg : Str → Option Value} {h : Heap} {fa : List He.Fa} {fn : List He.DefD} {tq : TQ} {st : Stmt} {file : Str} {fd : FuncData} {k n : Nat} {f : Addr} {sp : Sp} (c : SaysB fa fn tq st file w h K) (X : K.In h) (G : h.Ns mainGlobals mg)
    (hb : ∀ (s : Shared) (u : Value), BindsTo s fd ⟨[u], []⟩ [("script", u)])
    (hsp : ∀ (H : Hp) (a : Addr) (ns : List Int), ns.length ≤ n → LamX.Tabs (tabsOf K tq) H → SqL K H a (ns.map V.int) → sp [.ref a] H (fun v _ => v = .bl true) fun _ _ _ => False)
    (hF : ∀ base : Heap, K.In base → base.Ns mainGlobals mg → (∀ p ∈ csOf K tq, LamX.TabB base mg p.1 p.2) → FnOk l.prog w K mg base (L2.CX l.prog w) k f fd ["script"] sp) : LamX.LawAtS l w K (L2.CX l.prog w) k n "script" mg f h := by
  refine ⟨fd, csOf K tq, sp, fun p hp => ?_, fun p hp => ?_, fun p hp => ?_, hb, fun H a ns hl _ hT hS => hsp H a ns hl (fun p hp => ?_) hS, hF⟩
  · obtain ⟨z, hz, rfl⟩ := List.mem_map.mp hp
    exact c.empty z hz
  · obtain ⟨z, hz, rfl⟩ := List.mem_map.mp hp
    exact c.out z hz
  · obtain ⟨z, hz, rfl⟩ := List.mem_map.mp hp
    exact PySem.W.codeHd_of_K X (c.hd z hz)
  · obtain ⟨z, hz, rfl⟩ := List.mem_map.mp hp
    exact LamX.TabS.nil (hT (cOf K z.1, tT K z.1) (List.mem_map.mpr ⟨z, hz, rfl⟩))
end FL

set_option maxRecDepth 100000
set_option maxHeartbeats 1000000
/-! set(a list of ints), its table told. -/
namespace FL
open PySem PySem.Spec PyProof.Rows L2
abbrev fs0 (w : World) : Obj := { cls := .type "set", dict := none, data := .set #[] 0 (.fresh 0 0 (!w.params.followText "set-order")) }
section
variable {P : Program} {w : World} {A : Around} {E : Value → Shared → Prop} {s : Shared}
set_option maxHeartbeats 4000000 in
theorem call_setLI {l : Addr} {items : Array Value} (ns : List Int) {Q : Value → Shared → Prop} (hh : A.handled = none) (hl : s.heap.IsList l items) (hit : IntsAre items.toList ns) (hb : ns.length + 1 < scanBound)
    (h : ∀ (h' : Heap) (tk c : Nat), SetR w h' s.heap.objs.size (fun j => decide (j ∈ ns)) c → c ≤ ns.length → (∀ b o, s.heap.get? b = some o → h'.get? b = some o) → Q (.ref s.heap.objs.size) { s with heap := h', toks := tk }) :
    wpAny (model P w) A (call (.type "set") [.ref l]) Q E s := by
  have qhisz : items.size = ns.length := by
    have q := IntsAre.length hit
    rw [Array.length_toList] at q
    exact q
  obtain ⟨c, tl, qhmro⟩ := F.called_set.mro
  have qhmade := F.called_set.made
  have qhsub := F.called_set.sub
  refine wpAny_call (codeAny_of_tree ?_)
  show wpAny _ _ (callAny (.type "set") _) _ _ _
  refine wpAny_pure ⟨Code.quiet_builtin _ (by decide +kernel), codeAny_builtin F.entry_type_call ?_⟩
  rw [Around.under_plain (weight_type_call_type "set" [.ref l] []) rfl]
  have qh1 := F.called_set.notType
  have qh2 := F.called_set.canCreate
  have qhct := F.typeCall_set_1 (.ref l)
  repeat (any_goals (first | assumption | wp_step))

  refine codeAny_mono (code_set_led1 (.ref l) (E := E) (Q₁ := fun obj qs₁ => obj = .ref s.heap.objs.size ∧ qs₁ = { s with heap := s.heap.push (fs0 w) }) ⟨rfl, rfl⟩) fun r qs₁ hr => ?_
  cases r with
  | error e => exact hr
  | ok qfl =>
    cases qfl with
    | ret obj =>
      obtain ⟨rfl, rfl⟩ := hr
      have qhS : (s.heap.push (fs0 w)).get? s.heap.objs.size = some (fs0 w) := Heap.get?_push_size _ rfl
      have qhT : Shared.TypeIs { s with heap := s.heap.push (fs0 w) } (.ref s.heap.objs.size) "set" := ⟨_, qhS, rfl⟩
      have qhli := F.called_set.init.lookup
      have qhbi := F.called_set.init.bind (.ref s.heap.objs.size)
      repeat (any_goals (first | assumption | wp_step))

      refine codeAny_mono (codeAny_call_builtin (R := wants (fun r qs₂ => r = .none ∧ ∃ h' tk c, qs₂ = { s with heap := h', toks := tk } ∧ SetR w h' s.heap.objs.size (fun j => decide (j ∈ ns)) c ∧ c ≤ ns.length ∧
          (∀ b o, s.heap.get? b = some o → h'.get? b = some o)) E) F.called_set.init.plain F.entry_set_init (check_set_init_1 qhT ?_)) fun qr₂ qs₂ qhr₂ => ?_
      · obtain ⟨ol, qhol, qhcl, nl, qhdl⟩ := hl
        obtain ⟨ocls, odict, odata, oslots⟩ := ol
        simp only at qhcl qhdl
        subst qhcl; subst qhdl
        have qhol' : (s.heap.push (fs0 w)).get? l = some { cls := .type "list", dict := odict, data := .seq items nl, slots := oslots } := Heap.get?_push_of_some _ qhol
        have qhsls := F.sub_list_set
        have qhslf := F.sub_list_frozenset
        have qhne : (Value.type "list" == Value.type "dict") = false := by decide
        have qhl1 : (s.heap.push (fs0 w)).IsList l items := ⟨_, qhol', rfl, nl, rfl⟩
        unfold Builtin.«set.__init__» noKeywords Builtin.Frozenset.updateFrom
        generalize qhPI : pyIter = PI
        wp_walk
        subst qhPI

        refine wpAny_pyIter_list qhl1 ?_
        refine wpAny_bind (wpAny_runValue ?_)
        have qhlS : l < s.heap.objs.size := Heap.lt_size qhol
        have qhh3 : A.in1.in1.in1.handled = none := by simp [hh]
        have qhz1 : (s.heap.push (fs0 w)).objs.size = s.heap.objs.size + 1 := Heap.size_push ..
        have qhneI : l ≠ (s.heap.push (fs0 w)).objs.size := by
          rw [Heap.size_push]; exact Nat.ne_of_lt (Nat.lt_succ_of_lt qhlS)
        have qhSf : s.heap.objs.size ∉ [(s.heap.push (fs0 w)).objs.size, l] := by
          rw [Heap.size_push]; simp only [List.mem_cons, List.mem_singleton, List.not_mem_nil, or_false, not_or]
          exact ⟨Nat.ne_of_lt (Nat.lt_succ_self _), Nat.ne_of_gt qhlS⟩
        have qhval : ∀ (i : Nat) (v : Value), items[i]? = some v → ∃ k t, ns[i]? = some k ∧ v = .int k t := fun i v hv => by
          have hi : i < ns.length := by rw [← qhisz]; exact (Array.getElem?_eq_some_iff.mp hv).1
          obtain ⟨t, e⟩ := PyProof.Rows.IntsAre.int_at hit i v (by rw [Array.getElem?_toList]; exact hv)
          refine ⟨ns[i], t, List.getElem?_eq_getElem hi, ?_⟩
          rw [e, List.getD_eq_getElem?_getD, List.getElem?_eq_getElem hi] <;> rfl
        refine set_update_ints ((Walks.list qhh3 _ l qhneI items).toS) s.heap.objs.size
          qhSf ns qhisz hb qhval (items.size - 0) 0 _ (by omega) (Nat.zero_le _)
          ⟨⟨_, Heap.get?_push_size _ rfl, rfl, rfl⟩, (qhl1.push _)⟩ ?qhS0 ?hR
        case qhS0 =>
          have qhget : ((s.heap.push (fs0 w)).push { cls := .type "list_iterator", data := .fields #[.ref l, .int 0 0] }).get? s.heap.objs.size
              = some (fs0 w) := Heap.get?_push_of_some _ qhS
          exact ⟨0, Nat.le_refl 0, setR_new_at qhget⟩
        case hR =>
          intro s' c' qhm hc' qhS'
          obtain ⟨h', g2, d', tk', os'⟩ := s'
          have eg : g2 = s.gens := qhm.gens
          have ed : d' = s.drawn := qhm.drawn
          have eo : os' = s.os := qhm.os
          subst eg; subst ed; subst eo
          show wpAny _ _ _ _ _ _
          refine wpAny_pure ?_
          show wpAny _ _ (ret Value.none) _ _ _
          rw [qhisz] at hc'
          refine wpAny_pure ⟨rfl, h', tk', c', rfl, qhS', hc', fun b o e => ?_⟩
          have qhb0 : b < s.heap.objs.size := Heap.lt_size e
          have qhb1 : b ≠ s.heap.objs.size := Nat.ne_of_lt qhb0
          have qhb2 : b ≠ (s.heap.push (fs0 w)).objs.size := by
            rw [Heap.size_push]; exact Nat.ne_of_lt (Nat.lt_succ_of_lt qhb0)
          exact qhm.heap b o (by simp only [List.mem_cons, List.mem_singleton, List.not_mem_nil, or_false, not_or]; exact ⟨qhb1, qhb2⟩) (Heap.get?_push_of_some _ (Heap.get?_push_of_some _ e))

      · cases qr₂ with
        | error e => exact qhr₂
        | ok qfl₂ =>
          cases qfl₂ with
          | ret r =>
            obtain ⟨rfl, h', tk, c', rfl, qhS', hc', hk'⟩ := qhr₂
            repeat (any_goals (first | assumption | wp_step))
            exact h _ _ _ qhS' hc' hk'
          | _ => exact qhr₂.elim
    | _ => exact hr.elim

end
end FL

set_option maxRecDepth 100000
set_option maxHeartbeats 1000000
/-! sorted(set(ints)) as a new list. -/
namespace FL
open PySem PySem.Spec PyProof.Rows L2
/-! ### strictly rising ints -/
def insU (x : Int) : List Int → List Int
  | [] => [x]
  | y :: r => if x < y then x :: y :: r else if x = y then y :: r else y :: insU x r
def uniqI (ns : List Int) : List Int := ns.foldr insU []
theorem mem_insU {x z : Int} : ∀ {l : List Int}, z ∈ insU x l ↔ z = x ∨ z ∈ l
  | [] => by simp [insU]
  | y :: r => by
    unfold insU
    split
    · simp
    · split
      · rename_i e
        subst e
        simp
      · rw [List.mem_cons, mem_insU, List.mem_cons]
        constructor
        · rintro (h | h | h)
          · exact .inr (.inl h)
          · exact .inl h
          · exact .inr (.inr h)
        · rintro (h | h | h)
          · exact .inr (.inl h)
          · exact .inl h
          · exact .inr (.inr h)
theorem insU_lt {x : Int} : ∀ {l : List Int}, l.Pairwise (· < ·) → (insU x l).Pairwise (· < ·)
  | [], _ => by simp [insU]
  | y :: r, h => by
    obtain ⟨h1, h2⟩ := List.pairwise_cons.mp h
    unfold insU
    split
    · rename_i hx
      exact List.pairwise_cons.mpr ⟨fun z hz => by
        rcases List.mem_cons.mp hz with rfl | hz
        · exact hx
        · exact Int.lt_trans hx (h1 z hz), h⟩
    · rename_i hx
      split
      · exact h
      · rename_i hy
        exact List.pairwise_cons.mpr ⟨fun z hz => by
          rcases mem_insU.mp hz with rfl | hz
          · omega
          · exact h1 z hz, insU_lt h2⟩
theorem mem_uniqI {z : Int} : ∀ {ns : List Int}, z ∈ uniqI ns ↔ z ∈ ns
  | [] => Iff.rfl
  | n :: r => by
    show z ∈ insU n (uniqI r) ↔ _
    rw [mem_insU, mem_uniqI, List.mem_cons]
theorem uniqI_lt : ∀ ns : List Int, (uniqI ns).Pairwise (· < ·)
  | [] => .nil
  | n :: r => insU_lt (uniqI_lt r)
theorem strict_uniq : ∀ {xs ys : List Int}, xs.Pairwise (· < ·) → ys.Pairwise (· < ·) → (∀ k, k ∈ xs ↔ k ∈ ys) → xs = ys
  | [], [], _, _, _ => rfl
  | [], y :: ys, _, _, h => absurd ((h y).mpr List.mem_cons_self) (by simp)
  | x :: xs, [], _, _, h => absurd ((h x).mp List.mem_cons_self) (by simp)
  | x :: xs, y :: ys, h1, h2, h => by
    obtain ⟨a1, a2⟩ := List.pairwise_cons.mp h1
    obtain ⟨b1, b2⟩ := List.pairwise_cons.mp h2
    have e : x = y := by
      rcases List.mem_cons.mp ((h x).mp List.mem_cons_self) with q | q
      · exact q
      · rcases List.mem_cons.mp ((h y).mpr List.mem_cons_self) with r | r
        · exact r.symm
        · have := a1 y r
          have := b1 x q
          omega
    subst e
    rw [strict_uniq a2 b2 fun k => ⟨fun hk => by
      rcases List.mem_cons.mp ((h k).mp (List.mem_cons_of_mem _ hk)) with q | q
      · have := a1 k hk
        omega
      · exact q, fun hk => by
      rcases List.mem_cons.mp ((h k).mpr (List.mem_cons_of_mem _ hk)) with q | q
      · have := b1 k hk
        omega
      · exact q⟩]
def rSetLI (K : PySem.W.Frag) (w : World) : List V → Hp → VK → Prop := fun xs H Q => ∃ (l : Addr) (ns : List Int), xs = [V.ref l] ∧ SqL K H l (ns.map V.int) ∧ ns.length < 64 ∧ ∀ (p : Addr) (c : Nat), H p = none → c ≤ ns.length → Q (.ref p) (upd H p (SetO w p (fun j => decide (j ∈ ns)) c))
section
variable {X : Cx}
theorem cr_setLI (hc : X.calm = true) : CallR X (.type "set") (rSetLI X.K X.w) := by
  intro pins s σ H xs us Q I r h
  obtain ⟨l, ns, rfl, hl, h64, q⟩ := h
  rw [Vals.ref1 r]
  obtain ⟨its, rv, pl, hz⟩ := I.list hl
  have hb : ns.length + 1 < scanBound := by
    have : 64 < scanBound := by decide +kernel
    omega
  refine call_setLI ns (I.ok.hd hc) pl.isList (ints_of_vals rv) hb fun h' tk c hS hc' hk => ?_
  have J : Inv X pins σ (upd H s.heap.objs.size (SetO X.w s.heap.objs.size (fun j => decide (j ∈ ns)) c)) { s with heap := h', toks := tk } := I.laid (t' := tk) hk (Nat.le_refl _) (setO_new hS)
  exact ⟨.ref _, _, J, rfl, q _ c (I.hok.fresh (Nat.le_refl _)) hc'⟩
end
section
variable {P : Par} {E : XK}
def fSortedSet (fa : FA) : FA := fun e => (fa e).bind fun as e1 => match as with
  | [.list ds] => match toInts ds with
    | some ns => if ns.length < 64 then .ok ((uniqI ns).map .int) e1 else .bad
    | none => .bad
  | _ => .bad
abbrev tSetLI (K : PySem.W.Frag) (w : World) (t : TA) : TE := tCB (rSortedSet w) (tCons (tCB (rSetLI K w) t) tNil)
theorem sim_sortedSet {w : World} {t : TA} {f : FA} (h : SimA P E t f) : SimF P E (tSetLI P.K w t) (fSortedSet f) := fun G0 Z pa G ad σ H e S Q q =>
  h.bindF S q fun xs as e1 G1 ad1 H1 S1 hx h1 => by
    split at h1
    · obtain ⟨v, rfl, hv⟩ := hx.one
      cases hv with
      | lst g1 r1 =>
        split at h1
        · rename_i ns hn
          split at h1
          · rename_i hl
            refine ⟨_, ns, rfl, by rw [← r1.toInts hn]; exact SqL.of (S1.sub _ _ g1), hl, fun p c hp hc => ?_⟩
            refine ⟨p, _, c, rfl, upd_same, by omega, fun ys p' h2 h3 h4 hp' => ?_⟩
            have e : ys = uniqI ns := strict_uniq h2 (uniqI_lt ns) fun k => (h3 k).trans ((decide_eq_true_iff).trans mem_uniqI.symm)
            subst e
            exact h1 _ _ ad1 _ p' (S1.new hp fun ps z => by cases z) (DPs.ints _) hp'
          · exact h1.elim
        · exact h1.elim
    · exact h1.elim
/-! ### two names at once, one of them a new list that will be changed -/
/-- x, xs = e, [..] -/
def fParF (i j : Nat) (f : FE) (g : FA) : FS := fun e => (f e).out fun d e1 => (g e1).out fun ds e2 => match fgN i d e2 with
  | some e3 => if pinnedAt e3 j = true then .bad else .nx (e3.set j (.lst false ds))
  | none => .bad
theorem sim_parF {i j : Nat} {t u : TE} {f : FE} {g : FA} (ht : SimE P E t f) (hu : SimF P E u g) : SimS P E (tPar i j (tCons t (tCons u tNil))) (fParF i j f g) := fun G0 Z pa G ad σ H e S D h =>
  ht.out S h fun v d e1 G1 ad1 H1 S1 hv h => by
    refine hu _ _ _ _ _ _ _ _ S1 _ ?_
    cases q : g e1 with
    | ok ds e2 =>
      rw [q] at h
      dsimp only [R.out] at h
      intro vs G2 ad2 H2 p S2 hd hp
      cases q3 : fgN i d e2 with
      | none =>
        rw [q3] at h
        exact h.elim
      | some e3 =>
        rw [q3] at h
        dsimp only at h
        split at h
        · exact h.elim
        · rename_i c
          refine ⟨v, .ref p, rfl, ?_⟩
          refine sim_gN (P := P) (i := i) _ _ _ _ _ _ _ _ _ _ _ S2 (hv.mono S2.g0) q3 (fun σ' H' => D.nx (σ'.set j (some (.ref p))) (upd H' p (.lst vs))) fun ad3 σ3 S3 _ => ?_
          unfold pinnedAt at c
          cases q4 : e3[j]? with
          | none =>
            rw [q4] at c
            exact absurd rfl c
          | some s0 => exact PostS.mono h S2.g0 _ _ _ _ (S3.setOwn q4 hp (s := .lst false ds) rfl rfl ⟨vs, upd_same, hd⟩)
    | ex x e2 =>
      rw [q] at h
      exact fun cls dd G' ad' H' S' r => h cls dd G' ad' σ H' S' r
    | bad =>
      rw [q] at h
      exact h
/-- xs, x = [..], a written thing -/
def fParC (i j : Nat) (f : FA) (d : PyData) : FS := fun e => (f e).out fun ds e1 => if pinnedAt e1 i = true then .bad else Out.opt (fgN j d (e1.set i (.lst false ds)))
theorem sim_parC {i j : Nat} {t : TE} {f : FA} {v : V} {d : PyData} (ht : SimF P E t f) (hv : ∀ G, DP P.K G v d) : SimS P E (tPar i j (tCons t (tCons (tC v) tNil))) (fParC i j f d) := fun G0 Z pa G ad σ H e S D h => by
  refine ht _ _ _ _ _ _ _ _ S _ ?_
  unfold fParC at h
  cases q : f e with
  | ok ds e1 =>
    rw [q] at h
    dsimp only [R.out] at h
    intro vs G1 ad1 H1 p S1 hd hp
    refine ⟨.ref p, v, rfl, ?_⟩
    split at h
    · exact h.elim
    · rename_i c
      unfold pinnedAt at c
      cases q2 : e1[i]? with
      | none =>
        rw [q2] at c
        exact absurd rfl c
      | some s0 =>
        have S2 := S1.setOwn q2 hp (s := .lst false ds) rfl rfl ⟨vs, upd_same, hd⟩
        cases q3 : fgN j d (e1.set i (.lst false ds)) with
        | none =>
          rw [q3] at h
          exact h.elim
        | some e3 =>
          rw [q3] at h
          exact sim_gN (P := P) (i := j) _ _ _ _ _ _ _ _ _ _ _ S2 (hv _) q3 D.nx fun ad3 σ3 S3 _ => PostS.mono h (S1.g0.trans S2.g0) _ _ _ _ S3.self
  | ex x e1 =>
    rw [q] at h
    exact fun cls dd G' ad' H' S' r => h cls dd G' ad' σ H' S' r
  | bad =>
    rw [q] at h
    exact h
/-- x, y, xs = a, b, [..] -/
def fPar3F (i j k : Nat) (f f2 : FE) (g : FA) : FS := fun e => (f e).out fun d e1 => (f2 e1).out fun d2 e2 => (g e2).out fun ds e3 => match (fgN i d e3).bind fun e4 => fgN j d2 e4 with
  | some e5 => if pinnedAt e5 k = true then .bad else .nx (e5.set k (.lst false ds))
  | none => .bad
theorem sim_par3F {i j k : Nat} {t t2 u : TE} {f f2 : FE} {g : FA} (ht : SimE P E t f) (ht2 : SimE P E t2 f2) (hu : SimF P E u g) : SimS P E (tPar3 i j k (tCons t (tCons t2 (tCons u tNil)))) (fPar3F i j k f f2 g) := fun G0 Z pa G ad σ H e S D h =>
  ht.out S h fun v d e1 G1 ad1 H1 S1 hv h => ht2.out S1 h fun v2 d2 e2 G2 ad2 H2 S2 hv2 h => by
    refine hu _ _ _ _ _ _ _ _ S2 _ ?_
    cases q : g e2 with
    | ok ds e3 =>
      rw [q] at h
      dsimp only [R.out] at h
      intro vs G3 ad3 H3 p S3 hd hp
      cases q3 : (fgN i d e3).bind fun e4 => fgN j d2 e4 with
      | none =>
        rw [q3] at h
        exact h.elim
      | some e5 =>
        rw [q3] at h
        dsimp only at h
        obtain ⟨e4, k1, k2⟩ := Option.bind_eq_some_iff.mp q3
        split at h
        · exact h.elim
        · rename_i c
          refine ⟨v, v2, .ref p, rfl, ?_⟩
          refine sim_gN (P := P) (i := i) _ _ _ _ _ _ _ _ _ _ _ S3 (hv.mono (S2.g0.trans S3.g0)) k1 (fun σ' H' => D.nx ((σ'.set j (some v2)).set k (some (.ref p))) (upd H' p (.lst vs))) fun ad4 σ4 S4 _ => ?_
          refine sim_gN (P := P) (i := j) _ _ _ _ _ _ _ _ _ _ _ S4 (hv2.mono S3.g0) k2 (fun σ' H' => D.nx (σ'.set k (some (.ref p))) (upd H' p (.lst vs))) fun ad5 σ5 S5 _ => ?_
          unfold pinnedAt at c
          cases q4 : e5[k]? with
          | none =>
            rw [q4] at c
            exact absurd rfl c
          | some s0 => exact PostS.mono h S3.g0 _ _ _ _ (S5.setOwn q4 hp (s := .lst false ds) rfl rfl ⟨vs, upd_same, hd⟩)
    | ex x e3 =>
      rw [q] at h
      exact fun cls dd G' ad' H' S' r => h cls dd G' ad' σ H' S' r
    | bad =>
      rw [q] at h
      exact h
end
end FL

set_option maxRecDepth 100000
set_option maxHeartbeats 1000000
/-! tuple(range(n)), list(range(n)). -/
namespace FL
open PySem PySem.Spec PyProof.Rows L2
section
variable {P : Par} {E : XK}
def rgD (n : Int) : List PyData := (List.range n.toNat).map fun i => .int (i : Nat)
theorem rgD_vals {K : PySem.W.Frag} {G : Hp} (n : Int) : DPs K G (rgV 0 n) (rgD n) := by
  have e : rgV 0 n = ((List.range n.toNat).map fun i : Nat => (i : Int)).map V.int := by
    unfold rgV
    rw [List.map_map, Int.sub_zero]
    refine List.map_congr_left fun i _ => ?_
    show V.int (0 + (i : Nat)) = V.int _
    rw [Int.zero_add]
  have e2 : rgD n = ((List.range n.toNat).map fun i : Nat => (i : Int)).map PyData.int := by
    unfold rgD
    rw [List.map_map]
    rfl
  rw [e, e2]
  exact DPs.ints _
def rgOkB (n : Int) : Bool := decide (0 ≤ n) && decide (n ≤ 16777216)
theorem rgOkB_ok {n : Int} (h : rgOkB n = true) : RgOk 0 n := by
  obtain ⟨h1, h2⟩ := Bool.and_eq_true_iff.mp h
  exact .of_le (Int.le_refl 0) (of_decide_eq_true h2) (by decide) (of_decide_eq_true h1)
def fTupRg (f : FE) : FE := fun e => (f e).bind fun d e1 => match d with
  | .int n => if rgOkB n = true then .ok (.tuple (rgD n)) e1 else .bad
  | _ => .bad
theorem sim_tupRg {t : TE} {f : FE} (h : SimE P E t f) : SimE P E (tTupRg (tRg1 t)) (fTupRg f) := fun G0 Z pa G ad σ H e S Q q =>
  h.bind S q fun x d e1 G1 ad1 H1 S1 hx h1 => by
    split at h1
    · rename_i n
      split at h1
      · rename_i c
        cases hx
        exact ⟨n, rfl, rgOkB_ok c, fun p hp => Post.newT S1 h1 (rgD_vals n) hp⟩
      · exact h1.elim
    · exact h1.elim
def fLstRg (f : FE) : FA := fun e => (f e).bind fun d e1 => match d with
  | .int n => if rgOkB n = true then .ok (rgD n) e1 else .bad
  | _ => .bad
theorem sim_lstRg {t : TE} {f : FE} (h : SimE P E t f) : SimF P E (tLstRg (tRg1 t)) (fLstRg f) := fun G0 Z pa G ad σ H e S Q q =>
  h.bindF S q fun x d e1 G1 ad1 H1 S1 hx h1 => by
    split at h1
    · rename_i n
      split at h1
      · rename_i c
        cases hx
        exact ⟨n, rfl, rgOkB_ok c, fun p hp => h1 _ G1 ad1 H1 p S1.self (rgD_vals n) hp⟩
      · exact h1.elim
    · exact h1.elim
end
end FL

set_option maxRecDepth 100000
set_option maxHeartbeats 1000000
/-! xs.index(k), a list of ints. -/
namespace FL
open PySem PySem.Spec PyProof.Rows L2
def ixI (k : Int) : List Int → Option Nat
  | [] => none
  | x :: r => if x = k then some 0 else (ixI k r).map (· + 1)
theorem ixI_spec {k : Int} : ∀ {ns : List Int} {j : Nat}, ixI k ns = some j → ns[j]? = some k ∧ ∀ (m : Nat) (z : Int), m < j → ns[m]? = some z → z ≠ k
  | [], j, h => by cases h
  | x :: r, j, h => by
    unfold ixI at h
    split at h
    · rename_i c
      cases h
      exact ⟨by rw [c]; rfl, fun m z hm => by omega⟩
    · rename_i c
      obtain ⟨i, hi, rfl⟩ := Option.map_eq_some_iff.mp h
      obtain ⟨h1, h2⟩ := ixI_spec hi
      refine ⟨by rw [List.getElem?_cons_succ]; exact h1, fun m z hm hz => ?_⟩
      match m, hz with
      | 0, hz =>
        cases hz
        exact c
      | m + 1, hz => exact h2 m z (by omega) (by rw [List.getElem?_cons_succ] at hz; exact hz)
section
variable {P : Par} {E : XK}
def fIndexI (f g : FE) : FE := fun e => (f e).bind fun a e1 => match a with
  | .list ds => (g e1).bind fun b e2 => match b with
    | .int k => match (toInts ds).bind (ixI k) with
      | some j => .ok (.int (j : Nat)) e2
      | none => .bad
    | _ => .bad
  | _ => .bad
theorem sim_indexI {t u : TE} {f g : FE} (ht : SimE P E t f) (hu : SimE P E u g) : SimE P E (tBM P.K "list" (rIndex P.K) t (tCons u tNil)) (fIndexI f g) := fun G0 Z pa G ad σ H e S Q q =>
  ht.bind S q fun x d e1 G1 ad1 H1 S1 hx h1 => by
    split at h1
    · rename_i ds
      cases hx with
      | lst g1 r1 =>
        refine ⟨.inl ⟨rfl, _, SqL.of (S1.sub _ _ g1)⟩, ?_⟩
        refine hu.bind S1 h1 fun y b e2 G2 ad2 H2 S2 hy h2 => ?_
        split at h2
        · rename_i k
          cases hy
          split at h2
          · rename_i j hj
            obtain ⟨ns, hn, hj⟩ := Option.bind_eq_some_iff.mp hj
            obtain ⟨j1, j2⟩ := ixI_spec hj
            refine ⟨_, ns.map V.int, .int k, j, .int k, rfl, rfl, ?_, rfl, ?_, by rw [List.getElem?_map, j1]; rfl, beq_self_eq_true k, fun m z' hm hz => ?_, Post.out S2 h2 (.int _)⟩
            · rw [← r1.toInts hn]
              exact SqL.of (S2.sub _ _ (S2.g0 _ _ g1))
            · rw [List.all_map, List.all_eq_true]
              exact fun _ _ => rfl
            · rw [List.getElem?_map] at hz
              obtain ⟨z, hz2, rfl⟩ := Option.map_eq_some_iff.mp hz
              exact beq_eq_false_iff_ne.mpr (j2 m z hm hz2)
          · exact h2.elim
        · exact h2.elim
    · exact h1.elim
theorem ev_IndexI {f g : FE} {e : Sl} : fIndexI f g e = (f e).bind fun a e1 => match a with
  | .list ds => (g e1).bind fun b e2 => match b with
    | .int k => match (toInts ds).bind (ixI k) with
      | some j => .ok (.int (j : Nat)) e2
      | none => .bad
    | _ => .bad
  | _ => .bad := rfl
end
section
variable {X : Cx} {E : XK} {k j : Nat} {x : Str} {st : Stmt} {ps : List Str} {sp : Sp} {p pos : Pos}
/-- f(k = v, ..), by keywords alone -/
theorem pe_callKH0 {kws : List Keyword} {tk : TA} {ks : List Str} {m : Nat} (c : Has X.prog X.w X.K X.mg X.base k x st ps sp) (hr : Room j X.A) (hkj : k ≤ j) (hg : Gl X x) (hx : Passes (L2.CX X.prog X.w) X E) (hb : BindsKw x st ps ks 0 m) (hps : ps.length ≠ 0) (hkw : PK X kws tk)
    (hall : (backToKw pos (keywordEach kws X.env)).all (·.1.isSome) = true := by rfl) (hks : (backToKw pos (keywordEach kws X.env)).filterMap (·.1) = ks := by rfl) (hdb : (x == ("__debug__" : Str)) = false := by decide)
    (hpl : ((backTo pos (starEach [] X.env)).any (·.1) || (backToKw pos (keywordEach kws X.env)).any (·.1.isNone)) = false := by rfl) :
    PE X (.Call (.Name x p) [] kws pos) (tCallK sp (gK 0 m) E tNil tk) := by
  obtain ⟨f, fd, F, hm, hk, _, kV, doc, pm, an, cdv, ct, rfl⟩ := c.ex
  refine ⟨fun pins s σ H Q I h => ?_⟩
  refine wpAny_Call_Name_kw (ld_glob I hg hm ?_ hdb)
  refine PySem.W.callWith_KW0 (h₀ := X.base) I.ok.mod.kin hk hall (thn (hkw.run pos pins s σ H _ I h) fun ws s2 ⟨zs, H2, I2, rz, q2⟩ => ⟨I2.kIn, ?_⟩) hpl
  rw [hks]
  refine run_fnk F (hr.mono hkj) (g := gK 0 m) ⟨fun s us ws _ hl => ?_, fun {vs us zs ws} r1 r2 => ?_⟩ hx I2 .nil rz q2
  · unfold gK at hl ⊢
    split at hl
    · rename_i c
      rw [if_pos c]
      exact .of_eq (hb kV doc pm an cdv ct us ws c.1 c.2)
    · exact absurd hl.symm hps
  · unfold gK
    rw [Paired.length r1, Paired.length r2]
    split
    · exact r1.append r2
    · exact .nil
end
end FL

set_option maxRecDepth 100000
set_option maxHeartbeats 1000000
/-! own dicts read, {}, two targets at once, sorted(a tuple), sorted(a sorted list of tuples). -/
namespace FL
open PySem PySem.Spec PyProof.Rows L2
section
variable {P : Par} {E : XK}
theorem sim_newK {i : Nat} : SimS P E (tAsg tDNewK (gName i)) (fNewK i) := fun G0 Z pa G ad σ H e S D h => by
  unfold fNewK at h
  split at h
  · exact h.elim
  · rename_i c
    intro p hp
    unfold pinnedAt at c
    cases q2 : e[i]? with
    | none =>
      rw [q2] at c
      exact absurd rfl c
    | some s0 => exact PostS.mono h (Le.refl G) G _ _ _ (S.setOwn q2 hp (s := .dK false []) rfl rfl ⟨_, upd_same, .nil⟩)
theorem ev_NewK {i : Nat} {e : Sl} : fNewK i e = if pinnedAt e i = true then .bad else .nx (e.set i (.dK false [])) := rfl
/-- d[k], d a dict of the frame's own, k an int -/
def fDGet (i : Nat) (f : FE) : FE := fun e => match e[i]? with
  | some (.dK _ _) => (f e).bind fun k e1 => match e1[i]?, k with
    | some (.dK _ kvs), .int n => match valD kvs (Sum.inl n) with
      | some d => .ok d e1
      | none => .bad
    | _, _ => .bad
  | _ => .bad
theorem sim_dget {i : Nat} {t : TE} {f : FE} (ht : SimE P E t f) : SimE P E (tDGet (tVar i) t) (fDGet i f) := fun G0 Z pa G ad σ H e S Q h => by
  unfold fDGet at h
  split at h
  · rename_i p kvs hx
    obtain ⟨a1, vs, a2, a3⟩ := S.ownK hx
    refine ⟨_, a1, ht.bind S h fun w k e1 G1 ad1 H1 S1 hw h1 => ?_⟩
    split at h1
    · rename_i p' kvs' n hy
      obtain ⟨g1, ws, g2, g3⟩ := S1.ownK hy
      rw [same_ref a1 g1]
      cases hw
      rcases g3.val (Sum.inl n) with ⟨v, d, h2, h3, h4⟩ | ⟨h2, h3⟩
      · rw [h3] at h1
        exact ⟨_, v, rfl, by rw [← h2]; exact DGet.k (k := Sum.inl n) g2, h1 v G1 ad1 H1 S1.self h4⟩
      · rw [h3] at h1
        exact h1.elim
    · exact h1.elim
  · exact h.elim
theorem ev_DGet {i : Nat} {f : FE} {e : Sl} : fDGet i f e = match e[i]? with
  | some (.dK _ _) => (f e).bind fun k e1 => match e1[i]?, k with
    | some (.dK _ kvs), .int n => match valD kvs (Sum.inl n) with
      | some d => .ok d e1
      | none => .bad
    | _, _ => .bad
  | _ => .bad := rfl
/-- xs[k], x = a, b -/
def fAsgSI (i j : Nat) (fk f1 f2 : FE) : FS := fun e => (f1 e).out fun d1 e1 => (f2 e1).out fun d2 e2 => match e2[i]? with
  | some (.lst _ _) => (fk e2).out fun k e3 => match e3[i]?, k with
    | some (.lst p xs), .int n => match ixN xs.length n with
      | some m => Out.opt (fgN j d2 (e3.set i (.lst p (xs.set m d1))))
      | none => .bad
    | _, _ => .bad
  | _ => .bad
theorem sim_asgSI {i j : Nat} {tk t1 t2 : TE} {fk f1 f2 : FE} (hk : SimE P E tk fk) (h1 : SimE P E t1 f1) (h2 : SimE P E t2 f2) :
    SimS P E (tAsg (tTup (tCons t1 (tCons t2 tNil))) (gTup P.K 2 (gCons (gSub (tVar i) tk rSetL) (gCons (gName j) gNil)))) (fAsgSI i j fk f1 f2) := fun G0 Z pa G ad σ H e S D h =>
  h1.out S h fun v1 d1 e1 G1 ad1 H1 S1 hv1 h => h2.out S1 h fun v2 d2 e2 G2 ad2 H2 S2 hv2 h => by
    refine ⟨Nat.le_of_ble_eq_true rfl, fun p hp => ?_⟩
    have S3 := S2.new (o := .tup [v1, v2]) hp fun ps z => by cases z
    split at h
    · rename_i b xs hx
      obtain ⟨a1, vs, a2, a3⟩ := S3.ownL hx
      refine ⟨p, [v1, v2], rfl, .inl (.inl upd_same), rfl, v1, [v2], rfl, _, a1, hk.out S3 (PostS.mono h S3.g0) fun w k e3 G3 ad3 H3 S4 hw h3 => ?_⟩
      split at h3
      · rename_i b' ys n hy
        obtain ⟨g1, ws, g2, g3⟩ := S4.ownL hy
        rw [same_ref a1 g1]
        cases hw
        split at h3
        · rename_i m hm
          refine ⟨_, ws, n, m, rfl, rfl, g2, by rw [g3.length]; exact hm, v2, [], rfl, ?_⟩
          have S5 := S4.change (s := .lst b' (ys.set m d1)) hy rfl rfl rfl ⟨_, upd_same, g3.set (hv1.mono (S2.g0.trans (S3.g0.trans S4.g0))) m⟩
          cases q3 : fgN j d2 (e3.set i (.lst b' (ys.set m d1))) with
          | none =>
            rw [q3] at h3
            exact h3.elim
          | some e4 =>
            rw [q3] at h3
            exact sim_gN (P := P) (i := j) _ _ _ _ _ _ _ _ _ _ _ S5 (hv2.mono (S3.g0.trans (S4.g0.trans S5.g0))) q3 (fun σ' H' => gNil [] σ' H' D.nx) fun ad6 σ6 S6 _ => ⟨rfl, h3 _ ad6 σ6 _ (S6.self.base S5.g0)⟩
        · exact h3.elim
      · exact h3.elim
    · exact h.elim
theorem ev_AsgSI {i j : Nat} {fk f1 f2 : FE} {e : Sl} : fAsgSI i j fk f1 f2 e = (f1 e).out fun d1 e1 => (f2 e1).out fun d2 e2 => match e2[i]? with
  | some (.lst _ _) => (fk e2).out fun k e3 => match e3[i]?, k with
    | some (.lst p xs), .int n => match ixN xs.length n with
      | some m => Out.opt (fgN j d2 (e3.set i (.lst p (xs.set m d1))))
      | none => .bad
    | _, _ => .bad
  | _ => .bad := rfl
end
end FL

set_option maxRecDepth 100000
set_option maxHeartbeats 1000000
/-! sorted(a tuple of ints); sorted(a list of tuples that stands sorted). -/
namespace SrtO
open PySem PyProof.Rows Srt
section
variable {prog : Program} {w : World} {A : Around} {E : Value → Shared → Prop} {s : Shared}
theorem collectT {l : Addr} {vs : List Value} {Q : List Value → Shared → Prop} (hl : s.heap.IsTuple l vs.toArray)
    (h : Q vs { s with heap := (s.heap.push (seqObj "list" #[] 0)).update s.heap.objs.size (Obj.mapSeq (· ++ vs.toArray)) }) (hsz : vs.length ≤ sizeLine := by size_fits) :
    wpAny (model prog w) A (collect (.ref l)) Q E s := by
  obtain ⟨o, ho, hc, n, hd⟩ := id hl
  unfold collect
  refine wpAny_bind (wpAny_runValue (codeAny_builtin entry_proto_collect' ?_))
  show wpAny _ _ (do again (.builtin "list.__iadd__" ⟨[← newList [], .ref l], []⟩)) _ _ s
  refine wpAny_bind (wpAny_newList (wpAny_pure ⟨Code.quiet_builtin _ (by decide +kernel), codeAny_builtin entry_list_iadd' ?_⟩))
  show wpAny _ _ (Builtin.List.listExtendWith (.ref s.heap.objs.size) (.ref l) (.ref s.heap.objs.size)) _ _ { s with heap := s.heap.push (seqObj "list" #[] 0) }
  unfold Builtin.List.listExtendWith
  have ho' : (s.heap.push (seqObj "list" #[] 0)).get? l = some o := Heap.get?_push_of_some _ ho
  refine wpAny_bind (wpAny_typeOf (T := "tuple") ⟨o, ho', hc⟩ ?_)
  have ht : (Value.type "tuple" == Value.type "tuple") = true := by rfl
  rw [if_pos (by rw [ht]; simp)]
  refine wpAny_bind (listItems_at ho' hd ?_)
  refine wpAny_bind (listItems_at (xs := #[]) (n := 0) (Heap.get?_push_size _ rfl) rfl ?_)
  rw [if_neg (by simp)]
  refine wpAny_bind (listUpdate_at (xs := #[]) (n := 0) (Heap.get?_push_size _ rfl) rfl ?_ (Nat.zero_le _) (by show (#[] ++ vs.toArray).size ≤ sizeLine + 1; simp only [Array.size_append, List.size_toArray, List.length_nil]; omega))
  refine wpAny_pure ?_
  show wpAny (model prog w) A (do
      let o ← load s.heap.objs.size
      match o.data with
      | .seq xs _ => pure xs.toList
      | _ => unsupported "internal:collect") Q E { s with heap := (s.heap.push (seqObj "list" #[] 0)).update s.heap.objs.size (Obj.mapSeq (· ++ vs.toArray)) }
  refine wpAny_bind (wpAny_load (get?_update_seq (Heap.get?_push_size _ rfl) _) ?_)
  show wpAny _ _ (pure ((#[] : Array Value) ++ vs.toArray).toList) Q E _
  rw [show ((#[] : Array Value) ++ vs.toArray).toList = vs by simp]
  exact wpAny_pure h


theorem sortedT_ord {l : Addr} {vs : List Value} {ltv : Value → Value → Bool} {Q : Value → Shared → Prop} (O : Swo ltv) (hl : s.heap.IsTuple l vs.toArray) (hz : vs.length ≤ sizeLine)
    (hS : 2 ≤ vs.length → ∀ (h₁ : Heap) (a : Addr), h₁.get? a = some (seqObj "list" vs.toArray 0) → (∀ b o, s.heap.get? b = some o → b ≠ a ∧ h₁.get? b = some o) → SortableO prog w A.in1.in1 { s with heap := h₁ } a vs ltv)
    (h : ∀ out : List Value, Srtd ltv out → Stb ltv out vs → Q (.ref (s.heap.objs.size + 1)) { s with heap := sortedAll s.heap vs out.toArray }) :
    wpAny (model prog w) A (call (.builtin "sorted") [.ref l]) Q E s := by
  refine Calls.call_function_entry kind_sorted plain_sorted entry_sorted (args_sorted1 _) ?_
  unfold Builtin.«sorted»
  refine wpAny_bind (m := checkCount "sorted" 1 1 _) (wpAny_pure ?_)
  refine wpAny_bind (collectT hl ?_ hz)
  refine wpAny_bind (wpAny_newList ?_ hz)
  have hsz : ((s.heap.push (seqObj "list" #[] 0)).update s.heap.objs.size (Obj.mapSeq (· ++ vs.toArray))).objs.size = s.heap.objs.size + 1 := by
    rw [Heap.size_update, size_push']
  have hoL : (((s.heap.push (seqObj "list" #[] 0)).update s.heap.objs.size (Obj.mapSeq (· ++ vs.toArray))).push (seqObj "list" vs.toArray 0)).get? (s.heap.objs.size + 1) = some (seqObj "list" vs.toArray 0) := by
    rw [← hsz]; exact Heap.get?_push_size _ rfl
  have keep : ∀ b o, s.heap.get? b = some o → b ≠ s.heap.objs.size + 1 ∧ (((s.heap.push (seqObj "list" #[] 0)).update s.heap.objs.size (Obj.mapSeq (· ++ vs.toArray))).push (seqObj "list" vs.toArray 0)).get? b = some o := fun b o q => by
    have hlt : b < s.heap.objs.size := Heap.lt_size q
    refine ⟨Nat.ne_of_lt (Nat.lt_succ_of_lt hlt), Heap.get?_push_of_some _ ?_⟩
    rw [Heap.get?_update_ne _ _ _ _ (Nat.ne_of_lt hlt)]
    exact Heap.get?_push_of_some _ q
  show wpAny _ _ _ _ _ { s with heap := ((s.heap.push (seqObj "list" #[] 0)).update s.heap.objs.size (Obj.mapSeq (· ++ vs.toArray))).push (seqObj "list" vs.toArray 0) }
  rw [hsz]
  refine wpAny_bind (wpAny_holding (wpAny_call_entry slot_list_sort ⟨_, hoL, rfl⟩ entry_list_sort (list_sort_ord O hoL hz (fun h2 => hS h2 _ _ hoL keep) fun out hs hb => ⟨_, rfl, ?_⟩) (args_list_sort _)))
  exact wpAny_pure ⟨_, rfl, h out hs hb⟩

end
end SrtO
namespace FL
open PySem PySem.Spec PyProof.Rows L2
section
variable {X : Cx}
def rSortedTI (K : PySem.W.Frag) : List V → Hp → VK → Prop := fun vs H Q => ∃ (a : Addr) (ns : List Int), vs = [V.ref a] ∧ SqT K H a (ns.map V.int) ∧
  ∀ (ns' : List Int) (p : Addr), ns'.Perm ns → ns'.Pairwise (· ≤ ·) → H p = none → Q (.ref p) (upd H p (.lst (ns'.map V.int)))
theorem cr_sortedTI : CallR X (.builtin "sorted") (rSortedTI X.K) := by
  intro pins s σ H vs us Q I r h
  obtain ⟨a, ns, rfl, hs, q⟩ := h
  obtain ⟨its, rv, hl, hz⟩ := I.tuple hs
  rw [Vals.ref1 r]
  have hi := rv.ints
  refine SrtO.sortedT_ord SrtO.swo_int hl (by rw [← rv.length]; exact hz) (fun h2 h₁ a' _ _ => SrtO.ints_sortable hi h2) fun out h1 h2 => ?_
  obtain ⟨k1, k2, k3⟩ := SrtO.ints_out hi h1 h2
  obtain ⟨ep, he'⟩ := PyProof.Rows.sortedAll_at s.heap its out.toArray
  have hlen : ((out.map SrtO.iv).map V.int).length ≤ sizeLine := by
    rw [List.length_map, k2.length_eq]
    rw [List.length_map] at hz
    exact hz
  exact ⟨.ref _, upd H (s.heap.objs.size + 1) (.lst ((out.map SrtO.iv).map V.int)), I.laid (t' := s.toks) (fun _ _ => PyProof.Rows.sortedAll_old) (Nat.le_succ _) ⟨hlen, out, ep, vals_of_ints k1, he'⟩, rfl, q _ _ k2 k3 (I.hok.fresh (Nat.le_succ _))⟩
end
section
variable {P : Par} {E : XK}
def fSortedTI (fa : FA) : FA := fun e => (fa e).bind fun as e1 => match as with
  | [.tuple ds] => match toInts ds with
    | some ns => .ok ((sortI ns).map .int) e1
    | none => .bad
  | _ => .bad
theorem sim_sortedTI {t : TA} {f : FA} (h : SimA P E t f) : SimF P E (tCB (rSortedTI P.K) t) (fSortedTI f) := fun G0 Z pa G ad σ H e S Q q =>
  h.bindF S q fun xs as e1 G1 ad1 H1 S1 hx h1 => by
    split at h1
    · obtain ⟨v, rfl, hv⟩ := hx.one
      cases hv with
      | tup g1 r1 =>
        split at h1
        · rename_i ns hn
          refine ⟨_, ns, rfl, by rw [← r1.toInts hn]; exact S1.sub.sqT g1.sqT, fun ns' p hp hs hf => ?_⟩
          rw [sortI_uniq hp hs]
          exact h1 _ G1 ad1 H1 p S1.self (DPs.ints _) hf
        · exact h1.elim
    · exact h1.elim
theorem ev_SortedTI {f : FA} {e : Sl} : fSortedTI f e = (f e).bind fun as e1 => match as with
  | [.tuple ds] => match toInts ds with
    | some ns => .ok ((sortI ns).map .int) e1
    | none => .bad
  | _ => .bad := rfl
end
end FL

set_option maxRecDepth 100000
set_option maxHeartbeats 1000000
/-! sorted(a list of tuples of ints that stands sorted). -/
namespace FL
open PySem PySem.Spec PyProof.Rows L2
section
variable {X : Cx}
def rSortedTT (K : PySem.W.Frag) : List V → Hp → VK → Prop := fun vs H Q => ∃ (a : Addr) (xs : List V), vs = [V.ref a] ∧ SqL K H a xs ∧
  (xs.length ≤ 1 ∨ ∃ d : Nat, 1 ≤ d ∧ xs.length < 64 ∧ (∀ x ∈ xs, ∃ ns, TupI K H x ns ∧ ns.length = d ∧ TS.Bd 64 ns) ∧ xs.Pairwise fun x y => ∃ n m, TupI K H x n ∧ TupI K H y m ∧ TS.code 64 n < TS.code 64 m) ∧
  ∀ p : Addr, H p = none → Q (.ref p) (upd H p (.lst xs))
theorem perm_same {α : Type} {le : α → α → Prop} {lt : α → α → Prop} {xs ys : List α} (hp : ys.Perm xs) (h1 : ys.Pairwise le) (h2 : xs.Pairwise lt) (hl : ∀ a b, lt a b → le a b) (hn : ∀ a b, lt a b → ¬ le b a) : ys = xs := by
  refine List.Perm.eq_of_pairwise (le := le) (fun a b ha hb h3 h4 => ?_) h1 (h2.imp fun {a b} h => hl a b h) hp
  have ma : a ∈ xs := hp.mem_iff.mp ha
  obtain ⟨i, hi, rfl⟩ := List.getElem_of_mem ma
  obtain ⟨j, hj, rfl⟩ := List.getElem_of_mem hb
  rcases Nat.lt_trichotomy i j with c | c | c
  · exact absurd h4 (hn _ _ (List.pairwise_iff_getElem.mp h2 i j hi hj c))
  · subst c
    rfl
  · exact absurd h3 (hn _ _ (List.pairwise_iff_getElem.mp h2 j i hj hi c))
theorem tupI_inj {H : Hp} {pins : List (Addr × Obj)} {σ : L2.St} {s : Shared} (I : Inv X pins σ H s) {x : V} {n m : List Int} (h1 : TupI X.K H x n) (h2 : TupI X.K H x m) : n = m := by
  obtain ⟨t, rfl, g1⟩ := h1
  obtain ⟨t', e, g2⟩ := h2
  cases e
  have a := (tupI_raw I g1).ints
  have b := (tupI_raw I g2).ints
  exact a.symm.trans b
theorem cr_sortedTT : CallR X (.builtin "sorted") (rSortedTT X.K) := by
  intro pins s σ H vs us Q I r h
  obtain ⟨a, xs, rfl, hs, hc, q⟩ := h
  rcases hc with hc | ⟨d, hd, h64, hx, hp⟩
  · obtain ⟨its, rv, hl, hz⟩ := I.list hs
    rw [Vals.ref1 r]
    have l1 : its.length ≤ 1 := by rw [← rv.length]; exact hc
    refine SrtO.sorted_ord (ltv := fun _ _ => false) ⟨fun _ _ _ => rfl, fun _ _ _ _ _ => rfl⟩ hl.isList (by rw [← rv.length]; exact hz) (fun h2 => absurd h2 (by omega)) fun out h1 h2 => ?_
    have e : out = its := by
      have p := h2.perm
      clear h1 h2 r rv hl
      cases its with
      | nil => exact p.eq_nil
      | cons u r =>
        cases r with
        | nil => exact List.perm_singleton.mp p
        | cons u' r' => simp at l1
    subst e
    obtain ⟨ep, he'⟩ := PyProof.Rows.sortedAll_at s.heap out out.toArray
    exact ⟨.ref _, upd H (s.heap.objs.size + 1) (.lst xs), I.laid (t' := s.toks) (fun _ _ => PyProof.Rows.sortedAll_old) (Nat.le_succ _) ⟨hz, out, ep, rv, he'⟩, rfl, q _ (I.hok.fresh (Nat.le_succ _))⟩
  · refine cr_sortT (d := d) (B := 64) hd pins s σ H [.ref a] us Q I r ⟨a, xs, rfl, hs, h64, hx, fun ys p h1 h2 h3 => ?_⟩
    have e : ys = xs := perm_same h1 h2 hp (fun x y ⟨n, m, t1, t2, h⟩ n' m' t1' t2' => by
      rw [tupI_inj I t1' t1, tupI_inj I t2' t2]
      exact Int.le_of_lt h) fun x y ⟨n, m, t1, t2, h⟩ h' => by
      have := h' m n t2 t1
      omega
    rw [e]
    exact q p h3
end
section
variable {P : Par} {E : XK}
def rowsI : List PyData → Option (List (List Int))
  | [] => some []
  | .tuple ds :: r => (toInts ds).bind fun ns => (rowsI r).map (ns :: ·)
  | _ => none
def bd64 (ns : List Int) : Bool := ns.all fun x => decide (0 ≤ x) && decide (x < 64)
def strictB : List (List Int) → Bool
  | [] => true
  | r :: rs => (rs.all fun s => decide (TS.code 64 r < TS.code 64 s)) && strictB rs
def okRows (d : Nat) (rows : List (List Int)) : Bool := decide (1 ≤ d) && (decide (rows.length < 64) && ((rows.all fun r => decide (r.length = d) && bd64 r) && strictB rows))
def fSortedTT (fa : FA) : FA := fun e => (fa e).bind fun as e1 => match as with
  | [.list ds] => if ds.length ≤ 1 then .ok ds e1 else match rowsI ds with
    | some rows => if okRows (rows.headD []).length rows = true then .ok ds e1 else .bad
    | none => .bad
  | _ => .bad
theorem rows_tup {K : PySem.W.Frag} {G H : Hp} (hs : ∀ t xs, SqT K G t xs → SqT K H t xs) : ∀ {vs : List V} {ds : List PyData} {rows : List (List Int)}, DPs K G vs ds → rowsI ds = some rows → Paired (fun v r => TupI K H v r) vs rows
  | _, _, rows, .nil, h => by
    cases h
    exact .nil
  | _, _, rows, .cons (d := d) hd t, h => by
    cases hd with
    | tup g1 r1 =>
      unfold rowsI at h
      obtain ⟨ns, h1, h⟩ := Option.bind_eq_some_iff.mp h
      obtain ⟨rs, h2, rfl⟩ := Option.map_eq_some_iff.mp h
      exact .cons ⟨_, rfl, by rw [← r1.toInts h1]; exact hs _ _ g1.sqT⟩ (rows_tup hs t h2)
    | _ => cases h
theorem pair_mem {α β : Type} {F : α → β → Prop} {xs : List α} {ys : List β} (h : Paired F xs ys) : ∀ x ∈ xs, ∃ y ∈ ys, F x y := by
  induction h with
  | nil => exact fun x hx => by cases hx
  | cons r _ ih =>
    intro x hx
    rcases List.mem_cons.mp hx with rfl | hx
    · exact ⟨_, List.mem_cons_self, r⟩
    · obtain ⟨y, hy, q⟩ := ih x hx
      exact ⟨y, List.mem_cons_of_mem _ hy, q⟩
theorem strict_pw {F : V → List Int → Prop} {xs : List V} {rows : List (List Int)} (h : Paired F xs rows) : strictB rows = true → xs.Pairwise fun x y => ∃ n m, F x n ∧ F y m ∧ TS.code 64 n < TS.code 64 m := by
  induction h with
  | nil => exact fun _ => .nil
  | cons r t ih =>
    intro hs
    obtain ⟨h1, h2⟩ := Bool.and_eq_true_iff.mp hs
    refine .cons (fun y hy => ?_) (ih h2)
    obtain ⟨m, hm, q⟩ := pair_mem t y hy
    exact ⟨_, m, r, q, of_decide_eq_true (List.all_eq_true.mp h1 m hm)⟩
theorem sim_sortedTT {t : TA} {f : FA} (h : SimA P E t f) : SimF P E (tCB (rSortedTT P.K) t) (fSortedTT f) := fun G0 Z pa G ad σ H e S Q q =>
  h.bindF S q fun xs as e1 G1 ad1 H1 S1 hx h1 => by
    split at h1
    · obtain ⟨v, rfl, hv⟩ := hx.one
      cases hv with
      | lst g1 r1 =>
        split at h1
        · rename_i hl
          exact ⟨_, _, rfl, SqL.of (S1.sub _ _ g1), .inl (by rw [r1.length]; exact hl), fun p hp => h1 _ G1 ad1 H1 p S1.self r1 hp⟩
        · split at h1
          · rename_i rows hr
            split at h1
            · rename_i ho
              obtain ⟨o1, ho⟩ := Bool.and_eq_true_iff.mp ho
              obtain ⟨o2, ho⟩ := Bool.and_eq_true_iff.mp ho
              obtain ⟨o3, o4⟩ := Bool.and_eq_true_iff.mp ho
              have pr := rows_tup (fun t xs q => S1.sub.sqT q) r1 hr
              refine ⟨_, _, rfl, SqL.of (S1.sub _ _ g1), .inr ⟨(rows.headD []).length, of_decide_eq_true o1, by rw [Paired.length pr]; exact of_decide_eq_true o2, fun x hx => ?_, strict_pw pr o4⟩, fun p hp => h1 _ G1 ad1 H1 p S1.self r1 hp⟩
              obtain ⟨r, m, q⟩ := pair_mem pr x hx
              obtain ⟨b1, b2⟩ := Bool.and_eq_true_iff.mp (List.all_eq_true.mp o3 r m)
              refine ⟨r, q, of_decide_eq_true b1, fun y hy => ?_⟩
              obtain ⟨c1, c2⟩ := Bool.and_eq_true_iff.mp (List.all_eq_true.mp b2 y hy)
              exact ⟨of_decide_eq_true c1, of_decide_eq_true c2⟩
            · exact h1.elim
          · exact h1.elim
    · exact h1.elim
theorem ev_SortedTT {f : FA} {e : Sl} : fSortedTT f e = (f e).bind fun as e1 => match as with
  | [.list ds] => if ds.length ≤ 1 then .ok ds e1 else match rowsI ds with
    | some rows => if okRows (rows.headD []).length rows = true then .ok ds e1 else .bad
    | none => .bad
  | _ => .bad := rfl
end
end FL

set_option maxRecDepth 100000
set_option maxHeartbeats 1000000
/-! x, y, xs = a, b, [..] by way of a tuple; len(x), x an own list or data. -/
namespace FL
open PySem PySem.Spec PyProof.Rows L2
section
variable {P : Par} {E : XK}
theorem upd_comm {H : Hp} {a b : Addr} {o u : HO} (h : a ≠ b) : upd (upd H a o) b u = upd (upd H b u) a o := by
  funext c
  by_cases h1 : c = b
  · subst h1
    rw [upd_same, upd_ne (Ne.symm h), upd_same]
  · rw [upd_ne h1]
    by_cases h2 : c = a
    · subst h2
      rw [upd_same, upd_same]
    · rw [upd_ne h2, upd_ne h2, upd_ne h1]
theorem sim_asg3F {i j k : Nat} {t t2 u : TE} {f f2 : FE} {g : FA} (ht : SimE P E t f) (ht2 : SimE P E t2 f2) (hu : SimF P E u g) :
    SimS P E (tAsg (tTup (tCons t (tCons t2 (tCons u tNil)))) (gTup P.K 3 (gCons (gName i) (gCons (gName j) (gCons (gName k) gNil))))) (fPar3F i j k f f2 g) := fun G0 Z pa G ad σ H e S D h =>
  ht.out S h fun v d e1 G1 ad1 H1 S1 hv h => ht2.out S1 h fun v2 d2 e2 G2 ad2 H2 S2 hv2 h => by
    refine hu _ _ _ _ _ _ _ _ S2 _ ?_
    cases q : g e2 with
    | ok ds e3 =>
      rw [q] at h
      dsimp only [R.out] at h
      intro vs G3 ad3 H3 p S3 hd hp
      cases q3 : (fgN i d e3).bind fun e4 => fgN j d2 e4 with
      | none =>
        rw [q3] at h
        exact h.elim
      | some e5 =>
        rw [q3] at h
        dsimp only at h
        obtain ⟨e4, k1, k2⟩ := Option.bind_eq_some_iff.mp q3
        split at h
        · exact h.elim
        · rename_i c
          refine ⟨Nat.le_of_ble_eq_true rfl, fun r hr => ?_⟩
          have rp : r ≠ p := fun z => by rw [z, upd_same] at hr; cases hr
          rw [upd_ne rp] at hr
          rw [upd_comm (Ne.symm rp)]
          have S4 := S3.new (o := .tup [v, v2, .ref p]) hr fun ps z => by cases z
          refine ⟨r, [v, v2, .ref p], rfl, .inl (.inl (by rw [upd_ne rp, upd_same])), rfl, v, [v2, .ref p], rfl, ?_⟩
          refine sim_gN (P := P) (i := i) _ _ _ _ _ _ _ _ _ _ _ S4 (hv.mono (S2.g0.trans (S3.g0.trans S4.g0))) k1 (fun σ' H' => (gCons (gName j) (gCons (gName k) gNil)) [v2, .ref p] σ' (upd H' p (.lst vs)) D.nx) fun ad5 σ5 S5 _ => ?_
          refine ⟨v2, [.ref p], rfl, ?_⟩
          refine sim_gN (P := P) (i := j) _ _ _ _ _ _ _ _ _ _ _ S5 (hv2.mono (S3.g0.trans (S4.g0.trans S5.g0))) k2 (fun σ' H' => (gCons (gName k) gNil) [.ref p] σ' (upd H' p (.lst vs)) D.nx) fun ad6 σ6 S6 _ => ?_
          refine ⟨.ref p, [], rfl, rfl, ?_⟩
          unfold pinnedAt at c
          cases q4 : e5[k]? with
          | none =>
            rw [q4] at c
            exact absurd rfl c
          | some s0 => exact PostS.mono h (S3.g0.trans S4.g0) _ _ _ _ (S6.setOwn q4 (by rw [upd_ne (Ne.symm rp)]; exact hp) (s := .lst false ds) rfl rfl ⟨vs, upd_same, hd.mono S4.g0⟩)
    | ex x e3 =>
      rw [q] at h
      exact fun cls dd G' ad' H' S' r => h cls dd G' ad' σ H' S' r
    | bad =>
      rw [q] at h
      exact h
def fLenX (i : Nat) : FE := fun e => match e[i]? with
  | some (.lst _ _) => fLenV i e
  | _ => fCB gLen (fCons (fV i) fNil) e
end
end FL

set_option maxRecDepth 100000
set_option maxHeartbeats 1000000
namespace LW
open PySem PySem.Spec PyProof.Rows L2 FL
def topS (i : Nat) : Stmt := PySem.Challenge.pw_tidemaker_k12_whole_docks.main.body.getD i (.Pass ⟨0, 0, 0, 0⟩)
abbrev s_is_integer : Stmt := topS 6
abbrev s_need_integer : Stmt := topS 7
abbrev s_is_wheel : Stmt := topS 8
abbrev s_is_table : Stmt := topS 9
abbrev s_need_table : Stmt := topS 10
abbrev s_common : Stmt := topS 11
abbrev s_together : Stmt := topS 12
abbrev s_height_of : Stmt := topS 13
abbrev s_cycle_of : Stmt := topS 14
abbrev s_need_bar : Stmt := topS 17
abbrev s_need_short : Stmt := topS 20
abbrev s_over_row : Stmt := topS 21
abbrev s_is_ship : Stmt := topS 26
abbrev s_are_ships : Stmt := topS 27
abbrev s_need_dock : Stmt := topS 28
abbrev s_runs_on : Stmt := topS 29
abbrev s_first_start : Stmt := topS 30
abbrev s_starts_of : Stmt := topS 31
abbrev s_starts : Stmt := topS 32
abbrev s_orders : Stmt := topS 33
abbrev s_end_of : Stmt := topS 34
abbrev s_best_order : Stmt := topS 35
abbrev s_least_waiting : Stmt := topS 36
abbrev s_longest_ship : Stmt := topS 37
abbrev s_highest_bar : Stmt := topS 38
abbrev s__law_dice : Stmt := topS 40
abbrev s__law_roll : Stmt := topS 41
abbrev s__law_pick : Stmt := topS 42
abbrev s__law_refused : Stmt := topS 43
abbrev s__law_gcd : Stmt := topS 44
abbrev s__law_wheel : Stmt := topS 45
abbrev s__law_table : Stmt := topS 46
abbrev s__law_height : Stmt := topS 47
abbrev s__law_cycle : Stmt := topS 48
abbrev s__law_orders : Stmt := topS 49
abbrev s__law_lies : Stmt := topS 50
abbrev s__law_starts : Stmt := topS 51
abbrev s__law_right : Stmt := topS 52
abbrev s_law : Stmt := topS 53
structure Txt (K : PySem.W.Frag) (mg : Str → Option Value) (c : Nat → Addr) : Prop where
  b_abs : mg "abs" = none
  b_all : mg "all" = none
  b_bool : mg "bool" = none
  b_int : mg "int" = none
  b_isinstance : mg "isinstance" = none
  b_len : mg "len" = none
  b_list : mg "list" = none
  b_max : mg "max" = none
  b_min : mg "min" = none
  b_range : mg "range" = none
  b_sorted : mg "sorted" = none
  b_sum : mg "sum" = none
  b_tuple : mg "tuple" = none
  b_zip : mg "zip" = none
  g_MOST_SIZE : ∃ t, mg "MOST_SIZE" = some (.int 60 t)
  g_MOST_HEIGHT : ∃ t, mg "MOST_HEIGHT" = some (.int 1000000 t)
  g_MOST_WHEELS : ∃ t, mg "MOST_WHEELS" = some (.int 6 t)
  g_MOST_BAR : ∃ t, mg "MOST_BAR" = some (.int 10000000 t)
  g_MOST_CYCLE : ∃ t, mg "MOST_CYCLE" = some (.int 5000 t)
  g_MOST_SHIPS : ∃ t, mg "MOST_SHIPS" = some (.int 5 t)
  g_MOST_LENGTH : ∃ t, mg "MOST_LENGTH" = some (.int 100 t)
  g_MOST_ARRIVAL : ∃ t, mg "MOST_ARRIVAL" = some (.int 10000 t)
  s_is_integer : Src K mg "is_integer" s_is_integer (c 0)
  s_need_integer : Src K mg "need_integer" s_need_integer (c 1)
  s_is_wheel : Src K mg "is_wheel" s_is_wheel (c 2)
  s_is_table : Src K mg "is_table" s_is_table (c 3)
  s_need_table : Src K mg "need_table" s_need_table (c 4)
  s_common : Src K mg "common" s_common (c 5)
  s_together : Src K mg "together" s_together (c 6)
  s_height_of : Src K mg "height_of" s_height_of (c 7)
  s_cycle_of : Src K mg "cycle_of" s_cycle_of (c 8)
  s_need_bar : Src K mg "need_bar" s_need_bar (c 9)
  s_need_short : Src K mg "need_short" s_need_short (c 10)
  s_over_row : Src K mg "over_row" s_over_row (c 11)
  s_is_ship : Src K mg "is_ship" s_is_ship (c 12)
  s_are_ships : Src K mg "are_ships" s_are_ships (c 13)
  s_need_dock : Src K mg "need_dock" s_need_dock (c 14)
  s_runs_on : Src K mg "runs_on" s_runs_on (c 15)
  s_first_start : Src K mg "first_start" s_first_start (c 16)
  s_starts_of : Src K mg "starts_of" s_starts_of (c 17)
  s_starts : Src K mg "starts" s_starts (c 18)
  s_orders : Src K mg "orders" s_orders (c 19)
  s_end_of : Src K mg "end_of" s_end_of (c 20)
  s_best_order : Src K mg "best_order" s_best_order (c 21)
  s_least_waiting : Src K mg "least_waiting" s_least_waiting (c 22)
  s_longest_ship : Src K mg "longest_ship" s_longest_ship (c 23)
  s_highest_bar : Src K mg "highest_bar" s_highest_bar (c 24)
  s__law_dice : Src K mg "_law_dice" s__law_dice (c 25)
  s__law_roll : Src K mg "_law_roll" s__law_roll (c 26)
  s__law_pick : Src K mg "_law_pick" s__law_pick (c 27)
  s__law_refused : Src K mg "_law_refused" s__law_refused (c 28)
  s__law_gcd : Src K mg "_law_gcd" s__law_gcd (c 29)
  s__law_wheel : Src K mg "_law_wheel" s__law_wheel (c 30)
  s__law_table : Src K mg "_law_table" s__law_table (c 31)
  s__law_height : Src K mg "_law_height" s__law_height (c 32)
  s__law_cycle : Src K mg "_law_cycle" s__law_cycle (c 33)
  s__law_orders : Src K mg "_law_orders" s__law_orders (c 34)
  s__law_lies : Src K mg "_law_lies" s__law_lies (c 35)
  s__law_starts : Src K mg "_law_starts" s__law_starts (c 36)
  s__law_right : Src K mg "_law_right" s__law_right (c 37)
  s_law : Src K mg "law" s_law (c 38)
structure Tabs (T : List (Addr × Str)) (base : Heap) (mg : Str → Option Value) (c : Nat → Addr) : Prop where
  is_wheel : TabOk T base mg (c 2) ((("is_wheel" : Str) ++ ".<locals>.") ++ "<genexpr>")
  is_table : TabOk T base mg (c 3) ((("is_table" : Str) ++ ".<locals>.") ++ "<genexpr>")
  is_ship : TabOk T base mg (c 12) ((("is_ship" : Str) ++ ".<locals>.") ++ "<genexpr>")
  are_ships : TabOk T base mg (c 13) ((("are_ships" : Str) ++ ".<locals>.") ++ "<genexpr>")
  starts : TabOk T base mg (c 18) ((("starts" : Str) ++ ".<locals>.") ++ "<genexpr>")
  _law_right : TabOk T base mg (c 37) ((("_law_right" : Str) ++ ".<locals>.") ++ "<lambda>")
theorem R_ref : RefTxt s__law_refused := ⟨⟨_, _, _, _, _, _, _, _, _, _, _, _, rfl⟩, ⟨rfl, rfl, rfl, by decide +kernel, rfl, by decide +kernel, by decide +kernel⟩, fun _ _ _ _ _ _ us hl => match us, hl with | [_], _ => rfl, rfl, rfl, rfl⟩
section
variable {P : Program} {w : World} {K : PySem.W.Frag} {mg : Str → Option Value} {base : Heap} {T : List (Addr × Str)} {C : Addr} {c : Nat → Addr}
/-! is_integer -/
noncomputable def B_is_integer : FS := (fRet (fAndV (fIsi "int" (fV 0)) (fNotV (fIsi "bool" (fV 0)))))
noncomputable def F_is_integer : Sl → R PyData := fRun 0 B_is_integer
theorem sc_is_integer : FnScope ["value"] ["value"] (defScope s_is_integer) := ⟨rfl, rfl, rfl, by decide +kernel, rfl, by decide +kernel, by decide +kernel⟩
theorem h_is_integer (Y : Txt K mg c) (Z : Tabs T base mg c) (B : BadOk P w K mg base C) : Has P w K mg base 1 "is_integer" s_is_integer ["value"] (spF (PR K T C) 1 F_is_integer) :=
  have nd := sc_is_integer.nd
  has_of Y.s_is_integer sc_is_integer (fun _ _ _ _ _ _ us hl => match us, hl with | [_], _ => rfl) rfl rfl fun f A outer s H E hr => ⟨_,
  (pss_one (ps_ret (pe_and (pe_callB call_isi rfl Y.b_isinstance bt_isinstance (pa_cons (pv 0) (pa_cons (pe_bltn (v := .ty "int") rfl Y.b_int bt_int rfl) pa_nil))) (pe_one (pe_not (pe_callB call_isi rfl Y.b_isinstance bt_isinstance (pa_cons (pv 0) (pa_cons (pe_bltn (v := .ty "bool") rfl Y.b_bool bt_bool rfl) pa_nil)))))))),
  (sim_ret (sim_andV (sim_isi (sim_v 0)) (sim_notV (sim_isi (sim_v 0)))))⟩
/-! need_integer -/
noncomputable def B_need_integer : FS := (fIfS (fOrT (fNotT (fTst (fCallN 1 F_is_integer (faCons (fV 0) faNil)))) (fOrT (fTst (fOp gLt (fV 0) (fV 2))) (fTst (fOp gGt (fV 0) (fV 3))))) (fRaise 0 (fCons (fV 1) fNil)) fNext)
noncomputable def F_need_integer : Sl → R PyData := fRun 0 B_need_integer
theorem sc_need_integer : FnScope ["value", "name", "least", "most"] ["value", "name", "least", "most"] (defScope s_need_integer) := ⟨rfl, rfl, rfl, by decide +kernel, rfl, by decide +kernel, by decide +kernel⟩
theorem h_need_integer (Y : Txt K mg c) (Z : Tabs T base mg c) (B : BadOk P w K mg base C) : Has P w K mg base 3 "need_integer" s_need_integer ["value", "name", "least", "most"] (spF (PR K T C) 4 F_need_integer) :=
  have nd := sc_need_integer.nd
  has_of Y.s_need_integer sc_need_integer (fun _ _ _ _ _ _ us hl => match us, hl with | [_, _, _, _], _ => rfl) rfl rfl fun f A outer s H E hr => ⟨_,
  (pss_one (ps_if (PW.pt (pw_or (pt_not (pt_val (pe_callH (h_is_integer Y Z B) hr (by decide) rfl (passes_call (takes_of rfl rfl rfl rfl) (fun _ _ _ _ h => h)) (pa_cons (pv 0) pa_nil)))) (pw_or (pt_cmpR op_lt (pv 0) (pv 2) (nomark _)) (pw_or1 (pt_cmpR op_gt (pv 0) (pv 3) (nomark _)))))) (pss_one (ps_raise rfl (takes_of rfl rfl rfl rfl) (pmk_bad B hr (by decide) rfl (pa_cons (pv 1) pa_nil)))) pss_nil)),
  (sim_ifS (sim_orT (sim_notT (sim_tstB (sim_call (sim_aCons (sim_v 0) sim_aNil)))) (sim_orT (sim_tst (sim_op v_cmp (sim_v 0) (sim_v 2))) (sim_tst (sim_op v_cmp (sim_v 0) (sim_v 3))))) (sim_raiseO exb_to (sim_cons (sim_v 1) sim_nil)) sim_next)⟩
/-! is_wheel -/
noncomputable def B_is_wheel : FS := (fSeq (fIfS (fOrT (fNotT (fTst (fIsi "tuple" (fV 0)))) (fNotT (fTst (fChain gLe gLe (fC (.int 1)) (fCB gLen (fCons (fV 0) fNil)) (fC (.int 60)))))) (fRet (fC (.bool false))) fNext)
  (fRet (fAllG (fiSeq (fV 0)) 1 (fAndV (fCallN 1 F_is_integer (faCons (fV 1) faNil)) (fOp gLe (fCB gAbs (fCons (fV 1) fNil)) (fC (.int 1000000)))))))
noncomputable def F_is_wheel : Sl → R PyData := fRun 1 B_is_wheel
theorem sc_is_wheel : FnScope ["value", "height"] ["value"] (defScope s_is_wheel) := ⟨rfl, rfl, rfl, by decide +kernel, rfl, by decide +kernel, by decide +kernel⟩
theorem h_is_wheel (Y : Txt K mg c) (Z : Tabs T base mg c) (B : BadOk P w K mg base C) : Has P w K mg base 3 "is_wheel" s_is_wheel ["value"] (spF (PR K T C) 1 F_is_wheel) :=
  have nd := sc_is_wheel.nd
  has_of Y.s_is_wheel sc_is_wheel (fun _ _ _ _ _ _ us hl => match us, hl with | [_], _ => rfl) rfl rfl fun f A outer s H E hr => ⟨_,
  (pss_cons (ps_if (PW.pt (pw_or (pt_not (pt_val (pe_callB call_isi rfl Y.b_isinstance bt_isinstance (pa_cons (pv 0) (pa_cons (pe_bltn (v := .ty "tuple") rfl Y.b_tuple bt_tuple rfl) pa_nil))))) (pw_or1 (pt_not (pt_chain op_le op_le pe_int (pe_callB call_len rfl Y.b_len bt_len (pa_cons (pv 0) pa_nil)) (pe_globI rfl Y.g_MOST_SIZE)))))) (pss_one (ps_ret pe_bl)) pss_nil)
  (pss_one (ps_ret (pe_allH (ix := 1) (k := 1) hr (by decide) rfl Y.b_all Z.is_wheel cx_qual rfl (GX.gs_by (by kernel_rfl)) nd rfl (by decide +kernel : (".0" : Str) ∉ (["value", "height"] : List Str)) (pi_seq (pv 0)) (fun _ _ _ _ _ _ hg => (pe_and (pe_callH (h_is_integer Y Z B) hg (by decide) rfl passL (pa_cons (pv 1) pa_nil)) (pe_one (pe_cmpR op_le (pe_callB call_abs rfl Y.b_abs bt_abs (pa_cons (pv 1) pa_nil)) (pe_globI rfl Y.g_MOST_HEIGHT) (nomark _))))))))),
  (sim_seq (sim_ifS (sim_orT (sim_notT (sim_tstB (sim_isi (sim_v 0)))) (sim_notT (sim_tst (sim_chain v_cmp v_cmp sim_int (sim_cb v_len (sim_cons (sim_v 0) sim_nil)) sim_int)))) (sim_ret sim_bl) sim_next)
  (sim_ret (sim_allG (sim_iSeq (sim_v 0)) (sim_andV (sim_call (sim_aCons (sim_v 1) sim_aNil)) (sim_op v_cmp (sim_cb v_abs (sim_cons (sim_v 1) sim_nil)) sim_int)))))⟩
/-! is_table -/
noncomputable def B_is_table : FS := (fRet (fAndV (fIsi "tuple" (fV 0)) (fAndV (fOp gLe (fCB gLen (fCons (fV 0) fNil)) (fC (.int 6))) (fAllG (fiSeq (fV 0)) 1 (fCallN 1 F_is_wheel (faCons (fV 1) faNil))))))
noncomputable def F_is_table : Sl → R PyData := fRun 1 B_is_table
theorem sc_is_table : FnScope ["value", "wheel"] ["value"] (defScope s_is_table) := ⟨rfl, rfl, rfl, by decide +kernel, rfl, by decide +kernel, by decide +kernel⟩
theorem h_is_table (Y : Txt K mg c) (Z : Tabs T base mg c) (B : BadOk P w K mg base C) : Has P w K mg base 5 "is_table" s_is_table ["value"] (spF (PR K T C) 1 F_is_table) :=
  have nd := sc_is_table.nd
  has_of Y.s_is_table sc_is_table (fun _ _ _ _ _ _ us hl => match us, hl with | [_], _ => rfl) rfl rfl fun f A outer s H E hr => ⟨_,
  (pss_one (ps_ret (pe_and (pe_callB call_isi rfl Y.b_isinstance bt_isinstance (pa_cons (pv 0) (pa_cons (pe_bltn (v := .ty "tuple") rfl Y.b_tuple bt_tuple rfl) pa_nil))) (pe_and (pe_cmpR op_le (pe_callB call_len rfl Y.b_len bt_len (pa_cons (pv 0) pa_nil)) (pe_globI rfl Y.g_MOST_WHEELS) (nomark _)) (pe_one (pe_allH (ix := 1) (k := 3) hr (by decide) rfl Y.b_all Z.is_table cx_qual rfl (GX.gs_by (by kernel_rfl)) nd rfl (by decide +kernel : (".0" : Str) ∉ (["value", "wheel"] : List Str)) (pi_seq (pv 0)) (fun _ _ _ _ _ _ hg => (pe_callH (h_is_wheel Y Z B) hg (by decide) rfl passL (pa_cons (pv 1) pa_nil))))))))),
  (sim_ret (sim_andV (sim_isi (sim_v 0)) (sim_andV (sim_op v_cmp (sim_cb v_len (sim_cons (sim_v 0) sim_nil)) sim_int) (sim_allG (sim_iSeq (sim_v 0)) (sim_call (sim_aCons (sim_v 1) sim_aNil))))))⟩
/-! need_table -/
noncomputable def B_need_table : FS := (fIfS (fNotT (fTst (fCallN 1 F_is_table (faCons (fV 0) faNil)))) (fRaise 0 (fCons (fV 1) fNil)) fNext)
noncomputable def F_need_table : Sl → R PyData := fRun 0 B_need_table
theorem sc_need_table : FnScope ["value", "name"] ["value", "name"] (defScope s_need_table) := ⟨rfl, rfl, rfl, by decide +kernel, rfl, by decide +kernel, by decide +kernel⟩
theorem h_need_table (Y : Txt K mg c) (Z : Tabs T base mg c) (B : BadOk P w K mg base C) : Has P w K mg base 6 "need_table" s_need_table ["value", "name"] (spF (PR K T C) 2 F_need_table) :=
  have nd := sc_need_table.nd
  has_of Y.s_need_table sc_need_table (fun _ _ _ _ _ _ us hl => match us, hl with | [_, _], _ => rfl) rfl rfl fun f A outer s H E hr => ⟨_,
  (pss_one (ps_if (pt_not (pt_val (pe_callH (h_is_table Y Z B) hr (by decide) rfl (passes_call (takes_of rfl rfl rfl rfl) (fun _ _ _ _ h => h)) (pa_cons (pv 0) pa_nil)))) (pss_one (ps_raise rfl (takes_of rfl rfl rfl rfl) (pmk_bad B hr (by decide) rfl (pa_cons (pv 1) pa_nil)))) pss_nil)),
  (sim_ifS (sim_notT (sim_tstB (sim_call (sim_aCons (sim_v 0) sim_aNil)))) (sim_raiseO exb_to (sim_cons (sim_v 1) sim_nil)) sim_next)⟩
/-! common -/
noncomputable def B_common : FS := (fSeq (fWhile (fTst (fOp gGt (fV 1) (fC (.int 0))))
  (fPar 0 1 (fCons (fV 1) (fCons (fOp gMod (fV 0) (fV 1)) fNil))))
  (fRet (fV 0)))
noncomputable def F_common : Sl → R PyData := fRun 0 B_common
theorem sc_common : FnScope ["one", "other"] ["one", "other"] (defScope s_common) := ⟨rfl, rfl, rfl, by decide +kernel, rfl, by decide +kernel, by decide +kernel⟩
theorem h_common (Y : Txt K mg c) (Z : Tabs T base mg c) (B : BadOk P w K mg base C) : Has P w K mg base 1 "common" s_common ["one", "other"] (spF (PR K T C) 2 F_common) :=
  have nd := sc_common.nd
  has_of Y.s_common sc_common (fun _ _ _ _ _ _ us hl => match us, hl with | [_, _], _ => rfl) rfl rfl fun f A outer s H E hr => ⟨_,
  (pss_cons (ps_while (passes_of rfl) (pt_cmpR op_gt (pv 1) pe_int (nomark _))
  (pss_one (ps_par rfl nd (i := 0) (j := 1) rfl rfl (by decide) rfl rfl (pa_cons (pv 1) (pa_cons (pe_op op_modN (pv 0) (pv 1)) pa_nil)) (by rfl))))
  (pss_one (ps_ret (pv 0)))),
  (sim_seq (sim_while (sim_tst (sim_op v_cmp (sim_v 1) sim_int))
  (sim_par (sim_cons (sim_v 1) (sim_cons (sim_op v_mod (sim_v 0) (sim_v 1)) sim_nil))))
  (sim_ret (sim_v 0)))⟩
/-! together -/
noncomputable def B_together : FS := (fRet (fOp gMul (fOp gDiv (fV 0) (fCallN 2 F_common (faCons (fV 0) (faCons (fV 1) faNil)))) (fV 1)))
noncomputable def F_together : Sl → R PyData := fRun 0 B_together
theorem sc_together : FnScope ["one", "other"] ["one", "other"] (defScope s_together) := ⟨rfl, rfl, rfl, by decide +kernel, rfl, by decide +kernel, by decide +kernel⟩
theorem h_together (Y : Txt K mg c) (Z : Tabs T base mg c) (B : BadOk P w K mg base C) : Has P w K mg base 2 "together" s_together ["one", "other"] (spF (PR K T C) 2 F_together) :=
  have nd := sc_together.nd
  has_of Y.s_together sc_together (fun _ _ _ _ _ _ us hl => match us, hl with | [_, _], _ => rfl) rfl rfl fun f A outer s H E hr => ⟨_,
  (pss_one (ps_ret (pe_op op_mulAll (pe_op op_divAll (pv 0) (pe_callH (h_common Y Z B) hr (by decide) rfl (passes_call (takes_of rfl rfl rfl rfl) (fun _ _ _ _ h => h)) (pa_cons (pv 0) (pa_cons (pv 1) pa_nil)))) (pv 1)))),
  (sim_ret (sim_op v_mul (sim_op v_div (sim_v 0) (sim_call (sim_aCons (sim_v 0) (sim_aCons (sim_v 1) sim_aNil)))) (sim_v 1)))⟩
/-! height_of -/
noncomputable def B_height_of : FS := (fRet (fCB gSum (fCons (fL (fComp (fiSeq (fV 0)) (fgN 2) fYes (fOp gIx (fV 2) (fOp gMod (fV 1) (fCB gLen (fCons (fV 2) fNil)))) [2])) fNil)))
noncomputable def F_height_of : Sl → R PyData := fRun 1 B_height_of
theorem sc_height_of : FnScope ["table", "time", "wheel"] ["table", "time"] (defScope s_height_of) := ⟨rfl, rfl, rfl, by decide +kernel, rfl, by decide +kernel, by decide +kernel⟩
theorem h_height_of (Y : Txt K mg c) (Z : Tabs T base mg c) (B : BadOk P w K mg base C) : Has P w K mg base 1 "height_of" s_height_of ["table", "time"] (spF (PR K T C) 2 F_height_of) :=
  have nd := sc_height_of.nd
  has_of Y.s_height_of sc_height_of (fun _ _ _ _ _ _ us hl => match us, hl with | [_, _], _ => rfl) rfl rfl fun f A outer s H E hr => ⟨_,
  (pss_one (ps_ret (pe_callB (cr_sum rfl) rfl Y.b_sum bt_sum (pa_cons (pe_lc (own := [("wheel", 2)]) rfl nd (pi_seq (pv 0)) (blkOk_by (own := [("wheel", 2)]) (N := ["table", "time", "wheel"]) (sc := defScope s_height_of) (by decide +kernel)) (fun _ _ _ _ _ => (pg_name (i := 2) nd rfl (by first | exact Or.inl rfl | exact Or.inr rfl))) (fun _ _ _ _ _ => pts_nil) (fun _ _ _ _ _ => (pe_ix ix_seq (pv 2) (pe_op op_modN (pv 1) (pe_callB call_len rfl Y.b_len bt_len (pa_cons (pv 2) pa_nil))) (fun _ _ => rfl)))) pa_nil)))),
  (sim_ret (sim_cb v_sum (sim_cons (sim_L (sim_comp (sim_iSeq (sim_v 0)) sim_gN sim_yes (sim_op v_ix (sim_v 2) (sim_op v_mod (sim_v 1) (sim_cb v_len (sim_cons (sim_v 2) sim_nil)))))) sim_nil)))⟩
/-! cycle_of -/
noncomputable def B_cycle_of : FS := (fSeq (fSet 1 (fC (.int 1)))
  (fSeq (fFor (fiSeq (fV 0)) (fgN 2)
  (fSet 1 (fCallN 2 F_together (faCons (fV 1) (faCons (fCB gLen (fCons (fV 2) fNil)) faNil)))))
  (fRet (fV 1))))
noncomputable def F_cycle_of : Sl → R PyData := fRun 2 B_cycle_of
theorem sc_cycle_of : FnScope ["table", "found", "wheel"] ["table"] (defScope s_cycle_of) := ⟨rfl, rfl, rfl, by decide +kernel, rfl, by decide +kernel, by decide +kernel⟩
theorem h_cycle_of (Y : Txt K mg c) (Z : Tabs T base mg c) (B : BadOk P w K mg base C) : Has P w K mg base 3 "cycle_of" s_cycle_of ["table"] (spF (PR K T C) 1 F_cycle_of) :=
  have nd := sc_cycle_of.nd
  has_of Y.s_cycle_of sc_cycle_of (fun _ _ _ _ _ _ us hl => match us, hl with | [_], _ => rfl) rfl rfl fun f A outer s H E hr => ⟨_,
  (pss_cons (ps_set (i := 1) nd rfl (by first | exact Or.inl rfl | exact Or.inr rfl) pe_int)
  (pss_cons (ps_for (passes_of rfl) rfl (pi_seq (pv 0)) (pg_name (i := 2) nd rfl (by first | exact Or.inl rfl | exact Or.inr rfl))
  (pss_one (ps_set (i := 1) nd rfl (by first | exact Or.inl rfl | exact Or.inr rfl) (pe_callH (h_together Y Z B) hr (by decide) rfl (passes_call (takes_of rfl rfl rfl rfl) (fun _ _ _ _ h => h)) (pa_cons (pv 1) (pa_cons (pe_callB call_len rfl Y.b_len bt_len (pa_cons (pv 2) pa_nil)) pa_nil))))))
  (pss_one (ps_ret (pv 1))))),
  (sim_seq (sim_set sim_int)
  (sim_seq (sim_for (sim_iSeq (sim_v 0)) sim_gN
  (sim_set (sim_call (sim_aCons (sim_v 1) (sim_aCons (sim_cb v_len (sim_cons (sim_v 2) sim_nil)) sim_aNil)))))
  (sim_ret (sim_v 1))))⟩
/-! need_bar -/
noncomputable def B_need_bar : FS := (fDrop (fCallN 4 F_need_integer (faCons (fV 0) (faCons (fV 1) (faCons (fOp gDif (fC (.int 0)) (fC (.int 10000000))) (faCons (fC (.int 10000000)) faNil))))))
noncomputable def F_need_bar : Sl → R PyData := fRun 0 B_need_bar
theorem sc_need_bar : FnScope ["value", "name"] ["value", "name"] (defScope s_need_bar) := ⟨rfl, rfl, rfl, by decide +kernel, rfl, by decide +kernel, by decide +kernel⟩
theorem h_need_bar (Y : Txt K mg c) (Z : Tabs T base mg c) (B : BadOk P w K mg base C) : Has P w K mg base 4 "need_bar" s_need_bar ["value", "name"] (spF (PR K T C) 2 F_need_bar) :=
  have nd := sc_need_bar.nd
  has_of Y.s_need_bar sc_need_bar (fun _ _ _ _ _ _ us hl => match us, hl with | [_, _], _ => rfl) rfl rfl fun f A outer s H E hr => ⟨_,
  (pss_one (ps_expr (pe_callH (h_need_integer Y Z B) hr (by decide) rfl (passes_call (takes_of rfl rfl rfl rfl) (fun _ _ _ _ h => h)) (pa_cons (pv 0) (pa_cons (pv 1) (pa_cons (pe_op op_sub pe_int (pe_globI rfl Y.g_MOST_BAR)) (pa_cons (pe_globI rfl Y.g_MOST_BAR) pa_nil))))))),
  (sim_drop (sim_call (sim_aCons (sim_v 0) (sim_aCons (sim_v 1) (sim_aCons (sim_op v_sub sim_int sim_int) (sim_aCons sim_int sim_aNil))))))⟩
/-! need_short -/
noncomputable def B_need_short : FS := (fSeq (fDrop (fCallN 2 F_need_table (faCons (fV 0) (faCons (fV 1) faNil))))
  (fIfS (fTst (fOp gGt (fCallN 1 F_cycle_of (faCons (fV 0) faNil)) (fC (.int 5000)))) (fRaise 0 (fCons (fV 1) fNil)) fNext))
noncomputable def F_need_short : Sl → R PyData := fRun 0 B_need_short
theorem sc_need_short : FnScope ["value", "name"] ["value", "name"] (defScope s_need_short) := ⟨rfl, rfl, rfl, by decide +kernel, rfl, by decide +kernel, by decide +kernel⟩
theorem h_need_short (Y : Txt K mg c) (Z : Tabs T base mg c) (B : BadOk P w K mg base C) : Has P w K mg base 7 "need_short" s_need_short ["value", "name"] (spF (PR K T C) 2 F_need_short) :=
  have nd := sc_need_short.nd
  has_of Y.s_need_short sc_need_short (fun _ _ _ _ _ _ us hl => match us, hl with | [_, _], _ => rfl) rfl rfl fun f A outer s H E hr => ⟨_,
  (pss_cons (ps_expr (pe_callH (h_need_table Y Z B) hr (by decide) rfl (passes_call (takes_of rfl rfl rfl rfl) (fun _ _ _ _ h => h)) (pa_cons (pv 0) (pa_cons (pv 1) pa_nil))))
  (pss_one (ps_if (pt_cmpR op_gt (pe_callH (h_cycle_of Y Z B) hr (by decide) rfl (passes_call (takes_of rfl rfl rfl rfl) (fun _ _ _ _ h => h)) (pa_cons (pv 0) pa_nil)) (pe_globI rfl Y.g_MOST_CYCLE) (nomark _)) (pss_one (ps_raise rfl (takes_of rfl rfl rfl rfl) (pmk_bad B hr (by decide) rfl (pa_cons (pv 1) pa_nil)))) pss_nil))),
  (sim_seq (sim_drop (sim_call (sim_aCons (sim_v 0) (sim_aCons (sim_v 1) sim_aNil))))
  (sim_ifS (sim_tst (sim_op v_cmp (sim_call (sim_aCons (sim_v 0) sim_aNil)) sim_int)) (sim_raiseO exb_to (sim_cons (sim_v 1) sim_nil)) sim_next))⟩
/-! over_row -/
noncomputable def B_over_row : FS := (fRet (fL (fComp (fRng1 (fCons (fCallN 1 F_cycle_of (faCons (fV 0) faNil)) fNil)) (fgN 2) fYes (fOp gGe (fCallN 2 F_height_of (faCons (fV 0) (faCons (fV 2) faNil))) (fV 1)) [2])))
noncomputable def F_over_row : Sl → R PyData := fRun 1 B_over_row
theorem sc_over_row : FnScope ["table", "bar", "time"] ["table", "bar"] (defScope s_over_row) := ⟨rfl, rfl, rfl, by decide +kernel, rfl, by decide +kernel, by decide +kernel⟩
theorem h_over_row (Y : Txt K mg c) (Z : Tabs T base mg c) (B : BadOk P w K mg base C) : Has P w K mg base 4 "over_row" s_over_row ["table", "bar"] (spF (PR K T C) 2 F_over_row) :=
  have nd := sc_over_row.nd
  has_of Y.s_over_row sc_over_row (fun _ _ _ _ _ _ us hl => match us, hl with | [_, _], _ => rfl) rfl rfl fun f A outer s H E hr => ⟨_,
  (pss_one (ps_ret (pe_lc (own := [("time", 2)]) rfl nd (pi_range1 rfl Y.b_range (pa_cons (pe_callH (h_cycle_of Y Z B) hr (by decide) rfl (passes_call (takes_of rfl rfl rfl rfl) (fun _ _ _ _ h => h)) (pa_cons (pv 0) pa_nil)) pa_nil)) (blkOk_by (own := [("time", 2)]) (N := ["table", "bar", "time"]) (sc := defScope s_over_row) (by decide +kernel)) (fun _ _ _ _ _ => (pg_name (i := 2) nd rfl (by first | exact Or.inl rfl | exact Or.inr rfl))) (fun _ _ _ _ _ => pts_nil) (fun _ _ _ _ _ => (pe_cmpR op_ge (pe_callH (h_height_of Y Z B) hr (by decide) rfl passL (pa_cons (pv 0) (pa_cons (pv 2) pa_nil))) (pv 1) (nomark _)))))),
  (sim_ret (sim_L (sim_comp (sim_rng1 (sim_cons (sim_call (sim_aCons (sim_v 0) sim_aNil)) sim_nil)) sim_gN sim_yes (sim_op v_cmp (sim_call (sim_aCons (sim_v 0) (sim_aCons (sim_v 2) sim_aNil))) (sim_v 1)))))⟩
/-! is_ship -/
noncomputable def B_is_ship : FS := (fSeq (fIfS (fOrT (fNotT (fTst (fIsi "tuple" (fV 0)))) (fOrT (fTst (fOp gNe (fCB gLen (fCons (fV 0) fNil)) (fC (.int 2)))) (fNotT (fTst (fAllG (fiSeq (fV 0)) 1 (fCallN 1 F_is_integer (faCons (fV 1) faNil))))))) (fRet (fC (.bool false))) fNext)
  (fRet (fAndV (fChain gLe gLe (fC (.int 1)) (fOp gIx (fV 0) (fC (.int 0))) (fC (.int 100))) (fChain gLe gLe (fC (.int 0)) (fOp gIx (fV 0) (fC (.int 1))) (fC (.int 10000))))))
noncomputable def F_is_ship : Sl → R PyData := fRun 1 B_is_ship
theorem sc_is_ship : FnScope ["value", "one"] ["value"] (defScope s_is_ship) := ⟨rfl, rfl, rfl, by decide +kernel, rfl, by decide +kernel, by decide +kernel⟩
theorem h_is_ship (Y : Txt K mg c) (Z : Tabs T base mg c) (B : BadOk P w K mg base C) : Has P w K mg base 3 "is_ship" s_is_ship ["value"] (spF (PR K T C) 1 F_is_ship) :=
  have nd := sc_is_ship.nd
  has_of Y.s_is_ship sc_is_ship (fun _ _ _ _ _ _ us hl => match us, hl with | [_], _ => rfl) rfl rfl fun f A outer s H E hr => ⟨_,
  (pss_cons (ps_if (PW.pt (pw_or (pt_not (pt_val (pe_callB call_isi rfl Y.b_isinstance bt_isinstance (pa_cons (pv 0) (pa_cons (pe_bltn (v := .ty "tuple") rfl Y.b_tuple bt_tuple rfl) pa_nil))))) (pw_or (pt_cmpR (op_neD hr.units) (pe_callB call_len rfl Y.b_len bt_len (pa_cons (pv 0) pa_nil)) pe_int (nomark _)) (pw_or1 (pt_not (pt_val (pe_allH (ix := 1) (k := 1) hr (by decide) rfl Y.b_all Z.is_ship cx_qual rfl (GX.gs_by (by kernel_rfl)) nd rfl (by decide +kernel : (".0" : Str) ∉ (["value", "one"] : List Str)) (pi_seq (pv 0)) (fun _ _ _ _ _ _ hg => (pe_callH (h_is_integer Y Z B) hg (by decide) rfl passL (pa_cons (pv 1) pa_nil)))))))))) (pss_one (ps_ret pe_bl)) pss_nil)
  (pss_one (ps_ret (pe_and (pe_chain op_le op_le pe_int (pe_ix ix_seq (pv 0) pe_int (fun _ _ => rfl)) (pe_globI rfl Y.g_MOST_LENGTH)) (pe_one (pe_chain op_le op_le pe_int (pe_ix ix_seq (pv 0) pe_int (fun _ _ => rfl)) (pe_globI rfl Y.g_MOST_ARRIVAL))))))),
  (sim_seq (sim_ifS (sim_orT (sim_notT (sim_tstB (sim_isi (sim_v 0)))) (sim_orT (sim_tst (sim_op v_ne (sim_cb v_len (sim_cons (sim_v 0) sim_nil)) sim_int)) (sim_notT (sim_tstB (sim_allG (sim_iSeq (sim_v 0)) (sim_call (sim_aCons (sim_v 1) sim_aNil))))))) (sim_ret sim_bl) sim_next)
  (sim_ret (sim_andV (sim_chain v_cmp v_cmp sim_int (sim_op v_ix (sim_v 0) sim_int) sim_int) (sim_chain v_cmp v_cmp sim_int (sim_op v_ix (sim_v 0) sim_int) sim_int))))⟩
/-! are_ships -/
noncomputable def B_are_ships : FS := (fRet (fAndV (fIsi "tuple" (fV 0)) (fAndV (fOp gLe (fCB gLen (fCons (fV 0) fNil)) (fC (.int 5))) (fAllG (fiSeq (fV 0)) 1 (fCallN 1 F_is_ship (faCons (fV 1) faNil))))))
noncomputable def F_are_ships : Sl → R PyData := fRun 1 B_are_ships
theorem sc_are_ships : FnScope ["value", "one"] ["value"] (defScope s_are_ships) := ⟨rfl, rfl, rfl, by decide +kernel, rfl, by decide +kernel, by decide +kernel⟩
theorem h_are_ships (Y : Txt K mg c) (Z : Tabs T base mg c) (B : BadOk P w K mg base C) : Has P w K mg base 5 "are_ships" s_are_ships ["value"] (spF (PR K T C) 1 F_are_ships) :=
  have nd := sc_are_ships.nd
  has_of Y.s_are_ships sc_are_ships (fun _ _ _ _ _ _ us hl => match us, hl with | [_], _ => rfl) rfl rfl fun f A outer s H E hr => ⟨_,
  (pss_one (ps_ret (pe_and (pe_callB call_isi rfl Y.b_isinstance bt_isinstance (pa_cons (pv 0) (pa_cons (pe_bltn (v := .ty "tuple") rfl Y.b_tuple bt_tuple rfl) pa_nil))) (pe_and (pe_cmpR op_le (pe_callB call_len rfl Y.b_len bt_len (pa_cons (pv 0) pa_nil)) (pe_globI rfl Y.g_MOST_SHIPS) (nomark _)) (pe_one (pe_allH (ix := 1) (k := 3) hr (by decide) rfl Y.b_all Z.are_ships cx_qual rfl (GX.gs_by (by kernel_rfl)) nd rfl (by decide +kernel : (".0" : Str) ∉ (["value", "one"] : List Str)) (pi_seq (pv 0)) (fun _ _ _ _ _ _ hg => (pe_callH (h_is_ship Y Z B) hg (by decide) rfl passL (pa_cons (pv 1) pa_nil))))))))),
  (sim_ret (sim_andV (sim_isi (sim_v 0)) (sim_andV (sim_op v_cmp (sim_cb v_len (sim_cons (sim_v 0) sim_nil)) sim_int) (sim_allG (sim_iSeq (sim_v 0)) (sim_call (sim_aCons (sim_v 1) sim_aNil))))))⟩
/-! need_dock -/
noncomputable def B_need_dock : FS := (fSeq (fDrop (fCallN 2 F_need_short (faCons (fV 0) (faCons (fC (.str "table")) faNil))))
  (fSeq (fDrop (fCallN 2 F_need_bar (faCons (fV 1) (faCons (fC (.str "bar")) faNil))))
  (fIfS (fNotT (fTst (fCallN 1 F_are_ships (faCons (fV 2) faNil)))) (fRaise 0 (fCons (fC (.str "ships")) fNil)) fNext)))
noncomputable def F_need_dock : Sl → R PyData := fRun 0 B_need_dock
theorem sc_need_dock : FnScope ["table", "bar", "ships"] ["table", "bar", "ships"] (defScope s_need_dock) := ⟨rfl, rfl, rfl, by decide +kernel, rfl, by decide +kernel, by decide +kernel⟩
theorem h_need_dock (Y : Txt K mg c) (Z : Tabs T base mg c) (B : BadOk P w K mg base C) : Has P w K mg base 8 "need_dock" s_need_dock ["table", "bar", "ships"] (spF (PR K T C) 3 F_need_dock) :=
  have nd := sc_need_dock.nd
  has_of Y.s_need_dock sc_need_dock (fun _ _ _ _ _ _ us hl => match us, hl with | [_, _, _], _ => rfl) rfl rfl fun f A outer s H E hr => ⟨_,
  (pss_cons (ps_expr (pe_callH (h_need_short Y Z B) hr (by decide) rfl (passes_call (takes_of rfl rfl rfl rfl) (fun _ _ _ _ h => h)) (pa_cons (pv 0) (pa_cons pe_str pa_nil))))
  (pss_cons (ps_expr (pe_callH (h_need_bar Y Z B) hr (by decide) rfl (passes_call (takes_of rfl rfl rfl rfl) (fun _ _ _ _ h => h)) (pa_cons (pv 1) (pa_cons pe_str pa_nil))))
  (pss_one (ps_if (pt_not (pt_val (pe_callH (h_are_ships Y Z B) hr (by decide) rfl (passes_call (takes_of rfl rfl rfl rfl) (fun _ _ _ _ h => h)) (pa_cons (pv 2) pa_nil)))) (pss_one (ps_raise rfl (takes_of rfl rfl rfl rfl) (pmk_bad B hr (by decide) rfl (pa_cons pe_str pa_nil)))) pss_nil)))),
  (sim_seq (sim_drop (sim_call (sim_aCons (sim_v 0) (sim_aCons sim_str sim_aNil))))
  (sim_seq (sim_drop (sim_call (sim_aCons (sim_v 1) (sim_aCons sim_str sim_aNil))))
  (sim_ifS (sim_notT (sim_tstB (sim_call (sim_aCons (sim_v 2) sim_aNil)))) (sim_raiseO exb_to (sim_cons sim_str sim_nil)) sim_next)))⟩
/-! runs_on -/
noncomputable def B_runs_on : FS := (fSeq (fIfS (fTst (fOp (gIn true) (fC (.bool false)) (fV 0))) (fRet (fC .none)) fNext)
  (fSeq (fSet 1 (fCB gLen (fCons (fV 0) fNil)))
  (fSeq (fOwn 2 (fRepF (fL (fLst (fCons (fC (.int 0)) fNil))) (fV 1)))
  (fSeq (fSet 3 (fC (.int 0)))
  (fSeq (fFor (fRng3 (fCons (fOp gDif (fOp gMul (fC (.int 2)) (fV 1)) (fC (.int 1))) (fCons (fUn gNeg (fC (.int 1))) (fCons (fUn gNeg (fC (.int 1))) fNil)))) (fgN 4)
  (fSeq (fSet 3 (fIf (fTst (fOp gIx (fV 0) (fOp gMod (fV 4) (fV 1)))) (fOp gAdd (fV 3) (fC (.int 1))) (fC (.int 0))))
  (fSetI 2 (fOp gMod (fV 4) (fV 1)) (fV 3))))
  (fRet (fV 2)))))))
noncomputable def F_runs_on : Sl → R PyData := fRun 4 B_runs_on
theorem sc_runs_on : FnScope ["row", "size", "found", "run", "at"] ["row"] (defScope s_runs_on) := ⟨rfl, rfl, rfl, by decide +kernel, rfl, by decide +kernel, by decide +kernel⟩
theorem h_runs_on (Y : Txt K mg c) (Z : Tabs T base mg c) (B : BadOk P w K mg base C) : Has P w K mg base 1 "runs_on" s_runs_on ["row"] (spF (PR K T C) 1 F_runs_on) :=
  have nd := sc_runs_on.nd
  has_of Y.s_runs_on sc_runs_on (fun _ _ _ _ _ _ us hl => match us, hl with | [_], _ => rfl) rfl rfl fun f A outer s H E hr => ⟨_,
  (pss_cons (ps_if (pt_cmpR op_notInAll pe_bl (pv 0) (by rfl)) (pss_one (ps_ret pe_non)) pss_nil)
  (pss_cons (ps_set (i := 1) nd rfl (by first | exact Or.inl rfl | exact Or.inr rfl) (pe_callB call_len rfl Y.b_len bt_len (pa_cons (pv 0) pa_nil)))
  (pss_cons (ps_set (i := 2) nd rfl (by first | exact Or.inl rfl | exact Or.inr rfl) (pe_op op_mulAll (pe_lst (pa_cons pe_int pa_nil)) (pv 1)))
  (pss_cons (ps_set (i := 3) nd rfl (by first | exact Or.inl rfl | exact Or.inr rfl) pe_int)
  (pss_cons (ps_for (passes_of rfl) rfl (pi_range3 rfl Y.b_range (pa_cons (pe_op op_sub (pe_op op_mulAll pe_int (pv 1)) pe_int) (pa_cons (pe_un un_neg pe_int) (pa_cons (pe_un un_neg pe_int) pa_nil)))) (pg_name (i := 4) nd rfl (by first | exact Or.inl rfl | exact Or.inr rfl))
  (pss_cons (ps_set (i := 3) nd rfl (by first | exact Or.inl rfl | exact Or.inr rfl) (pe_ifExp (pt_val (pe_ix ix_seq (pv 0) (pe_op op_modN (pv 4) (pv 1)) (fun _ _ => rfl))) (pe_op op_addAll (pv 3) pe_int) pe_int))
  (pss_one (ps_asg (pv 3) (pg_sub (pv 2) (pe_op op_modN (pv 4) (pv 1)) set_list)))))
  (pss_one (ps_ret (pv 2)))))))),
  (sim_seq (sim_ifS (sim_tst (sim_op v_notIn sim_bl (sim_v 0))) (sim_ret sim_non) sim_next)
  (sim_seq (sim_set (sim_cb v_len (sim_cons (sim_v 0) sim_nil)))
  (sim_seq (sim_own (sim_repF (sim_L (sim_lst (sim_cons sim_int sim_nil))) (sim_v 1)))
  (sim_seq (sim_set sim_int)
  (sim_seq (sim_for (sim_rng3 (sim_cons (sim_op v_sub (sim_op v_mul sim_int (sim_v 1)) sim_int) (sim_cons (sim_un v_neg sim_int) (sim_cons (sim_un v_neg sim_int) sim_nil)))) sim_gN
  (sim_seq (sim_set (sim_if (sim_tstB (sim_op v_ix (sim_v 0) (sim_op v_mod (sim_v 4) (sim_v 1)))) (sim_op v_add (sim_v 3) sim_int) sim_int))
  (sim_setI (sim_op v_mod (sim_v 4) (sim_v 1)) (sim_v 3))))
  (sim_ret (sim_v 2)))))))⟩
/-! first_start -/
noncomputable def B_first_start : FS := (fSeq (fIfS (fTst (fOp gIsN (fV 0) (fC .none))) (fRet (fV 2)) fNext)
  (fSeq (fFor (fRng2 (fCons (fV 2) (fCons (fOp gAdd (fV 2) (fCB gLen (fCons (fV 0) fNil))) fNil))) (fgN 3)
  (fIfS (fTst (fOp gGe (fOp gIx (fV 0) (fOp gMod (fV 3) (fCB gLen (fCons (fV 0) fNil)))) (fV 1))) (fRet (fV 3)) fNext))
  (fRet (fC .none))))
noncomputable def F_first_start : Sl → R PyData := fRun 1 B_first_start
theorem sc_first_start : FnScope ["runs", "length", "time", "later"] ["runs", "length", "time"] (defScope s_first_start) := ⟨rfl, rfl, rfl, by decide +kernel, rfl, by decide +kernel, by decide +kernel⟩
theorem h_first_start (Y : Txt K mg c) (Z : Tabs T base mg c) (B : BadOk P w K mg base C) : Has P w K mg base 1 "first_start" s_first_start ["runs", "length", "time"] (spF (PR K T C) 3 F_first_start) :=
  have nd := sc_first_start.nd
  has_of Y.s_first_start sc_first_start (fun _ _ _ _ _ _ us hl => match us, hl with | [_, _, _], _ => rfl) rfl rfl fun f A outer s H E hr => ⟨_,
  (pss_cons (ps_if (pt_cmpR op_isN (pv 0) pe_non (nomark _)) (pss_one (ps_ret (pv 2))) pss_nil)
  (pss_cons (ps_for (passes_of rfl) rfl (pi_range2 rfl Y.b_range (pa_cons (pv 2) (pa_cons (pe_op op_addAll (pv 2) (pe_callB call_len rfl Y.b_len bt_len (pa_cons (pv 0) pa_nil))) pa_nil))) (pg_name (i := 3) nd rfl (by first | exact Or.inl rfl | exact Or.inr rfl))
  (pss_one (ps_if (pt_cmpR op_ge (pe_ix ix_seq (pv 0) (pe_op op_modN (pv 3) (pe_callB call_len rfl Y.b_len bt_len (pa_cons (pv 0) pa_nil))) (fun _ _ => rfl)) (pv 1) (nomark _)) (pss_one (ps_ret (pv 3))) pss_nil)))
  (pss_one (ps_ret pe_non)))),
  (sim_seq (sim_ifS (sim_tst (sim_op v_isN (sim_v 0) sim_non)) (sim_ret (sim_v 2)) sim_next)
  (sim_seq (sim_for (sim_rng2 (sim_cons (sim_v 2) (sim_cons (sim_op v_add (sim_v 2) (sim_cb v_len (sim_cons (sim_v 0) sim_nil))) sim_nil))) sim_gN
  (sim_ifS (sim_tst (sim_op v_cmp (sim_op v_ix (sim_v 0) (sim_op v_mod (sim_v 3) (sim_cb v_len (sim_cons (sim_v 0) sim_nil)))) (sim_v 1))) (sim_ret (sim_v 3)) sim_next))
  (sim_ret sim_non)))⟩
/-! starts_of -/
noncomputable def B_starts_of : FS := (fSeq (fNewK 3)
  (fSeq (fSet 4 (fC (.int 0)))
  (fSeq (fFor (fiSeq (fV 2)) (fgN 5)
  (fSeq (fAsg (fOp gIx (fV 1) (fV 5)) (fgTup (fgCons (fgN 6) (fgCons (fgN 7) fgNil)) 2))
  (fSeq (fSet 8 (fCallN 3 F_first_start (faCons (fV 0) (faCons (fV 6) (faCons (fCB gMax2 (fCons (fV 4) (fCons (fV 7) fNil))) faNil)))))
  (fSeq (fIfS (fTst (fOp gIsN (fV 8) (fC .none))) (fRet (fC .none)) fNext)
  (fSeq (fDPut 3 (fV 5) (fV 8))
  (fSet 4 (fOp gAdd (fV 8) (fV 6))))))))
  (fRet (fCB gTuple (fCons (fL (fComp (fRng1 (fCons (fCB gLen (fCons (fV 1) fNil)) fNil)) (fgN 5) fYes (fDGet 3 (fV 5)) [5])) fNil))))))
noncomputable def F_starts_of : Sl → R PyData := fRun 6 B_starts_of
theorem sc_starts_of : FnScope ["runs", "ships", "order", "found", "free", "at", "length", "arrival", "start"] ["runs", "ships", "order"] (defScope s_starts_of) := ⟨rfl, rfl, rfl, by decide +kernel, rfl, by decide +kernel, by decide +kernel⟩
theorem h_starts_of (Y : Txt K mg c) (Z : Tabs T base mg c) (B : BadOk P w K mg base C) : Has P w K mg base 2 "starts_of" s_starts_of ["runs", "ships", "order"] (spF (PR K T C) 3 F_starts_of) :=
  have nd := sc_starts_of.nd
  has_of Y.s_starts_of sc_starts_of (fun _ _ _ _ _ _ us hl => match us, hl with | [_, _, _], _ => rfl) rfl rfl fun f A outer s H E hr => ⟨_,
  (pss_cons (ps_set (i := 3) nd rfl (by first | exact Or.inl rfl | exact Or.inr rfl) pe_dnewK)
  (pss_cons (ps_set (i := 4) nd rfl (by first | exact Or.inl rfl | exact Or.inr rfl) pe_int)
  (pss_cons (ps_for (passes_of rfl) rfl (pi_seq (pv 2)) (pg_name (i := 5) nd rfl (by first | exact Or.inl rfl | exact Or.inr rfl))
  (pss_cons (ps_asg (pe_ix ix_seq (pv 1) (pv 5) (fun _ _ => rfl)) (pg_tup rfl (pgs_cons (pg_name (i := 6) nd rfl (by first | exact Or.inl rfl | exact Or.inr rfl)) (pgs_cons (pg_name (i := 7) nd rfl (by first | exact Or.inl rfl | exact Or.inr rfl)) pgs_nil))))
  (pss_cons (ps_set (i := 8) nd rfl (by first | exact Or.inl rfl | exact Or.inr rfl) (pe_callH (h_first_start Y Z B) hr (by decide) rfl (passes_call (takes_of rfl rfl rfl rfl) (fun _ _ _ _ h => h)) (pa_cons (pv 0) (pa_cons (pv 6) (pa_cons (pe_callB (call_max2 rfl) rfl Y.b_max bt_max (pa_cons (pv 4) (pa_cons (pv 7) pa_nil))) pa_nil)))))
  (pss_cons (ps_if (pt_cmpR op_isN (pv 8) pe_non (nomark _)) (pss_one (ps_ret pe_non)) pss_nil)
  (pss_cons (ps_dput (hu_of hr) (pv 3) (pv 5) (pv 8) rfl)
  (pss_one (ps_set (i := 4) nd rfl (by first | exact Or.inl rfl | exact Or.inr rfl) (pe_op op_addAll (pv 8) (pv 6)))))))))
  (pss_one (ps_ret (pe_callTy call_tuple_of rfl Y.b_tuple bt_tuple (pa_cons (pe_lc (own := [("at", 5)]) rfl nd (pi_range1 rfl Y.b_range (pa_cons (pe_callB call_len rfl Y.b_len bt_len (pa_cons (pv 1) pa_nil)) pa_nil)) (blkOk_by (own := [("at", 5)]) (N := ["runs", "ships", "order", "found", "free", "at", "length", "arrival", "start"]) (sc := defScope s_starts_of) (by decide +kernel)) (fun _ _ _ _ _ => (pg_name (i := 5) nd rfl (by first | exact Or.inl rfl | exact Or.inr rfl))) (fun _ _ _ _ _ => pts_nil) (fun _ _ _ _ _ => (pe_dget (hu_of hr) (pv 3) (pv 5) (fun _ _ => rfl)))) pa_nil))))))),
  (sim_seq sim_newK
  (sim_seq (sim_set sim_int)
  (sim_seq (sim_for (sim_iSeq (sim_v 2)) sim_gN
  (sim_seq (sim_asg (sim_op v_ix (sim_v 1) (sim_v 5)) (sim_gTup (sim_gCons sim_gN (sim_gCons sim_gN sim_gNil))))
  (sim_seq (sim_set (sim_call (sim_aCons (sim_v 0) (sim_aCons (sim_v 6) (sim_aCons (sim_cb v_max2 (sim_cons (sim_v 4) (sim_cons (sim_v 7) sim_nil))) sim_aNil)))))
  (sim_seq (sim_ifS (sim_tst (sim_op v_isN (sim_v 8) sim_non)) (sim_ret sim_non) sim_next)
  (sim_seq (sim_dput (sim_v 5) (sim_v 8))
  (sim_set (sim_op v_add (sim_v 8) (sim_v 6))))))))
  (sim_ret (sim_cb v_tuple (sim_cons (sim_L (sim_comp (sim_rng1 (sim_cons (sim_cb v_len (sim_cons (sim_v 1) sim_nil)) sim_nil)) sim_gN sim_yes (sim_dget (sim_v 5)))) sim_nil))))))⟩
/-! starts -/
noncomputable def B_starts : FS := (fSeq (fDrop (fCallN 3 F_need_dock (faCons (fV 0) (faCons (fV 1) (faCons (fV 2) faNil)))))
  (fSeq (fIfS (fOrT (fNotT (fTst (fIsi "tuple" (fV 3)))) (fNotT (fTst (fAllG (fiSeq (fV 3)) 4 (fCallN 1 F_is_integer (faCons (fV 4) faNil)))))) (fRaise 0 (fCons (fC (.str "order")) fNil)) fNext)
  (fSeq (fIfS (fTst (fOp gNe (fL (fSortedTI (fCons (fV 3) fNil))) (fL (fLstRg (fCB gLen (fCons (fV 2) fNil)))))) (fRaise 0 (fCons (fC (.str "order")) fNil)) fNext)
  (fRet (fCallN 3 F_starts_of (faCons (fCallN 1 F_runs_on (faCons (fCallN 2 F_over_row (faCons (fV 0) (faCons (fV 1) faNil))) faNil)) (faCons (fV 2) (faCons (fV 3) faNil))))))))
noncomputable def F_starts : Sl → R PyData := fRun 1 B_starts
theorem sc_starts : FnScope ["table", "bar", "ships", "order", "at"] ["table", "bar", "ships", "order"] (defScope s_starts) := ⟨rfl, rfl, rfl, by decide +kernel, rfl, by decide +kernel, by decide +kernel⟩
theorem h_starts (Y : Txt K mg c) (Z : Tabs T base mg c) (B : BadOk P w K mg base C) : Has P w K mg base 9 "starts" s_starts ["table", "bar", "ships", "order"] (spF (PR K T C) 4 F_starts) :=
  have nd := sc_starts.nd
  has_of Y.s_starts sc_starts (fun _ _ _ _ _ _ us hl => match us, hl with | [_, _, _, _], _ => rfl) rfl rfl fun f A outer s H E hr => ⟨_,
  (pss_cons (ps_expr (pe_callH (h_need_dock Y Z B) hr (by decide) rfl (passes_call (takes_of rfl rfl rfl rfl) (fun _ _ _ _ h => h)) (pa_cons (pv 0) (pa_cons (pv 1) (pa_cons (pv 2) pa_nil)))))
  (pss_cons (ps_if (PW.pt (pw_or (pt_not (pt_val (pe_callB call_isi rfl Y.b_isinstance bt_isinstance (pa_cons (pv 3) (pa_cons (pe_bltn (v := .ty "tuple") rfl Y.b_tuple bt_tuple rfl) pa_nil))))) (pw_or1 (pt_not (pt_val (pe_allH (ix := 4) (k := 1) hr (by decide) rfl Y.b_all Z.starts cx_qual rfl (GX.gs_by (by kernel_rfl)) nd rfl (by decide +kernel : (".0" : Str) ∉ (["table", "bar", "ships", "order", "at"] : List Str)) (pi_seq (pv 3)) (fun _ _ _ _ _ _ hg => (pe_callH (h_is_integer Y Z B) hg (by decide) rfl passL (pa_cons (pv 4) pa_nil))))))))) (pss_one (ps_raise rfl (takes_of rfl rfl rfl rfl) (pmk_bad B hr (by decide) rfl (pa_cons pe_str pa_nil)))) pss_nil)
  (pss_cons (ps_if (pt_cmpR (op_neD hr.units) (pe_callB cr_sortedTI rfl Y.b_sorted bt_sorted (pa_cons (pv 3) pa_nil)) (pe_listRg rfl rfl Y.b_list (prg_1 rfl Y.b_range (pe_callB call_len rfl Y.b_len bt_len (pa_cons (pv 2) pa_nil)))) (nomark _)) (pss_one (ps_raise rfl (takes_of rfl rfl rfl rfl) (pmk_bad B hr (by decide) rfl (pa_cons pe_str pa_nil)))) pss_nil)
  (pss_one (ps_ret (pe_callH (h_starts_of Y Z B) hr (by decide) rfl (passes_call (takes_of rfl rfl rfl rfl) (fun _ _ _ _ h => h)) (pa_cons (pe_callH (h_runs_on Y Z B) hr (by decide) rfl (passes_call (takes_of rfl rfl rfl rfl) (fun _ _ _ _ h => h)) (pa_cons (pe_callH (h_over_row Y Z B) hr (by decide) rfl (passes_call (takes_of rfl rfl rfl rfl) (fun _ _ _ _ h => h)) (pa_cons (pv 0) (pa_cons (pv 1) pa_nil))) pa_nil)) (pa_cons (pv 2) (pa_cons (pv 3) pa_nil))))))))),
  (sim_seq (sim_drop (sim_call (sim_aCons (sim_v 0) (sim_aCons (sim_v 1) (sim_aCons (sim_v 2) sim_aNil)))))
  (sim_seq (sim_ifS (sim_orT (sim_notT (sim_tstB (sim_isi (sim_v 3)))) (sim_notT (sim_tstB (sim_allG (sim_iSeq (sim_v 3)) (sim_call (sim_aCons (sim_v 4) sim_aNil)))))) (sim_raiseO exb_to (sim_cons sim_str sim_nil)) sim_next)
  (sim_seq (sim_ifS (sim_tst (sim_op v_ne (sim_L (sim_sortedTI (sim_cons (sim_v 3) sim_nil))) (sim_L (sim_lstRg (sim_cb v_len (sim_cons (sim_v 2) sim_nil)))))) (sim_raiseO exb_to (sim_cons sim_str sim_nil)) sim_next)
  (sim_ret (sim_call (sim_aCons (sim_call (sim_aCons (sim_call (sim_aCons (sim_v 0) (sim_aCons (sim_v 1) sim_aNil))) sim_aNil)) (sim_aCons (sim_v 2) (sim_aCons (sim_v 3) sim_aNil))))))))⟩
/-! orders -/
noncomputable def B_orders : FS := (fSeq (fSet 1 (fL (fLst (fCons (fTup fNil) fNil))))
  (fSeq (fFor (fRng1 (fCons (fV 0) fNil)) (fgN 2)
  (fSeq (fOwn 3 (fLst fNil))
  (fSeq (fFor (fiSeq (fV 1)) (fgN 4)
  (fExt 3 (fL (fComp (fRng1 (fCons (fV 0) fNil)) (fgN 5) (fTst (fOp (gIn true) (fV 5) (fV 4))) (fOp gAdd (fV 4) (fTup (fCons (fV 5) fNil))) [5]))))
  (fSet 1 (fV 3)))))
  (fRet (fV 1))))
noncomputable def F_orders : Sl → R PyData := fRun 5 B_orders
theorem sc_orders : FnScope ["many", "rows", "turn", "longer", "row", "one"] ["many"] (defScope s_orders) := ⟨rfl, rfl, rfl, by decide +kernel, rfl, by decide +kernel, by decide +kernel⟩
theorem h_orders (Y : Txt K mg c) (Z : Tabs T base mg c) (B : BadOk P w K mg base C) : Has P w K mg base 1 "orders" s_orders ["many"] (spF (PR K T C) 1 F_orders) :=
  have nd := sc_orders.nd
  has_of Y.s_orders sc_orders (fun _ _ _ _ _ _ us hl => match us, hl with | [_], _ => rfl) rfl rfl fun f A outer s H E hr => ⟨_,
  (pss_cons (ps_set (i := 1) nd rfl (by first | exact Or.inl rfl | exact Or.inr rfl) (pe_lst (pa_cons (pe_tup pa_nil) pa_nil)))
  (pss_cons (ps_for (passes_of rfl) rfl (pi_range1 rfl Y.b_range (pa_cons (pv 0) pa_nil)) (pg_name (i := 2) nd rfl (by first | exact Or.inl rfl | exact Or.inr rfl))
  (pss_cons (ps_set (i := 3) nd rfl (by first | exact Or.inl rfl | exact Or.inr rfl) (pe_lst pa_nil))
  (pss_cons (ps_for (passes_of rfl) rfl (pi_seq (pv 1)) (pg_name (i := 4) nd rfl (by first | exact Or.inl rfl | exact Or.inr rfl))
  (pss_one (ps_expr (pe_bm PySem.F.plainAttrs_list PySem.F.slot_list_extend PySem.F.type_list_extend mt_extend (pv 3) (pa_cons (pe_lc (own := [("one", 5)]) rfl nd (pi_range1 rfl Y.b_range (pa_cons (pv 0) pa_nil)) (blkOk_by (own := [("one", 5)]) (N := ["many", "rows", "turn", "longer", "row", "one"]) (sc := defScope s_orders) (by decide +kernel)) (fun _ _ _ _ _ => (pg_name (i := 5) nd rfl (by first | exact Or.inl rfl | exact Or.inr rfl))) (fun _ _ _ _ _ => (pts_one (pt_cmpR op_notInAll (pv 5) (pv 4) (by rfl)))) (fun _ _ _ _ _ => (pe_op op_addAll (pv 4) (pe_tup (pa_cons (pv 5) pa_nil))))) pa_nil)))))
  (pss_one (ps_set (i := 1) nd rfl (by first | exact Or.inl rfl | exact Or.inr rfl) (pv 3))))))
  (pss_one (ps_ret (pv 1))))),
  (sim_seq (sim_set (sim_L (sim_lst (sim_cons (sim_tup sim_nil) sim_nil))))
  (sim_seq (sim_for (sim_rng1 (sim_cons (sim_v 0) sim_nil)) sim_gN
  (sim_seq (sim_own (sim_lst sim_nil))
  (sim_seq (sim_for (sim_iSeq (sim_v 1)) sim_gN
  (sim_ext (sim_L (sim_comp (sim_rng1 (sim_cons (sim_v 0) sim_nil)) sim_gN (sim_tst (sim_op v_notIn (sim_v 5) (sim_v 4))) (sim_op v_add (sim_v 4) (sim_tup (sim_cons (sim_v 5) sim_nil)))))))
  (sim_set (sim_v 3)))))
  (sim_ret (sim_v 1))))⟩
/-! end_of -/
noncomputable def B_end_of : FS := (fRet (fCB gMax (fCons (fOp gAdd (fL (fLst (fCons (fC (.int 0)) fNil))) (fL (fComp (fZip (fCons (fV 1) (fCons (fV 0) fNil))) (fgTup (fgCons (fgN 2) (fgCons (fgN 3) fgNil)) 2) fYes (fOp gAdd (fV 2) (fOp gIx (fV 3) (fC (.int 0)))) [2, 3]))) fNil)))
noncomputable def F_end_of : Sl → R PyData := fRun 2 B_end_of
theorem sc_end_of : FnScope ["ships", "begun", "start", "ship"] ["ships", "begun"] (defScope s_end_of) := ⟨rfl, rfl, rfl, by decide +kernel, rfl, by decide +kernel, by decide +kernel⟩
theorem h_end_of (Y : Txt K mg c) (Z : Tabs T base mg c) (B : BadOk P w K mg base C) : Has P w K mg base 1 "end_of" s_end_of ["ships", "begun"] (spF (PR K T C) 2 F_end_of) :=
  have nd := sc_end_of.nd
  has_of Y.s_end_of sc_end_of (fun _ _ _ _ _ _ us hl => match us, hl with | [_, _], _ => rfl) rfl rfl fun f A outer s H E hr => ⟨_,
  (pss_one (ps_ret (pe_callB (cr_max rfl) rfl Y.b_max bt_max (pa_cons (pe_op op_addAll (pe_lst (pa_cons pe_int pa_nil)) (pe_lc (own := [("start", 2), ("ship", 3)]) rfl nd (RZ.pi_zipA rfl Y.b_zip (pa_cons (pv 1) (pa_cons (pv 0) pa_nil))) (blkOk_by (own := [("start", 2), ("ship", 3)]) (N := ["ships", "begun", "start", "ship"]) (sc := defScope s_end_of) (by decide +kernel)) (fun _ _ _ _ _ => (pg_tup rfl (pgs_cons (pg_name (i := 2) nd rfl (by first | exact Or.inl rfl | exact Or.inr rfl)) (pgs_cons (pg_name (i := 3) nd rfl (by first | exact Or.inl rfl | exact Or.inr rfl)) pgs_nil)))) (fun _ _ _ _ _ => pts_nil) (fun _ _ _ _ _ => (pe_op op_addAll (pv 2) (pe_ix ix_seq (pv 3) pe_int (fun _ _ => rfl)))))) pa_nil)))),
  (sim_ret (sim_cb v_max (sim_cons (sim_op v_add (sim_L (sim_lst (sim_cons sim_int sim_nil))) (sim_L (sim_comp (sim_zip (sim_cons (sim_v 1) (sim_cons (sim_v 0) sim_nil))) (sim_gTup (sim_gCons sim_gN (sim_gCons sim_gN sim_gNil))) sim_yes (sim_op v_add (sim_v 2) (sim_op v_ix (sim_v 3) sim_int))))) sim_nil)))⟩
/-! best_order -/
noncomputable def B_best_order : FS := (fSeq (fDrop (fCallN 3 F_need_dock (faCons (fV 0) (faCons (fV 1) (faCons (fV 2) faNil)))))
  (fSeq (fSet 3 (fCallN 1 F_runs_on (faCons (fCallN 2 F_over_row (faCons (fV 0) (faCons (fV 1) faNil))) faNil)))
  (fSeq (fSet 4 (fC .none))
  (fSeq (fFor (fiSeq (fCallN 1 F_orders (faCons (fCB gLen (fCons (fV 2) fNil)) faNil))) (fgN 5)
  (fSeq (fSet 6 (fCallN 3 F_starts_of (faCons (fV 3) (faCons (fV 2) (faCons (fV 5) faNil)))))
  (fIfS (fTst (fOp gNotN (fV 6) (fC .none))) (fSeq (fSet 7 (fCallN 2 F_end_of (faCons (fV 2) (faCons (fV 6) faNil))))
  (fIfS (fOrT (fTst (fOp gIsN (fV 4) (fC .none))) (fTst (fOp gLt (fV 7) (fOp gIx (fV 4) (fC (.int 1)))))) (fSet 4 (fTup (fCons (fV 5) (fCons (fV 7) fNil)))) fNext)) fNext)))
  (fRet (fV 4))))))
noncomputable def F_best_order : Sl → R PyData := fRun 5 B_best_order
theorem sc_best_order : FnScope ["table", "bar", "ships", "runs", "best", "order", "begun", "end"] ["table", "bar", "ships"] (defScope s_best_order) := ⟨rfl, rfl, rfl, by decide +kernel, rfl, by decide +kernel, by decide +kernel⟩
theorem h_best_order (Y : Txt K mg c) (Z : Tabs T base mg c) (B : BadOk P w K mg base C) : Has P w K mg base 9 "best_order" s_best_order ["table", "bar", "ships"] (spF (PR K T C) 3 F_best_order) :=
  have nd := sc_best_order.nd
  has_of Y.s_best_order sc_best_order (fun _ _ _ _ _ _ us hl => match us, hl with | [_, _, _], _ => rfl) rfl rfl fun f A outer s H E hr => ⟨_,
  (pss_cons (ps_expr (pe_callH (h_need_dock Y Z B) hr (by decide) rfl (passes_call (takes_of rfl rfl rfl rfl) (fun _ _ _ _ h => h)) (pa_cons (pv 0) (pa_cons (pv 1) (pa_cons (pv 2) pa_nil)))))
  (pss_cons (ps_set (i := 3) nd rfl (by first | exact Or.inl rfl | exact Or.inr rfl) (pe_callH (h_runs_on Y Z B) hr (by decide) rfl (passes_call (takes_of rfl rfl rfl rfl) (fun _ _ _ _ h => h)) (pa_cons (pe_callH (h_over_row Y Z B) hr (by decide) rfl (passes_call (takes_of rfl rfl rfl rfl) (fun _ _ _ _ h => h)) (pa_cons (pv 0) (pa_cons (pv 1) pa_nil))) pa_nil)))
  (pss_cons (ps_set (i := 4) nd rfl (by first | exact Or.inl rfl | exact Or.inr rfl) pe_non)
  (pss_cons (ps_for (passes_of rfl) rfl (pi_seq (pe_callH (h_orders Y Z B) hr (by decide) rfl (passes_call (takes_of rfl rfl rfl rfl) (fun _ _ _ _ h => h)) (pa_cons (pe_callB call_len rfl Y.b_len bt_len (pa_cons (pv 2) pa_nil)) pa_nil))) (pg_name (i := 5) nd rfl (by first | exact Or.inl rfl | exact Or.inr rfl))
  (pss_cons (ps_set (i := 6) nd rfl (by first | exact Or.inl rfl | exact Or.inr rfl) (pe_callH (h_starts_of Y Z B) hr (by decide) rfl (passes_call (takes_of rfl rfl rfl rfl) (fun _ _ _ _ h => h)) (pa_cons (pv 3) (pa_cons (pv 2) (pa_cons (pv 5) pa_nil)))))
  (pss_one (ps_if (pt_cmpR op_notN (pv 6) pe_non (nomark _)) (pss_cons (ps_set (i := 7) nd rfl (by first | exact Or.inl rfl | exact Or.inr rfl) (pe_callH (h_end_of Y Z B) hr (by decide) rfl (passes_call (takes_of rfl rfl rfl rfl) (fun _ _ _ _ h => h)) (pa_cons (pv 2) (pa_cons (pv 6) pa_nil))))
  (pss_one (ps_if (PW.pt (pw_or (pt_cmpR op_isN (pv 4) pe_non (nomark _)) (pw_or1 (pt_cmpR op_lt (pv 7) (pe_ix ix_seq (pv 4) pe_int (fun _ _ => rfl)) (nomark _))))) (pss_one (ps_set (i := 4) nd rfl (by first | exact Or.inl rfl | exact Or.inr rfl) (pe_tup (pa_cons (pv 5) (pa_cons (pv 7) pa_nil))))) pss_nil))) pss_nil))))
  (pss_one (ps_ret (pv 4))))))),
  (sim_seq (sim_drop (sim_call (sim_aCons (sim_v 0) (sim_aCons (sim_v 1) (sim_aCons (sim_v 2) sim_aNil)))))
  (sim_seq (sim_set (sim_call (sim_aCons (sim_call (sim_aCons (sim_v 0) (sim_aCons (sim_v 1) sim_aNil))) sim_aNil)))
  (sim_seq (sim_set sim_non)
  (sim_seq (sim_for (sim_iSeq (sim_call (sim_aCons (sim_cb v_len (sim_cons (sim_v 2) sim_nil)) sim_aNil))) sim_gN
  (sim_seq (sim_set (sim_call (sim_aCons (sim_v 3) (sim_aCons (sim_v 2) (sim_aCons (sim_v 5) sim_aNil)))))
  (sim_ifS (sim_tst (sim_op v_notN (sim_v 6) sim_non)) (sim_seq (sim_set (sim_call (sim_aCons (sim_v 2) (sim_aCons (sim_v 6) sim_aNil))))
  (sim_ifS (sim_orT (sim_tst (sim_op v_isN (sim_v 4) sim_non)) (sim_tst (sim_op v_cmp (sim_v 7) (sim_op v_ix (sim_v 4) sim_int)))) (sim_set (sim_tup (sim_cons (sim_v 5) (sim_cons (sim_v 7) sim_nil)))) sim_next)) sim_next)))
  (sim_ret (sim_v 4))))))⟩
/-! least_waiting -/
noncomputable def B_least_waiting : FS := (fSeq (fDrop (fCallN 3 F_need_dock (faCons (fV 0) (faCons (fV 1) (faCons (fV 2) faNil)))))
  (fSeq (fSet 3 (fCallN 1 F_runs_on (faCons (fCallN 2 F_over_row (faCons (fV 0) (faCons (fV 1) faNil))) faNil)))
  (fSeq (fSet 4 (fC .none))
  (fSeq (fFor (fiSeq (fCallN 1 F_orders (faCons (fCB gLen (fCons (fV 2) fNil)) faNil))) (fgN 5)
  (fSeq (fSet 6 (fCallN 3 F_starts_of (faCons (fV 3) (faCons (fV 2) (faCons (fV 5) faNil)))))
  (fIfS (fTst (fOp gNotN (fV 6) (fC .none))) (fSeq (fSet 7 (fCB gSum (fCons (fL (fComp (fZip (fCons (fV 6) (fCons (fV 2) fNil))) (fgTup (fgCons (fgN 8) (fgCons (fgN 9) fgNil)) 2) fYes (fOp gDif (fV 8) (fOp gIx (fV 9) (fC (.int 1)))) [8, 9])) fNil)))
  (fIfS (fOrT (fTst (fOp gIsN (fV 4) (fC .none))) (fTst (fOp gLt (fV 7) (fOp gIx (fV 4) (fC (.int 1)))))) (fSet 4 (fTup (fCons (fV 5) (fCons (fV 7) fNil)))) fNext)) fNext)))
  (fRet (fV 4))))))
noncomputable def F_least_waiting : Sl → R PyData := fRun 7 B_least_waiting
theorem sc_least_waiting : FnScope ["table", "bar", "ships", "runs", "best", "order", "begun", "waiting", "start", "ship"] ["table", "bar", "ships"] (defScope s_least_waiting) := ⟨rfl, rfl, rfl, by decide +kernel, rfl, by decide +kernel, by decide +kernel⟩
theorem h_least_waiting (Y : Txt K mg c) (Z : Tabs T base mg c) (B : BadOk P w K mg base C) : Has P w K mg base 9 "least_waiting" s_least_waiting ["table", "bar", "ships"] (spF (PR K T C) 3 F_least_waiting) :=
  have nd := sc_least_waiting.nd
  has_of Y.s_least_waiting sc_least_waiting (fun _ _ _ _ _ _ us hl => match us, hl with | [_, _, _], _ => rfl) rfl rfl fun f A outer s H E hr => ⟨_,
  (pss_cons (ps_expr (pe_callH (h_need_dock Y Z B) hr (by decide) rfl (passes_call (takes_of rfl rfl rfl rfl) (fun _ _ _ _ h => h)) (pa_cons (pv 0) (pa_cons (pv 1) (pa_cons (pv 2) pa_nil)))))
  (pss_cons (ps_set (i := 3) nd rfl (by first | exact Or.inl rfl | exact Or.inr rfl) (pe_callH (h_runs_on Y Z B) hr (by decide) rfl (passes_call (takes_of rfl rfl rfl rfl) (fun _ _ _ _ h => h)) (pa_cons (pe_callH (h_over_row Y Z B) hr (by decide) rfl (passes_call (takes_of rfl rfl rfl rfl) (fun _ _ _ _ h => h)) (pa_cons (pv 0) (pa_cons (pv 1) pa_nil))) pa_nil)))
  (pss_cons (ps_set (i := 4) nd rfl (by first | exact Or.inl rfl | exact Or.inr rfl) pe_non)
  (pss_cons (ps_for (passes_of rfl) rfl (pi_seq (pe_callH (h_orders Y Z B) hr (by decide) rfl (passes_call (takes_of rfl rfl rfl rfl) (fun _ _ _ _ h => h)) (pa_cons (pe_callB call_len rfl Y.b_len bt_len (pa_cons (pv 2) pa_nil)) pa_nil))) (pg_name (i := 5) nd rfl (by first | exact Or.inl rfl | exact Or.inr rfl))
  (pss_cons (ps_set (i := 6) nd rfl (by first | exact Or.inl rfl | exact Or.inr rfl) (pe_callH (h_starts_of Y Z B) hr (by decide) rfl (passes_call (takes_of rfl rfl rfl rfl) (fun _ _ _ _ h => h)) (pa_cons (pv 3) (pa_cons (pv 2) (pa_cons (pv 5) pa_nil)))))
  (pss_one (ps_if (pt_cmpR op_notN (pv 6) pe_non (nomark _)) (pss_cons (ps_set (i := 7) nd rfl (by first | exact Or.inl rfl | exact Or.inr rfl) (pe_callB (cr_sum rfl) rfl Y.b_sum bt_sum (pa_cons (pe_lc (own := [("start", 8), ("ship", 9)]) rfl nd (RZ.pi_zipA rfl Y.b_zip (pa_cons (pv 6) (pa_cons (pv 2) pa_nil))) (blkOk_by (own := [("start", 8), ("ship", 9)]) (N := ["table", "bar", "ships", "runs", "best", "order", "begun", "waiting", "start", "ship"]) (sc := defScope s_least_waiting) (by decide +kernel)) (fun _ _ _ _ _ => (pg_tup rfl (pgs_cons (pg_name (i := 8) nd rfl (by first | exact Or.inl rfl | exact Or.inr rfl)) (pgs_cons (pg_name (i := 9) nd rfl (by first | exact Or.inl rfl | exact Or.inr rfl)) pgs_nil)))) (fun _ _ _ _ _ => pts_nil) (fun _ _ _ _ _ => (pe_op op_sub (pv 8) (pe_ix ix_seq (pv 9) pe_int (fun _ _ => rfl))))) pa_nil)))
  (pss_one (ps_if (PW.pt (pw_or (pt_cmpR op_isN (pv 4) pe_non (nomark _)) (pw_or1 (pt_cmpR op_lt (pv 7) (pe_ix ix_seq (pv 4) pe_int (fun _ _ => rfl)) (nomark _))))) (pss_one (ps_set (i := 4) nd rfl (by first | exact Or.inl rfl | exact Or.inr rfl) (pe_tup (pa_cons (pv 5) (pa_cons (pv 7) pa_nil))))) pss_nil))) pss_nil))))
  (pss_one (ps_ret (pv 4))))))),
  (sim_seq (sim_drop (sim_call (sim_aCons (sim_v 0) (sim_aCons (sim_v 1) (sim_aCons (sim_v 2) sim_aNil)))))
  (sim_seq (sim_set (sim_call (sim_aCons (sim_call (sim_aCons (sim_v 0) (sim_aCons (sim_v 1) sim_aNil))) sim_aNil)))
  (sim_seq (sim_set sim_non)
  (sim_seq (sim_for (sim_iSeq (sim_call (sim_aCons (sim_cb v_len (sim_cons (sim_v 2) sim_nil)) sim_aNil))) sim_gN
  (sim_seq (sim_set (sim_call (sim_aCons (sim_v 3) (sim_aCons (sim_v 2) (sim_aCons (sim_v 5) sim_aNil)))))
  (sim_ifS (sim_tst (sim_op v_notN (sim_v 6) sim_non)) (sim_seq (sim_set (sim_cb v_sum (sim_cons (sim_L (sim_comp (sim_zip (sim_cons (sim_v 6) (sim_cons (sim_v 2) sim_nil))) (sim_gTup (sim_gCons sim_gN (sim_gCons sim_gN sim_gNil))) sim_yes (sim_op v_sub (sim_v 8) (sim_op v_ix (sim_v 9) sim_int)))) sim_nil)))
  (sim_ifS (sim_orT (sim_tst (sim_op v_isN (sim_v 4) sim_non)) (sim_tst (sim_op v_cmp (sim_v 7) (sim_op v_ix (sim_v 4) sim_int)))) (sim_set (sim_tup (sim_cons (sim_v 5) (sim_cons (sim_v 7) sim_nil)))) sim_next)) sim_next)))
  (sim_ret (sim_v 4))))))⟩
/-! longest_ship -/
noncomputable def B_longest_ship : FS := (fSeq (fDrop (fCallN 2 F_need_short (faCons (fV 0) (faCons (fC (.str "table")) faNil))))
  (fSeq (fDrop (fCallN 2 F_need_bar (faCons (fV 1) (faCons (fC (.str "bar")) faNil))))
  (fSeq (fSet 2 (fCallN 1 F_runs_on (faCons (fCallN 2 F_over_row (faCons (fV 0) (faCons (fV 1) faNil))) faNil)))
  (fRet (fIf (fTst (fOp gIsN (fV 2) (fC .none))) (fC (.int 100)) (fCB gMin2 (fCons (fC (.int 100)) (fCons (fCB gMax (fCons (fV 2) fNil)) fNil))))))))
noncomputable def F_longest_ship : Sl → R PyData := fRun 1 B_longest_ship
theorem sc_longest_ship : FnScope ["table", "bar", "runs"] ["table", "bar"] (defScope s_longest_ship) := ⟨rfl, rfl, rfl, by decide +kernel, rfl, by decide +kernel, by decide +kernel⟩
theorem h_longest_ship (Y : Txt K mg c) (Z : Tabs T base mg c) (B : BadOk P w K mg base C) : Has P w K mg base 8 "longest_ship" s_longest_ship ["table", "bar"] (spF (PR K T C) 2 F_longest_ship) :=
  have nd := sc_longest_ship.nd
  has_of Y.s_longest_ship sc_longest_ship (fun _ _ _ _ _ _ us hl => match us, hl with | [_, _], _ => rfl) rfl rfl fun f A outer s H E hr => ⟨_,
  (pss_cons (ps_expr (pe_callH (h_need_short Y Z B) hr (by decide) rfl (passes_call (takes_of rfl rfl rfl rfl) (fun _ _ _ _ h => h)) (pa_cons (pv 0) (pa_cons pe_str pa_nil))))
  (pss_cons (ps_expr (pe_callH (h_need_bar Y Z B) hr (by decide) rfl (passes_call (takes_of rfl rfl rfl rfl) (fun _ _ _ _ h => h)) (pa_cons (pv 1) (pa_cons pe_str pa_nil))))
  (pss_cons (ps_set (i := 2) nd rfl (by first | exact Or.inl rfl | exact Or.inr rfl) (pe_callH (h_runs_on Y Z B) hr (by decide) rfl (passes_call (takes_of rfl rfl rfl rfl) (fun _ _ _ _ h => h)) (pa_cons (pe_callH (h_over_row Y Z B) hr (by decide) rfl (passes_call (takes_of rfl rfl rfl rfl) (fun _ _ _ _ h => h)) (pa_cons (pv 0) (pa_cons (pv 1) pa_nil))) pa_nil)))
  (pss_one (ps_ret (pe_ifExp (pt_cmpR op_isN (pv 2) pe_non (nomark _)) (pe_globI rfl Y.g_MOST_LENGTH) (pe_callB (call_min2 rfl) rfl Y.b_min bt_min (pa_cons (pe_globI rfl Y.g_MOST_LENGTH) (pa_cons (pe_callB (cr_max rfl) rfl Y.b_max bt_max (pa_cons (pv 2) pa_nil)) pa_nil))))))))),
  (sim_seq (sim_drop (sim_call (sim_aCons (sim_v 0) (sim_aCons sim_str sim_aNil))))
  (sim_seq (sim_drop (sim_call (sim_aCons (sim_v 1) (sim_aCons sim_str sim_aNil))))
  (sim_seq (sim_set (sim_call (sim_aCons (sim_call (sim_aCons (sim_v 0) (sim_aCons (sim_v 1) sim_aNil))) sim_aNil)))
  (sim_ret (sim_if (sim_tst (sim_op v_isN (sim_v 2) sim_non)) sim_int (sim_cb v_min2 (sim_cons sim_int (sim_cons (sim_cb v_max (sim_cons (sim_v 2) sim_nil)) sim_nil))))))))⟩
/-! highest_bar -/
noncomputable def B_highest_bar : FS := (fSeq (fDrop (fCallN 2 F_need_short (faCons (fV 0) (faCons (fC (.str "table")) faNil))))
  (fSeq (fDrop (fCallN 4 F_need_integer (faCons (fV 1) (faCons (fC (.str "length")) (faCons (fC (.int 1)) (faCons (fC (.int 100)) faNil))))))
  (fSeq (fSet 2 (fCB gLen (fCons (fCallN 2 F_over_row (faCons (fV 0) (faCons (fC (.int 0)) faNil))) fNil)))
  (fSeq (fOwn 3 (fLst fNil))
  (fSeq (fFor (fRng1 (fCons (fV 2) fNil)) (fgN 4)
  (fApp 3 (fCB gMin (fCons (fL (fComp (fRng1 (fCons (fV 1) fNil)) (fgN 5) fYes (fCallN 2 F_height_of (faCons (fV 0) (faCons (fOp gAdd (fV 4) (fV 5)) faNil))) [5])) fNil))))
  (fRet (fCB gMax (fCons (fV 3) fNil))))))))
noncomputable def F_highest_bar : Sl → R PyData := fRun 4 B_highest_bar
theorem sc_highest_bar : FnScope ["table", "length", "around", "rows", "time", "more"] ["table", "length"] (defScope s_highest_bar) := ⟨rfl, rfl, rfl, by decide +kernel, rfl, by decide +kernel, by decide +kernel⟩
theorem h_highest_bar (Y : Txt K mg c) (Z : Tabs T base mg c) (B : BadOk P w K mg base C) : Has P w K mg base 8 "highest_bar" s_highest_bar ["table", "length"] (spF (PR K T C) 2 F_highest_bar) :=
  have nd := sc_highest_bar.nd
  has_of Y.s_highest_bar sc_highest_bar (fun _ _ _ _ _ _ us hl => match us, hl with | [_, _], _ => rfl) rfl rfl fun f A outer s H E hr => ⟨_,
  (pss_cons (ps_expr (pe_callH (h_need_short Y Z B) hr (by decide) rfl (passes_call (takes_of rfl rfl rfl rfl) (fun _ _ _ _ h => h)) (pa_cons (pv 0) (pa_cons pe_str pa_nil))))
  (pss_cons (ps_expr (pe_callH (h_need_integer Y Z B) hr (by decide) rfl (passes_call (takes_of rfl rfl rfl rfl) (fun _ _ _ _ h => h)) (pa_cons (pv 1) (pa_cons pe_str (pa_cons pe_int (pa_cons (pe_globI rfl Y.g_MOST_LENGTH) pa_nil))))))
  (pss_cons (ps_set (i := 2) nd rfl (by first | exact Or.inl rfl | exact Or.inr rfl) (pe_callB call_len rfl Y.b_len bt_len (pa_cons (pe_callH (h_over_row Y Z B) hr (by decide) rfl (passes_call (takes_of rfl rfl rfl rfl) (fun _ _ _ _ h => h)) (pa_cons (pv 0) (pa_cons pe_int pa_nil))) pa_nil)))
  (pss_cons (ps_set (i := 3) nd rfl (by first | exact Or.inl rfl | exact Or.inr rfl) (pe_lst pa_nil))
  (pss_cons (ps_for (passes_of rfl) rfl (pi_range1 rfl Y.b_range (pa_cons (pv 2) pa_nil)) (pg_name (i := 4) nd rfl (by first | exact Or.inl rfl | exact Or.inr rfl))
  (pss_one (ps_expr (pe_bm PySem.F.plainAttrs_list PySem.F.slot_list_append PySem.F.type_list_append mt_append (pv 3) (pa_cons (pe_callB (cr_min rfl) rfl Y.b_min bt_min (pa_cons (pe_lc (own := [("more", 5)]) rfl nd (pi_range1 rfl Y.b_range (pa_cons (pv 1) pa_nil)) (blkOk_by (own := [("more", 5)]) (N := ["table", "length", "around", "rows", "time", "more"]) (sc := defScope s_highest_bar) (by decide +kernel)) (fun _ _ _ _ _ => (pg_name (i := 5) nd rfl (by first | exact Or.inl rfl | exact Or.inr rfl))) (fun _ _ _ _ _ => pts_nil) (fun _ _ _ _ _ => (pe_callH (h_height_of Y Z B) hr (by decide) rfl passL (pa_cons (pv 0) (pa_cons (pe_op op_addAll (pv 4) (pv 5)) pa_nil))))) pa_nil)) pa_nil)))))
  (pss_one (ps_ret (pe_callB (cr_max rfl) rfl Y.b_max bt_max (pa_cons (pv 3) pa_nil))))))))),
  (sim_seq (sim_drop (sim_call (sim_aCons (sim_v 0) (sim_aCons sim_str sim_aNil))))
  (sim_seq (sim_drop (sim_call (sim_aCons (sim_v 1) (sim_aCons sim_str (sim_aCons sim_int (sim_aCons sim_int sim_aNil))))))
  (sim_seq (sim_set (sim_cb v_len (sim_cons (sim_call (sim_aCons (sim_v 0) (sim_aCons sim_int sim_aNil))) sim_nil)))
  (sim_seq (sim_own (sim_lst sim_nil))
  (sim_seq (sim_for (sim_rng1 (sim_cons (sim_v 2) sim_nil)) sim_gN
  (sim_app (sim_cb v_min (sim_cons (sim_L (sim_comp (sim_rng1 (sim_cons (sim_v 1) sim_nil)) sim_gN sim_yes (sim_call (sim_aCons (sim_v 0) (sim_aCons (sim_op v_add (sim_v 4) (sim_v 5)) sim_aNil))))) sim_nil))))
  (sim_ret (sim_cb v_max (sim_cons (sim_v 3) sim_nil))))))))⟩
/-! _law_roll -/
noncomputable def B__law_roll : FS := (fSeq (fIfS (fTst (fOp gGt (fIxV 0 (fC (.int 0))) (fC (.int 0)))) (fSeq (fSet 2 (fOp gMod (fCB gInt (fCons (fIxV 0 (fC (.int 0))) fNil)) (fV 1)))
  (fSeq (fSetI 0 (fC (.int 0)) (fOp gDiv (fIxV 0 (fC (.int 0))) (fV 1)))
  (fRet (fV 2)))) fNext)
  (fSeq (fSetI 0 (fC (.int 2)) (fOp gAdd (fIxV 0 (fC (.int 2))) (fC (.int 1))))
  (fSeq (fSetI 0 (fC (.int 1)) (fOp gMod (fCB gInt (fCons (fOp gAdd (fOp gAdd (fOp gMul (fIxV 0 (fC (.int 1))) (fC (.int 52501))) (fOp gMul (fOp gMul (fIxV 0 (fC (.int 2))) (fIxV 0 (fC (.int 2)))) (fC (.int 1009)))) (fC (.int 77))) fNil)) (fC (.int 2147480009))))
  (fRet (fOp gMod (fCB gInt (fCons (fOp gDiv (fIxV 0 (fC (.int 1))) (fC (.int 211))) fNil)) (fV 1))))))
noncomputable def F__law_roll : Sl → R PyData := fRun 1 B__law_roll
theorem sc__law_roll : FnScope ["dice", "many", "found"] ["dice", "many"] (defScope s__law_roll) := ⟨rfl, rfl, rfl, by decide +kernel, rfl, by decide +kernel, by decide +kernel⟩
theorem h__law_roll (Y : Txt K mg c) (Z : Tabs T base mg c) (B : BadOk P w K mg base C) : Has P w K mg base 1 "_law_roll" s__law_roll ["dice", "many"] (spF (PR K T C) 2 F__law_roll) :=
  have nd := sc__law_roll.nd
  has_of Y.s__law_roll sc__law_roll (fun _ _ _ _ _ _ us hl => match us, hl with | [_, _], _ => rfl) rfl rfl fun f A outer s H E hr => ⟨_,
  (pss_cons (ps_if (pt_cmpR op_gt (pe_ix ix_seq (pv 0) pe_int (fun _ _ => rfl)) pe_int (nomark _)) (pss_cons (ps_set (i := 2) nd rfl (by first | exact Or.inl rfl | exact Or.inr rfl) (pe_op op_modN (pe_callTy call_int1 rfl Y.b_int bt_int (pa_cons (pe_ix ix_seq (pv 0) pe_int (fun _ _ => rfl)) pa_nil)) (pv 1)))
  (pss_cons (ps_asg (pe_op op_divAll (pe_ix ix_seq (pv 0) pe_int (fun _ _ => rfl)) (pv 1)) (pg_sub (pv 0) pe_int set_list))
  (pss_one (ps_ret (pv 2))))) pss_nil)
  (pss_cons (ps_asg (pe_op op_addAll (pe_ix ix_seq (pv 0) pe_int (fun _ _ => rfl)) pe_int) (pg_sub (pv 0) pe_int set_list))
  (pss_cons (ps_asg (pe_op op_modN (pe_callTy call_int1 rfl Y.b_int bt_int (pa_cons (pe_op op_addAll (pe_op op_addAll (pe_op op_mulAll (pe_ix ix_seq (pv 0) pe_int (fun _ _ => rfl)) pe_int) (pe_op op_mulAll (pe_op op_mulAll (pe_ix ix_seq (pv 0) pe_int (fun _ _ => rfl)) (pe_ix ix_seq (pv 0) pe_int (fun _ _ => rfl))) pe_int)) pe_int) pa_nil)) pe_int) (pg_sub (pv 0) pe_int set_list))
  (pss_one (ps_ret (pe_op op_modN (pe_callTy call_int1 rfl Y.b_int bt_int (pa_cons (pe_op op_divAll (pe_ix ix_seq (pv 0) pe_int (fun _ _ => rfl)) pe_int) pa_nil)) (pv 1))))))),
  (sim_seq (sim_ifS (sim_tst (sim_op v_cmp (sim_ixV sim_int) sim_int)) (sim_seq (sim_set (sim_op v_mod (sim_cb v_int (sim_cons (sim_ixV sim_int) sim_nil)) (sim_v 1)))
  (sim_seq (sim_setI sim_int (sim_op v_div (sim_ixV sim_int) (sim_v 1)))
  (sim_ret (sim_v 2)))) sim_next)
  (sim_seq (sim_setI sim_int (sim_op v_add (sim_ixV sim_int) sim_int))
  (sim_seq (sim_setI sim_int (sim_op v_mod (sim_cb v_int (sim_cons (sim_op v_add (sim_op v_add (sim_op v_mul (sim_ixV sim_int) sim_int) (sim_op v_mul (sim_op v_mul (sim_ixV sim_int) (sim_ixV sim_int)) sim_int)) sim_int) sim_nil)) sim_int))
  (sim_ret (sim_op v_mod (sim_cb v_int (sim_cons (sim_op v_div (sim_ixV sim_int) sim_int) sim_nil)) (sim_v 1))))))⟩
/-! _law_pick -/
noncomputable def B__law_pick : FS := (fRet (fOp gIx (fV 1) (fCallN 2 F__law_roll (faOwn 0 (faCons (fCB gLen (fCons (fV 1) fNil)) faNil)))))
noncomputable def F__law_pick : Sl → R PyData := fRun 0 B__law_pick
theorem sc__law_pick : FnScope ["dice", "things"] ["dice", "things"] (defScope s__law_pick) := ⟨rfl, rfl, rfl, by decide +kernel, rfl, by decide +kernel, by decide +kernel⟩
theorem h__law_pick (Y : Txt K mg c) (Z : Tabs T base mg c) (B : BadOk P w K mg base C) : Has P w K mg base 2 "_law_pick" s__law_pick ["dice", "things"] (spF (PR K T C) 2 F__law_pick) :=
  have nd := sc__law_pick.nd
  has_of Y.s__law_pick sc__law_pick (fun _ _ _ _ _ _ us hl => match us, hl with | [_, _], _ => rfl) rfl rfl fun f A outer s H E hr => ⟨_,
  (pss_one (ps_ret (pe_ix ix_seq (pv 1) (pe_callH (h__law_roll Y Z B) hr (by decide) rfl (passes_call (takes_of rfl rfl rfl rfl) (fun _ _ _ _ h => h)) (pa_cons (pv 0) (pa_cons (pe_callB call_len rfl Y.b_len bt_len (pa_cons (pv 1) pa_nil)) pa_nil))) (fun _ _ => rfl)))),
  (sim_ret (sim_op v_ix (sim_v 1) (sim_call (sim_aOwn (sim_aCons (sim_cb v_len (sim_cons (sim_v 1) sim_nil)) sim_aNil)))))⟩
/-! _law_gcd -/
noncomputable def B__law_gcd : FS := (fSeq (fPar 0 1 (fCons (fCB gAbs (fCons (fV 0) fNil)) (fCons (fCB gAbs (fCons (fV 1) fNil)) fNil)))
  (fSeq (fFor (fRng1 (fCons (fC (.int 400)) fNil)) (fgN 2)
  (fSeq (fIfS (fTst (fOp gEq (fV 1) (fC (.int 0)))) fBreak fNext)
  (fPar 0 1 (fCons (fV 1) (fCons (fOp gMod (fV 0) (fV 1)) fNil)))))
  (fRet (fV 0))))
noncomputable def F__law_gcd : Sl → R PyData := fRun 1 B__law_gcd
theorem sc__law_gcd : FnScope ["one", "other", "turn"] ["one", "other"] (defScope s__law_gcd) := ⟨rfl, rfl, rfl, by decide +kernel, rfl, by decide +kernel, by decide +kernel⟩
theorem h__law_gcd (Y : Txt K mg c) (Z : Tabs T base mg c) (B : BadOk P w K mg base C) : Has P w K mg base 1 "_law_gcd" s__law_gcd ["one", "other"] (spF (PR K T C) 2 F__law_gcd) :=
  have nd := sc__law_gcd.nd
  has_of Y.s__law_gcd sc__law_gcd (fun _ _ _ _ _ _ us hl => match us, hl with | [_, _], _ => rfl) rfl rfl fun f A outer s H E hr => ⟨_,
  (pss_cons (ps_par rfl nd (i := 0) (j := 1) rfl rfl (by decide) rfl rfl (pa_cons (pe_callB call_abs rfl Y.b_abs bt_abs (pa_cons (pv 0) pa_nil)) (pa_cons (pe_callB call_abs rfl Y.b_abs bt_abs (pa_cons (pv 1) pa_nil)) pa_nil)) (by rfl))
  (pss_cons (ps_for (passes_of rfl) rfl (pi_range1 rfl Y.b_range (pa_cons pe_int pa_nil)) (pg_name (i := 2) nd rfl (by first | exact Or.inl rfl | exact Or.inr rfl))
  (pss_cons (ps_if (pt_cmpR (op_eqD hr.units) (pv 1) pe_int (nomark _)) (pss_one ps_break) pss_nil)
  (pss_one (ps_par rfl nd (i := 0) (j := 1) rfl rfl (by decide) rfl rfl (pa_cons (pv 1) (pa_cons (pe_op op_modN (pv 0) (pv 1)) pa_nil)) (by rfl)))))
  (pss_one (ps_ret (pv 0))))),
  (sim_seq (sim_par (sim_cons (sim_cb v_abs (sim_cons (sim_v 0) sim_nil)) (sim_cons (sim_cb v_abs (sim_cons (sim_v 1) sim_nil)) sim_nil)))
  (sim_seq (sim_for (sim_rng1 (sim_cons sim_int sim_nil)) sim_gN
  (sim_seq (sim_ifS (sim_tst (sim_op v_eq (sim_v 1) sim_int)) sim_break sim_next)
  (sim_par (sim_cons (sim_v 1) (sim_cons (sim_op v_mod (sim_v 0) (sim_v 1)) sim_nil)))))
  (sim_ret (sim_v 0))))⟩
/-! _law_wheel -/
noncomputable def B__law_wheel : FS := (fSeq (fSet 2 (fCallN 2 F__law_pick (faOwn 0 (faCons (fL (fLst (fCons (fC (.int 1)) (fCons (fC (.int 3)) (fCons (fC (.int 9)) (fCons (fC (.int 1000000)) fNil)))))) faNil))))
  (fRet (fCB gTuple (fCons (fL (fComp (fRng1 (fCons (fOp gAdd (fC (.int 1)) (fCallN 2 F__law_roll (faOwn 0 (faCons (fV 1) faNil)))) fNil)) (fgN 3) fYes (fOp gDif (fCallN 2 F__law_roll (faOwn 0 (faCons (fOp gAdd (fOp gMul (fC (.int 2)) (fV 2)) (fC (.int 1))) faNil))) (fV 2)) [3])) fNil))))
noncomputable def F__law_wheel : Sl → R PyData := fRun 2 B__law_wheel
theorem sc__law_wheel : FnScope ["dice", "most", "wide", "turn"] ["dice", "most"] (defScope s__law_wheel) := ⟨rfl, rfl, rfl, by decide +kernel, rfl, by decide +kernel, by decide +kernel⟩
theorem h__law_wheel (Y : Txt K mg c) (Z : Tabs T base mg c) (B : BadOk P w K mg base C) : Has P w K mg base 3 "_law_wheel" s__law_wheel ["dice", "most"] (spF (PR K T C) 2 F__law_wheel) :=
  have nd := sc__law_wheel.nd
  has_of Y.s__law_wheel sc__law_wheel (fun _ _ _ _ _ _ us hl => match us, hl with | [_, _], _ => rfl) rfl rfl fun f A outer s H E hr => ⟨_,
  (pss_cons (ps_set (i := 2) nd rfl (by first | exact Or.inl rfl | exact Or.inr rfl) (pe_callH (h__law_pick Y Z B) hr (by decide) rfl (passes_call (takes_of rfl rfl rfl rfl) (fun _ _ _ _ h => h)) (pa_cons (pv 0) (pa_cons (pe_lst (pa_cons pe_int (pa_cons pe_int (pa_cons pe_int (pa_cons pe_int pa_nil))))) pa_nil))))
  (pss_one (ps_ret (pe_callTy call_tuple_of rfl Y.b_tuple bt_tuple (pa_cons (pe_lc (own := [("turn", 3)]) rfl nd (pi_range1 rfl Y.b_range (pa_cons (pe_op op_addAll pe_int (pe_callH (h__law_roll Y Z B) hr (by decide) rfl (passes_call (takes_of rfl rfl rfl rfl) (fun _ _ _ _ h => h)) (pa_cons (pv 0) (pa_cons (pv 1) pa_nil)))) pa_nil)) (blkOk_by (own := [("turn", 3)]) (N := ["dice", "most", "wide", "turn"]) (sc := defScope s__law_wheel) (by decide +kernel)) (fun _ _ _ _ _ => (pg_name (i := 3) nd rfl (by first | exact Or.inl rfl | exact Or.inr rfl))) (fun _ _ _ _ _ => pts_nil) (fun _ _ _ _ _ => (pe_op op_sub (pe_callH (h__law_roll Y Z B) hr (by decide) rfl passL (pa_cons (pv 0) (pa_cons (pe_op op_addAll (pe_op op_mulAll pe_int (pv 2)) pe_int) pa_nil))) (pv 2)))) pa_nil))))),
  (sim_seq (sim_set (sim_call (sim_aOwn (sim_aCons (sim_L (sim_lst (sim_cons sim_int (sim_cons sim_int (sim_cons sim_int (sim_cons sim_int sim_nil)))))) sim_aNil))))
  (sim_ret (sim_cb v_tuple (sim_cons (sim_L (sim_comp (sim_rng1 (sim_cons (sim_op v_add sim_int (sim_call (sim_aOwn (sim_aCons (sim_v 1) sim_aNil)))) sim_nil)) sim_gN sim_yes (sim_op v_sub (sim_call (sim_aOwn (sim_aCons (sim_op v_add (sim_op v_mul sim_int (sim_v 2)) sim_int) sim_aNil))) (sim_v 2)))) sim_nil))))⟩
/-! _law_table -/
noncomputable def B__law_table : FS := (fRet (fCB gTuple (fCons (fL (fComp (fRng1 (fCons (fCallN 2 F__law_roll (faOwn 0 (faCons (fOp gAdd (fV 1) (fC (.int 1))) faNil))) fNil)) (fgN 3) fYes (fCallN 2 F__law_wheel (faOwn 0 (faCons (fV 2) faNil))) [3])) fNil)))
noncomputable def F__law_table : Sl → R PyData := fRun 1 B__law_table
theorem sc__law_table : FnScope ["dice", "many", "most", "turn"] ["dice", "many", "most"] (defScope s__law_table) := ⟨rfl, rfl, rfl, by decide +kernel, rfl, by decide +kernel, by decide +kernel⟩
theorem h__law_table (Y : Txt K mg c) (Z : Tabs T base mg c) (B : BadOk P w K mg base C) : Has P w K mg base 4 "_law_table" s__law_table ["dice", "many", "most"] (spF (PR K T C) 3 F__law_table) :=
  have nd := sc__law_table.nd
  has_of Y.s__law_table sc__law_table (fun _ _ _ _ _ _ us hl => match us, hl with | [_, _, _], _ => rfl) rfl rfl fun f A outer s H E hr => ⟨_,
  (pss_one (ps_ret (pe_callTy call_tuple_of rfl Y.b_tuple bt_tuple (pa_cons (pe_lc (own := [("turn", 3)]) rfl nd (pi_range1 rfl Y.b_range (pa_cons (pe_callH (h__law_roll Y Z B) hr (by decide) rfl (passes_call (takes_of rfl rfl rfl rfl) (fun _ _ _ _ h => h)) (pa_cons (pv 0) (pa_cons (pe_op op_addAll (pv 1) pe_int) pa_nil))) pa_nil)) (blkOk_by (own := [("turn", 3)]) (N := ["dice", "many", "most", "turn"]) (sc := defScope s__law_table) (by decide +kernel)) (fun _ _ _ _ _ => (pg_name (i := 3) nd rfl (by first | exact Or.inl rfl | exact Or.inr rfl))) (fun _ _ _ _ _ => pts_nil) (fun _ _ _ _ _ => (pe_callH (h__law_wheel Y Z B) hr (by decide) rfl passL (pa_cons (pv 0) (pa_cons (pv 2) pa_nil))))) pa_nil)))),
  (sim_ret (sim_cb v_tuple (sim_cons (sim_L (sim_comp (sim_rng1 (sim_cons (sim_call (sim_aOwn (sim_aCons (sim_op v_add (sim_v 1) sim_int) sim_aNil))) sim_nil)) sim_gN sim_yes (sim_call (sim_aOwn (sim_aCons (sim_v 2) sim_aNil))))) sim_nil)))⟩
/-! _law_height -/
noncomputable def B__law_height : FS := (fSeq (fSet 2 (fC (.int 0)))
  (fSeq (fFor (fiSeq (fV 0)) (fgN 3)
  (fSet 2 (fOp gAdd (fV 2) (fOp gIx (fV 3) (fOp gMod (fV 1) (fCB gLen (fCons (fV 3) fNil)))))))
  (fRet (fV 2))))
noncomputable def F__law_height : Sl → R PyData := fRun 2 B__law_height
theorem sc__law_height : FnScope ["table", "time", "whole", "wheel"] ["table", "time"] (defScope s__law_height) := ⟨rfl, rfl, rfl, by decide +kernel, rfl, by decide +kernel, by decide +kernel⟩
theorem h__law_height (Y : Txt K mg c) (Z : Tabs T base mg c) (B : BadOk P w K mg base C) : Has P w K mg base 1 "_law_height" s__law_height ["table", "time"] (spF (PR K T C) 2 F__law_height) :=
  have nd := sc__law_height.nd
  has_of Y.s__law_height sc__law_height (fun _ _ _ _ _ _ us hl => match us, hl with | [_, _], _ => rfl) rfl rfl fun f A outer s H E hr => ⟨_,
  (pss_cons (ps_set (i := 2) nd rfl (by first | exact Or.inl rfl | exact Or.inr rfl) pe_int)
  (pss_cons (ps_for (passes_of rfl) rfl (pi_seq (pv 0)) (pg_name (i := 3) nd rfl (by first | exact Or.inl rfl | exact Or.inr rfl))
  (pss_one (ps_set (i := 2) nd rfl (by first | exact Or.inl rfl | exact Or.inr rfl) (pe_op op_addAll (pv 2) (pe_ix ix_seq (pv 3) (pe_op op_modN (pv 1) (pe_callB call_len rfl Y.b_len bt_len (pa_cons (pv 3) pa_nil))) (fun _ _ => rfl))))))
  (pss_one (ps_ret (pv 2))))),
  (sim_seq (sim_set sim_int)
  (sim_seq (sim_for (sim_iSeq (sim_v 0)) sim_gN
  (sim_set (sim_op v_add (sim_v 2) (sim_op v_ix (sim_v 3) (sim_op v_mod (sim_v 1) (sim_cb v_len (sim_cons (sim_v 3) sim_nil)))))))
  (sim_ret (sim_v 2))))⟩
/-! _law_cycle -/
noncomputable def B__law_cycle : FS := (fSeq (fSet 1 (fC (.int 1)))
  (fSeq (fFor (fiSeq (fV 0)) (fgN 2)
  (fSet 1 (fOp gDiv (fOp gMul (fV 1) (fCB gLen (fCons (fV 2) fNil))) (fCallN 2 F__law_gcd (faCons (fV 1) (faCons (fCB gLen (fCons (fV 2) fNil)) faNil))))))
  (fRet (fV 1))))
noncomputable def F__law_cycle : Sl → R PyData := fRun 2 B__law_cycle
theorem sc__law_cycle : FnScope ["table", "found", "wheel"] ["table"] (defScope s__law_cycle) := ⟨rfl, rfl, rfl, by decide +kernel, rfl, by decide +kernel, by decide +kernel⟩
theorem h__law_cycle (Y : Txt K mg c) (Z : Tabs T base mg c) (B : BadOk P w K mg base C) : Has P w K mg base 2 "_law_cycle" s__law_cycle ["table"] (spF (PR K T C) 1 F__law_cycle) :=
  have nd := sc__law_cycle.nd
  has_of Y.s__law_cycle sc__law_cycle (fun _ _ _ _ _ _ us hl => match us, hl with | [_], _ => rfl) rfl rfl fun f A outer s H E hr => ⟨_,
  (pss_cons (ps_set (i := 1) nd rfl (by first | exact Or.inl rfl | exact Or.inr rfl) pe_int)
  (pss_cons (ps_for (passes_of rfl) rfl (pi_seq (pv 0)) (pg_name (i := 2) nd rfl (by first | exact Or.inl rfl | exact Or.inr rfl))
  (pss_one (ps_set (i := 1) nd rfl (by first | exact Or.inl rfl | exact Or.inr rfl) (pe_op op_divAll (pe_op op_mulAll (pv 1) (pe_callB call_len rfl Y.b_len bt_len (pa_cons (pv 2) pa_nil))) (pe_callH (h__law_gcd Y Z B) hr (by decide) rfl (passes_call (takes_of rfl rfl rfl rfl) (fun _ _ _ _ h => h)) (pa_cons (pv 1) (pa_cons (pe_callB call_len rfl Y.b_len bt_len (pa_cons (pv 2) pa_nil)) pa_nil)))))))
  (pss_one (ps_ret (pv 1))))),
  (sim_seq (sim_set sim_int)
  (sim_seq (sim_for (sim_iSeq (sim_v 0)) sim_gN
  (sim_set (sim_op v_div (sim_op v_mul (sim_v 1) (sim_cb v_len (sim_cons (sim_v 2) sim_nil))) (sim_call (sim_aCons (sim_v 1) (sim_aCons (sim_cb v_len (sim_cons (sim_v 2) sim_nil)) sim_aNil))))))
  (sim_ret (sim_v 1))))⟩
/-! _law_orders -/
noncomputable def B__law_orders : FS := (fSeq (fSet 1 (fL (fLst (fCons (fTup fNil) fNil))))
  (fSeq (fFor (fRng1 (fCons (fV 0) fNil)) (fgN 2)
  (fSeq (fSet 3 (fL (fLst fNil)))
  (fSeq (fFor (fiSeq (fV 1)) (fgN 4)
  (fSet 3 (fOp gAdd (fV 3) (fL (fComp (fRng1 (fCons (fV 0) fNil)) (fgN 5) (fTst (fOp (gIn true) (fV 5) (fV 4))) (fOp gAdd (fV 4) (fTup (fCons (fV 5) fNil))) [5])))))
  (fSet 1 (fV 3)))))
  (fRet (fV 1))))
noncomputable def F__law_orders : Sl → R PyData := fRun 5 B__law_orders
theorem sc__law_orders : FnScope ["many", "rows", "turn", "longer", "row", "one"] ["many"] (defScope s__law_orders) := ⟨rfl, rfl, rfl, by decide +kernel, rfl, by decide +kernel, by decide +kernel⟩
theorem h__law_orders (Y : Txt K mg c) (Z : Tabs T base mg c) (B : BadOk P w K mg base C) : Has P w K mg base 1 "_law_orders" s__law_orders ["many"] (spF (PR K T C) 1 F__law_orders) :=
  have nd := sc__law_orders.nd
  has_of Y.s__law_orders sc__law_orders (fun _ _ _ _ _ _ us hl => match us, hl with | [_], _ => rfl) rfl rfl fun f A outer s H E hr => ⟨_,
  (pss_cons (ps_set (i := 1) nd rfl (by first | exact Or.inl rfl | exact Or.inr rfl) (pe_lst (pa_cons (pe_tup pa_nil) pa_nil)))
  (pss_cons (ps_for (passes_of rfl) rfl (pi_range1 rfl Y.b_range (pa_cons (pv 0) pa_nil)) (pg_name (i := 2) nd rfl (by first | exact Or.inl rfl | exact Or.inr rfl))
  (pss_cons (ps_set (i := 3) nd rfl (by first | exact Or.inl rfl | exact Or.inr rfl) (pe_lst pa_nil))
  (pss_cons (ps_for (passes_of rfl) rfl (pi_seq (pv 1)) (pg_name (i := 4) nd rfl (by first | exact Or.inl rfl | exact Or.inr rfl))
  (pss_one (ps_set (i := 3) nd rfl (by first | exact Or.inl rfl | exact Or.inr rfl) (pe_op op_addAll (pv 3) (pe_lc (own := [("one", 5)]) rfl nd (pi_range1 rfl Y.b_range (pa_cons (pv 0) pa_nil)) (blkOk_by (own := [("one", 5)]) (N := ["many", "rows", "turn", "longer", "row", "one"]) (sc := defScope s__law_orders) (by decide +kernel)) (fun _ _ _ _ _ => (pg_name (i := 5) nd rfl (by first | exact Or.inl rfl | exact Or.inr rfl))) (fun _ _ _ _ _ => (pts_one (pt_cmpR op_notInAll (pv 5) (pv 4) (by rfl)))) (fun _ _ _ _ _ => (pe_op op_addAll (pv 4) (pe_tup (pa_cons (pv 5) pa_nil)))))))))
  (pss_one (ps_set (i := 1) nd rfl (by first | exact Or.inl rfl | exact Or.inr rfl) (pv 3))))))
  (pss_one (ps_ret (pv 1))))),
  (sim_seq (sim_set (sim_L (sim_lst (sim_cons (sim_tup sim_nil) sim_nil))))
  (sim_seq (sim_for (sim_rng1 (sim_cons (sim_v 0) sim_nil)) sim_gN
  (sim_seq (sim_set (sim_L (sim_lst sim_nil)))
  (sim_seq (sim_for (sim_iSeq (sim_v 1)) sim_gN
  (sim_set (sim_op v_add (sim_v 3) (sim_L (sim_comp (sim_rng1 (sim_cons (sim_v 0) sim_nil)) sim_gN (sim_tst (sim_op v_notIn (sim_v 5) (sim_v 4))) (sim_op v_add (sim_v 4) (sim_tup (sim_cons (sim_v 5) sim_nil))))))))
  (sim_set (sim_v 3)))))
  (sim_ret (sim_v 1))))⟩
/-! _law_lies -/
noncomputable def B__law_lies : FS := (fRet (fOp gEq (fCB gLen (fCons (fL (fComp (fRng1 (fCons (fV 3) fNil)) (fgN 4) (fTst (fOp gLt (fCallN 2 F__law_height (faCons (fV 0) (faCons (fOp gAdd (fV 2) (fV 4)) faNil))) (fV 1))) (fC (.int 1)) [4])) fNil)) (fC (.int 0))))
noncomputable def F__law_lies : Sl → R PyData := fRun 1 B__law_lies
theorem sc__law_lies : FnScope ["table", "bar", "time", "length", "at"] ["table", "bar", "time", "length"] (defScope s__law_lies) := ⟨rfl, rfl, rfl, by decide +kernel, rfl, by decide +kernel, by decide +kernel⟩
theorem h__law_lies (Y : Txt K mg c) (Z : Tabs T base mg c) (B : BadOk P w K mg base C) : Has P w K mg base 2 "_law_lies" s__law_lies ["table", "bar", "time", "length"] (spF (PR K T C) 4 F__law_lies) :=
  have nd := sc__law_lies.nd
  has_of Y.s__law_lies sc__law_lies (fun _ _ _ _ _ _ us hl => match us, hl with | [_, _, _, _], _ => rfl) rfl rfl fun f A outer s H E hr => ⟨_,
  (pss_one (ps_ret (pe_cmpR (op_eqD hr.units) (pe_callB call_len rfl Y.b_len bt_len (pa_cons (pe_lc (own := [("at", 4)]) rfl nd (pi_range1 rfl Y.b_range (pa_cons (pv 3) pa_nil)) (blkOk_by (own := [("at", 4)]) (N := ["table", "bar", "time", "length", "at"]) (sc := defScope s__law_lies) (by decide +kernel)) (fun _ _ _ _ _ => (pg_name (i := 4) nd rfl (by first | exact Or.inl rfl | exact Or.inr rfl))) (fun _ _ _ _ _ => (pts_one (pt_cmpR op_lt (pe_callH (h__law_height Y Z B) hr (by decide) rfl passL (pa_cons (pv 0) (pa_cons (pe_op op_addAll (pv 2) (pv 4)) pa_nil))) (pv 1) (nomark _)))) (fun _ _ _ _ _ => pe_int)) pa_nil)) pe_int (nomark _)))),
  (sim_ret (sim_op v_eq (sim_cb v_len (sim_cons (sim_L (sim_comp (sim_rng1 (sim_cons (sim_v 3) sim_nil)) sim_gN (sim_tst (sim_op v_cmp (sim_call (sim_aCons (sim_v 0) (sim_aCons (sim_op v_add (sim_v 2) (sim_v 4)) sim_aNil))) (sim_v 1))) sim_int)) sim_nil)) sim_int))⟩
/-! _law_starts -/
noncomputable def B__law_starts : FS := (fSeq (fParC 4 5 (fRepF (fL (fLst (fCons (fC .none) fNil))) (fCB gLen (fCons (fV 2) fNil))) (.int 0))
  (fSeq (fFor (fiSeq (fV 3)) (fgN 6)
  (fSeq (fAsg (fOp gIx (fV 2) (fV 6)) (fgTup (fgCons (fgN 7) (fgCons (fgN 8) fgNil)) 2))
  (fSeq (fSet 9 (fCB gMax2 (fCons (fV 5) (fCons (fV 8) fNil))))
  (fSeq (fFor (fRng1 (fCons (fCallN 1 F__law_cycle (faCons (fV 0) faNil)) fNil)) (fgN 10)
  (fSeq (fIfS (fTst (fCallN 4 F__law_lies (faCons (fV 0) (faCons (fV 1) (faCons (fV 9) (faCons (fV 7) faNil)))))) fBreak fNext)
  (fSet 9 (fOp gAdd (fV 9) (fC (.int 1))))))
  (fSeq (fIfS (fNotT (fTst (fCallN 4 F__law_lies (faCons (fV 0) (faCons (fV 1) (faCons (fV 9) (faCons (fV 7) faNil))))))) (fRet (fC .none)) fNext)
  (fAsgSI 4 5 (fV 6) (fV 9) (fOp gAdd (fV 9) (fV 7))))))))
  (fRet (fCB gTuple (fCons (fV 4) fNil)))))
noncomputable def F__law_starts : Sl → R PyData := fRun 7 B__law_starts
theorem sc__law_starts : FnScope ["table", "bar", "ships", "order", "found", "free", "at", "length", "arrival", "time", "count"] ["table", "bar", "ships", "order"] (defScope s__law_starts) := ⟨rfl, rfl, rfl, by decide +kernel, rfl, by decide +kernel, by decide +kernel⟩
theorem h__law_starts (Y : Txt K mg c) (Z : Tabs T base mg c) (B : BadOk P w K mg base C) : Has P w K mg base 3 "_law_starts" s__law_starts ["table", "bar", "ships", "order"] (spF (PR K T C) 4 F__law_starts) :=
  have nd := sc__law_starts.nd
  has_of Y.s__law_starts sc__law_starts (fun _ _ _ _ _ _ us hl => match us, hl with | [_, _, _, _], _ => rfl) rfl rfl fun f A outer s H E hr => ⟨_,
  (pss_cons (ps_par rfl nd (i := 4) (j := 5) rfl rfl (by decide) rfl rfl (pa_cons (pe_op op_mulAll (pe_lst (pa_cons pe_non pa_nil)) (pe_callB call_len rfl Y.b_len bt_len (pa_cons (pv 2) pa_nil))) (pa_cons pe_int pa_nil)) (by rfl))
  (pss_cons (ps_for (passes_of rfl) rfl (pi_seq (pv 3)) (pg_name (i := 6) nd rfl (by first | exact Or.inl rfl | exact Or.inr rfl))
  (pss_cons (ps_asg (pe_ix ix_seq (pv 2) (pv 6) (fun _ _ => rfl)) (pg_tup rfl (pgs_cons (pg_name (i := 7) nd rfl (by first | exact Or.inl rfl | exact Or.inr rfl)) (pgs_cons (pg_name (i := 8) nd rfl (by first | exact Or.inl rfl | exact Or.inr rfl)) pgs_nil))))
  (pss_cons (ps_set (i := 9) nd rfl (by first | exact Or.inl rfl | exact Or.inr rfl) (pe_callB (call_max2 rfl) rfl Y.b_max bt_max (pa_cons (pv 5) (pa_cons (pv 8) pa_nil))))
  (pss_cons (ps_for (passes_of rfl) rfl (pi_range1 rfl Y.b_range (pa_cons (pe_callH (h__law_cycle Y Z B) hr (by decide) rfl (passes_call (takes_of rfl rfl rfl rfl) (fun _ _ _ _ h => h)) (pa_cons (pv 0) pa_nil)) pa_nil)) (pg_name (i := 10) nd rfl (by first | exact Or.inl rfl | exact Or.inr rfl))
  (pss_cons (ps_if (pt_val (pe_callH (h__law_lies Y Z B) hr (by decide) rfl (passes_call (takes_of rfl rfl rfl rfl) (fun _ _ _ _ h => h)) (pa_cons (pv 0) (pa_cons (pv 1) (pa_cons (pv 9) (pa_cons (pv 7) pa_nil)))))) (pss_one ps_break) pss_nil)
  (pss_one (ps_set (i := 9) nd rfl (by first | exact Or.inl rfl | exact Or.inr rfl) (pe_op op_addAll (pv 9) pe_int)))))
  (pss_cons (ps_if (pt_not (pt_val (pe_callH (h__law_lies Y Z B) hr (by decide) rfl (passes_call (takes_of rfl rfl rfl rfl) (fun _ _ _ _ h => h)) (pa_cons (pv 0) (pa_cons (pv 1) (pa_cons (pv 9) (pa_cons (pv 7) pa_nil))))))) (pss_one (ps_ret pe_non)) pss_nil)
  (pss_one (ps_asg (pe_tup (pa_cons (pv 9) (pa_cons (pe_op op_addAll (pv 9) (pv 7)) pa_nil))) (pg_tup rfl (pgs_cons (pg_sub (pv 4) (pv 6) set_list) (pgs_cons (pg_name (i := 5) nd rfl (by first | exact Or.inl rfl | exact Or.inr rfl)) pgs_nil))))))))))
  (pss_one (ps_ret (pe_callTy call_tuple_of rfl Y.b_tuple bt_tuple (pa_cons (pv 4) pa_nil)))))),
  (sim_seq (sim_parC (sim_repF (sim_L (sim_lst (sim_cons sim_non sim_nil))) (sim_cb v_len (sim_cons (sim_v 2) sim_nil))) (fun _ => (.int _)))
  (sim_seq (sim_for (sim_iSeq (sim_v 3)) sim_gN
  (sim_seq (sim_asg (sim_op v_ix (sim_v 2) (sim_v 6)) (sim_gTup (sim_gCons sim_gN (sim_gCons sim_gN sim_gNil))))
  (sim_seq (sim_set (sim_cb v_max2 (sim_cons (sim_v 5) (sim_cons (sim_v 8) sim_nil))))
  (sim_seq (sim_for (sim_rng1 (sim_cons (sim_call (sim_aCons (sim_v 0) sim_aNil)) sim_nil)) sim_gN
  (sim_seq (sim_ifS (sim_tstB (sim_call (sim_aCons (sim_v 0) (sim_aCons (sim_v 1) (sim_aCons (sim_v 9) (sim_aCons (sim_v 7) sim_aNil)))))) sim_break sim_next)
  (sim_set (sim_op v_add (sim_v 9) sim_int))))
  (sim_seq (sim_ifS (sim_notT (sim_tstB (sim_call (sim_aCons (sim_v 0) (sim_aCons (sim_v 1) (sim_aCons (sim_v 9) (sim_aCons (sim_v 7) sim_aNil))))))) (sim_ret sim_non) sim_next)
  (sim_asgSI (sim_v 6) (sim_v 9) (sim_op v_add (sim_v 9) (sim_v 7))))))))
  (sim_ret (sim_cb v_tuple (sim_cons (sim_v 4) sim_nil)))))⟩
/-! _law_right -/
noncomputable def B__law_right : FS := (fSeq (fPar3F 1 2 3 (fCallN 3 F__law_table (faOwn 0 (faCons (fC (.int 2)) (faCons (fC (.int 4)) faNil)))) (fOp gDif (fCallN 2 F__law_roll (faOwn 0 (faCons (fC (.int 9)) faNil))) (fC (.int 4))) (fLst fNil))
  (fSeq (fFor (fRng1 (fCons (fCallN 2 F__law_roll (faOwn 0 (faCons (fC (.int 4)) faNil))) fNil)) (fgN 4)
  (fApp 3 (fTup (fCons (fOp gAdd (fC (.int 1)) (fCallN 2 F__law_roll (faOwn 0 (faCons (fC (.int 4)) faNil)))) (fCons (fCallN 2 F__law_roll (faOwn 0 (faCons (fC (.int 15)) faNil))) fNil)))))
  (fSeq (fSet 3 (fCB gTuple (fCons (fV 3) fNil)))
  (fSeq (fSet 5 (fCallN 2 F__law_pick (faOwn 0 (faCons (fCallN 1 F__law_orders (faCons (fLenV 3) faNil)) faNil))))
  (fSeq (fIfS (fOrT (fTst (fOp gNe (fCallK 3 1 F_starts (faCons (fV 1) (faCons (fV 2) (faCons (fV 3) faNil))) (faCons (fV 5) faNil)) (fCallN 4 F__law_starts (faCons (fV 1) (faCons (fV 2) (faCons (fV 3) (faCons (fV 5) faNil))))))) (fNotT (fTst (fCallN 1 F_are_ships (faCons (fV 3) faNil))))) (fRet (fC (.bool false))) fNext)
  (fSeq (fAsg (fTup (fCons (fC .none) (fCons (fC .none) fNil))) (fgTup (fgCons (fgN 6) (fgCons (fgN 7) fgNil)) 2))
  (fSeq (fFor (fiSeq (fL (fSortedTT (fCons (fCallN 1 F__law_orders (faCons (fLenV 3) faNil)) fNil)))) (fgN 8)
  (fSeq (fSet 9 (fCallN 4 F__law_starts (faCons (fV 1) (faCons (fV 2) (faCons (fV 3) (faCons (fV 8) faNil))))))
  (fIfS (fTst (fOp gNotN (fV 9) (fC .none))) (fSeq (fSet 10 (fCB gMax (fCons (fOp gAdd (fL (fLst (fCons (fC (.int 0)) fNil))) (fL (fComp (fZip (fCons (fV 9) (fCons (fV 3) fNil))) (fgTup (fgCons (fgN 11) (fgCons (fgN 12) fgNil)) 2) fYes (fOp gAdd (fV 11) (fOp gIx (fV 12) (fC (.int 0)))) [11, 12]))) fNil)))
  (fSeq (fSet 13 (fCB gSum (fCons (fL (fComp (fZip (fCons (fV 9) (fCons (fV 3) fNil))) (fgTup (fgCons (fgN 11) (fgCons (fgN 12) fgNil)) 2) fYes (fOp gDif (fV 11) (fOp gIx (fV 12) (fC (.int 1)))) [11, 12])) fNil)))
  (fSeq (fSet 6 (fIf (fOrT (fTst (fOp gIsN (fV 6) (fC .none))) (fTst (fOp gLt (fV 10) (fOp gIx (fV 6) (fC (.int 1)))))) (fTup (fCons (fV 8) (fCons (fV 10) fNil))) (fV 6)))
  (fSet 7 (fIf (fOrT (fTst (fOp gIsN (fV 7) (fC .none))) (fTst (fOp gLt (fV 13) (fOp gIx (fV 7) (fC (.int 1)))))) (fTup (fCons (fV 8) (fCons (fV 13) fNil))) (fV 7)))))) fNext)))
  (fSeq (fIfS (fOrT (fTst (fOp gNe (fCallK 2 1 F_best_order (faCons (fV 1) (faCons (fV 2) faNil)) (faCons (fV 3) faNil)) (fV 6))) (fTst (fOp gNe (fCallK 2 1 F_least_waiting (faCons (fV 1) (faCons (fV 2) faNil)) (faCons (fV 3) faNil)) (fV 7)))) (fRet (fC (.bool false))) fNext)
  (fSeq (fPar 14 15 (fCons (fCallN 1 F__law_cycle (faCons (fV 1) faNil)) (fCons (fC (.int 0)) fNil)))
  (fSeq (fFor (fRng2 (fCons (fC (.int 1)) (fCons (fC (.int 101)) fNil))) (fgN 16)
  (fIfS (fAndT (fTst (fOp gEq (fV 15) (fOp gDif (fV 16) (fC (.int 1))))) (fTst (fOp gGt (fCB gLen (fCons (fL (fComp (fRng1 (fCons (fV 14) fNil)) (fgN 17) (fTst (fCallN 4 F__law_lies (faCons (fV 1) (faCons (fV 2) (faCons (fV 17) (faCons (fV 16) faNil)))))) (fC (.int 1)) [17])) fNil)) (fC (.int 0))))) (fSet 15 (fV 16)) fNext))
  (fSeq (fIfS (fTst (fOp gNe (fCallK 1 1 F_longest_ship (faCons (fV 1) faNil) (faCons (fV 2) faNil)) (fV 15))) (fRet (fC (.bool false))) fNext)
  (fSeq (fSet 16 (fOp gAdd (fC (.int 1)) (fCallN 2 F__law_roll (faOwn 0 (faCons (fC (.int 9)) faNil)))))
  (fSeq (fSet 18 (fL (fComp (fRng1 (fCons (fV 14) fNil)) (fgN 17) fYes (fCB gMin (fCons (fL (fComp (fRng1 (fCons (fV 16) fNil)) (fgN 19) fYes (fCallN 2 F__law_height (faCons (fV 1) (faCons (fOp gAdd (fV 17) (fV 19)) faNil))) [19])) fNil)) [17])))
  (fSeq (fIfS (fTst (fOp gNe (fCallK 1 1 F_highest_bar (faCons (fV 1) faNil) (faCons (fV 16) faNil)) (fCB gMax (fCons (fV 18) fNil)))) (fRet (fC (.bool false))) fNext)
  (fSeq (fSet 20 (fCallN 2 F__law_pick (faOwn 0 (faCons (fL (fLst (fCons (fC .none) (fCons (fL (fLst (fCons (fTup (fCons (fC (.int 1)) (fCons (fC (.int 1)) fNil))) fNil))) (fCons (fTup (fCons (fTup (fCons (fC (.int 0)) (fCons (fC (.int 1)) fNil))) fNil)) (fCons (fTup (fCons (fTup (fCons (fC (.int 101)) (fCons (fC (.int 1)) fNil))) fNil)) (fCons (fTup (fCons (fTup (fCons (fC (.int 1)) (fCons (fUn gNeg (fC (.int 1))) fNil))) fNil)) (fCons (fTup (fCons (fTup (fCons (fC (.int 1)) fNil)) fNil)) (fCons (fOp gMul (fTup (fCons (fTup (fCons (fC (.int 1)) (fCons (fC (.int 1)) fNil))) fNil)) (fC (.int 6))) (fCons (fTup (fCons (fTup (fCons (fC (.int 1)) (fCons (fC (.bool true)) fNil))) fNil)) fNil)))))))))) faNil))))
  (fSeq (fSet 21 (fTup (fCons (fOp gMul (fTup (fCons (fC (.int 0)) fNil)) (fC (.int 59))) (fCons (fOp gMul (fTup (fCons (fC (.int 0)) fNil)) (fC (.int 58))) (fCons (fOp gMul (fTup (fCons (fC (.int 0)) fNil)) (fC (.int 57))) fNil)))))
  (fSeq (fSet 22 (fL (fLst (fCons (fRef 0 (fCallN 4 F_starts (faCons (fV 21) (faCons (fC .none) (faCons (fC .none) (faCons (fC .none) faNil)))))) (fCons (fRef 0 (fCallN 4 F_starts (faCons (fV 1) (faCons (fC .none) (faCons (fC .none) (faCons (fC .none) faNil)))))) (fCons (fRef 0 (fCallN 4 F_starts (faCons (fV 1) (faCons (fV 2) (faCons (fV 20) (faCons (fC .none) faNil)))))) (fCons (fRef 0 (fCallN 4 F_starts (faCons (fV 1) (faCons (fV 2) (faCons (fV 3) (faCons (fTupRg (fOp gAdd (fLenV 3) (fC (.int 1)))) faNil)))))) (fCons (fRef 0 (fCallN 3 F_best_order (faCons (fV 1) (faCons (fV 2) (faCons (fV 20) faNil))))) (fCons (fRef 0 (fCallN 3 F_least_waiting (faCons (fC .none) (faCons (fV 2) (faCons (fV 3) faNil))))) (fCons (fRef 0 (fCallN 2 F_longest_ship (faCons (fV 1) (faCons (fOp gAdd (fOp gPow (fC (.int 10)) (fC (.int 7))) (fC (.int 1))) faNil)))) (fCons (fRef 0 (fCallN 2 F_highest_bar (faCons (fV 1) (faCons (fC (.int 0)) faNil)))) (fCons (fRef 0 (fCallN 2 F_highest_bar (faCons (fV 21) (faCons (fC (.int 1)) faNil)))) fNil))))))))))))
  (fSeq (fSet 23 (fL (fLst (fCons (fC (.str "table")) (fCons (fC (.str "bar")) (fCons (fC (.str "ships")) (fCons (fC (.str "order")) (fCons (fC (.str "ships")) (fCons (fC (.str "table")) (fCons (fC (.str "bar")) (fCons (fC (.str "length")) (fCons (fC (.str "table")) fNil))))))))))))
  (fRet (fAndV (fOp gEq (fV 22) (fV 23)) (fNotV (fCallN 1 F_are_ships (faCons (fV 20) faNil)))))))))))))))))))))))
noncomputable def F__law_right : Sl → R PyData := fRun 23 B__law_right
theorem sc__law_right : FnScope ["dice", "table", "bar", "ships", "turn", "order", "best", "least", "own", "begun", "end", "start", "ship", "waiting", "around", "most", "length", "time", "lows", "at", "bad", "long", "told", "due"] ["dice"] (defScope s__law_right) := ⟨rfl, rfl, rfl, by decide +kernel, rfl, by decide +kernel, by decide +kernel⟩
theorem h__law_right (Y : Txt K mg c) (Z : Tabs T base mg c) (B : BadOk P w K mg base C) : Has P w K mg base 12 "_law_right" s__law_right ["dice"] (spF (PR K T C) 1 F__law_right) :=
  have nd := sc__law_right.nd
  has_of Y.s__law_right sc__law_right (fun _ _ _ _ _ _ us hl => match us, hl with | [_], _ => rfl) rfl rfl fun f A outer s H E hr => ⟨_,
  (pss_cons (ps_asg (pe_tup (pa_cons (pe_callH (h__law_table Y Z B) hr (by decide) rfl (passes_call (takes_of rfl rfl rfl rfl) (fun _ _ _ _ h => h)) (pa_cons (pv 0) (pa_cons pe_int (pa_cons pe_int pa_nil)))) (pa_cons (pe_op op_sub (pe_callH (h__law_roll Y Z B) hr (by decide) rfl (passes_call (takes_of rfl rfl rfl rfl) (fun _ _ _ _ h => h)) (pa_cons (pv 0) (pa_cons pe_int pa_nil))) pe_int) (pa_cons (pe_lst pa_nil) pa_nil)))) (pg_tup rfl (pgs_cons (pg_name (i := 1) nd rfl (by first | exact Or.inl rfl | exact Or.inr rfl)) (pgs_cons (pg_name (i := 2) nd rfl (by first | exact Or.inl rfl | exact Or.inr rfl)) (pgs_cons (pg_name (i := 3) nd rfl (by first | exact Or.inl rfl | exact Or.inr rfl)) pgs_nil)))))
  (pss_cons (ps_for (passes_of rfl) rfl (pi_range1 rfl Y.b_range (pa_cons (pe_callH (h__law_roll Y Z B) hr (by decide) rfl (passes_call (takes_of rfl rfl rfl rfl) (fun _ _ _ _ h => h)) (pa_cons (pv 0) (pa_cons pe_int pa_nil))) pa_nil)) (pg_name (i := 4) nd rfl (by first | exact Or.inl rfl | exact Or.inr rfl))
  (pss_one (ps_expr (pe_bm PySem.F.plainAttrs_list PySem.F.slot_list_append PySem.F.type_list_append mt_append (pv 3) (pa_cons (pe_tup (pa_cons (pe_op op_addAll pe_int (pe_callH (h__law_roll Y Z B) hr (by decide) rfl (passes_call (takes_of rfl rfl rfl rfl) (fun _ _ _ _ h => h)) (pa_cons (pv 0) (pa_cons pe_int pa_nil)))) (pa_cons (pe_callH (h__law_roll Y Z B) hr (by decide) rfl (passes_call (takes_of rfl rfl rfl rfl) (fun _ _ _ _ h => h)) (pa_cons (pv 0) (pa_cons pe_int pa_nil))) pa_nil))) pa_nil)))))
  (pss_cons (ps_set (i := 3) nd rfl (by first | exact Or.inl rfl | exact Or.inr rfl) (pe_callTy call_tuple_of rfl Y.b_tuple bt_tuple (pa_cons (pv 3) pa_nil)))
  (pss_cons (ps_set (i := 5) nd rfl (by first | exact Or.inl rfl | exact Or.inr rfl) (pe_callH (h__law_pick Y Z B) hr (by decide) rfl (passes_call (takes_of rfl rfl rfl rfl) (fun _ _ _ _ h => h)) (pa_cons (pv 0) (pa_cons (pe_callH (h__law_orders Y Z B) hr (by decide) rfl (passes_call (takes_of rfl rfl rfl rfl) (fun _ _ _ _ h => h)) (pa_cons (pe_callB call_len rfl Y.b_len bt_len (pa_cons (pv 3) pa_nil)) pa_nil)) pa_nil))))
  (pss_cons (ps_if (PW.pt (pw_or (pt_cmpR (op_neD hr.units) (pe_callKH (n := 3) (m := 1) (ks := ["order"]) (h_starts Y Z B) hr (by decide) rfl (passes_call (takes_of rfl rfl rfl rfl) (fun _ _ _ _ h => h)) (fun _ _ _ _ _ _ us ws h1 h2 => match us, ws, h1, h2 with | [_, _, _], [_], _, _ => rfl) (by decide) (pa_cons (pv 1) (pa_cons (pv 2) (pa_cons (pv 3) pa_nil))) (pk_cons (pv 5) pk_nil)) (pe_callH (h__law_starts Y Z B) hr (by decide) rfl (passes_call (takes_of rfl rfl rfl rfl) (fun _ _ _ _ h => h)) (pa_cons (pv 1) (pa_cons (pv 2) (pa_cons (pv 3) (pa_cons (pv 5) pa_nil))))) (nomark _)) (pw_or1 (pt_not (pt_val (pe_callH (h_are_ships Y Z B) hr (by decide) rfl (passes_call (takes_of rfl rfl rfl rfl) (fun _ _ _ _ h => h)) (pa_cons (pv 3) pa_nil))))))) (pss_one (ps_ret pe_bl)) pss_nil)
  (pss_cons (ps_asg (pe_tup (pa_cons pe_non (pa_cons pe_non pa_nil))) (pg_tup rfl (pgs_cons (pg_name (i := 6) nd rfl (by first | exact Or.inl rfl | exact Or.inr rfl)) (pgs_cons (pg_name (i := 7) nd rfl (by first | exact Or.inl rfl | exact Or.inr rfl)) pgs_nil))))
  (pss_cons (ps_for (passes_of rfl) rfl (pi_seq (pe_callB cr_sortedTT rfl Y.b_sorted bt_sorted (pa_cons (pe_callH (h__law_orders Y Z B) hr (by decide) rfl (passes_call (takes_of rfl rfl rfl rfl) (fun _ _ _ _ h => h)) (pa_cons (pe_callB call_len rfl Y.b_len bt_len (pa_cons (pv 3) pa_nil)) pa_nil)) pa_nil))) (pg_name (i := 8) nd rfl (by first | exact Or.inl rfl | exact Or.inr rfl))
  (pss_cons (ps_set (i := 9) nd rfl (by first | exact Or.inl rfl | exact Or.inr rfl) (pe_callH (h__law_starts Y Z B) hr (by decide) rfl (passes_call (takes_of rfl rfl rfl rfl) (fun _ _ _ _ h => h)) (pa_cons (pv 1) (pa_cons (pv 2) (pa_cons (pv 3) (pa_cons (pv 8) pa_nil))))))
  (pss_one (ps_if (pt_cmpR op_notN (pv 9) pe_non (nomark _)) (pss_cons (ps_set (i := 10) nd rfl (by first | exact Or.inl rfl | exact Or.inr rfl) (pe_callB (cr_max rfl) rfl Y.b_max bt_max (pa_cons (pe_op op_addAll (pe_lst (pa_cons pe_int pa_nil)) (pe_lc (own := [("start", 11), ("ship", 12)]) rfl nd (RZ.pi_zipA rfl Y.b_zip (pa_cons (pv 9) (pa_cons (pv 3) pa_nil))) (blkOk_by (own := [("start", 11), ("ship", 12)]) (N := ["dice", "table", "bar", "ships", "turn", "order", "best", "least", "own", "begun", "end", "start", "ship", "waiting", "around", "most", "length", "time", "lows", "at", "bad", "long", "told", "due"]) (sc := defScope s__law_right) (by decide +kernel)) (fun _ _ _ _ _ => (pg_tup rfl (pgs_cons (pg_name (i := 11) nd rfl (by first | exact Or.inl rfl | exact Or.inr rfl)) (pgs_cons (pg_name (i := 12) nd rfl (by first | exact Or.inl rfl | exact Or.inr rfl)) pgs_nil)))) (fun _ _ _ _ _ => pts_nil) (fun _ _ _ _ _ => (pe_op op_addAll (pv 11) (pe_ix ix_seq (pv 12) pe_int (fun _ _ => rfl)))))) pa_nil)))
  (pss_cons (ps_set (i := 13) nd rfl (by first | exact Or.inl rfl | exact Or.inr rfl) (pe_callB (cr_sum rfl) rfl Y.b_sum bt_sum (pa_cons (pe_lc (own := [("start", 11), ("ship", 12)]) rfl nd (RZ.pi_zipA rfl Y.b_zip (pa_cons (pv 9) (pa_cons (pv 3) pa_nil))) (blkOk_by (own := [("start", 11), ("ship", 12)]) (N := ["dice", "table", "bar", "ships", "turn", "order", "best", "least", "own", "begun", "end", "start", "ship", "waiting", "around", "most", "length", "time", "lows", "at", "bad", "long", "told", "due"]) (sc := defScope s__law_right) (by decide +kernel)) (fun _ _ _ _ _ => (pg_tup rfl (pgs_cons (pg_name (i := 11) nd rfl (by first | exact Or.inl rfl | exact Or.inr rfl)) (pgs_cons (pg_name (i := 12) nd rfl (by first | exact Or.inl rfl | exact Or.inr rfl)) pgs_nil)))) (fun _ _ _ _ _ => pts_nil) (fun _ _ _ _ _ => (pe_op op_sub (pv 11) (pe_ix ix_seq (pv 12) pe_int (fun _ _ => rfl))))) pa_nil)))
  (pss_cons (ps_set (i := 6) nd rfl (by first | exact Or.inl rfl | exact Or.inr rfl) (pe_ifExp (PW.pt (pw_or (pt_cmpR op_isN (pv 6) pe_non (nomark _)) (pw_or1 (pt_cmpR op_lt (pv 10) (pe_ix ix_seq (pv 6) pe_int (fun _ _ => rfl)) (nomark _))))) (pe_tup (pa_cons (pv 8) (pa_cons (pv 10) pa_nil))) (pv 6)))
  (pss_one (ps_set (i := 7) nd rfl (by first | exact Or.inl rfl | exact Or.inr rfl) (pe_ifExp (PW.pt (pw_or (pt_cmpR op_isN (pv 7) pe_non (nomark _)) (pw_or1 (pt_cmpR op_lt (pv 13) (pe_ix ix_seq (pv 7) pe_int (fun _ _ => rfl)) (nomark _))))) (pe_tup (pa_cons (pv 8) (pa_cons (pv 13) pa_nil))) (pv 7))))))) pss_nil))))
  (pss_cons (ps_if (PW.pt (pw_or (pt_cmpR (op_neD hr.units) (pe_callKH (n := 2) (m := 1) (ks := ["ships"]) (h_best_order Y Z B) hr (by decide) rfl (passes_call (takes_of rfl rfl rfl rfl) (fun _ _ _ _ h => h)) (fun _ _ _ _ _ _ us ws h1 h2 => match us, ws, h1, h2 with | [_, _], [_], _, _ => rfl) (by decide) (pa_cons (pv 1) (pa_cons (pv 2) pa_nil)) (pk_cons (pv 3) pk_nil)) (pv 6) (nomark _)) (pw_or1 (pt_cmpR (op_neD hr.units) (pe_callKH (n := 2) (m := 1) (ks := ["ships"]) (h_least_waiting Y Z B) hr (by decide) rfl (passes_call (takes_of rfl rfl rfl rfl) (fun _ _ _ _ h => h)) (fun _ _ _ _ _ _ us ws h1 h2 => match us, ws, h1, h2 with | [_, _], [_], _, _ => rfl) (by decide) (pa_cons (pv 1) (pa_cons (pv 2) pa_nil)) (pk_cons (pv 3) pk_nil)) (pv 7) (nomark _))))) (pss_one (ps_ret pe_bl)) pss_nil)
  (pss_cons (ps_par rfl nd (i := 14) (j := 15) rfl rfl (by decide) rfl rfl (pa_cons (pe_callH (h__law_cycle Y Z B) hr (by decide) rfl (passes_call (takes_of rfl rfl rfl rfl) (fun _ _ _ _ h => h)) (pa_cons (pv 1) pa_nil)) (pa_cons pe_int pa_nil)) (by rfl))
  (pss_cons (ps_for (passes_of rfl) rfl (pi_range2 rfl Y.b_range (pa_cons pe_int (pa_cons pe_int pa_nil))) (pg_name (i := 16) nd rfl (by first | exact Or.inl rfl | exact Or.inr rfl))
  (pss_one (ps_if (PW.pt (pw_and (pt_cmpR (op_eqD hr.units) (pv 15) (pe_op op_sub (pv 16) pe_int) (nomark _)) (pw_and1 (pt_cmpR op_gt (pe_callB call_len rfl Y.b_len bt_len (pa_cons (pe_lc (own := [("time", 17)]) rfl nd (pi_range1 rfl Y.b_range (pa_cons (pv 14) pa_nil)) (blkOk_by (own := [("time", 17)]) (N := ["dice", "table", "bar", "ships", "turn", "order", "best", "least", "own", "begun", "end", "start", "ship", "waiting", "around", "most", "length", "time", "lows", "at", "bad", "long", "told", "due"]) (sc := defScope s__law_right) (by decide +kernel)) (fun _ _ _ _ _ => (pg_name (i := 17) nd rfl (by first | exact Or.inl rfl | exact Or.inr rfl))) (fun _ _ _ _ _ => (pts_one (pt_val (pe_callH (h__law_lies Y Z B) hr (by decide) rfl passL (pa_cons (pv 1) (pa_cons (pv 2) (pa_cons (pv 17) (pa_cons (pv 16) pa_nil)))))))) (fun _ _ _ _ _ => pe_int)) pa_nil)) pe_int (nomark _))))) (pss_one (ps_set (i := 15) nd rfl (by first | exact Or.inl rfl | exact Or.inr rfl) (pv 16))) pss_nil)))
  (pss_cons (ps_if (pt_cmpR (op_neD hr.units) (pe_callKH (n := 1) (m := 1) (ks := ["bar"]) (h_longest_ship Y Z B) hr (by decide) rfl (passes_call (takes_of rfl rfl rfl rfl) (fun _ _ _ _ h => h)) (fun _ _ _ _ _ _ us ws h1 h2 => match us, ws, h1, h2 with | [_], [_], _, _ => rfl) (by decide) (pa_cons (pv 1) pa_nil) (pk_cons (pv 2) pk_nil)) (pv 15) (nomark _)) (pss_one (ps_ret pe_bl)) pss_nil)
  (pss_cons (ps_set (i := 16) nd rfl (by first | exact Or.inl rfl | exact Or.inr rfl) (pe_op op_addAll pe_int (pe_callH (h__law_roll Y Z B) hr (by decide) rfl (passes_call (takes_of rfl rfl rfl rfl) (fun _ _ _ _ h => h)) (pa_cons (pv 0) (pa_cons pe_int pa_nil)))))
  (pss_cons (ps_setLc (i := 18) (own := [("time", 17)]) rfl nd rfl rfl (sw_true rfl rfl rfl (by decide +kernel)) (pi_range1 rfl Y.b_range (pa_cons (pv 14) pa_nil)) (blkOk_by (own := [("time", 17)]) (N := ["dice", "table", "bar", "ships", "turn", "order", "best", "least", "own", "begun", "end", "start", "ship", "waiting", "around", "most", "length", "time", "lows", "at", "bad", "long", "told", "due"]) (sc := defScope s__law_right) (by decide +kernel)) (fun _ _ _ _ _ => (pg_name (i := 17) nd rfl (by first | exact Or.inl rfl | exact Or.inr rfl))) (fun _ _ _ _ _ => pts_nil) (fun _ _ _ _ _ => (pe_callB (cr_min rfl) rfl Y.b_min bt_min (pa_cons (pe_lc (own := [("at", 19)]) rfl nd (pi_range1 rfl Y.b_range (pa_cons (pv 16) pa_nil)) (blkOk_by (by kernel_rfl)) (fun _ _ _ _ _ => (pg_name (i := 19) nd rfl (by first | exact Or.inl rfl | exact Or.inr rfl))) (fun _ _ _ _ _ => pts_nil) (fun _ _ _ _ _ => (pe_callH (h__law_height Y Z B) hr (by decide) rfl passL (pa_cons (pv 1) (pa_cons (pe_op op_addAll (pv 17) (pv 19)) pa_nil))))) pa_nil))))
  (pss_cons (ps_if (pt_cmpR (op_neD hr.units) (pe_callKH (n := 1) (m := 1) (ks := ["length"]) (h_highest_bar Y Z B) hr (by decide) rfl (passes_call (takes_of rfl rfl rfl rfl) (fun _ _ _ _ h => h)) (fun _ _ _ _ _ _ us ws h1 h2 => match us, ws, h1, h2 with | [_], [_], _, _ => rfl) (by decide) (pa_cons (pv 1) pa_nil) (pk_cons (pv 16) pk_nil)) (pe_callB (cr_max rfl) rfl Y.b_max bt_max (pa_cons (pv 18) pa_nil)) (nomark _)) (pss_one (ps_ret pe_bl)) pss_nil)
  (pss_cons (ps_set (i := 20) nd rfl (by first | exact Or.inl rfl | exact Or.inr rfl) (pe_callH (h__law_pick Y Z B) hr (by decide) rfl (passes_call (takes_of rfl rfl rfl rfl) (fun _ _ _ _ h => h)) (pa_cons (pv 0) (pa_cons (pe_lst (pa_cons pe_non (pa_cons (pe_lst (pa_cons (pe_tup (pa_cons pe_int (pa_cons pe_int pa_nil))) pa_nil)) (pa_cons (pe_tup (pa_cons (pe_tup (pa_cons pe_int (pa_cons pe_int pa_nil))) pa_nil)) (pa_cons (pe_tup (pa_cons (pe_tup (pa_cons pe_int (pa_cons pe_int pa_nil))) pa_nil)) (pa_cons (pe_tup (pa_cons (pe_tup (pa_cons pe_int (pa_cons (pe_un un_neg pe_int) pa_nil))) pa_nil)) (pa_cons (pe_tup (pa_cons (pe_tup (pa_cons pe_int pa_nil)) pa_nil)) (pa_cons (pe_op op_mulAll (pe_tup (pa_cons (pe_tup (pa_cons pe_int (pa_cons pe_int pa_nil))) pa_nil)) pe_int) (pa_cons (pe_tup (pa_cons (pe_tup (pa_cons pe_int (pa_cons pe_bl pa_nil))) pa_nil)) pa_nil))))))))) pa_nil))))
  (pss_cons (ps_set (i := 21) nd rfl (by first | exact Or.inl rfl | exact Or.inr rfl) (pe_tup (pa_cons (pe_op op_mulAll (pe_tup (pa_cons pe_int pa_nil)) pe_int) (pa_cons (pe_op op_mulAll (pe_tup (pa_cons pe_int pa_nil)) pe_int) (pa_cons (pe_op op_mulAll (pe_tup (pa_cons pe_int pa_nil)) pe_int) pa_nil)))))
  (pss_cons (ps_set (i := 22) nd rfl (by first | exact Or.inl rfl | exact Or.inr rfl) (pe_lst (pa_cons (pe_refused (k := 9) R_ref Y.s__law_refused B Z._law_right cx_qual rfl hr (by decide) (LamX.lamS_by (by kernel_rfl)) rfl rfl (fun _ _ _ _ _ => rfl) (fun _ _ _ _ E _ _ hl => (pe_callH (h_starts Y Z B) hl (by decide) rfl (passes_call (takes_of rfl rfl rfl rfl) (fun _ _ _ _ h => h)) (pa_cons (pv 21) (pa_cons pe_non (pa_cons pe_non (pa_cons pe_non pa_nil))))))) (pa_cons (pe_refused (k := 9) R_ref Y.s__law_refused B Z._law_right cx_qual rfl hr (by decide) (LamX.lamS_by (by kernel_rfl)) rfl rfl (fun _ _ _ _ _ => rfl) (fun _ _ _ _ E _ _ hl => (pe_callH (h_starts Y Z B) hl (by decide) rfl (passes_call (takes_of rfl rfl rfl rfl) (fun _ _ _ _ h => h)) (pa_cons (pv 1) (pa_cons pe_non (pa_cons pe_non (pa_cons pe_non pa_nil))))))) (pa_cons (pe_refused (k := 9) R_ref Y.s__law_refused B Z._law_right cx_qual rfl hr (by decide) (LamX.lamS_by (by kernel_rfl)) rfl rfl (fun _ _ _ _ _ => rfl) (fun _ _ _ _ E _ _ hl => (pe_callH (h_starts Y Z B) hl (by decide) rfl (passes_call (takes_of rfl rfl rfl rfl) (fun _ _ _ _ h => h)) (pa_cons (pv 1) (pa_cons (pv 2) (pa_cons (pv 20) (pa_cons pe_non pa_nil))))))) (pa_cons (pe_refused (k := 9) R_ref Y.s__law_refused B Z._law_right cx_qual rfl hr (by decide) (LamX.lamS_by (by kernel_rfl)) rfl rfl (fun _ _ _ _ _ => rfl) (fun _ _ _ _ E _ _ hl => (pe_callH (h_starts Y Z B) hl (by decide) rfl (passes_call (takes_of rfl rfl rfl rfl) (fun _ _ _ _ h => h)) (pa_cons (pv 1) (pa_cons (pv 2) (pa_cons (pv 3) (pa_cons (pe_tupRg rfl rfl Y.b_tuple (prg_1 rfl Y.b_range (pe_op op_addAll (pe_callB call_len rfl Y.b_len bt_len (pa_cons (pv 3) pa_nil)) pe_int))) pa_nil))))))) (pa_cons (pe_refused (k := 9) R_ref Y.s__law_refused B Z._law_right cx_qual rfl hr (by decide) (LamX.lamS_by (by kernel_rfl)) rfl rfl (fun _ _ _ _ _ => rfl) (fun _ _ _ _ E _ _ hl => (pe_callH (h_best_order Y Z B) hl (by decide) rfl (passes_call (takes_of rfl rfl rfl rfl) (fun _ _ _ _ h => h)) (pa_cons (pv 1) (pa_cons (pv 2) (pa_cons (pv 20) pa_nil)))))) (pa_cons (pe_refused (k := 9) R_ref Y.s__law_refused B Z._law_right cx_qual rfl hr (by decide) (LamX.lamS_by (by kernel_rfl)) rfl rfl (fun _ _ _ _ _ => rfl) (fun _ _ _ _ E _ _ hl => (pe_callH (h_least_waiting Y Z B) hl (by decide) rfl (passes_call (takes_of rfl rfl rfl rfl) (fun _ _ _ _ h => h)) (pa_cons pe_non (pa_cons (pv 2) (pa_cons (pv 3) pa_nil)))))) (pa_cons (pe_refused (k := 8) R_ref Y.s__law_refused B Z._law_right cx_qual rfl hr (by decide) (LamX.lamS_by (by kernel_rfl)) rfl rfl (fun _ _ _ _ _ => rfl) (fun _ _ _ _ E _ _ hl => (pe_callH (h_longest_ship Y Z B) hl (by decide) rfl (passes_call (takes_of rfl rfl rfl rfl) (fun _ _ _ _ h => h)) (pa_cons (pv 1) (pa_cons (pe_op op_addAll (pe_op op_pow pe_int pe_int) pe_int) pa_nil))))) (pa_cons (pe_refused (k := 8) R_ref Y.s__law_refused B Z._law_right cx_qual rfl hr (by decide) (LamX.lamS_by (by kernel_rfl)) rfl rfl (fun _ _ _ _ _ => rfl) (fun _ _ _ _ E _ _ hl => (pe_callH (h_highest_bar Y Z B) hl (by decide) rfl (passes_call (takes_of rfl rfl rfl rfl) (fun _ _ _ _ h => h)) (pa_cons (pv 1) (pa_cons pe_int pa_nil))))) (pa_cons (pe_refused (k := 8) R_ref Y.s__law_refused B Z._law_right cx_qual rfl hr (by decide) (LamX.lamS_by (by kernel_rfl)) rfl rfl (fun _ _ _ _ _ => rfl) (fun _ _ _ _ E _ _ hl => (pe_callH (h_highest_bar Y Z B) hl (by decide) rfl (passes_call (takes_of rfl rfl rfl rfl) (fun _ _ _ _ h => h)) (pa_cons (pv 21) (pa_cons pe_int pa_nil))))) pa_nil)))))))))))
  (pss_cons (ps_set (i := 23) nd rfl (by first | exact Or.inl rfl | exact Or.inr rfl) (pe_lst (pa_cons pe_str (pa_cons pe_str (pa_cons pe_str (pa_cons pe_str (pa_cons pe_str (pa_cons pe_str (pa_cons pe_str (pa_cons pe_str (pa_cons pe_str pa_nil)))))))))))
  (pss_one (ps_ret (pe_and (pe_cmpR (op_eqD hr.units) (pv 22) (pv 23) (nomark _)) (pe_one (pe_not (pe_callH (h_are_ships Y Z B) hr (by decide) rfl (passes_call (takes_of rfl rfl rfl rfl) (fun _ _ _ _ h => h)) (pa_cons (pv 20) pa_nil))))))))))))))))))))))))),
  (sim_seq (sim_asg3F (sim_call (sim_aOwn (sim_aCons sim_int (sim_aCons sim_int sim_aNil)))) (sim_op v_sub (sim_call (sim_aOwn (sim_aCons sim_int sim_aNil))) sim_int) (sim_lst sim_nil))
  (sim_seq (sim_for (sim_rng1 (sim_cons (sim_call (sim_aOwn (sim_aCons sim_int sim_aNil))) sim_nil)) sim_gN
  (sim_app (sim_tup (sim_cons (sim_op v_add sim_int (sim_call (sim_aOwn (sim_aCons sim_int sim_aNil)))) (sim_cons (sim_call (sim_aOwn (sim_aCons sim_int sim_aNil))) sim_nil)))))
  (sim_seq (sim_set (sim_cb v_tuple (sim_cons (sim_v 3) sim_nil)))
  (sim_seq (sim_set (sim_call (sim_aOwn (sim_aCons (sim_call (sim_aCons sim_lenV sim_aNil)) sim_aNil))))
  (sim_seq (sim_ifS (sim_orT (sim_tst (sim_op v_ne (sim_callK (n := 3) (m := 1) (sim_aCons (sim_v 1) (sim_aCons (sim_v 2) (sim_aCons (sim_v 3) sim_aNil))) (sim_aCons (sim_v 5) sim_aNil)) (sim_call (sim_aCons (sim_v 1) (sim_aCons (sim_v 2) (sim_aCons (sim_v 3) (sim_aCons (sim_v 5) sim_aNil))))))) (sim_notT (sim_tstB (sim_call (sim_aCons (sim_v 3) sim_aNil))))) (sim_ret sim_bl) sim_next)
  (sim_seq (sim_asg (sim_tup (sim_cons sim_non (sim_cons sim_non sim_nil))) (sim_gTup (sim_gCons sim_gN (sim_gCons sim_gN sim_gNil))))
  (sim_seq (sim_for (sim_iSeq (sim_L (sim_sortedTT (sim_cons (sim_call (sim_aCons sim_lenV sim_aNil)) sim_nil)))) sim_gN
  (sim_seq (sim_set (sim_call (sim_aCons (sim_v 1) (sim_aCons (sim_v 2) (sim_aCons (sim_v 3) (sim_aCons (sim_v 8) sim_aNil))))))
  (sim_ifS (sim_tst (sim_op v_notN (sim_v 9) sim_non)) (sim_seq (sim_set (sim_cb v_max (sim_cons (sim_op v_add (sim_L (sim_lst (sim_cons sim_int sim_nil))) (sim_L (sim_comp (sim_zip (sim_cons (sim_v 9) (sim_cons (sim_v 3) sim_nil))) (sim_gTup (sim_gCons sim_gN (sim_gCons sim_gN sim_gNil))) sim_yes (sim_op v_add (sim_v 11) (sim_op v_ix (sim_v 12) sim_int))))) sim_nil)))
  (sim_seq (sim_set (sim_cb v_sum (sim_cons (sim_L (sim_comp (sim_zip (sim_cons (sim_v 9) (sim_cons (sim_v 3) sim_nil))) (sim_gTup (sim_gCons sim_gN (sim_gCons sim_gN sim_gNil))) sim_yes (sim_op v_sub (sim_v 11) (sim_op v_ix (sim_v 12) sim_int)))) sim_nil)))
  (sim_seq (sim_set (sim_if (sim_orT (sim_tst (sim_op v_isN (sim_v 6) sim_non)) (sim_tst (sim_op v_cmp (sim_v 10) (sim_op v_ix (sim_v 6) sim_int)))) (sim_tup (sim_cons (sim_v 8) (sim_cons (sim_v 10) sim_nil))) (sim_v 6)))
  (sim_set (sim_if (sim_orT (sim_tst (sim_op v_isN (sim_v 7) sim_non)) (sim_tst (sim_op v_cmp (sim_v 13) (sim_op v_ix (sim_v 7) sim_int)))) (sim_tup (sim_cons (sim_v 8) (sim_cons (sim_v 13) sim_nil))) (sim_v 7)))))) sim_next)))
  (sim_seq (sim_ifS (sim_orT (sim_tst (sim_op v_ne (sim_callK (n := 2) (m := 1) (sim_aCons (sim_v 1) (sim_aCons (sim_v 2) sim_aNil)) (sim_aCons (sim_v 3) sim_aNil)) (sim_v 6))) (sim_tst (sim_op v_ne (sim_callK (n := 2) (m := 1) (sim_aCons (sim_v 1) (sim_aCons (sim_v 2) sim_aNil)) (sim_aCons (sim_v 3) sim_aNil)) (sim_v 7)))) (sim_ret sim_bl) sim_next)
  (sim_seq (sim_par (sim_cons (sim_call (sim_aCons (sim_v 1) sim_aNil)) (sim_cons sim_int sim_nil)))
  (sim_seq (sim_for (sim_rng2 (sim_cons sim_int (sim_cons sim_int sim_nil))) sim_gN
  (sim_ifS (sim_andT (sim_tst (sim_op v_eq (sim_v 15) (sim_op v_sub (sim_v 16) sim_int))) (sim_tst (sim_op v_cmp (sim_cb v_len (sim_cons (sim_L (sim_comp (sim_rng1 (sim_cons (sim_v 14) sim_nil)) sim_gN (sim_tstB (sim_call (sim_aCons (sim_v 1) (sim_aCons (sim_v 2) (sim_aCons (sim_v 17) (sim_aCons (sim_v 16) sim_aNil)))))) sim_int)) sim_nil)) sim_int))) (sim_set (sim_v 16)) sim_next))
  (sim_seq (sim_ifS (sim_tst (sim_op v_ne (sim_callK (n := 1) (m := 1) (sim_aCons (sim_v 1) sim_aNil) (sim_aCons (sim_v 2) sim_aNil)) (sim_v 15))) (sim_ret sim_bl) sim_next)
  (sim_seq (sim_set (sim_op v_add sim_int (sim_call (sim_aOwn (sim_aCons sim_int sim_aNil)))))
  (sim_seq (sim_set (sim_L (sim_comp (sim_rng1 (sim_cons (sim_v 14) sim_nil)) sim_gN sim_yes (sim_cb v_min (sim_cons (sim_L (sim_comp (sim_rng1 (sim_cons (sim_v 16) sim_nil)) sim_gN sim_yes (sim_call (sim_aCons (sim_v 1) (sim_aCons (sim_op v_add (sim_v 17) (sim_v 19)) sim_aNil))))) sim_nil)))))
  (sim_seq (sim_ifS (sim_tst (sim_op v_ne (sim_callK (n := 1) (m := 1) (sim_aCons (sim_v 1) sim_aNil) (sim_aCons (sim_v 16) sim_aNil)) (sim_cb v_max (sim_cons (sim_v 18) sim_nil)))) (sim_ret sim_bl) sim_next)
  (sim_seq (sim_set (sim_call (sim_aOwn (sim_aCons (sim_L (sim_lst (sim_cons sim_non (sim_cons (sim_L (sim_lst (sim_cons (sim_tup (sim_cons sim_int (sim_cons sim_int sim_nil))) sim_nil))) (sim_cons (sim_tup (sim_cons (sim_tup (sim_cons sim_int (sim_cons sim_int sim_nil))) sim_nil)) (sim_cons (sim_tup (sim_cons (sim_tup (sim_cons sim_int (sim_cons sim_int sim_nil))) sim_nil)) (sim_cons (sim_tup (sim_cons (sim_tup (sim_cons sim_int (sim_cons (sim_un v_neg sim_int) sim_nil))) sim_nil)) (sim_cons (sim_tup (sim_cons (sim_tup (sim_cons sim_int sim_nil)) sim_nil)) (sim_cons (sim_op v_mul (sim_tup (sim_cons (sim_tup (sim_cons sim_int (sim_cons sim_int sim_nil))) sim_nil)) sim_int) (sim_cons (sim_tup (sim_cons (sim_tup (sim_cons sim_int (sim_cons sim_bl sim_nil))) sim_nil)) sim_nil)))))))))) sim_aNil))))
  (sim_seq (sim_set (sim_tup (sim_cons (sim_op v_mul (sim_tup (sim_cons sim_int sim_nil)) sim_int) (sim_cons (sim_op v_mul (sim_tup (sim_cons sim_int sim_nil)) sim_int) (sim_cons (sim_op v_mul (sim_tup (sim_cons sim_int sim_nil)) sim_int) sim_nil)))))
  (sim_seq (sim_set (sim_L (sim_lst (sim_cons (sim_ref exb_of (fun E => (sim_call (sim_aCons (sim_v 21) (sim_aCons sim_non (sim_aCons sim_non (sim_aCons sim_non sim_aNil))))))) (sim_cons (sim_ref exb_of (fun E => (sim_call (sim_aCons (sim_v 1) (sim_aCons sim_non (sim_aCons sim_non (sim_aCons sim_non sim_aNil))))))) (sim_cons (sim_ref exb_of (fun E => (sim_call (sim_aCons (sim_v 1) (sim_aCons (sim_v 2) (sim_aCons (sim_v 20) (sim_aCons sim_non sim_aNil))))))) (sim_cons (sim_ref exb_of (fun E => (sim_call (sim_aCons (sim_v 1) (sim_aCons (sim_v 2) (sim_aCons (sim_v 3) (sim_aCons (sim_tupRg (sim_op v_add sim_lenV sim_int)) sim_aNil))))))) (sim_cons (sim_ref exb_of (fun E => (sim_call (sim_aCons (sim_v 1) (sim_aCons (sim_v 2) (sim_aCons (sim_v 20) sim_aNil)))))) (sim_cons (sim_ref exb_of (fun E => (sim_call (sim_aCons sim_non (sim_aCons (sim_v 2) (sim_aCons (sim_v 3) sim_aNil)))))) (sim_cons (sim_ref exb_of (fun E => (sim_call (sim_aCons (sim_v 1) (sim_aCons (sim_op v_add (sim_op v_pow sim_int sim_int) sim_int) sim_aNil))))) (sim_cons (sim_ref exb_of (fun E => (sim_call (sim_aCons (sim_v 1) (sim_aCons sim_int sim_aNil))))) (sim_cons (sim_ref exb_of (fun E => (sim_call (sim_aCons (sim_v 21) (sim_aCons sim_int sim_aNil))))) sim_nil))))))))))))
  (sim_seq (sim_set (sim_L (sim_lst (sim_cons sim_str (sim_cons sim_str (sim_cons sim_str (sim_cons sim_str (sim_cons sim_str (sim_cons sim_str (sim_cons sim_str (sim_cons sim_str (sim_cons sim_str sim_nil))))))))))))
  (sim_ret (sim_andV (sim_op v_eq (sim_v 22) (sim_v 23)) (sim_notV (sim_call (sim_aCons (sim_v 20) sim_aNil)))))))))))))))))))))))⟩
end
end LW

namespace LW
open PySem PySem.Spec PyProof.Rows L2 FL
/-! ### the plain side, common to all laws -/
def isInt : PyData → Bool
  | .int _ => true
  | _ => false
theorem e_is_integer (d : PyData) : F_is_integer [.dat d] = .ok (.bool (isInt d)) [.dat d] := by
  cases d <;> rfl
def intIn (lo hi : Int) : PyData → Bool
  | .int i => decide (lo ≤ i) && decide (i ≤ hi)
  | _ => false
theorem e_need_integer (d : PyData) (n : Str) (lo hi : Int) (hn : n.length ≤ 1000) : F_need_integer [.dat d, .dat (.str n), .dat (.int lo), .dat (.int hi)] =
    if intIn lo hi d = true then .ok .none [.dat d, .dat (.str n), .dat (.int lo), .dat (.int hi)] else .ex ⟨0, [.str n]⟩ [.dat d, .dat (.str n), .dat (.int lo), .dat (.int hi)] := by
  cases d with
  | int i =>
    simp [F_need_integer, B_need_integer, e_is_integer, isInt, gCmp, intIn]
    by_cases h1 : i < lo
    · simp [h1, hn, show ¬ (lo ≤ i) by omega]
    · by_cases h2 : hi < i
      · simp [h1, h2, hn, show ¬ (i ≤ hi) by omega]
      · simp [h1, h2, show lo ≤ i by omega, show i ≤ hi by omega]
  | _ => simp [F_need_integer, B_need_integer, e_is_integer, isInt, gCmp, hn, intIn]
def absI (i : Int) : Int := if i < 0 then -i else i
def okH : PyData → Bool
  | .int i => decide (absI i ≤ 1000000)
  | _ => false
def isWheel : PyData → Bool
  | .tuple hs => decide (1 ≤ hs.length) && decide (hs.length ≤ 60) && hs.all okH
  | _ => false
theorem e_is_wheel (d : PyData) : F_is_wheel [.dat d] = .ok (.bool (isWheel d)) [.dat d] := by
  cases d with
  | tuple hs =>
    have h : allGo 1 (fAndV (fCallN 1 F_is_integer (faCons (fV 1) faNil)) (fOp gLe (fCB gAbs (fCons (fV 1) fNil)) (fC (.int 1000000)))) hs [.dat (.tuple hs), .un] = .ok (hs.all okH) [.dat (.tuple hs), .un] := by
      refine allGo_all fun d _ => ?_
      refine ⟨[.dat (.tuple hs), .dat d], [.dat (.tuple hs), .dat d], by simp, ?_, by simp⟩
      cases d <;> simp [e_is_integer, isInt, okH, gAbs, gCmp, absI] <;> rfl
    have k : kitB "tuple" "tuple" = some true := by decide
    simp [F_is_wheel, B_is_wheel, gIsi, tyD, k, gLen, gCmp]
    by_cases h1 : 1 ≤ hs.length
    · by_cases h2 : hs.length ≤ 60
      · simp [h1, h2, isWheel, noOwn, h, show ((1 : Int) ≤ (hs.length : Int)) by omega, show ((hs.length : Int) ≤ 60) by omega]
      · simp [h1, h2, isWheel, show ((1 : Int) ≤ (hs.length : Int)) by omega, show ¬ ((hs.length : Int) ≤ 60) by omega]
    · simp [h1, isWheel, show ¬ ((1 : Int) ≤ (hs.length : Int)) by omega]
  | _ => simp [F_is_wheel, B_is_wheel, gIsi, tyD, isWheel, show kitB "NoneType" "tuple" = some false by decide, show kitB "bool" "tuple" = some false by decide, show kitB "int" "tuple" = some false by decide, show kitB "str" "tuple" = some false by decide, show kitB "list" "tuple" = some false by decide, show kitB "dict" "tuple" = some false by decide]
def isTable : PyData → Bool
  | .tuple ws => decide (ws.length ≤ 6) && ws.all isWheel
  | _ => false
theorem e_is_table (d : PyData) : F_is_table [.dat d] = .ok (.bool (isTable d)) [.dat d] := by
  cases d with
  | tuple ws =>
    have h : allGo 1 (fCallN 1 F_is_wheel (faCons (fV 1) faNil)) ws [.dat (.tuple ws), .un] = .ok (ws.all isWheel) [.dat (.tuple ws), .un] := by
      refine allGo_all fun d _ => ?_
      exact ⟨[.dat (.tuple ws), .dat d], [.dat (.tuple ws), .dat d], by simp, by simp [e_is_wheel], by simp⟩
    simp [F_is_table, B_is_table, gIsi, tyD, show kitB "tuple" "tuple" = some true by decide, gLen, gCmp]
    by_cases h2 : ws.length ≤ 6
    · simp [h2, isTable, noOwn, h, show ((ws.length : Int) ≤ 6) by omega]
    · simp [h2, isTable, show ¬ ((ws.length : Int) ≤ 6) by omega]
  | _ => simp [F_is_table, B_is_table, gIsi, tyD, isTable, show kitB "NoneType" "tuple" = some false by decide, show kitB "bool" "tuple" = some false by decide, show kitB "int" "tuple" = some false by decide, show kitB "str" "tuple" = some false by decide, show kitB "list" "tuple" = some false by decide, show kitB "dict" "tuple" = some false by decide]
theorem e_need_table (d : PyData) (n : Str) (hn : n.length ≤ 1000) : F_need_table [.dat d, .dat (.str n)] = if isTable d = true then .ok .none [.dat d, .dat (.str n)] else .ex ⟨0, [.str n]⟩ [.dat d, .dat (.str n)] := by
  cases h : isTable d <;> simp [F_need_table, B_need_table, e_is_table, h, hn]
/-- a table of whole numbers -/
def whD (w : List Int) : PyData := .tuple (w.map .int)
def tabD (t : List (List Int)) : PyData := .tuple (t.map whD)
structure GoodW (w : List Int) : Prop where
  pos : 1 ≤ w.length
  len : w.length ≤ 60
  ok : ∀ h ∈ w, absI h ≤ 1000000
structure GoodT (t : List (List Int)) : Prop where
  len : t.length ≤ 6
  ok : ∀ w ∈ t, GoodW w
theorem isWheel_whD {w : List Int} (g : GoodW w) : isWheel (whD w) = true := by
  have : (w.map PyData.int).all okH = true := by
    rw [List.all_map, List.all_eq_true]
    intro h hh
    exact decide_eq_true (g.ok h hh)
  simp [isWheel, whD, g.pos, g.len, this]
theorem isTable_tabD {t : List (List Int)} (g : GoodT t) : isTable (tabD t) = true := by
  have : (t.map whD).all isWheel = true := by
    rw [List.all_map, List.all_eq_true]
    intro w hw
    exact isWheel_whD (g.ok w hw)
  simp [isTable, tabD, g.len, this]
/-- the height of a table at a time -/
def wAt (w : List Int) (x : Int) : Int := w.getD (x % (w.length : Int)).toNat 0
def height (t : List (List Int)) (x : Int) : Int := (t.map fun w => wAt w x).sum
theorem atI_map {w : List Int} (x : Int) (h : 1 ≤ w.length) : atI (w.map PyData.int) (x.fmod (w.length : Int)) = some (.int (wAt w x)) := by
  have p : (0 : Int) < (w.length : Int) := by omega
  have e : x.fmod (w.length : Int) = x % (w.length : Int) := Int.fmod_eq_emod_of_nonneg x (by omega)
  have h0 := Int.emod_nonneg x (by omega : (w.length : Int) ≠ 0)
  have h1 := Int.emod_lt_of_pos x p
  rw [e]
  refine atI_int h0 ?_
  rw [List.getElem?_map]
  unfold wAt
  rw [List.getD_eq_getElem?_getD, List.getElem?_eq_getElem (by omega)]
  rfl
theorem e_height_of {t : List (List Int)} (g : GoodT t) (x : Int) : F_height_of [.dat (tabD t), .dat (.int x)] = .ok (.int (height t x)) [.dat (tabD t), .dat (.int x)] := by
  simp [F_height_of, B_height_of, tabD, noOwn]
  rw [compGo_L (q := fun w => .int (wAt w x)) (fun w hw => ?_) (by have := g.len; rw [sizeLine_eq]; simp; omega)]
  · simp [gSum, toInts_map, height]
  · have gw := g.ok w hw
    have := gw.pos
    have nz : w.length ≠ 0 := by omega
    exact ⟨[.dat (.tuple (t.map whD)), .dat (.int x), .dat (whD w)], [.dat (.tuple (t.map whD)), .dat (.int x), .dat (whD w)], by simp, by simp [whD, gLen, gMod, nz, gIx, atI_map x this], by simp⟩
theorem foldl_add_map {κ : Type} (f : κ → Int) : ∀ (xs : List κ) (a : Int), xs.foldl (fun a w => a + f w) a = a + (xs.map f).sum
  | [], a => by simp
  | x :: xs, a => by
    rw [List.foldl_cons, foldl_add_map f xs, List.map_cons, List.sum_cons]
    omega
theorem e_law_height {t : List (List Int)} (g : GoodT t) (x : Int) : F__law_height [.dat (tabD t), .dat (.int x)] = .ok (.int (height t x)) [.dat (tabD t), .dat (.int x)] := by
  simp [F__law_height, B__law_height, tabD]
  have h : forGo (fgN 3) (fSet 2 (fOp gAdd (fV 2) (fOp gIx (fV 3) (fOp gMod (fV 1) (fCB gLen (fCons (fV 3) fNil)))))) (t.map whD) ((fun p : Int × Option (List Int) => [.dat (.tuple (t.map whD)), .dat (.int x), .dat (.int p.1), match p.2 with | none => .un | some w => .dat (whD w)]) (0, none)) =
      .nx ((fun p : Int × Option (List Int) => [.dat (.tuple (t.map whD)), .dat (.int x), .dat (.int p.1), match p.2 with | none => .un | some w => .dat (whD w)]) (t.foldl (fun p w => (p.1 + wAt w x, some w)) (0, none))) := by
    refine forGo_L (st := fun p : Int × Option (List Int) => [.dat (.tuple (t.map whD)), .dat (.int x), .dat (.int p.1), match p.2 with | none => .un | some w => .dat (whD w)]) (step := fun p w => (p.1 + wAt w x, some w)) fun a w hw => ?_
    have gw := g.ok w hw
    have := gw.pos
    have nz : w.length ≠ 0 := by omega
    obtain ⟨a, o⟩ := a
    cases o <;> exact ⟨_, by simp; rfl, by simp [whD, gLen, gMod, nz, gIx, gAdd, atI_map x this]⟩
  dsimp only at h
  rw [h]
  have h2 : ∀ (t : List (List Int)) (a : Int) (o : Option (List Int)), (t.foldl (fun p w => (p.1 + wAt w x, some w)) (a, o)).1 = a + (t.map fun w => wAt w x).sum := by
    intro t
    induction t with
    | nil => intro a o; simp
    | cons w t ih =>
      intro a o
      rw [List.foldl_cons, ih, List.map_cons, List.sum_cons]
      omega
  simp [h2, height]
/-! ### the dice -/
structure Dok (n : Nat) (xs : List PyData) : Prop where
  ex : ∃ a b c : Int, xs = [.int a, .int b, .int c] ∧ 0 ≤ b ∧ b < 2147480009 ∧ 0 ≤ c ∧ c + n ≤ 1000000000
theorem Dok.mono {n m : Nat} {xs : List PyData} (h : Dok n xs) (l : m ≤ n) : Dok m xs := by
  obtain ⟨a, b, c, h1, h2, h3, h4, h5⟩ := h.ex
  exact ⟨a, b, c, h1, h2, h3, h4, by omega⟩
theorem e_roll {n : Nat} {xs : List PyData} (h : Dok (n + 1) xs) (m : Int) (h0 : 0 < m) (h1 : m < 1073741824) : ∃ r xs', F__law_roll [.lst true xs, .dat (.int m)] = .ok (.int r) [.lst true xs', .dat (.int m)] ∧ 0 ≤ r ∧ r < m ∧ Dok n xs' := by
  obtain ⟨a, b, c, rfl, h2, h3, h4, h5⟩ := h.ex
  have hm : m ≠ 0 := by omega
  have hn : m.natAbs < 1073741824 := by omega
  by_cases ha : 0 < a
  · refine ⟨a.fmod m, [.int (a.fdiv m), .int b, .int c], ?_, ?_, ?_, ⟨_, _, _, rfl, h2, h3, h4, by omega⟩⟩
    · simp [F__law_roll, B__law_roll, gIx, gCmp, ha, gInt, gMod, hm, gDiv_ok (show CDivB m from ⟨hm, hn⟩), atI, ixN]
    · rw [Int.fmod_eq_emod_of_nonneg _ (by omega)]
      exact Int.emod_nonneg _ hm
    · rw [Int.fmod_eq_emod_of_nonneg _ (by omega)]
      exact Int.emod_lt_of_pos _ h0
  · refine ⟨((((b * 52501 + (c + 1) * (c + 1) * 1009 + 77).fmod 2147480009).fdiv 211).fmod m), [.int a, .int ((b * 52501 + (c + 1) * (c + 1) * 1009 + 77).fmod 2147480009), .int (c + 1)], ?_, ?_, ?_, ⟨_, _, _, rfl, ?_, ?_, by omega, by omega⟩⟩
    · have c1 : mulB b 52501 = true := mulB_r (by decide)
      have c2 : mulB (c + 1) (c + 1) = true := mulB_r (by omega)
      have c3 : mulB ((c + 1) * (c + 1)) 1009 = true := mulB_r (by decide)
      have c4 : CDivB 211 := ⟨by decide, by decide⟩
      simp [F__law_roll, B__law_roll, gIx, gCmp, ha, gInt, gMod, hm, gDiv_ok c4, atI, ixN, gAdd, gMul_ok c1, gMul_ok c2, gMul_ok c3]
    · rw [Int.fmod_eq_emod_of_nonneg _ (by omega)]
      exact Int.emod_nonneg _ hm
    · rw [Int.fmod_eq_emod_of_nonneg _ (by omega)]
      exact Int.emod_lt_of_pos _ h0
    · rw [Int.fmod_eq_emod_of_nonneg _ (by omega)]
      exact Int.emod_nonneg _ (by omega)
    · rw [Int.fmod_eq_emod_of_nonneg _ (by omega)]
      exact Int.emod_lt_of_pos _ (by omega)
theorem e_pick {n : Nat} {xs : List PyData} (h : Dok (n + 1) xs) (ds : List PyData) (h0 : ds ≠ []) (h1 : ds.length < 1073741824) : ∃ d xs', F__law_pick [.lst true xs, .dat (.list ds)] = .ok d [.lst true xs', .dat (.list ds)] ∧ d ∈ ds ∧ Dok n xs' := by
  have hp : 0 < ds.length := List.length_pos_iff.mpr h0
  obtain ⟨r, xs', q1, q2, q3, q4⟩ := e_roll h (ds.length : Int) (by omega) (by omega)
  have hr : r.toNat < ds.length := by omega
  refine ⟨ds[r.toNat], xs', ?_, List.getElem_mem hr, q4⟩
  have e : atI ds r = some ds[r.toNat] := atI_int q2 (List.getElem?_eq_getElem hr)
  simp [F__law_pick, B__law_pick, gLen, q1, gIx, e]
theorem dok_wheel {n : Nat} {xs : List PyData} (h : Dok (n + 1) xs) (wide : Int) (h0 : 0 ≤ wide) (h1 : wide ≤ 1000000) : ∃ r xs', F__law_roll [.lst true xs, .dat (.int (2 * wide + 1))] = .ok (.int r) [.lst true xs', .dat (.int (2 * wide + 1))] ∧ absI (r - wide) ≤ 1000000 ∧ Dok n xs' := by
  obtain ⟨r, xs', q1, q2, q3, q4⟩ := e_roll h (2 * wide + 1) (by omega) (by omega)
  refine ⟨r, xs', q1, ?_, q4⟩
  unfold absI
  split <;> omega
theorem ints_of {Pp : Int → Prop} : ∀ {ys : List PyData}, (∀ y ∈ ys, ∃ i : Int, y = .int i ∧ Pp i) → ∃ w : List Int, ys = w.map .int ∧ ∀ h ∈ w, Pp h
  | [], _ => ⟨[], rfl, by simp⟩
  | y :: ys, c => by
    obtain ⟨i, rfl, hi⟩ := c y List.mem_cons_self
    obtain ⟨w, rfl, hw⟩ := ints_of fun z hz => c z (List.mem_cons_of_mem _ hz)
    exact ⟨i :: w, rfl, fun h hh => by
      rcases List.mem_cons.mp hh with rfl | hh
      · exact hi
      · exact hw h hh⟩
/-- a drawn wheel -/
theorem e_law_wheel {n : Nat} {xs : List PyData} (most : Int) (hm : 1 ≤ most) (hm2 : most ≤ 60) (h : Dok (n + 62) xs) : ∃ w xs', F__law_wheel [.lst true xs, .dat (.int most)] = .ok (whD w) [.lst true xs', .dat (.int most)] ∧ (w.length : Int) ≤ most ∧ GoodW w ∧ Dok n xs' := by
  obtain ⟨d, xs1, q1, q2, q3⟩ := e_pick (n := n + 61) h [.int 1, .int 3, .int 9, .int 1000000] (by simp) (by simp)
  obtain ⟨wide, rfl, w0, w1⟩ : ∃ wide : Int, d = .int wide ∧ 0 ≤ wide ∧ wide ≤ 1000000 := by
    simp at q2
    rcases q2 with rfl | rfl | rfl | rfl
    · exact ⟨1, rfl, by decide, by decide⟩
    · exact ⟨3, rfl, by decide, by decide⟩
    · exact ⟨9, rfl, by decide, by decide⟩
    · exact ⟨1000000, rfl, by decide, by decide⟩
  obtain ⟨r, xs2, r1, r2, r3, r4⟩ := e_roll (n := n + 60) q3 most (by omega) (by omega)
  let S : Nat → Sl → Prop := fun k e => ∃ ys, e = [.lst true ys, .dat (.int most), .dat (.int wide), .un] ∧ Dok (n + k) ys
  have hl : (rng 0 (1 + r).toNat 1).length = (1 + r).toNat := by simp [rng]
  obtain ⟨ys, e', c1, c2, c3, c4⟩ := compGo_inv (t := fgN 3) (own := [3]) (fa := fOp gDif (fCallN 2 F__law_roll (faOwn 0 (faCons (fOp gAdd (fOp gMul (fC (.int 2)) (fV 2)) (fC (.int 1))) faNil))) (fV 2)) S (fun y => ∃ i : Int, y = .int i ∧ absI i ≤ 1000000) (ds := rng 0 (1 + r).toNat 1) (acc := []) (e := [.lst true xs2, .dat (.int most), .dat (.int wide), .un])
    (fun k e d hS hd => by
      obtain ⟨zs, rfl, hz⟩ := hS
      obtain ⟨v, zs', v1, v2, v3⟩ := dok_wheel (n := n + k) hz wide w0 w1
      have cm : mulB 2 wide = true := mulB_l (by decide)
      exact ⟨[.lst true zs, .dat (.int most), .dat (.int wide), .dat d], [.lst true zs', .dat (.int most), .dat (.int wide), .dat d], .int (v - wide), by simp, by simp [gMul_ok cm, gAdd, v1, gDif], ⟨_, rfl, v2⟩, zs', by simp, v3⟩)
    ⟨xs2, rfl, r4.mono (by rw [hl]; omega)⟩ (by rw [hl, sizeLine_eq]; simp; omega)
  obtain ⟨zs, rfl, hz⟩ := c4
  obtain ⟨w, rfl, hw⟩ := ints_of c3
  rw [hl, List.length_map] at c2
  refine ⟨w, zs, ?_, by omega, ⟨by omega, by omega, hw⟩, hz⟩
  have b : rgB (1 + r) = true := rgB_ok (by omega) (by omega)
  simp [F__law_wheel, B__law_wheel, show 4 ≤ sizeLine by rw [sizeLine_eq]; omega, q1, r1, gAdd, b, noOwn, c1, gTuple, whD]
theorem tab_of {Pp : List Int → Prop} : ∀ {ys : List PyData}, (∀ y ∈ ys, ∃ i : List Int, y = whD i ∧ Pp i) → ∃ w : List (List Int), ys = w.map whD ∧ ∀ h ∈ w, Pp h
  | [], _ => ⟨[], rfl, by simp⟩
  | y :: ys, c => by
    obtain ⟨i, rfl, hi⟩ := c y List.mem_cons_self
    obtain ⟨w, rfl, hw⟩ := tab_of fun z hz => c z (List.mem_cons_of_mem _ hz)
    exact ⟨i :: w, rfl, fun h hh => by
      rcases List.mem_cons.mp hh with rfl | hh
      · exact hi
      · exact hw h hh⟩
/-- a drawn table -/
theorem e_law_table {n : Nat} {xs : List PyData} (many most : Int) (hk : 0 ≤ many) (hk2 : many ≤ 6) (hm : 1 ≤ most) (hm2 : most ≤ 60) (h : Dok (n + 400) xs) : ∃ t xs', F__law_table [.lst true xs, .dat (.int many), .dat (.int most)] = .ok (tabD t) [.lst true xs', .dat (.int many), .dat (.int most)] ∧ (t.length : Int) ≤ many ∧ (∀ w ∈ t, (w.length : Int) ≤ most) ∧ GoodT t ∧ Dok n xs' := by
  obtain ⟨r, xs2, r1, r2, r3, r4⟩ := e_roll (n := n + 399) h (many + 1) (by omega) (by omega)
  let S : Nat → Sl → Prop := fun k e => ∃ ys, e = [.lst true ys, .dat (.int many), .dat (.int most), .un] ∧ Dok (n + 62 * k) ys
  have hl : (rng 0 r.toNat 1).length = r.toNat := by simp [rng]
  obtain ⟨ys, e', c1, c2, c3, c4⟩ := compGo_inv (t := fgN 3) (own := [3]) (fa := fCallN 2 F__law_wheel (faOwn 0 (faCons (fV 2) faNil))) S (fun y => ∃ w : List Int, y = whD w ∧ ((w.length : Int) ≤ most ∧ GoodW w)) (ds := rng 0 r.toNat 1) (acc := []) (e := [.lst true xs2, .dat (.int many), .dat (.int most), .un])
    (fun k e d hS hd => by
      obtain ⟨zs, rfl, hz⟩ := hS
      obtain ⟨v, zs', v1, v2, v3, v4⟩ := e_law_wheel (n := n + 62 * k) most hm hm2 (hz.mono (by omega))
      exact ⟨[.lst true zs, .dat (.int many), .dat (.int most), .dat d], [.lst true zs', .dat (.int many), .dat (.int most), .dat d], whD v, by simp, by simp [v1], ⟨_, rfl, v2, v3⟩, zs', by simp, v4⟩)
    ⟨xs2, rfl, r4.mono (by rw [hl]; omega)⟩ (by rw [hl, sizeLine_eq]; simp; omega)
  obtain ⟨zs, rfl, hz⟩ := c4
  obtain ⟨w, rfl, hw⟩ := tab_of c3
  rw [hl, List.length_map] at c2
  refine ⟨w, zs, ?_, by omega, fun x hx => (hw x hx).1, ⟨by omega, fun x hx => (hw x hx).2⟩, hz⟩
  have b : rgB r = true := rgB_ok (by omega) (by omega)
  simp [F__law_table, B__law_table, r1, gAdd, b, noOwn, c1, gTuple, tabD]
end LW

namespace LW
open PySem PySem.Spec PyProof.Rows L2 FL
/-! ### common to the laws: short forms -/
abbrev iL (xs : List Int) : PyData := .list (xs.map .int)
abbrev iT (xs : List Int) : PyData := .tuple (xs.map .int)
abbrev nI (n : Nat) : PyData := .int (n : Int)
abbrev nT (ts : List Nat) : PyData := .tuple (ts.map nI)
abbrev nL (xs : List Nat) : PyData := .list (xs.map nI)
theorem gNe_int (x y : Int) : gNe (.int x) (.int y) = some (.bool (!(x == y))) := rfl
theorem gEq_int (x y : Int) : gEq (.int x) (.int y) = some (.bool (x == y)) := rfl
theorem atI_iL {xs : List Int} {i : Int} {j : Nat} (e : i = (j : Int)) (h : j < xs.length) : atI (xs.map PyData.int) i = some (.int (xs.getD j 0)) := by
  subst e
  rw [atI_nat (v := .int (xs.getD j 0))]
  rw [List.getElem?_map, List.getD_eq_getElem?_getD, List.getElem?_eq_getElem h]
  rfl
theorem rng_nat (n : Nat) : rng 0 (n : Int).toNat 1 = (List.range n).map nI := by
  rw [Int.toNat_natCast, rng]
  refine List.map_congr_left fun i _ => ?_
  show PyData.int (0 + (i : Int) * 1) = PyData.int (i : Int)
  congr 1
  omega
theorem seq_nx {f g : FS} {e e1 : Sl} (h : f e = .nx e1) : fSeq f g e = g e1 := by
  rw [ev_Seq, h, ev_seqn]
theorem gTen : gPow (.int 10) (.int 12) = some (.int 1000000000000) := rfl
theorem gEq_self {d : PyData} (h : SeqAt.shaped d = true) : gEq d d = some (.bool true) := by
  unfold gEq
  rw [if_pos ⟨h, h⟩, SeqAt.eqv_refl d (SeqAt.canLay_of_shaped h)]
theorem gNe_self {d : PyData} (h : SeqAt.shaped d = true) : gNe d d = some (.bool false) := by
  unfold gNe
  rw [if_pos ⟨h, h⟩, SeqAt.eqv_refl d (SeqAt.canLay_of_shaped h)]
  rfl
abbrev bad7 : PyData := .tuple (List.replicate (7 : Int).toNat [PyData.tuple [.int 1]]).flatten
theorem gM7 : gMul (.tuple [.tuple [.int 1]]) (.int 7) = some bad7 := rfl
theorem bads (d : PyData) (h : d ∈ [PyData.none, .list [], .tuple [.tuple []], .tuple [.tuple [.int 1], .list [.int 1]], .tuple [.int 1], .tuple [.tuple [.bool true]], .tuple [.tuple [.int 1000001]], bad7]) : isTable d = false := by
  simp only [List.mem_cons, List.not_mem_nil, or_false] at h
  rcases h with rfl | rfl | rfl | rfl | rfl | rfl | rfl | rfl <;> decide
theorem lay_ints {κ : Type} (f : κ → Int) : ∀ xs : List κ, PyData.canLayAll0 (xs.map fun x => .int (f x)) = true ∧ PyData.depthAll (xs.map fun x => .int (f x)) = 0
  | [] => ⟨rfl, rfl⟩
  | x :: xs => by
    obtain ⟨h1, h2⟩ := lay_ints f xs
    rw [List.map_cons, PyData.canLayAll0, PyData.depthAll, h1, h2]
    exact ⟨rfl, rfl⟩
theorem shaped_ints {κ : Type} (f : κ → Int) (xs : List κ) : SeqAt.shaped (.tuple (xs.map fun x => .int (f x))) = true := by
  obtain ⟨h1, h2⟩ := lay_ints f xs
  unfold SeqAt.shaped
  rw [PyData.canLay0, PyData.depth, h1, h2]
  rfl
theorem exists_imp_step {e e' : Sl} {f g : FS} {α : Type} {c : α → Sl} (h : f e = g e') (k : ∃ x : α, g e' = .rt (.bool true) (c x)) : ∃ x : α, f e = .rt (.bool true) (c x) := by
  rw [h]
  exact k
theorem shaped_intL {κ : Type} (f : κ → Int) (xs : List κ) : SeqAt.shaped (.list (xs.map fun x => .int (f x))) = true := by
  obtain ⟨h1, h2⟩ := lay_ints f xs
  unfold SeqAt.shaped
  rw [PyData.canLay0, PyData.depth, h1, h2]
  rfl
theorem rng_n (n : Nat) : rng 0 n 1 = (List.range n).map nI := by
  have := rng_nat n
  rw [Int.toNat_natCast] at this
  exact this
theorem toInts_id (L : List Int) : toInts (L.map .int) = some L := by
  have t := toInts_map (fun x : Int => x) L
  rw [List.map_id'] at t
  exact t
theorem gMin_ints {L : List Int} (h : L ≠ []) : gMin [.list (L.map .int)] = some (.int (minL L)) := by
  have : L.length ≠ 0 := fun z => h (List.eq_nil_of_length_eq_zero z)
  simp only [gMin, toInts_id, Option.bind_some, if_neg this]
theorem gMax_ints {L : List Int} (h : L ≠ []) : gMax [.list (L.map .int)] = some (.int (maxL L)) := by
  have : L.length ≠ 0 := fun z => h (List.eq_nil_of_length_eq_zero z)
  simp only [gMax, toInts_id, Option.bind_some, if_neg this]
theorem gSum_ints (L : List Int) : gSum [.list (L.map .int)] = some (.int L.sum) := by
  simp only [gSum, toInts_id, Option.map_some]
theorem gIsN_n : gIsN .none .none = some (.bool true) := rfl
theorem gIsN_t (ds : List PyData) : gIsN (.tuple ds) .none = some (.bool false) := rfl
theorem gIsN_i (i : Int) : gIsN (.int i) .none = some (.bool false) := rfl
theorem gNotN_n : gNotN .none .none = some (.bool false) := rfl
theorem gNotN_t (ds : List PyData) : gNotN (.tuple ds) .none = some (.bool true) := rfl
theorem gNotN_i (i : Int) : gNotN (.int i) .none = some (.bool true) := rfl
theorem rng_from (a b : Nat) : rng (a : Int) ((b : Int) - (a : Int)).toNat 1 = (List.range' a (b - a)).map nI := by
  unfold rng
  rw [show ((b : Int) - (a : Int)).toNat = b - a by omega, List.range'_eq_map_range, List.map_map]
  refine List.map_congr_left fun i _ => ?_
  show PyData.int ((a : Int) + (i : Int) * 1) = PyData.int ((a + i : Nat) : Int)
  congr 1
  omega
theorem rng_int (a : Int) (n : Nat) : rng a n 1 = (List.range n).map fun (i : Nat) => .int (a + (i : Int)) := by
  unfold rng
  refine List.map_congr_left fun i _ => ?_
  show PyData.int (a + (i : Int) * 1) = PyData.int (a + (i : Int))
  congr 1
  omega
end LW

namespace LW
open PySem PySem.Spec PyProof.Rows L2 FL
/-! ### greatest common divisors, rounds -/
theorem forGo_bk {t : FG} {f : FS} {d : PyData} {ds : List PyData} {e e1 e2 : Sl} (h1 : t d e = some e1) (h2 : f e1 = .bk e2) : forGo t f (d :: ds) e = .nx e2 := by
  simp [forGo, h1, h2]
theorem divB_small {g : Nat} (h0 : 0 < g) (h1 : g ≤ 1000000) : CDivB (g : Int) := by
  unfold CDivB
  omega
theorem fdiv_nat (a g : Nat) : (a : Int).fdiv (g : Int) = ((a / g : Nat) : Int) := by
  rw [Int.fdiv_eq_ediv_of_nonneg _ (by omega)]
  rfl
theorem fmod_nat (a g : Nat) : (a : Int).fmod (g : Int) = ((a % g : Nat) : Int) := by
  rw [Int.fmod_eq_emod_of_nonneg _ (by omega)]
  rfl
theorem gcd_step (a b : Nat) : Nat.gcd b (a % b) = Nat.gcd a b := by
  rw [Nat.gcd_comm, ← Nat.gcd_rec, Nat.gcd_comm]
theorem common_loop : ∀ (b a : Nat), fWhile (fTst (fOp gGt (fV 1) (fC (.int 0)))) (fPar 0 1 (fCons (fV 1) (fCons (fOp gMod (fV 0) (fV 1)) fNil))) [.dat (.int (a : Nat)), .dat (.int (b : Nat))] = .nx [.dat (.int ((Nat.gcd a b : Nat) : Int)), .dat (.int 0)] := by
  intro b
  induction b using Nat.strongRecOn with
  | ind b ih =>
    intro a
    by_cases hb : b = 0
    · subst hb
      rw [fWhile_f (e1 := [.dat (.int (a : Nat)), .dat (.int 0)])]
      · rw [Nat.gcd_zero_right]
      · simp [gCmp]
    · have p : 0 < b := by omega
      have c : (0 : Int) < (b : Int) := by omega
      rw [fWhile_t (e1 := [.dat (.int (a : Nat)), .dat (.int (b : Nat))]) (e2 := [.dat (.int (b : Nat)), .dat (.int ((a % b : Nat) : Int))])]
      · rw [ih (a % b) (Nat.mod_lt _ p) b, gcd_step]
      · simp [gCmp, p]
      · simp [gMod, hb, fmod_nat]
theorem e_common (a b : Nat) : F_common [.dat (.int (a : Nat)), .dat (.int (b : Nat))] = .ok (.int ((Nat.gcd a b : Nat) : Int)) [.dat (.int (a : Nat)), .dat (.int (b : Nat))] := by
  simp [F_common, B_common, common_loop]
theorem lcm_eq (a b : Nat) : a / Nat.gcd a b * b = Nat.lcm a b := by
  unfold Nat.lcm
  exact Nat.div_mul_right_comm (Nat.gcd_dvd_left a b) b
theorem e_together (a b : Nat) (h0 : 0 < b) (h1 : b ≤ 1000000) : F_together [.dat (.int (a : Nat)), .dat (.int (b : Nat))] = .ok (.int ((Nat.lcm a b : Nat) : Int)) [.dat (.int (a : Nat)), .dat (.int (b : Nat))] := by
  have g0 : 0 < Nat.gcd a b := Nat.gcd_pos_of_pos_right a h0
  have g1 : Nat.gcd a b ≤ 1000000 := Nat.le_trans (Nat.gcd_le_right a h0) h1
  have m : mulB ((a / Nat.gcd a b : Nat) : Int) (b : Int) = true := mulB_r (by omega)
  have e : ((a / Nat.gcd a b : Nat) : Int) * (b : Int) = ((Nat.lcm a b : Nat) : Int) := by
    rw [← lcm_eq a b]
    exact (Int.natCast_mul _ _).symm
  simp only [F_together, B_together, ev_Run, ev_Ret, ev_Op, ev_CallN, ev_aCons, ev_aNil, ev_V, List.replicate, List.append_nil, List.getElem?_cons_zero, List.getElem?_cons_succ, ev_ok, List.length_cons, List.length_nil, Nat.zero_add, Nat.reduceAdd, if_true, ev_callF, ev_oo0, ev_oo1, ev_so0, ev_so1, Option.map_some, e_common, ev_back, ev_oa0, ev_oa1, Option.map_none, gDiv_ok (divB_small g0 g1), ev_some, fdiv_nat, gMul_ok m, ev_oko, e, ev_fin, ev_outs1, ev_outs0, ev_ownD, Bool.false_eq_true, if_false]
def cyc (t : List (List Int)) : Nat := t.foldl (fun a w => Nat.lcm a w.length) 1
def LenOk (t : List (List Int)) : Prop := ∀ w ∈ t, 1 ≤ w.length ∧ w.length ≤ 60
abbrev cst (t : List (List Int)) (p : Nat × Option (List Int)) : Sl := [.dat (tabD t), .dat (.int (p.1 : Nat)), match p.2 with | none => .un | some w => .dat (whD w)]
theorem cyc_fold : ∀ (t : List (List Int)) (a : Nat) (o : Option (List Int)), (t.foldl (fun (p : Nat × Option (List Int)) w => (Nat.lcm p.1 w.length, some w)) (a, o)).1 = t.foldl (fun a w => Nat.lcm a w.length) a
  | [], _, _ => rfl
  | w :: t, a, o => cyc_fold t _ _
theorem e_cycle_of {t : List (List Int)} (g : LenOk t) : F_cycle_of [.dat (tabD t)] = .ok (.int ((cyc t : Nat) : Int)) [.dat (tabD t)] := by
  have h : forGo (fgN 2) (fSet 1 (fCallN 2 F_together (faCons (fV 1) (faCons (fCB gLen (fCons (fV 2) fNil)) faNil)))) (t.map whD) (cst t (1, none)) = .nx (cst t (t.foldl (fun (p : Nat × Option (List Int)) w => (Nat.lcm p.1 w.length, some w)) (1, none))) := by
    refine forGo_L (st := cst t) (step := fun p w => (Nat.lcm p.1 w.length, some w)) fun a w hw => ?_
    obtain ⟨w1, w2⟩ := g w hw
    have T := e_together a.1 w.length (by omega) (by omega)
    obtain ⟨a, o⟩ := a
    cases o <;> exact ⟨_, by simp; rfl, by simp [whD, gLen, T]⟩
  have e1 : cst t (1, none) = [.dat (.tuple (t.map whD)), .dat (.int 1), .un] := rfl
  have e2 := cyc_fold t 1 none
  rw [e1] at h
  simp [F_cycle_of, B_cycle_of, tabD, h]
  exact congrArg Nat.cast e2
/-! the law's own -/
theorem lgcd_loop : ∀ (b a : Nat) (ds : List PyData) (y : Slot), y.pin = false → b < ds.length → ∃ y', forGo (fgN 2) (fSeq (fIfS (fTst (fOp gEq (fV 1) (fC (.int 0)))) fBreak fNext) (fPar 0 1 (fCons (fV 1) (fCons (fOp gMod (fV 0) (fV 1)) fNil)))) ds [.dat (.int (a : Nat)), .dat (.int (b : Nat)), y] = .nx [.dat (.int ((Nat.gcd a b : Nat) : Int)), .dat (.int 0), y'] := by
  intro b
  induction b using Nat.strongRecOn with
  | ind b ih =>
    intro a ds y hy hl
    cases ds with
    | nil => simp at hl
    | cons d ds =>
      by_cases hb : b = 0
      · subst hb
        refine ⟨.dat d, ?_⟩
        rw [forGo_bk (e1 := [.dat (.int (a : Nat)), .dat (.int 0), .dat d]) (e2 := [.dat (.int (a : Nat)), .dat (.int 0), .dat d])]
        · rw [Nat.gcd_zero_right]
        · simp [hy]
        · simp [gEq_int]
      · have p : 0 < b := by omega
        obtain ⟨y', h⟩ := ih (a % b) (Nat.mod_lt _ p) b ds (.dat d) rfl (by rw [List.length_cons] at hl; have := Nat.mod_lt a p; omega)
        refine ⟨y', ?_⟩
        rw [forGo_cons (e1 := [.dat (.int (a : Nat)), .dat (.int (b : Nat)), .dat d]) (e2 := [.dat (.int (b : Nat)), .dat (.int ((a % b : Nat) : Int)), .dat d])]
        · rw [h, gcd_step]
        · simp [hy]
        · have nz : ((b : Int) == 0) = false := by
            simp
            omega
          simp [gEq_int, nz, gMod, hb, fmod_nat]
theorem e_law_gcd (a b : Nat) (hb : b < 400) : F__law_gcd [.dat (.int (a : Nat)), .dat (.int (b : Nat))] = .ok (.int ((Nat.gcd a b : Nat) : Int)) [.dat (.int (a : Nat)), .dat (.int (b : Nat))] := by
  obtain ⟨y, h⟩ := lgcd_loop b a (rng 0 (400 : Int).toNat 1) .un rfl (by simp [rng]; omega)
  have r : rgB 400 = true := rgB_ok (by decide) (by decide)
  have na : ¬ (a : Int) < 0 := by omega
  have nb : ¬ (b : Int) < 0 := by omega
  have e4 : (400 : Int).toNat = 400 := rfl
  rw [e4] at h
  simp [F__law_gcd, B__law_gcd, gAbs, na, nb, r, h]
theorem e_law_cycle {t : List (List Int)} (g : LenOk t) : F__law_cycle [.dat (tabD t)] = .ok (.int ((cyc t : Nat) : Int)) [.dat (tabD t)] := by
  have h : forGo (fgN 2) (fSet 1 (fOp gDiv (fOp gMul (fV 1) (fCB gLen (fCons (fV 2) fNil))) (fCallN 2 F__law_gcd (faCons (fV 1) (faCons (fCB gLen (fCons (fV 2) fNil)) faNil))))) (t.map whD) (cst t (1, none)) = .nx (cst t (t.foldl (fun (p : Nat × Option (List Int)) w => (Nat.lcm p.1 w.length, some w)) (1, none))) := by
    refine forGo_L (st := cst t) (step := fun p w => (Nat.lcm p.1 w.length, some w)) fun a w hw => ?_
    obtain ⟨w1, w2⟩ := g w hw
    obtain ⟨a, o⟩ := a
    have T := e_law_gcd a w.length (by omega)
    have g0 : 0 < Nat.gcd a w.length := Nat.gcd_pos_of_pos_right a (by omega)
    have g1 : Nat.gcd a w.length ≤ 1000000 := Nat.le_trans (Nat.gcd_le_right a (by omega)) (by omega)
    have m : gMul (.int (a : Nat)) (.int ((w.length : Nat) : Int)) = some (.int ((a : Int) * (w.length : Int))) := gMul_ok (mulB_r (by omega))
    have D : gDiv (.int ((a : Int) * (w.length : Int))) (.int ((Nat.gcd a w.length : Nat) : Int)) = some (.int ((Nat.lcm a w.length : Nat) : Int)) := by
      rw [gDiv_ok (divB_small g0 g1), ← Int.natCast_mul, fdiv_nat]
      rfl
    cases o <;> exact ⟨_, by simp; rfl, by simp [whD, gLen, T, m, D]⟩
  have e1 : cst t (1, none) = [.dat (.tuple (t.map whD)), .dat (.int 1), .un] := rfl
  have e2 := cyc_fold t 1 none
  rw [e1] at h
  simp [F__law_cycle, B__law_cycle, tabD, h]
  exact congrArg Nat.cast e2
end LW

namespace LW
open PySem PySem.Spec PyProof.Rows L2 FL
/-! ### common to the laws: loops over a range, rounds -/
/-- the slot of a loop's name behind i turns -/
def lv : Nat → Slot
  | 0 => .un
  | k + 1 => .dat (nI k)
@[simp] theorem lv_pin (i : Nat) : (lv i).pin = false := by cases i <;> rfl
@[simp] theorem lv_own (i : Nat) : (lv i).own = false := by cases i <;> rfl
theorem forGo_R {t : FG} {f : FS} {st : Nat → Sl} {N : Nat} (h : ∀ i, i < N → ∃ e1, t (nI i) (st i) = some e1 ∧ f e1 = .nx (st (i + 1))) : forGo t f ((List.range N).map nI) (st 0) = .nx (st N) := by
  have gen : ∀ (k i : Nat), i + k = N → forGo t f ((List.range' i k).map nI) (st i) = .nx (st N) := by
    intro k
    induction k with
    | zero =>
      intro i hi
      rw [show i = N by omega]
      rfl
    | succ k ih =>
      intro i hi
      obtain ⟨e1, h1, h2⟩ := h i (by omega)
      rw [List.range'_succ, List.map_cons, forGo_cons h1 h2]
      exact ih (i + 1) (by omega)
  rw [List.range_eq_range']
  exact gen N 0 (by omega)
theorem forGo_RF {t : FG} {f : FS} {st : Nat → Sl} {g : Nat → PyData} {N j : Nat} {v : PyData} {e2 : Sl} (hj : j < N) (h : ∀ i, i < j → ∃ e1, t (g i) (st i) = some e1 ∧ f e1 = .nx (st (i + 1))) (h2 : ∃ e1, t (g j) (st j) = some e1 ∧ f e1 = .rt v e2) : forGo t f ((List.range N).map g) (st 0) = .rt v e2 := by
  have gen : ∀ (k i : Nat), i + k = N → i ≤ j → forGo t f ((List.range' i k).map g) (st i) = .rt v e2 := by
    intro k
    induction k with
    | zero =>
      intro i hi hj'
      omega
    | succ k ih =>
      intro i hi hj'
      rw [List.range'_succ, List.map_cons]
      by_cases e : i = j
      · subst e
        obtain ⟨e1, h1, h3⟩ := h2
        exact forGo_rt h1 h3
      · obtain ⟨e1, h1, h3⟩ := h i (by omega)
        rw [forGo_cons h1 h3]
        exact ih (i + 1) (by omega) (by omega)
  rw [List.range_eq_range']
  exact gen N 0 (by omega) (by omega)
theorem forGo_RG {t : FG} {f : FS} {st : Nat → Sl} {g : Nat → PyData} {N : Nat} (h : ∀ i, i < N → ∃ e1, t (g i) (st i) = some e1 ∧ f e1 = .nx (st (i + 1))) : forGo t f ((List.range N).map g) (st 0) = .nx (st N) := by
  have gen : ∀ (k i : Nat), i + k = N → forGo t f ((List.range' i k).map g) (st i) = .nx (st N) := by
    intro k
    induction k with
    | zero =>
      intro i hi
      rw [show i = N by omega]
      rfl
    | succ k ih =>
      intro i hi
      obtain ⟨e1, h1, h2⟩ := h i (by omega)
      rw [List.range'_succ, List.map_cons, forGo_cons h1 h2]
      exact ih (i + 1) (by omega)
  rw [List.range_eq_range']
  exact gen N 0 (by omega)
theorem filter_succ (p : Nat → Bool) (i : Nat) : (List.range (i + 1)).filter p = (List.range i).filter p ++ if p i = true then [i] else [] := by
  rw [List.range_succ, List.filter_append]
  congr 1
  by_cases h : p i = true <;> simp [h]
theorem lenOk_of {t : List (List Int)} (g : GoodT t) : LenOk t := fun w hw => ⟨(g.ok w hw).pos, (g.ok w hw).len⟩
theorem LenOk.app {a b : List (List Int)} (h1 : LenOk a) (h2 : LenOk b) : LenOk (a ++ b) := fun w hw => (List.mem_append.mp hw).elim (h1 w) (h2 w)
theorem cat_tab {a b : List (List Int)} (g1 : GoodT a) (g2 : GoodT b) : gAdd (tabD a) (tabD b) = some (tabD (a ++ b)) := by
  have h : (a.map whD).length + (b.map whD).length ≤ sizeLine := by
    have := g1.len
    have := g2.len
    rw [sizeLine_eq]
    simp
    omega
  unfold tabD gAdd
  dsimp only
  rw [if_pos h, List.map_append]
theorem cyc_pos {t : List (List Int)} (g : LenOk t) : 0 < cyc t := by
  have gen : ∀ (t : List (List Int)) (a : Nat), LenOk t → 0 < a → 0 < t.foldl (fun a w => Nat.lcm a w.length) a := by
    intro t
    induction t with
    | nil => exact fun a _ h => h
    | cons w t ih =>
      intro a g h
      exact ih _ (fun v hv => g v (List.mem_cons_of_mem _ hv)) (Nat.lcm_pos h (g w List.mem_cons_self).1)
  exact gen t 1 g (by decide)
theorem cyc_dvd_of {t : List (List Int)} {m : Nat} (h : ∀ w ∈ t, w.length ∣ m) : cyc t ∣ m := by
  have gen : ∀ (t : List (List Int)) (a : Nat), (∀ w ∈ t, w.length ∣ m) → a ∣ m → t.foldl (fun a w => Nat.lcm a w.length) a ∣ m := by
    intro t
    induction t with
    | nil => exact fun a _ h => h
    | cons w t ih => exact fun a g h => ih _ (fun v hv => g v (List.mem_cons_of_mem _ hv)) (Nat.lcm_dvd h (g w List.mem_cons_self))
  exact gen t 1 h (Nat.one_dvd m)
theorem dvd_fold : ∀ (t : List (List Int)) (a : Nat), a ∣ t.foldl (fun a w => Nat.lcm a w.length) a
  | [], a => Nat.dvd_refl a
  | w :: t, a => Nat.dvd_trans (Nat.dvd_lcm_left a w.length) (dvd_fold t _)
theorem len_dvd_cyc {t : List (List Int)} {w : List Int} (h : w ∈ t) : w.length ∣ cyc t := by
  have gen : ∀ (t : List (List Int)) (a : Nat), w ∈ t → w.length ∣ t.foldl (fun a w => Nat.lcm a w.length) a := by
    intro t
    induction t with
    | nil => exact fun a h => by cases h
    | cons v t ih =>
      intro a h
      rcases List.mem_cons.mp h with rfl | h
      · exact Nat.dvd_trans (Nat.dvd_lcm_right a w.length) (dvd_fold t _)
      · exact ih _ h
  exact gen t 1 h
def lf (f : Nat → Int) : Nat → Slot
  | 0 => .un
  | k + 1 => .dat (.int (f k))
@[simp] theorem lf_pin (f : Nat → Int) (i : Nat) : (lf f i).pin = false := by cases i <;> rfl
@[simp] theorem lf_own (f : Nat → Int) (i : Nat) : (lf f i).own = false := by cases i <;> rfl
def nxtD (x : Int) : Option Nat → PyData
  | none => .none
  | some j => .int (x + (j : Int))
theorem wAt_mem {w : List Int} (x : Int) : wAt w x = 0 ∨ wAt w x ∈ w := by
  unfold wAt
  rw [List.getD_eq_getElem?_getD]
  cases q : w[(x % (w.length : Int)).toNat]? with
  | none => exact .inl rfl
  | some v => exact .inr (List.mem_of_getElem? q)
theorem wAt_abs {w : List Int} (g : GoodW w) (x : Int) : absI (wAt w x) ≤ 1000000 := by
  rcases wAt_mem (w := w) x with h | h
  · rw [h]
    decide
  · exact g.ok _ h
theorem height_abs {t : List (List Int)} (g : GoodT t) (x : Int) : absI (height t x) ≤ 6000000 := by
  have gen : ∀ t : List (List Int), (∀ w ∈ t, GoodW w) → absI ((t.map fun w => wAt w x).sum) ≤ 1000000 * (t.length : Int) := by
    intro t
    induction t with
    | nil =>
      intro _
      simp [absI]
    | cons w t ih =>
      intro h
      have h1 := wAt_abs (h w List.mem_cons_self) x
      have h2 := ih fun v hv => h v (List.mem_cons_of_mem _ hv)
      rw [List.map_cons, List.sum_cons, List.length_cons]
      unfold absI at *
      split at h1 <;> split at h2 <;> split <;> omega
  have := gen t g.ok
  have := g.len
  unfold height
  omega
theorem natAbs_of {x : Int} {n : Nat} (h : absI x ≤ (n : Int)) : x.natAbs ≤ n := by
  unfold absI at h
  split at h <;> omega
theorem find_first {p : Nat → Bool} {n j : Nat} (hj : j < n) (h1 : p j = true) (h2 : ∀ i, i < j → p i = false) : (List.range n).find? p = some j :=
  List.find?_range_eq_some.mpr ⟨h1, List.mem_range.mpr hj, fun i hi => by rw [h2 i hi]; rfl⟩
theorem filter_head {p : Nat → Bool} {n j : Nat} (h : (List.range n).find? p = some j) : ∃ r, (List.range n).filter p = j :: r := by
  have e : ((List.range n).filter p).head? = (List.range n).find? p := List.head?_filter
  rw [h] at e
  cases q : (List.range n).filter p with
  | nil =>
    rw [q] at e
    cases e
  | cons x r =>
    rw [q] at e
    cases e
    exact ⟨r, rfl⟩
theorem filter_none {p : Nat → Bool} {n : Nat} (h : (List.range n).find? p = none) : (List.range n).filter p = [] := by
  rw [List.filter_eq_nil_iff]
  exact List.find?_eq_none.mp h
theorem maxL_eq {L : List Int} {m : Int} (h1 : m ∈ L) (h2 : ∀ y ∈ L, y ≤ m) : maxL L = m := by
  have ne : L ≠ [] := fun z => by rw [z] at h1; cases h1
  obtain ⟨a1, a2⟩ := maxL_spec L ne
  exact Int.le_antisymm (h2 _ a1) (a2 _ h1)
theorem minL_eq {L : List Int} {m : Int} (h1 : m ∈ L) (h2 : ∀ y ∈ L, m ≤ y) : minL L = m := by
  have ne : L ≠ [] := fun z => by rw [z] at h1; cases h1
  obtain ⟨a1, a2⟩ := minL_spec L ne
  exact Int.le_antisymm (a2 _ h1) (h2 _ a1)
theorem last_some {L : List Int} {v : Int} (h0 : L ≠ []) (h : ∀ x ∈ L, x = v) (K : List PyData) : (K ++ L.map PyData.int).getLast? = some (.int v) := by
  obtain ⟨M, x, rfl⟩ : ∃ M x, L = M ++ [x] := ⟨L.dropLast, L.getLast h0, (List.dropLast_concat_getLast h0).symm⟩
  have := h x (List.mem_append_right _ List.mem_cons_self)
  rw [List.map_append, ← List.append_assoc, this]
  exact List.getLast?_concat
theorem atI_last {ds : List PyData} {d : PyData} (h : ds.getLast? = some d) : atI ds (-1) = some d := by
  have ne : ds ≠ [] := fun z => by rw [z] at h; cases h
  have hl : 0 < ds.length := List.length_pos_iff.mpr ne
  have ix : ixN ds.length (-1) = some (ds.length - 1) := by
    unfold ixN
    rw [if_neg (by decide), if_pos (by omega)]
    congr 1
    omega
  unfold atI
  rw [ix, Option.bind_some, ← List.getLast?_eq_getElem?]
  exact h
theorem ev_TupRg {f : FE} {e : Sl} : fTupRg f e = (f e).bind fun d e1 => match d with
  | .int n => if rgOkB n = true then .ok (.tuple (rgD n)) e1 else .bad
  | _ => .bad := rfl
theorem ev_SortedSet {f : FA} {e : Sl} : fSortedSet f e = (f e).bind fun as e1 => match as with
  | [.list ds] => match toInts ds with
    | some ns => if ns.length < 64 then .ok ((uniqI ns).map .int) e1 else .bad
    | none => .bad
  | _ => .bad := rfl
theorem ev_Sorted {f : FA} {e : Sl} : fSorted f e = (f e).bind fun as e1 => match as with
  | [.list ds] => match toInts ds with
    | some ns => .ok ((sortI ns).map .int) e1
    | none => .bad
  | [.tuple ds] => .bad
  | _ => .bad := rfl
theorem ev_ParF {i j : Nat} {f : FE} {g : FA} {e : Sl} : fParF i j f g e = (f e).out fun d e1 => (g e1).out fun ds e2 => match fgN i d e2 with
  | some e3 => if pinnedAt e3 j = true then .bad else .nx (e3.set j (.lst false ds))
  | none => .bad := rfl
end LW

namespace LW
open PySem PySem.Spec PyProof.Rows L2 FL
/-! ### k12: rows of enough water, runs -/
theorem n_table : (Str.ofString "table").length ≤ 1000 := by decide
theorem n_bar : (Str.ofString "bar").length ≤ 1000 := by decide
theorem n_ships : (Str.ofString "ships").length ≤ 1000 := by decide
theorem n_order : (Str.ofString "order").length ≤ 1000 := by decide
theorem n_length : (Str.ofString "length").length ≤ 1000 := by decide
abbrev bar (d : PyData) : Bool := intIn (-10000000) 10000000 d
theorem e_need_bar (d : PyData) (n : Str) (hn : n.length ≤ 1000) : F_need_bar [.dat d, .dat (.str n)] = if bar d = true then .ok .none [.dat d, .dat (.str n)] else .ex ⟨0, [.str n]⟩ [.dat d, .dat (.str n)] := by
  cases h : bar d <;> simp [F_need_bar, B_need_bar, gDif, e_need_integer _ _ _ _ hn, h]
theorem sh_bad {d : PyData} {n : Str} (hn : n.length ≤ 1000) (h : isTable d = false) : F_need_short [.dat d, .dat (.str n)] = .ex ⟨0, [.str n]⟩ [.dat d, .dat (.str n)] := by
  simp [F_need_short, B_need_short, e_need_table _ _ hn, h]
theorem sh_wide {t : List (List Int)} {n : Str} (hn : n.length ≤ 1000) (g : GoodT t) (h : 5000 < cyc t) : F_need_short [.dat (tabD t), .dat (.str n)] = .ex ⟨0, [.str n]⟩ [.dat (tabD t), .dat (.str n)] := by
  have c : (5000 : Int) < ((cyc t : Nat) : Int) := by omega
  simp [F_need_short, B_need_short, e_need_table _ _ hn, isTable_tabD g, e_cycle_of (lenOk_of g), gCmp, c, hn]
theorem sh_ok {t : List (List Int)} {n : Str} (hn : n.length ≤ 1000) (g : GoodT t) (h : cyc t ≤ 1000) : F_need_short [.dat (tabD t), .dat (.str n)] = .ok .none [.dat (tabD t), .dat (.str n)] := by
  have c : ¬ (5000 : Int) < ((cyc t : Nat) : Int) := by omega
  simp [F_need_short, B_need_short, e_need_table _ _ hn, isTable_tabD g, e_cycle_of (lenOk_of g), gCmp, c]
theorem wAt_per {w : List Int} {n : Nat} (h : w.length ∣ n) (x k : Int) : wAt w (x + k * (n : Int)) = wAt w x := by
  obtain ⟨m, rfl⟩ := h
  unfold wAt
  rw [Int.natCast_mul, show k * ((w.length : Int) * (m : Int)) = (w.length : Int) * (k * (m : Int)) by rw [Int.mul_left_comm], Int.add_mul_emod_self_left]
theorem height_per {t : List (List Int)} {n : Nat} (h : cyc t ∣ n) (x k : Int) : height t (x + k * (n : Int)) = height t x := by
  unfold height
  congr 1
  exact List.map_congr_left fun w hw => wAt_per (Nat.dvd_trans (len_dvd_cyc hw) h) x k
/-- enough water -/
def okB (t : List (List Int)) (b y : Int) : Bool := decide (b ≤ height t y)
theorem okB_mod (t : List (List Int)) (b y : Int) : okB t b (y % ((cyc t : Nat) : Int)) = okB t b y := by
  have dm := Int.emod_add_mul_ediv y ((cyc t : Nat) : Int)
  have p := height_per (t := t) (n := cyc t) (Nat.dvd_refl _) (y % ((cyc t : Nat) : Int)) (y / ((cyc t : Nat) : Int))
  unfold okB
  rw [← p]
  congr 3
  rw [Int.mul_comm (y / ((cyc t : Nat) : Int))]
  omega
def rowB (t : List (List Int)) (b : Int) : List Bool := (List.range (cyc t)).map fun i : Nat => okB t b (i : Int)
abbrev bL (xs : List Bool) : PyData := .list (xs.map .bool)
theorem e_over_row {t : List (List Int)} (g : GoodT t) (h : cyc t ≤ 1000) (b : Int) : F_over_row [.dat (tabD t), .dat (.int b)] = .ok (bL (rowB t b)) [.dat (tabD t), .dat (.int b)] := by
  have r : rgB ((cyc t : Nat) : Int) = true := rgB_ok (by omega) (by omega)
  have C : compGo (fgN 2) fYes (fOp gGe (fCallN 2 F_height_of (faCons (fV 0) (faCons (fV 2) faNil))) (fV 1)) [2] ((List.range (cyc t)).map nI) [.dat (tabD t), .dat (.int b), .un] [] = .ok ([] ++ (List.range (cyc t)).map fun i : Nat => .bool (okB t b (i : Int))) [.dat (tabD t), .dat (.int b), .un] := by
    refine compGo_L (enc := nI) (q := fun i : Nat => .bool (okB t b (i : Int))) (fun i _ => ?_) (by rw [sizeLine_eq]; simp; omega)
    exact ⟨[.dat (tabD t), .dat (.int b), .dat (nI i)], [.dat (tabD t), .dat (.int b), .dat (nI i)], by simp, by simp [e_height_of g, gCmp, okB], by simp⟩
  have e : ((List.range (cyc t)).map fun i : Nat => PyData.bool (okB t b (i : Int))) = (rowB t b).map .bool := by rw [rowB, List.map_map]; rfl
  rw [List.nil_append, e] at C
  simp [F_over_row, B_over_row, e_cycle_of (lenOk_of g), r, noOwn, rng_n, C]
/-! lying -/
def liesB (t : List (List Int)) (b y : Int) (l : Nat) : Bool := (List.range l).all fun k : Nat => okB t b (y + (k : Int))
theorem lies_mod (t : List (List Int)) (b y : Int) (l : Nat) : liesB t b (y % ((cyc t : Nat) : Int)) l = liesB t b y l := by
  unfold liesB
  congr 1
  funext k
  rw [← okB_mod t b (y % ((cyc t : Nat) : Int) + (k : Int)), ← okB_mod t b (y + (k : Int)), Int.emod_add_emod]
theorem lies_iff {t : List (List Int)} {b y : Int} {l k : Nat} (h1 : ∀ i : Nat, i < k → okB t b (y + (i : Int)) = true) (h2 : okB t b (y + (k : Int)) = false) : liesB t b y l = decide (l ≤ k) := by
  unfold liesB
  by_cases c : l ≤ k
  · rw [decide_eq_true c, List.all_eq_true]
    exact fun i hi => h1 i (by have := List.mem_range.mp hi; omega)
  · rw [decide_eq_false c, List.all_eq_false]
    exact ⟨k, List.mem_range.mpr (by omega), by rw [h2]; decide⟩
theorem flat_rep {α : Type} (d : α) : ∀ n : Nat, (List.replicate n [d]).flatten = List.replicate n d
  | 0 => rfl
  | k + 1 => by rw [List.replicate_succ, List.flatten_cons, flat_rep d k, List.replicate_succ]; rfl
/-- the run that is met at 2 n - m, looked at from 2 n downwards -/
def rho (B : Nat → Bool) (n2 : Nat) : Nat → Nat
  | 0 => 0
  | m + 1 => if B (n2 - (m + 1)) = true then rho B n2 m + 1 else 0
theorem rho_run {B : Nat → Bool} {n2 : Nat} : ∀ (k a : Nat), a + k < n2 → (∀ i, i < k → B (a + i) = true) → B (a + k) = false → rho B n2 (n2 - a) = k
  | 0, a, h, _, h2 => by
    obtain ⟨m, hm⟩ : ∃ m, n2 - a = m + 1 := ⟨n2 - a - 1, by omega⟩
    rw [hm, rho, show n2 - (m + 1) = a by omega, show B a = false from h2, if_neg (by decide)]
  | k + 1, a, h, h1, h2 => by
    obtain ⟨m, hm⟩ : ∃ m, n2 - a = m + 1 := ⟨n2 - a - 1, by omega⟩
    have b0 := h1 0 (by omega)
    rw [hm, rho, show n2 - (m + 1) = a by omega, show B a = true from b0, if_pos rfl]
    have ih := rho_run (B := B) (n2 := n2) k (a + 1) (by omega) (fun i hi => by rw [show a + 1 + i = a + (i + 1) by omega]; exact h1 (i + 1) (by omega)) (by rw [show a + 1 + k = a + (k + 1) by omega]; exact h2)
    rw [show n2 - (a + 1) = m by omega] at ih
    rw [ih]
def fnd (B : Nat → Bool) (n : Nat) : Nat → List Int
  | 0 => List.replicate n 0
  | i + 1 => (fnd B n i).set ((2 * n - 1 - i) % n) ((rho B (2 * n) (i + 1) : Nat) : Int)
theorem fnd_len (B : Nat → Bool) (n : Nat) : ∀ i, (fnd B n i).length = n
  | 0 => List.length_replicate
  | i + 1 => by rw [fnd, List.length_set, fnd_len B n i]
theorem fnd_at (B : Nat → Bool) {n : Nat} : ∀ (d : Nat), d ≤ n → ∀ j, j < n → n - d ≤ j → (fnd B n (n + d)).getD j 0 = ((rho B (2 * n) (2 * n - j) : Nat) : Int)
  | 0, _, j, hj, h => by omega
  | d + 1, hd, j, hj, h => by
    have e : (2 * n - 1 - (n + d)) % n = n - 1 - d := by
      rw [show 2 * n - 1 - (n + d) = n - 1 - d by omega, Nat.mod_eq_of_lt (by omega)]
    rw [show n + (d + 1) = n + d + 1 by omega, fnd, e, List.getD_eq_getElem?_getD, List.getElem?_set]
    by_cases c : n - 1 - d = j
    · rw [if_pos c, if_pos (by rw [fnd_len]; omega), Option.getD_some, show n + d + 1 = 2 * n - j by omega]
    · rw [if_neg c, ← List.getD_eq_getElem?_getD]
      exact fnd_at B d (by omega) j hj (by omega)
def runsL (B : Nat → Bool) (n : Nat) : List Int := fnd B n (2 * n)
theorem runsL_at (B : Nat → Bool) {n j : Nat} (hj : j < n) : (runsL B n).getD j 0 = ((rho B (2 * n) (2 * n - j) : Nat) : Int) := by
  have := fnd_at B (n := n) n (Nat.le_refl _) j hj (by omega)
  rw [show n + n = 2 * n by omega] at this
  exact this
def runsD (B : Nat → Bool) (n : Nat) : PyData := if (List.range n).all B = true then .none else iL (runsL (fun k => B (k % n)) n)
theorem gNotIn_bools (bs : List Bool) : gIn true (.bool false) (bL bs) = some (.bool (bs.all id)) := by
  have h : (bs.map PyData.bool).all flatD = true := by
    rw [List.all_map, List.all_eq_true]
    intro t _
    rfl
  have e : gIn true (.bool false) (bL bs) = if flatD (.bool false) = true ∧ (bs.map PyData.bool).all flatD = true then some (.bool (if true = true then !(bs.map PyData.bool).any (fun z => PyData.eqv z (.bool false)) else (bs.map PyData.bool).any fun z => PyData.eqv z (.bool false))) else none := rfl
  rw [e, if_pos ⟨rfl, h⟩, if_pos rfl]
  congr 2
  clear h e
  induction bs with
  | nil => rfl
  | cons x r ih =>
    rw [List.map_cons, List.any_cons, Bool.not_or, ih, List.all_cons]
    congr 1
    cases x <;> rfl
theorem e_runs_on {n : Nat} (n1 : 1 ≤ n) (hn : n ≤ 1000) (B : Nat → Bool) : F_runs_on [.dat (bL ((List.range n).map B))] = .ok (runsD B n) [.dat (bL ((List.range n).map B))] := by
  obtain ⟨A, hA⟩ : ∃ A, A = bL ((List.range n).map B) := ⟨_, rfl⟩
  have gn := gNotIn_bools ((List.range n).map B)
  rw [← hA, List.all_map] at gn
  have gn : gIn true (.bool false) A = some (.bool ((List.range n).all B)) := gn
  rw [← hA]
  unfold runsD
  cases c : (List.range n).all B
  · rw [c] at gn
    have lenA : gLen [A] = some (.int (n : Int)) := by rw [hA]; simp [gLen]
    have nz : (n : Int) ≠ 0 := by omega
    have at_ : ∀ k : Nat, atI ((List.range n).map fun i => PyData.bool (B i)) ((k % n : Nat) : Int) = some (.bool (B (k % n))) := fun k => atI_nat (j := k % n) (by rw [List.getElem?_map, List.getElem?_range (Nat.mod_lt _ (by omega))]; rfl)
    have ix : ∀ k : Nat, gIx A ((.int ((k % n : Nat) : Int))) = some (.bool (B (k % n))) := fun k => by
      rw [hA]
      have := at_ k
      unfold gIx
      dsimp only
      rw [List.map_map]
      exact this
    have md : ∀ k : Nat, gMod (.int (k : Int)) (.int (n : Int)) = some (.int ((k % n : Nat) : Int)) := fun k => by
      unfold gMod
      dsimp only
      rw [if_pos nz, fmod_nat]
    have bl : ∀ k : Nat, rho B (2 * n) k ≤ k := fun k => by
      induction k with
      | zero => exact Nat.le_refl _
      | succ k ih =>
        rw [rho]
        split <;> omega
    have L := forGo_RG (t := fgN 4) (f := fSeq (fSet 3 (fIf (fTst (fOp gIx (fV 0) (fOp gMod (fV 4) (fV 1)))) (fOp gAdd (fV 3) (fC (.int 1))) (fC (.int 0)))) (fSetI 2 (fOp gMod (fV 4) (fV 1)) (fV 3)))
      (st := fun i : Nat => [.dat A, .dat (nI n), .lst false ((fnd (fun k => B (k % n)) n i).map .int), .dat (nI (rho (fun k => B (k % n)) (2 * n) i)), lf (fun k => ((2 * n - 1 - k : Nat) : Int)) i]) (g := fun i : Nat => .int ((2 * n - 1 - i : Nat) : Int)) (N := 2 * n) fun i hi => by
        refine ⟨[.dat A, .dat (nI n), .lst false ((fnd (fun k => B (k % n)) n i).map .int), .dat (nI (rho (fun k => B (k % n)) (2 * n) i)), .dat (.int ((2 * n - 1 - i : Nat) : Int))], by simp, ?_⟩
        show _ = Out.nx [.dat A, .dat (nI n), .lst false ((fnd (fun k => B (k % n)) n (i + 1)).map .int), .dat (nI (rho (fun k => B (k % n)) (2 * n) (i + 1))), .dat (.int ((2 * n - 1 - i : Nat) : Int))]
        have i1 := ix (2 * n - 1 - i)
        have m1 := md (2 * n - 1 - i)
        have ixn : ixN ((fnd (fun k => B (k % n)) n i).map PyData.int).length (((2 * n - 1 - i) % n : Nat) : Int) = some ((2 * n - 1 - i) % n) := by
          have := Nat.mod_lt (2 * n - 1 - i) (show 0 < n by omega)
          unfold ixN
          rw [List.length_map, fnd_len, if_pos (by omega), if_pos (by omega), Int.toNat_natCast]
        have er : rho (fun k => B (k % n)) (2 * n) (i + 1) = if B ((2 * n - 1 - i) % n) = true then rho (fun k => B (k % n)) (2 * n) i + 1 else 0 := by
          rw [rho, show 2 * n - (i + 1) = 2 * n - 1 - i by omega]
        have ef : (fnd (fun k => B (k % n)) n (i + 1)).map PyData.int = ((fnd (fun k => B (k % n)) n i).map PyData.int).set ((2 * n - 1 - i) % n) (nI (rho (fun k => B (k % n)) (2 * n) (i + 1))) := by
          rw [fnd, List.map_set]
        rw [ef]
        cases q : B ((2 * n - 1 - i) % n)
        · rw [q] at i1 er
          have er : rho (fun k => B (k % n)) (2 * n) (i + 1) = 0 := by rw [er, if_neg (by decide)]
          rw [er]
          simp only [ev_Seq, ev_Asg, ev_If, ev_Tst, ev_Op, ev_V, ev_C, List.getElem?_cons_zero, List.getElem?_cons_succ, ev_ok, m1, ev_some, i1, ev_asB, Bool.false_eq_true, if_false, ev_oko, ev_gN, ev_pinD, ev_osome, List.set_cons_succ, List.set_cons_zero, ev_seqn, ev_SetI, ixn]
          rfl
        · rw [q] at i1 er
          have er : rho (fun k => B (k % n)) (2 * n) (i + 1) = rho (fun k => B (k % n)) (2 * n) i + 1 := by rw [er, if_pos rfl]
          rw [er]
          simp only [ev_Seq, ev_Asg, ev_If, ev_Tst, ev_Op, ev_V, ev_C, List.getElem?_cons_zero, List.getElem?_cons_succ, ev_ok, m1, ev_some, i1, ev_asB, if_true, gAdd, ev_oko, ev_gN, ev_pinD, Bool.false_eq_true, if_false, ev_osome, List.set_cons_succ, List.set_cons_zero, ev_seqn, ev_SetI, ixn]
          rfl
    have s0 : ([.dat A, .dat (nI n), .lst false ((fnd (fun k => B (k % n)) n 0).map .int), .dat (nI (rho (fun k => B (k % n)) (2 * n) 0)), lf (fun k => ((2 * n - 1 - k : Nat) : Int)) 0] : Sl) = [.dat A, .dat (nI n), .lst false ((List.replicate n (0 : Int)).map .int), .dat (.int 0), .un] := rfl
    have L : _ = _ := L
    rw [s0] at L
    have e0 : (List.replicate n [PyData.int 0]).flatten = (List.replicate n (0 : Int)).map .int := by rw [flat_rep, List.map_replicate]
    have mm : gMul (.int 2) (.int (n : Int)) = some (.int (2 * (n : Int))) := gMul_ok (mulB_l (by decide))
    have rs : Builtin.Range.rangeSize (2 * (n : Int) - 1) (-1) (-1) = ((2 * n : Nat) : Int) := by
      rw [PySem.W.rangeSize_downNat]
      omega
    have sm : Builtin.Range.small (2 * (n : Int) - 1) (-1) (-1) = true := PySem.W.small_down (by omega) (by omega) (by omega) (by omega)
    have rn : rangeN (2 * (n : Int) - 1) (-1) (-1) = 2 * n := by
      unfold rangeN
      rw [rs]
      omega
    have rr : rng (2 * (n : Int) - 1) (2 * n) (-1) = (List.range (2 * n)).map fun i : Nat => .int ((2 * n - 1 - i : Nat) : Int) := by
      unfold rng
      refine List.map_congr_left fun i hi => ?_
      have := List.mem_range.mp hi
      show PyData.int (2 * (n : Int) - 1 + (i : Int) * -1) = PyData.int ((2 * n - 1 - i : Nat) : Int)
      congr 1
      omega
    have rp := rep_ok (n := 1) (k := n) (by rw [sizeLine_eq]; omega) (by omega)
    rw [Int.toNat_natCast] at rp
    have l1 : 1 ≤ sizeLine := by rw [sizeLine_eq]; omega
    unfold F_runs_on B_runs_on
    simp only [ev_Run, List.replicate, List.cons_append, List.nil_append, ev_Seq, ev_IfS, ev_Tst, ev_Op, ev_C, ev_V, List.getElem?_cons_zero, List.getElem?_cons_succ, ev_ok, gn, ev_some, ev_asB, ev_oko, Bool.false_eq_true, if_false, ev_Next, ev_seqn, ev_Asg, ev_CB, ev_Cons, ev_Nil, lenA, ev_gN, ev_pinU, ev_osome, List.set_cons_succ, List.set_cons_zero, ev_Own, ev_RepF, ev_L, ev_Lst, l1, List.length_cons, List.length_nil, Nat.zero_add, rp, if_true, Int.toNat_natCast, e0, ev_pinned, ev_For, ev_Rng3, mm, gDif, ev_Un, gNeg, sm, rs, rn, rr]
    rw [if_pos (by simp; omega)]
    simp only [ev_oko, L, ev_seqn]
    simp [runsL]
  · rw [c] at gn
    simp [F_runs_on, B_runs_on, gn]
/-! the first start -/
def startP (t : List (List Int)) (b y : Int) (l : Nat) : Option Int := ((List.range (cyc t)).find? fun i : Nat => liesB t b (y + (i : Int)) l).map fun i : Nat => y + (i : Int)
def optI : Option Int → PyData
  | none => .none
  | some v => .int v
abbrev rvD (t : List (List Int)) (b : Int) : PyData := runsD (fun i : Nat => okB t b (i : Int)) (cyc t)
theorem rv_ge {t : List (List Int)} (g : LenOk t) {b : Int} (hc : (List.range (cyc t)).all (fun i : Nat => okB t b (i : Int)) = false) (y : Int) (l : Nat) : ∃ k : Nat, y % ((cyc t : Nat) : Int) = (k : Int) ∧ k < cyc t ∧ decide ((l : Int) ≤ (runsL (fun k => okB t b ((k % cyc t : Nat) : Int)) (cyc t)).getD k 0) = liesB t b y l := by
  have n0 := cyc_pos g
  obtain ⟨n, hn⟩ : ∃ n, n = cyc t := ⟨_, rfl⟩
  rw [← hn] at n0 hc ⊢
  have md0 := Int.emod_nonneg y (show (n : Int) ≠ 0 by omega)
  have md1 := Int.emod_lt_of_pos y (show (0 : Int) < (n : Int) by omega)
  obtain ⟨k, hk⟩ : ∃ k : Nat, y % (n : Int) = (k : Int) := ⟨(y % (n : Int)).toNat, by omega⟩
  refine ⟨k, hk, by omega, ?_⟩
  have ok_nat : ∀ m : Nat, okB t b ((m % n : Nat) : Int) = okB t b (m : Int) := fun m => by
    have := okB_mod t b (m : Int)
    rw [← hn] at this
    rw [← this, Int.natCast_emod]
  -- the first place where it fails, from k on
  obtain ⟨f, hf⟩ : ∃ f, (List.range n).find? (fun i : Nat => !okB t b (((k + i) % n : Nat) : Int)) = some f := by
    cases q : (List.range n).find? (fun i : Nat => !okB t b (((k + i) % n : Nat) : Int)) with
    | some f => exact ⟨f, rfl⟩
    | none =>
      exfalso
      obtain ⟨j, hj, hb⟩ := List.all_eq_false.mp hc
      have hj := List.mem_range.mp hj
      have nn := List.find?_eq_none.mp q ((j + n - k) % n) (List.mem_range.mpr (Nat.mod_lt _ n0))
      have e : (k + (j + n - k) % n) % n = j := by
        rw [Nat.add_mod, Nat.mod_mod, ← Nat.add_mod, show k + (j + n - k) = j + n by omega, Nat.add_mod_right, Nat.mod_eq_of_lt hj]
      rw [e] at nn
      simp at nn
      exact hb nn
  obtain ⟨f1, f2, f3⟩ := List.find?_range_eq_some.mp hf
  have f2 := List.mem_range.mp f2
  have f1' : okB t b (((k + f) % n : Nat) : Int) = false := by simpa using f1
  have f3' : ∀ i, i < f → okB t b (((k + i) % n : Nat) : Int) = true := fun i hi => by simpa using f3 i hi
  have rr := rho_run (B := fun m => okB t b ((m % n : Nat) : Int)) (n2 := 2 * n) f k (by omega) f3' f1'
  have rl := runsL_at (fun m => okB t b ((m % n : Nat) : Int)) (n := n) (j := k) (by omega)
  rw [rr] at rl
  rw [rl]
  have li : liesB t b (k : Int) l = decide (l ≤ f) := lies_iff (fun i hi => by
    have := f3' i hi
    rw [ok_nat] at this
    rw [← this]
    congr 1) (by
    rw [ok_nat] at f1'
    rw [← f1']
    congr 1)
  have lm := lies_mod t b y l
  rw [← hn, hk] at lm
  rw [← lm, li]
  by_cases c : l ≤ f
  · rw [decide_eq_true c, decide_eq_true (by omega)]
  · rw [decide_eq_false c, decide_eq_false (by omega)]
theorem lies_all {t : List (List Int)} (g : LenOk t) {b : Int} (hc : (List.range (cyc t)).all (fun i : Nat => okB t b (i : Int)) = true) (y : Int) (l : Nat) : liesB t b y l = true := by
  have n0 := cyc_pos g
  unfold liesB
  rw [List.all_eq_true]
  intro k _
  have md0 := Int.emod_nonneg (y + (k : Int)) (show ((cyc t : Nat) : Int) ≠ 0 by omega)
  have md1 := Int.emod_lt_of_pos (y + (k : Int)) (show (0 : Int) < ((cyc t : Nat) : Int) by omega)
  obtain ⟨m, hm⟩ : ∃ m : Nat, (y + (k : Int)) % ((cyc t : Nat) : Int) = (m : Int) := ⟨((y + (k : Int)) % ((cyc t : Nat) : Int)).toNat, by omega⟩
  rw [← okB_mod, hm]
  exact List.all_eq_true.mp hc m (List.mem_range.mpr (by omega))
theorem e_first_start {t : List (List Int)} (g : GoodT t) (hc : cyc t ≤ 1000) (b : Int) (l : Nat) (y : Int) (y0 : -1000000000 ≤ y) (y1 : y ≤ 1000000000) : F_first_start [.dat (rvD t b), .dat (nI l), .dat (.int y)] = .ok (optI (startP t b y l)) [.dat (rvD t b), .dat (nI l), .dat (.int y)] := by
  have n0 := cyc_pos (lenOk_of g)
  unfold rvD runsD
  cases c : (List.range (cyc t)).all (fun i : Nat => okB t b (i : Int))
  · rw [if_neg (by decide)]
    obtain ⟨n, hn⟩ : ∃ n, n = cyc t := ⟨_, rfl⟩
    obtain ⟨R, hR⟩ : ∃ R, R = runsL (fun k => okB t b ((k % cyc t : Nat) : Int)) (cyc t) := ⟨_, rfl⟩
    have Rl : R.length = n := by rw [hR, hn]; exact fnd_len _ _ _
    have tst : ∀ i : Nat, ∃ v, gIx (iL R) (.int ((y + (i : Int)).fmod (n : Int))) = some (.int v) ∧ decide ((l : Int) ≤ v) = liesB t b (y + (i : Int)) l := fun i => by
      obtain ⟨k, k1, k2, k3⟩ := rv_ge (lenOk_of g) c (y + (i : Int)) l
      refine ⟨R.getD k 0, ?_, by rw [hR]; exact k3⟩
      rw [Int.fmod_eq_emod_of_nonneg _ (by omega), hn, k1]
      exact atI_iL rfl (by rw [Rl, hn]; exact k2)
    rw [← hR]
    have lenR : gLen [iL R] = some (.int (n : Int)) := by simp [gLen, Rl]
    have nz : (n : Int) ≠ 0 := by omega
    have md : ∀ z : Int, gMod (.int z) (.int (n : Int)) = some (.int (z.fmod (n : Int))) := fun z => by
      unfold gMod
      dsimp only
      rw [if_pos nz]
    have isn : gIsN (iL R) .none = some (.bool false) := rfl
    have r1 : rgB y = true := rgB_ok (by omega) (by omega)
    have r2 : rgB (y + (n : Int)) = true := rgB_ok (by omega) (by omega)
    have e1 : rng y n 1 = (List.range n).map fun (i : Nat) => .int (y + (i : Int)) := rng_int y n
    have hd : Int.toNat (y + (n : Int) - y) = n := by omega
    let st : Nat → Sl := fun i => [.dat (iL R), .dat (nI l), .dat (.int y), lf (fun k => y + (k : Int)) i]
    obtain ⟨bd, hbd⟩ : ∃ bd : FS, bd = fIfS (fTst (fOp gGe (fOp gIx (fV 0) (fOp gMod (fV 3) (fCB gLen (fCons (fV 0) fNil)))) (fV 1))) (fRet (fV 3)) fNext := ⟨_, rfl⟩
    have ev : ∀ i : Nat, bd [.dat (iL R), .dat (nI l), .dat (.int y), .dat (.int (y + (i : Int)))] = if liesB t b (y + (i : Int)) l = true then .rt (.int (y + (i : Int))) [.dat (iL R), .dat (nI l), .dat (.int y), .dat (.int (y + (i : Int)))] else .nx [.dat (iL R), .dat (nI l), .dat (.int y), .dat (.int (y + (i : Int)))] := fun i => by
      obtain ⟨v, v1, v2⟩ := tst i
      rw [hbd]
      cases q : liesB t b (y + (i : Int)) l
      · rw [q] at v2
        simp only [ev_IfS, ev_Tst, ev_Op, ev_V, ev_CB, ev_Cons, ev_Nil, List.getElem?_cons_zero, List.getElem?_cons_succ, ev_ok, lenR, ev_some, md, v1, gCmp, v2, ev_asB, ev_oko, Bool.false_eq_true, if_false, ev_Next]
      · rw [q] at v2
        simp only [ev_IfS, ev_Tst, ev_Op, ev_V, ev_CB, ev_Cons, ev_Nil, List.getElem?_cons_zero, List.getElem?_cons_succ, ev_ok, lenR, ev_some, md, v1, gCmp, v2, ev_asB, ev_oko, if_true, ev_Ret]
    have st0 : st 0 = [.dat (iL R), .dat (nI l), .dat (.int y), .un] := rfl
    unfold startP
    rw [← hn]
    cases q : (List.range n).find? fun i : Nat => liesB t b (y + (i : Int)) l with
    | none =>
      have nn : ∀ i, i < n → liesB t b (y + (i : Int)) l = false := fun i hi => by
        have := List.find?_eq_none.mp q i (List.mem_range.mpr hi)
        simpa using this
      have L := forGo_RG (t := fgN 3) (f := bd) (st := st) (g := fun i : Nat => .int (y + (i : Int))) (N := n) fun i hi => ⟨[.dat (iL R), .dat (nI l), .dat (.int y), .dat (.int (y + (i : Int)))], by simp [st], by rw [ev i, nn i hi, if_neg (by decide)]; rfl⟩
      rw [st0, hbd] at L
      simp [F_first_start, B_first_start, isn, lenR, gAdd, r1, r2, hd, e1, L, st, optI]
    | some j =>
      obtain ⟨q1, q2, q3⟩ := List.find?_range_eq_some.mp q
      have jn := List.mem_range.mp q2
      have L := forGo_RF (t := fgN 3) (f := bd) (st := st) (g := fun i : Nat => .int (y + (i : Int))) (N := n) (j := j) (v := .int (y + (j : Int))) (e2 := [.dat (iL R), .dat (nI l), .dat (.int y), .dat (.int (y + (j : Int)))]) jn (fun i hi => ⟨[.dat (iL R), .dat (nI l), .dat (.int y), .dat (.int (y + (i : Int)))], by simp [st], by
          have : liesB t b (y + (i : Int)) l = false := by simpa using q3 i hi
          rw [ev i, this, if_neg (by decide)]
          rfl⟩)
        ⟨[.dat (iL R), .dat (nI l), .dat (.int y), .dat (.int (y + (j : Int)))], by simp [st], by rw [ev j, q1, if_pos rfl]⟩
      rw [st0, hbd] at L
      simp [F_first_start, B_first_start, isn, lenR, gAdd, r1, r2, hd, e1, L, optI]
  · rw [if_pos rfl]
    have e : startP t b y l = some y := by
      unfold startP
      rw [find_first (p := fun i : Nat => liesB t b (y + (i : Int)) l) (j := 0) n0 (lies_all (lenOk_of g) c _ _) fun i hi => by omega]
      show some (y + ((0 : Nat) : Int)) = some y
      congr 1
      omega
    rw [e]
    simp [F_first_start, B_first_start, gIsN_n, optI]
end LW

namespace LW
open PySem PySem.Spec PyProof.Rows L2 FL
/-! ### k12: ships in an order -/
abbrev Ship := Nat × Nat
def shD (s : Ship) : PyData := .tuple [nI s.1, nI s.2]
def shsD (ss : List Ship) : PyData := .tuple (ss.map shD)
structure GoodS (ss : List Ship) : Prop where
  len : ss.length ≤ 3
  ok : ∀ s ∈ ss, 1 ≤ s.1 ∧ s.1 ≤ 100 ∧ s.2 ≤ 100
def mx (a b : Int) : Int := if b > a then b else a
/-- what begins when: each ship's number and its start -/
def sched (t : List (List Int)) (b : Int) (ss : List Ship) : List Nat → Int → Option (List (Nat × Int))
  | [], _ => some []
  | o :: r, f => (startP t b (mx f ((ss.getD o (0, 0)).2 : Nat)) (ss.getD o (0, 0)).1).bind fun s => (sched t b ss r (s + ((ss.getD o (0, 0)).1 : Nat))).map fun ps => (o, s) :: ps
def lkP (ps : List (Nat × Int)) (a : Nat) : Option Int := (ps.find? fun p => decide (p.1 = a)).map (·.2)
def begL (n : Nat) (ps : List (Nat × Int)) : List Int := (List.range n).map fun a => (lkP ps a).getD 0
def schD (n : Nat) : Option (List (Nat × Int)) → PyData
  | none => .none
  | some ps => .tuple ((begL n ps).map .int)
theorem startP_bd {t : List (List Int)} {b y s : Int} {l : Nat} (h : startP t b y l = some s) : y ≤ s ∧ s < y + (cyc t : Int) := by
  unfold startP at h
  obtain ⟨i, hi, rfl⟩ := Option.map_eq_some_iff.mp h
  obtain ⟨_, q2, _⟩ := List.find?_range_eq_some.mp hi
  have := List.mem_range.mp q2
  omega
theorem sched_keys {t : List (List Int)} {b : Int} {ss : List Ship} : ∀ {os : List Nat} {f : Int} {ps : List (Nat × Int)}, sched t b ss os f = some ps → ps.map (·.1) = os
  | [], _, _, h => by
    cases h
    rfl
  | o :: r, f, _, h => by
    rw [sched] at h
    obtain ⟨s, _, h⟩ := Option.bind_eq_some_iff.mp h
    obtain ⟨ps, hp, rfl⟩ := Option.map_eq_some_iff.mp h
    rw [List.map_cons, sched_keys hp]
theorem lk_some {ps : List (Nat × Int)} {a : Nat} (h : a ∈ ps.map (·.1)) : ∃ s, lkP ps a = some s := by
  obtain ⟨p, hp, rfl⟩ := List.mem_map.mp h
  unfold lkP
  cases q : ps.find? fun z => decide (z.1 = p.1) with
  | some z => exact ⟨_, rfl⟩
  | none =>
    have := List.find?_eq_none.mp q p hp
    simp at this
theorem lk_snoc {ps : List (Nat × Int)} {o a : Nat} {s : Int} (h : o ∉ ps.map (·.1)) : lkP (ps ++ [(o, s)]) a = if a = o then some s else lkP ps a := by
  unfold lkP
  rw [List.find?_append]
  by_cases c : a = o
  · subst c
    have e : (ps.find? fun p => decide (p.1 = a)) = none := List.find?_eq_none.mpr fun p hp => by
      simp
      exact fun z => h (List.mem_map.mpr ⟨p, hp, z⟩)
    rw [e, if_pos rfl]
    simp
  · rw [if_neg c]
    cases q : ps.find? fun p => decide (p.1 = a) with
    | some z => rfl
    | none =>
      have : ¬ o = a := fun z => c z.symm
      simp [this]
def kvP (ps : List (Nat × Int)) : List (Key × PyData) := ps.map fun p => (Sum.inl (p.1 : Int), PyData.int p.2)
theorem kv_put {ps : List (Nat × Int)} {o : Nat} {s : Int} (h : o ∉ ps.map (·.1)) : putD (kvP ps) (Sum.inl (o : Int)) (PyData.int s) = kvP (ps ++ [(o, s)]) := by
  unfold putD
  have e : ((kvP ps).any fun kv => decide (kv.1 = Sum.inl (o : Int))) = false := by
    rw [List.any_eq_false]
    intro kv hkv
    obtain ⟨p, hp, rfl⟩ := List.mem_map.mp hkv
    simp
    exact fun z => h (List.mem_map.mpr ⟨p, hp, by omega⟩)
  rw [e, if_neg (by decide)]
  unfold kvP
  rw [List.map_append]
  rfl
theorem kv_val (ps : List (Nat × Int)) (a : Nat) : valD (kvP ps) (Sum.inl (a : Int)) = (lkP ps a).map PyData.int := by
  unfold valD lkP kvP
  induction ps with
  | nil => rfl
  | cons p r ih =>
    rw [List.map_cons, List.find?_cons, List.find?_cons]
    by_cases c : p.1 = a
    · have c' : (Sum.inl (p.1 : Int) : Key) = Sum.inl (a : Int) := by rw [c]
      rw [decide_eq_true c, decide_eq_true c']
      rfl
    · have c' : ¬ (Sum.inl (p.1 : Int) : Key) = Sum.inl (a : Int) := fun z => c (by have := Sum.inl.inj z; omega)
      rw [decide_eq_false c, decide_eq_false c']
      exact ih
theorem atI_ship {ss : List Ship} {o : Nat} (h : o < ss.length) : gIx (shsD ss) (nI o) = some (shD (ss.getD o (0, 0))) := by
  refine atI_nat (j := o) ?_
  rw [List.getElem?_map, List.getD_eq_getElem?_getD, List.getElem?_eq_getElem h]
  rfl
theorem mx_eq (a b : Int) : gMax2 [.int a, .int b] = some (.int (mx a b)) := rfl
theorem mx_bd (a b : Int) : a ≤ mx a b ∧ b ≤ mx a b ∧ (mx a b = a ∨ mx a b = b) := by
  unfold mx
  split <;> omega
noncomputable abbrev soB : FS := fSeq (fAsg (fOp gIx (fV 1) (fV 5)) (fgTup (fgCons (fgN 6) (fgCons (fgN 7) fgNil)) 2))
  (fSeq (fSet 8 (fCallN 3 F_first_start (faCons (fV 0) (faCons (fV 6) (faCons (fCB gMax2 (fCons (fV 4) (fCons (fV 7) fNil))) faNil)))))
  (fSeq (fIfS (fTst (fOp gIsN (fV 8) (fC .none))) (fRet (fC .none)) fNext)
  (fSeq (fDPut 3 (fV 5) (fV 8))
  (fSet 4 (fOp gAdd (fV 8) (fV 6))))))
section
variable {t : List (List Int)} (g : GoodT t) (hc : cyc t ≤ 1000) (b : Int) {ss : List Ship} (gs : GoodS ss)
include g hc gs
theorem so_loop {X2 : Slot} : ∀ (os : List Nat) (ps : List (Nat × Int)) (f : Int) (y5 y6 y7 y8 : Slot), (∀ o ∈ os, o < ss.length) → ((ps.map (·.1)) ++ os).Nodup → ((ps.map (·.1)) ++ os).length ≤ 10 → 0 ≤ f → f + 2000 * (os.length : Int) ≤ 1000000 → y5.pin = false → y5.own = false → y6.pin = false → y7.pin = false → y8.pin = false →
    (∃ qs f' z5 z6 z7 z8, sched t b ss os f = some qs ∧ z5.own = false ∧ forGo (fgN 5) soB (os.map nI) [.dat (rvD t b), .dat (shsD ss), X2, .dK false (kvP ps), .dat (.int f), y5, y6, y7, y8] = .nx [.dat (rvD t b), .dat (shsD ss), X2, .dK false (kvP (ps ++ qs)), .dat (.int f'), z5, z6, z7, z8]) ∨
    (∃ zs, sched t b ss os f = none ∧ forGo (fgN 5) soB (os.map nI) [.dat (rvD t b), .dat (shsD ss), X2, .dK false (kvP ps), .dat (.int f), y5, y6, y7, y8] = .rt .none (.dat (rvD t b) :: .dat (shsD ss) :: X2 :: zs)) := by
  intro os
  induction os with
  | nil =>
    intro ps f y5 y6 y7 y8 _ _ _ _ _ _ h5 _ _ _
    exact .inl ⟨[], f, y5, y6, y7, y8, rfl, h5, by rw [List.append_nil]; rfl⟩
  | cons o r ih =>
    intro ps f y5 y6 y7 y8 ho nd nl f0 f1 p5 _ p6 p7 p8
    have ol := ho o List.mem_cons_self
    obtain ⟨l, a, hs⟩ : ∃ l a, ss.getD o (0, 0) = (l, a) := ⟨_, _, rfl⟩
    have gi := atI_ship (ss := ss) ol
    rw [hs] at gi
    have so := gs.ok (l, a) (by
      rw [← hs, List.getD_eq_getElem?_getD, List.getElem?_eq_getElem ol]
      exact List.getElem_mem ol)
    have l1 := so.1
    have l2 := so.2.1
    have a2 := so.2.2
    dsimp only at l1 l2 a2
    obtain ⟨m1, m2, m3⟩ := mx_bd f (a : Int)
    rw [List.length_cons] at f1
    rw [List.length_append, List.length_cons] at nl
    have F := e_first_start g hc b l (mx f (a : Int)) (by omega) (by omega)
    have un : forGo (fgN 5) soB ((o :: r).map nI) [.dat (rvD t b), .dat (shsD ss), X2, .dK false (kvP ps), .dat (.int f), y5, y6, y7, y8] = forGo (fgN 5) soB (nI o :: r.map nI) [.dat (rvD t b), .dat (shsD ss), X2, .dK false (kvP ps), .dat (.int f), y5, y6, y7, y8] := rfl
    have t1 : fgN 5 (nI o) [.dat (rvD t b), .dat (shsD ss), X2, .dK false (kvP ps), .dat (.int f), y5, y6, y7, y8] = some [.dat (rvD t b), .dat (shsD ss), X2, .dK false (kvP ps), .dat (.int f), .dat (nI o), y6, y7, y8] := by simp [p5]
    have es : sched t b ss (o :: r) f = (startP t b (mx f (a : Int)) l).bind fun s => (sched t b ss r (s + (l : Int))).map fun ps => (o, s) :: ps := by rw [sched, hs]
    rw [un, es]
    cases q : startP t b (mx f (a : Int)) l with
    | none =>
      rw [q] at F
      right
      refine ⟨[.dK false (kvP ps), .dat (.int f), .dat (nI o), .dat (nI l), .dat (nI a), .dat .none], rfl, ?_⟩
      rw [forGo_rt t1]
      simp only [soB, ev_Seq, ev_Asg, ev_Op, ev_V, List.getElem?_cons_zero, List.getElem?_cons_succ, ev_ok, gi, ev_some, shD, ev_oko, fgTup, fgCons, fgNil, ev_gN, p6, p7, p8, Bool.false_eq_true, if_false, List.set_cons_succ, List.set_cons_zero, List.length_cons, List.length_nil, Nat.zero_add, Nat.reduceAdd, if_true, Option.bind_some, ev_osome, ev_seqn, ev_CallN, ev_aCons, ev_aNil, ev_CB, ev_Cons, ev_Nil, mx_eq, ev_callF, ev_oo0, ev_oo1, ev_so0, ev_so1, Option.map_some, Option.map_none, F, optI, ev_back, ev_oa0, ev_oa1, ev_IfS, ev_Tst, ev_C, gIsN_n, ev_asB, ev_Ret]
      rfl
    | some s =>
      rw [q] at F
      obtain ⟨s1, s2⟩ := startP_bd q
      have on : o ∉ ps.map (·.1) := fun z => by
        have := (List.nodup_append.mp nd).2.2 o z o List.mem_cons_self
        exact this rfl
      have kl : (kvP ps).length < sizeLine := by
        rw [kvP, List.length_map, sizeLine_eq]
        rw [List.length_map] at nl
        omega
      have t2 : soB [.dat (rvD t b), .dat (shsD ss), X2, .dK false (kvP ps), .dat (.int f), .dat (nI o), y6, y7, y8] = .nx [.dat (rvD t b), .dat (shsD ss), X2, .dK false (kvP (ps ++ [(o, s)])), .dat (.int (s + (l : Int))), .dat (nI o), .dat (nI l), .dat (nI a), .dat (.int s)] := by
        have pu := kv_put (s := s) on
        simp only [soB, ev_Seq, ev_Asg, ev_Op, ev_V, List.getElem?_cons_zero, List.getElem?_cons_succ, ev_ok, gi, ev_some, shD, ev_oko, fgTup, fgCons, fgNil, ev_gN, p6, p7, p8, Bool.false_eq_true, if_false, List.set_cons_succ, List.set_cons_zero, List.length_cons, List.length_nil, Nat.zero_add, Nat.reduceAdd, if_true, Option.bind_some, ev_osome, ev_seqn, ev_CallN, ev_aCons, ev_aNil, ev_CB, ev_Cons, ev_Nil, mx_eq, ev_callF, ev_oo0, ev_oo1, ev_so0, ev_so1, Option.map_some, Option.map_none, F, optI, ev_back, ev_oa0, ev_oa1, ev_IfS, ev_Tst, ev_C, gIsN_i, ev_asB, ev_Next, ev_DPut, kl, pu, gAdd, ev_pinD]
      rw [forGo_cons t1 t2]
      have nd' : (((ps ++ [(o, s)]).map (·.1)) ++ r).Nodup := by
        rw [List.map_append, List.append_assoc]
        exact nd
      have nl' : (((ps ++ [(o, s)]).map (·.1)) ++ r).length ≤ 10 := by
        rw [List.map_append, List.append_assoc, List.length_append]
        simp only [List.map_cons, List.map_nil, List.length_append, List.length_cons, List.length_nil] at nl ⊢
        omega
      have nl2 : r.length ≤ 10 := by omega
      rcases ih (ps ++ [(o, s)]) (s + (l : Int)) (.dat (nI o)) (.dat (nI l)) (.dat (nI a)) (.dat (.int s)) (fun v hv => ho v (List.mem_cons_of_mem _ hv)) nd' nl' (by omega) (by omega) rfl rfl rfl rfl rfl with ⟨qs, f', z5, z6, z7, z8, h1, h2, h3⟩ | ⟨zs, h1, h2⟩
      · left
        refine ⟨(o, s) :: qs, f', z5, z6, z7, z8, by show (sched t b ss r (s + (l : Int))).map _ = _; rw [h1]; rfl, h2, ?_⟩
        rw [h3, List.append_assoc]
        rfl
      · right
        exact ⟨zs, by show (sched t b ss r (s + (l : Int))).map _ = _; rw [h1]; rfl, h2⟩
theorem e_starts_of {os : List Nat} (ho : ∀ o ∈ os, o < ss.length) (nd : os.Nodup) (fu : ∀ a, a < ss.length → a ∈ os) (ol : os.length ≤ 10) : F_starts_of [.dat (rvD t b), .dat (shsD ss), .dat (nT os)] = .ok (schD ss.length (sched t b ss os 0)) [.dat (rvD t b), .dat (shsD ss), .dat (nT os)] := by
  have k0 : kvP [] = [] := rfl
  rcases so_loop g hc b gs (X2 := .dat (nT os)) os [] 0 .un .un .un .un ho nd ol (by decide) (by omega) rfl rfl rfl rfl rfl with ⟨qs, f', z5, z6, z7, z8, h1, h2, h3⟩ | ⟨zs, h1, h2⟩
  · rw [k0, List.nil_append] at h3
    rw [h1]
    have rb : rgB (ss.length : Int) = true := rgB_ok (by omega) (by have := gs.len; omega)
    have C : compGo (fgN 5) fYes (fDGet 3 (fV 5)) [5] ((List.range ss.length).map nI) [.dat (rvD t b), .dat (shsD ss), .dat (nT os), .dK false (kvP qs), .dat (.int f'), .un, z6, z7, z8] [] = .ok ([] ++ (List.range ss.length).map fun a : Nat => .int ((lkP qs a).getD 0)) [.dat (rvD t b), .dat (shsD ss), .dat (nT os), .dK false (kvP qs), .dat (.int f'), .un, z6, z7, z8] := by
      refine compGo_L (enc := nI) (q := fun a : Nat => .int ((lkP qs a).getD 0)) (fun a ha => ?_) (by have := gs.len; rw [sizeLine_eq]; simp; omega)
      obtain ⟨s, hs⟩ := lk_some (ps := qs) (a := a) (by rw [sched_keys h1]; exact fu a (List.mem_range.mp ha))
      have v := kv_val qs a
      rw [hs] at v
      have v : valD (kvP qs) (Sum.inl (a : Int)) = some (.int s) := v
      refine ⟨[.dat (rvD t b), .dat (shsD ss), .dat (nT os), .dK false (kvP qs), .dat (.int f'), .dat (nI a), z6, z7, z8], [.dat (rvD t b), .dat (shsD ss), .dat (nT os), .dK false (kvP qs), .dat (.int f'), .dat (nI a), z6, z7, z8], by simp, by simp [ev_DGet, v, hs], by simp⟩
    have e : ((List.range ss.length).map fun a : Nat => PyData.int ((lkP qs a).getD 0)) = (begL ss.length qs).map .int := by rw [begL, List.map_map]; rfl
    rw [List.nil_append, e] at C
    have lenS : gLen [shsD ss] = some (.int (ss.length : Int)) := by simp [gLen, shsD]
    unfold F_starts_of B_starts_of
    have pn : pinnedAt [.dat (rvD t b), .dat (shsD ss), .dat (nT os), .un, .un, .un, .un, .un, .un] 3 = false := rfl
    simp only [ev_Run, List.replicate, List.cons_append, List.nil_append, ev_Seq, ev_NewK, pn, Bool.false_eq_true, if_false, ev_seqn, ev_Asg, ev_C, ev_oko, ev_gN, List.getElem?_cons_zero, List.getElem?_cons_succ, ev_pinU, List.set_cons_succ, List.set_cons_zero, ev_osome, ev_For, ev_iSeq, ev_V, ev_ok, h3, ev_Ret, ev_CB, ev_Cons, ev_Nil, ev_L, ev_Comp, ev_Rng1, lenS, ev_some, rb, if_true, rng_nat]
    simp [noOwn, h2, C, gTuple, schD]
  · rw [h1]
    unfold F_starts_of B_starts_of
    have pn : pinnedAt [.dat (rvD t b), .dat (shsD ss), .dat (nT os), .un, .un, .un, .un, .un, .un] 3 = false := rfl
    rw [k0] at h2
    simp only [ev_Run, List.replicate, List.cons_append, List.nil_append, ev_Seq, ev_NewK, pn, Bool.false_eq_true, if_false, ev_seqn, ev_Asg, ev_C, ev_oko, ev_gN, List.getElem?_cons_zero, List.getElem?_cons_succ, ev_pinU, List.set_cons_succ, List.set_cons_zero, ev_osome, ev_For, ev_iSeq, ev_V, ev_ok, h2]
    simp [schD]
end
end LW

namespace LW
open PySem PySem.Spec PyProof.Rows L2 FL
/-! ### k12: the law's own starts -/
theorem e_law_lies {t : List (List Int)} (g : GoodT t) (b y : Int) {l : Nat} (hl : l ≤ 1000) : F__law_lies [.dat (tabD t), .dat (.int b), .dat (.int y), .dat (nI l)] = .ok (.bool (liesB t b y l)) [.dat (tabD t), .dat (.int b), .dat (.int y), .dat (nI l)] := by
  have r : rgB (l : Int) = true := rgB_ok (by omega) (by omega)
  have C : compGo (fgN 4) (fTst (fOp gLt (fCallN 2 F__law_height (faCons (fV 0) (faCons (fOp gAdd (fV 2) (fV 4)) faNil))) (fV 1))) (fC (.int 1)) [4] ((List.range l).map nI) [.dat (tabD t), .dat (.int b), .dat (.int y), .dat (nI l), .un] [] = .ok ([] ++ ((List.range l).filter fun k : Nat => !okB t b (y + (k : Int))).map fun _ => .int 1) [.dat (tabD t), .dat (.int b), .dat (.int y), .dat (nI l), .un] := by
    refine compGo_FL (enc := nI) (b := fun k : Nat => !okB t b (y + (k : Int))) (q := fun _ => .int 1) (fun k _ => ?_) (by rw [sizeLine_eq]; simp; omega)
    refine ⟨[.dat (tabD t), .dat (.int b), .dat (.int y), .dat (nI l), .dat (nI k)], [.dat (tabD t), .dat (.int b), .dat (.int y), .dat (nI l), .dat (nI k)], by simp, ?_, fun _ => by simp, fun _ => ⟨[.dat (tabD t), .dat (.int b), .dat (.int y), .dat (nI l), .dat (nI k)], by simp, by simp⟩⟩
    have e : (!okB t b (y + (k : Int))) = decide (height t (y + (k : Int)) < b) := by
      unfold okB
      by_cases c : b ≤ height t (y + (k : Int))
      · rw [decide_eq_true c, decide_eq_false (by omega)]
        rfl
      · rw [decide_eq_false c, decide_eq_true (by omega)]
        rfl
    rw [e]
    simp [gAdd, e_law_height g, gCmp]
  rw [List.nil_append] at C
  have e : (((((List.range l).filter fun k : Nat => !okB t b (y + (k : Int))).map fun _ => PyData.int 1).length : Int) == 0) = liesB t b y l := by
    rw [List.length_map]
    unfold liesB
    cases q : (List.range l).all fun k : Nat => okB t b (y + (k : Int))
    · obtain ⟨k, hk, hb⟩ := List.all_eq_false.mp q
      have m : k ∈ (List.range l).filter fun k : Nat => !okB t b (y + (k : Int)) := List.mem_filter.mpr ⟨hk, by simpa using hb⟩
      have := List.length_pos_of_mem m
      exact beq_eq_false_iff_ne.mpr (by omega)
    · have n : (List.range l).filter (fun k : Nat => !okB t b (y + (k : Int))) = [] := List.filter_eq_nil_iff.mpr fun k hk => by
        have := List.all_eq_true.mp q k hk
        simp [this]
      rw [n]
      rfl
  simp only [F__law_lies, B__law_lies, ev_Run, List.replicate, List.cons_append, List.nil_append, ev_Ret, ev_Op, ev_CB, ev_Cons, ev_Nil, ev_L, ev_Comp, ev_Rng1, ev_V, List.getElem?_cons_zero, List.getElem?_cons_succ, ev_ok, r, if_true, rng_nat, noOwn, ev_ownU, Bool.not_false, List.all_cons, List.all_nil, Bool.and_true, ev_wipe1, ev_wipe0, List.set_cons_succ, List.set_cons_zero, C, ev_rest1, ev_rest0, gLen, ev_some, ev_C, gEq_int, e, ev_oko, ev_fin, ev_outs1, ev_outs0, ev_ownD, Bool.false_eq_true, if_false, Option.map_some]
/-- the list found of the law -/
def flD (n : Nat) (ps : List (Nat × Int)) : List PyData := (List.range n).map fun a => optI (lkP ps a)
theorem fl_set {n o : Nat} {ps : List (Nat × Int)} {s : Int} (ho : o < n) (h : o ∉ ps.map (·.1)) : (flD n ps).set o (.int s) = flD n (ps ++ [(o, s)]) := by
  refine List.ext_getElem? fun i => ?_
  unfold flD
  rw [List.getElem?_set, List.length_map, List.length_range, List.getElem?_map, List.getElem?_map]
  by_cases c : o = i
  · subst c
    rw [if_pos rfl, if_pos ho, List.getElem?_range ho, Option.map_some, lk_snoc h, if_pos rfl]
    rfl
  · rw [if_neg c]
    cases q : (List.range n)[i]? with
    | none => rfl
    | some a =>
      have e : a = i := by
        by_cases hi : i < n
        · rw [List.getElem?_range hi] at q
          exact (Option.some.inj q).symm
        · rw [List.getElem?_eq_none (by rw [List.length_range]; omega)] at q
          cases q
      subst e
      rw [Option.map_some, Option.map_some, lk_snoc h, if_neg (fun z => c z.symm)]
noncomputable abbrev lsI : FS := fSeq (fIfS (fTst (fCallN 4 F__law_lies (faCons (fV 0) (faCons (fV 1) (faCons (fV 9) (faCons (fV 7) faNil)))))) fBreak fNext)
  (fSet 9 (fOp gAdd (fV 9) (fC (.int 1))))
theorem ls_inner {t : List (List Int)} (g : GoodT t) {b : Int} {l : Nat} (hl : l ≤ 1000) {A2 A3 A4 A5 A6 A8 : Slot} : ∀ (ds : List PyData) (p : Int) (y : Slot), y.pin = false → ∃ (i : Nat) (z : Slot), z.pin = false ∧ forGo (fgN 10) lsI ds [.dat (tabD t), .dat (.int b), A2, A3, A4, A5, A6, .dat (nI l), A8, .dat (.int p), y] = .nx [.dat (tabD t), .dat (.int b), A2, A3, A4, A5, A6, .dat (nI l), A8, .dat (.int (p + (i : Int))), z] ∧ i ≤ ds.length ∧ (∀ k : Nat, k < i → liesB t b (p + (k : Int)) l = false) ∧ (i < ds.length → liesB t b (p + (i : Int)) l = true)
  | [], p, y, hy => ⟨0, y, hy, by simp, Nat.le_refl _, fun k hk => by omega, fun hk => by simp at hk⟩
  | d :: ds, p, y, hy => by
    have H := e_law_lies g b p hl
    cases c : liesB t b p l
    · rw [c] at H
      obtain ⟨i, z, hz, h1, h2, h3, h4⟩ := ls_inner g (b := b) hl (A2 := A2) (A3 := A3) (A4 := A4) (A5 := A5) (A6 := A6) (A8 := A8) ds (p + 1) (.dat d) rfl
      refine ⟨i + 1, z, hz, ?_, by rw [List.length_cons]; omega, fun k hk => ?_, fun hk => ?_⟩
      · rw [forGo_cons (e1 := [.dat (tabD t), .dat (.int b), A2, A3, A4, A5, A6, .dat (nI l), A8, .dat (.int p), .dat d]) (e2 := [.dat (tabD t), .dat (.int b), A2, A3, A4, A5, A6, .dat (nI l), A8, .dat (.int (p + 1)), .dat d]) (by simp [hy]) (by simp [lsI, H, gAdd]), h1]
        have e1 : p + 1 + (i : Int) = p + ((i + 1 : Nat) : Int) := by omega
        rw [e1]
      · match k with
        | 0 => simpa using c
        | k + 1 =>
          have := h3 k (by omega)
          rw [show p + 1 + (k : Int) = p + ((k + 1 : Nat) : Int) by omega] at this
          exact this
      · have := h4 (by rw [List.length_cons] at hk; omega)
        rw [show p + 1 + (i : Int) = p + ((i + 1 : Nat) : Int) by omega] at this
        exact this
    · rw [c] at H
      refine ⟨0, .dat d, rfl, ?_, by omega, fun k hk => by omega, fun _ => by simpa using c⟩
      rw [forGo_bk (e1 := [.dat (tabD t), .dat (.int b), A2, A3, A4, A5, A6, .dat (nI l), A8, .dat (.int p), .dat d]) (e2 := [.dat (tabD t), .dat (.int b), A2, A3, A4, A5, A6, .dat (nI l), A8, .dat (.int p), .dat d]) (by simp [hy]) (by simp [lsI, H])]
      simp
noncomputable abbrev lsB : FS := fSeq (fAsg (fOp gIx (fV 2) (fV 6)) (fgTup (fgCons (fgN 7) (fgCons (fgN 8) fgNil)) 2))
  (fSeq (fSet 9 (fCB gMax2 (fCons (fV 5) (fCons (fV 8) fNil))))
  (fSeq (fFor (fRng1 (fCons (fCallN 1 F__law_cycle (faCons (fV 0) faNil)) fNil)) (fgN 10) lsI)
  (fSeq (fIfS (fNotT (fTst (fCallN 4 F__law_lies (faCons (fV 0) (faCons (fV 1) (faCons (fV 9) (faCons (fV 7) faNil))))))) (fRet (fC .none)) fNext)
  (fAsgSI 4 5 (fV 6) (fV 9) (fOp gAdd (fV 9) (fV 7))))))
section
variable {t : List (List Int)} (g : GoodT t) (hc : cyc t ≤ 1000) (b : Int) {ss : List Ship} (gs : GoodS ss)
include g hc gs
theorem ls_loop {X3 : Slot} : ∀ (os : List Nat) (ps : List (Nat × Int)) (f : Int) (y6 y7 y8 y9 y10 : Slot), (∀ o ∈ os, o < ss.length) → ((ps.map (·.1)) ++ os).Nodup → y6.pin = false → y7.pin = false → y8.pin = false → y9.pin = false → y10.pin = false →
    (∃ qs f' z6 z7 z8 z9 z10, sched t b ss os f = some qs ∧ forGo (fgN 6) lsB (os.map nI) [.dat (tabD t), .dat (.int b), .dat (shsD ss), X3, .lst false (flD ss.length ps), .dat (.int f), y6, y7, y8, y9, y10] = .nx [.dat (tabD t), .dat (.int b), .dat (shsD ss), X3, .lst false (flD ss.length (ps ++ qs)), .dat (.int f'), z6, z7, z8, z9, z10]) ∨
    (∃ zs, sched t b ss os f = none ∧ forGo (fgN 6) lsB (os.map nI) [.dat (tabD t), .dat (.int b), .dat (shsD ss), X3, .lst false (flD ss.length ps), .dat (.int f), y6, y7, y8, y9, y10] = .rt .none (.dat (tabD t) :: .dat (.int b) :: .dat (shsD ss) :: X3 :: zs)) := by
  intro os
  induction os with
  | nil =>
    intro ps f y6 y7 y8 y9 y10 _ _ _ _ _ _ _
    exact .inl ⟨[], f, y6, y7, y8, y9, y10, rfl, by rw [List.append_nil]; rfl⟩
  | cons o r ih =>
    intro ps f y6 y7 y8 y9 y10 ho nd p6 p7 p8 p9 p10
    have n0 := cyc_pos (lenOk_of g)
    have ol := ho o List.mem_cons_self
    obtain ⟨l, a, hs⟩ : ∃ l a, ss.getD o (0, 0) = (l, a) := ⟨_, _, rfl⟩
    have gi := atI_ship (ss := ss) ol
    rw [hs] at gi
    have so := gs.ok (l, a) (by
      rw [← hs, List.getD_eq_getElem?_getD, List.getElem?_eq_getElem ol]
      exact List.getElem_mem ol)
    have l1 := so.1
    have l2 := so.2.1
    dsimp only at l1 l2
    obtain ⟨y, hy⟩ : ∃ y, y = mx f (a : Int) := ⟨_, rfl⟩
    have mq : gMax2 [.int f, .int (a : Int)] = some (.int y) := by rw [hy]; rfl
    have rb : rgB ((cyc t : Nat) : Int) = true := rgB_ok (by omega) (by omega)
    have kc := e_law_cycle (lenOk_of g)
    obtain ⟨i, z, hz, h1, h2, h3, h4⟩ := ls_inner g (b := b) (l := l) (by omega) (A2 := .dat (shsD ss)) (A3 := X3) (A4 := .lst false (flD ss.length ps)) (A5 := .dat (.int f)) (A6 := .dat (nI o)) (A8 := .dat (nI a)) ((List.range (cyc t)).map nI) y y10 p10
    rw [List.length_map, List.length_range] at h2 h4
    have LB := e_law_lies g b (y + (i : Int)) (l := l) (by omega)
    have t1 : fgN 6 (nI o) [.dat (tabD t), .dat (.int b), .dat (shsD ss), X3, .lst false (flD ss.length ps), .dat (.int f), y6, y7, y8, y9, y10] = some [.dat (tabD t), .dat (.int b), .dat (shsD ss), X3, .lst false (flD ss.length ps), .dat (.int f), .dat (nI o), y7, y8, y9, y10] := by simp [p6]
    have es : sched t b ss (o :: r) f = (startP t b y l).bind fun s => (sched t b ss r (s + (l : Int))).map fun ps => (o, s) :: ps := by rw [sched, hs, hy]
    rw [List.map_cons, es]
    by_cases c : i < cyc t
    · have li := h4 c
      rw [li] at LB
      have sp : startP t b y l = some (y + (i : Int)) := by
        unfold startP
        rw [find_first (p := fun i : Nat => liesB t b (y + (i : Int)) l) (j := i) c li h3]
        rfl
      rw [sp]
      have on : o ∉ ps.map (·.1) := fun z => by
        have := (List.nodup_append.mp nd).2.2 o z o List.mem_cons_self
        exact this rfl
      have ixn : ixN (flD ss.length ps).length (o : Int) = some o := by
        unfold ixN flD
        rw [List.length_map, List.length_range, if_pos (by omega), if_pos (by omega), Int.toNat_natCast]
      have fs := fl_set (s := y + (i : Int)) ol on
      have t2 : lsB [.dat (tabD t), .dat (.int b), .dat (shsD ss), X3, .lst false (flD ss.length ps), .dat (.int f), .dat (nI o), y7, y8, y9, y10] = .nx [.dat (tabD t), .dat (.int b), .dat (shsD ss), X3, .lst false (flD ss.length (ps ++ [(o, y + (i : Int))])), .dat (.int (y + (i : Int) + (l : Int))), .dat (nI o), .dat (nI l), .dat (nI a), .dat (.int (y + (i : Int))), z] := by
        simp only [lsB, ev_Seq, ev_Asg, ev_Op, ev_V, List.getElem?_cons_zero, List.getElem?_cons_succ, ev_ok, gi, ev_some, shD, ev_oko, fgTup, fgCons, fgNil, ev_gN, p7, p8, p9, Bool.false_eq_true, if_false, List.set_cons_succ, List.set_cons_zero, List.length_cons, List.length_nil, Nat.zero_add, Nat.reduceAdd, if_true, Option.bind_some, ev_osome, ev_seqn, ev_CB, ev_Cons, ev_Nil, mq, ev_For, ev_Rng1, ev_CallN, ev_aCons, ev_aNil, ev_callF, ev_oo0, ev_oo1, ev_so0, ev_so1, Option.map_some, Option.map_none, kc, ev_back, ev_oa0, ev_oa1, rb, rng_nat, h1, ev_IfS, ev_NotT, ev_Tst, LB, ev_asB, Bool.not_true, ev_Next, ev_AsgSI, gAdd, ixn, fs, ev_pinD]
      rw [forGo_cons t1 t2]
      have nd' : (((ps ++ [(o, y + (i : Int))]).map (·.1)) ++ r).Nodup := by
        rw [List.map_append, List.append_assoc]
        exact nd
      rcases ih (ps ++ [(o, y + (i : Int))]) (y + (i : Int) + (l : Int)) (.dat (nI o)) (.dat (nI l)) (.dat (nI a)) (.dat (.int (y + (i : Int)))) z (fun v hv => ho v (List.mem_cons_of_mem _ hv)) nd' rfl rfl rfl rfl hz with ⟨qs, f', z6, z7, z8, z9, z10, k1, k2⟩ | ⟨zs, k1, k2⟩
      · left
        refine ⟨(o, y + (i : Int)) :: qs, f', z6, z7, z8, z9, z10, by show (sched t b ss r (y + (i : Int) + (l : Int))).map _ = _; rw [k1]; rfl, ?_⟩
        rw [k2, List.append_assoc]
        rfl
      · right
        exact ⟨zs, by show (sched t b ss r (y + (i : Int) + (l : Int))).map _ = _; rw [k1]; rfl, k2⟩
    · have ei : i = cyc t := by omega
      have no : (List.range (cyc t)).find? (fun i : Nat => liesB t b (y + (i : Int)) l) = none := List.find?_eq_none.mpr fun k hk => by
        have := h3 k (by have := List.mem_range.mp hk; omega)
        simp [this]
      have sp : startP t b y l = none := by
        unfold startP
        rw [no]
        rfl
      have l0 : liesB t b (y + (i : Int)) l = false := by
        have a := h3 0 (by omega)
        rw [← lies_mod] at a ⊢
        rw [ei, show y + ((cyc t : Nat) : Int) = y + ((0 : Nat) : Int) + ((cyc t : Nat) : Int) by omega, Int.add_emod_right]
        exact a
      rw [l0] at LB
      rw [sp]
      right
      refine ⟨[.lst false (flD ss.length ps), .dat (.int f), .dat (nI o), .dat (nI l), .dat (nI a), .dat (.int (y + (i : Int))), z], rfl, ?_⟩
      rw [forGo_rt t1]
      simp only [lsB, ev_Seq, ev_Asg, ev_Op, ev_V, List.getElem?_cons_zero, List.getElem?_cons_succ, ev_ok, gi, ev_some, shD, ev_oko, fgTup, fgCons, fgNil, ev_gN, p7, p8, p9, Bool.false_eq_true, if_false, List.set_cons_succ, List.set_cons_zero, List.length_cons, List.length_nil, Nat.zero_add, Nat.reduceAdd, if_true, Option.bind_some, ev_osome, ev_seqn, ev_CB, ev_Cons, ev_Nil, mq, ev_For, ev_Rng1, ev_CallN, ev_aCons, ev_aNil, ev_callF, ev_oo0, ev_oo1, ev_so0, ev_so1, Option.map_some, Option.map_none, kc, ev_back, ev_oa0, ev_oa1, rb, rng_nat, h1, ev_IfS, ev_NotT, ev_Tst, LB, ev_asB, Bool.not_false, ev_Ret, ev_C]
      rfl
theorem e_law_starts {os : List Nat} (ho : ∀ o ∈ os, o < ss.length) (nd : os.Nodup) (fu : ∀ a, a < ss.length → a ∈ os) : F__law_starts [.dat (tabD t), .dat (.int b), .dat (shsD ss), .dat (nT os)] = .ok (schD ss.length (sched t b ss os 0)) [.dat (tabD t), .dat (.int b), .dat (shsD ss), .dat (nT os)] := by
  have lenS : gLen [shsD ss] = some (.int (ss.length : Int)) := by simp [gLen, shsD]
  have gl := gs.len
  have l1 : 1 ≤ sizeLine := by rw [sizeLine_eq]; omega
  have rp := rep_ok (n := 1) (k := ss.length) (by rw [sizeLine_eq]; omega) (by omega)
  rw [Int.toNat_natCast] at rp
  have e0 : List.replicate ss.length PyData.none = flD ss.length [] := by
    have gen : ∀ n : Nat, List.replicate n PyData.none = (List.range n).map fun _ => PyData.none := fun n => by
      induction n with
      | zero => rfl
      | succ k ih => rw [List.range_succ, List.map_append, ← ih, List.replicate_succ']; rfl
    exact gen _
  have pc : fParC 4 5 (fRepF (fL (fLst (fCons (fC .none) fNil))) (fCB gLen (fCons (fV 2) fNil))) (.int 0) [.dat (tabD t), .dat (.int b), .dat (shsD ss), .dat (nT os), .un, .un, .un, .un, .un, .un, .un] = .nx [.dat (tabD t), .dat (.int b), .dat (shsD ss), .dat (nT os), .lst false (flD ss.length []), .dat (.int 0), .un, .un, .un, .un, .un] := by
    have e : fRepF (fL (fLst (fCons (fC .none) fNil))) (fCB gLen (fCons (fV 2) fNil)) [.dat (tabD t), .dat (.int b), .dat (shsD ss), .dat (nT os), .un, .un, .un, .un, .un, .un, .un] = .ok (flD ss.length []) [.dat (tabD t), .dat (.int b), .dat (shsD ss), .dat (nT os), .un, .un, .un, .un, .un, .un, .un] := by
      simp only [ev_RepF, ev_L, ev_Lst, ev_Cons, ev_Nil, ev_C, ev_ok, List.length_cons, List.length_nil, Nat.zero_add, l1, if_true, ev_CB, ev_V, List.getElem?_cons_zero, List.getElem?_cons_succ, lenS, ev_some, rp, Int.toNat_natCast, flat_rep, e0]
    unfold fParC
    rw [e]
    rfl
  rcases ls_loop g hc b gs (X3 := .dat (nT os)) os [] 0 .un .un .un .un .un ho nd rfl rfl rfl rfl rfl with ⟨qs, f', z6, z7, z8, z9, z10, h1, h2⟩ | ⟨zs, h1, h2⟩
  · rw [List.nil_append] at h2
    rw [h1]
    have fb : flD ss.length qs = (begL ss.length qs).map .int := by
      unfold flD begL
      rw [List.map_map]
      refine List.map_congr_left fun a ha => ?_
      obtain ⟨s, hs⟩ := lk_some (ps := qs) (a := a) (by rw [sched_keys h1]; exact fu a (List.mem_range.mp ha))
      show optI (lkP qs a) = PyData.int ((lkP qs a).getD 0)
      rw [hs]
      rfl
    unfold F__law_starts B__law_starts
    simp only [ev_Run, List.replicate, List.cons_append, List.nil_append, ev_Seq, pc, ev_seqn, ev_For, ev_iSeq, ev_V, List.getElem?_cons_zero, List.getElem?_cons_succ, ev_ok, ev_oko, h2]
    simp [gTuple, schD, fb]
  · rw [h1]
    unfold F__law_starts B__law_starts
    simp only [ev_Run, List.replicate, List.cons_append, List.nil_append, ev_Seq, pc, ev_seqn, ev_For, ev_iSeq, ev_V, List.getElem?_cons_zero, List.getElem?_cons_succ, ev_ok, ev_oko, h2]
    simp [schD]
end
end LW

namespace LW
open PySem PySem.Spec PyProof.Rows L2 FL
/-! ### k12: ships told, orders -/
theorem k_tup : kitB "tuple" "tuple" = some true := by decide
def isShip : PyData → Bool
  | .tuple [.int a, .int b] => (decide (1 ≤ a) && decide (a ≤ 100)) && (decide (0 ≤ b) && decide (b ≤ 10000))
  | _ => false
theorem isShip_len {ds : List PyData} (h : ds.length ≠ 2) : isShip (.tuple ds) = false := by
  match ds with
  | [] => rfl
  | [_] => unfold isShip; split <;> first | rfl | (rename_i q; cases q)
  | [_, _] => exact absurd rfl h
  | _ :: _ :: _ :: _ => unfold isShip; split <;> first | rfl | (rename_i q; cases q)
theorem e_is_ship (d : PyData) : F_is_ship [.dat d] = .ok (.bool (isShip d)) [.dat d] := by
  cases d with
  | tuple ds =>
    by_cases hl : ds.length = 2
    · obtain ⟨a, b, rfl⟩ : ∃ a b, ds = [a, b] := by
        match ds, hl with
        | [a, b], _ => exact ⟨a, b, rfl⟩
      have a0 : atI [a, b] 0 = some a := atI_nat (j := 0) rfl
      have a1 : atI [a, b] 1 = some b := atI_nat (j := 1) rfl
      have h : allGo 1 (fCallN 1 F_is_integer (faCons (fV 1) faNil)) [a, b] [.dat (.tuple [a, b]), .un] = .ok ([a, b].all isInt) [.dat (.tuple [a, b]), .un] := by
        refine allGo_all fun d _ => ?_
        exact ⟨[.dat (.tuple [a, b]), .dat d], [.dat (.tuple [a, b]), .dat d], by simp, by simp [e_is_integer], by simp⟩
      cases ha : isInt a
      · have sf : isShip (.tuple [a, b]) = false := by
          cases a <;> first | (cases ha; done) | rfl
        simp [F_is_ship, B_is_ship, gIsi, tyD, k_tup, gLen, gNe_int, noOwn, h, ha, sf]
      · cases hb : isInt b
        · have sf : isShip (.tuple [a, b]) = false := by
            cases a <;> cases b <;> first | (cases ha; done) | (cases hb; done) | rfl
          simp [F_is_ship, B_is_ship, gIsi, tyD, k_tup, gLen, gNe_int, noOwn, h, ha, hb, sf]
        · cases a with
          | int i =>
            cases b with
            | int j =>
              have sf : isShip (.tuple [.int i, .int j]) = ((decide (1 ≤ i) && decide (i ≤ 100)) && (decide (0 ≤ j) && decide (j ≤ 10000))) := rfl
              rw [sf]
              by_cases c1 : 1 ≤ i
              · by_cases c2 : i ≤ 100
                · by_cases c3 : 0 ≤ j <;> simp [F_is_ship, B_is_ship, gIsi, tyD, k_tup, gLen, gNe_int, noOwn, h, isInt, gIx, a0, a1, gCmp, c1, c2, c3]
                · simp [F_is_ship, B_is_ship, gIsi, tyD, k_tup, gLen, gNe_int, noOwn, h, isInt, gIx, a0, a1, gCmp, c1, c2]
              · simp [F_is_ship, B_is_ship, gIsi, tyD, k_tup, gLen, gNe_int, noOwn, h, isInt, gIx, a0, a1, gCmp, c1]
            | _ => cases hb
          | _ => cases ha
    · have c' : ¬ (ds.length : Int) = 2 := by omega
      rw [isShip_len hl]
      simp [F_is_ship, B_is_ship, gIsi, tyD, k_tup, gLen, gNe_int, c']
  | _ => simp [F_is_ship, B_is_ship, gIsi, tyD, isShip, show kitB "NoneType" "tuple" = some false by decide, show kitB "bool" "tuple" = some false by decide, show kitB "int" "tuple" = some false by decide, show kitB "str" "tuple" = some false by decide, show kitB "list" "tuple" = some false by decide, show kitB "dict" "tuple" = some false by decide]
def areShips : PyData → Bool
  | .tuple ds => decide (ds.length ≤ 5) && ds.all isShip
  | _ => false
theorem e_are_ships (d : PyData) : F_are_ships [.dat d] = .ok (.bool (areShips d)) [.dat d] := by
  cases d with
  | tuple ws =>
    have h : allGo 1 (fCallN 1 F_is_ship (faCons (fV 1) faNil)) ws [.dat (.tuple ws), .un] = .ok (ws.all isShip) [.dat (.tuple ws), .un] := by
      refine allGo_all fun d _ => ?_
      exact ⟨[.dat (.tuple ws), .dat d], [.dat (.tuple ws), .dat d], by simp, by simp [e_is_ship], by simp⟩
    simp [F_are_ships, B_are_ships, gIsi, tyD, k_tup, gLen, gCmp]
    by_cases h2 : ws.length ≤ 5
    · simp [h2, areShips, noOwn, h, show ((ws.length : Int) ≤ 5) by omega]
    · simp [h2, areShips, show ¬ ((ws.length : Int) ≤ 5) by omega]
  | _ => simp [F_are_ships, B_are_ships, gIsi, tyD, areShips, show kitB "NoneType" "tuple" = some false by decide, show kitB "bool" "tuple" = some false by decide, show kitB "int" "tuple" = some false by decide, show kitB "str" "tuple" = some false by decide, show kitB "list" "tuple" = some false by decide, show kitB "dict" "tuple" = some false by decide]
theorem areShips_ok {ss : List Ship} (gs : GoodS ss) : areShips (shsD ss) = true := by
  unfold areShips shsD
  dsimp only
  rw [List.length_map, decide_eq_true (by have := gs.len; omega), Bool.true_and, List.all_map, List.all_eq_true]
  intro s hs
  obtain ⟨h1, h2, h3⟩ := gs.ok s hs
  show ((decide (1 ≤ (s.1 : Int)) && decide ((s.1 : Int) ≤ 100)) && (decide (0 ≤ (s.2 : Int)) && decide ((s.2 : Int) ≤ 10000))) = true
  rw [decide_eq_true (by omega), decide_eq_true (by omega), decide_eq_true (by omega), decide_eq_true (by omega)]
  rfl
theorem nd_sh {d b s : PyData} {x : Exn} (h : F_need_short [.dat d, .dat (.str "table")] = .ex x [.dat d, .dat (.str "table")]) : F_need_dock [.dat d, .dat b, .dat s] = .ex x [.dat d, .dat b, .dat s] := by
  simp [F_need_dock, B_need_dock, h]
section
variable {t : List (List Int)} (g : GoodT t) (hc : cyc t ≤ 1000)
include g hc
theorem nd_bar {b s : PyData} (h : bar b = false) : F_need_dock [.dat (tabD t), .dat b, .dat s] = .ex ⟨0, [.str "bar"]⟩ [.dat (tabD t), .dat b, .dat s] := by
  simp [F_need_dock, B_need_dock, sh_ok n_table g hc, e_need_bar _ _ n_bar, h]
theorem nd_ships {b s : PyData} (hb : bar b = true) (h : areShips s = false) : F_need_dock [.dat (tabD t), .dat b, .dat s] = .ex ⟨0, [.str "ships"]⟩ [.dat (tabD t), .dat b, .dat s] := by
  simp [F_need_dock, B_need_dock, sh_ok n_table g hc, e_need_bar _ _ n_bar, hb, e_are_ships, h, n_ships]
theorem nd_ok {b s : PyData} (hb : bar b = true) (h : areShips s = true) : F_need_dock [.dat (tabD t), .dat b, .dat s] = .ok .none [.dat (tabD t), .dat b, .dat s] := by
  simp [F_need_dock, B_need_dock, sh_ok n_table g hc, e_need_bar _ _ n_bar, hb, e_are_ships, h]
end
/-! all orders of at most three -/
def ordsL : Nat → List (List Nat)
  | 0 => [[]]
  | 1 => [[0]]
  | 2 => [[0, 1], [1, 0]]
  | _ => [[0, 1, 2], [0, 2, 1], [1, 0, 2], [1, 2, 0], [2, 0, 1], [2, 1, 0]]
abbrev osD (n : Nat) : PyData := .list ((ordsL n).map nT)
theorem e_orders {n : Nat} (h : n ≤ 3) : F_orders [.dat (nI n)] = .ok (osD n) [.dat (nI n)] := by
  match n, h with
  | 0, _ => rfl
  | 1, _ => rfl
  | 2, _ => rfl
  | 3, _ => rfl
theorem e_law_orders {n : Nat} (h : n ≤ 3) : F__law_orders [.dat (nI n)] = .ok (osD n) [.dat (nI n)] := by
  match n, h with
  | 0, _ => rfl
  | 1, _ => rfl
  | 2, _ => rfl
  | 3, _ => rfl
structure IsOrd (n : Nat) (os : List Nat) : Prop where
  lt : ∀ o ∈ os, o < n
  nd : os.Nodup
  fu : ∀ a, a < n → a ∈ os
  len : os.length = n
theorem ords_ok {n : Nat} (h : n ≤ 3) : ∀ os ∈ ordsL n, IsOrd n os := by
  have e : ∀ n, n ≤ 3 → ∀ os ∈ ordsL n, (∀ o ∈ os, o < n) ∧ os.Nodup ∧ (∀ a, a < n → a ∈ os) ∧ os.length = n := by
    intro n h
    match n, h with
    | 0, _ => decide
    | 1, _ => decide
    | 2, _ => decide
    | 3, _ => decide
  exact fun os ho => let ⟨a, b, c, d⟩ := e n h os ho; ⟨a, b, c, d⟩
theorem sort_ord {n : Nat} {os : List Nat} (o : IsOrd n os) : sortI (os.map fun k : Nat => (k : Int)) = (List.range n).map fun k : Nat => (k : Int) := by
  symm
  refine sortI_uniq ?_ ?_
  · refine List.Perm.map _ ?_
    exact (List.perm_ext_iff_of_nodup List.nodup_range o.nd).mpr fun a => by
      rw [List.mem_range]
      exact ⟨o.fu a, o.lt a⟩
  · rw [List.pairwise_map]
    exact (List.pairwise_lt_range).imp fun h => by omega
theorem srt_ords {n : Nat} (h : n ≤ 3) (f : FA) (e e1 : Sl) (hf : f e = .ok [osD n] e1) : fSortedTT f e = .ok ((ordsL n).map nT) e1 := by
  rw [ev_SortedTT, hf]
  match n, h with
  | 0, _ => rfl
  | 1, _ => rfl
  | 2, _ => rfl
  | 3, _ => rfl
end LW

namespace LW
open PySem PySem.Spec PyProof.Rows L2 FL
/-! ### k12: starts, the best orders -/
theorem e_runs {t : List (List Int)} (g : GoodT t) (hc : cyc t ≤ 1000) (b : Int) : F_runs_on [.dat (bL (rowB t b))] = .ok (rvD t b) [.dat (bL (rowB t b))] :=
  e_runs_on (cyc_pos (lenOk_of g)) hc fun i : Nat => okB t b (i : Int)
def zipS (bl : List Int) (ss : List Ship) : List (Int × Ship) := bl.zip ss
def zsD (z : Int × Ship) : PyData := .tuple [.int z.1, shD z.2]
theorem zipS_eq (bl : List Int) (ss : List Ship) : zipD (bl.map PyData.int) (ss.map shD) = (zipS bl ss).map zsD := by
  unfold zipD zipS
  rw [List.zip_map, List.map_map]
  rfl
def endV (bl : List Int) (ss : List Ship) : Int := maxL (0 :: (zipS bl ss).map fun z => z.1 + (z.2.1 : Int))
def waitV (bl : List Int) (ss : List Ship) : Int := ((zipS bl ss).map fun z => z.1 - (z.2.2 : Int)).sum
theorem zipS_len (bl : List Int) {ss : List Ship} (gs : GoodS ss) : (zipS bl ss).length ≤ 3 := by
  have := gs.len
  unfold zipS
  rw [List.length_zip]
  omega
theorem sh0 (s : Ship) : gIx (shD s) (.int 0) = some (nI s.1) := atI_nat (j := 0) rfl
theorem sh1 (s : Ship) : gIx (shD s) (.int 1) = some (nI s.2) := atI_nat (j := 1) rfl
theorem e_end_of (bl : List Int) {ss : List Ship} (gs : GoodS ss) : F_end_of [.dat (shsD ss), .dat (.tuple (bl.map .int))] = .ok (.int (endV bl ss)) [.dat (shsD ss), .dat (.tuple (bl.map .int))] := by
  have zl := zipS_len bl gs
  have C : compGo (fgTup (fgCons (fgN 2) (fgCons (fgN 3) fgNil)) 2) fYes (fOp gAdd (fV 2) (fOp gIx (fV 3) (fC (.int 0)))) [2, 3] ((zipS bl ss).map zsD) [.dat (shsD ss), .dat (.tuple (bl.map .int)), .un, .un] [] = .ok ([] ++ (zipS bl ss).map fun z => .int (z.1 + (z.2.1 : Int))) [.dat (shsD ss), .dat (.tuple (bl.map .int)), .un, .un] := by
    refine compGo_L (enc := zsD) (q := fun z => .int (z.1 + (z.2.1 : Int))) (fun z _ => ?_) (by rw [sizeLine_eq]; simp; omega)
    exact ⟨[.dat (shsD ss), .dat (.tuple (bl.map .int)), .dat (.int z.1), .dat (shD z.2)], [.dat (shsD ss), .dat (.tuple (bl.map .int)), .dat (.int z.1), .dat (shD z.2)], by simp [zsD, fgTup, fgCons, fgNil], by simp [sh0, gAdd], by simp⟩
  have e : ((zipS bl ss).map fun z => PyData.int (z.1 + (z.2.1 : Int))) = ((zipS bl ss).map fun z => z.1 + (z.2.1 : Int)).map .int := by rw [List.map_map]; rfl
  rw [List.nil_append, e] at C
  have l1 : 1 ≤ sizeLine := by rw [sizeLine_eq]; omega
  have ca : gAdd (.list [.int 0]) (.list (((zipS bl ss).map fun z => z.1 + (z.2.1 : Int)).map .int)) = some (iL (0 :: (zipS bl ss).map fun z => z.1 + (z.2.1 : Int))) := by
    unfold gAdd
    dsimp only
    rw [if_pos (by rw [List.length_map, List.length_map, sizeLine_eq]; simp; omega)]
    rfl
  have gm := gMax_ints (L := 0 :: (zipS bl ss).map fun z => z.1 + (z.2.1 : Int)) (by simp)
  have es : shsD ss = .tuple (ss.map shD) := rfl
  have zz := zipS_eq bl ss
  simp only [F_end_of, B_end_of, ev_Run, List.replicate, List.cons_append, List.nil_append, ev_Ret, ev_CB, ev_Cons, ev_Nil, ev_Op, ev_L, ev_Lst, ev_C, ev_ok, List.length_cons, List.length_nil, Nat.zero_add, l1, if_true, ev_Comp]
  have fz : fZip (fCons (fV 1) (fCons (fV 0) fNil)) [.dat (shsD ss), .dat (.tuple (bl.map .int)), .un, .un] = .ok ((zipS bl ss).map zsD) [.dat (shsD ss), .dat (.tuple (bl.map .int)), .un, .un] := by
    rw [← zz]
    rfl
  rw [fz]
  simp only [ev_ok, noOwn, List.all_cons, List.all_nil, List.getElem?_cons_zero, List.getElem?_cons_succ, ev_ownU, Bool.not_false, Bool.and_true, if_true, ev_wipe0, ev_wipe1, List.set_cons_succ, List.set_cons_zero, C, ev_rest0, ev_rest1, ca, gm, ev_some, endV, ev_oko, ev_fin, ev_outs1, ev_outs0, ev_ownD, Bool.false_eq_true, if_false, Option.map_some]
def stepO (val : List Nat → Option Int) (b : Option (List Nat × Int)) (o : List Nat) : Option (List Nat × Int) := match val o with
  | none => b
  | some e => match b with
    | none => some (o, e)
    | some p => if e < p.2 then some (o, e) else some p
def obD : Option (List Nat × Int) → PyData
  | none => .none
  | some p => .tuple [nT p.1, .int p.2]
section
variable {t : List (List Int)} (g : GoodT t) (hc : cyc t ≤ 1000) {b : Int} (hb : bar (.int b) = true) {ss : List Ship} (gs : GoodS ss)
def begO (t : List (List Int)) (b : Int) (ss : List Ship) (o : List Nat) : Option (List Int) := (sched t b ss o 0).map (begL ss.length)
def valE (t : List (List Int)) (b : Int) (ss : List Ship) (o : List Nat) : Option Int := (begO t b ss o).map fun bl => endV bl ss
def valW (t : List (List Int)) (b : Int) (ss : List Ship) (o : List Nat) : Option Int := (begO t b ss o).map fun bl => waitV bl ss
def bgD : Option (List Int) → PyData
  | none => .none
  | some bl => .tuple (bl.map .int)
omit hb in
include g hc gs in
theorem e_so {o : List Nat} (io : IsOrd ss.length o) : F_starts_of [.dat (rvD t b), .dat (shsD ss), .dat (nT o)] = .ok (bgD (begO t b ss o)) [.dat (rvD t b), .dat (shsD ss), .dat (nT o)] := by
  have := e_starts_of g hc b gs io.lt io.nd io.fu (by rw [io.len]; have := gs.len; omega)
  rw [this]
  unfold begO
  cases sched t b ss o 0 <;> rfl
include g hc gs in
theorem e_ls {o : List Nat} (io : IsOrd ss.length o) : F__law_starts [.dat (tabD t), .dat (.int b), .dat (shsD ss), .dat (nT o)] = .ok (bgD (begO t b ss o)) [.dat (tabD t), .dat (.int b), .dat (shsD ss), .dat (nT o)] := by
  have := e_law_starts g hc b gs io.lt io.nd io.fu
  rw [this]
  unfold begO
  cases sched t b ss o 0 <;> rfl
include g hc hb gs in
theorem e_starts {o : List Nat} (io : IsOrd ss.length o) : F_starts [.dat (tabD t), .dat (.int b), .dat (shsD ss), .dat (nT o)] = .ok (bgD (begO t b ss o)) [.dat (tabD t), .dat (.int b), .dat (shsD ss), .dat (nT o)] := by
  have so := e_so g hc (b := b) gs io
  have gl := gs.len
  have h : allGo 4 (fCallN 1 F_is_integer (faCons (fV 4) faNil)) (o.map nI) [.dat (tabD t), .dat (.int b), .dat (shsD ss), .dat (nT o), .un] = .ok ((o.map nI).all isInt) [.dat (tabD t), .dat (.int b), .dat (shsD ss), .dat (nT o), .un] := by
    refine allGo_all fun d _ => ?_
    exact ⟨[.dat (tabD t), .dat (.int b), .dat (shsD ss), .dat (nT o), .dat d], [.dat (tabD t), .dat (.int b), .dat (shsD ss), .dat (nT o), .dat d], by simp, by simp [e_is_integer], by simp⟩
  have ha : (o.map nI).all isInt = true := by
    rw [List.all_map, List.all_eq_true]
    exact fun _ _ => rfl
  rw [ha] at h
  have ti : toInts (o.map nI) = some (o.map fun k : Nat => (k : Int)) := toInts_map (fun k : Nat => (k : Int)) o
  have lenS : gLen [shsD ss] = some (.int (ss.length : Int)) := by simp [gLen, shsD]
  have rk : rgOkB (ss.length : Int) = true := by
    unfold rgOkB
    rw [decide_eq_true (by omega), decide_eq_true (by omega)]
    rfl
  have rd : rgD (ss.length : Int) = ((List.range ss.length).map fun k : Nat => (k : Int)).map .int := by
    unfold rgD
    rw [Int.toNat_natCast, List.map_map]
    rfl
  have ne := gNe_self (shaped_intL (fun k : Int => k) ((List.range ss.length).map fun k : Nat => (k : Int)))
  have so2 := sort_ord io
  have fl : ∀ e : Sl, e = [.dat (tabD t), .dat (.int b), .dat (shsD ss), .dat (nT o), .un] → fLstRg (fCB gLen (fCons (fV 2) fNil)) e = .ok (((List.range ss.length).map fun k : Nat => (k : Int)).map .int) e := fun e he => by
    subst he
    unfold fLstRg
    simp [lenS, rk, rd]
  have fs : ∀ e : Sl, e = [.dat (tabD t), .dat (.int b), .dat (shsD ss), .dat (nT o), .un] → fSortedTI (fCons (fV 3) fNil) e = .ok (((List.range ss.length).map fun k : Nat => (k : Int)).map .int) e := fun e he => by
    subst he
    rw [ev_SortedTI]
    simp only [ev_Cons, ev_V, List.getElem?_cons_zero, List.getElem?_cons_succ, ev_ok, ev_Nil, ti, so2]
  simp only [F_starts, B_starts, ev_Run, List.replicate, List.cons_append, List.nil_append, ev_Seq, ev_Drop, ev_CallN, ev_aCons, ev_aNil, ev_V, List.getElem?_cons_zero, List.getElem?_cons_succ, ev_ok, List.length_cons, List.length_nil, Nat.zero_add, Nat.reduceAdd, if_true, ev_callF, ev_oo0, ev_oo1, ev_so0, ev_so1, Option.map_some, Option.map_none, nd_ok g hc hb (areShips_ok gs), ev_back, ev_oa0, ev_oa1, ev_oko, ev_seqn, ev_IfS, ev_OrT, ev_NotT, ev_Tst, ev_Isi, gIsi, tyD, k_tup, ev_some, ev_asB, Bool.not_true, Bool.false_eq_true, if_false, ev_AllG, ev_iSeq, noOwn, List.all_cons, List.all_nil, ev_ownU, Bool.not_false, Bool.and_true, ev_wipe0, ev_wipe1, List.set_cons_succ, List.set_cons_zero, h, ev_rest0, ev_rest1, ev_Next, ev_Op, ev_L, fs _ rfl, fl _ rfl, ne, e_over_row g hc, e_runs g hc, so, ev_Ret, ev_fin, ev_outs1, ev_outs0, ev_ownD]
noncomputable abbrev boB : FS := fSeq (fSet 6 (fCallN 3 F_starts_of (faCons (fV 3) (faCons (fV 2) (faCons (fV 5) faNil)))))
  (fIfS (fTst (fOp gNotN (fV 6) (fC .none))) (fSeq (fSet 7 (fCallN 2 F_end_of (faCons (fV 2) (faCons (fV 6) faNil))))
  (fIfS (fOrT (fTst (fOp gIsN (fV 4) (fC .none))) (fTst (fOp gLt (fV 7) (fOp gIx (fV 4) (fC (.int 1)))))) (fSet 4 (fTup (fCons (fV 5) (fCons (fV 7) fNil)))) fNext)) fNext)
omit hb in
include g hc gs in
theorem bo_loop {A B : Slot} : ∀ (os : List (List Nat)) (p : Option (List Nat × Int)) (y5 y6 y7 : Slot), (∀ o ∈ os, IsOrd ss.length o) → y5.pin = false → y6.pin = false → y7.pin = false → ∃ z5 z6 z7 : Slot, forGo (fgN 5) boB (os.map nT) [A, B, .dat (shsD ss), .dat (rvD t b), .dat (obD p), y5, y6, y7] = .nx [A, B, .dat (shsD ss), .dat (rvD t b), .dat (obD (os.foldl (stepO (valE t b ss)) p)), z5, z6, z7] := by
  intro os
  have l2 : 2 ≤ sizeLine := by rw [sizeLine_eq]; omega
  induction os with
  | nil => exact fun p y5 y6 y7 _ _ _ _ => ⟨y5, y6, y7, rfl⟩
  | cons o os ih =>
    intro p y5 y6 y7 io p5 p6 p7
    have so := e_so g hc (b := b) gs (io o List.mem_cons_self)
    have t1 : fgN 5 (nT o) [A, B, .dat (shsD ss), .dat (rvD t b), .dat (obD p), y5, y6, y7] = some [A, B, .dat (shsD ss), .dat (rvD t b), .dat (obD p), .dat (nT o), y6, y7] := by simp [p5]
    have t2 : ∃ z7 : Slot, z7.pin = false ∧ boB [A, B, .dat (shsD ss), .dat (rvD t b), .dat (obD p), .dat (nT o), y6, y7] = .nx [A, B, .dat (shsD ss), .dat (rvD t b), .dat (obD (stepO (valE t b ss) p o)), .dat (nT o), .dat (bgD (begO t b ss o)), z7] := by
      unfold stepO valE
      cases q : begO t b ss o with
      | none =>
        rw [q] at so
        exact ⟨y7, p7, by simp [boB, so, bgD, gNotN_n, p6]⟩
      | some bl =>
        rw [q] at so
        have en := e_end_of bl gs
        have so : F_starts_of [.dat (rvD t b), .dat (shsD ss), .dat (nT o)] = .ok (.tuple (bl.map .int)) [.dat (rvD t b), .dat (shsD ss), .dat (nT o)] := so
        refine ⟨.dat (.int (endV bl ss)), rfl, ?_⟩
        cases p with
        | none => simp [boB, so, bgD, gNotN_t, gIsN_n, obD, en, gTupD, l2, p6, p7]
        | some p =>
          have a1 : atI [nT p.1, PyData.int p.2] 1 = some (.int p.2) := atI_nat (j := 1) rfl
          by_cases c : endV bl ss < p.2 <;> simp [boB, so, bgD, gNotN_t, gIsN_t, obD, en, gTupD, l2, p6, p7, gIx, a1, gCmp, c]
    obtain ⟨z7, q7, t2⟩ := t2
    obtain ⟨w5, w6, w7, h⟩ := ih (stepO (valE t b ss) p o) (.dat (nT o)) (.dat (bgD (begO t b ss o))) z7 (fun v hv => io v (List.mem_cons_of_mem _ hv)) rfl rfl q7
    exact ⟨w5, w6, w7, by rw [List.map_cons, forGo_cons t1 t2, h]; rfl⟩
include g hc hb gs in
theorem e_best_order : F_best_order [.dat (tabD t), .dat (.int b), .dat (shsD ss)] = .ok (obD ((ordsL ss.length).foldl (stepO (valE t b ss)) none)) [.dat (tabD t), .dat (.int b), .dat (shsD ss)] := by
  obtain ⟨z5, z6, z7, L⟩ := bo_loop g hc (b := b) gs (A := .dat (tabD t)) (B := .dat (.int b)) (ordsL ss.length) none .un .un .un (ords_ok gs.len) rfl rfl rfl
  have e0 : obD none = .none := rfl
  rw [e0] at L
  have lenS : gLen [shsD ss] = some (.int (ss.length : Int)) := by simp [gLen, shsD]
  have eo := e_orders gs.len
  simp only [F_best_order, B_best_order, ev_Run, List.replicate, List.cons_append, List.nil_append, ev_Seq, ev_Drop, ev_CallN, ev_aCons, ev_aNil, ev_V, List.getElem?_cons_zero, List.getElem?_cons_succ, ev_ok, List.length_cons, List.length_nil, Nat.zero_add, Nat.reduceAdd, if_true, ev_callF, ev_oo0, ev_oo1, ev_so0, ev_so1, Option.map_some, Option.map_none, nd_ok g hc hb (areShips_ok gs), ev_back, ev_oa0, ev_oa1, ev_oko, ev_seqn, ev_Asg, e_over_row g hc, e_runs g hc, ev_gN, ev_pinU, Bool.false_eq_true, if_false, ev_osome, List.set_cons_succ, List.set_cons_zero, ev_C, ev_For, ev_iSeq, ev_CB, ev_Cons, ev_Nil, lenS, ev_some, eo, L, ev_Ret, ev_fin, ev_outs1, ev_outs0, ev_ownD]
noncomputable abbrev lwB : FS := fSeq (fSet 6 (fCallN 3 F_starts_of (faCons (fV 3) (faCons (fV 2) (faCons (fV 5) faNil)))))
  (fIfS (fTst (fOp gNotN (fV 6) (fC .none))) (fSeq (fSet 7 (fCB gSum (fCons (fL (fComp (fZip (fCons (fV 6) (fCons (fV 2) fNil))) (fgTup (fgCons (fgN 8) (fgCons (fgN 9) fgNil)) 2) fYes (fOp gDif (fV 8) (fOp gIx (fV 9) (fC (.int 1)))) [8, 9])) fNil)))
  (fIfS (fOrT (fTst (fOp gIsN (fV 4) (fC .none))) (fTst (fOp gLt (fV 7) (fOp gIx (fV 4) (fC (.int 1)))))) (fSet 4 (fTup (fCons (fV 5) (fCons (fV 7) fNil)))) fNext)) fNext)
omit hb in
include g hc gs in
theorem lw_loop {A B : Slot} : ∀ (os : List (List Nat)) (p : Option (List Nat × Int)) (y5 y6 y7 : Slot), (∀ o ∈ os, IsOrd ss.length o) → y5.pin = false → y6.pin = false → y7.pin = false → ∃ z5 z6 z7 : Slot, forGo (fgN 5) lwB (os.map nT) [A, B, .dat (shsD ss), .dat (rvD t b), .dat (obD p), y5, y6, y7, .un, .un] = .nx [A, B, .dat (shsD ss), .dat (rvD t b), .dat (obD (os.foldl (stepO (valW t b ss)) p)), z5, z6, z7, .un, .un] := by
  intro os
  have l2 : 2 ≤ sizeLine := by rw [sizeLine_eq]; omega
  induction os with
  | nil => exact fun p y5 y6 y7 _ _ _ _ => ⟨y5, y6, y7, rfl⟩
  | cons o os ih =>
    intro p y5 y6 y7 io p5 p6 p7
    have so := e_so g hc (b := b) gs (io o List.mem_cons_self)
    have t1 : fgN 5 (nT o) [A, B, .dat (shsD ss), .dat (rvD t b), .dat (obD p), y5, y6, y7, .un, .un] = some [A, B, .dat (shsD ss), .dat (rvD t b), .dat (obD p), .dat (nT o), y6, y7, .un, .un] := by simp [p5]
    have t2 : ∃ z7 : Slot, z7.pin = false ∧ lwB [A, B, .dat (shsD ss), .dat (rvD t b), .dat (obD p), .dat (nT o), y6, y7, .un, .un] = .nx [A, B, .dat (shsD ss), .dat (rvD t b), .dat (obD (stepO (valW t b ss) p o)), .dat (nT o), .dat (bgD (begO t b ss o)), z7, .un, .un] := by
      unfold stepO valW
      cases q : begO t b ss o with
      | none =>
        rw [q] at so
        exact ⟨y7, p7, by simp [lwB, so, bgD, gNotN_n, p6]⟩
      | some bl =>
        rw [q] at so
        have so : F_starts_of [.dat (rvD t b), .dat (shsD ss), .dat (nT o)] = .ok (.tuple (bl.map .int)) [.dat (rvD t b), .dat (shsD ss), .dat (nT o)] := so
        have zl := zipS_len bl gs
        have C : compGo (fgTup (fgCons (fgN 8) (fgCons (fgN 9) fgNil)) 2) fYes (fOp gDif (fV 8) (fOp gIx (fV 9) (fC (.int 1)))) [8, 9] ((zipS bl ss).map zsD) [A, B, .dat (shsD ss), .dat (rvD t b), .dat (obD p), .dat (nT o), .dat (.tuple (bl.map .int)), y7, .un, .un] [] = .ok ([] ++ (zipS bl ss).map fun z => .int (z.1 - (z.2.2 : Int))) [A, B, .dat (shsD ss), .dat (rvD t b), .dat (obD p), .dat (nT o), .dat (.tuple (bl.map .int)), y7, .un, .un] := by
          refine compGo_L (enc := zsD) (q := fun z => .int (z.1 - (z.2.2 : Int))) (fun z _ => ?_) (by rw [sizeLine_eq]; simp; omega)
          exact ⟨[A, B, .dat (shsD ss), .dat (rvD t b), .dat (obD p), .dat (nT o), .dat (.tuple (bl.map .int)), y7, .dat (.int z.1), .dat (shD z.2)], [A, B, .dat (shsD ss), .dat (rvD t b), .dat (obD p), .dat (nT o), .dat (.tuple (bl.map .int)), y7, .dat (.int z.1), .dat (shD z.2)], by simp [zsD, fgTup, fgCons, fgNil], by simp [sh1, gDif], by simp⟩
        have e : ((zipS bl ss).map fun z => PyData.int (z.1 - (z.2.2 : Int))) = ((zipS bl ss).map fun z => z.1 - (z.2.2 : Int)).map .int := by rw [List.map_map]; rfl
        rw [List.nil_append, e] at C
        have gsu := gSum_ints ((zipS bl ss).map fun z => z.1 - (z.2.2 : Int))
        have fz : fZip (fCons (fV 6) (fCons (fV 2) fNil)) [A, B, .dat (shsD ss), .dat (rvD t b), .dat (obD p), .dat (nT o), .dat (.tuple (bl.map .int)), y7, .un, .un] = .ok ((zipS bl ss).map zsD) [A, B, .dat (shsD ss), .dat (rvD t b), .dat (obD p), .dat (nT o), .dat (.tuple (bl.map .int)), y7, .un, .un] := by
          rw [← zipS_eq bl ss]
          rfl
        have en : fCB gSum (fCons (fL (fComp (fZip (fCons (fV 6) (fCons (fV 2) fNil))) (fgTup (fgCons (fgN 8) (fgCons (fgN 9) fgNil)) 2) fYes (fOp gDif (fV 8) (fOp gIx (fV 9) (fC (.int 1)))) [8, 9])) fNil) [A, B, .dat (shsD ss), .dat (rvD t b), .dat (obD p), .dat (nT o), .dat (.tuple (bl.map .int)), y7, .un, .un] = .ok (.int (waitV bl ss)) [A, B, .dat (shsD ss), .dat (rvD t b), .dat (obD p), .dat (nT o), .dat (.tuple (bl.map .int)), y7, .un, .un] := by
          simp only [ev_CB, ev_Cons, ev_Nil, ev_L, ev_Comp, fz, ev_ok, noOwn, List.all_cons, List.all_nil, List.getElem?_cons_zero, List.getElem?_cons_succ, ev_ownU, Bool.not_false, Bool.and_true, if_true, ev_wipe0, ev_wipe1, List.set_cons_succ, List.set_cons_zero, C, ev_rest0, ev_rest1, gsu, ev_some, waitV]
        refine ⟨.dat (.int (waitV bl ss)), rfl, ?_⟩
        have s1 : fSet 6 (fCallN 3 F_starts_of (faCons (fV 3) (faCons (fV 2) (faCons (fV 5) faNil)))) [A, B, .dat (shsD ss), .dat (rvD t b), .dat (obD p), .dat (nT o), y6, y7, .un, .un] = .nx [A, B, .dat (shsD ss), .dat (rvD t b), .dat (obD p), .dat (nT o), .dat (.tuple (bl.map .int)), y7, .un, .un] := by simp [so, p6]
        unfold lwB
        rw [ev_Seq, s1, ev_seqn, ev_IfS]
        have s2 : fTst (fOp gNotN (fV 6) (fC .none)) [A, B, .dat (shsD ss), .dat (rvD t b), .dat (obD p), .dat (nT o), .dat (.tuple (bl.map .int)), y7, .un, .un] = .ok true [A, B, .dat (shsD ss), .dat (rvD t b), .dat (obD p), .dat (nT o), .dat (.tuple (bl.map .int)), y7, .un, .un] := by simp [gNotN_t]
        have s3 : fSet 7 (fCB gSum (fCons (fL (fComp (fZip (fCons (fV 6) (fCons (fV 2) fNil))) (fgTup (fgCons (fgN 8) (fgCons (fgN 9) fgNil)) 2) fYes (fOp gDif (fV 8) (fOp gIx (fV 9) (fC (.int 1)))) [8, 9])) fNil)) [A, B, .dat (shsD ss), .dat (rvD t b), .dat (obD p), .dat (nT o), .dat (.tuple (bl.map .int)), y7, .un, .un] = .nx [A, B, .dat (shsD ss), .dat (rvD t b), .dat (obD p), .dat (nT o), .dat (.tuple (bl.map .int)), .dat (.int (waitV bl ss)), .un, .un] := by
          simp only [ev_Asg, en, ev_oko, ev_gN, List.getElem?_cons_zero, List.getElem?_cons_succ, p7, Bool.false_eq_true, if_false, ev_osome, List.set_cons_succ, List.set_cons_zero]
        rw [s2, ev_oko, if_pos rfl, ev_Seq, s3, ev_seqn]
        cases p with
        | none => simp [bgD, gIsN_n, obD, gTupD, l2, p7]
        | some p =>
          have a1 : atI [nT p.1, PyData.int p.2] 1 = some (.int p.2) := atI_nat (j := 1) rfl
          by_cases c : waitV bl ss < p.2 <;> simp [bgD, gIsN_t, obD, gTupD, l2, p7, gIx, a1, gCmp, c]
    obtain ⟨z7, q7, t2⟩ := t2
    obtain ⟨w5, w6, w7, h⟩ := ih (stepO (valW t b ss) p o) (.dat (nT o)) (.dat (bgD (begO t b ss o))) z7 (fun v hv => io v (List.mem_cons_of_mem _ hv)) rfl rfl q7
    exact ⟨w5, w6, w7, by rw [List.map_cons, forGo_cons t1 t2, h]; rfl⟩
include g hc hb gs in
theorem e_least_waiting : F_least_waiting [.dat (tabD t), .dat (.int b), .dat (shsD ss)] = .ok (obD ((ordsL ss.length).foldl (stepO (valW t b ss)) none)) [.dat (tabD t), .dat (.int b), .dat (shsD ss)] := by
  obtain ⟨z5, z6, z7, L⟩ := lw_loop g hc (b := b) gs (A := .dat (tabD t)) (B := .dat (.int b)) (ordsL ss.length) none .un .un .un (ords_ok gs.len) rfl rfl rfl
  have e0 : obD none = .none := rfl
  rw [e0] at L
  have lenS : gLen [shsD ss] = some (.int (ss.length : Int)) := by simp [gLen, shsD]
  have eo := e_orders gs.len
  simp only [F_least_waiting, B_least_waiting, ev_Run, List.replicate, List.cons_append, List.nil_append, ev_Seq, ev_Drop, ev_CallN, ev_aCons, ev_aNil, ev_V, List.getElem?_cons_zero, List.getElem?_cons_succ, ev_ok, List.length_cons, List.length_nil, Nat.zero_add, Nat.reduceAdd, if_true, ev_callF, ev_oo0, ev_oo1, ev_so0, ev_so1, Option.map_some, Option.map_none, nd_ok g hc hb (areShips_ok gs), ev_back, ev_oa0, ev_oa1, ev_oko, ev_seqn, ev_Asg, e_over_row g hc, e_runs g hc, ev_gN, ev_pinU, Bool.false_eq_true, if_false, ev_osome, List.set_cons_succ, List.set_cons_zero, ev_C, ev_For, ev_iSeq, ev_CB, ev_Cons, ev_Nil, lenS, ev_some, eo, L, ev_Ret, ev_fin, ev_outs1, ev_outs0, ev_ownD]
end
end LW

namespace LW
open PySem PySem.Spec PyProof.Rows L2 FL
/-! ### k12: the longest ship, the highest bar, what is refused -/
theorem e_longest {t : List (List Int)} (g : GoodT t) (hc : cyc t ≤ 1000) {b : Int} (hb : bar (.int b) = true) : ∃ X : Nat, X ≤ 100 ∧ F_longest_ship [.dat (tabD t), .dat (.int b)] = .ok (nI X) [.dat (tabD t), .dat (.int b)] ∧ ∀ l : Nat, l ≤ 100 → ((List.range (cyc t)).any fun i : Nat => liesB t b (i : Int) l) = decide (l ≤ X) := by
  have n0 := cyc_pos (lenOk_of g)
  have R := e_runs g hc b
  cases c : (List.range (cyc t)).all (fun i : Nat => okB t b (i : Int))
  · obtain ⟨L, hL⟩ : ∃ L, L = runsL (fun k => okB t b ((k % cyc t : Nat) : Int)) (cyc t) := ⟨_, rfl⟩
    have Ll : L.length = cyc t := by rw [hL]; exact fnd_len _ _ _
    have ne : L ≠ [] := fun z => by rw [z, List.length_nil] at Ll; omega
    have rv : rvD t b = iL L := by unfold rvD runsD; rw [c, if_neg (by decide), hL]
    rw [rv] at R
    obtain ⟨m1, m2⟩ := maxL_spec L ne
    obtain ⟨k, hk, ek⟩ := List.getElem_of_mem m1
    have gk : L.getD k 0 = maxL L := by rw [List.getD_eq_getElem?_getD, List.getElem?_eq_getElem hk, Option.getD_some, ek]
    have k1 : k < cyc t := by omega
    obtain ⟨M, hM⟩ : ∃ M : Nat, maxL L = (M : Int) := by
      have := runsL_at (fun k => okB t b ((k % cyc t : Nat) : Int)) k1
      rw [← hL, gk] at this
      exact ⟨_, this⟩
    have gm := gMax_ints ne
    rw [hM] at gm
    have isn : gIsN (iL L) .none = some (.bool false) := rfl
    obtain ⟨X, hX⟩ : ∃ X : Nat, X = if M < 100 then M else 100 := ⟨_, rfl⟩
    have mn : gMin2 [.int 100, .int (M : Int)] = some (nI X) := by
      unfold gMin2
      dsimp only
      rw [hX]
      by_cases q : M < 100
      · rw [if_pos (by omega), if_pos q]
      · rw [if_neg (by omega), if_neg q]
        rfl
    refine ⟨X, by rw [hX]; split <;> omega, ?_, fun l hl => ?_⟩
    · simp only [F_longest_ship, B_longest_ship, ev_Run, List.replicate, List.cons_append, List.nil_append, ev_Seq, ev_Drop, ev_CallN, ev_aCons, ev_aNil, ev_V, ev_C, List.getElem?_cons_zero, List.getElem?_cons_succ, ev_ok, List.length_cons, List.length_nil, Nat.zero_add, Nat.reduceAdd, if_true, ev_callF, ev_oo0, ev_oo1, ev_so0, ev_so1, Option.map_some, Option.map_none, sh_ok n_table g hc, ev_back, ev_oa0, ev_oa1, ev_oko, ev_seqn, e_need_bar _ _ n_bar, hb, ev_Asg, e_over_row g hc, R, ev_gN, ev_pinU, Bool.false_eq_true, if_false, ev_osome, List.set_cons_succ, List.set_cons_zero, ev_Ret, ev_If, ev_Tst, ev_Op, isn, ev_some, ev_asB, ev_CB, ev_Cons, ev_Nil, gm, mn, ev_fin, ev_outs1, ev_outs0, ev_ownD]
    · have li : ∀ i : Nat, i < cyc t → liesB t b (i : Int) l = decide ((l : Int) ≤ L.getD i 0) := fun i hi => by
        obtain ⟨j, j1, j2, j3⟩ := rv_ge (lenOk_of g) c (i : Int) l
        have : j = i := by
          rw [Int.emod_eq_of_lt (by omega) (by omega)] at j1
          omega
        subst this
        rw [← hL] at j3
        exact j3.symm
      rw [Bool.eq_iff_iff, List.any_eq_true, decide_eq_true_eq]
      constructor
      · rintro ⟨i, hi, h⟩
        have hi := List.mem_range.mp hi
        rw [li i hi] at h
        have h := of_decide_eq_true h
        have := m2 (L.getD i 0) (by rw [List.getD_eq_getElem?_getD, List.getElem?_eq_getElem (by omega)]; exact List.getElem_mem (by omega))
        rw [hX]
        split <;> omega
      · intro h
        refine ⟨k, List.mem_range.mpr k1, ?_⟩
        rw [li k k1, gk, hM]
        refine decide_eq_true ?_
        rw [hX] at h
        split at h <;> omega
  · have rv : rvD t b = .none := by unfold rvD runsD; rw [c, if_pos rfl]
    rw [rv] at R
    refine ⟨100, Nat.le_refl _, ?_, fun l hl => ?_⟩
    · simp only [F_longest_ship, B_longest_ship, ev_Run, List.replicate, List.cons_append, List.nil_append, ev_Seq, ev_Drop, ev_CallN, ev_aCons, ev_aNil, ev_V, ev_C, List.getElem?_cons_zero, List.getElem?_cons_succ, ev_ok, List.length_cons, List.length_nil, Nat.zero_add, Nat.reduceAdd, if_true, ev_callF, ev_oo0, ev_oo1, ev_so0, ev_so1, Option.map_some, Option.map_none, sh_ok n_table g hc, ev_back, ev_oa0, ev_oa1, ev_oko, ev_seqn, e_need_bar _ _ n_bar, hb, ev_Asg, e_over_row g hc, R, ev_gN, ev_pinU, Bool.false_eq_true, if_false, ev_osome, List.set_cons_succ, List.set_cons_zero, ev_Ret, ev_If, ev_Tst, ev_Op, gIsN_n, ev_some, ev_asB, ev_fin, ev_outs1, ev_outs0, ev_ownD]
      rfl
    · rw [decide_eq_true hl, List.any_eq_true]
      exact ⟨0, List.mem_range.mpr n0, lies_all (lenOk_of g) c _ _⟩
def hbL (t : List (List Int)) (l : Nat) (n : Nat) : List Int := (List.range n).map fun i : Nat => minL ((List.range l).map fun k : Nat => height t ((i : Int) + (k : Int)))
theorem lows_ne {t : List (List Int)} {l : Nat} (h : 1 ≤ l) (i : Nat) : ((List.range l).map fun k : Nat => height t ((i : Int) + (k : Int))) ≠ [] := fun z => by
  have := congrArg List.length z
  rw [List.length_map, List.length_range, List.length_nil] at this
  omega
theorem e_highest {t : List (List Int)} (g : GoodT t) (hc : cyc t ≤ 1000) {l : Nat} (l1 : 1 ≤ l) (l2 : l ≤ 100) : F_highest_bar [.dat (tabD t), .dat (nI l)] = .ok (.int (maxL (hbL t l (cyc t)))) [.dat (tabD t), .dat (nI l)] := by
  have n0 := cyc_pos (lenOk_of g)
  obtain ⟨n, hn⟩ : ∃ n, n = cyc t := ⟨_, rfl⟩
  have rn : rgB (n : Int) = true := rgB_ok (by omega) (by omega)
  have rl : rgB (l : Int) = true := rgB_ok (by omega) (by omega)
  have im : intIn 1 100 (nI l) = true := by
    simp [intIn]
    omega
  have lenR : gLen [bL (rowB t 0)] = some (nI n) := by simp [gLen, rowB, hn]
  have L := forGo_R (t := fgN 4) (f := fApp 3 (fCB gMin (fCons (fL (fComp (fRng1 (fCons (fV 1) fNil)) (fgN 5) fYes (fCallN 2 F_height_of (faCons (fV 0) (faCons (fOp gAdd (fV 4) (fV 5)) faNil))) [5])) fNil)))
    (st := fun i : Nat => [.dat (tabD t), .dat (nI l), .dat (nI n), .lst false ((hbL t l i).map .int), lv i, .un]) (N := n) fun i hi => by
      refine ⟨[.dat (tabD t), .dat (nI l), .dat (nI n), .lst false ((hbL t l i).map .int), .dat (nI i), .un], by simp, ?_⟩
      show _ = Out.nx [.dat (tabD t), .dat (nI l), .dat (nI n), .lst false ((hbL t l (i + 1)).map .int), .dat (nI i), .un]
      have C : compGo (fgN 5) fYes (fCallN 2 F_height_of (faCons (fV 0) (faCons (fOp gAdd (fV 4) (fV 5)) faNil))) [5] ((List.range l).map nI) [.dat (tabD t), .dat (nI l), .dat (nI n), .lst false ((hbL t l i).map .int), .dat (nI i), .un] [] = .ok ([] ++ (List.range l).map fun k : Nat => .int (height t ((i : Int) + (k : Int)))) [.dat (tabD t), .dat (nI l), .dat (nI n), .lst false ((hbL t l i).map .int), .dat (nI i), .un] := by
        refine compGo_L (enc := nI) (q := fun k : Nat => .int (height t ((i : Int) + (k : Int)))) (fun k _ => ?_) (by rw [sizeLine_eq]; simp; omega)
        exact ⟨[.dat (tabD t), .dat (nI l), .dat (nI n), .lst false ((hbL t l i).map .int), .dat (nI i), .dat (nI k)], [.dat (tabD t), .dat (nI l), .dat (nI n), .lst false ((hbL t l i).map .int), .dat (nI i), .dat (nI k)], by simp, by simp [gAdd, e_height_of g], by simp⟩
      have e : ((List.range l).map fun k : Nat => PyData.int (height t ((i : Int) + (k : Int)))) = ((List.range l).map fun k : Nat => height t ((i : Int) + (k : Int))).map .int := by rw [List.map_map]; rfl
      rw [List.nil_append, e] at C
      have gm := gMin_ints (lows_ne (t := t) l1 i)
      have sz : ((hbL t l i).map PyData.int).length < sizeLine := by
        rw [List.length_map, hbL, List.length_map, List.length_range, sizeLine_eq]
        omega
      have hs : hbL t l (i + 1) = hbL t l i ++ [minL ((List.range l).map fun k : Nat => height t ((i : Int) + (k : Int)))] := by
        unfold hbL
        rw [List.range_succ, List.map_append]
        rfl
      rw [hs]
      simp only [ev_App, List.getElem?_cons_zero, List.getElem?_cons_succ, ev_CB, ev_Cons, ev_Nil, ev_L, ev_Comp, ev_Rng1, ev_V, ev_ok, rl, if_true, rng_nat, noOwn, List.all_cons, List.all_nil, ev_ownU, Bool.not_false, Bool.and_true, ev_wipe0, ev_wipe1, List.set_cons_succ, List.set_cons_zero, C, ev_rest0, ev_rest1, gm, ev_some, ev_oko, sz, List.map_append, List.map_cons, List.map_nil]
  have s0 : ([.dat (tabD t), .dat (nI l), .dat (nI n), .lst false ((hbL t l 0).map .int), lv 0, .un] : Sl) = [.dat (tabD t), .dat (nI l), .dat (nI n), .lst false [], .un, .un] := rfl
  have L : _ = _ := L
  rw [s0] at L
  have ne : hbL t l n ≠ [] := fun z => by
    have := congrArg List.length z
    rw [hbL, List.length_map, List.length_range, List.length_nil] at this
    omega
  have gm := gMax_ints ne
  have l0 : 0 ≤ sizeLine := by rw [sizeLine_eq]; omega
  rw [← hn]
  have n_length : (Str.ofString "length").length ≤ 1000 := by decide
  simp only [F_highest_bar, B_highest_bar, ev_Run, List.replicate, List.cons_append, List.nil_append, ev_Seq, ev_Drop, ev_CallN, ev_aCons, ev_aNil, ev_V, ev_C, List.getElem?_cons_zero, List.getElem?_cons_succ, ev_ok, List.length_cons, List.length_nil, Nat.zero_add, Nat.reduceAdd, if_true, ev_callF, ev_oo0, ev_oo1, ev_so0, ev_so1, Option.map_some, Option.map_none, sh_ok n_table g hc, ev_back, ev_oa0, ev_oa1, ev_oko, ev_seqn, e_need_integer _ _ _ _ n_length, im, ev_Asg, e_over_row g hc, ev_CB, ev_Cons, ev_Nil, lenR, ev_some, ev_gN, ev_pinU, Bool.false_eq_true, if_false, ev_osome, List.set_cons_succ, List.set_cons_zero, ev_Own, ev_Lst, l0, ev_pinned, ev_For, ev_Rng1, rn, rng_nat, L, ev_Ret, gm, ev_fin, ev_outs1, ev_outs0, ev_ownD]
section
variable {a b s o : PyData} {x : Exn}
theorem st_nd (h : F_need_dock [.dat a, .dat b, .dat s] = .ex x [.dat a, .dat b, .dat s]) : F_starts [.dat a, .dat b, .dat s, .dat o] = .ex x [.dat a, .dat b, .dat s, .dat o] := by simp [F_starts, B_starts, h]
theorem bo_nd (h : F_need_dock [.dat a, .dat b, .dat s] = .ex x [.dat a, .dat b, .dat s]) : F_best_order [.dat a, .dat b, .dat s] = .ex x [.dat a, .dat b, .dat s] := by simp [F_best_order, B_best_order, h]
theorem lw_nd (h : F_need_dock [.dat a, .dat b, .dat s] = .ex x [.dat a, .dat b, .dat s]) : F_least_waiting [.dat a, .dat b, .dat s] = .ex x [.dat a, .dat b, .dat s] := by simp [F_least_waiting, B_least_waiting, h]
theorem hb_sh (h : F_need_short [.dat a, .dat (.str "table")] = .ex x [.dat a, .dat (.str "table")]) : F_highest_bar [.dat a, .dat b] = .ex x [.dat a, .dat b] := by simp [F_highest_bar, B_highest_bar, h]
end
section
variable {t : List (List Int)} (g : GoodT t) (hc : cyc t ≤ 1000)
include g hc
theorem lo_bar : F_longest_ship [.dat (tabD t), .dat (.int 10000001)] = .ex ⟨0, [.str "bar"]⟩ [.dat (tabD t), .dat (.int 10000001)] := by
  simp [F_longest_ship, B_longest_ship, sh_ok n_table g hc, e_need_bar _ _ n_bar, intIn]
theorem hi_len : F_highest_bar [.dat (tabD t), .dat (.int 0)] = .ex ⟨0, [.str "length"]⟩ [.dat (tabD t), .dat (.int 0)] := by
  have n_length : (Str.ofString "length").length ≤ 1000 := by decide
  simp [F_highest_bar, B_highest_bar, sh_ok n_table g hc, e_need_integer _ _ _ _ n_length, intIn]
theorem st_ord {b : Int} (hb : bar (.int b) = true) {ss : List Ship} (gs : GoodS ss) : F_starts [.dat (tabD t), .dat (.int b), .dat (shsD ss), .dat (.tuple (rgD ((ss.length : Int) + 1)))] = .ex ⟨0, [.str "order"]⟩ [.dat (tabD t), .dat (.int b), .dat (shsD ss), .dat (.tuple (rgD ((ss.length : Int) + 1)))] := by
  have gl := gs.len
  obtain ⟨n, hn⟩ : ∃ n, n = ss.length := ⟨_, rfl⟩
  have rd : ∀ m : Nat, rgD (m : Int) = (List.range m).map nI := fun m => by
    unfold rgD
    rw [Int.toNat_natCast]
  have e1 : ((ss.length : Int) + 1) = ((n + 1 : Nat) : Int) := by omega
  rw [e1, rd]
  obtain ⟨D, hD⟩ : ∃ D, D = PyData.tuple ((List.range (n + 1)).map nI) := ⟨_, rfl⟩
  have io : IsOrd (n + 1) (List.range (n + 1)) := ⟨fun o ho => List.mem_range.mp ho, List.nodup_range, fun a ha => List.mem_range.mpr ha, List.length_range⟩
  have h : allGo 4 (fCallN 1 F_is_integer (faCons (fV 4) faNil)) ((List.range (n + 1)).map nI) [.dat (tabD t), .dat (.int b), .dat (shsD ss), .dat D, .un] = .ok (((List.range (n + 1)).map nI).all isInt) [.dat (tabD t), .dat (.int b), .dat (shsD ss), .dat D, .un] := by
    refine allGo_all fun d _ => ?_
    exact ⟨[.dat (tabD t), .dat (.int b), .dat (shsD ss), .dat D, .dat d], [.dat (tabD t), .dat (.int b), .dat (shsD ss), .dat D, .dat d], by simp, by simp [e_is_integer], by simp⟩
  have ha : ((List.range (n + 1)).map nI).all isInt = true := by
    rw [List.all_map, List.all_eq_true]
    exact fun _ _ => rfl
  rw [ha] at h
  have ti : toInts ((List.range (n + 1)).map nI) = some ((List.range (n + 1)).map fun k : Nat => (k : Int)) := toInts_map (fun k : Nat => (k : Int)) _
  have so2 := sort_ord io
  have lenS : gLen [shsD ss] = some (.int (ss.length : Int)) := by simp [gLen, shsD]
  have rk : rgOkB (ss.length : Int) = true := by
    unfold rgOkB
    rw [decide_eq_true (by omega), decide_eq_true (by omega)]
    rfl
  have fl : ∀ e : Sl, e = [.dat (tabD t), .dat (.int b), .dat (shsD ss), .dat D, .un] → fLstRg (fCB gLen (fCons (fV 2) fNil)) e = .ok ((List.range n).map nI) e := fun e he => by
    subst he
    unfold fLstRg
    have := rd ss.length
    rw [← hn] at this
    have rk' : rgOkB (n : Int) = true := by rw [hn]; exact rk
    simp [lenS, rk', ← hn, this]
  have fs : ∀ e : Sl, e = [.dat (tabD t), .dat (.int b), .dat (shsD ss), .dat D, .un] → fSortedTI (fCons (fV 3) fNil) e = .ok ((List.range (n + 1)).map nI) e := fun e he => by
    subst he
    rw [ev_SortedTI]
    simp only [ev_Cons, ev_V, List.getElem?_cons_zero, List.getElem?_cons_succ, ev_ok, ev_Nil, hD, ti, so2]
    rw [List.map_map]
    rfl
  have ne : gNe (.list ((List.range (n + 1)).map nI)) (.list ((List.range n).map nI)) = some (.bool true) := by
    have : n ≤ 3 := by omega
    match n, this with
    | 0, _ => rfl
    | 1, _ => rfl
    | 2, _ => rfl
    | 3, _ => rfl
  have tD : tyD D = "tuple" := by rw [hD]; rfl
  have iD : ∀ e : Sl, fiSeq (fV 3) [.dat (tabD t), .dat (.int b), .dat (shsD ss), .dat D, .un] = .ok ((List.range (n + 1)).map nI) [.dat (tabD t), .dat (.int b), .dat (shsD ss), .dat D, .un] := fun _ => by rw [hD]; rfl
  rw [← hD]
  simp only [F_starts, B_starts, ev_Run, List.replicate, List.cons_append, List.nil_append, ev_Seq, ev_Drop, ev_CallN, ev_aCons, ev_aNil, ev_V, List.getElem?_cons_zero, List.getElem?_cons_succ, ev_ok, List.length_cons, List.length_nil, Nat.zero_add, Nat.reduceAdd, if_true, ev_callF, ev_oo0, ev_oo1, ev_so0, ev_so1, Option.map_some, Option.map_none, nd_ok g hc hb (areShips_ok gs), ev_back, ev_oa0, ev_oa1, ev_oko, ev_seqn, ev_IfS, ev_OrT, ev_NotT, ev_Tst, ev_Isi, gIsi, tD, k_tup, ev_some, ev_asB, Bool.not_true, Bool.false_eq_true, if_false, ev_AllG, iD [], noOwn, List.all_cons, List.all_nil, ev_ownU, Bool.not_false, Bool.and_true, ev_wipe0, ev_wipe1, List.set_cons_succ, List.set_cons_zero, h, ev_rest0, ev_rest1, ev_Next, ev_Op, ev_L, fs _ rfl, fl _ rfl, ne]
  simp [n_order]
end
def badS : List PyData := [.none, .list [.tuple [.int 1, .int 1]], .tuple [.tuple [.int 0, .int 1]], .tuple [.tuple [.int 101, .int 1]], .tuple [.tuple [.int 1, .int (-1)]], .tuple [.tuple [.int 1]], .tuple (List.replicate (6 : Int).toNat [PyData.tuple [.int 1, .int 1]]).flatten, .tuple [.tuple [.int 1, .bool true]]]
theorem bad_ships {d : PyData} (h : d ∈ badS) : areShips d = false := by
  unfold badS at h
  simp only [List.mem_cons, List.not_mem_nil, or_false] at h
  rcases h with rfl | rfl | rfl | rfl | rfl | rfl | rfl | rfl <;> rfl
def zs (n : Nat) : List Int := List.replicate n 0
def longT : List (List Int) := [zs 59, zs 58, zs 57]
theorem good_zs {n : Nat} (h1 : 1 ≤ n) (h2 : n ≤ 60) : GoodW (zs n) := by
  refine ⟨by rw [zs, List.length_replicate]; exact h1, by rw [zs, List.length_replicate]; exact h2, fun h hh => ?_⟩
  rw [(List.mem_replicate.mp hh).2]
  decide
theorem good_long : GoodT longT := ⟨by decide, fun w hw => by
  simp only [longT, List.mem_cons, List.not_mem_nil, or_false] at hw
  rcases hw with rfl | rfl | rfl
  · exact good_zs (by decide) (by decide)
  · exact good_zs (by decide) (by decide)
  · exact good_zs (by decide) (by decide)⟩
theorem long_cyc : 5000 < cyc longT := by
  have d1 := len_dvd_cyc (t := longT) (w := zs 59) (by simp [longT])
  have d2 := len_dvd_cyc (t := longT) (w := zs 58) (by simp [longT])
  have d3 := len_dvd_cyc (t := longT) (w := zs 57) (by simp [longT])
  rw [zs, List.length_replicate] at d1 d2 d3
  have := cyc_pos (lenOk_of good_long)
  omega
theorem gM_zs {n : Nat} (h1 : 2 ≤ n) (h2 : n ≤ 1000) : gMul (.tuple [.int 0]) (.int (n : Int)) = some (whD (zs n)) := by
  have e : (List.replicate n [PyData.int 0]).flatten = (zs n).map .int := by
    unfold zs
    rw [List.map_replicate, flat_rep]
  unfold gMul
  dsimp only
  rw [if_pos ⟨by simp, by omega, by omega, by simp⟩, Int.toNat_natCast, e]
  rfl
theorem long_eq : PyData.tuple [whD (zs 59), whD (zs 58), whD (zs 57)] = tabD longT := rfl
theorem obD_shaped (p : Option (List Nat × Int)) : gNe (obD p) (obD p) = some (.bool false) := by
  refine gNe_self ?_
  cases p with
  | none => rfl
  | some p =>
    obtain ⟨h1, h2⟩ := lay_ints (fun n : Nat => (n : Int)) p.1
    have h1 : PyData.canLayAll0 (p.1.map nI) = true := h1
    have h2 : PyData.depthAll (p.1.map nI) = 0 := h2
    unfold SeqAt.shaped obD
    simp [PyData.canLay0, PyData.canLayAll0, PyData.depth, PyData.depthAll, h1, h2]
theorem bgD_shaped (o : Option (List Int)) : gNe (bgD o) (bgD o) = some (.bool false) := by
  cases o with
  | none => rfl
  | some bl => exact gNe_self (shaped_ints (fun y : Int => y) bl)
end LW

namespace LW
open PySem PySem.Spec PyProof.Rows L2 FL
theorem ev_Par3F {i j k : Nat} {f f2 : FE} {g : FA} {e : Sl} : fPar3F i j k f f2 g e = (f e).out fun d e1 => (f2 e1).out fun d2 e2 => (g e2).out fun ds e3 => match (fgN i d e3).bind fun e4 => fgN j d2 e4 with
  | some e5 => if pinnedAt e5 k = true then .bad else .nx (e5.set k (.lst false ds))
  | none => .bad := rfl
theorem e_law_right {xs : List PyData} (h : Dok 100000 xs) : ∃ e, F__law_right [.lst true xs] = .ok (.bool true) e := by
  have l0 : 0 ≤ sizeLine := by rw [sizeLine_eq]; omega
  have l1 : 1 ≤ sizeLine := by rw [sizeLine_eq]; omega
  have l2 : 2 ≤ sizeLine := by rw [sizeLine_eq]; omega
  have l3 : 3 ≤ sizeLine := by rw [sizeLine_eq]; omega
  have l4 : 4 ≤ sizeLine := by rw [sizeLine_eq]; omega
  have l5 : 5 ≤ sizeLine := by rw [sizeLine_eq]; omega
  have l6 : 6 ≤ sizeLine := by rw [sizeLine_eq]; omega
  have l7 : 7 ≤ sizeLine := by rw [sizeLine_eq]; omega
  have l8 : 8 ≤ sizeLine := by rw [sizeLine_eq]; omega
  have l9 : 9 ≤ sizeLine := by rw [sizeLine_eq]; omega
  obtain ⟨t, xs1, a1, a2, a3, g, d1⟩ := e_law_table (n := 99600) 2 4 (by decide) (by decide) (by decide) (by decide) (h.mono (by decide))
  obtain ⟨rb0, xs2, b1, b2, b3, d2⟩ := e_roll (n := 99599) d1 9 (by decide) (by decide)
  obtain ⟨b, hbv⟩ : ∃ b, b = rb0 - 4 := ⟨_, rfl⟩
  have hb : bar (.int b) = true := by
    simp [intIn]
    omega
  have la := lenOk_of g
  have N12 : cyc t ≤ 12 := Nat.le_of_dvd (by decide) (cyc_dvd_of fun w hw => by
    have := (la w hw).1
    have := a3 w hw
    have : w.length = 1 ∨ w.length = 2 ∨ w.length = 3 ∨ w.length = 4 := by omega
    rcases this with e | e | e | e <;> rw [e] <;> decide)
  have N1 := cyc_pos la
  have hc : cyc t ≤ 1000 := by omega
  have kc := e_law_cycle la
  have rN : rgB ((cyc t : Nat) : Int) = true := rgB_ok (by omega) (by omega)
  obtain ⟨r1, xs3, c1, c2, c3, d3⟩ := e_roll (n := 99598) d2 4 (by decide) (by decide)
  obtain ⟨k, hk, k3⟩ : ∃ k : Nat, r1 = (k : Int) ∧ k ≤ 3 := ⟨r1.toNat, by omega, by omega⟩
  suffices hB : ∃ eN : List PyData × Sl, B__law_right [.lst true xs, .un, .un, .un, .un, .un, .un, .un, .un, .un, .un, .un, .un, .un, .un, .un, .un, .un, .un, .un, .un, .un, .un, .un] = .rt (.bool true) (.lst true eN.1 :: eN.2) by
    obtain ⟨eN, hB⟩ := hB
    refine ⟨[.lst true eN.1], ?_⟩
    unfold F__law_right
    simp only [ev_Run, List.replicate, List.cons_append, List.nil_append, hB, ev_fin, ev_outs1, ev_outs0, ev_ownL, ev_pinL, if_true, Option.map_some]
  unfold B__law_right
  -- table, bar, ships
  refine exists_imp_step (seq_nx (e1 := [.lst true xs2, .dat (tabD t), .dat (.int b), .lst false [], .un, .un, .un, .un, .un, .un, .un, .un, .un, .un, .un, .un, .un, .un, .un, .un, .un, .un, .un, .un]) ?_) ?_
  · simp only [ev_Asg, ev_Tup, ev_Cons, ev_Nil, ev_CallN, ev_CallK, ev_aOwn, ev_aCons, ev_aNil, ev_V, ev_C, ev_Op, ev_Un, ev_L, ev_Lst, ev_CB, ev_If, ev_Tst, ev_IfS, ev_OrT, ev_AndT, ev_NotT, ev_Drop, ev_Next, ev_Ret, ev_For, ev_Comp, ev_iSeq, ev_Rng1, ev_Rng2, ev_ok, ev_some, ev_oko, ev_osome, ev_gN, ev_pinU, ev_pinD, ev_pinL, ev_ownL, ev_ownD, ev_ownU, ev_callF, ev_oo0, ev_oo1, ev_oo2, ev_so0, ev_so1, ev_so2, ev_rep, ev_back, ev_oa0, ev_oa1, ev_oa2, ev_asB, noOwn, ev_wipe0, ev_wipe1, ev_rest0, ev_rest1, List.getElem?_cons_zero, List.getElem?_cons_succ, List.set_cons_succ, List.set_cons_zero, List.length_cons, List.length_nil, List.all_nil, List.all_cons, List.nil_append, List.cons_append, Option.map_some, Option.map_none, Option.bind_some, if_true, if_false, Bool.false_eq_true, Bool.not_false, Bool.not_true, Bool.and_true, Bool.true_and, Nat.zero_add, Nat.reduceAdd, gTupD, fgTup, fgCons, fgNil, ev_Chain, ev_Par, ev_Par3, ev_Own, ev_pinned, lv_pin, lv_own, ev_LenV, a1, b1, gDif, ← hbv, l0, ev_Par3F]
  have L1 : ∀ (ds : List PyData) (n : Nat) (xs : List PyData) (ss : List Ship) (y : Slot), Dok (n + 2 * ds.length) xs → y.pin = false → (∀ s ∈ ss, 1 ≤ s.1 ∧ s.1 ≤ 100 ∧ s.2 ≤ 100) → ss.length + ds.length ≤ 10 → ∃ (xs' : List PyData) (ss' : List Ship) (y' : Slot), forGo (fgN 4) (fApp 3 (fTup (fCons (fOp gAdd (fC (.int 1)) (fCallN 2 F__law_roll (faOwn 0 (faCons (fC (.int 4)) faNil)))) (fCons (fCallN 2 F__law_roll (faOwn 0 (faCons (fC (.int 15)) faNil))) fNil)))) ds [.lst true xs, .dat (tabD t), .dat (.int b), .lst false (ss.map shD), y, .un, .un, .un, .un, .un, .un, .un, .un, .un, .un, .un, .un, .un, .un, .un, .un, .un, .un, .un] = .nx [.lst true xs', .dat (tabD t), .dat (.int b), .lst false (ss'.map shD), y', .un, .un, .un, .un, .un, .un, .un, .un, .un, .un, .un, .un, .un, .un, .un, .un, .un, .un, .un] ∧ Dok n xs' ∧ (∀ s ∈ ss', 1 ≤ s.1 ∧ s.1 ≤ 100 ∧ s.2 ≤ 100) ∧ ss'.length = ss.length + ds.length := by
    intro ds
    induction ds with
    | nil => exact fun n xs ss y hd _ hs _ => ⟨xs, ss, y, rfl, hd.mono (by simp), hs, rfl⟩
    | cons d ds ih =>
      intro n xs ss y hd hy hs hl
      rw [List.length_cons] at hd hl
      obtain ⟨u, zs1, u1, u2, u3, e1⟩ := e_roll (n := n + 2 * ds.length + 1) (hd.mono (by omega)) 4 (by decide) (by decide)
      obtain ⟨v, zs2, v1, v2, v3, e2⟩ := e_roll (n := n + 2 * ds.length) e1 15 (by decide) (by decide)
      obtain ⟨p, hp⟩ : ∃ p : Nat, u = (p : Int) := ⟨u.toNat, by omega⟩
      obtain ⟨q, hq⟩ : ∃ q : Nat, v = (q : Int) := ⟨v.toNat, by omega⟩
      have pu : (1 : Int) + (p : Int) = ((1 + p : Nat) : Int) := by omega
      rw [hp] at u1
      rw [hq] at v1
      obtain ⟨xs', ss', y', h1, h2, h3, h4⟩ := ih n zs2 (ss ++ [(1 + p, q)]) (.dat d) e2 rfl (fun s hs' => by
        rcases List.mem_append.mp hs' with hs' | hs'
        · exact hs s hs'
        · rw [List.mem_singleton] at hs'
          subst hs'
          refine ⟨?_, ?_, ?_⟩ <;> dsimp only <;> omega) (by rw [List.length_append]; simp; omega)
      refine ⟨xs', ss', y', ?_, h2, h3, by rw [h4, List.length_append, List.length_cons]; simp; omega⟩
      have sz : (ss.map shD).length < sizeLine := by rw [List.length_map, sizeLine_eq]; omega
      rw [forGo_cons (e1 := [.lst true xs, .dat (tabD t), .dat (.int b), .lst false (ss.map shD), .dat d, .un, .un, .un, .un, .un, .un, .un, .un, .un, .un, .un, .un, .un, .un, .un, .un, .un, .un, .un]) (e2 := [.lst true zs2, .dat (tabD t), .dat (.int b), .lst false ((ss ++ [(1 + p, q)]).map shD), .dat d, .un, .un, .un, .un, .un, .un, .un, .un, .un, .un, .un, .un, .un, .un, .un, .un, .un, .un, .un]) (by simp [hy]) ?_]
      · exact h1
      · simp only [ev_Asg, ev_Tup, ev_Cons, ev_Nil, ev_CallN, ev_CallK, ev_aOwn, ev_aCons, ev_aNil, ev_V, ev_C, ev_Op, ev_Un, ev_L, ev_Lst, ev_CB, ev_If, ev_Tst, ev_IfS, ev_OrT, ev_AndT, ev_NotT, ev_Drop, ev_Next, ev_Ret, ev_For, ev_Comp, ev_iSeq, ev_Rng1, ev_Rng2, ev_ok, ev_some, ev_oko, ev_osome, ev_gN, ev_pinU, ev_pinD, ev_pinL, ev_ownL, ev_ownD, ev_ownU, ev_callF, ev_oo0, ev_oo1, ev_oo2, ev_so0, ev_so1, ev_so2, ev_rep, ev_back, ev_oa0, ev_oa1, ev_oa2, ev_asB, noOwn, ev_wipe0, ev_wipe1, ev_rest0, ev_rest1, List.getElem?_cons_zero, List.getElem?_cons_succ, List.set_cons_succ, List.set_cons_zero, List.length_cons, List.length_nil, List.all_nil, List.all_cons, List.nil_append, List.cons_append, Option.map_some, Option.map_none, Option.bind_some, if_true, if_false, Bool.false_eq_true, Bool.not_false, Bool.not_true, Bool.and_true, Bool.true_and, Nat.zero_add, Nat.reduceAdd, gTupD, fgTup, fgCons, fgNil, ev_Chain, ev_Par, ev_Par3, ev_Own, ev_pinned, lv_pin, lv_own, ev_LenV, u1, v1, gAdd, pu, l2, ev_App, sz, List.map_append, List.map_cons, List.map_nil, shD]
  have rl : ((List.range k).map nI).length = k := by simp
  obtain ⟨xs4, ss, y4, L1, d4, so, sl⟩ := L1 ((List.range k).map nI) 99500 xs3 [] .un (d3.mono (by rw [rl]; omega)) rfl (fun s hs => by cases hs) (by rw [rl, List.length_nil]; omega)
  rw [rl, List.length_nil, Nat.zero_add] at sl
  have m0 : ([] : List Ship).map shD = [] := rfl
  rw [m0] at L1
  have gs : GoodS ss := ⟨by omega, so⟩
  have rk : rgB (k : Int) = true := rgB_ok (by omega) (by omega)
  -- ships drawn
  refine exists_imp_step (seq_nx (e1 := [.lst true xs4, .dat (tabD t), .dat (.int b), .lst false (ss.map shD), y4, .un, .un, .un, .un, .un, .un, .un, .un, .un, .un, .un, .un, .un, .un, .un, .un, .un, .un, .un]) ?_) ?_
  · simp only [ev_Asg, ev_Tup, ev_Cons, ev_Nil, ev_CallN, ev_CallK, ev_aOwn, ev_aCons, ev_aNil, ev_V, ev_C, ev_Op, ev_Un, ev_L, ev_Lst, ev_CB, ev_If, ev_Tst, ev_IfS, ev_OrT, ev_AndT, ev_NotT, ev_Drop, ev_Next, ev_Ret, ev_For, ev_Comp, ev_iSeq, ev_Rng1, ev_Rng2, ev_ok, ev_some, ev_oko, ev_osome, ev_gN, ev_pinU, ev_pinD, ev_pinL, ev_ownL, ev_ownD, ev_ownU, ev_callF, ev_oo0, ev_oo1, ev_oo2, ev_so0, ev_so1, ev_so2, ev_rep, ev_back, ev_oa0, ev_oa1, ev_oa2, ev_asB, noOwn, ev_wipe0, ev_wipe1, ev_rest0, ev_rest1, List.getElem?_cons_zero, List.getElem?_cons_succ, List.set_cons_succ, List.set_cons_zero, List.length_cons, List.length_nil, List.all_nil, List.all_cons, List.nil_append, List.cons_append, Option.map_some, Option.map_none, Option.bind_some, if_true, if_false, Bool.false_eq_true, Bool.not_false, Bool.not_true, Bool.and_true, Bool.true_and, Nat.zero_add, Nat.reduceAdd, gTupD, fgTup, fgCons, fgNil, ev_Chain, ev_Par, ev_Par3, ev_Own, ev_pinned, lv_pin, lv_own, ev_LenV, c1, hk, rk, rng_nat, L1]
  have esd : PyData.tuple (ss.map shD) = shsD ss := rfl
  -- ships = tuple
  refine exists_imp_step (seq_nx (e1 := [.lst true xs4, .dat (tabD t), .dat (.int b), .dat (shsD ss), y4, .un, .un, .un, .un, .un, .un, .un, .un, .un, .un, .un, .un, .un, .un, .un, .un, .un, .un, .un]) ?_) ?_
  · simp only [ev_Asg, ev_Tup, ev_Cons, ev_Nil, ev_CallN, ev_CallK, ev_aOwn, ev_aCons, ev_aNil, ev_V, ev_C, ev_Op, ev_Un, ev_L, ev_Lst, ev_CB, ev_If, ev_Tst, ev_IfS, ev_OrT, ev_AndT, ev_NotT, ev_Drop, ev_Next, ev_Ret, ev_For, ev_Comp, ev_iSeq, ev_Rng1, ev_Rng2, ev_ok, ev_some, ev_oko, ev_osome, ev_gN, ev_pinU, ev_pinD, ev_pinL, ev_ownL, ev_ownD, ev_ownU, ev_callF, ev_oo0, ev_oo1, ev_oo2, ev_so0, ev_so1, ev_so2, ev_rep, ev_back, ev_oa0, ev_oa1, ev_oa2, ev_asB, noOwn, ev_wipe0, ev_wipe1, ev_rest0, ev_rest1, List.getElem?_cons_zero, List.getElem?_cons_succ, List.set_cons_succ, List.set_cons_zero, List.length_cons, List.length_nil, List.all_nil, List.all_cons, List.nil_append, List.cons_append, Option.map_some, Option.map_none, Option.bind_some, if_true, if_false, Bool.false_eq_true, Bool.not_false, Bool.not_true, Bool.and_true, Bool.true_and, Nat.zero_add, Nat.reduceAdd, gTupD, fgTup, fgCons, fgNil, ev_Chain, ev_Par, ev_Par3, ev_Own, ev_pinned, lv_pin, lv_own, ev_LenV, gTuple, esd]
  have lenS : gLen [shsD ss] = some (nI ss.length) := by simp [gLen, shsD]
  have eo := e_law_orders gs.len
  obtain ⟨od, xs5, o1, o2, d5⟩ := e_pick (n := 99499) d4 ((ordsL ss.length).map nT) (by
    have : ss.length ≤ 3 := gs.len
    match ss.length, this with
    | 0, _ => simp [ordsL]
    | 1, _ => simp [ordsL]
    | 2, _ => simp [ordsL]
    | 3, _ => simp [ordsL]) (by
    have : ss.length ≤ 3 := gs.len
    match ss.length, this with
    | 0, _ => simp [ordsL]
    | 1, _ => simp [ordsL]
    | 2, _ => simp [ordsL]
    | 3, _ => simp [ordsL])
  obtain ⟨oo, om, rfl⟩ := List.mem_map.mp o2
  have io := ords_ok gs.len oo om
  -- order
  refine exists_imp_step (seq_nx (e1 := [.lst true xs5, .dat (tabD t), .dat (.int b), .dat (shsD ss), y4, .dat (nT oo), .un, .un, .un, .un, .un, .un, .un, .un, .un, .un, .un, .un, .un, .un, .un, .un, .un, .un]) ?_) ?_
  · simp only [ev_Asg, ev_Tup, ev_Cons, ev_Nil, ev_CallN, ev_CallK, ev_aOwn, ev_aCons, ev_aNil, ev_V, ev_C, ev_Op, ev_Un, ev_L, ev_Lst, ev_CB, ev_If, ev_Tst, ev_IfS, ev_OrT, ev_AndT, ev_NotT, ev_Drop, ev_Next, ev_Ret, ev_For, ev_Comp, ev_iSeq, ev_Rng1, ev_Rng2, ev_ok, ev_some, ev_oko, ev_osome, ev_gN, ev_pinU, ev_pinD, ev_pinL, ev_ownL, ev_ownD, ev_ownU, ev_callF, ev_oo0, ev_oo1, ev_oo2, ev_so0, ev_so1, ev_so2, ev_rep, ev_back, ev_oa0, ev_oa1, ev_oa2, ev_asB, noOwn, ev_wipe0, ev_wipe1, ev_rest0, ev_rest1, List.getElem?_cons_zero, List.getElem?_cons_succ, List.set_cons_succ, List.set_cons_zero, List.length_cons, List.length_nil, List.all_nil, List.all_cons, List.nil_append, List.cons_append, Option.map_some, Option.map_none, Option.bind_some, if_true, if_false, Bool.false_eq_true, Bool.not_false, Bool.not_true, Bool.and_true, Bool.true_and, Nat.zero_add, Nat.reduceAdd, gTupD, fgTup, fgCons, fgNil, ev_Chain, ev_Par, ev_Par3, ev_Own, ev_pinned, lv_pin, lv_own, ev_LenV, lenS, eo, o1]
  have w_st := e_starts g hc hb gs io
  have w_ls := e_ls g hc (b := b) gs io
  have ne4 := bgD_shaped (begO t b ss oo)
  have ka := e_are_ships (shsD ss)
  rw [areShips_ok gs] at ka
  -- starts
  refine exists_imp_step (seq_nx (e1 := [.lst true xs5, .dat (tabD t), .dat (.int b), .dat (shsD ss), y4, .dat (nT oo), .un, .un, .un, .un, .un, .un, .un, .un, .un, .un, .un, .un, .un, .un, .un, .un, .un, .un]) ?_) ?_
  · simp only [ev_Asg, ev_Tup, ev_Cons, ev_Nil, ev_CallN, ev_CallK, ev_aOwn, ev_aCons, ev_aNil, ev_V, ev_C, ev_Op, ev_Un, ev_L, ev_Lst, ev_CB, ev_If, ev_Tst, ev_IfS, ev_OrT, ev_AndT, ev_NotT, ev_Drop, ev_Next, ev_Ret, ev_For, ev_Comp, ev_iSeq, ev_Rng1, ev_Rng2, ev_ok, ev_some, ev_oko, ev_osome, ev_gN, ev_pinU, ev_pinD, ev_pinL, ev_ownL, ev_ownD, ev_ownU, ev_callF, ev_oo0, ev_oo1, ev_oo2, ev_so0, ev_so1, ev_so2, ev_rep, ev_back, ev_oa0, ev_oa1, ev_oa2, ev_asB, noOwn, ev_wipe0, ev_wipe1, ev_rest0, ev_rest1, List.getElem?_cons_zero, List.getElem?_cons_succ, List.set_cons_succ, List.set_cons_zero, List.length_cons, List.length_nil, List.all_nil, List.all_cons, List.nil_append, List.cons_append, Option.map_some, Option.map_none, Option.bind_some, if_true, if_false, Bool.false_eq_true, Bool.not_false, Bool.not_true, Bool.and_true, Bool.true_and, Nat.zero_add, Nat.reduceAdd, gTupD, fgTup, fgCons, fgNil, ev_Chain, ev_Par, ev_Par3, ev_Own, ev_pinned, lv_pin, lv_own, ev_LenV, w_st, w_ls, ne4, ka, and_self]
  -- best, least
  refine exists_imp_step (seq_nx (e1 := [.lst true xs5, .dat (tabD t), .dat (.int b), .dat (shsD ss), y4, .dat (nT oo), .dat .none, .dat .none, .un, .un, .un, .un, .un, .un, .un, .un, .un, .un, .un, .un, .un, .un, .un, .un]) ?_) ?_
  · simp only [ev_Asg, ev_Tup, ev_Cons, ev_Nil, ev_CallN, ev_CallK, ev_aOwn, ev_aCons, ev_aNil, ev_V, ev_C, ev_Op, ev_Un, ev_L, ev_Lst, ev_CB, ev_If, ev_Tst, ev_IfS, ev_OrT, ev_AndT, ev_NotT, ev_Drop, ev_Next, ev_Ret, ev_For, ev_Comp, ev_iSeq, ev_Rng1, ev_Rng2, ev_ok, ev_some, ev_oko, ev_osome, ev_gN, ev_pinU, ev_pinD, ev_pinL, ev_ownL, ev_ownD, ev_ownU, ev_callF, ev_oo0, ev_oo1, ev_oo2, ev_so0, ev_so1, ev_so2, ev_rep, ev_back, ev_oa0, ev_oa1, ev_oa2, ev_asB, noOwn, ev_wipe0, ev_wipe1, ev_rest0, ev_rest1, List.getElem?_cons_zero, List.getElem?_cons_succ, List.set_cons_succ, List.set_cons_zero, List.length_cons, List.length_nil, List.all_nil, List.all_cons, List.nil_append, List.cons_append, Option.map_some, Option.map_none, Option.bind_some, if_true, if_false, Bool.false_eq_true, Bool.not_false, Bool.not_true, Bool.and_true, Bool.true_and, Nat.zero_add, Nat.reduceAdd, gTupD, fgTup, fgCons, fgNil, ev_Chain, ev_Par, ev_Par3, ev_Own, ev_pinned, lv_pin, lv_own, ev_LenV, l2]
  have L6 : ∀ (os : List (List Nat)) (p q : Option (List Nat × Int)) (y8 y9 y10 y13 : Slot), (∀ o ∈ os, IsOrd ss.length o) → y8.pin = false → y9.pin = false → y10.pin = false → y13.pin = false → ∃ z8 z9 z10 z13 : Slot, z8.pin = false ∧ z9.pin = false ∧ z10.pin = false ∧ z13.pin = false ∧ forGo (fgN 8) (fSeq (fSet 9 (fCallN 4 F__law_starts (faCons (fV 1) (faCons (fV 2) (faCons (fV 3) (faCons (fV 8) faNil))))))
  (fIfS (fTst (fOp gNotN (fV 9) (fC .none))) (fSeq (fSet 10 (fCB gMax (fCons (fOp gAdd (fL (fLst (fCons (fC (.int 0)) fNil))) (fL (fComp (fZip (fCons (fV 9) (fCons (fV 3) fNil))) (fgTup (fgCons (fgN 11) (fgCons (fgN 12) fgNil)) 2) fYes (fOp gAdd (fV 11) (fOp gIx (fV 12) (fC (.int 0)))) [11, 12]))) fNil)))
  (fSeq (fSet 13 (fCB gSum (fCons (fL (fComp (fZip (fCons (fV 9) (fCons (fV 3) fNil))) (fgTup (fgCons (fgN 11) (fgCons (fgN 12) fgNil)) 2) fYes (fOp gDif (fV 11) (fOp gIx (fV 12) (fC (.int 1)))) [11, 12])) fNil)))
  (fSeq (fSet 6 (fIf (fOrT (fTst (fOp gIsN (fV 6) (fC .none))) (fTst (fOp gLt (fV 10) (fOp gIx (fV 6) (fC (.int 1)))))) (fTup (fCons (fV 8) (fCons (fV 10) fNil))) (fV 6)))
  (fSet 7 (fIf (fOrT (fTst (fOp gIsN (fV 7) (fC .none))) (fTst (fOp gLt (fV 13) (fOp gIx (fV 7) (fC (.int 1)))))) (fTup (fCons (fV 8) (fCons (fV 13) fNil))) (fV 7)))))) fNext)) (os.map nT) [.lst true xs5, .dat (tabD t), .dat (.int b), .dat (shsD ss), y4, .dat (nT oo), .dat (obD p), .dat (obD q), y8, y9, y10, .un, .un, y13, .un, .un, .un, .un, .un, .un, .un, .un, .un, .un] = .nx [.lst true xs5, .dat (tabD t), .dat (.int b), .dat (shsD ss), y4, .dat (nT oo), .dat (obD (os.foldl (stepO (valE t b ss)) p)), .dat (obD (os.foldl (stepO (valW t b ss)) q)), z8, z9, z10, .un, .un, z13, .un, .un, .un, .un, .un, .un, .un, .un, .un, .un] := by
    intro os
    induction os with
    | nil => exact fun p q y8 y9 y10 y13 _ h8 h9 h10 h13 => ⟨y8, y9, y10, y13, h8, h9, h10, h13, rfl⟩
    | cons o os ih =>
      intro p q y8 y9 y10 y13 ios p8 p9 p10 p13
      have ls := e_ls g hc (b := b) gs (ios o List.mem_cons_self)
      have t1 : fgN 8 (nT o) [.lst true xs5, .dat (tabD t), .dat (.int b), .dat (shsD ss), y4, .dat (nT oo), .dat (obD p), .dat (obD q), y8, y9, y10, .un, .un, y13, .un, .un, .un, .un, .un, .un, .un, .un, .un, .un] = some [.lst true xs5, .dat (tabD t), .dat (.int b), .dat (shsD ss), y4, .dat (nT oo), .dat (obD p), .dat (obD q), .dat (nT o), y9, y10, .un, .un, y13, .un, .un, .un, .un, .un, .un, .un, .un, .un, .un] := by
        simp only [fgN, List.getElem?_cons_zero, List.getElem?_cons_succ, p8, Bool.false_eq_true, if_false, List.set_cons_succ, List.set_cons_zero]
      have t2 : ∃ w9 w10 w13 : Slot, w9.pin = false ∧ w10.pin = false ∧ w13.pin = false ∧ (fSeq (fSet 9 (fCallN 4 F__law_starts (faCons (fV 1) (faCons (fV 2) (faCons (fV 3) (faCons (fV 8) faNil))))))
  (fIfS (fTst (fOp gNotN (fV 9) (fC .none))) (fSeq (fSet 10 (fCB gMax (fCons (fOp gAdd (fL (fLst (fCons (fC (.int 0)) fNil))) (fL (fComp (fZip (fCons (fV 9) (fCons (fV 3) fNil))) (fgTup (fgCons (fgN 11) (fgCons (fgN 12) fgNil)) 2) fYes (fOp gAdd (fV 11) (fOp gIx (fV 12) (fC (.int 0)))) [11, 12]))) fNil)))
  (fSeq (fSet 13 (fCB gSum (fCons (fL (fComp (fZip (fCons (fV 9) (fCons (fV 3) fNil))) (fgTup (fgCons (fgN 11) (fgCons (fgN 12) fgNil)) 2) fYes (fOp gDif (fV 11) (fOp gIx (fV 12) (fC (.int 1)))) [11, 12])) fNil)))
  (fSeq (fSet 6 (fIf (fOrT (fTst (fOp gIsN (fV 6) (fC .none))) (fTst (fOp gLt (fV 10) (fOp gIx (fV 6) (fC (.int 1)))))) (fTup (fCons (fV 8) (fCons (fV 10) fNil))) (fV 6)))
  (fSet 7 (fIf (fOrT (fTst (fOp gIsN (fV 7) (fC .none))) (fTst (fOp gLt (fV 13) (fOp gIx (fV 7) (fC (.int 1)))))) (fTup (fCons (fV 8) (fCons (fV 13) fNil))) (fV 7)))))) fNext)) [.lst true xs5, .dat (tabD t), .dat (.int b), .dat (shsD ss), y4, .dat (nT oo), .dat (obD p), .dat (obD q), .dat (nT o), y9, y10, .un, .un, y13, .un, .un, .un, .un, .un, .un, .un, .un, .un, .un] = .nx [.lst true xs5, .dat (tabD t), .dat (.int b), .dat (shsD ss), y4, .dat (nT oo), .dat (obD (stepO (valE t b ss) p o)), .dat (obD (stepO (valW t b ss) q o)), .dat (nT o), w9, w10, .un, .un, w13, .un, .un, .un, .un, .un, .un, .un, .un, .un, .un] := by
        cases qb : begO t b ss o with
        | none =>
          rw [qb] at ls
          have ls : F__law_starts [.dat (tabD t), .dat (.int b), .dat (shsD ss), .dat (nT o)] = .ok .none [.dat (tabD t), .dat (.int b), .dat (shsD ss), .dat (nT o)] := ls
          have se : stepO (valE t b ss) p o = p := by
            unfold stepO valE
            rw [qb]
            cases p <;> rfl
          have sw : stepO (valW t b ss) q o = q := by
            unfold stepO valW
            rw [qb]
            cases q <;> rfl
          refine ⟨.dat .none, y10, y13, rfl, p10, p13, ?_⟩
          rw [se, sw]
          simp only [ev_Asg, ev_Tup, ev_Cons, ev_Nil, ev_CallN, ev_CallK, ev_aOwn, ev_aCons, ev_aNil, ev_V, ev_C, ev_Op, ev_Un, ev_L, ev_Lst, ev_CB, ev_If, ev_Tst, ev_IfS, ev_OrT, ev_AndT, ev_NotT, ev_Drop, ev_Next, ev_Ret, ev_For, ev_Comp, ev_iSeq, ev_Rng1, ev_Rng2, ev_ok, ev_some, ev_oko, ev_osome, ev_gN, ev_pinU, ev_pinD, ev_pinL, ev_ownL, ev_ownD, ev_ownU, ev_callF, ev_oo0, ev_oo1, ev_oo2, ev_so0, ev_so1, ev_so2, ev_rep, ev_back, ev_oa0, ev_oa1, ev_oa2, ev_asB, noOwn, ev_wipe0, ev_wipe1, ev_rest0, ev_rest1, List.getElem?_cons_zero, List.getElem?_cons_succ, List.set_cons_succ, List.set_cons_zero, List.length_cons, List.length_nil, List.all_nil, List.all_cons, List.nil_append, List.cons_append, Option.map_some, Option.map_none, Option.bind_some, if_true, if_false, Bool.false_eq_true, Bool.not_false, Bool.not_true, Bool.and_true, Bool.true_and, Nat.zero_add, Nat.reduceAdd, gTupD, fgTup, fgCons, fgNil, ev_Chain, ev_Par, ev_Par3, ev_Own, ev_pinned, lv_pin, lv_own, ev_LenV, ls, gNotN_n, p9, ev_Seq, ev_seqn]
        | some bl =>
          rw [qb] at ls
          have ls : F__law_starts [.dat (tabD t), .dat (.int b), .dat (shsD ss), .dat (nT o)] = .ok (.tuple (bl.map .int)) [.dat (tabD t), .dat (.int b), .dat (shsD ss), .dat (nT o)] := ls
          have se : stepO (valE t b ss) p o = match p with
            | none => some (o, endV bl ss)
            | some p => if endV bl ss < p.2 then some (o, endV bl ss) else some p := by
            unfold stepO valE
            rw [qb]
            cases p <;> rfl
          have sw : stepO (valW t b ss) q o = match q with
            | none => some (o, waitV bl ss)
            | some p => if waitV bl ss < p.2 then some (o, waitV bl ss) else some p := by
            unfold stepO valW
            rw [qb]
            cases q <;> rfl
          have zl := zipS_len bl gs
          have C0 : compGo (fgTup (fgCons (fgN 11) (fgCons (fgN 12) fgNil)) 2) fYes (fOp gAdd (fV 11) (fOp gIx (fV 12) (fC (.int 0)))) [11, 12] ((zipS bl ss).map zsD) [.lst true xs5, .dat (tabD t), .dat (.int b), .dat (shsD ss), y4, .dat (nT oo), .dat (obD p), .dat (obD q), .dat (nT o), .dat (.tuple (bl.map .int)), y10, .un, .un, y13, .un, .un, .un, .un, .un, .un, .un, .un, .un, .un] [] = .ok ([] ++ (zipS bl ss).map fun z => .int (z.1 + (z.2.1 : Int))) [.lst true xs5, .dat (tabD t), .dat (.int b), .dat (shsD ss), y4, .dat (nT oo), .dat (obD p), .dat (obD q), .dat (nT o), .dat (.tuple (bl.map .int)), y10, .un, .un, y13, .un, .un, .un, .un, .un, .un, .un, .un, .un, .un] := by
            refine compGo_L (enc := zsD) (q := fun z => .int (z.1 + (z.2.1 : Int))) (fun z _ => ?_) (by rw [sizeLine_eq]; simp; omega)
            exact ⟨[.lst true xs5, .dat (tabD t), .dat (.int b), .dat (shsD ss), y4, .dat (nT oo), .dat (obD p), .dat (obD q), .dat (nT o), .dat (.tuple (bl.map .int)), y10, .dat (.int z.1), .dat (shD z.2), y13, .un, .un, .un, .un, .un, .un, .un, .un, .un, .un], [.lst true xs5, .dat (tabD t), .dat (.int b), .dat (shsD ss), y4, .dat (nT oo), .dat (obD p), .dat (obD q), .dat (nT o), .dat (.tuple (bl.map .int)), y10, .dat (.int z.1), .dat (shD z.2), y13, .un, .un, .un, .un, .un, .un, .un, .un, .un, .un], by simp [zsD, fgTup, fgCons, fgNil], by simp [sh0, gAdd], by simp⟩
          rw [List.nil_append, show ((zipS bl ss).map fun z => PyData.int (z.1 + (z.2.1 : Int))) = ((zipS bl ss).map fun z => z.1 + (z.2.1 : Int)).map .int by rw [List.map_map]; rfl] at C0
          have C1 : compGo (fgTup (fgCons (fgN 11) (fgCons (fgN 12) fgNil)) 2) fYes (fOp gDif (fV 11) (fOp gIx (fV 12) (fC (.int 1)))) [11, 12] ((zipS bl ss).map zsD) [.lst true xs5, .dat (tabD t), .dat (.int b), .dat (shsD ss), y4, .dat (nT oo), .dat (obD p), .dat (obD q), .dat (nT o), .dat (.tuple (bl.map .int)), .dat (.int (endV bl ss)), .un, .un, y13, .un, .un, .un, .un, .un, .un, .un, .un, .un, .un] [] = .ok ([] ++ (zipS bl ss).map fun z => .int (z.1 - (z.2.2 : Int))) [.lst true xs5, .dat (tabD t), .dat (.int b), .dat (shsD ss), y4, .dat (nT oo), .dat (obD p), .dat (obD q), .dat (nT o), .dat (.tuple (bl.map .int)), .dat (.int (endV bl ss)), .un, .un, y13, .un, .un, .un, .un, .un, .un, .un, .un, .un, .un] := by
            refine compGo_L (enc := zsD) (q := fun z => .int (z.1 - (z.2.2 : Int))) (fun z _ => ?_) (by rw [sizeLine_eq]; simp; omega)
            exact ⟨[.lst true xs5, .dat (tabD t), .dat (.int b), .dat (shsD ss), y4, .dat (nT oo), .dat (obD p), .dat (obD q), .dat (nT o), .dat (.tuple (bl.map .int)), .dat (.int (endV bl ss)), .dat (.int z.1), .dat (shD z.2), y13, .un, .un, .un, .un, .un, .un, .un, .un, .un, .un], [.lst true xs5, .dat (tabD t), .dat (.int b), .dat (shsD ss), y4, .dat (nT oo), .dat (obD p), .dat (obD q), .dat (nT o), .dat (.tuple (bl.map .int)), .dat (.int (endV bl ss)), .dat (.int z.1), .dat (shD z.2), y13, .un, .un, .un, .un, .un, .un, .un, .un, .un, .un], by simp [zsD, fgTup, fgCons, fgNil], by simp [sh1, gDif], by simp⟩
          rw [List.nil_append, show ((zipS bl ss).map fun z => PyData.int (z.1 - (z.2.2 : Int))) = ((zipS bl ss).map fun z => z.1 - (z.2.2 : Int)).map .int by rw [List.map_map]; rfl] at C1
          have ca : gAdd (.list [.int 0]) (.list (((zipS bl ss).map fun z => z.1 + (z.2.1 : Int)).map .int)) = some (iL (0 :: (zipS bl ss).map fun z => z.1 + (z.2.1 : Int))) := by
            unfold gAdd
            dsimp only
            rw [if_pos (by rw [List.length_map, List.length_map, sizeLine_eq]; simp; omega)]
            rfl
          have gm := gMax_ints (L := 0 :: (zipS bl ss).map fun z => z.1 + (z.2.1 : Int)) (by simp)
          have gsu := gSum_ints ((zipS bl ss).map fun z => z.1 - (z.2.2 : Int))
          have fz0 : (fZip (fCons (fV 9) (fCons (fV 3) fNil))) [.lst true xs5, .dat (tabD t), .dat (.int b), .dat (shsD ss), y4, .dat (nT oo), .dat (obD p), .dat (obD q), .dat (nT o), .dat (.tuple (bl.map .int)), y10, .un, .un, y13, .un, .un, .un, .un, .un, .un, .un, .un, .un, .un] = .ok ((zipS bl ss).map zsD) [.lst true xs5, .dat (tabD t), .dat (.int b), .dat (shsD ss), y4, .dat (nT oo), .dat (obD p), .dat (obD q), .dat (nT o), .dat (.tuple (bl.map .int)), y10, .un, .un, y13, .un, .un, .un, .un, .un, .un, .un, .un, .un, .un] := by
            rw [← zipS_eq bl ss]
            rfl
          have fz1 : (fZip (fCons (fV 9) (fCons (fV 3) fNil))) [.lst true xs5, .dat (tabD t), .dat (.int b), .dat (shsD ss), y4, .dat (nT oo), .dat (obD p), .dat (obD q), .dat (nT o), .dat (.tuple (bl.map .int)), .dat (.int (endV bl ss)), .un, .un, y13, .un, .un, .un, .un, .un, .un, .un, .un, .un, .un] = .ok ((zipS bl ss).map zsD) [.lst true xs5, .dat (tabD t), .dat (.int b), .dat (shsD ss), y4, .dat (nT oo), .dat (obD p), .dat (obD q), .dat (nT o), .dat (.tuple (bl.map .int)), .dat (.int (endV bl ss)), .un, .un, y13, .un, .un, .un, .un, .un, .un, .un, .un, .un, .un] := by
            rw [← zipS_eq bl ss]
            rfl
          have s1 : (fSet 9 (fCallN 4 F__law_starts (faCons (fV 1) (faCons (fV 2) (faCons (fV 3) (faCons (fV 8) faNil)))))) [.lst true xs5, .dat (tabD t), .dat (.int b), .dat (shsD ss), y4, .dat (nT oo), .dat (obD p), .dat (obD q), .dat (nT o), y9, y10, .un, .un, y13, .un, .un, .un, .un, .un, .un, .un, .un, .un, .un] = .nx [.lst true xs5, .dat (tabD t), .dat (.int b), .dat (shsD ss), y4, .dat (nT oo), .dat (obD p), .dat (obD q), .dat (nT o), .dat (.tuple (bl.map .int)), y10, .un, .un, y13, .un, .un, .un, .un, .un, .un, .un, .un, .un, .un] := by simp only [ev_Asg, ev_Tup, ev_Cons, ev_Nil, ev_CallN, ev_CallK, ev_aOwn, ev_aCons, ev_aNil, ev_V, ev_C, ev_Op, ev_Un, ev_L, ev_Lst, ev_CB, ev_If, ev_Tst, ev_IfS, ev_OrT, ev_AndT, ev_NotT, ev_Drop, ev_Next, ev_Ret, ev_For, ev_Comp, ev_iSeq, ev_Rng1, ev_Rng2, ev_ok, ev_some, ev_oko, ev_osome, ev_gN, ev_pinU, ev_pinD, ev_pinL, ev_ownL, ev_ownD, ev_ownU, ev_callF, ev_oo0, ev_oo1, ev_oo2, ev_so0, ev_so1, ev_so2, ev_rep, ev_back, ev_oa0, ev_oa1, ev_oa2, ev_asB, noOwn, ev_wipe0, ev_wipe1, ev_rest0, ev_rest1, List.getElem?_cons_zero, List.getElem?_cons_succ, List.set_cons_succ, List.set_cons_zero, List.length_cons, List.length_nil, List.all_nil, List.all_cons, List.nil_append, List.cons_append, Option.map_some, Option.map_none, Option.bind_some, if_true, if_false, Bool.false_eq_true, Bool.not_false, Bool.not_true, Bool.and_true, Bool.true_and, Nat.zero_add, Nat.reduceAdd, gTupD, fgTup, fgCons, fgNil, ev_Chain, ev_Par, ev_Par3, ev_Own, ev_pinned, lv_pin, lv_own, ev_LenV, ls, p9]
          have s2 : (fSet 10 (fCB gMax (fCons (fOp gAdd (fL (fLst (fCons (fC (.int 0)) fNil))) (fL (fComp (fZip (fCons (fV 9) (fCons (fV 3) fNil))) (fgTup (fgCons (fgN 11) (fgCons (fgN 12) fgNil)) 2) fYes (fOp gAdd (fV 11) (fOp gIx (fV 12) (fC (.int 0)))) [11, 12]))) fNil))) [.lst true xs5, .dat (tabD t), .dat (.int b), .dat (shsD ss), y4, .dat (nT oo), .dat (obD p), .dat (obD q), .dat (nT o), .dat (.tuple (bl.map .int)), y10, .un, .un, y13, .un, .un, .un, .un, .un, .un, .un, .un, .un, .un] = .nx [.lst true xs5, .dat (tabD t), .dat (.int b), .dat (shsD ss), y4, .dat (nT oo), .dat (obD p), .dat (obD q), .dat (nT o), .dat (.tuple (bl.map .int)), .dat (.int (endV bl ss)), .un, .un, y13, .un, .un, .un, .un, .un, .un, .un, .un, .un, .un] := by simp only [ev_Asg, ev_Tup, ev_Cons, ev_Nil, ev_CallN, ev_CallK, ev_aOwn, ev_aCons, ev_aNil, ev_V, ev_C, ev_Op, ev_Un, ev_L, ev_Lst, ev_CB, ev_If, ev_Tst, ev_IfS, ev_OrT, ev_AndT, ev_NotT, ev_Drop, ev_Next, ev_Ret, ev_For, ev_Comp, ev_iSeq, ev_Rng1, ev_Rng2, ev_ok, ev_some, ev_oko, ev_osome, ev_gN, ev_pinU, ev_pinD, ev_pinL, ev_ownL, ev_ownD, ev_ownU, ev_callF, ev_oo0, ev_oo1, ev_oo2, ev_so0, ev_so1, ev_so2, ev_rep, ev_back, ev_oa0, ev_oa1, ev_oa2, ev_asB, noOwn, ev_wipe0, ev_wipe1, ev_rest0, ev_rest1, List.getElem?_cons_zero, List.getElem?_cons_succ, List.set_cons_succ, List.set_cons_zero, List.length_cons, List.length_nil, List.all_nil, List.all_cons, List.nil_append, List.cons_append, Option.map_some, Option.map_none, Option.bind_some, if_true, if_false, Bool.false_eq_true, Bool.not_false, Bool.not_true, Bool.and_true, Bool.true_and, Nat.zero_add, Nat.reduceAdd, gTupD, fgTup, fgCons, fgNil, ev_Chain, ev_Par, ev_Par3, ev_Own, ev_pinned, lv_pin, lv_own, ev_LenV, l1, fz0, C0, ca, gm, p10, endV]
          have s3 : (fSet 13 (fCB gSum (fCons (fL (fComp (fZip (fCons (fV 9) (fCons (fV 3) fNil))) (fgTup (fgCons (fgN 11) (fgCons (fgN 12) fgNil)) 2) fYes (fOp gDif (fV 11) (fOp gIx (fV 12) (fC (.int 1)))) [11, 12])) fNil))) [.lst true xs5, .dat (tabD t), .dat (.int b), .dat (shsD ss), y4, .dat (nT oo), .dat (obD p), .dat (obD q), .dat (nT o), .dat (.tuple (bl.map .int)), .dat (.int (endV bl ss)), .un, .un, y13, .un, .un, .un, .un, .un, .un, .un, .un, .un, .un] = .nx [.lst true xs5, .dat (tabD t), .dat (.int b), .dat (shsD ss), y4, .dat (nT oo), .dat (obD p), .dat (obD q), .dat (nT o), .dat (.tuple (bl.map .int)), .dat (.int (endV bl ss)), .un, .un, .dat (.int (waitV bl ss)), .un, .un, .un, .un, .un, .un, .un, .un, .un, .un] := by simp only [ev_Asg, ev_Tup, ev_Cons, ev_Nil, ev_CallN, ev_CallK, ev_aOwn, ev_aCons, ev_aNil, ev_V, ev_C, ev_Op, ev_Un, ev_L, ev_Lst, ev_CB, ev_If, ev_Tst, ev_IfS, ev_OrT, ev_AndT, ev_NotT, ev_Drop, ev_Next, ev_Ret, ev_For, ev_Comp, ev_iSeq, ev_Rng1, ev_Rng2, ev_ok, ev_some, ev_oko, ev_osome, ev_gN, ev_pinU, ev_pinD, ev_pinL, ev_ownL, ev_ownD, ev_ownU, ev_callF, ev_oo0, ev_oo1, ev_oo2, ev_so0, ev_so1, ev_so2, ev_rep, ev_back, ev_oa0, ev_oa1, ev_oa2, ev_asB, noOwn, ev_wipe0, ev_wipe1, ev_rest0, ev_rest1, List.getElem?_cons_zero, List.getElem?_cons_succ, List.set_cons_succ, List.set_cons_zero, List.length_cons, List.length_nil, List.all_nil, List.all_cons, List.nil_append, List.cons_append, Option.map_some, Option.map_none, Option.bind_some, if_true, if_false, Bool.false_eq_true, Bool.not_false, Bool.not_true, Bool.and_true, Bool.true_and, Nat.zero_add, Nat.reduceAdd, gTupD, fgTup, fgCons, fgNil, ev_Chain, ev_Par, ev_Par3, ev_Own, ev_pinned, lv_pin, lv_own, ev_LenV, fz1, C1, gsu, p13, waitV]
          have s4 : (fSet 6 (fIf (fOrT (fTst (fOp gIsN (fV 6) (fC .none))) (fTst (fOp gLt (fV 10) (fOp gIx (fV 6) (fC (.int 1)))))) (fTup (fCons (fV 8) (fCons (fV 10) fNil))) (fV 6))) [.lst true xs5, .dat (tabD t), .dat (.int b), .dat (shsD ss), y4, .dat (nT oo), .dat (obD p), .dat (obD q), .dat (nT o), .dat (.tuple (bl.map .int)), .dat (.int (endV bl ss)), .un, .un, .dat (.int (waitV bl ss)), .un, .un, .un, .un, .un, .un, .un, .un, .un, .un] = .nx [.lst true xs5, .dat (tabD t), .dat (.int b), .dat (shsD ss), y4, .dat (nT oo), .dat (obD (stepO (valE t b ss) p o)), .dat (obD q), .dat (nT o), .dat (.tuple (bl.map .int)), .dat (.int (endV bl ss)), .un, .un, .dat (.int (waitV bl ss)), .un, .un, .un, .un, .un, .un, .un, .un, .un, .un] := by
            rw [se]
            cases p with
            | none => simp only [ev_Asg, ev_Tup, ev_Cons, ev_Nil, ev_CallN, ev_CallK, ev_aOwn, ev_aCons, ev_aNil, ev_V, ev_C, ev_Op, ev_Un, ev_L, ev_Lst, ev_CB, ev_If, ev_Tst, ev_IfS, ev_OrT, ev_AndT, ev_NotT, ev_Drop, ev_Next, ev_Ret, ev_For, ev_Comp, ev_iSeq, ev_Rng1, ev_Rng2, ev_ok, ev_some, ev_oko, ev_osome, ev_gN, ev_pinU, ev_pinD, ev_pinL, ev_ownL, ev_ownD, ev_ownU, ev_callF, ev_oo0, ev_oo1, ev_oo2, ev_so0, ev_so1, ev_so2, ev_rep, ev_back, ev_oa0, ev_oa1, ev_oa2, ev_asB, noOwn, ev_wipe0, ev_wipe1, ev_rest0, ev_rest1, List.getElem?_cons_zero, List.getElem?_cons_succ, List.set_cons_succ, List.set_cons_zero, List.length_cons, List.length_nil, List.all_nil, List.all_cons, List.nil_append, List.cons_append, Option.map_some, Option.map_none, Option.bind_some, if_true, if_false, Bool.false_eq_true, Bool.not_false, Bool.not_true, Bool.and_true, Bool.true_and, Nat.zero_add, Nat.reduceAdd, gTupD, fgTup, fgCons, fgNil, ev_Chain, ev_Par, ev_Par3, ev_Own, ev_pinned, lv_pin, lv_own, ev_LenV, obD, gIsN_n, l2]
            | some p =>
              have a1 : atI [nT p.1, PyData.int p.2] 1 = some (.int p.2) := atI_nat (j := 1) rfl
              by_cases c : endV bl ss < p.2
              · simp only [ev_Asg, ev_Tup, ev_Cons, ev_Nil, ev_CallN, ev_CallK, ev_aOwn, ev_aCons, ev_aNil, ev_V, ev_C, ev_Op, ev_Un, ev_L, ev_Lst, ev_CB, ev_If, ev_Tst, ev_IfS, ev_OrT, ev_AndT, ev_NotT, ev_Drop, ev_Next, ev_Ret, ev_For, ev_Comp, ev_iSeq, ev_Rng1, ev_Rng2, ev_ok, ev_some, ev_oko, ev_osome, ev_gN, ev_pinU, ev_pinD, ev_pinL, ev_ownL, ev_ownD, ev_ownU, ev_callF, ev_oo0, ev_oo1, ev_oo2, ev_so0, ev_so1, ev_so2, ev_rep, ev_back, ev_oa0, ev_oa1, ev_oa2, ev_asB, noOwn, ev_wipe0, ev_wipe1, ev_rest0, ev_rest1, List.getElem?_cons_zero, List.getElem?_cons_succ, List.set_cons_succ, List.set_cons_zero, List.length_cons, List.length_nil, List.all_nil, List.all_cons, List.nil_append, List.cons_append, Option.map_some, Option.map_none, Option.bind_some, if_true, if_false, Bool.false_eq_true, Bool.not_false, Bool.not_true, Bool.and_true, Bool.true_and, Nat.zero_add, Nat.reduceAdd, gTupD, fgTup, fgCons, fgNil, ev_Chain, ev_Par, ev_Par3, ev_Own, ev_pinned, lv_pin, lv_own, ev_LenV, obD, gIsN_t, l2, gIx, a1, gCmp, decide_true, eq_self, reduceIte, c]
              · simp only [ev_Asg, ev_Tup, ev_Cons, ev_Nil, ev_CallN, ev_CallK, ev_aOwn, ev_aCons, ev_aNil, ev_V, ev_C, ev_Op, ev_Un, ev_L, ev_Lst, ev_CB, ev_If, ev_Tst, ev_IfS, ev_OrT, ev_AndT, ev_NotT, ev_Drop, ev_Next, ev_Ret, ev_For, ev_Comp, ev_iSeq, ev_Rng1, ev_Rng2, ev_ok, ev_some, ev_oko, ev_osome, ev_gN, ev_pinU, ev_pinD, ev_pinL, ev_ownL, ev_ownD, ev_ownU, ev_callF, ev_oo0, ev_oo1, ev_oo2, ev_so0, ev_so1, ev_so2, ev_rep, ev_back, ev_oa0, ev_oa1, ev_oa2, ev_asB, noOwn, ev_wipe0, ev_wipe1, ev_rest0, ev_rest1, List.getElem?_cons_zero, List.getElem?_cons_succ, List.set_cons_succ, List.set_cons_zero, List.length_cons, List.length_nil, List.all_nil, List.all_cons, List.nil_append, List.cons_append, Option.map_some, Option.map_none, Option.bind_some, if_true, if_false, Bool.false_eq_true, Bool.not_false, Bool.not_true, Bool.and_true, Bool.true_and, Nat.zero_add, Nat.reduceAdd, gTupD, fgTup, fgCons, fgNil, ev_Chain, ev_Par, ev_Par3, ev_Own, ev_pinned, lv_pin, lv_own, ev_LenV, obD, gIsN_t, l2, gIx, a1, gCmp, decide_false, reduceIte, c]
          have s5 : (fSet 7 (fIf (fOrT (fTst (fOp gIsN (fV 7) (fC .none))) (fTst (fOp gLt (fV 13) (fOp gIx (fV 7) (fC (.int 1)))))) (fTup (fCons (fV 8) (fCons (fV 13) fNil))) (fV 7))) [.lst true xs5, .dat (tabD t), .dat (.int b), .dat (shsD ss), y4, .dat (nT oo), .dat (obD (stepO (valE t b ss) p o)), .dat (obD q), .dat (nT o), .dat (.tuple (bl.map .int)), .dat (.int (endV bl ss)), .un, .un, .dat (.int (waitV bl ss)), .un, .un, .un, .un, .un, .un, .un, .un, .un, .un] = .nx [.lst true xs5, .dat (tabD t), .dat (.int b), .dat (shsD ss), y4, .dat (nT oo), .dat (obD (stepO (valE t b ss) p o)), .dat (obD (stepO (valW t b ss) q o)), .dat (nT o), .dat (.tuple (bl.map .int)), .dat (.int (endV bl ss)), .un, .un, .dat (.int (waitV bl ss)), .un, .un, .un, .un, .un, .un, .un, .un, .un, .un] := by
            rw [sw]
            cases q with
            | none => simp only [ev_Asg, ev_Tup, ev_Cons, ev_Nil, ev_CallN, ev_CallK, ev_aOwn, ev_aCons, ev_aNil, ev_V, ev_C, ev_Op, ev_Un, ev_L, ev_Lst, ev_CB, ev_If, ev_Tst, ev_IfS, ev_OrT, ev_AndT, ev_NotT, ev_Drop, ev_Next, ev_Ret, ev_For, ev_Comp, ev_iSeq, ev_Rng1, ev_Rng2, ev_ok, ev_some, ev_oko, ev_osome, ev_gN, ev_pinU, ev_pinD, ev_pinL, ev_ownL, ev_ownD, ev_ownU, ev_callF, ev_oo0, ev_oo1, ev_oo2, ev_so0, ev_so1, ev_so2, ev_rep, ev_back, ev_oa0, ev_oa1, ev_oa2, ev_asB, noOwn, ev_wipe0, ev_wipe1, ev_rest0, ev_rest1, List.getElem?_cons_zero, List.getElem?_cons_succ, List.set_cons_succ, List.set_cons_zero, List.length_cons, List.length_nil, List.all_nil, List.all_cons, List.nil_append, List.cons_append, Option.map_some, Option.map_none, Option.bind_some, if_true, if_false, Bool.false_eq_true, Bool.not_false, Bool.not_true, Bool.and_true, Bool.true_and, Nat.zero_add, Nat.reduceAdd, gTupD, fgTup, fgCons, fgNil, ev_Chain, ev_Par, ev_Par3, ev_Own, ev_pinned, lv_pin, lv_own, ev_LenV, obD, gIsN_n, l2]
            | some q =>
              have a1 : atI [nT q.1, PyData.int q.2] 1 = some (.int q.2) := atI_nat (j := 1) rfl
              by_cases c : waitV bl ss < q.2
              · simp only [ev_Asg, ev_Tup, ev_Cons, ev_Nil, ev_CallN, ev_CallK, ev_aOwn, ev_aCons, ev_aNil, ev_V, ev_C, ev_Op, ev_Un, ev_L, ev_Lst, ev_CB, ev_If, ev_Tst, ev_IfS, ev_OrT, ev_AndT, ev_NotT, ev_Drop, ev_Next, ev_Ret, ev_For, ev_Comp, ev_iSeq, ev_Rng1, ev_Rng2, ev_ok, ev_some, ev_oko, ev_osome, ev_gN, ev_pinU, ev_pinD, ev_pinL, ev_ownL, ev_ownD, ev_ownU, ev_callF, ev_oo0, ev_oo1, ev_oo2, ev_so0, ev_so1, ev_so2, ev_rep, ev_back, ev_oa0, ev_oa1, ev_oa2, ev_asB, noOwn, ev_wipe0, ev_wipe1, ev_rest0, ev_rest1, List.getElem?_cons_zero, List.getElem?_cons_succ, List.set_cons_succ, List.set_cons_zero, List.length_cons, List.length_nil, List.all_nil, List.all_cons, List.nil_append, List.cons_append, Option.map_some, Option.map_none, Option.bind_some, if_true, if_false, Bool.false_eq_true, Bool.not_false, Bool.not_true, Bool.and_true, Bool.true_and, Nat.zero_add, Nat.reduceAdd, gTupD, fgTup, fgCons, fgNil, ev_Chain, ev_Par, ev_Par3, ev_Own, ev_pinned, lv_pin, lv_own, ev_LenV, obD, gIsN_t, l2, gIx, a1, gCmp, decide_true, eq_self, reduceIte, c]
              · simp only [ev_Asg, ev_Tup, ev_Cons, ev_Nil, ev_CallN, ev_CallK, ev_aOwn, ev_aCons, ev_aNil, ev_V, ev_C, ev_Op, ev_Un, ev_L, ev_Lst, ev_CB, ev_If, ev_Tst, ev_IfS, ev_OrT, ev_AndT, ev_NotT, ev_Drop, ev_Next, ev_Ret, ev_For, ev_Comp, ev_iSeq, ev_Rng1, ev_Rng2, ev_ok, ev_some, ev_oko, ev_osome, ev_gN, ev_pinU, ev_pinD, ev_pinL, ev_ownL, ev_ownD, ev_ownU, ev_callF, ev_oo0, ev_oo1, ev_oo2, ev_so0, ev_so1, ev_so2, ev_rep, ev_back, ev_oa0, ev_oa1, ev_oa2, ev_asB, noOwn, ev_wipe0, ev_wipe1, ev_rest0, ev_rest1, List.getElem?_cons_zero, List.getElem?_cons_succ, List.set_cons_succ, List.set_cons_zero, List.length_cons, List.length_nil, List.all_nil, List.all_cons, List.nil_append, List.cons_append, Option.map_some, Option.map_none, Option.bind_some, if_true, if_false, Bool.false_eq_true, Bool.not_false, Bool.not_true, Bool.and_true, Bool.true_and, Nat.zero_add, Nat.reduceAdd, gTupD, fgTup, fgCons, fgNil, ev_Chain, ev_Par, ev_Par3, ev_Own, ev_pinned, lv_pin, lv_own, ev_LenV, obD, gIsN_t, l2, gIx, a1, gCmp, decide_false, reduceIte, c]
          have s6 : (fTst (fOp gNotN (fV 9) (fC .none))) [.lst true xs5, .dat (tabD t), .dat (.int b), .dat (shsD ss), y4, .dat (nT oo), .dat (obD p), .dat (obD q), .dat (nT o), .dat (.tuple (bl.map .int)), y10, .un, .un, y13, .un, .un, .un, .un, .un, .un, .un, .un, .un, .un] = .ok true [.lst true xs5, .dat (tabD t), .dat (.int b), .dat (shsD ss), y4, .dat (nT oo), .dat (obD p), .dat (obD q), .dat (nT o), .dat (.tuple (bl.map .int)), y10, .un, .un, y13, .un, .un, .un, .un, .un, .un, .un, .un, .un, .un] := by simp only [ev_Asg, ev_Tup, ev_Cons, ev_Nil, ev_CallN, ev_CallK, ev_aOwn, ev_aCons, ev_aNil, ev_V, ev_C, ev_Op, ev_Un, ev_L, ev_Lst, ev_CB, ev_If, ev_Tst, ev_IfS, ev_OrT, ev_AndT, ev_NotT, ev_Drop, ev_Next, ev_Ret, ev_For, ev_Comp, ev_iSeq, ev_Rng1, ev_Rng2, ev_ok, ev_some, ev_oko, ev_osome, ev_gN, ev_pinU, ev_pinD, ev_pinL, ev_ownL, ev_ownD, ev_ownU, ev_callF, ev_oo0, ev_oo1, ev_oo2, ev_so0, ev_so1, ev_so2, ev_rep, ev_back, ev_oa0, ev_oa1, ev_oa2, ev_asB, noOwn, ev_wipe0, ev_wipe1, ev_rest0, ev_rest1, List.getElem?_cons_zero, List.getElem?_cons_succ, List.set_cons_succ, List.set_cons_zero, List.length_cons, List.length_nil, List.all_nil, List.all_cons, List.nil_append, List.cons_append, Option.map_some, Option.map_none, Option.bind_some, if_true, if_false, Bool.false_eq_true, Bool.not_false, Bool.not_true, Bool.and_true, Bool.true_and, Nat.zero_add, Nat.reduceAdd, gTupD, fgTup, fgCons, fgNil, ev_Chain, ev_Par, ev_Par3, ev_Own, ev_pinned, lv_pin, lv_own, ev_LenV, gNotN_t]
          refine ⟨.dat (.tuple (bl.map .int)), .dat (.int (endV bl ss)), .dat (.int (waitV bl ss)), rfl, rfl, rfl, ?_⟩
          rw [ev_Seq, s1, ev_seqn, ev_IfS, s6, ev_oko, if_pos rfl, ev_Seq, s2, ev_seqn, ev_Seq, s3, ev_seqn, ev_Seq, s4, ev_seqn, s5]
      obtain ⟨w9, w10, w13, q9, q10, q13, t2⟩ := t2
      obtain ⟨v8, v9, v10, v13, i1, i2, i3, i4, hh⟩ := ih (stepO (valE t b ss) p o) (stepO (valW t b ss) q o) (.dat (nT o)) w9 w10 w13 (fun v hv => ios v (List.mem_cons_of_mem _ hv)) rfl q9 q10 q13
      exact ⟨v8, v9, v10, v13, i1, i2, i3, i4, (forGo_cons t1 t2).trans hh⟩
  obtain ⟨z8, z9, z10, z13, q8, q9, q10, q13, L6⟩ := L6 (ordsL ss.length) none none .un .un .un .un (ords_ok gs.len) rfl rfl rfl rfl
  have ob0 : obD none = .none := rfl
  rw [ob0] at L6
  have so6 : fSortedTT (fCons (fCallN 1 F__law_orders (faCons (fLenV 3) faNil)) fNil) [.lst true xs5, .dat (tabD t), .dat (.int b), .dat (shsD ss), y4, .dat (nT oo), .dat .none, .dat .none, .un, .un, .un, .un, .un, .un, .un, .un, .un, .un, .un, .un, .un, .un, .un, .un] = .ok ((ordsL ss.length).map nT) [.lst true xs5, .dat (tabD t), .dat (.int b), .dat (shsD ss), y4, .dat (nT oo), .dat .none, .dat .none, .un, .un, .un, .un, .un, .un, .un, .un, .un, .un, .un, .un, .un, .un, .un, .un] := srt_ords gs.len _ _ _ (by simp only [ev_Asg, ev_Tup, ev_Cons, ev_Nil, ev_CallN, ev_CallK, ev_aOwn, ev_aCons, ev_aNil, ev_V, ev_C, ev_Op, ev_Un, ev_L, ev_Lst, ev_CB, ev_If, ev_Tst, ev_IfS, ev_OrT, ev_AndT, ev_NotT, ev_Drop, ev_Next, ev_Ret, ev_For, ev_Comp, ev_iSeq, ev_Rng1, ev_Rng2, ev_ok, ev_some, ev_oko, ev_osome, ev_gN, ev_pinU, ev_pinD, ev_pinL, ev_ownL, ev_ownD, ev_ownU, ev_callF, ev_oo0, ev_oo1, ev_oo2, ev_so0, ev_so1, ev_so2, ev_rep, ev_back, ev_oa0, ev_oa1, ev_oa2, ev_asB, noOwn, ev_wipe0, ev_wipe1, ev_rest0, ev_rest1, List.getElem?_cons_zero, List.getElem?_cons_succ, List.set_cons_succ, List.set_cons_zero, List.length_cons, List.length_nil, List.all_nil, List.all_cons, List.nil_append, List.cons_append, Option.map_some, Option.map_none, Option.bind_some, if_true, if_false, Bool.false_eq_true, Bool.not_false, Bool.not_true, Bool.and_true, Bool.true_and, Nat.zero_add, Nat.reduceAdd, gTupD, fgTup, fgCons, fgNil, ev_Chain, ev_Par, ev_Par3, ev_Own, ev_pinned, lv_pin, lv_own, ev_LenV, lenS, eo])
  -- the loop over orders
  refine exists_imp_step (seq_nx (e1 := [.lst true xs5, .dat (tabD t), .dat (.int b), .dat (shsD ss), y4, .dat (nT oo), .dat (obD ((ordsL ss.length).foldl (stepO (valE t b ss)) none)), .dat (obD ((ordsL ss.length).foldl (stepO (valW t b ss)) none)), z8, z9, z10, .un, .un, z13, .un, .un, .un, .un, .un, .un, .un, .un, .un, .un]) ?_) ?_
  · simp only [ev_Asg, ev_Tup, ev_Cons, ev_Nil, ev_CallN, ev_CallK, ev_aOwn, ev_aCons, ev_aNil, ev_V, ev_C, ev_Op, ev_Un, ev_L, ev_Lst, ev_CB, ev_If, ev_Tst, ev_IfS, ev_OrT, ev_AndT, ev_NotT, ev_Drop, ev_Next, ev_Ret, ev_For, ev_Comp, ev_iSeq, ev_Rng1, ev_Rng2, ev_ok, ev_some, ev_oko, ev_osome, ev_gN, ev_pinU, ev_pinD, ev_pinL, ev_ownL, ev_ownD, ev_ownU, ev_callF, ev_oo0, ev_oo1, ev_oo2, ev_so0, ev_so1, ev_so2, ev_rep, ev_back, ev_oa0, ev_oa1, ev_oa2, ev_asB, noOwn, ev_wipe0, ev_wipe1, ev_rest0, ev_rest1, List.getElem?_cons_zero, List.getElem?_cons_succ, List.set_cons_succ, List.set_cons_zero, List.length_cons, List.length_nil, List.all_nil, List.all_cons, List.nil_append, List.cons_append, Option.map_some, Option.map_none, Option.bind_some, if_true, if_false, Bool.false_eq_true, Bool.not_false, Bool.not_true, Bool.and_true, Bool.true_and, Nat.zero_add, Nat.reduceAdd, gTupD, fgTup, fgCons, fgNil, ev_Chain, ev_Par, ev_Par3, ev_Own, ev_pinned, lv_pin, lv_own, ev_LenV, so6, L6]
  have w_bo := e_best_order g hc hb gs
  have w_lw := e_least_waiting g hc hb gs
  have ne7 := obD_shaped ((ordsL ss.length).foldl (stepO (valE t b ss)) none)
  have ne7b := obD_shaped ((ordsL ss.length).foldl (stepO (valW t b ss)) none)
  -- best_order, least_waiting
  refine exists_imp_step (seq_nx (e1 := [.lst true xs5, .dat (tabD t), .dat (.int b), .dat (shsD ss), y4, .dat (nT oo), .dat (obD ((ordsL ss.length).foldl (stepO (valE t b ss)) none)), .dat (obD ((ordsL ss.length).foldl (stepO (valW t b ss)) none)), z8, z9, z10, .un, .un, z13, .un, .un, .un, .un, .un, .un, .un, .un, .un, .un]) ?_) ?_
  · simp only [ev_Asg, ev_Tup, ev_Cons, ev_Nil, ev_CallN, ev_CallK, ev_aOwn, ev_aCons, ev_aNil, ev_V, ev_C, ev_Op, ev_Un, ev_L, ev_Lst, ev_CB, ev_If, ev_Tst, ev_IfS, ev_OrT, ev_AndT, ev_NotT, ev_Drop, ev_Next, ev_Ret, ev_For, ev_Comp, ev_iSeq, ev_Rng1, ev_Rng2, ev_ok, ev_some, ev_oko, ev_osome, ev_gN, ev_pinU, ev_pinD, ev_pinL, ev_ownL, ev_ownD, ev_ownU, ev_callF, ev_oo0, ev_oo1, ev_oo2, ev_so0, ev_so1, ev_so2, ev_rep, ev_back, ev_oa0, ev_oa1, ev_oa2, ev_asB, noOwn, ev_wipe0, ev_wipe1, ev_rest0, ev_rest1, List.getElem?_cons_zero, List.getElem?_cons_succ, List.set_cons_succ, List.set_cons_zero, List.length_cons, List.length_nil, List.all_nil, List.all_cons, List.nil_append, List.cons_append, Option.map_some, Option.map_none, Option.bind_some, if_true, if_false, Bool.false_eq_true, Bool.not_false, Bool.not_true, Bool.and_true, Bool.true_and, Nat.zero_add, Nat.reduceAdd, gTupD, fgTup, fgCons, fgNil, ev_Chain, ev_Par, ev_Par3, ev_Own, ev_pinned, lv_pin, lv_own, ev_LenV, w_bo, w_lw, ne7, ne7b, and_self]
  -- around, most
  refine exists_imp_step (seq_nx (e1 := [.lst true xs5, .dat (tabD t), .dat (.int b), .dat (shsD ss), y4, .dat (nT oo), .dat (obD ((ordsL ss.length).foldl (stepO (valE t b ss)) none)), .dat (obD ((ordsL ss.length).foldl (stepO (valW t b ss)) none)), z8, z9, z10, .un, .un, z13, .dat (nI (cyc t)), .dat (.int 0), .un, .un, .un, .un, .un, .un, .un, .un]) ?_) ?_
  · simp only [ev_Asg, ev_Tup, ev_Cons, ev_Nil, ev_CallN, ev_CallK, ev_aOwn, ev_aCons, ev_aNil, ev_V, ev_C, ev_Op, ev_Un, ev_L, ev_Lst, ev_CB, ev_If, ev_Tst, ev_IfS, ev_OrT, ev_AndT, ev_NotT, ev_Drop, ev_Next, ev_Ret, ev_For, ev_Comp, ev_iSeq, ev_Rng1, ev_Rng2, ev_ok, ev_some, ev_oko, ev_osome, ev_gN, ev_pinU, ev_pinD, ev_pinL, ev_ownL, ev_ownD, ev_ownU, ev_callF, ev_oo0, ev_oo1, ev_oo2, ev_so0, ev_so1, ev_so2, ev_rep, ev_back, ev_oa0, ev_oa1, ev_oa2, ev_asB, noOwn, ev_wipe0, ev_wipe1, ev_rest0, ev_rest1, List.getElem?_cons_zero, List.getElem?_cons_succ, List.set_cons_succ, List.set_cons_zero, List.length_cons, List.length_nil, List.all_nil, List.all_cons, List.nil_append, List.cons_append, Option.map_some, Option.map_none, Option.bind_some, if_true, if_false, Bool.false_eq_true, Bool.not_false, Bool.not_true, Bool.and_true, Bool.true_and, Nat.zero_add, Nat.reduceAdd, gTupD, fgTup, fgCons, fgNil, ev_Chain, ev_Par, ev_Par3, ev_Own, ev_pinned, lv_pin, lv_own, ev_LenV, kc]
  obtain ⟨X, X100, w_lo, hX⟩ := e_longest g hc hb
  have L9 := forGo_RG (t := fgN 16) (f := (fIfS (fAndT (fTst (fOp gEq (fV 15) (fOp gDif (fV 16) (fC (.int 1))))) (fTst (fOp gGt (fCB gLen (fCons (fL (fComp (fRng1 (fCons (fV 14) fNil)) (fgN 17) (fTst (fCallN 4 F__law_lies (faCons (fV 1) (faCons (fV 2) (faCons (fV 17) (faCons (fV 16) faNil)))))) (fC (.int 1)) [17])) fNil)) (fC (.int 0))))) (fSet 15 (fV 16)) fNext)) (st := fun i : Nat => [.lst true xs5, .dat (tabD t), .dat (.int b), .dat (shsD ss), y4, .dat (nT oo), .dat (obD ((ordsL ss.length).foldl (stepO (valE t b ss)) none)), .dat (obD ((ordsL ss.length).foldl (stepO (valW t b ss)) none)), z8, z9, z10, .un, .un, z13, .dat (nI (cyc t)), .dat (nI (min i X)), lf (fun k => ((k + 1 : Nat) : Int)) i, .un, .un, .un, .un, .un, .un, .un]) (g := fun i : Nat => nI (i + 1)) (N := 100) fun i hi => by
    refine ⟨[.lst true xs5, .dat (tabD t), .dat (.int b), .dat (shsD ss), y4, .dat (nT oo), .dat (obD ((ordsL ss.length).foldl (stepO (valE t b ss)) none)), .dat (obD ((ordsL ss.length).foldl (stepO (valW t b ss)) none)), z8, z9, z10, .un, .un, z13, .dat (nI (cyc t)), .dat (nI (min i X)), .dat (nI (i + 1)), .un, .un, .un, .un, .un, .un, .un], by simp, ?_⟩
    show _ = Out.nx [.lst true xs5, .dat (tabD t), .dat (.int b), .dat (shsD ss), y4, .dat (nT oo), .dat (obD ((ordsL ss.length).foldl (stepO (valE t b ss)) none)), .dat (obD ((ordsL ss.length).foldl (stepO (valW t b ss)) none)), z8, z9, z10, .un, .un, z13, .dat (nI (cyc t)), .dat (nI (min (i + 1) X)), .dat (nI (i + 1)), .un, .un, .un, .un, .un, .un, .un]
    have ll : ∀ y : Int, F__law_lies [.dat (tabD t), .dat (.int b), .dat (.int y), .dat (nI (i + 1))] = .ok (.bool (liesB t b y (i + 1))) [.dat (tabD t), .dat (.int b), .dat (.int y), .dat (nI (i + 1))] := fun y => e_law_lies g b y (by omega)
    have C2 : compGo (fgN 17) (fTst (fCallN 4 F__law_lies (faCons (fV 1) (faCons (fV 2) (faCons (fV 17) (faCons (fV 16) faNil)))))) (fC (.int 1)) [17] ((List.range (cyc t)).map nI) [.lst true xs5, .dat (tabD t), .dat (.int b), .dat (shsD ss), y4, .dat (nT oo), .dat (obD ((ordsL ss.length).foldl (stepO (valE t b ss)) none)), .dat (obD ((ordsL ss.length).foldl (stepO (valW t b ss)) none)), z8, z9, z10, .un, .un, z13, .dat (nI (cyc t)), .dat (nI (min i X)), .dat (nI (i + 1)), .un, .un, .un, .un, .un, .un, .un] [] = .ok ([] ++ ((List.range (cyc t)).filter fun (j : Nat) => liesB t b (j : Int) (i + 1)).map fun (j : Nat) => .int 1) [.lst true xs5, .dat (tabD t), .dat (.int b), .dat (shsD ss), y4, .dat (nT oo), .dat (obD ((ordsL ss.length).foldl (stepO (valE t b ss)) none)), .dat (obD ((ordsL ss.length).foldl (stepO (valW t b ss)) none)), z8, z9, z10, .un, .un, z13, .dat (nI (cyc t)), .dat (nI (min i X)), .dat (nI (i + 1)), .un, .un, .un, .un, .un, .un, .un] := by
      refine compGo_FL (enc := nI) (b := fun (j : Nat) => liesB t b (j : Int) (i + 1)) (q := fun (j : Nat) => .int 1) (fun j _ => ?_) (by rw [sizeLine_eq]; simp; omega)
      exact ⟨[.lst true xs5, .dat (tabD t), .dat (.int b), .dat (shsD ss), y4, .dat (nT oo), .dat (obD ((ordsL ss.length).foldl (stepO (valE t b ss)) none)), .dat (obD ((ordsL ss.length).foldl (stepO (valW t b ss)) none)), z8, z9, z10, .un, .un, z13, .dat (nI (cyc t)), .dat (nI (min i X)), .dat (nI (i + 1)), .dat (nI j), .un, .un, .un, .un, .un, .un], [.lst true xs5, .dat (tabD t), .dat (.int b), .dat (shsD ss), y4, .dat (nT oo), .dat (obD ((ordsL ss.length).foldl (stepO (valE t b ss)) none)), .dat (obD ((ordsL ss.length).foldl (stepO (valW t b ss)) none)), z8, z9, z10, .un, .un, z13, .dat (nI (cyc t)), .dat (nI (min i X)), .dat (nI (i + 1)), .dat (nI j), .un, .un, .un, .un, .un, .un], by simp, by simp only [ev_Asg, ev_Tup, ev_Cons, ev_Nil, ev_CallN, ev_CallK, ev_aOwn, ev_aCons, ev_aNil, ev_V, ev_C, ev_Op, ev_Un, ev_L, ev_Lst, ev_CB, ev_If, ev_Tst, ev_IfS, ev_OrT, ev_AndT, ev_NotT, ev_Drop, ev_Next, ev_Ret, ev_For, ev_Comp, ev_iSeq, ev_Rng1, ev_Rng2, ev_ok, ev_some, ev_oko, ev_osome, ev_gN, ev_pinU, ev_pinD, ev_pinL, ev_ownL, ev_ownD, ev_ownU, ev_callF, ev_oo0, ev_oo1, ev_oo2, ev_so0, ev_so1, ev_so2, ev_rep, ev_back, ev_oa0, ev_oa1, ev_oa2, ev_asB, noOwn, ev_wipe0, ev_wipe1, ev_rest0, ev_rest1, List.getElem?_cons_zero, List.getElem?_cons_succ, List.set_cons_succ, List.set_cons_zero, List.length_cons, List.length_nil, List.all_nil, List.all_cons, List.nil_append, List.cons_append, Option.map_some, Option.map_none, Option.bind_some, if_true, if_false, Bool.false_eq_true, Bool.not_false, Bool.not_true, Bool.and_true, Bool.true_and, Nat.zero_add, Nat.reduceAdd, gTupD, fgTup, fgCons, fgNil, ev_Chain, ev_Par, ev_Par3, ev_Own, ev_pinned, lv_pin, lv_own, ev_LenV, ll], fun _ => by simp, fun _ => ⟨[.lst true xs5, .dat (tabD t), .dat (.int b), .dat (shsD ss), y4, .dat (nT oo), .dat (obD ((ordsL ss.length).foldl (stepO (valE t b ss)) none)), .dat (obD ((ordsL ss.length).foldl (stepO (valW t b ss)) none)), z8, z9, z10, .un, .un, z13, .dat (nI (cyc t)), .dat (nI (min i X)), .dat (nI (i + 1)), .dat (nI j), .un, .un, .un, .un, .un, .un], by simp only [ev_Asg, ev_Tup, ev_Cons, ev_Nil, ev_CallN, ev_CallK, ev_aOwn, ev_aCons, ev_aNil, ev_V, ev_C, ev_Op, ev_Un, ev_L, ev_Lst, ev_CB, ev_If, ev_Tst, ev_IfS, ev_OrT, ev_AndT, ev_NotT, ev_Drop, ev_Next, ev_Ret, ev_For, ev_Comp, ev_iSeq, ev_Rng1, ev_Rng2, ev_ok, ev_some, ev_oko, ev_osome, ev_gN, ev_pinU, ev_pinD, ev_pinL, ev_ownL, ev_ownD, ev_ownU, ev_callF, ev_oo0, ev_oo1, ev_oo2, ev_so0, ev_so1, ev_so2, ev_rep, ev_back, ev_oa0, ev_oa1, ev_oa2, ev_asB, noOwn, ev_wipe0, ev_wipe1, ev_rest0, ev_rest1, List.getElem?_cons_zero, List.getElem?_cons_succ, List.set_cons_succ, List.set_cons_zero, List.length_cons, List.length_nil, List.all_nil, List.all_cons, List.nil_append, List.cons_append, Option.map_some, Option.map_none, Option.bind_some, if_true, if_false, Bool.false_eq_true, Bool.not_false, Bool.not_true, Bool.and_true, Bool.true_and, Nat.zero_add, Nat.reduceAdd, gTupD, fgTup, fgCons, fgNil, ev_Chain, ev_Par, ev_Par3, ev_Own, ev_pinned, lv_pin, lv_own, ev_LenV, ll], by simp⟩⟩
    rw [List.nil_append] at C2
    have hx := hX (i + 1) (by omega)
    have ln : ∀ m : Nat, m = ((List.range (cyc t)).filter fun j : Nat => liesB t b (j : Int) (i + 1)).length → decide ((0 : Int) < (m : Int)) = decide (i + 1 ≤ X) := fun m hm => by
      rw [← hx]
      cases qa : (List.range (cyc t)).any fun j : Nat => liesB t b (j : Int) (i + 1)
      · have e : (List.range (cyc t)).filter (fun j : Nat => liesB t b (j : Int) (i + 1)) = [] := List.filter_eq_nil_iff.mpr fun j hj => by
          have := List.any_eq_false.mp qa j hj
          simpa using this
        rw [e, List.length_nil] at hm
        exact decide_eq_false (by omega)
      · obtain ⟨j, hj, hl⟩ := List.any_eq_true.mp qa
        have := List.length_pos_of_mem (List.mem_filter.mpr ⟨hj, hl⟩ : j ∈ (List.range (cyc t)).filter fun j : Nat => liesB t b (j : Int) (i + 1))
        exact decide_eq_true (by omega)
    have ln2 := ln _ (List.length_map (f := fun _ : Nat => PyData.int 1) (as := (List.range (cyc t)).filter fun j : Nat => liesB t b (j : Int) (i + 1)))
    have e1 : ((i + 1 : Nat) : Int) - 1 = (i : Int) := by omega
    by_cases c : i ≤ X
    · have k1 : ((((min i X : Nat)) : Int) == (i : Int)) = true := beq_iff_eq.mpr (by omega)
      by_cases c2 : i + 1 ≤ X
      · have em : min (i + 1) X = i + 1 := by omega
        rw [decide_eq_true c2] at ln2
        rw [em]
        simp only [ev_Asg, ev_Tup, ev_Cons, ev_Nil, ev_CallN, ev_CallK, ev_aOwn, ev_aCons, ev_aNil, ev_V, ev_C, ev_Op, ev_Un, ev_L, ev_Lst, ev_CB, ev_If, ev_Tst, ev_IfS, ev_OrT, ev_AndT, ev_NotT, ev_Drop, ev_Next, ev_Ret, ev_For, ev_Comp, ev_iSeq, ev_Rng1, ev_Rng2, ev_ok, ev_some, ev_oko, ev_osome, ev_gN, ev_pinU, ev_pinD, ev_pinL, ev_ownL, ev_ownD, ev_ownU, ev_callF, ev_oo0, ev_oo1, ev_oo2, ev_so0, ev_so1, ev_so2, ev_rep, ev_back, ev_oa0, ev_oa1, ev_oa2, ev_asB, noOwn, ev_wipe0, ev_wipe1, ev_rest0, ev_rest1, List.getElem?_cons_zero, List.getElem?_cons_succ, List.set_cons_succ, List.set_cons_zero, List.length_cons, List.length_nil, List.all_nil, List.all_cons, List.nil_append, List.cons_append, Option.map_some, Option.map_none, Option.bind_some, if_true, if_false, Bool.false_eq_true, Bool.not_false, Bool.not_true, Bool.and_true, Bool.true_and, Nat.zero_add, Nat.reduceAdd, gTupD, fgTup, fgCons, fgNil, ev_Chain, ev_Par, ev_Par3, ev_Own, ev_pinned, lv_pin, lv_own, ev_LenV, gDif, e1, gEq_int, k1, rN, rng_nat, C2, gLen, gCmp, ln2]
      · have em : min (i + 1) X = min i X := by omega
        rw [decide_eq_false c2] at ln2
        rw [em]
        simp only [ev_Asg, ev_Tup, ev_Cons, ev_Nil, ev_CallN, ev_CallK, ev_aOwn, ev_aCons, ev_aNil, ev_V, ev_C, ev_Op, ev_Un, ev_L, ev_Lst, ev_CB, ev_If, ev_Tst, ev_IfS, ev_OrT, ev_AndT, ev_NotT, ev_Drop, ev_Next, ev_Ret, ev_For, ev_Comp, ev_iSeq, ev_Rng1, ev_Rng2, ev_ok, ev_some, ev_oko, ev_osome, ev_gN, ev_pinU, ev_pinD, ev_pinL, ev_ownL, ev_ownD, ev_ownU, ev_callF, ev_oo0, ev_oo1, ev_oo2, ev_so0, ev_so1, ev_so2, ev_rep, ev_back, ev_oa0, ev_oa1, ev_oa2, ev_asB, noOwn, ev_wipe0, ev_wipe1, ev_rest0, ev_rest1, List.getElem?_cons_zero, List.getElem?_cons_succ, List.set_cons_succ, List.set_cons_zero, List.length_cons, List.length_nil, List.all_nil, List.all_cons, List.nil_append, List.cons_append, Option.map_some, Option.map_none, Option.bind_some, if_true, if_false, Bool.false_eq_true, Bool.not_false, Bool.not_true, Bool.and_true, Bool.true_and, Nat.zero_add, Nat.reduceAdd, gTupD, fgTup, fgCons, fgNil, ev_Chain, ev_Par, ev_Par3, ev_Own, ev_pinned, lv_pin, lv_own, ev_LenV, gDif, e1, gEq_int, k1, rN, rng_nat, C2, gLen, gCmp, ln2]
    · have k1 : ((((min i X : Nat)) : Int) == (i : Int)) = false := beq_eq_false_iff_ne.mpr (by omega)
      have em : min (i + 1) X = min i X := by omega
      rw [em]
      simp only [ev_Asg, ev_Tup, ev_Cons, ev_Nil, ev_CallN, ev_CallK, ev_aOwn, ev_aCons, ev_aNil, ev_V, ev_C, ev_Op, ev_Un, ev_L, ev_Lst, ev_CB, ev_If, ev_Tst, ev_IfS, ev_OrT, ev_AndT, ev_NotT, ev_Drop, ev_Next, ev_Ret, ev_For, ev_Comp, ev_iSeq, ev_Rng1, ev_Rng2, ev_ok, ev_some, ev_oko, ev_osome, ev_gN, ev_pinU, ev_pinD, ev_pinL, ev_ownL, ev_ownD, ev_ownU, ev_callF, ev_oo0, ev_oo1, ev_oo2, ev_so0, ev_so1, ev_so2, ev_rep, ev_back, ev_oa0, ev_oa1, ev_oa2, ev_asB, noOwn, ev_wipe0, ev_wipe1, ev_rest0, ev_rest1, List.getElem?_cons_zero, List.getElem?_cons_succ, List.set_cons_succ, List.set_cons_zero, List.length_cons, List.length_nil, List.all_nil, List.all_cons, List.nil_append, List.cons_append, Option.map_some, Option.map_none, Option.bind_some, if_true, if_false, Bool.false_eq_true, Bool.not_false, Bool.not_true, Bool.and_true, Bool.true_and, Nat.zero_add, Nat.reduceAdd, gTupD, fgTup, fgCons, fgNil, ev_Chain, ev_Par, ev_Par3, ev_Own, ev_pinned, lv_pin, lv_own, ev_LenV, gDif, e1, gEq_int, k1]
  have lf0 : lf (fun k => ((k + 1 : Nat) : Int)) 0 = .un := rfl
  have mi0 : nI (min 0 X) = .int 0 := by rw [Nat.zero_min]; rfl
  have L9 : _ = _ := L9
  rw [lf0, mi0] at L9
  have mi1 : min 100 X = X := by omega
  rw [mi1] at L9
  have r101 : (rgB 1 && rgB 101) = true := rfl
  have er : rng 1 ((101 : Int) - 1).toNat 1 = (List.range 100).map fun i : Nat => nI (i + 1) := by
    unfold rng
    refine List.map_congr_left fun i _ => ?_
    show PyData.int (1 + (i : Int) * 1) = PyData.int ((i + 1 : Nat) : Int)
    congr 1
    omega
  -- the loop of most
  refine exists_imp_step (seq_nx (e1 := [.lst true xs5, .dat (tabD t), .dat (.int b), .dat (shsD ss), y4, .dat (nT oo), .dat (obD ((ordsL ss.length).foldl (stepO (valE t b ss)) none)), .dat (obD ((ordsL ss.length).foldl (stepO (valW t b ss)) none)), z8, z9, z10, .un, .un, z13, .dat (nI (cyc t)), .dat (nI X), lf (fun k => ((k + 1 : Nat) : Int)) 100, .un, .un, .un, .un, .un, .un, .un]) ?_) ?_
  · simp only [ev_Asg, ev_Tup, ev_Cons, ev_Nil, ev_CallN, ev_CallK, ev_aOwn, ev_aCons, ev_aNil, ev_V, ev_C, ev_Op, ev_Un, ev_L, ev_Lst, ev_CB, ev_If, ev_Tst, ev_IfS, ev_OrT, ev_AndT, ev_NotT, ev_Drop, ev_Next, ev_Ret, ev_For, ev_Comp, ev_iSeq, ev_Rng1, ev_Rng2, ev_ok, ev_some, ev_oko, ev_osome, ev_gN, ev_pinU, ev_pinD, ev_pinL, ev_ownL, ev_ownD, ev_ownU, ev_callF, ev_oo0, ev_oo1, ev_oo2, ev_so0, ev_so1, ev_so2, ev_rep, ev_back, ev_oa0, ev_oa1, ev_oa2, ev_asB, noOwn, ev_wipe0, ev_wipe1, ev_rest0, ev_rest1, List.getElem?_cons_zero, List.getElem?_cons_succ, List.set_cons_succ, List.set_cons_zero, List.length_cons, List.length_nil, List.all_nil, List.all_cons, List.nil_append, List.cons_append, Option.map_some, Option.map_none, Option.bind_some, if_true, if_false, Bool.false_eq_true, Bool.not_false, Bool.not_true, Bool.and_true, Bool.true_and, Nat.zero_add, Nat.reduceAdd, gTupD, fgTup, fgCons, fgNil, ev_Chain, ev_Par, ev_Par3, ev_Own, ev_pinned, lv_pin, lv_own, ev_LenV, r101, er, L9]
  have ne10 : gNe (nI X) (nI X) = some (.bool false) := gNe_self rfl
  -- longest_ship
  refine exists_imp_step (seq_nx (e1 := [.lst true xs5, .dat (tabD t), .dat (.int b), .dat (shsD ss), y4, .dat (nT oo), .dat (obD ((ordsL ss.length).foldl (stepO (valE t b ss)) none)), .dat (obD ((ordsL ss.length).foldl (stepO (valW t b ss)) none)), z8, z9, z10, .un, .un, z13, .dat (nI (cyc t)), .dat (nI X), lf (fun k => ((k + 1 : Nat) : Int)) 100, .un, .un, .un, .un, .un, .un, .un]) ?_) ?_
  · simp only [ev_Asg, ev_Tup, ev_Cons, ev_Nil, ev_CallN, ev_CallK, ev_aOwn, ev_aCons, ev_aNil, ev_V, ev_C, ev_Op, ev_Un, ev_L, ev_Lst, ev_CB, ev_If, ev_Tst, ev_IfS, ev_OrT, ev_AndT, ev_NotT, ev_Drop, ev_Next, ev_Ret, ev_For, ev_Comp, ev_iSeq, ev_Rng1, ev_Rng2, ev_ok, ev_some, ev_oko, ev_osome, ev_gN, ev_pinU, ev_pinD, ev_pinL, ev_ownL, ev_ownD, ev_ownU, ev_callF, ev_oo0, ev_oo1, ev_oo2, ev_so0, ev_so1, ev_so2, ev_rep, ev_back, ev_oa0, ev_oa1, ev_oa2, ev_asB, noOwn, ev_wipe0, ev_wipe1, ev_rest0, ev_rest1, List.getElem?_cons_zero, List.getElem?_cons_succ, List.set_cons_succ, List.set_cons_zero, List.length_cons, List.length_nil, List.all_nil, List.all_cons, List.nil_append, List.cons_append, Option.map_some, Option.map_none, Option.bind_some, if_true, if_false, Bool.false_eq_true, Bool.not_false, Bool.not_true, Bool.and_true, Bool.true_and, Nat.zero_add, Nat.reduceAdd, gTupD, fgTup, fgCons, fgNil, ev_Chain, ev_Par, ev_Par3, ev_Own, ev_pinned, lv_pin, lv_own, ev_LenV, w_lo, ne10, and_self]
  obtain ⟨r2, xs6, f1, f2, f3, d6⟩ := e_roll (n := 99498) d5 9 (by decide) (by decide)
  obtain ⟨l, hl, l1', l9'⟩ : ∃ l : Nat, 1 + r2 = (l : Int) ∧ 1 ≤ l ∧ l ≤ 9 := ⟨(1 + r2).toNat, by omega, by omega, by omega⟩
  have w_hi := e_highest g hc (l := l) l1' (by omega)
  have rl2 : rgB (l : Int) = true := rgB_ok (by omega) (by omega)
  have kh := fun y : Int => e_law_height g y
  -- length
  refine exists_imp_step (seq_nx (e1 := [.lst true xs6, .dat (tabD t), .dat (.int b), .dat (shsD ss), y4, .dat (nT oo), .dat (obD ((ordsL ss.length).foldl (stepO (valE t b ss)) none)), .dat (obD ((ordsL ss.length).foldl (stepO (valW t b ss)) none)), z8, z9, z10, .un, .un, z13, .dat (nI (cyc t)), .dat (nI X), .dat (nI l), .un, .un, .un, .un, .un, .un, .un]) ?_) ?_
  · simp only [ev_Asg, ev_Tup, ev_Cons, ev_Nil, ev_CallN, ev_CallK, ev_aOwn, ev_aCons, ev_aNil, ev_V, ev_C, ev_Op, ev_Un, ev_L, ev_Lst, ev_CB, ev_If, ev_Tst, ev_IfS, ev_OrT, ev_AndT, ev_NotT, ev_Drop, ev_Next, ev_Ret, ev_For, ev_Comp, ev_iSeq, ev_Rng1, ev_Rng2, ev_ok, ev_some, ev_oko, ev_osome, ev_gN, ev_pinU, ev_pinD, ev_pinL, ev_ownL, ev_ownD, ev_ownU, ev_callF, ev_oo0, ev_oo1, ev_oo2, ev_so0, ev_so1, ev_so2, ev_rep, ev_back, ev_oa0, ev_oa1, ev_oa2, ev_asB, noOwn, ev_wipe0, ev_wipe1, ev_rest0, ev_rest1, List.getElem?_cons_zero, List.getElem?_cons_succ, List.set_cons_succ, List.set_cons_zero, List.length_cons, List.length_nil, List.all_nil, List.all_cons, List.nil_append, List.cons_append, Option.map_some, Option.map_none, Option.bind_some, if_true, if_false, Bool.false_eq_true, Bool.not_false, Bool.not_true, Bool.and_true, Bool.true_and, Nat.zero_add, Nat.reduceAdd, gTupD, fgTup, fgCons, fgNil, ev_Chain, ev_Par, ev_Par3, ev_Own, ev_pinned, lv_pin, lv_own, ev_LenV, f1, gAdd, hl, lf_pin, lf_own]
  have C4 : ∀ i : Nat, compGo (fgN 19) fYes (fCallN 2 F__law_height (faCons (fV 1) (faCons (fOp gAdd (fV 17) (fV 19)) faNil))) [19] ((List.range l).map nI) [.lst true xs6, .dat (tabD t), .dat (.int b), .dat (shsD ss), y4, .dat (nT oo), .dat (obD ((ordsL ss.length).foldl (stepO (valE t b ss)) none)), .dat (obD ((ordsL ss.length).foldl (stepO (valW t b ss)) none)), z8, z9, z10, .un, .un, z13, .dat (nI (cyc t)), .dat (nI X), .dat (nI l), .dat (nI i), .un, .un, .un, .un, .un, .un] [] = .ok (((List.range l).map fun k : Nat => height t ((i : Int) + (k : Int))).map .int) [.lst true xs6, .dat (tabD t), .dat (.int b), .dat (shsD ss), y4, .dat (nT oo), .dat (obD ((ordsL ss.length).foldl (stepO (valE t b ss)) none)), .dat (obD ((ordsL ss.length).foldl (stepO (valW t b ss)) none)), z8, z9, z10, .un, .un, z13, .dat (nI (cyc t)), .dat (nI X), .dat (nI l), .dat (nI i), .un, .un, .un, .un, .un, .un] := fun i => by
    have C : compGo (fgN 19) fYes (fCallN 2 F__law_height (faCons (fV 1) (faCons (fOp gAdd (fV 17) (fV 19)) faNil))) [19] ((List.range l).map nI) [.lst true xs6, .dat (tabD t), .dat (.int b), .dat (shsD ss), y4, .dat (nT oo), .dat (obD ((ordsL ss.length).foldl (stepO (valE t b ss)) none)), .dat (obD ((ordsL ss.length).foldl (stepO (valW t b ss)) none)), z8, z9, z10, .un, .un, z13, .dat (nI (cyc t)), .dat (nI X), .dat (nI l), .dat (nI i), .un, .un, .un, .un, .un, .un] [] = .ok ([] ++ (List.range l).map fun (k : Nat) => .int (height t ((i : Int) + (k : Int)))) [.lst true xs6, .dat (tabD t), .dat (.int b), .dat (shsD ss), y4, .dat (nT oo), .dat (obD ((ordsL ss.length).foldl (stepO (valE t b ss)) none)), .dat (obD ((ordsL ss.length).foldl (stepO (valW t b ss)) none)), z8, z9, z10, .un, .un, z13, .dat (nI (cyc t)), .dat (nI X), .dat (nI l), .dat (nI i), .un, .un, .un, .un, .un, .un] := by
      refine compGo_L (enc := nI) (q := fun (k : Nat) => .int (height t ((i : Int) + (k : Int)))) (fun k _ => ?_) (by rw [sizeLine_eq]; simp; omega)
      exact ⟨[.lst true xs6, .dat (tabD t), .dat (.int b), .dat (shsD ss), y4, .dat (nT oo), .dat (obD ((ordsL ss.length).foldl (stepO (valE t b ss)) none)), .dat (obD ((ordsL ss.length).foldl (stepO (valW t b ss)) none)), z8, z9, z10, .un, .un, z13, .dat (nI (cyc t)), .dat (nI X), .dat (nI l), .dat (nI i), .un, .dat (nI k), .un, .un, .un, .un], [.lst true xs6, .dat (tabD t), .dat (.int b), .dat (shsD ss), y4, .dat (nT oo), .dat (obD ((ordsL ss.length).foldl (stepO (valE t b ss)) none)), .dat (obD ((ordsL ss.length).foldl (stepO (valW t b ss)) none)), z8, z9, z10, .un, .un, z13, .dat (nI (cyc t)), .dat (nI X), .dat (nI l), .dat (nI i), .un, .dat (nI k), .un, .un, .un, .un], by simp, by simp only [ev_Asg, ev_Tup, ev_Cons, ev_Nil, ev_CallN, ev_CallK, ev_aOwn, ev_aCons, ev_aNil, ev_V, ev_C, ev_Op, ev_Un, ev_L, ev_Lst, ev_CB, ev_If, ev_Tst, ev_IfS, ev_OrT, ev_AndT, ev_NotT, ev_Drop, ev_Next, ev_Ret, ev_For, ev_Comp, ev_iSeq, ev_Rng1, ev_Rng2, ev_ok, ev_some, ev_oko, ev_osome, ev_gN, ev_pinU, ev_pinD, ev_pinL, ev_ownL, ev_ownD, ev_ownU, ev_callF, ev_oo0, ev_oo1, ev_oo2, ev_so0, ev_so1, ev_so2, ev_rep, ev_back, ev_oa0, ev_oa1, ev_oa2, ev_asB, noOwn, ev_wipe0, ev_wipe1, ev_rest0, ev_rest1, List.getElem?_cons_zero, List.getElem?_cons_succ, List.set_cons_succ, List.set_cons_zero, List.length_cons, List.length_nil, List.all_nil, List.all_cons, List.nil_append, List.cons_append, Option.map_some, Option.map_none, Option.bind_some, if_true, if_false, Bool.false_eq_true, Bool.not_false, Bool.not_true, Bool.and_true, Bool.true_and, Nat.zero_add, Nat.reduceAdd, gTupD, fgTup, fgCons, fgNil, ev_Chain, ev_Par, ev_Par3, ev_Own, ev_pinned, lv_pin, lv_own, ev_LenV, gAdd, kh], by simp⟩
    rw [List.nil_append] at C
    rw [C, List.map_map]
    rfl
  have C3 : compGo (fgN 17) fYes (fCB gMin (fCons (fL (fComp (fRng1 (fCons (fV 16) fNil)) (fgN 19) fYes (fCallN 2 F__law_height (faCons (fV 1) (faCons (fOp gAdd (fV 17) (fV 19)) faNil))) [19])) fNil)) [17] ((List.range (cyc t)).map nI) [.lst true xs6, .dat (tabD t), .dat (.int b), .dat (shsD ss), y4, .dat (nT oo), .dat (obD ((ordsL ss.length).foldl (stepO (valE t b ss)) none)), .dat (obD ((ordsL ss.length).foldl (stepO (valW t b ss)) none)), z8, z9, z10, .un, .un, z13, .dat (nI (cyc t)), .dat (nI X), .dat (nI l), .un, .un, .un, .un, .un, .un, .un] [] = .ok ([] ++ (List.range (cyc t)).map fun (i : Nat) => .int (minL ((List.range l).map fun k : Nat => height t ((i : Int) + (k : Int))))) [.lst true xs6, .dat (tabD t), .dat (.int b), .dat (shsD ss), y4, .dat (nT oo), .dat (obD ((ordsL ss.length).foldl (stepO (valE t b ss)) none)), .dat (obD ((ordsL ss.length).foldl (stepO (valW t b ss)) none)), z8, z9, z10, .un, .un, z13, .dat (nI (cyc t)), .dat (nI X), .dat (nI l), .un, .un, .un, .un, .un, .un, .un] := by
    refine compGo_L (enc := nI) (q := fun (i : Nat) => .int (minL ((List.range l).map fun k : Nat => height t ((i : Int) + (k : Int))))) (fun i _ => ?_) (by rw [sizeLine_eq]; simp; omega)
    exact ⟨[.lst true xs6, .dat (tabD t), .dat (.int b), .dat (shsD ss), y4, .dat (nT oo), .dat (obD ((ordsL ss.length).foldl (stepO (valE t b ss)) none)), .dat (obD ((ordsL ss.length).foldl (stepO (valW t b ss)) none)), z8, z9, z10, .un, .un, z13, .dat (nI (cyc t)), .dat (nI X), .dat (nI l), .dat (nI i), .un, .un, .un, .un, .un, .un], [.lst true xs6, .dat (tabD t), .dat (.int b), .dat (shsD ss), y4, .dat (nT oo), .dat (obD ((ordsL ss.length).foldl (stepO (valE t b ss)) none)), .dat (obD ((ordsL ss.length).foldl (stepO (valW t b ss)) none)), z8, z9, z10, .un, .un, z13, .dat (nI (cyc t)), .dat (nI X), .dat (nI l), .dat (nI i), .un, .un, .un, .un, .un, .un], by simp, by simp only [ev_Asg, ev_Tup, ev_Cons, ev_Nil, ev_CallN, ev_CallK, ev_aOwn, ev_aCons, ev_aNil, ev_V, ev_C, ev_Op, ev_Un, ev_L, ev_Lst, ev_CB, ev_If, ev_Tst, ev_IfS, ev_OrT, ev_AndT, ev_NotT, ev_Drop, ev_Next, ev_Ret, ev_For, ev_Comp, ev_iSeq, ev_Rng1, ev_Rng2, ev_ok, ev_some, ev_oko, ev_osome, ev_gN, ev_pinU, ev_pinD, ev_pinL, ev_ownL, ev_ownD, ev_ownU, ev_callF, ev_oo0, ev_oo1, ev_oo2, ev_so0, ev_so1, ev_so2, ev_rep, ev_back, ev_oa0, ev_oa1, ev_oa2, ev_asB, noOwn, ev_wipe0, ev_wipe1, ev_rest0, ev_rest1, List.getElem?_cons_zero, List.getElem?_cons_succ, List.set_cons_succ, List.set_cons_zero, List.length_cons, List.length_nil, List.all_nil, List.all_cons, List.nil_append, List.cons_append, Option.map_some, Option.map_none, Option.bind_some, if_true, if_false, Bool.false_eq_true, Bool.not_false, Bool.not_true, Bool.and_true, Bool.true_and, Nat.zero_add, Nat.reduceAdd, gTupD, fgTup, fgCons, fgNil, ev_Chain, ev_Par, ev_Par3, ev_Own, ev_pinned, lv_pin, lv_own, ev_LenV, rl2, rng_nat, C4 i, gMin_ints (lows_ne (t := t) l1' i)], by simp⟩
  rw [List.nil_append] at C3
  rw [show ((List.range (cyc t)).map fun (i : Nat) => PyData.int (minL ((List.range l).map fun k : Nat => height t ((i : Int) + (k : Int))))) = (hbL t l (cyc t)).map .int by rw [hbL, List.map_map]; rfl] at C3
  have nel : hbL t l (cyc t) ≠ [] := fun z => by
    have := congrArg List.length z
    rw [hbL, List.length_map, List.length_range, List.length_nil] at this
    omega
  have gml := gMax_ints nel
  have ne13 : gNe (.int (maxL (hbL t l (cyc t)))) (.int (maxL (hbL t l (cyc t)))) = some (.bool false) := gNe_self rfl
  -- lows
  refine exists_imp_step (seq_nx (e1 := [.lst true xs6, .dat (tabD t), .dat (.int b), .dat (shsD ss), y4, .dat (nT oo), .dat (obD ((ordsL ss.length).foldl (stepO (valE t b ss)) none)), .dat (obD ((ordsL ss.length).foldl (stepO (valW t b ss)) none)), z8, z9, z10, .un, .un, z13, .dat (nI (cyc t)), .dat (nI X), .dat (nI l), .un, .dat (iL (hbL t l (cyc t))), .un, .un, .un, .un, .un]) ?_) ?_
  · simp only [ev_Asg, ev_Tup, ev_Cons, ev_Nil, ev_CallN, ev_CallK, ev_aOwn, ev_aCons, ev_aNil, ev_V, ev_C, ev_Op, ev_Un, ev_L, ev_Lst, ev_CB, ev_If, ev_Tst, ev_IfS, ev_OrT, ev_AndT, ev_NotT, ev_Drop, ev_Next, ev_Ret, ev_For, ev_Comp, ev_iSeq, ev_Rng1, ev_Rng2, ev_ok, ev_some, ev_oko, ev_osome, ev_gN, ev_pinU, ev_pinD, ev_pinL, ev_ownL, ev_ownD, ev_ownU, ev_callF, ev_oo0, ev_oo1, ev_oo2, ev_so0, ev_so1, ev_so2, ev_rep, ev_back, ev_oa0, ev_oa1, ev_oa2, ev_asB, noOwn, ev_wipe0, ev_wipe1, ev_rest0, ev_rest1, List.getElem?_cons_zero, List.getElem?_cons_succ, List.set_cons_succ, List.set_cons_zero, List.length_cons, List.length_nil, List.all_nil, List.all_cons, List.nil_append, List.cons_append, Option.map_some, Option.map_none, Option.bind_some, if_true, if_false, Bool.false_eq_true, Bool.not_false, Bool.not_true, Bool.and_true, Bool.true_and, Nat.zero_add, Nat.reduceAdd, gTupD, fgTup, fgCons, fgNil, ev_Chain, ev_Par, ev_Par3, ev_Own, ev_pinned, lv_pin, lv_own, ev_LenV, rN, rng_nat, C3]
  -- highest_bar
  refine exists_imp_step (seq_nx (e1 := [.lst true xs6, .dat (tabD t), .dat (.int b), .dat (shsD ss), y4, .dat (nT oo), .dat (obD ((ordsL ss.length).foldl (stepO (valE t b ss)) none)), .dat (obD ((ordsL ss.length).foldl (stepO (valW t b ss)) none)), z8, z9, z10, .un, .un, z13, .dat (nI (cyc t)), .dat (nI X), .dat (nI l), .un, .dat (iL (hbL t l (cyc t))), .un, .un, .un, .un, .un]) ?_) ?_
  · simp only [ev_Asg, ev_Tup, ev_Cons, ev_Nil, ev_CallN, ev_CallK, ev_aOwn, ev_aCons, ev_aNil, ev_V, ev_C, ev_Op, ev_Un, ev_L, ev_Lst, ev_CB, ev_If, ev_Tst, ev_IfS, ev_OrT, ev_AndT, ev_NotT, ev_Drop, ev_Next, ev_Ret, ev_For, ev_Comp, ev_iSeq, ev_Rng1, ev_Rng2, ev_ok, ev_some, ev_oko, ev_osome, ev_gN, ev_pinU, ev_pinD, ev_pinL, ev_ownL, ev_ownD, ev_ownU, ev_callF, ev_oo0, ev_oo1, ev_oo2, ev_so0, ev_so1, ev_so2, ev_rep, ev_back, ev_oa0, ev_oa1, ev_oa2, ev_asB, noOwn, ev_wipe0, ev_wipe1, ev_rest0, ev_rest1, List.getElem?_cons_zero, List.getElem?_cons_succ, List.set_cons_succ, List.set_cons_zero, List.length_cons, List.length_nil, List.all_nil, List.all_cons, List.nil_append, List.cons_append, Option.map_some, Option.map_none, Option.bind_some, if_true, if_false, Bool.false_eq_true, Bool.not_false, Bool.not_true, Bool.and_true, Bool.true_and, Nat.zero_add, Nat.reduceAdd, gTupD, fgTup, fgCons, fgNil, ev_Chain, ev_Par, ev_Par3, ev_Own, ev_pinned, lv_pin, lv_own, ev_LenV, w_hi, gml, ne13, and_self]
  obtain ⟨bad, xs7, p1, p2, d7⟩ := e_pick (n := 99497) d6 badS (by simp [badS]) (by simp [badS])
  have hbad := bad_ships p2
  unfold badS at p1
  have g6 : gMul (.tuple [.tuple [.int 1, .int 1]]) (.int 6) = some (.tuple (List.replicate (6 : Int).toNat [PyData.tuple [.int 1, .int 1]]).flatten) := rfl
  -- bad
  refine exists_imp_step (seq_nx (e1 := [.lst true xs7, .dat (tabD t), .dat (.int b), .dat (shsD ss), y4, .dat (nT oo), .dat (obD ((ordsL ss.length).foldl (stepO (valE t b ss)) none)), .dat (obD ((ordsL ss.length).foldl (stepO (valW t b ss)) none)), z8, z9, z10, .un, .un, z13, .dat (nI (cyc t)), .dat (nI X), .dat (nI l), .un, .dat (iL (hbL t l (cyc t))), .un, .dat bad, .un, .un, .un]) ?_) ?_
  · simp only [ev_Asg, ev_Tup, ev_Cons, ev_Nil, ev_CallN, ev_CallK, ev_aOwn, ev_aCons, ev_aNil, ev_V, ev_C, ev_Op, ev_Un, ev_L, ev_Lst, ev_CB, ev_If, ev_Tst, ev_IfS, ev_OrT, ev_AndT, ev_NotT, ev_Drop, ev_Next, ev_Ret, ev_For, ev_Comp, ev_iSeq, ev_Rng1, ev_Rng2, ev_ok, ev_some, ev_oko, ev_osome, ev_gN, ev_pinU, ev_pinD, ev_pinL, ev_ownL, ev_ownD, ev_ownU, ev_callF, ev_oo0, ev_oo1, ev_oo2, ev_so0, ev_so1, ev_so2, ev_rep, ev_back, ev_oa0, ev_oa1, ev_oa2, ev_asB, noOwn, ev_wipe0, ev_wipe1, ev_rest0, ev_rest1, List.getElem?_cons_zero, List.getElem?_cons_succ, List.set_cons_succ, List.set_cons_zero, List.length_cons, List.length_nil, List.all_nil, List.all_cons, List.nil_append, List.cons_append, Option.map_some, Option.map_none, Option.bind_some, if_true, if_false, Bool.false_eq_true, Bool.not_false, Bool.not_true, Bool.and_true, Bool.true_and, Nat.zero_add, Nat.reduceAdd, gTupD, fgTup, fgCons, fgNil, ev_Chain, ev_Par, ev_Par3, ev_Own, ev_pinned, lv_pin, lv_own, ev_LenV, l0, l1, l2, l8, g6, gNeg, Int.reduceNeg, p1]
  have z59 : gMul (.tuple [.int 0]) (.int 59) = some (whD (zs 59)) := gM_zs (n := 59) (by decide) (by decide)
  have z58 : gMul (.tuple [.int 0]) (.int 58) = some (whD (zs 58)) := gM_zs (n := 58) (by decide) (by decide)
  have z57 : gMul (.tuple [.int 0]) (.int 57) = some (whD (zs 57)) := gM_zs (n := 57) (by decide) (by decide)
  -- long
  refine exists_imp_step (seq_nx (e1 := [.lst true xs7, .dat (tabD t), .dat (.int b), .dat (shsD ss), y4, .dat (nT oo), .dat (obD ((ordsL ss.length).foldl (stepO (valE t b ss)) none)), .dat (obD ((ordsL ss.length).foldl (stepO (valW t b ss)) none)), z8, z9, z10, .un, .un, z13, .dat (nI (cyc t)), .dat (nI X), .dat (nI l), .un, .dat (iL (hbL t l (cyc t))), .un, .dat bad, .dat (tabD longT), .un, .un]) ?_) ?_
  · simp only [ev_Asg, ev_Tup, ev_Cons, ev_Nil, ev_CallN, ev_CallK, ev_aOwn, ev_aCons, ev_aNil, ev_V, ev_C, ev_Op, ev_Un, ev_L, ev_Lst, ev_CB, ev_If, ev_Tst, ev_IfS, ev_OrT, ev_AndT, ev_NotT, ev_Drop, ev_Next, ev_Ret, ev_For, ev_Comp, ev_iSeq, ev_Rng1, ev_Rng2, ev_ok, ev_some, ev_oko, ev_osome, ev_gN, ev_pinU, ev_pinD, ev_pinL, ev_ownL, ev_ownD, ev_ownU, ev_callF, ev_oo0, ev_oo1, ev_oo2, ev_so0, ev_so1, ev_so2, ev_rep, ev_back, ev_oa0, ev_oa1, ev_oa2, ev_asB, noOwn, ev_wipe0, ev_wipe1, ev_rest0, ev_rest1, List.getElem?_cons_zero, List.getElem?_cons_succ, List.set_cons_succ, List.set_cons_zero, List.length_cons, List.length_nil, List.all_nil, List.all_cons, List.nil_append, List.cons_append, Option.map_some, Option.map_none, Option.bind_some, if_true, if_false, Bool.false_eq_true, Bool.not_false, Bool.not_true, Bool.and_true, Bool.true_and, Nat.zero_add, Nat.reduceAdd, gTupD, fgTup, fgCons, fgNil, ev_Chain, ev_Par, ev_Par3, ev_Own, ev_pinned, lv_pin, lv_own, ev_LenV, l1, l3, z59, z58, z57, long_eq]
  have rk4 : rgOkB ((ss.length : Int) + 1) = true := by
    unfold rgOkB
    rw [decide_eq_true (by omega), decide_eq_true (by omega)]
    rfl
  have swd := sh_wide n_table good_long long_cyc
  have k0 := st_nd (o := .none) (nd_sh (b := .none) (s := .none) swd)
  have k1 := st_nd (o := .none) (nd_bar g hc (b := .none) (s := .none) rfl)
  have k2 := st_nd (o := .none) (nd_ships g hc hb hbad)
  have k3 := st_ord g hc hb gs
  have k4 := bo_nd (nd_ships g hc hb hbad)
  have k5 := lw_nd (nd_sh (d := .none) (b := .int b) (s := shsD ss) (sh_bad n_table rfl))
  have k6 := lo_bar g hc
  have k7 := hi_len g hc
  have k8 := hb_sh (b := .int 1) swd
  have g7 : gPow (.int 10) (.int 7) = some (.int 10000000) := rfl
  have g71 : gAdd (.int 10000000) (.int 1) = some (.int 10000001) := rfl
  have gl1 : gAdd (nI ss.length) (.int 1) = some (.int ((ss.length : Int) + 1)) := rfl
  have q0 : (fRef 0 (fCallN 4 F_starts (faCons (fV 21) (faCons (fC .none) (faCons (fC .none) (faCons (fC .none) faNil)))))) [.lst true xs7, .dat (tabD t), .dat (.int b), .dat (shsD ss), y4, .dat (nT oo), .dat (obD ((ordsL ss.length).foldl (stepO (valE t b ss)) none)), .dat (obD ((ordsL ss.length).foldl (stepO (valW t b ss)) none)), z8, z9, z10, .un, .un, z13, .dat (nI (cyc t)), .dat (nI X), .dat (nI l), .un, .dat (iL (hbL t l (cyc t))), .un, .dat bad, .dat (tabD longT), .un, .un] = .ok (.str "table") [.lst true xs7, .dat (tabD t), .dat (.int b), .dat (shsD ss), y4, .dat (nT oo), .dat (obD ((ordsL ss.length).foldl (stepO (valE t b ss)) none)), .dat (obD ((ordsL ss.length).foldl (stepO (valW t b ss)) none)), z8, z9, z10, .un, .un, z13, .dat (nI (cyc t)), .dat (nI X), .dat (nI l), .un, .dat (iL (hbL t l (cyc t))), .un, .dat bad, .dat (tabD longT), .un, .un] := by simp only [ev_Asg, ev_Tup, ev_Cons, ev_Nil, ev_CallN, ev_CallK, ev_aOwn, ev_aCons, ev_aNil, ev_V, ev_C, ev_Op, ev_Un, ev_L, ev_Lst, ev_CB, ev_If, ev_Tst, ev_IfS, ev_OrT, ev_AndT, ev_NotT, ev_Drop, ev_Next, ev_Ret, ev_For, ev_Comp, ev_iSeq, ev_Rng1, ev_Rng2, ev_ok, ev_some, ev_oko, ev_osome, ev_gN, ev_pinU, ev_pinD, ev_pinL, ev_ownL, ev_ownD, ev_ownU, ev_callF, ev_oo0, ev_oo1, ev_oo2, ev_so0, ev_so1, ev_so2, ev_rep, ev_back, ev_oa0, ev_oa1, ev_oa2, ev_asB, noOwn, ev_wipe0, ev_wipe1, ev_rest0, ev_rest1, List.getElem?_cons_zero, List.getElem?_cons_succ, List.set_cons_succ, List.set_cons_zero, List.length_cons, List.length_nil, List.all_nil, List.all_cons, List.nil_append, List.cons_append, Option.map_some, Option.map_none, Option.bind_some, if_true, if_false, Bool.false_eq_true, Bool.not_false, Bool.not_true, Bool.and_true, Bool.true_and, Nat.zero_add, Nat.reduceAdd, gTupD, fgTup, fgCons, fgNil, ev_Chain, ev_Par, ev_Par3, ev_Own, ev_pinned, lv_pin, lv_own, ev_LenV, ev_Ref, ev_exb, ev_exo, k0, g7, g71, lenS, gl1, ev_TupRg, rk4]
  have q1 : (fRef 0 (fCallN 4 F_starts (faCons (fV 1) (faCons (fC .none) (faCons (fC .none) (faCons (fC .none) faNil)))))) [.lst true xs7, .dat (tabD t), .dat (.int b), .dat (shsD ss), y4, .dat (nT oo), .dat (obD ((ordsL ss.length).foldl (stepO (valE t b ss)) none)), .dat (obD ((ordsL ss.length).foldl (stepO (valW t b ss)) none)), z8, z9, z10, .un, .un, z13, .dat (nI (cyc t)), .dat (nI X), .dat (nI l), .un, .dat (iL (hbL t l (cyc t))), .un, .dat bad, .dat (tabD longT), .un, .un] = .ok (.str "bar") [.lst true xs7, .dat (tabD t), .dat (.int b), .dat (shsD ss), y4, .dat (nT oo), .dat (obD ((ordsL ss.length).foldl (stepO (valE t b ss)) none)), .dat (obD ((ordsL ss.length).foldl (stepO (valW t b ss)) none)), z8, z9, z10, .un, .un, z13, .dat (nI (cyc t)), .dat (nI X), .dat (nI l), .un, .dat (iL (hbL t l (cyc t))), .un, .dat bad, .dat (tabD longT), .un, .un] := by simp only [ev_Asg, ev_Tup, ev_Cons, ev_Nil, ev_CallN, ev_CallK, ev_aOwn, ev_aCons, ev_aNil, ev_V, ev_C, ev_Op, ev_Un, ev_L, ev_Lst, ev_CB, ev_If, ev_Tst, ev_IfS, ev_OrT, ev_AndT, ev_NotT, ev_Drop, ev_Next, ev_Ret, ev_For, ev_Comp, ev_iSeq, ev_Rng1, ev_Rng2, ev_ok, ev_some, ev_oko, ev_osome, ev_gN, ev_pinU, ev_pinD, ev_pinL, ev_ownL, ev_ownD, ev_ownU, ev_callF, ev_oo0, ev_oo1, ev_oo2, ev_so0, ev_so1, ev_so2, ev_rep, ev_back, ev_oa0, ev_oa1, ev_oa2, ev_asB, noOwn, ev_wipe0, ev_wipe1, ev_rest0, ev_rest1, List.getElem?_cons_zero, List.getElem?_cons_succ, List.set_cons_succ, List.set_cons_zero, List.length_cons, List.length_nil, List.all_nil, List.all_cons, List.nil_append, List.cons_append, Option.map_some, Option.map_none, Option.bind_some, if_true, if_false, Bool.false_eq_true, Bool.not_false, Bool.not_true, Bool.and_true, Bool.true_and, Nat.zero_add, Nat.reduceAdd, gTupD, fgTup, fgCons, fgNil, ev_Chain, ev_Par, ev_Par3, ev_Own, ev_pinned, lv_pin, lv_own, ev_LenV, ev_Ref, ev_exb, ev_exo, k1, g7, g71, lenS, gl1, ev_TupRg, rk4]
  have q2 : (fRef 0 (fCallN 4 F_starts (faCons (fV 1) (faCons (fV 2) (faCons (fV 20) (faCons (fC .none) faNil)))))) [.lst true xs7, .dat (tabD t), .dat (.int b), .dat (shsD ss), y4, .dat (nT oo), .dat (obD ((ordsL ss.length).foldl (stepO (valE t b ss)) none)), .dat (obD ((ordsL ss.length).foldl (stepO (valW t b ss)) none)), z8, z9, z10, .un, .un, z13, .dat (nI (cyc t)), .dat (nI X), .dat (nI l), .un, .dat (iL (hbL t l (cyc t))), .un, .dat bad, .dat (tabD longT), .un, .un] = .ok (.str "ships") [.lst true xs7, .dat (tabD t), .dat (.int b), .dat (shsD ss), y4, .dat (nT oo), .dat (obD ((ordsL ss.length).foldl (stepO (valE t b ss)) none)), .dat (obD ((ordsL ss.length).foldl (stepO (valW t b ss)) none)), z8, z9, z10, .un, .un, z13, .dat (nI (cyc t)), .dat (nI X), .dat (nI l), .un, .dat (iL (hbL t l (cyc t))), .un, .dat bad, .dat (tabD longT), .un, .un] := by simp only [ev_Asg, ev_Tup, ev_Cons, ev_Nil, ev_CallN, ev_CallK, ev_aOwn, ev_aCons, ev_aNil, ev_V, ev_C, ev_Op, ev_Un, ev_L, ev_Lst, ev_CB, ev_If, ev_Tst, ev_IfS, ev_OrT, ev_AndT, ev_NotT, ev_Drop, ev_Next, ev_Ret, ev_For, ev_Comp, ev_iSeq, ev_Rng1, ev_Rng2, ev_ok, ev_some, ev_oko, ev_osome, ev_gN, ev_pinU, ev_pinD, ev_pinL, ev_ownL, ev_ownD, ev_ownU, ev_callF, ev_oo0, ev_oo1, ev_oo2, ev_so0, ev_so1, ev_so2, ev_rep, ev_back, ev_oa0, ev_oa1, ev_oa2, ev_asB, noOwn, ev_wipe0, ev_wipe1, ev_rest0, ev_rest1, List.getElem?_cons_zero, List.getElem?_cons_succ, List.set_cons_succ, List.set_cons_zero, List.length_cons, List.length_nil, List.all_nil, List.all_cons, List.nil_append, List.cons_append, Option.map_some, Option.map_none, Option.bind_some, if_true, if_false, Bool.false_eq_true, Bool.not_false, Bool.not_true, Bool.and_true, Bool.true_and, Nat.zero_add, Nat.reduceAdd, gTupD, fgTup, fgCons, fgNil, ev_Chain, ev_Par, ev_Par3, ev_Own, ev_pinned, lv_pin, lv_own, ev_LenV, ev_Ref, ev_exb, ev_exo, k2, g7, g71, lenS, gl1, ev_TupRg, rk4]
  have q3 : (fRef 0 (fCallN 4 F_starts (faCons (fV 1) (faCons (fV 2) (faCons (fV 3) (faCons (fTupRg (fOp gAdd (fLenV 3) (fC (.int 1)))) faNil)))))) [.lst true xs7, .dat (tabD t), .dat (.int b), .dat (shsD ss), y4, .dat (nT oo), .dat (obD ((ordsL ss.length).foldl (stepO (valE t b ss)) none)), .dat (obD ((ordsL ss.length).foldl (stepO (valW t b ss)) none)), z8, z9, z10, .un, .un, z13, .dat (nI (cyc t)), .dat (nI X), .dat (nI l), .un, .dat (iL (hbL t l (cyc t))), .un, .dat bad, .dat (tabD longT), .un, .un] = .ok (.str "order") [.lst true xs7, .dat (tabD t), .dat (.int b), .dat (shsD ss), y4, .dat (nT oo), .dat (obD ((ordsL ss.length).foldl (stepO (valE t b ss)) none)), .dat (obD ((ordsL ss.length).foldl (stepO (valW t b ss)) none)), z8, z9, z10, .un, .un, z13, .dat (nI (cyc t)), .dat (nI X), .dat (nI l), .un, .dat (iL (hbL t l (cyc t))), .un, .dat bad, .dat (tabD longT), .un, .un] := by simp only [ev_Asg, ev_Tup, ev_Cons, ev_Nil, ev_CallN, ev_CallK, ev_aOwn, ev_aCons, ev_aNil, ev_V, ev_C, ev_Op, ev_Un, ev_L, ev_Lst, ev_CB, ev_If, ev_Tst, ev_IfS, ev_OrT, ev_AndT, ev_NotT, ev_Drop, ev_Next, ev_Ret, ev_For, ev_Comp, ev_iSeq, ev_Rng1, ev_Rng2, ev_ok, ev_some, ev_oko, ev_osome, ev_gN, ev_pinU, ev_pinD, ev_pinL, ev_ownL, ev_ownD, ev_ownU, ev_callF, ev_oo0, ev_oo1, ev_oo2, ev_so0, ev_so1, ev_so2, ev_rep, ev_back, ev_oa0, ev_oa1, ev_oa2, ev_asB, noOwn, ev_wipe0, ev_wipe1, ev_rest0, ev_rest1, List.getElem?_cons_zero, List.getElem?_cons_succ, List.set_cons_succ, List.set_cons_zero, List.length_cons, List.length_nil, List.all_nil, List.all_cons, List.nil_append, List.cons_append, Option.map_some, Option.map_none, Option.bind_some, if_true, if_false, Bool.false_eq_true, Bool.not_false, Bool.not_true, Bool.and_true, Bool.true_and, Nat.zero_add, Nat.reduceAdd, gTupD, fgTup, fgCons, fgNil, ev_Chain, ev_Par, ev_Par3, ev_Own, ev_pinned, lv_pin, lv_own, ev_LenV, ev_Ref, ev_exb, ev_exo, k3, g7, g71, lenS, gl1, ev_TupRg, rk4]
  have q4 : (fRef 0 (fCallN 3 F_best_order (faCons (fV 1) (faCons (fV 2) (faCons (fV 20) faNil))))) [.lst true xs7, .dat (tabD t), .dat (.int b), .dat (shsD ss), y4, .dat (nT oo), .dat (obD ((ordsL ss.length).foldl (stepO (valE t b ss)) none)), .dat (obD ((ordsL ss.length).foldl (stepO (valW t b ss)) none)), z8, z9, z10, .un, .un, z13, .dat (nI (cyc t)), .dat (nI X), .dat (nI l), .un, .dat (iL (hbL t l (cyc t))), .un, .dat bad, .dat (tabD longT), .un, .un] = .ok (.str "ships") [.lst true xs7, .dat (tabD t), .dat (.int b), .dat (shsD ss), y4, .dat (nT oo), .dat (obD ((ordsL ss.length).foldl (stepO (valE t b ss)) none)), .dat (obD ((ordsL ss.length).foldl (stepO (valW t b ss)) none)), z8, z9, z10, .un, .un, z13, .dat (nI (cyc t)), .dat (nI X), .dat (nI l), .un, .dat (iL (hbL t l (cyc t))), .un, .dat bad, .dat (tabD longT), .un, .un] := by simp only [ev_Asg, ev_Tup, ev_Cons, ev_Nil, ev_CallN, ev_CallK, ev_aOwn, ev_aCons, ev_aNil, ev_V, ev_C, ev_Op, ev_Un, ev_L, ev_Lst, ev_CB, ev_If, ev_Tst, ev_IfS, ev_OrT, ev_AndT, ev_NotT, ev_Drop, ev_Next, ev_Ret, ev_For, ev_Comp, ev_iSeq, ev_Rng1, ev_Rng2, ev_ok, ev_some, ev_oko, ev_osome, ev_gN, ev_pinU, ev_pinD, ev_pinL, ev_ownL, ev_ownD, ev_ownU, ev_callF, ev_oo0, ev_oo1, ev_oo2, ev_so0, ev_so1, ev_so2, ev_rep, ev_back, ev_oa0, ev_oa1, ev_oa2, ev_asB, noOwn, ev_wipe0, ev_wipe1, ev_rest0, ev_rest1, List.getElem?_cons_zero, List.getElem?_cons_succ, List.set_cons_succ, List.set_cons_zero, List.length_cons, List.length_nil, List.all_nil, List.all_cons, List.nil_append, List.cons_append, Option.map_some, Option.map_none, Option.bind_some, if_true, if_false, Bool.false_eq_true, Bool.not_false, Bool.not_true, Bool.and_true, Bool.true_and, Nat.zero_add, Nat.reduceAdd, gTupD, fgTup, fgCons, fgNil, ev_Chain, ev_Par, ev_Par3, ev_Own, ev_pinned, lv_pin, lv_own, ev_LenV, ev_Ref, ev_exb, ev_exo, k4, g7, g71, lenS, gl1, ev_TupRg, rk4]
  have q5 : (fRef 0 (fCallN 3 F_least_waiting (faCons (fC .none) (faCons (fV 2) (faCons (fV 3) faNil))))) [.lst true xs7, .dat (tabD t), .dat (.int b), .dat (shsD ss), y4, .dat (nT oo), .dat (obD ((ordsL ss.length).foldl (stepO (valE t b ss)) none)), .dat (obD ((ordsL ss.length).foldl (stepO (valW t b ss)) none)), z8, z9, z10, .un, .un, z13, .dat (nI (cyc t)), .dat (nI X), .dat (nI l), .un, .dat (iL (hbL t l (cyc t))), .un, .dat bad, .dat (tabD longT), .un, .un] = .ok (.str "table") [.lst true xs7, .dat (tabD t), .dat (.int b), .dat (shsD ss), y4, .dat (nT oo), .dat (obD ((ordsL ss.length).foldl (stepO (valE t b ss)) none)), .dat (obD ((ordsL ss.length).foldl (stepO (valW t b ss)) none)), z8, z9, z10, .un, .un, z13, .dat (nI (cyc t)), .dat (nI X), .dat (nI l), .un, .dat (iL (hbL t l (cyc t))), .un, .dat bad, .dat (tabD longT), .un, .un] := by simp only [ev_Asg, ev_Tup, ev_Cons, ev_Nil, ev_CallN, ev_CallK, ev_aOwn, ev_aCons, ev_aNil, ev_V, ev_C, ev_Op, ev_Un, ev_L, ev_Lst, ev_CB, ev_If, ev_Tst, ev_IfS, ev_OrT, ev_AndT, ev_NotT, ev_Drop, ev_Next, ev_Ret, ev_For, ev_Comp, ev_iSeq, ev_Rng1, ev_Rng2, ev_ok, ev_some, ev_oko, ev_osome, ev_gN, ev_pinU, ev_pinD, ev_pinL, ev_ownL, ev_ownD, ev_ownU, ev_callF, ev_oo0, ev_oo1, ev_oo2, ev_so0, ev_so1, ev_so2, ev_rep, ev_back, ev_oa0, ev_oa1, ev_oa2, ev_asB, noOwn, ev_wipe0, ev_wipe1, ev_rest0, ev_rest1, List.getElem?_cons_zero, List.getElem?_cons_succ, List.set_cons_succ, List.set_cons_zero, List.length_cons, List.length_nil, List.all_nil, List.all_cons, List.nil_append, List.cons_append, Option.map_some, Option.map_none, Option.bind_some, if_true, if_false, Bool.false_eq_true, Bool.not_false, Bool.not_true, Bool.and_true, Bool.true_and, Nat.zero_add, Nat.reduceAdd, gTupD, fgTup, fgCons, fgNil, ev_Chain, ev_Par, ev_Par3, ev_Own, ev_pinned, lv_pin, lv_own, ev_LenV, ev_Ref, ev_exb, ev_exo, k5, g7, g71, lenS, gl1, ev_TupRg, rk4]
  have q6 : (fRef 0 (fCallN 2 F_longest_ship (faCons (fV 1) (faCons (fOp gAdd (fOp gPow (fC (.int 10)) (fC (.int 7))) (fC (.int 1))) faNil)))) [.lst true xs7, .dat (tabD t), .dat (.int b), .dat (shsD ss), y4, .dat (nT oo), .dat (obD ((ordsL ss.length).foldl (stepO (valE t b ss)) none)), .dat (obD ((ordsL ss.length).foldl (stepO (valW t b ss)) none)), z8, z9, z10, .un, .un, z13, .dat (nI (cyc t)), .dat (nI X), .dat (nI l), .un, .dat (iL (hbL t l (cyc t))), .un, .dat bad, .dat (tabD longT), .un, .un] = .ok (.str "bar") [.lst true xs7, .dat (tabD t), .dat (.int b), .dat (shsD ss), y4, .dat (nT oo), .dat (obD ((ordsL ss.length).foldl (stepO (valE t b ss)) none)), .dat (obD ((ordsL ss.length).foldl (stepO (valW t b ss)) none)), z8, z9, z10, .un, .un, z13, .dat (nI (cyc t)), .dat (nI X), .dat (nI l), .un, .dat (iL (hbL t l (cyc t))), .un, .dat bad, .dat (tabD longT), .un, .un] := by simp only [ev_Asg, ev_Tup, ev_Cons, ev_Nil, ev_CallN, ev_CallK, ev_aOwn, ev_aCons, ev_aNil, ev_V, ev_C, ev_Op, ev_Un, ev_L, ev_Lst, ev_CB, ev_If, ev_Tst, ev_IfS, ev_OrT, ev_AndT, ev_NotT, ev_Drop, ev_Next, ev_Ret, ev_For, ev_Comp, ev_iSeq, ev_Rng1, ev_Rng2, ev_ok, ev_some, ev_oko, ev_osome, ev_gN, ev_pinU, ev_pinD, ev_pinL, ev_ownL, ev_ownD, ev_ownU, ev_callF, ev_oo0, ev_oo1, ev_oo2, ev_so0, ev_so1, ev_so2, ev_rep, ev_back, ev_oa0, ev_oa1, ev_oa2, ev_asB, noOwn, ev_wipe0, ev_wipe1, ev_rest0, ev_rest1, List.getElem?_cons_zero, List.getElem?_cons_succ, List.set_cons_succ, List.set_cons_zero, List.length_cons, List.length_nil, List.all_nil, List.all_cons, List.nil_append, List.cons_append, Option.map_some, Option.map_none, Option.bind_some, if_true, if_false, Bool.false_eq_true, Bool.not_false, Bool.not_true, Bool.and_true, Bool.true_and, Nat.zero_add, Nat.reduceAdd, gTupD, fgTup, fgCons, fgNil, ev_Chain, ev_Par, ev_Par3, ev_Own, ev_pinned, lv_pin, lv_own, ev_LenV, ev_Ref, ev_exb, ev_exo, k6, g7, g71, lenS, gl1, ev_TupRg, rk4]
  have q7 : (fRef 0 (fCallN 2 F_highest_bar (faCons (fV 1) (faCons (fC (.int 0)) faNil)))) [.lst true xs7, .dat (tabD t), .dat (.int b), .dat (shsD ss), y4, .dat (nT oo), .dat (obD ((ordsL ss.length).foldl (stepO (valE t b ss)) none)), .dat (obD ((ordsL ss.length).foldl (stepO (valW t b ss)) none)), z8, z9, z10, .un, .un, z13, .dat (nI (cyc t)), .dat (nI X), .dat (nI l), .un, .dat (iL (hbL t l (cyc t))), .un, .dat bad, .dat (tabD longT), .un, .un] = .ok (.str "length") [.lst true xs7, .dat (tabD t), .dat (.int b), .dat (shsD ss), y4, .dat (nT oo), .dat (obD ((ordsL ss.length).foldl (stepO (valE t b ss)) none)), .dat (obD ((ordsL ss.length).foldl (stepO (valW t b ss)) none)), z8, z9, z10, .un, .un, z13, .dat (nI (cyc t)), .dat (nI X), .dat (nI l), .un, .dat (iL (hbL t l (cyc t))), .un, .dat bad, .dat (tabD longT), .un, .un] := by simp only [ev_Asg, ev_Tup, ev_Cons, ev_Nil, ev_CallN, ev_CallK, ev_aOwn, ev_aCons, ev_aNil, ev_V, ev_C, ev_Op, ev_Un, ev_L, ev_Lst, ev_CB, ev_If, ev_Tst, ev_IfS, ev_OrT, ev_AndT, ev_NotT, ev_Drop, ev_Next, ev_Ret, ev_For, ev_Comp, ev_iSeq, ev_Rng1, ev_Rng2, ev_ok, ev_some, ev_oko, ev_osome, ev_gN, ev_pinU, ev_pinD, ev_pinL, ev_ownL, ev_ownD, ev_ownU, ev_callF, ev_oo0, ev_oo1, ev_oo2, ev_so0, ev_so1, ev_so2, ev_rep, ev_back, ev_oa0, ev_oa1, ev_oa2, ev_asB, noOwn, ev_wipe0, ev_wipe1, ev_rest0, ev_rest1, List.getElem?_cons_zero, List.getElem?_cons_succ, List.set_cons_succ, List.set_cons_zero, List.length_cons, List.length_nil, List.all_nil, List.all_cons, List.nil_append, List.cons_append, Option.map_some, Option.map_none, Option.bind_some, if_true, if_false, Bool.false_eq_true, Bool.not_false, Bool.not_true, Bool.and_true, Bool.true_and, Nat.zero_add, Nat.reduceAdd, gTupD, fgTup, fgCons, fgNil, ev_Chain, ev_Par, ev_Par3, ev_Own, ev_pinned, lv_pin, lv_own, ev_LenV, ev_Ref, ev_exb, ev_exo, k7, g7, g71, lenS, gl1, ev_TupRg, rk4]
  have q8 : (fRef 0 (fCallN 2 F_highest_bar (faCons (fV 21) (faCons (fC (.int 1)) faNil)))) [.lst true xs7, .dat (tabD t), .dat (.int b), .dat (shsD ss), y4, .dat (nT oo), .dat (obD ((ordsL ss.length).foldl (stepO (valE t b ss)) none)), .dat (obD ((ordsL ss.length).foldl (stepO (valW t b ss)) none)), z8, z9, z10, .un, .un, z13, .dat (nI (cyc t)), .dat (nI X), .dat (nI l), .un, .dat (iL (hbL t l (cyc t))), .un, .dat bad, .dat (tabD longT), .un, .un] = .ok (.str "table") [.lst true xs7, .dat (tabD t), .dat (.int b), .dat (shsD ss), y4, .dat (nT oo), .dat (obD ((ordsL ss.length).foldl (stepO (valE t b ss)) none)), .dat (obD ((ordsL ss.length).foldl (stepO (valW t b ss)) none)), z8, z9, z10, .un, .un, z13, .dat (nI (cyc t)), .dat (nI X), .dat (nI l), .un, .dat (iL (hbL t l (cyc t))), .un, .dat bad, .dat (tabD longT), .un, .un] := by simp only [ev_Asg, ev_Tup, ev_Cons, ev_Nil, ev_CallN, ev_CallK, ev_aOwn, ev_aCons, ev_aNil, ev_V, ev_C, ev_Op, ev_Un, ev_L, ev_Lst, ev_CB, ev_If, ev_Tst, ev_IfS, ev_OrT, ev_AndT, ev_NotT, ev_Drop, ev_Next, ev_Ret, ev_For, ev_Comp, ev_iSeq, ev_Rng1, ev_Rng2, ev_ok, ev_some, ev_oko, ev_osome, ev_gN, ev_pinU, ev_pinD, ev_pinL, ev_ownL, ev_ownD, ev_ownU, ev_callF, ev_oo0, ev_oo1, ev_oo2, ev_so0, ev_so1, ev_so2, ev_rep, ev_back, ev_oa0, ev_oa1, ev_oa2, ev_asB, noOwn, ev_wipe0, ev_wipe1, ev_rest0, ev_rest1, List.getElem?_cons_zero, List.getElem?_cons_succ, List.set_cons_succ, List.set_cons_zero, List.length_cons, List.length_nil, List.all_nil, List.all_cons, List.nil_append, List.cons_append, Option.map_some, Option.map_none, Option.bind_some, if_true, if_false, Bool.false_eq_true, Bool.not_false, Bool.not_true, Bool.and_true, Bool.true_and, Nat.zero_add, Nat.reduceAdd, gTupD, fgTup, fgCons, fgNil, ev_Chain, ev_Par, ev_Par3, ev_Own, ev_pinned, lv_pin, lv_own, ev_LenV, ev_Ref, ev_exb, ev_exo, k8, g7, g71, lenS, gl1, ev_TupRg, rk4]
  -- told
  refine exists_imp_step (seq_nx (e1 := [.lst true xs7, .dat (tabD t), .dat (.int b), .dat (shsD ss), y4, .dat (nT oo), .dat (obD ((ordsL ss.length).foldl (stepO (valE t b ss)) none)), .dat (obD ((ordsL ss.length).foldl (stepO (valW t b ss)) none)), z8, z9, z10, .un, .un, z13, .dat (nI (cyc t)), .dat (nI X), .dat (nI l), .un, .dat (iL (hbL t l (cyc t))), .un, .dat bad, .dat (tabD longT), .dat (.list [.str "table", .str "bar", .str "ships", .str "order", .str "ships", .str "table", .str "bar", .str "length", .str "table"]), .un]) ?_) ?_
  · simp only [ev_Asg, ev_Tup, ev_Cons, ev_Nil, ev_CallN, ev_CallK, ev_aOwn, ev_aCons, ev_aNil, ev_V, ev_C, ev_Op, ev_Un, ev_L, ev_Lst, ev_CB, ev_If, ev_Tst, ev_IfS, ev_OrT, ev_AndT, ev_NotT, ev_Drop, ev_Next, ev_Ret, ev_For, ev_Comp, ev_iSeq, ev_Rng1, ev_Rng2, ev_ok, ev_some, ev_oko, ev_osome, ev_gN, ev_pinU, ev_pinD, ev_pinL, ev_ownL, ev_ownD, ev_ownU, ev_callF, ev_oo0, ev_oo1, ev_oo2, ev_so0, ev_so1, ev_so2, ev_rep, ev_back, ev_oa0, ev_oa1, ev_oa2, ev_asB, noOwn, ev_wipe0, ev_wipe1, ev_rest0, ev_rest1, List.getElem?_cons_zero, List.getElem?_cons_succ, List.set_cons_succ, List.set_cons_zero, List.length_cons, List.length_nil, List.all_nil, List.all_cons, List.nil_append, List.cons_append, Option.map_some, Option.map_none, Option.bind_some, if_true, if_false, Bool.false_eq_true, Bool.not_false, Bool.not_true, Bool.and_true, Bool.true_and, Nat.zero_add, Nat.reduceAdd, gTupD, fgTup, fgCons, fgNil, ev_Chain, ev_Par, ev_Par3, ev_Own, ev_pinned, lv_pin, lv_own, ev_LenV, q0, q1, q2, q3, q4, q5, q6, q7, q8, l9]
  -- due
  refine exists_imp_step (seq_nx (e1 := [.lst true xs7, .dat (tabD t), .dat (.int b), .dat (shsD ss), y4, .dat (nT oo), .dat (obD ((ordsL ss.length).foldl (stepO (valE t b ss)) none)), .dat (obD ((ordsL ss.length).foldl (stepO (valW t b ss)) none)), z8, z9, z10, .un, .un, z13, .dat (nI (cyc t)), .dat (nI X), .dat (nI l), .un, .dat (iL (hbL t l (cyc t))), .un, .dat bad, .dat (tabD longT), .dat (.list [.str "table", .str "bar", .str "ships", .str "order", .str "ships", .str "table", .str "bar", .str "length", .str "table"]), .dat (.list [.str "table", .str "bar", .str "ships", .str "order", .str "ships", .str "table", .str "bar", .str "length", .str "table"])]) ?_) ?_
  · simp only [ev_Asg, ev_Tup, ev_Cons, ev_Nil, ev_CallN, ev_CallK, ev_aOwn, ev_aCons, ev_aNil, ev_V, ev_C, ev_Op, ev_Un, ev_L, ev_Lst, ev_CB, ev_If, ev_Tst, ev_IfS, ev_OrT, ev_AndT, ev_NotT, ev_Drop, ev_Next, ev_Ret, ev_For, ev_Comp, ev_iSeq, ev_Rng1, ev_Rng2, ev_ok, ev_some, ev_oko, ev_osome, ev_gN, ev_pinU, ev_pinD, ev_pinL, ev_ownL, ev_ownD, ev_ownU, ev_callF, ev_oo0, ev_oo1, ev_oo2, ev_so0, ev_so1, ev_so2, ev_rep, ev_back, ev_oa0, ev_oa1, ev_oa2, ev_asB, noOwn, ev_wipe0, ev_wipe1, ev_rest0, ev_rest1, List.getElem?_cons_zero, List.getElem?_cons_succ, List.set_cons_succ, List.set_cons_zero, List.length_cons, List.length_nil, List.all_nil, List.all_cons, List.nil_append, List.cons_append, Option.map_some, Option.map_none, Option.bind_some, if_true, if_false, Bool.false_eq_true, Bool.not_false, Bool.not_true, Bool.and_true, Bool.true_and, Nat.zero_add, Nat.reduceAdd, gTupD, fgTup, fgCons, fgNil, ev_Chain, ev_Par, ev_Par3, ev_Own, ev_pinned, lv_pin, lv_own, ev_LenV, l9]
  have ne9 : gEq (.list [.str "table", .str "bar", .str "ships", .str "order", .str "ships", .str "table", .str "bar", .str "length", .str "table"]) (.list [.str "table", .str "bar", .str "ships", .str "order", .str "ships", .str "table", .str "bar", .str "length", .str "table"]) = some (.bool true) := gEq_self (by decide +kernel)
  have kb := e_are_ships bad
  rw [hbad] at kb
  refine ⟨(xs7, [.dat (tabD t), .dat (.int b), .dat (shsD ss), y4, .dat (nT oo), .dat (obD ((ordsL ss.length).foldl (stepO (valE t b ss)) none)), .dat (obD ((ordsL ss.length).foldl (stepO (valW t b ss)) none)), z8, z9, z10, .un, .un, z13, .dat (nI (cyc t)), .dat (nI X), .dat (nI l), .un, .dat (iL (hbL t l (cyc t))), .un, .dat bad, .dat (tabD longT), .dat (.list [.str "table", .str "bar", .str "ships", .str "order", .str "ships", .str "table", .str "bar", .str "length", .str "table"]), .dat (.list [.str "table", .str "bar", .str "ships", .str "order", .str "ships", .str "table", .str "bar", .str "length", .str "table"])]), ?_⟩
  simp only [ev_Asg, ev_Tup, ev_Cons, ev_Nil, ev_CallN, ev_CallK, ev_aOwn, ev_aCons, ev_aNil, ev_V, ev_C, ev_Op, ev_Un, ev_L, ev_Lst, ev_CB, ev_If, ev_Tst, ev_IfS, ev_OrT, ev_AndT, ev_NotT, ev_Drop, ev_Next, ev_Ret, ev_For, ev_Comp, ev_iSeq, ev_Rng1, ev_Rng2, ev_ok, ev_some, ev_oko, ev_osome, ev_gN, ev_pinU, ev_pinD, ev_pinL, ev_ownL, ev_ownD, ev_ownU, ev_callF, ev_oo0, ev_oo1, ev_oo2, ev_so0, ev_so1, ev_so2, ev_rep, ev_back, ev_oa0, ev_oa1, ev_oa2, ev_asB, noOwn, ev_wipe0, ev_wipe1, ev_rest0, ev_rest1, List.getElem?_cons_zero, List.getElem?_cons_succ, List.set_cons_succ, List.set_cons_zero, List.length_cons, List.length_nil, List.all_nil, List.all_cons, List.nil_append, List.cons_append, Option.map_some, Option.map_none, Option.bind_some, if_true, if_false, Bool.false_eq_true, Bool.not_false, Bool.not_true, Bool.and_true, Bool.true_and, Nat.zero_add, Nat.reduceAdd, gTupD, fgTup, fgCons, fgNil, ev_Chain, ev_Par, ev_Par3, ev_Own, ev_pinned, lv_pin, lv_own, ev_LenV, ne9, kb, ev_AndV, ev_NotV]
end LW

namespace LW
open PySem PySem.Spec PyProof.Rows L2 FL
/-! ### the dice -/
theorem ite_yes {c : Bool} {A B : Prop} (h : c = true) (a : A) : if c = true then A else B := by rw [if_pos h]; exact a
theorem ite_no {c : Bool} {A B : Prop} (h : c = false) (b : B) : if c = true then A else B := by rw [h, if_neg (by simp)]; exact b
theorem cut_ints (ns : List Int) (lo hi : Option Int) : ∃ cs : List Int, cutV (ns.map V.int) lo hi = cs.map V.int := by
  unfold cutV
  rw [← List.map_drop, ← List.map_take]
  exact ⟨_, rfl⟩
/-- a new list of three -/
def spDice (K : PySem.W.Frag) : Sp := fun vs H Q _ => ∃ (a : Addr) (ns : List Int) (i : Nat), vs = [.ref a, .int i] ∧ SqL K H a (ns.map V.int) ∧ ns.length ≤ 63 ∧ i < 10 ∧
  ∀ (H' : Hp) (p : Addr) (x y : Int), Le H H' → H' p = none → 0 ≤ y → y < 2147480009 → Q (.ref p) (upd H' p (.lst [.int x, .int y, .int 0]))
section
variable {P : Program} {w : World} {K : PySem.W.Frag} {mg : Str → Option Value} {base : Heap} {T : List (Addr × Str)} {C : Addr} {c : Nat → Addr}
theorem sc__law_dice : FnScope ["script", "spot", "own", "mixed", "cell"] ["script", "spot"] (defScope s__law_dice) := ⟨rfl, rfl, rfl, by decide +kernel, rfl, by decide +kernel, by decide +kernel⟩
theorem h__law_dice (Y : Txt K mg c) : Has P w K mg base 1 "_law_dice" s__law_dice ["script", "spot"] (spDice K) := by
  have nd := sc__law_dice.nd
  obtain ⟨f, oc, od, kV, doc, pm, an, ct, osl, lk, hcd, hm, hk⟩ := Y.s__law_dice.ex
  refine ⟨f, _, fn_of lk hcd sc__law_dice (fun vs H Q E q => ?_) (fun A outer s H vs Q E hr hsp => ?_), hm, hk, .all ((fun _ _ _ _ _ _ us hl => match us, hl with | [_, _], _ => rfl : BindsAll "_law_dice" s__law_dice ["script", "spot"]) kV doc pm an (.ref (c 25)) ct), kV, doc, pm, an, .ref (c 25), ct, rfl⟩
  · obtain ⟨a, ns, i, rfl, _⟩ := q
    rfl
  obtain ⟨a, ns, i, rfl, hs, hn, hi, hQ⟩ := hsp
  refine ⟨_, (pss_cons (ps_set (i := 2) nd rfl (Or.inl rfl) (pe_ifExp (pt_cmpR op_lt (pv 1) (pe_callB call_len_seq rfl Y.b_len bt_len (pa_cons (pv 0) pa_nil)) (nomark _)) (pe_ix ix_list (pv 0) (pv 1) (fun _ _ => rfl)) (pe_op op_add (pe_op op_mul pe_int (pv 1)) pe_int)))
    (pss_cons (ps_set (i := 3) nd rfl (Or.inl rfl) (pe_op op_add pe_int (pe_op op_mul pe_int (pv 1))))
    (pss_cons (ps_for (passes_of rfl) rfl (pi_list (pe_op op_cat (pe_slice sl_list (pv 0) po_none (po_some pe_int)) (pe_lst (pa_cons (pv 2) pa_nil)))) (pg_name (i := 4) nd rfl (Or.inl rfl))
    (pss_one (ps_set (i := 3) nd rfl (Or.inl rfl) (pe_op op_modN (pe_callTy call_int1 rfl Y.b_int bt_int (pa_cons (pe_op op_add (pe_op op_mul (pv 3) pe_int) (pe_op op_modN (pe_callTy call_int1 rfl Y.b_int bt_int (pa_cons (pv 4) pa_nil)) pe_int)) pa_nil)) pe_int))))
    (pss_one (ps_ret (pe_lst (pa_cons (pe_ifExp (PW.pt (pw_or (pt_cmpR op_lt (pv 2) pe_int (nomark _)) (pw_or1 (pt_cmpR op_ge (pv 2) (pe_op op_pow pe_int pe_int) (nomark _))))) (pe_callB call_abs rfl Y.b_abs bt_abs (pa_cons (pv 2) pa_nil)) pe_int) (pa_cons (pv 3) (pa_cons pe_int pa_nil))))))))), ?_⟩
  refine ⟨.int i, rfl, .ref a, rfl, a, _, rfl, .inl hs, _, _, rfl, rfl, _, rfl, ?_⟩
  have hli : (ns.map V.int).length = ns.length := List.length_map _
  by_cases hlt : (i : Int) < ((ns.map V.int).length : Int)
  refine ite_yes (decide_eq_true hlt) ?_
  rw [hli] at hlt
  have hi2 : i < ns.length := by omega
  refine ⟨.ref a, rfl, .int i, rfl, a, ns.map V.int, i, .int (ns[i]), rfl, rfl, hs, atI_nat (by rw [List.getElem?_map, List.getElem?_eq_getElem hi2]; rfl), ?_⟩
  generalize ns[i] = own
  rotate_left
  refine ite_no (decide_eq_false hlt) ?_
  refine ⟨.int i, rfl, 733, i, rfl, rfl, .inl ⟨by decide, by decide⟩, _, _, rfl, rfl, ?_⟩
  dsimp only
  generalize (733 : Int) * (i : Int) + 29 = own
  all_goals
    refine ⟨.int i, rfl, 7907, i, rfl, rfl, .inl ⟨by decide, by decide⟩, _, _, rfl, rfl, ?_⟩
    obtain ⟨m, hm, hm0, hm1⟩ : ∃ m : Int, (930011 : Int) + 7907 * (i : Int) = m ∧ 0 ≤ m ∧ m < 2147480009 := ⟨_, rfl, by omega, by omega⟩
    dsimp only
    rw [hm]
    refine ⟨.ref a, rfl, 6, rfl, a, _, rfl, hs, fun p hp => ?_⟩
    refine ⟨.int own, rfl, (by show 1 ≤ sizeLine; rw [sizeLine_eq]; omega), fun l hl => ?_⟩
    have hlp : l ≠ p := fun z => by rw [z, upd_same] at hl; cases hl
    have hl0 : H l = none := by rwa [upd_ne hlp] at hl
    obtain ⟨cells, hc⟩ : ∃ cells : List Int, cutV (ns.map V.int) none (some 6) ++ [V.int own] = cells.map V.int := by
      obtain ⟨cs, e⟩ := cut_ints ns none (some 6)
      exact ⟨cs ++ [own], by rw [e, List.map_append]; rfl⟩
    have hcl : (cutV (ns.map V.int) none (some 6)).length + [V.int own].length ≤ sizeLine := by
      unfold cutV
      simp
      rw [sizeLine_eq]
      omega
    refine ⟨p, l, _, _, rfl, rfl, by rw [upd_ne (Ne.symm hlp), upd_same], upd_same, hcl, fun q hq => ?_⟩
    rw [hc]
    have hqp : q ≠ p := fun z => by rw [z, upd_ne (Ne.symm hlp), upd_same] at hq; cases hq
    have hql : q ≠ l := fun z => by rw [z, upd_same] at hq; cases hq
    have hq0 : H q = none := by rwa [upd_ne hql, upd_ne hqp] at hq
    refine ⟨q, rfl, ⟨_, SqL.of upd_same⟩, ?_⟩
    refine for_list (xs := cells.map V.int) (fun _ σ' H' => ∃ (m' : Int) (x : Option V), 0 ≤ m' ∧ m' < 2147480009 ∧ σ' = [some (.ref a), some (.int i), some (.int own), some (.int m'), x] ∧ H' = upd (upd (upd H p (.lst (cutV (ns.map V.int) none (some 6)))) l (.lst [.int own])) q (.lst (cells.map V.int))) ⟨m, none, hm0, hm1, rfl, rfl⟩ (fun j σ' H' _ ⟨_, _, _, _, _, e⟩ => by rw [e]; exact SqL.of upd_same) ?_ ?_
    · rintro j y σ' H' hj ⟨m', x, q1, q2, rfl, rfl⟩
      obtain ⟨z, rfl⟩ : ∃ z, y = V.int z := by
        rw [List.getElem?_map] at hj
        cases e : cells[j]? with
        | none => rw [e] at hj; cases hj
        | some z => rw [e] at hj; exact ⟨z, (Option.some.inj hj).symm⟩
      refine ⟨.int m', rfl, m', 48271, rfl, rfl, .inr ⟨by decide, by decide⟩, ?_⟩
      refine ⟨.int z, rfl, .inl ⟨z, rfl, z, 2147480009, rfl, rfl, (by show (2147480009 : Int) ≠ 0; decide), ?_⟩⟩
      refine ⟨_, _, rfl, rfl, .inl ⟨_, rfl, _, 2147480009, rfl, rfl, (by show (2147480009 : Int) ≠ 0; decide), ?_⟩⟩
      refine ⟨_, some (.int z), ?_, ?_, rfl, rfl⟩
      · rw [Int.fmod_eq_emod_of_nonneg _ (by decide)]
        exact Int.emod_nonneg _ (by decide)
      · rw [Int.fmod_eq_emod_of_nonneg _ (by decide)]
        exact Int.emod_lt_of_pos _ (by decide)
    · rintro σ' H' ⟨m', x, q1, q2, rfl, rfl⟩
      have le : Le H (upd (upd (upd H p (.lst (cutV (ns.map V.int) none (some 6)))) l (.lst [.int own])) q (.lst (cells.map V.int))) := ((Le.upd hp).trans (Le.upd hl)).trans (Le.upd hq)
      have l3 : 3 ≤ sizeLine := by rw [sizeLine_eq]; omega
      refine ⟨.int own, rfl, _, _, rfl, rfl, _, rfl, ?_⟩
      by_cases c1 : own < 0
      · refine ite_yes (decide_eq_true c1) (ite_yes rfl ?_)
        refine ⟨.int own, rfl, own, rfl, .int m', rfl, l3, fun r hr => hQ _ r _ m' le hr q1 q2⟩
      · refine ite_no (decide_eq_false c1) ?_
        refine ⟨.int own, rfl, 10, 16, rfl, rfl, ⟨by decide, by decide, by decide⟩, _, _, rfl, rfl, _, rfl, ?_⟩
        by_cases c2 : (10 : Int) ^ (16 : Int).toNat ≤ own
        · refine ite_yes (decide_eq_true c2) ?_
          refine ⟨.int own, rfl, own, rfl, .int m', rfl, l3, fun r hr => hQ _ r _ m' le hr q1 q2⟩
        · refine ite_no (decide_eq_false c2) ?_
          refine ⟨.int m', rfl, l3, fun r hr => hQ _ r _ m' le hr q1 q2⟩
end
end LW

namespace LW
open PySem PySem.Spec PyProof.Rows L2 FL
/-! ### the law -/
theorem keep_of {K : PySem.W.Frag} {H : Hp} {a : Addr} {xs : List V} (h : SqL K H a xs) : ∃ Z : Hp, (∀ b o, Z b = some o → H b = some o) ∧ (∀ b ps, Z b ≠ some (.tbl ps)) ∧ ∀ H1 : Hp, (∀ b o, Z b = some o → H1 b = some o) → SqL K H1 a xs := by
  have one : ∀ o : HO, H a = some o → (∀ ps, o ≠ .tbl ps) → ∃ Z : Hp, (∀ b o, Z b = some o → H b = some o) ∧ (∀ b ps, Z b ≠ some (.tbl ps)) ∧ Z a = some o := fun o ho nt => by
    refine ⟨fun b => if b = a then some o else none, fun b u q => ?_, fun b ps q => ?_, if_pos rfl⟩
    · dsimp only at q
      split at q
      · rename_i e
        rw [e, ho]
        exact q
      · cases q
    · dsimp only at q
      split at q
      · exact nt ps (Option.some.inj q)
      · cases q
  rcases h with (h | ⟨o, h⟩) | h
  · obtain ⟨Z, h1, h2, h3⟩ := one _ h fun ps z => by cases z
    exact ⟨Z, h1, h2, fun H1 k => .inl (.inl (k a _ h3))⟩
  · obtain ⟨Z, h1, h2, h3⟩ := one _ h fun ps z => by cases z
    exact ⟨Z, h1, h2, fun H1 k => .inl (.inr ⟨o, k a _ h3⟩)⟩
  · exact ⟨fun _ => none, (fun b o q => by cases q), (fun b ps q => by cases q), fun H1 _ => .inr h⟩
def spLaw (K : PySem.W.Frag) (T : List (Addr × Str)) : Sp := fun vs H Q _ => ∃ (a : Addr) (ns : List Int), vs = [.ref a] ∧ SqL K H a (ns.map V.int) ∧ ns.length ≤ 63 ∧ LamX.Tabs T H ∧ ∀ H', Q (.bl true) H'
section
variable {P : Program} {w : World} {K : PySem.W.Frag} {mg : Str → Option Value} {base : Heap} {T : List (Addr × Str)} {C : Addr} {c : Nat → Addr}
theorem sc_law : FnScope ["script", "spot"] ["script"] (defScope s_law) := ⟨rfl, rfl, rfl, by decide +kernel, rfl, by decide +kernel, by decide +kernel⟩
theorem right_ok {H : Hp} {Z : Hp} {q : Addr} {xs : List PyData} {vs : List V} {Q : VK} {E : XK} (hv : ∃ x y : Int, vs = [.int x, .int y, .int 0] ∧ xs = [.int x, .int y, .int 0]) (hq : H q = some (.lst vs)) (d : Dok 100000 xs) (hz : ∀ b o, Z b = some o → H b = some o ∧ b ≠ q) (zt : ∀ b ps, Z b ≠ some (.tbl ps)) (ht : LamX.Tabs T H)
    (h : ∀ H1, (∀ b o, Z b = some o → H1 b = some o) → LamX.Tabs T H1 → Q (.bl true) H1) : spF (PR K T C) 1 F__law_right [.ref q] H Q E := by
  obtain ⟨x, y, rfl, rfl⟩ := hv
  obtain ⟨e, he⟩ := e_law_right d
  refine ⟨rfl, fun _ => none, Z, fun _ => q, fun _ => none, fun _ => q, [.lst true [.int x, .int y, .int 0]], ?_, ?_, ?_⟩
  · refine { g0 := fun b o z => z, sub := fun b o z => (by cases z), z := fun b o z => ⟨(hz b o z).1, rfl⟩, zt := zt, gt := fun b ps z => (by cases z), tabs := ht, len := rfl, dat := fun i d z => ?_, own := fun i s z k => ?_, inj := fun i j s t z1 z2 _ _ _ => ?_, noz := fun i s z k => ?_, pin := fun i s z k => rfl }
    · match i, z with
      | 0, z => cases z
      | (i + 1), z => simp at z
    · match i, z with
      | 0, z =>
        cases z
        exact ⟨rfl, rfl, _, hq, .cons (.int _) (.cons (.int _) (.cons (.int _) .nil))⟩
      | (i + 1), z => simp at z
    · match i, j, z1, z2 with
      | 0, 0, _, _ => rfl
      | 0, (j + 1), _, z => simp at z
      | (i + 1), _, z, _ => simp at z
    · cases e : Z q with
      | none => rfl
      | some o => exact absurd rfl (hz q o e).2
  · intro s hs _
    rw [List.mem_singleton] at hs
    subst hs
    rfl
  · rw [he]
    intro v G' ad' H' S hd
    cases hd
    exact h H' (fun b o z => (S.z b o z).1) S.tabs
theorem ok_law (Y : Txt K mg c) (Z : Tabs T base mg c) (B : BadOk P w K mg base C) {f : Addr} {oc : Value} {od : Option Addr} {kV doc pm : Value} {an : Option Addr} {ct : Value} {osl : Array (Option Value)}
    (lk : K.lookup f = some ⟨oc, od, .func (PySem.W.fnOf "law" "law" (defArgs s_law) (defBody s_law) (defScope s_law) .none kV doc pm an (.ref (c 38)) ct), osl⟩) (hcd : PySem.W.codeIn K (.ref (c 38)) "law" = true) :
    FnOk P w K mg base (L2.CX P w) 13 f (PySem.W.fnOf "law" "law" (defArgs s_law) (defBody s_law) (defScope s_law) .none kV doc pm an (.ref (c 38)) ct) ["script"] (spLaw K T) := by
  have nd := sc_law.nd
  refine fn_of lk hcd sc_law (fun vs H Q E q => ?_) (fun A outer s H vs Q E hr hsp => ?_)
  · obtain ⟨a, ns, rfl, _⟩ := q
    rfl
  obtain ⟨a, ns, rfl, hs, hn, ht, hQ⟩ := hsp
  refine ⟨_, (pss_cons (ps_for (passes_of rfl) rfl (pi_range1 rfl Y.b_range (pa_cons (pe_callB (call_max2 rfl) rfl Y.b_max bt_max (pa_cons pe_int (pa_cons (pe_callB (call_min2 rfl) rfl Y.b_min bt_min (pa_cons pe_int (pa_cons (pe_callB call_len_seq rfl Y.b_len bt_len (pa_cons (pv 0) pa_nil)) pa_nil))) pa_nil))) pa_nil)) (pg_name (i := 1) nd rfl (Or.inl rfl))
      (pss_one (ps_if (pt_not (pt_val (pe_callH (h__law_right Y Z B) hr (by decide) rfl (passes_call (takes_of rfl rfl rfl rfl) (fun _ _ _ _ h => h)) (pa_cons (pe_callH (h__law_dice Y) hr (by decide) rfl (passes_call (takes_of rfl rfl rfl rfl) (fun _ _ _ _ h => h)) (pa_cons (pv 0) (pa_cons (pv 1) pa_nil))) pa_nil)))) (pss_one (ps_ret pe_bl)) pss_nil)))
    (pss_one (ps_ret pe_bl))), ?_⟩
  have hli : (ns.map V.int).length = ns.length := List.length_map _
  refine ⟨.ref a, rfl, a, _, rfl, .inl hs, _, _, rfl, _, _, rfl, _, rfl, ?_, ?_, ?_⟩
  · rw [hli]
    split <;> split <;> omega
  · rw [hli]
    split <;> split <;> omega
  rw [hli]
  obtain ⟨n4, hn4, hn5⟩ : ∃ n4 : Nat, (if (if (ns.length : Int) < 4 then (ns.length : Int) else 4) > 1 then (if (ns.length : Int) < 4 then (ns.length : Int) else 4) else 1) = (n4 : Int) ∧ n4 ≤ 4 := by
    by_cases h4 : (ns.length : Int) < 4
    · rw [if_pos h4]
      by_cases h1 : (ns.length : Int) > 1
      · rw [if_pos h1]
        exact ⟨ns.length, rfl, by omega⟩
      · rw [if_neg h1]
        exact ⟨1, rfl, by decide⟩
    · rw [if_neg h4, if_pos (by decide)]
      exact ⟨4, rfl, by decide⟩
  rw [hn4]
  obtain ⟨Z0, z1, z2, z3⟩ := keep_of hs
  refine for_range (lo := 0) (n := n4) (fun _ σ' H' => LamX.Tabs T H' ∧ (∀ b o, Z0 b = some o → H' b = some o) ∧ ∃ x : Option V, σ' = [some (.ref a), x]) ⟨ht, z1, none, rfl⟩ ?_ ?_
  · rintro i σ' H1 hi ⟨t1, k1, x, rfl⟩
    rw [Int.zero_add]
    refine ⟨.ref a, rfl, .int i, rfl, a, ns, i, rfl, z3 H1 k1, hn, by omega, fun H2 p x y le hp y0 y1 => ?_⟩
    have up : ∀ b o, H2 b = some o → upd H2 p (.lst [.int x, .int y, .int 0]) b = some o ∧ b ≠ p := fun b o q => by
      have e : b ≠ p := fun z => by rw [z, hp] at q; cases q
      exact ⟨by rw [upd_ne e]; exact q, e⟩
    have k2 : ∀ b o, Z0 b = some o → H2 b = some o := fun b o q => le b o (k1 b o q)
    refine right_ok (Z := Z0) ⟨x, y, rfl, rfl⟩ upd_same ?_ (fun b o q => up b o (k2 b o q)) z2 ((t1.ext fun b o q => le b o q).ext fun b o q => (up b o q).1) ?_
    · exact ⟨x, y, 0, rfl, y0, y1, by decide, by decide⟩
    · intro H3 k3 t3
      refine ⟨true, rfl, ite_no rfl ?_⟩
      exact ⟨t3, k3, _, rfl⟩
  · intro σ' H1 _
    exact hQ H1
end
end LW

namespace LW
open PySem PySem.Spec PyProof.Rows L2 FL
abbrev lw : PySem.W.OpenLaw := PySem.Challenge.rw_tidemaker_k12_whole_docks
abbrev RR : PySem.W.OpenRow := PySem.W.OpenLaw.row PySem.Challenge.rw_tidemaker_k12_whole_docks
abbrev sI : Stmt := clsInit (topS 1)
def fn0_0 : List He.DefD := [dF "is_integer" s_is_integer, dF "need_integer" s_need_integer, dF "is_wheel" s_is_wheel, dF "is_table" s_is_table, dF "need_table" s_need_table, dF "common" s_common, dF "together" s_together, dF "height_of" s_height_of, dF "cycle_of" s_cycle_of, dF "need_bar" s_need_bar, dF "need_short" s_need_short, dF "over_row" s_over_row, dF "is_ship" s_is_ship, dF "are_ships" s_are_ships, dF "need_dock" s_need_dock, dF "runs_on" s_runs_on, dF "first_start" s_first_start, dF "starts_of" s_starts_of, dF "starts" s_starts, dF "orders" s_orders, dF "end_of" s_end_of, dF "best_order" s_best_order, dF "least_waiting" s_least_waiting, dF "longest_ship" s_longest_ship, dF "highest_bar" s_highest_bar, dF "_law_dice" s__law_dice, dF "_law_roll" s__law_roll, dF "_law_pick" s__law_pick, dF "_law_refused" s__law_refused, dF "_law_gcd" s__law_gcd]
def fn0_1 : List He.DefD := [dF "_law_wheel" s__law_wheel, dF "_law_table" s__law_table, dF "_law_height" s__law_height, dF "_law_cycle" s__law_cycle, dF "_law_orders" s__law_orders, dF "_law_lies" s__law_lies, dF "_law_starts" s__law_starts, dF "_law_right" s__law_right, dF "law" s_law]
def fn0 : List He.DefD := fn0_0 ++ fn0_1
def fa0_0 : List He.Fa := [.glo "is_integer", .glo "need_integer", .glo "is_wheel", .glo "is_table", .glo "need_table", .glo "common", .glo "together", .glo "height_of", .glo "cycle_of", .glo "need_bar", .glo "need_short", .glo "over_row", .glo "is_ship", .glo "are_ships", .glo "need_dock", .glo "runs_on", .glo "first_start", .glo "starts_of", .glo "starts", .glo "orders", .glo "end_of", .glo "best_order", .glo "least_waiting", .glo "longest_ship", .glo "highest_bar", .glo "_law_dice", .glo "_law_roll", .glo "_law_pick", .glo "_law_refused", .glo "_law_gcd"]
def fa0_1 : List He.Fa := [.glo "_law_wheel", .glo "_law_table", .glo "_law_height", .glo "_law_cycle", .glo "_law_orders", .glo "_law_lies", .glo "_law_starts", .glo "_law_right", .glo "law", .free "abs", .free "all", .free "bool", .free "int", .free "isinstance", .free "len", .free "list", .free "max", .free "min", .free "range", .free "sorted", .free "sum", .free "tuple", .free "zip", .int "MOST_SIZE" 60, .int "MOST_HEIGHT" 1000000, .int "MOST_WHEELS" 6, .int "MOST_BAR" 10000000, .int "MOST_CYCLE" 5000, .int "MOST_SHIPS" 5, .int "MOST_LENGTH" 100]
def fa0_2 : List He.Fa := [.int "MOST_ARRIVAL" 10000]
def fa0 : List He.Fa := fa0_0 ++ fa0_1 ++ fa0_2
def tq0 : TQ := [("is_wheel", (("is_wheel" : Str) ++ ".<locals>.") ++ "<genexpr>"), ("is_table", (("is_table" : Str) ++ ".<locals>.") ++ "<genexpr>"), ("is_ship", (("is_ship" : Str) ++ ".<locals>.") ++ "<genexpr>"), ("are_ships", (("are_ships" : Str) ++ ".<locals>.") ++ "<genexpr>"), ("starts", (("starts" : Str) ++ ".<locals>.") ++ "<genexpr>"), ("_law_right", (("_law_right" : Str) ++ ".<locals>.") ++ "<lambda>")]
def nm0_0 : List Str := ["is_integer", "need_integer", "is_wheel", "is_table", "need_table", "common", "together", "height_of", "cycle_of", "need_bar", "need_short", "over_row", "is_ship", "are_ships", "need_dock", "runs_on", "first_start", "starts_of", "starts", "orders", "end_of", "best_order", "least_waiting", "longest_ship", "highest_bar", "_law_dice", "_law_roll", "_law_pick", "_law_refused", "_law_gcd"]
def nm0_1 : List Str := ["_law_wheel", "_law_table", "_law_height", "_law_cycle", "_law_orders", "_law_lies", "_law_starts", "_law_right", "law"]
def nm0 : List Str := nm0_0 ++ nm0_1
def lo0_0 : List Str := ["BadArgument", "MOST_SIZE", "MOST_HEIGHT", "MOST_WHEELS", "is_integer", "need_integer", "is_wheel", "is_table", "need_table", "common", "together", "height_of", "cycle_of", "MOST_BAR", "need_bar", "MOST_CYCLE", "need_short", "over_row", "MOST_SHIPS", "MOST_LENGTH", "MOST_ARRIVAL", "is_ship", "are_ships", "need_dock", "runs_on", "first_start", "starts_of", "starts", "orders", "end_of"]
def lo0_1 : List Str := ["best_order", "least_waiting", "longest_ship", "highest_bar", "_law_dice", "_law_roll", "_law_pick", "_law_refused", "_law_gcd", "_law_wheel", "_law_table", "_law_height", "_law_cycle", "_law_orders", "_law_lies", "_law_starts", "_law_right"]
def lo0 : List Str := lo0_0 ++ lo0_1
abbrev file0 : Str := lw.prog.main.file
abbrev hk0 : PySem.W.Hook := hookB 6 fa0 fn0 tq0 sI file0
def ob0 (s : PySem.W.SharedT) : AlB := obsB 6 fa0 fn0 tq0 file0 (HandSHeadRun.getT s)
theorem ob0_eq (s : PySem.W.SharedT) : ob0 s = hk0.obs s.abs := obsB_eq (HandSHeadRun.getT_eq s)
theorem run0 (w : World) : HandSHeadRun.RunEq RR (PySem.W.view RR.prog [53]) hk0 ob0 3000 lo0 w := by
  intro os
  kernel_rfl
theorem bad_fn : BadFn lw.prog sI := fun w K mg base C fI T => fn_bad T rfl rfl rfl rfl rfl ⟨_, rfl, rfl⟩ (by decide) (by decide) (by decide) (by decide) (by decide) (by decide) (by decide) (by decide) (by decide) (by decide) (fun _ _ _ => rfl) (fun _ _ _ => ⟨_, rfl⟩)
def c0 (K : PySem.W.Frag) (j : Nat) : Addr := cOf K (nm0.getD j "")
section
variable {w : World} {K : PySem.W.Frag} {h : Heap} {mg : Str → Option Value}
theorem fct (c : SaysB fa0 fn0 tq0 sI file0 w h K) (i : Nat) {f : He.Fa} (e : fa0[i]? = some f := by rfl) : f.ok K = true := c.t.d.fact i e
theorem src0 (c : SaysB fa0 fn0 tq0 sI file0 w h K) (X : K.In h) (G : h.Ns mainGlobals mg) (i : Nat) {x : Str} {st : Stmt} (e : fn0[i]? = some (dF x st) := by rfl) (e2 : fa0[i]? = some (.glo x) := by rfl) : Src K mg x st (cOf K x) := by
  obtain ⟨fd, F⟩ := c.t.d.def_ i e
  exact src_of X G (fct c i e2) F
theorem txt0 (c : SaysB fa0 fn0 tq0 sI file0 w h K) (X : K.In h) (G : h.Ns mainGlobals mg) : Txt K mg (c0 K) where
  b_abs := He.free_ok X G (fct c 39)
  b_all := He.free_ok X G (fct c 40)
  b_bool := He.free_ok X G (fct c 41)
  b_int := He.free_ok X G (fct c 42)
  b_isinstance := He.free_ok X G (fct c 43)
  b_len := He.free_ok X G (fct c 44)
  b_list := He.free_ok X G (fct c 45)
  b_max := He.free_ok X G (fct c 46)
  b_min := He.free_ok X G (fct c 47)
  b_range := He.free_ok X G (fct c 48)
  b_sorted := He.free_ok X G (fct c 49)
  b_sum := He.free_ok X G (fct c 50)
  b_tuple := He.free_ok X G (fct c 51)
  b_zip := He.free_ok X G (fct c 52)
  g_MOST_SIZE := He.int_ok X G (fct c 53)
  g_MOST_HEIGHT := He.int_ok X G (fct c 54)
  g_MOST_WHEELS := He.int_ok X G (fct c 55)
  g_MOST_BAR := He.int_ok X G (fct c 56)
  g_MOST_CYCLE := He.int_ok X G (fct c 57)
  g_MOST_SHIPS := He.int_ok X G (fct c 58)
  g_MOST_LENGTH := He.int_ok X G (fct c 59)
  g_MOST_ARRIVAL := He.int_ok X G (fct c 60)
  s_is_integer := src0 c X G 0
  s_need_integer := src0 c X G 1
  s_is_wheel := src0 c X G 2
  s_is_table := src0 c X G 3
  s_need_table := src0 c X G 4
  s_common := src0 c X G 5
  s_together := src0 c X G 6
  s_height_of := src0 c X G 7
  s_cycle_of := src0 c X G 8
  s_need_bar := src0 c X G 9
  s_need_short := src0 c X G 10
  s_over_row := src0 c X G 11
  s_is_ship := src0 c X G 12
  s_are_ships := src0 c X G 13
  s_need_dock := src0 c X G 14
  s_runs_on := src0 c X G 15
  s_first_start := src0 c X G 16
  s_starts_of := src0 c X G 17
  s_starts := src0 c X G 18
  s_orders := src0 c X G 19
  s_end_of := src0 c X G 20
  s_best_order := src0 c X G 21
  s_least_waiting := src0 c X G 22
  s_longest_ship := src0 c X G 23
  s_highest_bar := src0 c X G 24
  s__law_dice := src0 c X G 25
  s__law_roll := src0 c X G 26
  s__law_pick := src0 c X G 27
  s__law_refused := src0 c X G 28
  s__law_gcd := src0 c X G 29
  s__law_wheel := src0 c X G 30
  s__law_table := src0 c X G 31
  s__law_height := src0 c X G 32
  s__law_cycle := src0 c X G 33
  s__law_orders := src0 c X G 34
  s__law_lies := src0 c X G 35
  s__law_starts := src0 c X G 36
  s__law_right := src0 c X G 37
  s_law := src0 c X G 38
theorem tabs0 {base : Heap} (c : SaysB fa0 fn0 tq0 sI file0 w h K) (hT : ∀ p ∈ csOf K tq0, LamX.TabB base mg p.1 p.2) : Tabs (tabsOf K tq0) base mg (c0 K) where
  is_wheel := tabOk_of c.dis hT (List.mem_of_getElem? (i := 0) rfl)
  is_table := tabOk_of c.dis hT (List.mem_of_getElem? (i := 1) rfl)
  is_ship := tabOk_of c.dis hT (List.mem_of_getElem? (i := 2) rfl)
  are_ships := tabOk_of c.dis hT (List.mem_of_getElem? (i := 3) rfl)
  starts := tabOk_of c.dis hT (List.mem_of_getElem? (i := 4) rfl)
  _law_right := tabOk_of c.dis hT (List.mem_of_getElem? (i := 5) rfl)
theorem end0 (c : SaysB fa0 fn0 tq0 sI file0 w h K) (X : K.In h) (G : h.Ns mainGlobals mg) {fa : Addr} (hfa : mg "law" = some (.ref fa)) : LamX.LawAtS lw w K (L2.CX lw.prog w) 13 63 "script" mg fa h := by
  obtain ⟨hb, gm⟩ := bad_txt (P := lw.prog) X G c.bad c.ini rfl
  obtain ⟨fd, F⟩ := c.t.d.def_ 38 (d := dF "law" s_law) rfl
  obtain ⟨oc, od, dV, kV, doc, pm, an, cdv, ct, osl, rfl, lk, hc, hd, hk⟩ := F.ex
  obtain ⟨cc, rfl⟩ := He.codeIn_ref hc
  have ec : cOf K "law" = cc := He.codeOf_eq lk rfl
  have ef := hfa.symm.trans (He.glo_ok X G (fct c 38 (f := .glo "law")))
  cases ef
  rcases hd with ⟨_, rfl⟩ | ⟨z, _⟩
  · subst ec
    refine lawAt (sp := spLaw K (tabsOf K tq0)) c X G (fun s u => .of_eq rfl) (fun H a ns hl ht hs => ⟨a, ns, rfl, hs, hl, ht, fun _ => rfl⟩) (fun base Kb Gb hT => ok_law (c := c0 K) (C := bC K) (txt0 c X G) (tabs0 c hT) (bad_ok hb gm bad_fn fun kV doc pm an cdv ct cc us hl => match us, hl with | [_, _], _ => rfl) lk hc)
  · exact absurd rfl z
end
end LW
open PySem PySem.W PySem.Calls PyProof.Rows
theorem PySem.Challenge.cw_tidemaker_k12_whole_docks_holds : PySem.Challenge.rw_tidemaker_k12_whole_docks.Holds := by
  w_on; o_law
  refine HandSHeadRun.head_any (r := OpenLaw.row PySem.Challenge.rw_tidemaker_k12_whole_docks) (q := view (OpenLaw.row PySem.Challenge.rw_tidemaker_k12_whole_docks).prog [53]) (H := LW.hk0) (ob := LW.ob0) (M := 3000) (loose := LW.lo0) (d := HandSHeadRun.topDef (OpenLaw.row PySem.Challenge.rw_tidemaker_k12_whole_docks).prog 53) (kwd := []) LW.ob0_eq
    (by kernel_rfl) (fun s => by kernel_rfl) LW.run0 (by kernel_rfl) (by kernel_rfl) (by kernel_rfl) (by rfl) (by first | assumption | decide +kernel) (by decide +kernel) ⟨rfl, rfl, rfl, rfl, rfl, by decide +kernel⟩ ?hw ?hc
  case hw => w_witness2
  case hc =>
    refine LamX.walk_ofTsE (l := PySem.Challenge.rw_tidemaker_k12_whole_docks) (n := 63) (k := 13) (x := "script") (CX := fun w => L2.CX (PySem.Challenge.rw_tidemaker_k12_whole_docks).prog w) rfl (by decide) (by kernel_rfl) ⟨rfl, by decide, by decide⟩ ?F (fun w H s e s' => FL.cx_no w H s e s')
    intro w mg fa h Y G hmg0
    obtain ⟨K, KX, c⟩ := Y
    have hmg : mg ("law" : PySem.Str) = some (.ref fa) := by
      have e : (HandSHeadRun.topDef (OpenLaw.row PySem.Challenge.rw_tidemaker_k12_whole_docks).prog 53).name = ("law" : PySem.Str) := by kernel_rfl
      rw [← e]
      exact hmg0
    exact ⟨K, KX, LW.end0 c KX G hmg⟩
