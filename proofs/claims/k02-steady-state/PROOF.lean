import PyProof.Rows.All
import Wide.All
import OpenK.AllK
import Wide.FinOn
import HandS.ForMost
import HandS.ForExc
import HandS.Strs
import HandS.Wide
import HandS.IsInst
import HandS.WideBits
import HandS.TupAny
import HandS.Style
import HandS.Walk
import HandS.Flow
import HandS.TupLe
import HandS.Zip
import HandS.Words
import HandS.Ends
import KE.GoesMore
import KE.GoesEnum
import HandS.SortKw
import PyProof.WalkInts
import PyProof.MinMaxWalk
import HandS.SortOrd
import HandS.SortInts
import HandS.TupSets
import KE.KSortTup
import PyProof.ReprReads
import PyProof.ReprRoads
import PyProof.Rows.NestShow
import PySem.Challenge.RW_berths_k02_steady_state
set_option Elab.async false
set_option linter.all false
set_option maxRecDepth 100000
set_option maxHeartbeats 4000000
set_option exponentiation.threshold 500
/-! Am1: data over the heap, owned places, the abstract state and the monad of mirrors; the readings that a mirror gives. -/
namespace Am
open PySem L2

/-! ### data in the heap -/
mutual
inductive R (K : PySem.W.Frag) (H : Hp) : V → PyData → Prop
  | non : R K H .non .none
  | bl (b : Bool) : R K H (.bl b) (.bool b)
  | int (i : Int) : R K H (.int i) (.int i)
  | str (x : Str) : R K H (.str x) (.str x)
  | lst {a : Addr} {xs : List V} {ds : List PyData} : SqL K H a xs → RAll K H xs ds → R K H (.ref a) (.list ds)
  | tup {a : Addr} {xs : List V} {ds : List PyData} : SqT K H a xs → RAll K H xs ds → R K H (.ref a) (.tuple ds)
  | dic0 {a : Addr} : H a = some (.dK []) → R K H (.ref a) (.dict [])
inductive RAll (K : PySem.W.Frag) (H : Hp) : List V → List PyData → Prop
  | nil : RAll K H [] []
  | cons {v : V} {vs : List V} {d : PyData} {ds : List PyData} : R K H v d → RAll K H vs ds → RAll K H (v :: vs) (d :: ds)
end

/-- all that H tracks, H' tracks as it is -/
def Ex (H H' : Hp) : Prop := ∀ b o, H b = some o → H' b = some o
theorem Ex.refl (H : Hp) : Ex H H := fun _ _ h => h
theorem Ex.trans {H H1 H2 : Hp} (a : Ex H H1) (b : Ex H1 H2) : Ex H H2 := fun c o h => b c o (a c o h)
theorem Ex.free {H H' : Hp} (e : Ex H H') {l : Addr} (h : H' l = none) : H l = none := by
  cases q : H l with
  | none => rfl
  | some o =>
    rw [e l o q] at h
    cases h
theorem Ex.rd {H H' : Hp} (e : Ex H H') {a : Addr} {u : HO} (h : Rd H a u) : Rd H' a u := by
  rcases h with h | ⟨o, h⟩
  · exact .inl (e _ _ h)
  · exact .inr ⟨o, e _ _ h⟩
theorem Ex.l {K : PySem.W.Frag} {H H' : Hp} (e : Ex H H') {a : Addr} {xs : List V} (h : SqL K H a xs) : SqL K H' a xs := by
  rcases h with h | h
  · exact .inl (e.rd h)
  · exact .inr h
theorem Ex.t {K : PySem.W.Frag} {H H' : Hp} (e : Ex H H') {a : Addr} {xs : List V} (h : SqT K H a xs) : SqT K H' a xs := by
  rcases h with h | h
  · exact .inl (e.rd h)
  · exact .inr h
theorem Ex.new {H : Hp} {p : Addr} {o : HO} (h : H p = none) : Ex H (upd H p o) := fun a u e => by
  rw [upd_ne (ne_of_none e h)]
  exact e
mutual
theorem R.mono {K : PySem.W.Frag} {H H' : Hp} (e : Ex H H') : ∀ (d : PyData) (v : V), R K H v d → R K H' v d
  | .none, _, h => by cases h; exact .non
  | .bool b, _, h => by cases h; exact .bl b
  | .int i, _, h => by cases h; exact .int i
  | .str x, _, h => by cases h; exact .str x
  | .list ds, _, h => by
    cases h with
    | lst h1 h2 => exact .lst (e.l h1) (RAll.mono e ds _ h2)
  | .tuple ds, _, h => by
    cases h with
    | tup h1 h2 => exact .tup (e.t h1) (RAll.mono e ds _ h2)
  | .dict kv, _, h => by
    cases h with
    | dic0 h1 => exact .dic0 (e _ _ h1)
theorem RAll.mono {K : PySem.W.Frag} {H H' : Hp} (e : Ex H H') : ∀ (ds : List PyData) (vs : List V), RAll K H vs ds → RAll K H' vs ds
  | [], _, h => by cases h; exact .nil
  | d :: ds, _, h => by
    cases h with
    | cons h1 h2 => exact .cons (R.mono e d _ h1) (RAll.mono e ds _ h2)
end
theorem RAll.length {K : PySem.W.Frag} {H : Hp} : ∀ {vs : List V} {ds : List PyData}, RAll K H vs ds → vs.length = ds.length
  | _, [], h => by cases h; rfl
  | _, _ :: _, h => by
    cases h with
    | cons _ h2 => rw [List.length_cons, List.length_cons, h2.length]
theorem RAll.append {K : PySem.W.Frag} {H : Hp} : ∀ {vs ws : List V} {ds es : List PyData}, RAll K H vs ds → RAll K H ws es → RAll K H (vs ++ ws) (ds ++ es)
  | _, _, [], _, h, g => by cases h; exact g
  | _, _, _ :: _, _, h, g => by
    cases h with
    | cons h1 h2 => exact .cons h1 (h2.append g)
theorem RAll.take {K : PySem.W.Frag} {H : Hp} : ∀ (n : Nat) {vs : List V} {ds : List PyData}, RAll K H vs ds → RAll K H (vs.take n) (ds.take n)
  | 0, _, _, _ => by simp only [List.take_zero]; exact .nil
  | _ + 1, _, [], h => by cases h; exact .nil
  | n + 1, _, _ :: _, h => by
    cases h with
    | cons h1 h2 => exact .cons h1 (h2.take n)
theorem RAll.drop {K : PySem.W.Frag} {H : Hp} : ∀ (n : Nat) {vs : List V} {ds : List PyData}, RAll K H vs ds → RAll K H (vs.drop n) (ds.drop n)
  | 0, _, _, h => h
  | _ + 1, _, [], h => by cases h; exact .nil
  | n + 1, _, _ :: _, h => by
    cases h with
    | cons h1 h2 => exact h2.drop n
theorem RAll.get {K : PySem.W.Frag} {H : Hp} : ∀ {vs : List V} {ds : List PyData} (i : Nat) {d : PyData}, RAll K H vs ds → ds[i]? = some d → ∃ v, vs[i]? = some v ∧ R K H v d
  | _, [], i, d, _, e => by simp at e
  | _, _ :: _, 0, d, h, e => by
    cases h with
    | cons h1 h2 =>
      have e' := Option.some.inj e
      subst e'
      exact ⟨_, rfl, h1⟩
  | _, _ :: _, i + 1, d, h, e => by
    cases h with
    | cons h1 h2 => exact h2.get i (by simpa using e)
theorem RAll.getV {K : PySem.W.Frag} {H : Hp} : ∀ {vs : List V} {ds : List PyData} (i : Nat) {v : V}, RAll K H vs ds → vs[i]? = some v → ∃ d, ds[i]? = some d ∧ R K H v d
  | _, [], i, d, h, e => by cases h; simp at e
  | _, _ :: _, 0, d, h, e => by
    cases h with
    | cons h1 h2 =>
      have e' := Option.some.inj e
      subst e'
      exact ⟨_, rfl, h1⟩
  | _, _ :: _, i + 1, d, h, e => by
    cases h with
    | cons h1 h2 => exact h2.getV i (by simpa using e)
theorem RAll.set {K : PySem.W.Frag} {H : Hp} {v : V} {d : PyData} (r : R K H v d) : ∀ (i : Nat) {vs : List V} {ds : List PyData}, RAll K H vs ds → RAll K H (vs.set i v) (ds.set i d)
  | _, _, [], h => by cases h; exact .nil
  | 0, _, _ :: _, h => by
    cases h with
    | cons h1 h2 => exact .cons r h2
  | i + 1, _, _ :: _, h => by
    cases h with
    | cons h1 h2 => exact .cons h1 (h2.set r i)
theorem RAll.erase {K : PySem.W.Frag} {H : Hp} : ∀ (i : Nat) {vs : List V} {ds : List PyData}, RAll K H vs ds → RAll K H (vs.eraseIdx i) (ds.eraseIdx i)
  | _, _, [], h => by cases h; exact .nil
  | 0, _, _ :: _, h => by
    cases h with
    | cons h1 h2 => exact h2
  | i + 1, _, _ :: _, h => by
    cases h with
    | cons h1 h2 => exact .cons h1 (h2.erase i)
theorem RAll.reverse {K : PySem.W.Frag} {H : Hp} : ∀ {vs : List V} {ds : List PyData}, RAll K H vs ds → RAll K H vs.reverse ds.reverse
  | _, [], h => by cases h; exact .nil
  | _, _ :: _, h => by
    cases h with
    | cons h1 h2 =>
      rw [List.reverse_cons, List.reverse_cons]
      exact h2.reverse.append (.cons h1 .nil)
theorem RAll.ints {K : PySem.W.Frag} {H : Hp} : ∀ {vs : List V} {ns : List Int}, RAll K H vs (ns.map PyData.int) → vs = ns.map V.int
  | _, [], h => by cases h; rfl
  | _, n :: ns, h => by
    cases h with
    | cons h1 h2 =>
      cases h1
      rw [h2.ints]
      rfl
theorem RAll.ofInts {K : PySem.W.Frag} {H : Hp} : ∀ (ns : List Int), RAll K H (ns.map V.int) (ns.map PyData.int)
  | [] => .nil
  | n :: ns => .cons (.int n) (RAll.ofInts ns)

/-- the written part and the world -/
structure KW where
  k : PySem.W.Frag
  w : World
instance : Coe KW PySem.W.Frag := ⟨KW.k⟩
abbrev _root_.L2.Cx.kw (X : Cx) : KW := ⟨X.K, X.w⟩
/-! ### what is owned is hidden -/
def hide (O : List Addr) (H : Hp) : Hp := fun b => if b ∈ O then none else H b
theorem hide_some {O : List Addr} {H : Hp} {b : Addr} {o : HO} : hide O H b = some o ↔ b ∉ O ∧ H b = some o := by
  unfold hide
  split
  · rename_i h
    exact ⟨fun z => (by cases z), fun z => absurd h z.1⟩
  · rename_i h
    exact ⟨fun z => ⟨h, z⟩, fun z => z.2⟩
theorem hide_ex (O : List Addr) (H : Hp) : Ex (hide O H) H := fun b o h => (hide_some.mp h).2
/-- from owned places O over H to owned places O' over H': what was to be seen is to be seen -/
abbrev Ext (O : List Addr) (H : Hp) (O' : List Addr) (H' : Hp) : Prop := Ex (hide O H) (hide O' H')
theorem Ext.refl (O : List Addr) (H : Hp) : Ext O H O H := Ex.refl _

/-! ### the abstract state -/
inductive Sl where
  | un
  | dat (d : PyData)
  | lst (ds : List PyData)
  | dk (kvs : List (Key × PyData))
  | dt (kvs : List (List Key × PyData))
  | st (is : List Int)
abbrev AEnv := List Sl
def Sl.owned : Sl → Bool
  | .un => false
  | .dat _ => false
  | _ => true
def RK (K : PySem.W.Frag) (H : Hp) {κ : Type} : List (κ × V) → List (κ × PyData) → Prop := Paired fun p q => p.1 = q.1 ∧ R K H p.2 q.2
theorem RK.mono {K : PySem.W.Frag} {H H' : Hp} {κ : Type} (e : Ex H H') {xs : List (κ × V)} {ys : List (κ × PyData)} (h : RK K H xs ys) : RK K H' xs ys := Paired.mapP h fun _ _ z => ⟨z.1, R.mono e _ _ z.2⟩
/-- what stands at an owned place p -/
def Cont (K : KW) (H : Hp) (p : Addr) : HO → Sl → Prop
  | .lst vs, .lst ds => RAll K H vs ds
  | .dK kvs, .dk ds => RK K H kvs ds
  | .dT kvs, .dt ds => RK K H kvs ds
  | .ext φ, .st is => ∃ S n, HO.ext φ = SetO K.w p S n ∧ is.Nodup ∧ n = is.length ∧ ∀ i, S i = decide (i ∈ is)
  | _, _ => False
theorem Cont.mono {K : KW} {H H' : Hp} {p : Addr} (e : Ex H H') : ∀ {o : HO} {s : Sl}, Cont K H p o s → Cont K H' p o s := by
  intro o s h
  cases o <;> cases s <;> first | exact h.elim | exact RAll.mono e _ _ h | exact RK.mono e h | exact h
theorem Cont.mut {K : KW} {H : Hp} {p : Addr} {o : HO} {s : Sl} (h : Cont K H p o s) : s.owned = true := by
  cases o <;> cases s <;> first | exact h.elim | rfl
theorem Cont.inv_lst {K : KW} {H : Hp} {p : Addr} {o : HO} {ds : List PyData} (h : Cont K H p o (.lst ds)) : ∃ vs, o = .lst vs ∧ RAll K H vs ds := by
  cases o <;> first | exact h.elim | exact ⟨_, rfl, h⟩
theorem Cont.inv_dk {K : KW} {H : Hp} {p : Addr} {o : HO} {ds : List (Key × PyData)} (h : Cont K H p o (.dk ds)) : ∃ vs, o = .dK vs ∧ RK K H vs ds := by
  cases o <;> first | exact h.elim | exact ⟨_, rfl, h⟩
theorem Cont.inv_dt {K : KW} {H : Hp} {p : Addr} {o : HO} {ds : List (List Key × PyData)} (h : Cont K H p o (.dt ds)) : ∃ vs, o = .dT vs ∧ RK K H vs ds := by
  cases o <;> first | exact h.elim | exact ⟨_, rfl, h⟩
theorem Cont.inv_st {K : KW} {H : Hp} {p : Addr} {o : HO} {is : List Int} (h : Cont K H p o (.st is)) : ∃ S n, o = SetO K.w p S n ∧ is.Nodup ∧ n = is.length ∧ ∀ i, S i = decide (i ∈ is) := by
  cases o <;> first | exact h.elim | (obtain ⟨S, n, e, h⟩ := h; exact ⟨S, n, e, h⟩)
/-- one slot -/
def SlR (K : KW) (O : List Addr) (H : Hp) (x : Option V) : Sl → Prop
  | .un => True
  | .dat d => ∃ v, x = some v ∧ R K (hide O H) v d
  | s => ∃ p ho, x = some (.ref p) ∧ p ∈ O ∧ H p = some ho ∧ Cont K (hide O H) p ho s
theorem SlR.own {K : KW} {O : List Addr} {H : Hp} {x : Option V} {s : Sl} (hs : s.owned = true) : SlR K O H x s ↔ ∃ p ho, x = some (.ref p) ∧ p ∈ O ∧ H p = some ho ∧ Cont K (hide O H) p ho s := by
  cases s <;> first | (exfalso; revert hs; decide) | exact Iff.rfl | (exfalso; simp [Sl.owned] at hs)
/-- the ground: what must stay, the place of an in-out first parameter -/
structure Gd where
  B : Hp
  X : List Addr := []
  anc : Option Addr := none
  gh : List (Addr × Sl) := []
def Gd.push (G : Gd) (p : Addr) (s : Sl) : Gd := { G with gh := (p, s) :: G.gh }
structure SR (K : KW) (G : Gd) (O : List Addr) (σ : St) (H : Hp) (a : AEnv) : Prop where
  ex : Ex G.B H
  xs : ∀ p ∈ G.X, p ∈ O ∧ ∃ o, G.B p = some o
  th : ∀ p ∈ O, ∃ o, H p = some o
  len : a.length = σ.length
  sl : ∀ (i : Nat) (s : Sl) (x : Option V), a[i]? = some s → σ[i]? = some x → SlR K O H x s
  inj : ∀ (i j : Nat) (p : Addr) (s t : Sl), i ≠ j → a[i]? = some s → a[j]? = some t → s.owned = true → t.owned = true → σ[i]? = some (some (.ref p)) → σ[j]? = some (some (.ref p)) → False
  anc : ∀ p, G.anc = some p → ∀ s, a[0]? = some s → s.owned = true → σ[0]? = some (some (.ref p))
  fr : ∀ (i : Nat) (s : Sl) (p : Addr), a[i]? = some s → s.owned = true → σ[i]? = some (some (.ref p)) → G.B p = none
  gh : ∀ p s, (p, s) ∈ G.gh → (p ∈ O ∧ G.B p = none) ∧ (∃ ho, H p = some ho ∧ Cont K (hide O H) p ho s) ∧ ∀ (i : Nat) t, a[i]? = some t → t.owned = true → σ[i]? ≠ some (some (.ref p))
  ghn : (G.gh.map (·.1)).Nodup
section
variable {K : KW} {G : Gd} {O O' : List Addr} {σ : St} {H H' : Hp} {a : AEnv}
theorem SR.x (I : SR K G O σ H a) {i : Nat} {s : Sl} (h : a[i]? = some s) : ∃ x, σ[i]? = some x ∧ SlR K O H x s := by
  have hi : i < σ.length := by
    have := (List.getElem?_eq_some_iff.mp h).1
    rw [I.len] at this
    exact this
  exact ⟨σ[i], by simp [hi], I.sl i s _ h (by simp [hi])⟩
theorem SR.dat (I : SR K G O σ H a) {i : Nat} {d : PyData} (h : a[i]? = some (.dat d)) : ∃ v, σ[i]? = some (some v) ∧ R K (hide O H) v d := by
  obtain ⟨x, e, v, rfl, r⟩ := I.x h
  exact ⟨v, e, r⟩
theorem SR.own (I : SR K G O σ H a) {i : Nat} {s : Sl} (h : a[i]? = some s) (hs : s.owned = true) : ∃ p ho, σ[i]? = some (some (.ref p)) ∧ p ∈ O ∧ H p = some ho ∧ Cont K (hide O H) p ho s := by
  obtain ⟨x, e, q⟩ := I.x h
  obtain ⟨p, ho, rfl, q2⟩ := (SlR.own hs).mp q
  exact ⟨p, ho, e, q2⟩
/-- the heap grows, the owned places stay as they are -/
theorem SR.grow (I : SR K G O σ H a) (e : Ex H H') : SR K G O σ H' a := by
  have eh : Ex (hide O H) (hide O H') := fun b o h => by
    obtain ⟨h1, h2⟩ := hide_some.mp h
    exact hide_some.mpr ⟨h1, e _ _ h2⟩
  refine ⟨I.ex.trans e, I.xs, fun p hp => (I.th p hp).elim fun o ho => ⟨o, e _ _ ho⟩, I.len, fun i s x h1 h2 => ?_, I.inj, I.anc, I.fr, fun p s hp => (I.gh p s hp).imp id fun z => z.imp (fun ⟨ho, h1, h2⟩ => ⟨ho, e _ _ h1, h2.mono eh⟩) id, I.ghn⟩
  have q := I.sl i s x h1 h2
  cases s with
  | un => trivial
  | dat d =>
    obtain ⟨v, e1, r⟩ := q
    exact ⟨v, e1, R.mono eh _ _ r⟩
  | lst ds =>
    obtain ⟨p, ho, e1, m, hp, c⟩ := q
    exact ⟨p, ho, e1, m, e _ _ hp, c.mono eh⟩
  | dk ds =>
    obtain ⟨p, ho, e1, m, hp, c⟩ := q
    exact ⟨p, ho, e1, m, e _ _ hp, c.mono eh⟩
  | dt ds =>
    obtain ⟨p, ho, e1, m, hp, c⟩ := q
    exact ⟨p, ho, e1, m, e _ _ hp, c.mono eh⟩
  | st ds =>
    obtain ⟨p, ho, e1, m, hp, c⟩ := q
    exact ⟨p, ho, e1, m, e _ _ hp, c.mono eh⟩
theorem ext_grow (e : Ex H H') : Ext O H O H' := fun b o h => by
  obtain ⟨h1, h2⟩ := hide_some.mp h
  exact hide_some.mpr ⟨h1, e _ _ h2⟩
end

/-! ### mirrors -/
structure Exc where
  cls : Addr
  fs : List (Str × PyData) := []
abbrev M (α : Type) := AEnv → Option (Except Exc α × AEnv)
namespace M
def pure {α : Type} (x : α) : M α := fun a => some (.ok x, a)
def bind {α β : Type} (m : M α) (f : α → M β) : M β := fun a => match m a with
  | none => none
  | some (.error e, a1) => some (.error e, a1)
  | some (.ok r, a1) => f r a1
def fail {α : Type} : M α := fun _ => none
def raise {α : Type} (e : Exc) : M α := fun a => some (.error e, a)
def of {α : Type} (o : Option α) : M α := fun a => match o with
  | none => none
  | some x => some (.ok x, a)
def get : M AEnv := fun a => some (.ok a, a)
def map {α β : Type} (f : α → β) (m : M α) : M β := bind m fun x => pure (f x)
end M

/-- the wish of exceptions, with fields -/
def ExcR (K : KW) (O : List Addr) (H : Hp) (d : Option Addr) (e : Exc) : Prop :=
  (e.fs = [] ∧ d = none) ∨ (∃ p vs, d = some p ∧ H p = some (.xd vs) ∧ RK K (hide O H) vs e.fs)

section
variable {ν α β : Type}
/-- the relation of a result: ground, owned places, slots, heap, abstract state, value, mirror's value -/
abbrev RRel (ν α : Type) := Gd → List Addr → St → Hp → AEnv → ν → α → Prop
def Fin (K : KW) (W : WX) (RR : RRel ν α) (G : Gd) (O : List Addr) (σ : St) (H : Hp) (x : Except Exc α × AEnv) (Q : ν → Hp → Prop) : Prop := match x with
  | (.ok r, a') => ∀ O' H' v, SR K G O' σ H' a' → Ext O H O' H' → RR G O' σ H' a' v r → Q v H'
  | (.error e, a') => ∀ O' H' d, SR K G O' σ H' a' → Ext O H O' H' → ExcR K O' H' d e → W (.ref e.cls) d σ H'
structure At (K : KW) (W : WX) (RR : RRel ν α) (m : M α) (G : Gd) (O : List Addr) (a : AEnv) (σ : St) (H : Hp) (Q : ν → Hp → Prop) : Prop where
  sr : SR K G O σ H a
  go : ∃ x, m a = some x ∧ Fin K W RR G O σ H x Q
/-- the reading of a mirror -/
def tM (K : KW) (W : WX) (RR : RRel ν α) (m : M α) : St → Hp → (ν → Hp → Prop) → Prop := fun σ H Q => ∃ G O a, At K W RR m G O a σ H Q
end
section
variable {ν μ α β : Type} {K : KW} {W : WX} {RR : RRel ν α} {RS : RRel μ β} {m : M α} {f : α → M β} {G : Gd} {O : List Addr} {a : AEnv} {σ : St} {H : Hp} {Q : μ → Hp → Prop} {Q1 : ν → Hp → Prop}
theorem At.bind (h : At K W RS (M.bind m f) G O a σ H Q)
    (k : ∀ O1 H1 a1 v r, SR K G O1 σ H1 a1 → Ext O H O1 H1 → RR G O1 σ H1 a1 v r → At K W RS (f r) G O1 a1 σ H1 Q → Q1 v H1) : At K W RR m G O a σ H Q1 := by
  obtain ⟨I, x, e, F⟩ := h
  refine ⟨I, ?_⟩
  unfold M.bind at e
  cases em : m a with
  | none => rw [em] at e; cases e
  | some y =>
    refine ⟨y, rfl, ?_⟩
    obtain ⟨y1, a1⟩ := y
    rw [em] at e
    cases y1 with
    | error er =>
      have e' : (Except.error er, a1) = x := Option.some.inj e
      subst e'
      exact F
    | ok r =>
      have e' : f r a1 = some x := e
      show ∀ O' H' v, SR K G O' σ H' a1 → Ext O H O' H' → RR G O' σ H' a1 v r → Q1 v H'
      intro O1 H1 v I1 e1 r1
      refine k O1 H1 a1 v r I1 e1 r1 ⟨I1, x, e', ?_⟩
      obtain ⟨x1, a2⟩ := x
      cases x1 with
      | error er => exact fun O' H' d I' e2 q => F O' H' d I' (e1.trans e2) q
      | ok r2 => exact fun O' H' v I' e2 q => F O' H' v I' (e1.trans e2) q
theorem At.pure {r : β} (h : At K W RS (M.pure r) G O a σ H Q) {v : μ} (q : RS G O σ H a v r) : Q v H := by
  obtain ⟨I, x, e, F⟩ := h
  have e' : (Except.ok r, a) = x := Option.some.inj e
  subst e'
  exact F O H v I (Ext.refl _ _) q
/-- the same where the heap has grown -/
theorem At.pureG {H' : Hp} {r : β} (h : At K W RS (M.pure r) G O a σ H Q) (eh : Ex H H') {v : μ} (q : RS G O σ H' a v r) : Q v H' := by
  obtain ⟨I, x, e, F⟩ := h
  have e' : (Except.ok r, a) = x := Option.some.inj e
  subst e'
  exact F O H' v (I.grow eh) (ext_grow eh) q
theorem At.of {o : Option β} (h : At K W RS (M.of o) G O a σ H Q) : ∃ r, o = some r ∧ At K W RS (M.pure r) G O a σ H Q := by
  obtain ⟨I, x, e, F⟩ := h
  cases o with
  | none => cases e
  | some r => exact ⟨r, rfl, I, x, e, F⟩
theorem At.ofB {γ : Type} {o : Option γ} {f : γ → M β} (h : At K W RS (M.bind (M.of o) f) G O a σ H Q) : ∃ r, o = some r ∧ At K W RS (f r) G O a σ H Q := by
  obtain ⟨I, x, e, F⟩ := h
  cases o with
  | none => cases e
  | some r => exact ⟨r, rfl, I, x, e, F⟩
theorem At.getB {f : AEnv → M β} (h : At K W RS (M.bind M.get f) G O a σ H Q) : At K W RS (f a) G O a σ H Q := by
  obtain ⟨I, x, e, F⟩ := h
  exact ⟨I, x, e, F⟩
theorem At.pureB {γ : Type} {o : γ} {f : γ → M β} (h : At K W RS (M.bind (M.pure o) f) G O a σ H Q) : At K W RS (f o) G O a σ H Q := by
  obtain ⟨I, x, e, F⟩ := h
  exact ⟨I, x, e, F⟩
theorem At.go' (h : At K W RR m G O a σ H Q1) : tM K W RR m σ H Q1 := ⟨G, O, a, h⟩
end

/-! ### the results' relations -/
/-- data -/
def RD (K : KW) : RRel V PyData := fun _ O _ H _ v d => R K (hide O H) v d
/-- a new owned thing -/
def RN (K : KW) : RRel V Sl := fun G O σ H a v s => s.owned = true ∧ (∃ p ho, v = .ref p ∧ p ∈ O ∧ H p = some ho ∧ Cont K (hide O H) p ho s ∧ (∀ (i : Nat) t, a[i]? = some t → t.owned = true → σ[i]? ≠ some (some (.ref p))) ∧ (∀ t, (p, t) ∉ G.gh) ∧ G.B p = none)
/-- either -/
def RS (K : KW) : RRel V Sl := fun G O σ H a v s => (∃ d, s = .dat d ∧ R K (hide O H) v d) ∨ RN K G O σ H a v s
/-- a handle: what is read when it is used; data, or a slot's own list -/
def RP (K : KW) (O : List Addr) (H : Hp) (v : V) (d : PyData) : Prop := R K (hide O H) v d ∨ ∃ p vs ds, v = .ref p ∧ d = .list ds ∧ SqL K H p vs ∧ RAll K (hide O H) vs ds
abbrev Hn := AEnv → Option PyData
def RH (K : KW) : RRel V Hn := fun G O σ H _ v h => ∀ O' H' a' d, SR K G O' σ H' a' → Ext O H O' H' → h a' = some d → RP K O' H' v d
/-- lists of these -/
def RDs (K : KW) : RRel (List V) (List PyData) := fun _ O _ H _ vs ds => RAll K (hide O H) vs ds
def RHs (K : KW) : RRel (List V) (List Hn) := fun G O σ H a vs hs => Paired (fun v h => RH K G O σ H a v h) vs hs
def RB : RRel Bool Bool := fun _ _ _ _ _ b c => b = c
theorem RP.full {K : KW} {O : List Addr} {H : Hp} {v : V} {d : PyData} (h : RP K O H v d) : R K H v d := by
  rcases h with h | ⟨p, vs, ds, rfl, rfl, h1, h2⟩
  · exact R.mono (hide_ex O H) _ _ h
  · exact .lst h1 (RAll.mono (hide_ex O H) _ _ h2)
theorem RP.lst {K : KW} {O : List Addr} {H : Hp} {v : V} {ds : List PyData} (h : RP K O H v (.list ds)) : ∃ p vs, v = .ref p ∧ SqL K H p vs ∧ RAll K (hide O H) vs ds := by
  rcases h with h | ⟨p, vs, ds', rfl, e, h1, h2⟩
  · cases h with
    | lst h1 h2 => exact ⟨_, _, rfl, (hide_ex O H).l h1, h2⟩
  · cases e
    exact ⟨p, vs, rfl, h1, h2⟩
theorem RP.tup {K : KW} {O : List Addr} {H : Hp} {v : V} {ds : List PyData} (h : RP K O H v (.tuple ds)) : ∃ p vs, v = .ref p ∧ SqT K H p vs ∧ RAll K (hide O H) vs ds := by
  rcases h with h | ⟨p, vs, ds', rfl, e, h1, h2⟩
  · cases h with
    | tup h1 h2 => exact ⟨_, _, rfl, (hide_ex O H).t h1, h2⟩
  · cases e
theorem RP.int {K : KW} {O : List Addr} {H : Hp} {v : V} {i : Int} (h : RP K O H v (.int i)) : v = .int i := by
  rcases h with h | ⟨p, vs, ds', rfl, e, h1, h2⟩
  · cases h; rfl
  · cases e
theorem RP.bl {K : KW} {O : List Addr} {H : Hp} {v : V} {i : Bool} (h : RP K O H v (.bool i)) : v = .bl i := by
  rcases h with h | ⟨p, vs, ds', rfl, e, h1, h2⟩
  · cases h; rfl
  · cases e
theorem RP.str {K : KW} {O : List Addr} {H : Hp} {v : V} {i : Str} (h : RP K O H v (.str i)) : v = .str i := by
  rcases h with h | ⟨p, vs, ds', rfl, e, h1, h2⟩
  · cases h; rfl
  · cases e
theorem RP.non {K : KW} {O : List Addr} {H : Hp} {v : V} (h : RP K O H v .none) : v = .non := by
  rcases h with h | ⟨p, vs, ds', rfl, e, h1, h2⟩
  · cases h; rfl
  · cases e

/-! ### the judgements -/
abbrev PD (X : Cx) (W : WX) (e : Expr) (m : M PyData) : Prop := PE X e (tM X.kw W (RD X.kw) m)
abbrev PX (X : Cx) (W : WX) (e : Expr) (m : M Sl) : Prop := PE X e (tM X.kw W (RS X.kw) m)
abbrev PH (X : Cx) (W : WX) (e : Expr) (m : M Hn) : Prop := PE X e (tM X.kw W (RH X.kw) m)
abbrev PDs (X : Cx) (W : WX) (es : List Expr) (m : M (List PyData)) : Prop := PA X es (tM X.kw W (RDs X.kw) m)
abbrev PHs (X : Cx) (W : WX) (es : List Expr) (m : M (List Hn)) : Prop := PA X es (tM X.kw W (RHs X.kw) m)
abbrev PB (X : Cx) (W : WX) (e : Expr) (m : M Bool) : Prop := PT X e (tM X.kw W RB m)

theorem PE.imp {X : Cx} {e : Expr} {t u : TE} (h : PE X e t) (k : ∀ σ H Q, u σ H Q → t σ H Q) : PE X e u := ⟨fun pins s σ H Q I q => h.run pins s σ H Q I (k σ H Q q)⟩
theorem PA.imp {X : Cx} {e : List Expr} {t u : TA} (h : PA X e t) (k : ∀ σ H Q, u σ H Q → t σ H Q) : PA X e u := ⟨fun pos pins s σ H Q I q => h.run pos pins s σ H Q I (k σ H Q q)⟩
theorem PT.imp {X : Cx} {e : Expr} {t u : TT} (h : PT X e t) (k : ∀ σ H Q, u σ H Q → t σ H Q) : PT X e u := ⟨fun pins s σ H Q I q => h.run pins s σ H Q I (k σ H Q q)⟩
theorem PS.imp {X : Cx} {e : Stmt} {t u : TS} (h : PS X e t) (k : ∀ D σ H, u D σ H → t D σ H) : PS X e u := ⟨fun pins s σ H Q I q => h.run pins s σ H Q I (k Q σ H q)⟩
theorem PSs.imp {X : Cx} {e : List Stmt} {t u : TS} (h : PSs X e t) (k : ∀ D σ H, u D σ H → t D σ H) : PSs X e u := ⟨fun pins s σ H Q I q => h.run pins s σ H Q I (k Q σ H q)⟩

/-! ### from one to the other -/
section
variable {X : Cx} {W : WX} {e : Expr}
/-- a new thing that nobody owns any more becomes data -/
theorem SR.letgo {K : KW} {G : Gd} {O : List Addr} {σ : St} {H : Hp} {a : AEnv} (I : SR K G O σ H a) {p : Addr} (h : ∀ (i : Nat) t, a[i]? = some t → t.owned = true → σ[i]? ≠ some (some (.ref p))) (hg : ∀ s, (p, s) ∉ G.gh) (hB : G.B p = none) :
    SR K G (O.filter fun b => decide (b ≠ p)) σ H a := by
  have mem : ∀ {b : Addr}, b ∈ (O.filter fun b => decide (b ≠ p)) ↔ b ∈ O ∧ b ≠ p := fun {b} => by simp
  have eh : Ex (hide O H) (hide (O.filter fun b => decide (b ≠ p)) H) := fun b o q => by
    obtain ⟨h1, h2⟩ := hide_some.mp q
    exact hide_some.mpr ⟨fun z => h1 (mem.mp z).1, h2⟩
  refine ⟨I.ex, fun b hb => ⟨mem.mpr ⟨(I.xs b hb).1, fun e => (by obtain ⟨o, z⟩ := (I.xs b hb).2; rw [e, hB] at z; cases z)⟩, (I.xs b hb).2⟩, fun b hb => I.th b (mem.mp hb).1, I.len, fun i s x h1 h2 => ?_, I.inj, I.anc, I.fr, fun b s hb => (I.gh b s hb).imp (fun z => ⟨mem.mpr ⟨z.1, fun e => hg s (e ▸ hb)⟩, z.2⟩) fun z => z.imp (fun ⟨ho, h1, h2⟩ => ⟨ho, h1, h2.mono eh⟩) id, I.ghn⟩
  have q := I.sl i s x h1 h2
  cases hs : s.owned with
  | true =>
    obtain ⟨b, ho, e1, m, hp, c⟩ := (SlR.own hs).mp q
    subst e1
    have nb : b ≠ p := fun z => h i s h1 hs (by rw [h2, z])
    exact (SlR.own hs).mpr ⟨b, ho, rfl, mem.mpr ⟨m, nb⟩, hp, c.mono eh⟩
  | false =>
    cases s with
    | un => trivial
    | dat d =>
      obtain ⟨v, e1, r⟩ := q
      exact ⟨v, e1, R.mono eh _ _ r⟩
    | _ => exact absurd hs (by simp [Sl.owned])
theorem ext_letgo {O : List Addr} {H : Hp} {p : Addr} : Ext O H (O.filter fun b => decide (b ≠ p)) H := fun b o q => by
  obtain ⟨h1, h2⟩ := hide_some.mp q
  exact hide_some.mpr ⟨fun z => h1 (List.mem_filter.mp z).1, h2⟩
/-- a new list as data -/
def frz : Sl → Option PyData
  | .dat d => some d
  | .lst ds => some (.list ds)
  | .dk [] => some (.dict [])
  | _ => none
def mFrz (m : M Sl) : M PyData := M.bind m fun s => M.of (frz s)
theorem pd_x {m : M Sl} (h : PX X W e m) : PD X W e (mFrz m) := by
  refine PE.imp h fun σ H Q ⟨G, O, a, q⟩ => ⟨G, O, a, q.bind (RR := RS X.kw) fun O1 H1 a1 v s I1 e1 r1 q1 => ?_⟩
  obtain ⟨d, hd, q2⟩ := q1.of
  rcases r1 with ⟨d', rfl, r⟩ | ⟨hs, p, ho, rfl, hm, hp, c, nb, ng, nB⟩
  · cases hd
    exact q2.pure r
  obtain ⟨I2, x, ex, F⟩ := q2
  have ex' : (Except.ok d, a1) = x := Option.some.inj ex
  subst ex'
  refine F (O1.filter fun b => decide (b ≠ p)) H1 (.ref p) (SR.letgo I1 nb ng nB) ext_letgo ?_
  have np : p ∉ (O1.filter fun b => decide (b ≠ p)) := fun z => by simp at z
  cases s with
  | lst ds =>
    obtain ⟨vs, rfl, r⟩ := c.inv_lst
    cases hd
    exact .lst (SqL.of (hide_some.mpr ⟨np, hp⟩)) (RAll.mono ext_letgo _ _ r)
  | dk kvs =>
    obtain ⟨vs, rfl, r⟩ := c.inv_dk
    cases kvs with
    | nil =>
      cases r
      cases hd
      exact .dic0 (hide_some.mpr ⟨np, hp⟩)
    | cons _ _ => cases hd
  | dat d => cases hs
  | un => cases hs
  | _ => cases hd
def mX (m : M PyData) : M Sl := M.map Sl.dat m
theorem px_d {m : M PyData} (h : PD X W e m) : PX X W e (mX m) := by
  refine PE.imp h fun σ H Q ⟨G, O, a, q⟩ => ⟨G, O, a, q.bind (RR := RD X.kw) fun O1 H1 a1 v d I1 e1 r1 q1 => ?_⟩
  exact q1.pure (v := v) (.inl ⟨d, rfl, r1⟩)
def mH (m : M PyData) : M Hn := M.map (fun d _ => some d) m
theorem ph_d {m : M PyData} (h : PD X W e m) : PH X W e (mH m) := by
  refine PE.imp h fun σ H Q ⟨G, O, a, q⟩ => ⟨G, O, a, q.bind (RR := RD X.kw) fun O1 H1 a1 v d I1 e1 r1 q1 => ?_⟩
  exact q1.pure (v := v) fun O2 H2 a2 d2 I2 e2 h2 => by
    cases h2
    exact .inl (R.mono e2 _ _ r1)
theorem ph_x {m : M Sl} (h : PX X W e m) : PH X W e (mH (mFrz m)) := ph_d (pd_x h)
end

/-! ### what an operation upon values gives -/
/-- data, or a new thing at a new place -/
def Out (K : KW) (O : List Addr) (H : Hp) (s : Sl) (Q : VK) : Prop := match s with
  | .dat d => ∀ H' v, Ex H H' → R K (hide O H') v d → Q v H'
  | s => ∀ H' p ho, Ex H H' → H p = none → H' p = some ho → Cont K (hide O H) p ho s → Q (.ref p) H'
theorem Out.new {K : KW} {O : List Addr} {H H' : Hp} {s : Sl} {Q : VK} (h : Out K O H s Q) {p : Addr} {ho : HO} (e : Ex H H') (np : H p = none) (hp : H' p = some ho) (c : Cont K (hide O H) p ho s) : Q (.ref p) H' := by
  cases s with
  | dat d => exact absurd c.mut (by simp [Sl.owned])
  | _ => exact h H' p ho e np hp c
section
variable {K : KW} {W : WX} {G : Gd} {O : List Addr} {a : AEnv} {σ : St} {H H' : Hp} {Q : VK}
/-- a new thing is taken among the owned -/
theorem SR.take (I : SR K G O σ H a) {p : Addr} {ho : HO} (e : Ex H H') (np : H p = none) (hp : H' p = some ho) : SR K G (p :: O) σ H' a := by
  have nO : p ∉ O := fun z => by
    obtain ⟨o, ho⟩ := I.th p z
    rw [np] at ho
    cases ho
  have eh : Ex (hide O H) (hide (p :: O) H') := fun b o q => by
    obtain ⟨h1, h2⟩ := hide_some.mp q
    exact hide_some.mpr ⟨fun z => (List.mem_cons.mp z).elim (fun z => by rw [z, np] at h2; cases h2) h1, e _ _ h2⟩
  refine ⟨I.ex.trans e, fun b hb => ⟨List.mem_cons_of_mem _ (I.xs b hb).1, (I.xs b hb).2⟩, fun b hb => ?_, I.len, fun i s x h1 h2 => ?_, I.inj, I.anc, I.fr, fun b s hb => (I.gh b s hb).imp (fun z => ⟨List.mem_cons_of_mem _ z.1, z.2⟩) fun z => z.imp (fun ⟨ho, h1, h2⟩ => ⟨ho, e _ _ h1, h2.mono eh⟩) id, I.ghn⟩
  · rcases List.mem_cons.mp hb with rfl | hb
    · exact ⟨ho, hp⟩
    · exact (I.th b hb).elim fun o q => ⟨o, e _ _ q⟩
  · have q := I.sl i s x h1 h2
    cases hs : s.owned with
    | true =>
      obtain ⟨b, ho', e1, m, hp', c⟩ := (SlR.own hs).mp q
      exact (SlR.own hs).mpr ⟨b, ho', e1, List.mem_cons_of_mem _ m, e _ _ hp', c.mono eh⟩
    | false =>
      cases s with
      | un => trivial
      | dat d =>
        obtain ⟨v, e1, r⟩ := q
        exact ⟨v, e1, R.mono eh _ _ r⟩
      | _ => exact absurd hs (by simp [Sl.owned])
theorem ext_take (I : SR K G O σ H a) {p : Addr} (e : Ex H H') (np : H p = none) : Ext O H (p :: O) H' := fun b o q => by
  obtain ⟨h1, h2⟩ := hide_some.mp q
  exact hide_some.mpr ⟨fun z => (List.mem_cons.mp z).elim (fun z => by rw [z, np] at h2; cases h2) h1, e _ _ h2⟩
theorem At.out {s : Sl} (h : At K W (RS K) (M.pure s) G O a σ H Q) (hu : s ≠ .un) : Out K O H s Q := by
  obtain ⟨I, x, e, F⟩ := h
  have e' : (Except.ok s, a) = x := Option.some.inj e
  subst e'
  have new : s.owned = true → ∀ H' p ho, Ex H H' → H p = none → H' p = some ho → Cont K (hide O H) p ho s → Q (.ref p) H' := fun hs H' p ho ex np hp c => by
    refine F (p :: O) H' (.ref p) (I.take ex np hp) (ext_take I ex np) (.inr ⟨hs, p, ho, rfl, List.mem_cons_self, hp, c.mono (ext_take I ex np), fun i t h1 h2 h3 => ?_, fun t ht => ((by
      obtain ⟨_, ⟨ho', z, _⟩, _⟩ := I.gh p t ht
      rw [np] at z
      cases z) : False), I.ex.free np⟩)
    obtain ⟨b, ho', e1, m, _⟩ := I.own h1 h2
    rw [h3] at e1
    cases e1
    obtain ⟨o, q⟩ := I.th p m
    rw [np] at q
    cases q
  cases s with
  | un => exact absurd rfl hu
  | dat d => exact fun H' v ex r => F O H' v (I.grow ex) (ext_grow ex) (.inl ⟨d, rfl, r⟩)
  | lst ds => exact new rfl
  | dk ds => exact new rfl
  | dt ds => exact new rfl
  | st ds => exact new rfl
theorem At.outD {d : PyData} (h : At K W (RD K) (M.pure d) G O a σ H Q) : ∀ H' v, Ex H H' → R K (hide O H') v d → Q v H' := fun H' v ex r => h.pureG ex r
end
/-! ### ghosts: what is new is remembered while something else is evaluated -/
section
variable {K : KW} {G : Gd} {O : List Addr} {a : AEnv} {σ : St} {H : Hp}
theorem SR.push (I : SR K G O σ H a) {p : Addr} {s : Sl} (r : RN K G O σ H a (.ref p) s) : SR K (G.push p s) O σ H a := by
  obtain ⟨hs, p', ho, e, hm, hp, c, nb, ng, nB⟩ := r
  cases e
  refine ⟨I.ex, I.xs, I.th, I.len, I.sl, I.inj, I.anc, I.fr, fun b t hb => ?_, ?_⟩
  · rcases List.mem_cons.mp hb with e | hb
    · cases e
      exact ⟨⟨hm, nB⟩, ⟨ho, hp, c⟩, nb⟩
    · exact I.gh b t hb
  · refine List.nodup_cons.mpr ⟨fun z => ?_, I.ghn⟩
    obtain ⟨⟨b, t⟩, h1, h2⟩ := List.mem_map.mp z
    have h2' : b = p := h2
    subst h2'
    exact ng t h1
theorem SR.pop {p : Addr} {s : Sl} (I : SR K (G.push p s) O σ H a) (hs : s.owned = true) : SR K G O σ H a ∧ RN K G O σ H a (.ref p) s := by
  obtain ⟨h1, ⟨ho, h2, h3⟩, h4⟩ := I.gh p s List.mem_cons_self
  refine ⟨⟨I.ex, I.xs, I.th, I.len, I.sl, I.inj, I.anc, I.fr, fun b t hb => I.gh b t (List.mem_cons_of_mem _ hb), (List.nodup_cons.mp I.ghn).2⟩, hs, p, ho, rfl, h1.1, h2, h3, h4, fun t ht => ?_, h1.2⟩
  exact (List.nodup_cons.mp I.ghn).1 (List.mem_map.mpr ⟨(p, t), ht, rfl⟩)
end
end Am

/-! Am2: expressions. -/
namespace Am
open PySem L2

/-! ### names, constants -/
def cont : Sl → Option PyData
  | .dat d => some d
  | .lst ds => some (.list ds)
  | _ => none
def hV (i : Nat) : Hn := fun a => (a[i]?).bind cont
def mV (i : Nat) : M Hn := fun a => match (a[i]?).bind cont with
  | none => none
  | some _ => some (.ok (hV i), a)
section
variable {X : Cx} {W : WX} {x : Str} {pos : Pos}
theorem ph_v (i : Nat) (hN : X.N[i]? = some x := by rfl) (hv : Vis X.env.scope x := by first | exact Or.inl rfl | exact Or.inr (Or.inl rfl) | exact Or.inr (Or.inr rfl)) (hd : (x == ("__debug__" : Str)) = false := by decide)
    (hcd : (x == ("__classdict__" : Str)) = false := by decide) : PH X W (.Name x pos) (mV i) := by
  refine PE.imp (pe_var (i := i) hN hv hd hcd) fun σ H Q ⟨G, O, a, I, y, e, F⟩ => ?_
  unfold mV at e
  cases h : (a[i]?).bind cont with
  | none => rw [h] at e; cases e
  | some d =>
    rw [h] at e
    have e' : (Except.ok (hV i), a) = y := Option.some.inj e
    subst e'
    cases hs : a[i]? with
    | none => rw [hs] at h; cases h
    | some s =>
      have hx : ∃ v, σ[i]? = some (some v) := by
        rw [hs] at h
        cases s with
        | dat d => obtain ⟨v, e, _⟩ := I.dat hs; exact ⟨v, e⟩
        | lst ds => obtain ⟨p, ho, e, _⟩ := I.own hs rfl; exact ⟨_, e⟩
        | _ => cases h
      obtain ⟨v, hv⟩ := hx
      refine ⟨v, hv, F O H v I (Ext.refl _ _) fun O' H' a' d' I' e' hd' => ?_⟩
      cases hs' : a'[i]? with
      | none =>
        have z : (a'[i]?).bind cont = some d' := hd'
        rw [hs'] at z; cases z
      | some s' =>
        have z : (a'[i]?).bind cont = some d' := hd'
        rw [hs'] at z
        cases s' with
        | dat d2 =>
          obtain ⟨v2, e2, r⟩ := I'.dat hs'
          rw [hv] at e2
          cases e2
          cases z
          exact .inl r
        | lst ds =>
          obtain ⟨p, ho, e2, m, hp, c⟩ := I'.own hs' rfl
          rw [hv] at e2
          cases e2
          cases z
          obtain ⟨vs, rfl, r⟩ := c.inv_lst
          exact .inr ⟨p, vs, ds, rfl, rfl, SqL.of hp, r⟩
        | _ => cases z
/-- data: the name's own; a list of its own becomes data for ever -/
def mVD (i : Nat) : M PyData := fun a => match a[i]? with
  | some (.dat d) => some (.ok d, a)
  | some (.lst ds) => some (.ok (.list ds), a.set i (.dat (.list ds)))
  | _ => none
/-- a slot changes from owned to something that is not owned -/
theorem SR.slot {K : KW} {G : Gd} {O : List Addr} {σ : St} {H : Hp} {a : AEnv} (I : SR K G O σ H a) {i : Nat} {t : Sl} (ht : t.owned = false) (h : ∀ x, σ[i]? = some x → SlR K O H x t) : SR K G O σ H (a.set i t) := by
  have old : ∀ {j : Nat} {s : Sl}, s.owned = true → (a.set i t)[j]? = some s → j ≠ i ∧ a[j]? = some s := fun {j s} hs hj => by
    by_cases e : i = j
    · subst e
      by_cases hl : i < a.length
      · rw [List.getElem?_set_self hl] at hj
        cases hj
        rw [ht] at hs
        cases hs
      · rw [List.getElem?_eq_none (by simpa using hl)] at hj
        cases hj
    · rw [List.getElem?_set_ne e] at hj
      exact ⟨Ne.symm e, hj⟩
  refine ⟨I.ex, I.xs, I.th, by simpa using I.len, fun j s x h1 h2 => ?_, fun j k p s u hjk h1 h2 hs hu e1 e2 => I.inj j k p s u hjk (old hs h1).2 (old hu h2).2 hs hu e1 e2, fun p hp s h1 hs => I.anc p hp s (old hs h1).2 hs, fun j s p h1 h2 h3 => I.fr j s p (old h2 h1).2 h2 h3, fun p s hp => (I.gh p s hp).imp id fun z => z.imp id fun z j t h1 h2 => z j t (old h2 h1).2 h2, I.ghn⟩
  by_cases e : i = j
  · subst e
    by_cases hl : i < a.length
    · rw [List.getElem?_set_self hl] at h1
      cases h1
      exact h x h2
    · rw [List.getElem?_eq_none (by simpa using hl)] at h1
      cases h1
  · rw [List.getElem?_set_ne e] at h1
    exact I.sl j s x h1 h2
theorem pd_v (i : Nat) (hN : X.N[i]? = some x := by rfl) (hv : Vis X.env.scope x := by first | exact Or.inl rfl | exact Or.inr (Or.inl rfl) | exact Or.inr (Or.inr rfl)) (hd : (x == ("__debug__" : Str)) = false := by decide)
    (hcd : (x == ("__classdict__" : Str)) = false := by decide) : PD X W (.Name x pos) (mVD i) := by
  refine PE.imp (pe_var (i := i) hN hv hd hcd) fun σ H Q ⟨G, O, a, I, y, e, F⟩ => ?_
  unfold mVD at e
  split at e
  · rename_i d hs
    have e' : (Except.ok d, a) = y := Option.some.inj e
    subst e'
    obtain ⟨v, hv, r⟩ := I.dat hs
    exact ⟨v, hv, F O H v I (Ext.refl _ _) r⟩
  · rename_i ds hs
    have e' : (Except.ok (PyData.list ds), a.set i (.dat (.list ds))) = y := Option.some.inj e
    subst e'
    obtain ⟨p, ho, hv, m, hp, c⟩ := I.own hs rfl
    obtain ⟨vs, rfl, r⟩ := c.inv_lst
    have I1 : SR X.kw G O σ H (a.set i .un) := I.slot rfl fun _ _ => trivial
    have nb : ∀ (j : Nat) t, (a.set i Sl.un)[j]? = some t → t.owned = true → σ[j]? ≠ some (some (.ref p)) := fun j t h1 h2 h3 => by
      by_cases e : i = j
      · subst e
        by_cases hl : i < a.length
        · rw [List.getElem?_set_self hl] at h1
          cases h1
          cases h2
        · rw [List.getElem?_eq_none (by simpa using hl)] at h1
          cases h1
      · rw [List.getElem?_set_ne e] at h1
        exact I.inj i j p _ _ e hs h1 rfl h2 hv h3
    have np : p ∉ (O.filter fun b => decide (b ≠ p)) := fun z => by simp at z
    have rr : R X.K (hide (O.filter fun b => decide (b ≠ p)) H) (.ref p) (.list ds) := .lst (SqL.of (hide_some.mpr ⟨np, hp⟩)) (RAll.mono ext_letgo _ _ r)
    have ng : ∀ t, (p, t) ∉ G.gh := fun t ht => (I.gh p t ht).2.2 i _ hs rfl hv
    have I2 := (SR.letgo I1 nb ng (I.fr i _ p hs rfl hv)).slot (i := i) (t := .dat (.list ds)) rfl fun x hx => by
      rw [hv] at hx
      cases hx
      exact ⟨_, rfl, rr⟩
    rw [List.set_set] at I2
    exact ⟨.ref p, hv, F _ H (.ref p) I2 ext_letgo rr⟩
  · cases e
/-- what a name owns is handed on (return) -/
def mVX (i : Nat) : M Sl := fun a => match a[i]? with
  | some .un => none
  | some (.dat d) => some (.ok (.dat d), a)
  | some s => some (.ok s, a.set i .un)
  | none => none
theorem px_v (i : Nat) (hN : X.N[i]? = some x := by rfl) (hv : Vis X.env.scope x := by first | exact Or.inl rfl | exact Or.inr (Or.inl rfl) | exact Or.inr (Or.inr rfl)) (hd : (x == ("__debug__" : Str)) = false := by decide)
    (hcd : (x == ("__classdict__" : Str)) = false := by decide) : PX X W (.Name x pos) (mVX i) := by
  refine PE.imp (pe_var (i := i) hN hv hd hcd) fun σ H Q ⟨G, O, a, I, y, e, F⟩ => ?_
  unfold mVX at e
  split at e
  · cases e
  · rename_i d hs
    have e' : (Except.ok (Sl.dat d), a) = y := Option.some.inj e
    subst e'
    obtain ⟨v, hv, r⟩ := I.dat hs
    exact ⟨v, hv, F O H v I (Ext.refl _ _) (.inl ⟨d, rfl, r⟩)⟩
  · rename_i s n1 n2 hs
    have e' : (Except.ok s, a.set i .un) = y := Option.some.inj e
    subst e'
    have hso : s.owned = true := by cases s <;> first | rfl | exact absurd rfl n1 | exact absurd rfl (n2 _)
    obtain ⟨p, ho, hv, m, hp, c⟩ := I.own hs hso
    have I1 : SR X.kw G O σ H (a.set i .un) := I.slot rfl fun _ _ => trivial
    have nb : ∀ (j : Nat) t, (a.set i Sl.un)[j]? = some t → t.owned = true → σ[j]? ≠ some (some (.ref p)) := fun j t h1 h2 h3 => by
      by_cases e : i = j
      · subst e
        by_cases hl : i < a.length
        · rw [List.getElem?_set_self hl] at h1
          cases h1
          cases h2
        · rw [List.getElem?_eq_none (by simpa using hl)] at h1
          cases h1
      · rw [List.getElem?_set_ne e] at h1
        exact I.inj i j p _ _ e hs h1 hso h2 hv h3
    exact ⟨.ref p, hv, F O H (.ref p) I1 (Ext.refl _ _) (.inr ⟨hso, p, ho, rfl, m, hp, c, nb, fun t ht => (I.gh p t ht).2.2 i _ hs hso hv, I.fr i _ p hs hso hv⟩)⟩
  · cases e
theorem pd_c {e : Expr} {v : V} {d : PyData} (h : PE X e (tC v)) (r : ∀ H, R X.K H v d) : PD X W e (M.pure d) :=
  PE.imp h fun σ H Q ⟨G, O, a, q⟩ => q.pure (v := v) (r _)
theorem pd_int {i : Int} {j} : PD X W (.Constant (.int i) j pos) (M.pure (.int i)) := pd_c pe_int fun _ => .int i
theorem pd_bl {b j} : PD X W (.Constant (.bool b) j pos) (M.pure (.bool b)) := pd_c pe_bl fun _ => .bl b
theorem pd_non {j} : PD X W (.Constant .none j pos) (M.pure .none) := pd_c pe_non fun _ => .non
theorem pd_str {s : Str} {j} : PD X W (.Constant (.str s) j pos) (M.pure (.str s)) := pd_c pe_str fun _ => .str s
/-- a global constant of the module -/
theorem pd_glob {v : V} {u : Value} {d : PyData} (hg : Gl X x) (hm : X.mg x = some u) (r : RelV v u) (rd : ∀ H, R X.K H v d) (hd : (x == ("__debug__" : Str)) = false := by decide) : PD X W (.Name x pos) (M.pure d) :=
  pd_c (pe_glob hg hm r hd) rd
end

/-! ### operators -/
def Thr (O : List Addr) (H : Hp) : Prop := ∀ p ∈ O, ∃ o, H p = some o
abbrev G2 := PyData → PyData → Option Sl
abbrev D2 := PyData → PyData → Option PyData
abbrev B2 := PyData → PyData → Option Bool
def OpX (K : KW) (r : R2) (g : G2) : Prop := ∀ O H x y d e s Q, Thr O H → RP K O H x d → RP K O H y e → g d e = some s → Out K O H s Q → r x y H Q
def OpD (K : KW) (r : R2) (g : D2) : Prop := ∀ O H x y d e s Q, Thr O H → RP K O H x d → RP K O H y e → g d e = some s → (∀ H' v, Ex H H' → R K (hide O H') v s → Q v H') → r x y H Q
def OpB (K : KW) (r : R2) (g : B2) : Prop := ∀ O H x y d e s Q, Thr O H → RP K O H x d → RP K O H y e → g d e = some s → (∀ H', Ex H H' → Q (.bl s) H') → r x y H Q
def nU (o : Option Sl) : Option Sl := match o with
  | some .un => none
  | o => o
theorem nU_some {o : Option Sl} {s : Sl} (h : nU o = some s) : o = some s ∧ s ≠ .un := by
  unfold nU at h
  split at h
  · cases h
  · rename_i n
    exact ⟨h, fun e => n (e ▸ h)⟩
/-- two operands, then g -/
def mB {γ : Type} (ma mb : M Hn) (g : PyData → PyData → Option γ) : M γ :=
  M.bind ma fun h1 => M.bind mb fun h2 => M.bind M.get fun a => M.bind (M.of (h1 a)) fun d1 => M.bind (M.of (h2 a)) fun d2 => M.of (g d1 d2)
def mOp (g : G2) (ma mb : M Hn) : M Sl := mB ma mb fun d e => nU (g d e)
section
variable {X : Cx} {W : WX} {a b c : Expr} {ma mb mc : M Hn} {pos : Pos}
theorem tM_op {γ : Type} {RR : RRel V γ} {r : R2} {g : PyData → PyData → Option γ} {σ : St} {H : Hp} {Q : VK}
    (hg : ∀ G O a H x y d e s, SR X.kw G O σ H a → RP X.kw O H x d → RP X.kw O H y e → g d e = some s → At X.kw W RR (M.pure s) G O a σ H Q → r x y H Q)
    (h : tM X.kw W RR (mB ma mb g) σ H Q) : tOp r (tM X.kw W (RH X.kw) ma) (tM X.kw W (RH X.kw) mb) σ H Q := by
  obtain ⟨G, O, a, q⟩ := h
  refine ⟨G, O, a, q.bind (RR := RH X.kw) fun O1 H1 a1 x h1 I1 e1 r1 q1 => ?_⟩
  refine ⟨G, O1, a1, q1.bind (RR := RH X.kw) fun O2 H2 a2 y h2 I2 e2 r2 q2 => ?_⟩
  obtain ⟨d, hd, q3⟩ := (At.getB q2).ofB
  obtain ⟨e, he, q4⟩ := q3.ofB
  obtain ⟨s, hs, q5⟩ := q4.of
  exact hg G O2 a2 H2 x y d e s I2 (r1 O2 H2 a2 d I2 e2 hd) (r2 O2 H2 a2 e I2 (Ext.refl _ _) he) hs q5
theorem px_op {op : Operator} {r : R2} {g : G2} (hr : OpR X (binaryOp op) r) (hg : OpX X.kw r g) (ha : PH X W a ma) (hb : PH X W b mb) : PX X W (.BinOp a op b pos) (mOp g ma mb) :=
  PE.imp (pe_op hr ha hb) fun σ H Q h => tM_op (fun G O a H x y d e s I rx ry hs q => hg O H x y d e s Q I.th rx ry (nU_some hs).1 (q.out (nU_some hs).2)) h
theorem pd_op {op : Operator} {r : R2} {g : D2} (hr : OpR X (binaryOp op) r) (hg : OpD X.kw r g) (ha : PH X W a ma) (hb : PH X W b mb) : PD X W (.BinOp a op b pos) (mB ma mb g) :=
  PE.imp (pe_op hr ha hb) fun σ H Q h => tM_op (fun G O a H x y d e s I rx ry hs q => hg O H x y d e s Q I.th rx ry hs q.outD) h
theorem pd_cmp {op : CmpOp} {r : R2} {g : B2} (hr : OpR X (compareOp op) r) (hg : OpB X.kw r g) (ha : PH X W a ma) (hb : PH X W b mb) (hm : behindInMarks op b = false := by first | exact nomark _ | rfl | with_unfolding_all rfl) :
    PD X W (.Compare a [op] [b] pos) (mB ma mb fun d e => (g d e).map PyData.bool) :=
  PE.imp (pe_cmpR hr ha hb hm) fun σ H Q h => tM_op (fun G O a H x y d e s I rx ry hs q => by
    cases hb : g d e with
    | none => rw [hb] at hs; cases hs
    | some b =>
      rw [hb] at hs
      cases hs
      exact hg O H x y d e b Q I.th rx ry hb fun H' ex => q.outD H' (.bl b) ex (.bl b)) h
theorem pb_cmp {op : CmpOp} {r : R2} {g : B2} (hr : OpR X (compareOp op) r) (hg : OpB X.kw r g) (ha : PH X W a ma) (hb : PH X W b mb) (hm : behindInMarks op b = false := by first | exact nomark _ | rfl | with_unfolding_all rfl) :
    PB X W (.Compare a [op] [b] pos) (mB ma mb g) := by
  refine PT.imp (pt_cmpR hr ha hb hm) fun σ H Q h => ?_
  obtain ⟨G, O, a, q⟩ := h
  refine ⟨G, O, a, q.bind (RR := RH X.kw) fun O1 H1 a1 x h1 I1 e1 r1 q1 => ?_⟩
  refine ⟨G, O1, a1, q1.bind (RR := RH X.kw) fun O2 H2 a2 y h2 I2 e2 r2 q2 => ?_⟩
  obtain ⟨d, hd, q3⟩ := (At.getB q2).ofB
  obtain ⟨e, he, q4⟩ := q3.ofB
  obtain ⟨s, hs, q5⟩ := q4.of
  exact hg O2 H2 x y d e s _ I2.th (r1 O2 H2 a2 d I2 e2 hd) (r2 O2 H2 a2 e I2 (Ext.refl _ _) he) hs fun H' ex => ⟨s, rfl, q5.pureG ex rfl⟩
/-- any data that is a truth value as a test -/
def gTru : PyData → Option Bool
  | .bool b => some b
  | _ => none
def mTru (m : M PyData) : M Bool := M.bind m fun d => M.of (gTru d)
theorem pb_d {m : M PyData} (h : PD X W a m) (he : ∀ whole, isTrue a X.env whole = (do let v ← whole; standAt a.pos; holding [v] (truthy v)) := by intro _; rfl) : PB X W a (mTru m) := by
  refine PT.imp (pt_val h he) fun σ H Q ⟨G, O, a, q⟩ => ?_
  refine ⟨G, O, a, q.bind (RR := RD X.kw) fun O1 H1 a1 v d I1 e1 r1 q1 => ?_⟩
  obtain ⟨b, hb, q2⟩ := q1.of
  cases d with
  | bool b' =>
    cases hb
    cases r1
    exact ⟨_, rfl, q2.pure rfl⟩
  | _ => cases hb
/-- and, or, not as tests -/
def mAnd (ma mb : M Bool) : M Bool := M.bind ma fun b => if b = true then mb else M.pure false
def mOr (ma mb : M Bool) : M Bool := M.bind ma fun b => if b = true then M.pure true else mb
def mNot (ma : M Bool) : M Bool := M.map not ma
abbrev PBW (X : Cx) (W : WX) (e : Expr) (m : M Bool) : Prop := PW X e (tM X.kw W RB m)
theorem PW.imp {X : Cx} {e : Expr} {t u : TT} (h : PW X e t) (k : ∀ σ H Q, u σ H Q → t σ H Q) : PW X e u := ⟨fun wh pins s σ H Q I q => h.run wh pins s σ H Q I (k σ H Q q)⟩
variable {rest : List Expr} {ka kb : M Bool}
theorem pbw_and1 (h : PB X W a ka) : PBW X W (.BoolOp .And [a] pos) ka := pw_and1 h
theorem pbw_or1 (h : PB X W a ka) : PBW X W (.BoolOp .Or [a] pos) ka := pw_or1 h
theorem pbw_and (h : PB X W a ka) (h2 : PBW X W (.BoolOp .And (b :: rest) pos) kb) : PBW X W (.BoolOp .And (a :: b :: rest) pos) (mAnd ka kb) := by
  refine PW.imp (pw_and h h2) fun σ H Q ⟨G, O, a, q⟩ => ?_
  refine ⟨G, O, a, q.bind (RR := RB) fun O1 H1 a1 v d I1 e1 r1 q1 => ?_⟩
  cases (show v = d from r1)
  cases v with
  | true => exact ⟨G, O1, a1, q1⟩
  | false => exact q1.pure rfl
theorem pbw_or (h : PB X W a ka) (h2 : PBW X W (.BoolOp .Or (b :: rest) pos) kb) : PBW X W (.BoolOp .Or (a :: b :: rest) pos) (mOr ka kb) := by
  refine PW.imp (pw_or h h2) fun σ H Q ⟨G, O, a, q⟩ => ?_
  refine ⟨G, O, a, q.bind (RR := RB) fun O1 H1 a1 v d I1 e1 r1 q1 => ?_⟩
  cases (show v = d from r1)
  cases v with
  | false => exact ⟨G, O1, a1, q1⟩
  | true => exact q1.pure rfl
theorem pb_w (h : PBW X W a ka) : PB X W a ka := PW.pt h
theorem pb_not (h : PB X W a ka) : PB X W (.UnaryOp .Not a pos) (mNot ka) := by
  refine PT.imp (pt_not h) fun σ H Q ⟨G, O, a, q⟩ => ?_
  refine ⟨G, O, a, q.bind (RR := RB) fun O1 H1 a1 v d I1 e1 r1 q1 => ?_⟩
  cases (show v = d from r1)
  exact q1.pure rfl
/-- the same as values -/
def mAndV (ma mb : M PyData) : M PyData := M.bind ma fun d => M.bind (M.of (gTru d)) fun b => if b = true then mb else M.pure (.bool false)
def mOrV (ma mb : M PyData) : M PyData := M.bind ma fun d => M.bind (M.of (gTru d)) fun b => if b = true then M.pure (.bool true) else mb
def mNotV (ma : M PyData) : M PyData := M.bind ma fun d => M.bind (M.of (gTru d)) fun b => M.pure (.bool (!b))
variable {da db dc : M PyData}
theorem pd_one {op} (h : PD X W a da) : PD X W (.BoolOp op [a] pos) da := pe_one h
theorem tM_tru {σ : St} {H : Hp} {Q : VK} {f : Bool → M PyData} {T : Bool → V → Hp → Prop} (h : tM X.kw W (RD X.kw) (M.bind da fun d => M.bind (M.of (gTru d)) f) σ H Q)
    (k : ∀ G O1 a1 H1 b, SR X.kw G O1 σ H1 a1 → At X.kw W (RD X.kw) (f b) G O1 a1 σ H1 Q → T b (.bl b) H1) : tM X.kw W (RD X.kw) da σ H (fun v H1 => ∃ c, v = .bl c ∧ T c v H1) := by
  obtain ⟨G, O, a, q⟩ := h
  refine ⟨G, O, a, q.bind (RR := RD X.kw) fun O1 H1 a1 v d I1 e1 r1 q1 => ?_⟩
  obtain ⟨b, hb, q2⟩ := q1.ofB
  cases d with
  | bool b' =>
    cases hb
    cases r1
    exact ⟨_, rfl, k G O1 a1 H1 _ I1 q2⟩
  | _ => cases hb
theorem pd_and (h : PD X W a da) (h2 : PD X W (.BoolOp .And (b :: rest) pos) db) : PD X W (.BoolOp .And (a :: b :: rest) pos) (mAndV da db) := by
  refine PE.imp (pe_and h h2) fun σ H Q q => tM_tru q fun G O1 a1 H1 b I1 q1 => ?_
  cases b with
  | true => exact ⟨G, O1, a1, q1⟩
  | false => exact q1.pure (v := .bl false) (.bl false)
theorem pd_or (h : PD X W a da) (h2 : PD X W (.BoolOp .Or (b :: rest) pos) db) : PD X W (.BoolOp .Or (a :: b :: rest) pos) (mOrV da db) := by
  refine PE.imp (pe_or h h2) fun σ H Q q => tM_tru q fun G O1 a1 H1 b I1 q1 => ?_
  cases b with
  | false => exact ⟨G, O1, a1, q1⟩
  | true => exact q1.pure (v := .bl true) (.bl true)
theorem pd_not (h : PD X W a da) : PD X W (.UnaryOp .Not a pos) (mNotV da) := by
  refine PE.imp (pe_not h) fun σ H Q q => tM_tru q fun G O1 a1 H1 b I1 q1 => ?_
  exact q1.pure (v := .bl (!b)) (.bl (!b))
/-- a if t else b -/
def mIf {γ : Type} (k : M Bool) (ma mb : M γ) : M γ := M.bind k fun b => if b = true then ma else mb
theorem pe_if {γ : Type} {RR : RRel V γ} {xa xb : M γ} (hk : PB X W c ka) (ha : PE X a (tM X.kw W RR xa)) (hb : PE X b (tM X.kw W RR xb)) : PE X (.IfExp c a b pos) (tM X.kw W RR (mIf ka xa xb)) := by
  refine PE.imp (pe_ifExp hk ha hb) fun σ H Q ⟨G, O, a, q⟩ => ?_
  refine ⟨G, O, a, q.bind (RR := RB) fun O1 H1 a1 v d I1 e1 r1 q1 => ?_⟩
  cases (show v = d from r1)
  cases v with
  | true => exact ⟨G, O1, a1, q1⟩
  | false => exact ⟨G, O1, a1, q1⟩
/-- a chain a op b op' c; the middle and first are handles -/
def mChain (g g' : B2) (ma mb mc : M Hn) : M Bool := M.bind ma fun h1 => M.bind mb fun h2 => M.bind M.get fun a => M.bind (M.of (h1 a)) fun d1 => M.bind (M.of (h2 a)) fun d2 => M.bind (M.of (g d1 d2)) fun k =>
  if k = true then M.bind mc fun h3 => M.bind M.get fun a => M.bind (M.of (h2 a)) fun d2 => M.bind (M.of (h3 a)) fun d3 => M.of (g' d2 d3) else M.pure false
theorem tM_chain {r r' : R2} {g g' : B2} (hg : OpB X.kw r g) (hg' : OpB X.kw r' g') {ν : Type} {RR : RRel ν Bool} {σ : St} {H : Hp} {Q : ν → Hp → Prop} {Q' : VK} (hq : ∀ G O a H b H', Ex H H' → At X.kw W RR (M.pure b) G O a σ H Q → Q' (.bl b) H')
    (h : tM X.kw W RR (mChain g g' ma mb mc) σ H Q) : tChain r r' (tM X.kw W (RH X.kw) ma) (tM X.kw W (RH X.kw) mb) (tM X.kw W (RH X.kw) mc) σ H Q' := by
  obtain ⟨G, O, a, q⟩ := h
  refine ⟨G, O, a, q.bind (RR := RH X.kw) fun O1 H1 a1 x h1 I1 e1 r1 q1 => ?_⟩
  refine ⟨G, O1, a1, q1.bind (RR := RH X.kw) fun O2 H2 a2 y h2 I2 e2 r2 q2 => ?_⟩
  obtain ⟨d, hd, q3⟩ := (At.getB q2).ofB
  obtain ⟨e, he, q4⟩ := q3.ofB
  obtain ⟨k, hk, q5⟩ := q4.ofB
  refine hg O2 H2 x y d e k _ I2.th (r1 O2 H2 a2 d I2 e2 hd) (r2 O2 H2 a2 e I2 (Ext.refl _ _) he) hk fun H3 ex => ⟨k, rfl, ?_⟩
  cases k with
  | false => exact hq G O2 a2 H2 false H3 ex q5
  | true =>
    have I3 := I2.grow ex
    have q6 : At X.kw W RR (M.bind mc fun h3 => M.bind M.get fun a => M.bind (M.of (h2 a)) fun d2 => M.bind (M.of (h3 a)) fun d3 => M.of (g' d2 d3)) G O2 a2 σ H3 Q := by
      obtain ⟨_, z, ez, F⟩ := q5
      refine ⟨I3, z, ez, ?_⟩
      obtain ⟨z1, z2⟩ := z
      cases z1 with
      | error er => exact fun O' H' d I' e2 q => F O' H' d I' ((ext_grow ex).trans e2) q
      | ok r2 => exact fun O' H' v I' e2 q => F O' H' v I' ((ext_grow ex).trans e2) q
    refine ⟨G, O2, a2, q6.bind (RR := RH X.kw) fun O4 H4 a4 z h3 I4 e4 r4 q7 => ?_⟩
    obtain ⟨d2, hd2, q8⟩ := (At.getB q7).ofB
    obtain ⟨d3, hd3, q9⟩ := q8.ofB
    obtain ⟨b, hb, q10⟩ := q9.of
    exact hg' O4 H4 y z d2 d3 b _ I4.th (r2 O4 H4 a4 d2 I4 ((ext_grow ex).trans e4) hd2) (r4 O4 H4 a4 d3 I4 (Ext.refl _ _) hd3) hb fun H5 ex5 => hq G O4 a4 H4 b H5 ex5 q10
theorem pb_chain {op op' : CmpOp} {r r' : R2} {g g' : B2} (hr : OpR X (compareOp op) r) (hr' : OpR X (compareOp op') r') (hg : OpB X.kw r g) (hg' : OpB X.kw r' g') (ha : PH X W a ma) (hb : PH X W b mb) (hc : PH X W c mc)
    (hm : lastMarks [op, op'] [b, c] = false := by with_unfolding_all rfl) : PB X W (.Compare a [op, op'] [b, c] pos) (mChain g g' ma mb mc) :=
  PT.imp (pt_chain hr hr' ha hb hc hm) fun σ H Q h => tM_chain hg hg' (fun G O a H b H' ex q => ⟨b, rfl, q.pureG ex rfl⟩) h
theorem pd_chain {op op' : CmpOp} {r r' : R2} {g g' : B2} (hr : OpR X (compareOp op) r) (hr' : OpR X (compareOp op') r') (hg : OpB X.kw r g) (hg' : OpB X.kw r' g') (ha : PH X W a ma) (hb : PH X W b mb) (hc : PH X W c mc)
    (hm : lastMarks [op, op'] [b, c] = false := by with_unfolding_all rfl) : PD X W (.Compare a [op, op'] [b, c] pos) (M.map PyData.bool (mChain g g' ma mb mc)) :=
  PE.imp (pe_chain hr hr' ha hb hc hm) fun σ H Q ⟨G, O, a, q⟩ => tM_chain (RR := fun _ _ _ _ _ v b => v = V.bl b) hg hg' (fun G O a H b H' ex q => q.pureG ex rfl)
    ⟨G, O, a, q.bind (RR := fun _ _ _ _ _ v b => v = V.bl b) fun O1 H1 a1 v b I1 e1 r1 q1 => by subst r1; exact q1.pure (v := .bl b) (.bl b)⟩
end
end Am

/-! Am3: operations upon values. -/
namespace Am
open PySem L2

theorem OpR.or {X : Cx} {f : Value → Value → Sem Value} {r r' : R2} (h : OpR X f r) (h' : OpR X f r') : OpR X f (fun x y H Q => r x y H Q ∨ r' x y H Q) := by
  intro pins s σ H x y v u Q I rx ry q
  rcases q with q | q
  · exact h pins s σ H x y v u Q I rx ry q
  · exact h' pins s σ H x y v u Q I rx ry q
/-- the most items of a list here -/
def lineN : Nat := 16777216
theorem line_eq : sizeLine = lineN := sizeLine_eq
theorem hide_upd {O : List Addr} {H : Hp} {p : Addr} {o : HO} (th : Thr O H) (np : H p = none) : hide O (upd H p o) p = some o := hide_some.mpr ⟨fun z => (by obtain ⟨o, q⟩ := th p z; rw [np] at q; cases q), upd_same⟩
theorem out_tup {K : KW} {O : List Addr} {H : Hp} {p : Addr} {vs : List V} {ds : List PyData} {Q : VK} (h : ∀ H' v, Ex H H' → R K (hide O H') v (.tuple ds) → Q v H') (th : Thr O H) (np : H p = none) (r : RAll K (hide O H) vs ds) : Q (.ref p) (upd H p (.tup vs)) :=
  h _ _ (Ex.new np) (.tup (SqT.of (hide_upd th np)) (RAll.mono (ext_grow (Ex.new np)) _ _ r))
theorem out_lst {K : KW} {O : List Addr} {H : Hp} {p : Addr} {vs : List V} {ds : List PyData} {Q : VK} (h : Out K O H (.lst ds) Q) (np : H p = none) (r : RAll K (hide O H) vs ds) : Q (.ref p) (upd H p (.lst vs)) :=
  h.new (Ex.new np) np upd_same r
theorem out_same {K : KW} {O : List Addr} {H : Hp} {v : V} {d : PyData} {Q : VK} (h : ∀ H' v, Ex H H' → R K (hide O H') v d → Q v H') (r : R K (hide O H) v d) : Q v H := h H v (Ex.refl _) r
theorem RP.tupR {K : KW} {O : List Addr} {H : Hp} {v : V} {ds : List PyData} (h : RP K O H v (.tuple ds)) : R K (hide O H) v (.tuple ds) := by
  rcases h with h | ⟨p, vs, ds', rfl, e, h1, h2⟩
  · exact h
  · cases e

/-! ### arithmetic -/
def gAdd : D2
  | .int i, .int j => some (.int (i + j))
  | .str x, .str y => if x.length + y.length ≤ lineN then some (.str (x ++ y)) else none
  | .tuple xs, .tuple ys => if xs.length + ys.length ≤ lineN then some (.tuple (xs ++ ys)) else none
  | _, _ => none
section
variable {X : Cx}
def rAddA (K : KW) : R2 := fun x y H Q => (rI0 fun i j => .int (i + j)) x y H Q ∨ (fun x y H Q => ∃ i j, x = .str i ∧ y = .str j ∧ i.length + j.length ≤ sizeLine ∧ Q (.str (i ++ j)) H) x y H Q ∨ rCatA K x y H Q
theorem op_addA : OpR X (binaryOp .Add) (rAddA X.kw) := OpR.or op_add (OpR.or op_add_str op_catA)
theorem gAdd_ok {K : KW} : OpD K (rAddA K) gAdd := by
  intro O H x y d e s Q th rx ry hg q
  unfold gAdd at hg
  split at hg
  · cases rx.int
    cases ry.int
    cases hg
    exact .inl ⟨_, _, rfl, rfl, out_same q (.int _)⟩
  · cases rx.str
    cases ry.str
    split at hg
    · rename_i hz
      cases hg
      exact .inr (.inl ⟨_, _, rfl, rfl, by rw [line_eq]; exact hz, out_same q (.str _)⟩)
    · cases hg
  · split at hg
    · rename_i xs ys hz
      cases hg
      obtain ⟨p, vs, rfl, h1, r1⟩ := rx.tup
      obtain ⟨p2, ws, rfl, h2, r2⟩ := ry.tup
      refine .inr (.inr ⟨p, p2, vs, ws, rfl, rfl, h1, h2, by rw [r1.length, r2.length, line_eq]; exact hz, fun e => ?_, fun _ e => ?_, fun _ _ p hp => ?_⟩)
      · subst e
        cases r1
        exact out_same q (by simpa using ry.tupR)
      · subst e
        cases r2
        exact out_same q (by simpa using rx.tupR)
      · exact out_tup q th hp (r1.append r2)
    · cases hg
  · cases hg
theorem op_catS : OpR X (binaryOp .Add) (fun x y H Q => ∃ l b xs zs, x = .ref l ∧ y = .ref b ∧ SqL X.K H l xs ∧ SqL X.K H b zs ∧ xs.length + zs.length ≤ sizeLine ∧ ∀ p, H p = none → Q (.ref p) (upd H p (.lst (xs ++ zs)))) := by
  intro pins s σ H x y v u Q I rx ry h
  obtain ⟨l, b, xs, zs, rfl, rfl, hH, hB, hz, q⟩ := h
  cases rx
  cases ry
  obtain ⟨its, r, hp1, _⟩ := I.list hH
  obtain ⟨its2, r2, hp2, _⟩ := I.list hB
  obtain ⟨⟨cls, dd, data, sl⟩, ho, hc, n, hd⟩ := hp1.isList
  obtain ⟨⟨cls2, dd2, data2, sl2⟩, ho2, hc2, n2, hd2⟩ := hp2.isList
  simp only at hc hd hc2 hd2
  subst hc hd hc2 hd2
  have hl := r.length
  have hl2 := r2.length
  refine concat_meets ⟨_, ho, rfl⟩ ⟨_, ho2, rfl⟩ noFill_list_add seq_list_add PySem.F.slot_list_add PySem.F.entry_list_add (PySem.F.args_list_add_2 _ _) (PyProof.Rows.list_addW l b its.toArray its2.toArray n n2 dd dd2 sl sl2 (by rw [List.size_toArray, List.size_toArray]; omega)) ⟨ho, ho2, ?_⟩
  have ea : its.toArray ++ its2.toArray = (its ++ its2).toArray := by simp
  rw [ea]
  exact ⟨.ref _, _, I.lnew (t' := s.toks) (r.append r2) (by rw [List.length_append]; omega), rfl, q _ I.fresh⟩
def gCat : G2
  | .list xs, .list ys => if xs.length + ys.length ≤ lineN then some (.lst (xs ++ ys)) else none
  | _, _ => none
theorem gCat_ok {K : KW} : OpX K (fun x y H Q => ∃ l b xs zs, x = .ref l ∧ y = .ref b ∧ SqL K H l xs ∧ SqL K H b zs ∧ xs.length + zs.length ≤ sizeLine ∧ ∀ p, H p = none → Q (.ref p) (upd H p (.lst (xs ++ zs)))) gCat := by
  intro O H x y d e s Q th rx ry hg q
  unfold gCat at hg
  split at hg
  · split at hg
    · rename_i xs ys hz
      cases hg
      obtain ⟨p, vs, rfl, h1, r1⟩ := rx.lst
      obtain ⟨p2, ws, rfl, h2, r2⟩ := ry.lst
      exact ⟨p, p2, vs, ws, rfl, rfl, h1, h2, by rw [r1.length, r2.length, line_eq]; exact hz, fun p hp => out_lst q hp (r1.append r2)⟩
    · cases hg
  · cases hg
/-- ints in, an int out -/
def gI (C : Int → Int → Bool) (f : Int → Int → Int) : D2
  | .int i, .int j => if C i j = true then some (.int (f i j)) else none
  | _, _ => none
theorem gI_ok {K : KW} {C : Int → Int → Bool} {f : Int → Int → Int} {P : Int → Int → Prop} (h : ∀ i j, C i j = true → P i j) : OpD K (rI P fun i j => .int (f i j)) (gI C f) := by
  intro O H x y d e s Q th rx ry hg q
  unfold gI at hg
  split at hg
  · split at hg
    · rename_i hc
      cases rx.int
      cases ry.int
      cases hg
      exact ⟨_, _, rfl, rfl, h _ _ hc, out_same q (.int _)⟩
    · cases hg
  · cases hg
def gI0 (f : Int → Int → Int) : D2
  | .int i, .int j => some (.int (f i j))
  | _, _ => none
theorem gI0_ok {K : KW} {f : Int → Int → Int} : OpD K (rI0 fun i j => .int (f i j)) (gI0 f) := by
  intro O H x y d e s Q th rx ry hg q
  unfold gI0 at hg
  split at hg
  · cases rx.int
    cases ry.int
    cases hg
    exact ⟨_, _, rfl, rfl, out_same q (.int _)⟩
  · cases hg
abbrev gSub : D2 := gI0 fun i j => i - j
def cMul (i j : Int) : Bool := decide (i.natAbs.log2 + j.natAbs.log2 < 1000000)
abbrev gMul : D2 := gI cMul fun i j => i * j
def cDiv (_ j : Int) : Bool := decide (0 < j) && decide (j.natAbs.log2 < 9000)
abbrev gDiv : D2 := gI cDiv fun i j => i / j
def cMod (_ j : Int) : Bool := decide (0 < j)
abbrev gMod : D2 := gI cMod fun i j => i % j
def cPow (i j : Int) : Bool := decide (0 ≤ j) && decide ((Builtin.Int.intBits i : Int) * j ≤ 2 ^ 27)
abbrev gPow : D2 := gI cPow fun i j => i ^ j.toNat
theorem op_powA : OpR X (binaryOp .Pow) (rI (fun i j => 0 ≤ j ∧ (Builtin.Int.intBits i : Int) * j ≤ 2 ^ 27) fun i j => .int (i ^ j.toNat)) := opI fun _ _ _ _ _ _ _ hc q => PyProof.Rows.pow_int hc.1 hc.2 q
theorem gMul_ok {K : KW} : OpD K (rI CMulW fun i j => .int (i * j)) gMul := gI_ok fun i j h => of_decide_eq_true (p := i.natAbs.log2 + j.natAbs.log2 < 1000000) h
theorem gDiv_ok {K : KW} : OpD K (rI CDivW fun i j => .int (i / j)) gDiv := gI_ok fun i j h => by
  have h' := Bool.and_eq_true_iff.mp h
  exact ⟨of_decide_eq_true h'.1, of_decide_eq_true h'.2⟩
theorem gMod_ok {K : KW} : OpD K (rI (fun _ j => 0 < j) fun i j => .int (i % j)) gMod := gI_ok fun i j h => of_decide_eq_true (p := 0 < j) h
theorem gPow_ok {K : KW} : OpD K (rI (fun i j => 0 ≤ j ∧ (Builtin.Int.intBits i : Int) * j ≤ 2 ^ 27) fun i j => .int (i ^ j.toNat)) gPow := gI_ok fun i j h => by
  have h' := Bool.and_eq_true_iff.mp h
  exact ⟨of_decide_eq_true h'.1, of_decide_eq_true h'.2⟩
/-- -a -/
def gNeg : PyData → Option PyData
  | .int i => some (.int (-i))
  | _ => none
/-- list * int, tuple * int -/
def gRep : G2
  | .list xs, .int k => if decide (-(2 ^ 63) ≤ k) && decide (k < 2 ^ 63) && decide (xs.length * k.toNat ≤ lineN) then some (.lst (List.replicate k.toNat xs).flatten) else none
  | _, _ => none
theorem RAll.rep {K : PySem.W.Frag} {H : Hp} {vs : List V} {ds : List PyData} (r : RAll K H vs ds) : ∀ n : Nat, RAll K H (List.replicate n vs).flatten (List.replicate n ds).flatten
  | 0 => .nil
  | n + 1 => by
    rw [List.replicate_succ, List.replicate_succ, List.flatten_cons, List.flatten_cons]
    exact r.append (r.rep n)
end
section
variable {X : Cx} {W : WX} {a : Expr} {ma : M Hn} {pos : Pos}
/-- one operand, then g -/
def mU {γ : Type} (ma : M Hn) (g : PyData → Option γ) : M γ := M.bind ma fun h1 => M.bind M.get fun a => M.bind (M.of (h1 a)) fun d1 => M.of (g d1)
theorem tM_un {ν γ : Type} {RR : RRel ν γ} {g : PyData → Option γ} {σ : St} {H : Hp} {Q : ν → Hp → Prop} {T : V → Hp → Prop}
    (hg : ∀ G O a H x d s, SR X.kw G O σ H a → RP X.kw O H x d → g d = some s → At X.kw W RR (M.pure s) G O a σ H Q → T x H)
    (h : tM X.kw W RR (mU ma g) σ H Q) : tM X.kw W (RH X.kw) ma σ H T := by
  obtain ⟨G, O, a, q⟩ := h
  refine ⟨G, O, a, q.bind (RR := RH X.kw) fun O1 H1 a1 x h1 I1 e1 r1 q1 => ?_⟩
  obtain ⟨d, hd, q3⟩ := (At.getB q1).ofB
  obtain ⟨s, hs, q5⟩ := q3.of
  exact hg G O1 a1 H1 x d s I1 (r1 O1 H1 a1 d I1 (Ext.refl _ _) hd) hs q5
theorem pd_neg (ha : PH X W a ma) : PD X W (.UnaryOp .USub a pos) (mU ma gNeg) :=
  PE.imp (pe_un un_neg ha) fun σ H Q h => tM_un (T := fun x H1 => rU (fun i => .int (-i)) x H1 Q) (fun G O a H x d s I rx hs q => by
    unfold gNeg at hs
    split at hs
    · cases rx.int
      cases hs
      exact ⟨_, rfl, q.outD H _ (Ex.refl _) (.int _)⟩
    · cases hs) h
end

/-! ### comparisons -/
section
variable {X : Cx}
def gCmp (f : Int → Int → Bool) : B2
  | .int i, .int j => some (f i j)
  | _, _ => none
theorem gCmp_ok {K : KW} {f : Int → Int → Bool} : OpB K (rI0 fun i j => .bl (f i j)) (gCmp f) := by
  intro O H x y d e s Q th rx ry hg q
  unfold gCmp at hg
  split at hg
  · cases rx.int
    cases ry.int
    cases hg
    exact ⟨_, _, rfl, rfl, q H (Ex.refl _)⟩
  · cases hg
abbrev gLt : B2 := gCmp fun i j => decide (i < j)
abbrev gLe : B2 := gCmp fun i j => decide (i ≤ j)
abbrev gGt : B2 := gCmp fun i j => decide (j < i)
abbrev gGe : B2 := gCmp fun i j => decide (j ≤ i)
mutual
theorem R.dp {K : PySem.W.Frag} {H : Hp} : ∀ (d : PyData) (v : V), d.canLay0 = true → R K H v d → Dp K H v d
  | .none, _, _, h => by cases h; exact .non
  | .bool b, _, _, h => by cases h; exact .bl b
  | .int i, _, _, h => by cases h; exact .int i
  | .str x, _, _, h => by cases h; exact .str x
  | .list ds, _, c, h => by
    cases h with
    | lst h1 h2 => exact .lst h1 (RAll.dp ds _ (by simpa [PyData.canLay0] using c) h2)
  | .tuple ds, _, c, h => by
    cases h with
    | tup h1 h2 => exact .tup h1 (RAll.dp ds _ (by simpa [PyData.canLay0] using c) h2)
  | .dict kv, _, c, h => by simp [PyData.canLay0] at c
theorem RAll.dp {K : PySem.W.Frag} {H : Hp} : ∀ (ds : List PyData) (vs : List V), PyData.canLayAll0 ds = true → RAll K H vs ds → DpAll K H vs ds
  | [], _, _, h => by cases h; exact .nil
  | d :: ds, _, c, h => by
    cases h with
    | cons h1 h2 =>
      have c' : d.canLay0 = true ∧ PyData.canLayAll0 ds = true := by simpa [PyData.canLayAll0] using c
      exact .cons (R.dp d _ c'.1 h1) (RAll.dp ds _ c'.2 h2)
end
def gEq : B2 := fun d e => if SeqAt.shaped d && SeqAt.shaped e then some (PyData.eqv d e) else none
def gNe : B2 := fun d e => (gEq d e).map not
theorem gEq_some {d e : PyData} {b : Bool} (h : gEq d e = some b) : SeqAt.shaped d = true ∧ SeqAt.shaped e = true ∧ PyData.eqv d e = b := by
  unfold gEq at h
  split at h
  · rename_i hs
    have hs' := Bool.and_eq_true_iff.mp hs
    cases h
    exact ⟨hs'.1, hs'.2, rfl⟩
  · cases h
theorem gEq_ok {K : KW} : OpB K (rEqD K) gEq := by
  intro O H x y d e s Q th rx ry hg q
  obtain ⟨h1, h2, h3⟩ := gEq_some hg
  exact ⟨d, e, R.dp d _ (SeqAt.canLay_of_shaped h1) rx.full, R.dp e _ (SeqAt.canLay_of_shaped h2) ry.full, h1, h2, by rw [h3]; exact q H (Ex.refl _)⟩
theorem gNe_ok {K : KW} : OpB K (rNeD K) gNe := by
  intro O H x y d e s Q th rx ry hg q
  unfold gNe at hg
  cases hb : gEq d e with
  | none => rw [hb] at hg; cases hg
  | some b =>
    rw [hb] at hg
    cases hg
    obtain ⟨h1, h2, h3⟩ := gEq_some hb
    exact ⟨d, e, R.dp d _ (SeqAt.canLay_of_shaped h1) rx.full, R.dp e _ (SeqAt.canLay_of_shaped h2) ry.full, h1, h2, by rw [h3]; exact q H (Ex.refl _)⟩
def isNone : PyData → Bool
  | .none => true
  | _ => false
def gIsN : B2
  | d, .none => some (isNone d)
  | _, _ => none
def gNotN : B2
  | d, .none => some (!isNone d)
  | _, _ => none
theorem R.isNone {K : PySem.W.Frag} {H : Hp} {x : V} {d : PyData} (h : R K H x d) : decide (x = .non) = isNone d := by
  cases h <;> first | rfl | simp [Am.isNone]
theorem gIsN_ok {K : KW} : OpB K (fun x y H Q => y = .non ∧ Q (.bl (decide (x = .non))) H) gIsN := by
  intro O H x y d e s Q th rx ry hg q
  unfold gIsN at hg
  split at hg
  · cases hg
    exact ⟨ry.non, by rw [rx.full.isNone]; exact q H (Ex.refl _)⟩
  · cases hg
theorem gNotN_ok {K : KW} : OpB K (fun x y H Q => y = .non ∧ Q (.bl (!decide (x = .non))) H) gNotN := by
  intro O H x y d e s Q th rx ry hg q
  unfold gNotN at hg
  split at hg
  · cases hg
    exact ⟨ry.non, by rw [rx.full.isNone]; exact q H (Ex.refl _)⟩
  · cases hg
/-- x in xs: flat items -/
def flatD : PyData → Bool
  | .none => true
  | .bool _ => true
  | .int _ => true
  | .str _ => true
  | _ => false
def seqD : PyData → Option (List PyData)
  | .list xs => some xs
  | .tuple xs => some xs
  | _ => none
def gIn : B2 := fun d e => match seqD e with
  | some xs => if flatD d && xs.all flatD then some (xs.any fun y => PyData.eqv y d) else none
  | none => none
def gNotIn : B2 := fun d e => (gIn d e).map not
theorem R.flat {K : PySem.W.Frag} {H : Hp} {x : V} {d : PyData} (h : R K H x d) : flatV x = flatD d := by cases h <;> rfl
theorem RAll.flat {K : PySem.W.Frag} {H : Hp} : ∀ {vs : List V} {ds : List PyData}, RAll K H vs ds → vs.all flatV = ds.all flatD
  | _, [], h => by cases h; rfl
  | _, _ :: _, h => by
    cases h with
    | cons h1 h2 => rw [List.all_cons, List.all_cons, h1.flat, h2.flat]
theorem R.eqV {K : PySem.W.Frag} {H : Hp} {x y : V} {d e : PyData} (h : R K H x d) (g : R K H y e) (hd : flatD d = true) (he : flatD e = true) : eqV x y = PyData.eqv d e := by
  cases h <;> cases g <;> first | rfl | (simp [flatD] at hd; done) | (simp [flatD] at he; done) | (simp [L2.eqV, PyData.eqv]; done)
theorem RAll.anyEq {K : PySem.W.Frag} {H : Hp} {x : V} {d : PyData} (g : R K H x d) (hd : flatD d = true) : ∀ {vs : List V} {ds : List PyData}, RAll K H vs ds → ds.all flatD = true → (vs.any fun y => L2.eqV y x) = ds.any fun y => PyData.eqv y d
  | _, [], h, _ => by cases h; rfl
  | _, _ :: _, h, f => by
    cases h with
    | cons h1 h2 =>
      rw [List.all_cons, Bool.and_eq_true] at f
      rw [List.any_cons, List.any_cons, h1.eqV g f.1 hd, h2.anyEq g hd f.2]
theorem gIn_some {K : KW} {O : List Addr} {H : Hp} {x y : V} {d e : PyData} {b : Bool} (rx : RP K O H x d) (ry : RP K O H y e) (h : gIn d e = some b) : ∃ p xs, y = .ref p ∧ (SqL K H p xs ∨ SqT K H p xs) ∧ flatV x = true ∧ xs.all flatV = true ∧ inV x xs = b := by
  unfold gIn at h
  split at h
  · rename_i xs hs
    split at h
    · rename_i hf
      have hf' := Bool.and_eq_true_iff.mp hf
      cases h
      have key : ∀ {vs : List V}, RAll K (hide O H) vs xs → flatV x = true ∧ vs.all flatV = true ∧ inV x vs = xs.any fun y => PyData.eqv y d := fun {vs} r =>
        have r' := RAll.mono (hide_ex O H) _ _ r
        ⟨by rw [rx.full.flat]; exact hf'.1, by rw [r.flat]; exact hf'.2, RAll.anyEq rx.full hf'.1 r' hf'.2⟩
      cases e with
      | list ds =>
        cases hs
        obtain ⟨p, vs, rfl, h1, r⟩ := ry.lst
        exact ⟨p, vs, rfl, .inl h1, key r⟩
      | tuple ds =>
        cases hs
        obtain ⟨p, vs, rfl, h1, r⟩ := ry.tup
        exact ⟨p, vs, rfl, .inr h1, key r⟩
      | _ => cases hs
    · cases h
  · cases h
theorem gIn_ok {K : KW} : OpB K (rIn K false) gIn := by
  intro O H x y d e s Q th rx ry hg q
  obtain ⟨p, xs, rfl, h1, h2, h3, h4⟩ := gIn_some rx ry hg
  exact ⟨p, xs, rfl, h1, h2, h3, by rw [h4]; exact q H (Ex.refl _)⟩
theorem gNotIn_ok {K : KW} : OpB K (rIn K true) gNotIn := by
  intro O H x y d e s Q th rx ry hg q
  unfold gNotIn at hg
  cases hb : gIn d e with
  | none => rw [hb] at hg; cases hg
  | some b =>
    rw [hb] at hg
    cases hg
    obtain ⟨p, xs, rfl, h1, h2, h3, h4⟩ := gIn_some rx ry hb
    exact ⟨p, xs, rfl, h1, h2, h3, by rw [h4]; exact q H (Ex.refl _)⟩
end

/-! ### subscripts, slices -/
section
variable {X : Cx} {W : WX} {a b : Expr} {ma mb : M Hn} {pos : Pos}
def gIx : D2
  | .list xs, .int i => atI xs i
  | .tuple xs, .int i => atI xs i
  | .str z, .int i => if z.length ≤ lineN then (atI z.cps.toList i).map fun c => .str ⟨#[c]⟩ else none
  | _, _ => none
theorem RAll.atI {K : PySem.W.Frag} {H : Hp} {vs : List V} {ds : List PyData} {i : Int} {d : PyData} (r : RAll K H vs ds) (h : L2.atI ds i = some d) : ∃ v, L2.atI vs i = some v ∧ R K H v d := by
  unfold L2.atI at h ⊢
  rw [r.length]
  cases e : ixN ds.length i with
  | none => rw [e] at h; cases h
  | some j =>
    rw [e] at h
    exact r.get j h
theorem gIx_ok {K : KW} : OpD K (rIx K) gIx := by
  intro O H x y d e s Q th rx ry hg q
  unfold gIx at hg
  split at hg
  · cases ry.int
    obtain ⟨p, vs, rfl, h1, r⟩ := rx.lst
    obtain ⟨v, hv, rv⟩ := r.atI hg
    exact .inl ⟨p, vs, _, v, rfl, rfl, h1, hv, out_same q rv⟩
  · cases ry.int
    obtain ⟨p, vs, rfl, h1, r⟩ := rx.tup
    obtain ⟨v, hv, rv⟩ := r.atI hg
    exact .inr (.inl ⟨p, vs, _, v, rfl, rfl, h1, hv, out_same q rv⟩)
  · cases ry.int
    cases rx.str
    split at hg
    · rename_i z i hz
      cases hc : L2.atI z.cps.toList i with
      | none => rw [hc] at hg; cases hg
      | some c =>
        rw [hc] at hg
        cases hg
        exact .inr (.inr ⟨z, i, c, rfl, rfl, by rw [line_eq]; exact hz, hc, out_same q (.str _)⟩)
    · cases hg
  · cases hg
theorem pd_ix (ha : PH X W a ma) (hb : PH X W b mb) (hs : PlainIx b := by exact fun _ _ => rfl) : PD X W (.Subscript a b pos) (mB ma mb gIx) :=
  PE.imp (pe_ix ix_seq ha hb hs) fun σ H Q h => tM_op (fun G O a H x y d e s I rx ry hs q => gIx_ok O H x y d e s Q I.th rx ry hs q.outD) h
/-- the parts of a slice -/
def gPart : PyData → Option (Option Int)
  | .int i => some (some i)
  | _ => none
def RPt : RRel (Option Int) (Option Int) := fun _ _ _ _ _ u v => u = v
abbrev PP (X : Cx) (W : WX) (e : Option Expr) (m : M (Option Int)) : Prop := PO X e (tM X.kw W RPt m)
theorem PO.imp {X : Cx} {e : Option Expr} {t u : TO} (h : PO X e t) (k : ∀ σ H Q, u σ H Q → t σ H Q) : PO X e u := ⟨fun pins s σ H Q I q => h.run pins s σ H Q I (k σ H Q q)⟩
theorem pp_none : PP X W none (M.pure none) := PO.imp po_none fun σ H Q ⟨G, O, a, q⟩ => q.pure (v := none) rfl
theorem pp_some {m : M PyData} (h : PD X W a m) : PP X W (some a) (M.bind m fun d => M.of (gPart d)) :=
  PO.imp (po_some h) fun σ H Q ⟨G, O, a, q⟩ => ⟨G, O, a, q.bind (RR := RD X.kw) fun O1 H1 a1 v d I1 e1 r1 q1 => by
    obtain ⟨o, ho, q2⟩ := q1.of
    cases d with
    | int i =>
      cases r1
      cases ho
      exact ⟨i, rfl, q2.pure rfl⟩
    | _ => cases ho⟩
def cutD (xs : List PyData) (lo hi : Option Int) : List PyData := (xs.drop (HT.sIx xs.length 0 lo)).take (HT.sIx xs.length xs.length hi - HT.sIx xs.length 0 lo)
theorem RAll.cut {K : PySem.W.Frag} {H : Hp} {vs : List V} {ds : List PyData} (r : RAll K H vs ds) (lo hi : Option Int) : RAll K H (cutV vs lo hi) (cutD ds lo hi) := by
  unfold cutV cutD
  rw [r.length]
  exact (r.drop _).take _
/-- a slice: a list's is new -/
def gSl (d : PyData) (lo hi : Option Int) : Option Sl := match d with
  | .list xs => some (.lst (cutD xs lo hi))
  | .tuple xs => some (.dat (.tuple (cutD xs lo hi)))
  | .str z => if z.length ≤ lineN then some (.dat (.str (cutS z lo hi))) else none
  | _ => none
def rSlY (K : KW) : V → Option Int → Option Int → Hp → VK → Prop := fun x lo hi H Q => rSlL K x lo hi H Q ∨ rSlA K x lo hi H Q ∨ rSlS x lo hi H Q
theorem sl_any : L2.SlR X (rSlY X.kw) := L2.SlR.or sl_list (L2.SlR.or sl_tupA sl_str)
theorem gSl_ok {K : KW} {O : List Addr} {H : Hp} {x : V} {d : PyData} {lo hi : Option Int} {s : Sl} {Q : VK} (th : Thr O H) (rx : RP K O H x d) (hg : gSl d lo hi = some s) (q : Out K O H s Q) : rSlY K x lo hi H Q := by
  unfold gSl at hg
  split at hg
  · cases hg
    obtain ⟨p, vs, rfl, h1, r⟩ := rx.lst
    exact .inl ⟨p, vs, rfl, h1, fun p hp => out_lst q hp (r.cut lo hi)⟩
  · cases hg
    obtain ⟨p, vs, rfl, h1, r⟩ := rx.tup
    refine .inr (.inl ⟨p, vs, rfl, h1, fun e => ?_, fun _ p hp => out_tup q th hp (r.cut lo hi)⟩)
    have hw : ∀ (xs : List PyData), HT.sIx xs.length 0 lo = 0 ∧ HT.sIx xs.length xs.length hi = xs.length → cutD xs lo hi = xs := fun xs h => by
      unfold cutD
      rw [h.1, h.2]
      simp
    rw [r.length] at e
    rw [hw _ e] at q
    exact out_same q rx.tupR
  · cases rx.str
    split at hg
    · rename_i hz
      cases hg
      exact .inr (.inr ⟨_, rfl, by rw [line_eq]; exact hz, out_same q (.str _)⟩)
    · cases hg
  · cases hg
def mSl (ma : M Hn) (ml mh : M (Option Int)) : M Sl := M.bind ma fun h1 => M.bind ml fun lo => M.bind mh fun hi => M.bind M.get fun a => M.bind (M.of (h1 a)) fun d1 => M.of (nU (gSl d1 lo hi))
theorem px_slice {lo hi : Option Expr} {ml mh : M (Option Int)} {p2 : Pos} (ha : PH X W a ma) (hl : PP X W lo ml) (hh : PP X W hi mh) : PX X W (.Subscript a (.Slice lo hi none p2) pos) (mSl ma ml mh) := by
  refine PE.imp (pe_slice sl_any ha hl hh) fun σ H Q ⟨G, O, a, q⟩ => ?_
  refine ⟨G, O, a, q.bind (RR := RH X.kw) fun O1 H1 a1 x h1 I1 e1 r1 q1 => ?_⟩
  refine ⟨G, O1, a1, q1.bind (RR := RPt) fun O2 H2 a2 l lo I2 e2 r2 q2 => ?_⟩
  refine ⟨G, O2, a2, q2.bind (RR := RPt) fun O3 H3 a3 h hi I3 e3 r3 q3 => ?_⟩
  cases r2
  cases r3
  obtain ⟨d, hd, q4⟩ := (At.getB q3).ofB
  obtain ⟨s, hs, q5⟩ := q4.of
  obtain ⟨h2, h3⟩ := nU_some hs
  exact gSl_ok I3.th (r1 O3 H3 a3 d I3 (e2.trans e3) hd) h2 (q5.out h3)
end

/-! ### displays -/
section
variable {X : Cx} {W : WX} {e : Expr} {es : List Expr} {pos : Pos}
theorem pds_nil : PDs X W [] (M.pure []) := PA.imp pa_nil fun σ H Q ⟨G, O, a, q⟩ => q.pure (v := []) .nil
def mDs (m : M PyData) (r : M (List PyData)) : M (List PyData) := M.bind m fun d => M.bind r fun ds => M.pure (d :: ds)
theorem pds_cons {m : M PyData} {r : M (List PyData)} (h : PD X W e m) (hr : PDs X W es r) (hs : starEach (e :: es) X.env = (false, eval e X.env) :: starEach es X.env := by rfl) : PDs X W (e :: es) (mDs m r) :=
  PA.imp (pa_cons h hr hs) fun σ H Q ⟨G, O, a, q⟩ => ⟨G, O, a, q.bind (RR := RD X.kw) fun O1 H1 a1 v d I1 e1 r1 q1 => ⟨G, O1, a1, q1.bind (RR := RDs X.kw) fun O2 H2 a2 vs ds I2 e2 r2 q2 =>
    q2.pure (.cons (R.mono e2 _ _ r1) r2)⟩⟩
def mHs (m : M Hn) (r : M (List Hn)) : M (List Hn) := M.bind m fun d => M.bind r fun ds => M.pure (d :: ds)
theorem phs_nil : PHs X W [] (M.pure []) := PA.imp pa_nil fun σ H Q ⟨G, O, a, q⟩ => q.pure (v := []) .nil
theorem RH.mono {K : KW} {G : Gd} {O O' : List Addr} {σ : St} {H H' : Hp} {a a' : AEnv} {v : V} {h : Hn} (e : Ext O H O' H') (r : RH K G O σ H a v h) : RH K G O' σ H' a' v h := fun O2 H2 a2 d I2 e2 h2 => r O2 H2 a2 d I2 (e.trans e2) h2
theorem phs_cons {m : M Hn} {r : M (List Hn)} (h : PH X W e m) (hr : PHs X W es r) (hs : starEach (e :: es) X.env = (false, eval e X.env) :: starEach es X.env := by rfl) : PHs X W (e :: es) (mHs m r) :=
  PA.imp (pa_cons h hr hs) fun σ H Q ⟨G, O, a, q⟩ => ⟨G, O, a, q.bind (RR := RH X.kw) fun O1 H1 a1 v d I1 e1 r1 q1 => ⟨G, O1, a1, q1.bind (RR := RHs X.kw) fun O2 H2 a2 vs ds I2 e2 r2 q2 =>
    q2.pure (.cons (RH.mono e2 r1) r2)⟩⟩
def mTup (m : M (List PyData)) : M PyData := M.bind m fun ds => M.of (if ds.length ≤ lineN then some (.tuple ds) else none)
theorem pd_tup {m : M (List PyData)} {x1} (h : PDs X W es m) : PD X W (.Tuple es x1 pos) (mTup m) :=
  PE.imp (pe_tup h) fun σ H Q ⟨G, O, a, q⟩ => ⟨G, O, a, q.bind (RR := RDs X.kw) fun O1 H1 a1 vs ds I1 e1 r1 q1 => by
    obtain ⟨d, hd, q2⟩ := q1.of
    split at hd
    · rename_i hz
      cases hd
      exact ⟨by rw [r1.length, line_eq]; exact hz, fun p hp => out_tup q2.outD I1.th hp r1⟩
    · cases hd⟩
def mLst (m : M (List PyData)) : M Sl := M.bind m fun ds => M.of (if ds.length ≤ lineN then some (.lst ds) else none)
theorem px_lst {m : M (List PyData)} (h : PDs X W es m) : PX X W (.List es pos) (mLst m) :=
  PE.imp (pe_lst h) fun σ H Q ⟨G, O, a, q⟩ => ⟨G, O, a, q.bind (RR := RDs X.kw) fun O1 H1 a1 vs ds I1 e1 r1 q1 => by
    obtain ⟨d, hd, q2⟩ := q1.of
    split at hd
    · rename_i hz
      cases hd
      exact ⟨by rw [r1.length, line_eq]; exact hz, fun p hp => out_lst (q2.out (by simp)) hp r1⟩
    · cases hd⟩
/-- {} -/
theorem px_dict0 : PX X W (.Dict [] [] pos) (M.pure (.dk [])) :=
  PE.imp pe_dnewK fun σ H Q ⟨G, O, a, q⟩ => fun d hd => (q.out (by simp)).new (Ex.new hd) hd upd_same (show Cont X.kw (hide O H) d (.dK []) (.dk []) from Paired.nil)
end

/-! ### calls of built-in functions -/
def RPs (K : KW) (O : List Addr) (H : Hp) : List V → List PyData → Prop := Paired (RP K O H)
def CX_ (K : KW) (r : List V → Hp → VK → Prop) (g : List PyData → Option Sl) : Prop := ∀ O H vs ds s Q, Thr O H → RPs K O H vs ds → g ds = some s → Out K O H s Q → r vs H Q
def CD_ (K : KW) (r : List V → Hp → VK → Prop) (g : List PyData → Option PyData) : Prop := ∀ O H vs ds s Q, Thr O H → RPs K O H vs ds → g ds = some s → (∀ H' v, Ex H H' → R K (hide O H') v s → Q v H') → r vs H Q
def rdAll (a : AEnv) : List Hn → Option (List PyData)
  | [] => some []
  | h :: hs => match h a with
    | none => none
    | some d => (rdAll a hs).map (d :: ·)
def mCall {γ : Type} (m : M (List Hn)) (g : List PyData → Option γ) : M γ := M.bind m fun hs => M.bind M.get fun a => M.bind (M.of (rdAll a hs)) fun ds => M.of (g ds)
theorem rdAll_some {K : KW} {G : Gd} {O : List Addr} {σ : St} {H : Hp} {a : AEnv} (I : SR K G O σ H a) : ∀ {vs : List V} {hs : List Hn} {ds : List PyData}, RHs K G O σ H a vs hs → rdAll a hs = some ds → RPs K O H vs ds
  | _, [], ds, r, h => by
    cases r
    cases h
    exact .nil
  | _, h :: hs, ds, r, e => by
    cases r with
    | cons r1 r2 =>
      unfold rdAll at e
      cases e1 : h a with
      | none => rw [e1] at e; cases e
      | some d =>
        rw [e1] at e
        cases e2 : rdAll a hs with
        | none =>
          have e' : (rdAll a hs).map (d :: ·) = some ds := e
          rw [e2] at e'
          cases e'
        | some ds' =>
          have e' : (rdAll a hs).map (d :: ·) = some ds := e
          rw [e2] at e'
          cases e'
          exact .cons (r1 O H a d I (Ext.refl _ _) e1) (rdAll_some I r2 e2)
section
variable {X : Cx} {W : WX} {x : Str} {p pos : Pos} {e : Expr} {es : List Expr} {m : M (List Hn)} {id T : String} {r : List V → Hp → VK → Prop}
theorem tM_call {γ : Type} {RR : RRel V γ} {g : List PyData → Option γ} {σ : St} {H : Hp} {Q : VK}
    (hg : ∀ G O a H vs ds s, SR X.kw G O σ H a → RPs X.kw O H vs ds → g ds = some s → At X.kw W RR (M.pure s) G O a σ H Q → r vs H Q)
    (h : tM X.kw W RR (mCall m g) σ H Q) : tCB r (tM X.kw W (RHs X.kw) m) σ H Q := by
  obtain ⟨G, O, a, q⟩ := h
  refine ⟨G, O, a, q.bind (RR := RHs X.kw) fun O1 H1 a1 x h1 I1 e1 r1 q1 => ?_⟩
  obtain ⟨d, hd, q3⟩ := (At.getB q1).ofB
  obtain ⟨s, hs, q5⟩ := q3.of
  exact hg G O1 a1 H1 x d s I1 (rdAll_some I1 r1 hd) hs q5
theorem px_callB {g : List PyData → Option Sl} (hc : CallR X (.builtin id) r) (hg : CX_ X.kw r g) (hgl : Gl X x) (hm : X.mg x = none) (hv : bootBuiltins x = some (.builtin id)) (ha : PHs X W (e :: es) m) (hn : x ≠ "__name__" := by decide) (hdb : (x == ("__debug__" : Str)) = false := by decide)
    (he : starEach (e :: es) X.env = (false, eval e X.env) :: starEach es X.env := by rfl) (hpl : (backTo pos (starEach es X.env)).any (·.1) = false := by rfl) : PX X W (.Call (.Name x p) (e :: es) [] pos) (mCall m fun ds => nU (g ds)) :=
  PE.imp (pe_callB hc hgl hm hv ha hn hdb he hpl) fun σ H Q h => tM_call (fun G O a H vs ds s I rs hs q => hg O H vs ds s Q I.th rs (nU_some hs).1 (q.out (nU_some hs).2)) h
theorem pd_callB {g : List PyData → Option PyData} (hc : CallR X (.builtin id) r) (hg : CD_ X.kw r g) (hgl : Gl X x) (hm : X.mg x = none) (hv : bootBuiltins x = some (.builtin id)) (ha : PHs X W (e :: es) m) (hn : x ≠ "__name__" := by decide) (hdb : (x == ("__debug__" : Str)) = false := by decide)
    (he : starEach (e :: es) X.env = (false, eval e X.env) :: starEach es X.env := by rfl) (hpl : (backTo pos (starEach es X.env)).any (·.1) = false := by rfl) : PD X W (.Call (.Name x p) (e :: es) [] pos) (mCall m g) :=
  PE.imp (pe_callB hc hgl hm hv ha hn hdb he hpl) fun σ H Q h => tM_call (fun G O a H vs ds s I rs hs q => hg O H vs ds s Q I.th rs hs q.outD) h
theorem px_callT {g : List PyData → Option Sl} (hc : CallR X (.type T) r) (hg : CX_ X.kw r g) (hgl : Gl X x) (hm : X.mg x = none) (hv : bootBuiltins x = some (.type T)) (ha : PHs X W (e :: es) m) (hn : x ≠ "__name__" := by decide) (hdb : (x == ("__debug__" : Str)) = false := by decide)
    (he : starEach (e :: es) X.env = (false, eval e X.env) :: starEach es X.env := by rfl) (hpl : (backTo pos (starEach es X.env)).any (·.1) = false := by rfl) : PX X W (.Call (.Name x p) (e :: es) [] pos) (mCall m fun ds => nU (g ds)) :=
  PE.imp (pe_callTy hc hgl hm hv ha hn hdb he hpl) fun σ H Q h => tM_call (fun G O a H vs ds s I rs hs q => hg O H vs ds s Q I.th rs (nU_some hs).1 (q.out (nU_some hs).2)) h
theorem pd_callT {g : List PyData → Option PyData} (hc : CallR X (.type T) r) (hg : CD_ X.kw r g) (hgl : Gl X x) (hm : X.mg x = none) (hv : bootBuiltins x = some (.type T)) (ha : PHs X W (e :: es) m) (hn : x ≠ "__name__" := by decide) (hdb : (x == ("__debug__" : Str)) = false := by decide)
    (he : starEach (e :: es) X.env = (false, eval e X.env) :: starEach es X.env := by rfl) (hpl : (backTo pos (starEach es X.env)).any (·.1) = false := by rfl) : PD X W (.Call (.Name x p) (e :: es) [] pos) (mCall m g) :=
  PE.imp (pe_callTy hc hgl hm hv ha hn hdb he hpl) fun σ H Q h => tM_call (fun G O a H vs ds s I rs hs q => hg O H vs ds s Q I.th rs hs q.outD) h
end
theorem RPs.one {K : KW} {O : List Addr} {H : Hp} {vs : List V} {d : PyData} (h : RPs K O H vs [d]) : ∃ v, vs = [v] ∧ RP K O H v d := by
  cases h with
  | cons h1 h2 => cases h2; exact ⟨_, rfl, h1⟩
theorem RPs.two {K : KW} {O : List Addr} {H : Hp} {vs : List V} {d e : PyData} (h : RPs K O H vs [d, e]) : ∃ v w, vs = [v, w] ∧ RP K O H v d ∧ RP K O H w e := by
  cases h with
  | cons h1 h2 =>
    cases h2 with
    | cons h2 h3 => cases h3; exact ⟨_, _, rfl, h1, h2⟩
/-- len -/
def gLen : List PyData → Option PyData
  | [.list xs] => some (.int xs.length)
  | [.tuple xs] => some (.int xs.length)
  | [.str z] => if z.length ≤ lineN then some (.int z.length) else none
  | _ => none
def rLenA (K : KW) : List V → Hp → VK → Prop := fun xs H Q => (∃ p ys, xs = [.ref p] ∧ (SqL K H p ys ∨ SqT K H p ys) ∧ Q (.int ys.length) H) ∨ (∃ z, xs = [.str z] ∧ z.length ≤ sizeLine ∧ Q (.int z.length) H)
section
variable {X : Cx} {K : KW}
theorem call_lenA : CallR X (.builtin "len") (rLenA X.kw) := CallR.or call_len_seq call_len_str
theorem gLen_ok : CD_ K (rLenA K) gLen := by
  intro O H vs ds s Q th rs hg q
  unfold gLen at hg
  split at hg
  · cases hg
    obtain ⟨v, rfl, r⟩ := rs.one
    obtain ⟨p, ys, rfl, h1, r1⟩ := r.lst
    exact .inl ⟨p, ys, rfl, .inl h1, by rw [r1.length]; exact out_same q (.int _)⟩
  · cases hg
    obtain ⟨v, rfl, r⟩ := rs.one
    obtain ⟨p, ys, rfl, h1, r1⟩ := r.tup
    exact .inl ⟨p, ys, rfl, .inr h1, by rw [r1.length]; exact out_same q (.int _)⟩
  · split at hg
    · rename_i hz
      cases hg
      obtain ⟨v, rfl, r⟩ := rs.one
      cases r.str
      exact .inr ⟨_, rfl, by rw [line_eq]; exact hz, out_same q (.int _)⟩
    · cases hg
  · cases hg
/-- list(x), tuple(x) of a list or a tuple -/
def gList : List PyData → Option Sl
  | [.list xs] => some (.lst xs)
  | [.tuple xs] => some (.lst xs)
  | _ => none
theorem gList_ok : CX_ K (fun xs H Q => ∃ p ys, xs = [.ref p] ∧ (SqL K H p ys ∨ SqT K H p ys) ∧ ∀ l, H l = none → Q (.ref l) (upd H l (.lst ys))) gList := by
  intro O H vs ds s Q th rs hg q
  unfold gList at hg
  split at hg
  · cases hg
    obtain ⟨v, rfl, r⟩ := rs.one
    obtain ⟨p, ys, rfl, h1, r1⟩ := r.lst
    exact ⟨p, ys, rfl, .inl h1, fun l hl => out_lst q hl r1⟩
  · cases hg
    obtain ⟨v, rfl, r⟩ := rs.one
    obtain ⟨p, ys, rfl, h1, r1⟩ := r.tup
    exact ⟨p, ys, rfl, .inr h1, fun l hl => out_lst q hl r1⟩
  · cases hg
def gTuple : List PyData → Option PyData
  | [.list xs] => some (.tuple xs)
  | [.tuple xs] => some (.tuple xs)
  | _ => none
theorem gTuple_ok : CD_ K (fun xs H Q => ∃ p ys, xs = [.ref p] ∧ ((SqL K H p ys ∧ ∀ l, H l = none → Q (.ref l) (upd H l (.tup ys))) ∨ (SqT K H p ys ∧ Q (.ref p) H))) gTuple := by
  intro O H vs ds s Q th rs hg q
  unfold gTuple at hg
  split at hg
  · cases hg
    obtain ⟨v, rfl, r⟩ := rs.one
    obtain ⟨p, ys, rfl, h1, r1⟩ := r.lst
    exact ⟨p, ys, rfl, .inl ⟨h1, fun l hl => out_tup q th hl r1⟩⟩
  · cases hg
    obtain ⟨v, rfl, r⟩ := rs.one
    have r' := r.tupR
    obtain ⟨p, ys, rfl, h1, r1⟩ := r.tup
    exact ⟨p, ys, rfl, .inr ⟨h1, out_same q r'⟩⟩
  · cases hg
/-- all, any, sum, max, min of a list -/
def boolsD : List PyData → Option (List Bool)
  | [] => some []
  | .bool b :: r => (boolsD r).map (b :: ·)
  | _ => none
def intsD : List PyData → Option (List Int)
  | [] => some []
  | .int b :: r => (intsD r).map (b :: ·)
  | _ => none
theorem boolsD_some : ∀ {ds : List PyData} {bs : List Bool}, boolsD ds = some bs → ds = bs.map PyData.bool
  | [], bs, h => by cases h; rfl
  | d :: ds, bs, h => by
    cases d with
    | bool b =>
      have h' : (boolsD ds).map (b :: ·) = some bs := h
      cases e : boolsD ds with
      | none => rw [e] at h'; cases h'
      | some cs =>
        rw [e] at h'
        cases h'
        rw [boolsD_some e]
        rfl
    | _ => cases h
theorem intsD_some : ∀ {ds : List PyData} {bs : List Int}, intsD ds = some bs → ds = bs.map PyData.int
  | [], bs, h => by cases h; rfl
  | d :: ds, bs, h => by
    cases d with
    | int b =>
      have h' : (intsD ds).map (b :: ·) = some bs := h
      cases e : intsD ds with
      | none => rw [e] at h'; cases h'
      | some cs =>
        rw [e] at h'
        cases h'
        rw [intsD_some e]
        rfl
    | _ => cases h
theorem intsD_map (ns : List Int) : intsD (ns.map PyData.int) = some ns := by
  induction ns with
  | nil => rfl
  | cons n ns ih => show (intsD (ns.map PyData.int)).map (n :: ·) = _; rw [ih]; rfl
theorem boolsD_map (ns : List Bool) : boolsD (ns.map PyData.bool) = some ns := by
  induction ns with
  | nil => rfl
  | cons n ns ih => show (boolsD (ns.map PyData.bool)).map (n :: ·) = _; rw [ih]; rfl
theorem RAll.bools {K : PySem.W.Frag} {H : Hp} : ∀ {vs : List V} {ns : List Bool}, RAll K H vs (ns.map PyData.bool) → vs = ns.map V.bl
  | _, [], h => by cases h; rfl
  | _, n :: ns, h => by
    cases h with
    | cons h1 h2 =>
      cases h1
      rw [h2.bools]
      rfl
def gAll : List PyData → Option PyData
  | [.list xs] => (boolsD xs).map fun bs => .bool (bs.all id)
  | _ => none
def gAny : List PyData → Option PyData
  | [.list xs] => (boolsD xs).map fun bs => .bool (bs.any id)
  | _ => none
def gSum : List PyData → Option PyData
  | [.list xs] => (intsD xs).map fun bs => .int bs.sum
  | _ => none
theorem gAll_ok : CD_ K (rAll K) gAll := by
  intro O H vs ds s Q th rs hg q
  unfold gAll at hg
  split at hg
  · rename_i xs
    cases e : boolsD xs with
    | none => rw [e] at hg; cases hg
    | some bs =>
      rw [e] at hg
      cases hg
      obtain ⟨v, rfl, r⟩ := rs.one
      obtain ⟨p, ys, rfl, h1, r1⟩ := r.lst
      rw [boolsD_some e] at r1
      rw [r1.bools] at h1
      exact ⟨p, bs, rfl, h1, out_same q (.bl _)⟩
  · cases hg
theorem gAny_ok : CD_ K (rAny K) gAny := by
  intro O H vs ds s Q th rs hg q
  unfold gAny at hg
  split at hg
  · rename_i xs
    cases e : boolsD xs with
    | none => rw [e] at hg; cases hg
    | some bs =>
      rw [e] at hg
      cases hg
      obtain ⟨v, rfl, r⟩ := rs.one
      obtain ⟨p, ys, rfl, h1, r1⟩ := r.lst
      rw [boolsD_some e] at r1
      rw [r1.bools] at h1
      exact ⟨p, bs, rfl, h1, out_same q (.bl _)⟩
  · cases hg
theorem gSum_ok : CD_ K (rSum K) gSum := by
  intro O H vs ds s Q th rs hg q
  unfold gSum at hg
  split at hg
  · rename_i xs
    cases e : intsD xs with
    | none => rw [e] at hg; cases hg
    | some bs =>
      rw [e] at hg
      cases hg
      obtain ⟨v, rfl, r⟩ := rs.one
      obtain ⟨p, ys, rfl, h1, r1⟩ := r.lst
      rw [intsD_some e] at r1
      rw [r1.ints] at h1
      exact ⟨p, bs, rfl, h1, out_same q (.int _)⟩
  · cases hg
/-- max(xs), min(xs): a list of ints that is not empty -/
def maxI : List Int → Option Int
  | [] => none
  | [a] => some a
  | a :: r => (maxI r).map fun m => if m > a then m else a
def minI : List Int → Option Int
  | [] => none
  | [a] => some a
  | a :: r => (minI r).map fun m => if m < a then m else a
theorem maxI_spec : ∀ {ns : List Int} {m : Int}, maxI ns = some m → m ∈ ns ∧ ∀ y ∈ ns, y ≤ m
  | [], m, h => by cases h
  | [a], m, h => by cases h; simp
  | a :: b :: r, m, h => by
    have h' : (maxI (b :: r)).map (fun m => if m > a then m else a) = some m := h
    cases e : maxI (b :: r) with
    | none => rw [e] at h'; cases h'
    | some k =>
      rw [e] at h'
      obtain ⟨h1, h2⟩ := maxI_spec e
      have h'' : (if k > a then k else a) = m := Option.some.inj h'
      subst h''
      constructor
      · split
        · exact List.mem_cons_of_mem _ h1
        · exact List.mem_cons_self
      · intro y hy
        rcases List.mem_cons.mp hy with rfl | hy
        · split <;> omega
        · have := h2 y hy
          split <;> omega
theorem minI_spec : ∀ {ns : List Int} {m : Int}, minI ns = some m → m ∈ ns ∧ ∀ y ∈ ns, m ≤ y
  | [], m, h => by cases h
  | [a], m, h => by cases h; simp
  | a :: b :: r, m, h => by
    have h' : (minI (b :: r)).map (fun m => if m < a then m else a) = some m := h
    cases e : minI (b :: r) with
    | none => rw [e] at h'; cases h'
    | some k =>
      rw [e] at h'
      obtain ⟨h1, h2⟩ := minI_spec e
      have h'' : (if k < a then k else a) = m := Option.some.inj h'
      subst h''
      constructor
      · split
        · exact List.mem_cons_of_mem _ h1
        · exact List.mem_cons_self
      · intro y hy
        rcases List.mem_cons.mp hy with rfl | hy
        · split <;> omega
        · have := h2 y hy
          split <;> omega
def gMax1 : List PyData → Option PyData
  | [.list xs] => (intsD xs).bind fun ns => (maxI ns).map .int
  | _ => none
def gMin1 : List PyData → Option PyData
  | [.list xs] => (intsD xs).bind fun ns => (minI ns).map .int
  | _ => none
theorem gMax1_ok : CD_ K (rMax K) gMax1 := by
  intro O H vs ds s Q th rs hg q
  unfold gMax1 at hg
  split at hg
  · rename_i xs
    cases e : intsD xs with
    | none => rw [e] at hg; cases hg
    | some ns =>
      rw [e] at hg
      cases e2 : maxI ns with
      | none =>
        have hg' : (maxI ns).map PyData.int = some s := hg
        rw [e2] at hg'
        cases hg'
      | some k =>
        have hg' : (maxI ns).map PyData.int = some s := hg
        rw [e2] at hg'
        cases hg'
        obtain ⟨v, rfl, r⟩ := rs.one
        obtain ⟨p, ys, rfl, h1, r1⟩ := r.lst
        rw [intsD_some e] at r1
        rw [r1.ints] at h1
        obtain ⟨k1, k2⟩ := maxI_spec e2
        refine ⟨p, ns, rfl, h1, List.length_pos_of_mem k1, fun m hm hle => ?_⟩
        have em : m = k := Int.le_antisymm (k2 m hm) (hle k k1)
        rw [em]
        exact out_same q (.int _)
  · cases hg
theorem gMin1_ok : CD_ K (rMin K) gMin1 := by
  intro O H vs ds s Q th rs hg q
  unfold gMin1 at hg
  split at hg
  · rename_i xs
    cases e : intsD xs with
    | none => rw [e] at hg; cases hg
    | some ns =>
      rw [e] at hg
      cases e2 : minI ns with
      | none =>
        have hg' : (minI ns).map PyData.int = some s := hg
        rw [e2] at hg'
        cases hg'
      | some k =>
        have hg' : (minI ns).map PyData.int = some s := hg
        rw [e2] at hg'
        cases hg'
        obtain ⟨v, rfl, r⟩ := rs.one
        obtain ⟨p, ys, rfl, h1, r1⟩ := r.lst
        rw [intsD_some e] at r1
        rw [r1.ints] at h1
        obtain ⟨k1, k2⟩ := minI_spec e2
        refine ⟨p, ns, rfl, h1, List.length_pos_of_mem k1, fun m hm hle => ?_⟩
        have em : m = k := Int.le_antisymm (hle k k1) (k2 m hm)
        rw [em]
        exact out_same q (.int _)
  · cases hg
/-- max(i, j), min(i, j) -/
def gMax2 : List PyData → Option PyData
  | [.int i, .int j] => some (.int (if j > i then j else i))
  | _ => none
def gMin2 : List PyData → Option PyData
  | [.int i, .int j] => some (.int (if j < i then j else i))
  | _ => none
/-- isinstance -/
def tyD : PyData → String
  | .none => "NoneType"
  | .bool _ => "bool"
  | .int _ => "int"
  | .str _ => "str"
  | .list _ => "list"
  | .tuple _ => "tuple"
  | .dict _ => "dict"
theorem R.ty {K : PySem.W.Frag} {H : Hp} {x : V} {d : PyData} (h : R K H x d) : TyX K H x (.type (tyD d)) := by
  cases h with
  | non => exact .base .non
  | bl b => exact .base (.bl b)
  | int i => exact .base (.int i)
  | str x => exact .base (.str x)
  | lst h1 h2 =>
    rcases h1 with (h1 | ⟨o, h1⟩) | ⟨o, its, n, h1, h2, _⟩
    · exact .base (.lst h1)
    · exact .base (.frz h1)
    · exact .kList h1 h2
  | tup h1 h2 =>
    rcases h1 with (h1 | ⟨o, h1⟩) | ⟨o, its, n, h1, h2, _⟩
    · exact .base (.tup h1)
    · exact .fTuple h1
    · exact .kTuple h1 h2
  | dic0 h1 => exact .base (.dK h1)
def isiD (T : String) (d : PyData) : Option PyData := (kitB (tyD d) T).map .bool
end
section
variable {X : Cx} {W : WX} {p p2 pos : Pos} {e : Expr} {m : M Hn} {T : String} {x : Str}
theorem pd_isi (hgl : Gl X "isinstance") (hm : X.mg "isinstance" = none) (hgx : Gl X x) (hmx : X.mg x = none) (hv : bootBuiltins x = some (.type T)) (ha : PH X W e m) (hn : x ≠ "__name__" := by decide) (hdb : (x == ("__debug__" : Str)) = false := by decide)
    (he1 : starEach [e, .Name x p2] X.env = (false, eval e X.env) :: starEach [.Name x p2] X.env := by rfl) (he2 : starEach [.Name x p2] X.env = (false, eval (.Name x p2) X.env) :: starEach [] X.env := by rfl)
    (hpl : (backTo pos (starEach [.Name x p2] X.env)).any (·.1) = false := by rfl) : PD X W (.Call (.Name "isinstance" p) [e, .Name x p2] [] pos) (mU m (isiD T)) := by
  have hT : PE X (.Name x p2) (tC (.ty T)) := pe_bltn hgx hmx hv rfl hn hdb
  refine PE.imp (pe_callB call_isi hgl hm PyProof.Rows.boot_isinstance (pa_cons ha (pa_cons hT pa_nil he2) he1) (by decide) (by decide) he1 hpl) fun σ H Q h => ?_
  refine tM_un (T := fun x1 H1 => (tCons (tC (.ty T)) tNil) σ H1 fun xs H2 => rIsi X.K (x1 :: xs) H2 Q) (fun G O a H x d s I rx hs q => ?_) h
  unfold isiD at hs
  cases hk : kitB (tyD d) T with
  | none => rw [hk] at hs; cases hs
  | some b =>
    rw [hk] at hs
    cases hs
    exact ⟨x, .ty T, _, _, b, rfl, .ty T, R.ty rx.full, kit_ty hk, q.outD H _ (Ex.refl _) (.bl b)⟩
end
end Am

/-! Am4: statements, loops, comprehensions. -/
namespace Am
open PySem L2

inductive Fl where
  | nx | brk | ct
  | ret (s : Sl)
def FinS (K : KW) (W : WX) (G : Gd) (O : List Addr) (H : Hp) (x : Except Exc Fl × AEnv) (D : Ends) : Prop := match x with
  | (.ok .nx, a') => ∀ O' σ' H', SR K G O' σ' H' a' → Ext O H O' H' → D.nx σ' H'
  | (.ok .brk, a') => ∀ O' σ' H', SR K G O' σ' H' a' → Ext O H O' H' → D.bk σ' H'
  | (.ok .ct, a') => ∀ O' σ' H', SR K G O' σ' H' a' → Ext O H O' H' → D.ct σ' H'
  | (.ok (.ret s), a') => ∀ O' σ' H' v, SR K G O' σ' H' a' → Ext O H O' H' → RS K G O' σ' H' a' v s → D.rt v H'
  | (.error e, a') => ∀ O' σ' H' d, SR K G O' σ' H' a' → Ext O H O' H' → ExcR K O' H' d e → W (.ref e.cls) d σ' H'
structure StAt (K : KW) (W : WX) (m : M Fl) (G : Gd) (O : List Addr) (a : AEnv) (σ : St) (H : Hp) (D : Ends) : Prop where
  sr : SR K G O σ H a
  go : ∃ x, m a = some x ∧ FinS K W G O H x D
def sM (K : KW) (W : WX) (m : M Fl) : TS := fun D σ H => ∃ G O a, StAt K W m G O a σ H D
abbrev PSM (X : Cx) (W : WX) (st : Stmt) (m : M Fl) : Prop := PS X st (sM X.kw W m)
abbrev PSsM (X : Cx) (W : WX) (st : List Stmt) (m : M Fl) : Prop := PSs X st (sM X.kw W m)
theorem FinS.ext {K : KW} {W : WX} {G : Gd} {O O1 : List Addr} {H H1 : Hp} {x : Except Exc Fl × AEnv} {D : Ends} (F : FinS K W G O H x D) (e1 : Ext O H O1 H1) : FinS K W G O1 H1 x D := by
  obtain ⟨r, a⟩ := x
  cases r with
  | error e => exact fun O' σ' H' d I e2 q => F O' σ' H' d I (e1.trans e2) q
  | ok f =>
    cases f with
    | nx => exact fun O' σ' H' I e2 => F O' σ' H' I (e1.trans e2)
    | brk => exact fun O' σ' H' I e2 => F O' σ' H' I (e1.trans e2)
    | ct => exact fun O' σ' H' I e2 => F O' σ' H' I (e1.trans e2)
    | ret s => exact fun O' σ' H' v I e2 q => F O' σ' H' v I (e1.trans e2) q

section
variable {K : KW} {W : WX} {G : Gd} {O : List Addr} {a : AEnv} {σ : St} {H : Hp} {D : Ends} {ν α : Type} {RR : RRel ν α} {m : M α} {f : α → M Fl} {Q1 : ν → Hp → Prop}
/-- from a statement's mirror to its first expression's -/
theorem StAt.bind (h : StAt K W (M.bind m f) G O a σ H D) (k : ∀ O1 H1 a1 v r, SR K G O1 σ H1 a1 → Ext O H O1 H1 → RR G O1 σ H1 a1 v r → StAt K W (f r) G O1 a1 σ H1 D → Q1 v H1) : tM K W RR m σ H Q1 := by
  obtain ⟨I, x, e, F⟩ := h
  refine ⟨G, O, a, I, ?_⟩
  unfold M.bind at e
  cases em : m a with
  | none => rw [em] at e; cases e
  | some y =>
    refine ⟨y, rfl, ?_⟩
    obtain ⟨y1, a1⟩ := y
    rw [em] at e
    cases y1 with
    | error er =>
      have e' : (Except.error er, a1) = x := Option.some.inj e
      subst e'
      exact fun O' H' d I' e1 q => F O' σ H' d I' e1 q
    | ok r =>
      have e' : f r a1 = some x := e
      exact fun O1 H1 v I1 e1 r1 => k O1 H1 a1 v r I1 e1 r1 ⟨I1, x, e', F.ext e1⟩
theorem StAt.nx {G : Gd} {a : AEnv} (h : StAt K W (M.pure .nx) G O a σ H D) : D.nx σ H := by
  obtain ⟨I, x, e, F⟩ := h
  have e' : (Except.ok Fl.nx, a) = x := Option.some.inj e
  subst e'
  exact F O σ H I (Ext.refl _ _)
theorem StAt.of {γ : Type} {o : Option γ} {f : γ → M Fl} (h : StAt K W (M.bind (M.of o) f) G O a σ H D) : ∃ r, o = some r ∧ StAt K W (f r) G O a σ H D := by
  obtain ⟨I, x, e, F⟩ := h
  cases o with
  | none => cases e
  | some r => exact ⟨r, rfl, I, x, e, F⟩
theorem StAt.get {f : AEnv → M Fl} (h : StAt K W (M.bind M.get f) G O a σ H D) : StAt K W (f a) G O a σ H D := by
  obtain ⟨I, x, e, F⟩ := h
  exact ⟨I, x, e, F⟩
theorem StAt.grow {m : M Fl} {H' : Hp} (h : StAt K W m G O a σ H D) (e : Ex H H') : StAt K W m G O a σ H' D :=
  ⟨h.sr.grow e, h.go.imp fun x q => ⟨q.1, q.2.ext (ext_grow e)⟩⟩
end

/-! ### blocks -/
def mSeq (m r : M Fl) : M Fl := M.bind m fun f => match f with
  | .nx => r
  | f => M.pure f
section
variable {X : Cx} {W : WX} {st : Stmt} {rest : List Stmt} {m r : M Fl} {e : Expr} {pos : Pos}
theorem StAt.seq {K : KW} {G : Gd} {O : List Addr} {a : AEnv} {σ : St} {H : Hp} {D : Ends} (h : StAt K W (mSeq m r) G O a σ H D) : StAt K W m G O a σ H { D with nx := sM K W r D } := by
  obtain ⟨I, x, e, F⟩ := h
  refine ⟨I, ?_⟩
  unfold mSeq M.bind at e
  cases em : m a with
  | none => rw [em] at e; cases e
  | some y =>
    refine ⟨y, rfl, ?_⟩
    obtain ⟨y1, a1⟩ := y
    rw [em] at e
    cases y1 with
    | error er =>
      have e' : (Except.error er, a1) = x := Option.some.inj e
      subst e'
      exact F
    | ok f =>
      cases f with
      | nx =>
        have e' : r a1 = some x := e
        exact fun O' σ' H' I' e1 => ⟨G, O', a1, I', x, e', F.ext e1⟩
      | brk =>
        have e' : (Except.ok Fl.brk, a1) = x := Option.some.inj e
        subst e'
        exact F
      | ct =>
        have e' : (Except.ok Fl.ct, a1) = x := Option.some.inj e
        subst e'
        exact F
      | ret s =>
        have e' : (Except.ok (Fl.ret s), a1) = x := Option.some.inj e
        subst e'
        exact F
theorem mss_nil : PSsM X W [] (M.pure .nx) := PSs.imp pss_nil fun D σ H ⟨G, O, a, h⟩ => h.nx
theorem mss_cons (h1 : PSM X W st m) (h2 : PSsM X W rest r) : PSsM X W (st :: rest) (mSeq m r) :=
  PSs.imp (pss_cons h1 h2) fun D σ H ⟨G, O, a, h⟩ => ⟨G, O, a, h.seq⟩
theorem mss_one (h1 : PSM X W st m) : PSsM X W [st] m := PSs.imp (pss_one h1) fun D σ H h => h
theorem ms_pass : PSM X W (.Pass pos) (M.pure .nx) := PS.imp ps_pass fun D σ H ⟨G, O, a, h⟩ => h.nx
theorem ms_doc {x j pos'} : PSM X W (.Expr (.Constant (.str x) j pos) pos') (M.pure .nx) := PS.imp ps_doc fun D σ H ⟨G, O, a, h⟩ => h.nx
theorem ms_break : PSM X W (.Break pos) (M.pure .brk) := PS.imp ps_break fun D σ H ⟨G, O, a, I, x, e, F⟩ => by
  have e' : (Except.ok Fl.brk, a) = x := Option.some.inj e
  subst e'
  exact F O σ H I (Ext.refl _ _)
theorem ms_continue : PSM X W (.Continue pos) (M.pure .ct) := PS.imp ps_continue fun D σ H ⟨G, O, a, I, x, e, F⟩ => by
  have e' : (Except.ok Fl.ct, a) = x := Option.some.inj e
  subst e'
  exact F O σ H I (Ext.refl _ _)
/-- an expression as a statement -/
def mDrop {γ : Type} (m : M γ) : M Fl := M.bind m fun _ => M.pure .nx
theorem ms_expr {γ : Type} {RR : RRel V γ} {k : M γ} (h : PE X e (tM X.kw W RR k)) (hs : swapsWith e none pos.line X.env = pure false := by rfl) : PSM X W (.Expr e pos) (mDrop k) :=
  PS.imp (ps_expr h hs) fun D σ H ⟨G, O, a, q⟩ => q.bind (RR := RR) fun O1 H1 a1 v r I1 e1 r1 q1 => q1.nx
def mRet (m : M Sl) : M Fl := M.bind m fun s => M.pure (.ret s)
theorem ms_ret {k : M Sl} (h : PX X W e k) : PSM X W (.Return (some e) pos) (mRet k) :=
  PS.imp (ps_ret h) fun D σ H ⟨G, O, a, q⟩ => q.bind (RR := RS X.kw) fun O1 H1 a1 v r I1 e1 r1 q1 => by
    obtain ⟨I, x, e, F⟩ := q1
    have e' : (Except.ok (Fl.ret r), a1) = x := Option.some.inj e
    subst e'
    exact F O1 σ H1 v I (Ext.refl _ _) r1
theorem ms_retN : PSM X W (.Return none pos) (M.pure (.ret (.dat .none))) := PS.imp ps_retN fun D σ H ⟨G, O, a, I, x, e, F⟩ => by
  have e' : (Except.ok (Fl.ret (.dat .none)), a) = x := Option.some.inj e
  subst e'
  exact F O σ H .non I (Ext.refl _ _) (.inl ⟨_, rfl, .non⟩)
def mIfS (c : M Bool) (m r : M Fl) : M Fl := M.bind c fun b => if b = true then m else r
theorem ms_if {c : Expr} {a b : List Stmt} {k : M Bool} (hc : PB X W c k) (ha : PSsM X W a m) (hb : PSsM X W b r) : PSM X W (.If c a b pos) (mIfS k m r) :=
  PS.imp (ps_if hc ha hb) fun D σ H ⟨G, O, a, q⟩ => q.bind (RR := RB) fun O1 H1 a1 v b I1 e1 r1 q1 => by
    cases (show v = b from r1)
    cases v with
    | true => exact ⟨G, O1, a1, q1⟩
    | false => exact ⟨G, O1, a1, q1⟩
end

/-! ### assignments -/
section
variable {K : KW} {G : Gd} {O : List Addr} {a : AEnv} {σ : St} {H : Hp}
/-- a name's slot takes a value -/
def putS (i : Nat) (s : Sl) : AEnv → Option AEnv := fun a => if s.owned = true ∧ i = 0 then none else if i < a.length then some (a.set i s) else none
theorem putS_some {i : Nat} {s : Sl} {a a' : AEnv} (h : putS i s a = some a') : ¬ (s.owned = true ∧ i = 0) ∧ i < a.length ∧ a' = a.set i s := by
  unfold putS at h
  split at h
  · cases h
  · split at h
    · cases h
      exact ⟨by assumption, by assumption, rfl⟩
    · cases h
theorem SR.put (I : SR K G O σ H a) {i : Nat} {s : Sl} {v : V} (r : RS K G O σ H a v s) {a' : AEnv} (h : putS i s a = some a') : SR K G O (σ.set i (some v)) H a' := by
  obtain ⟨h0, hi, rfl⟩ := putS_some h
  have hi' : i < σ.length := by rw [← I.len]; exact hi
  have at_i : ∀ {t}, (a.set i s)[i]? = some t → t = s := fun {t} z => by rw [List.getElem?_set_self hi] at z; exact (Option.some.inj z).symm
  have ne_i : ∀ {j t}, i ≠ j → (a.set i s)[j]? = some t → a[j]? = some t := fun {j t} e z => by rw [List.getElem?_set_ne e] at z; exact z
  have sx_i : ∀ {x}, (σ.set i (some v))[i]? = some x → x = some v := fun {x} z => by rw [List.getElem?_set_self hi'] at z; exact (Option.some.inj z).symm
  have sx_n : ∀ {j x}, i ≠ j → (σ.set i (some v))[j]? = some x → σ[j]? = some x := fun {j x} e z => by rw [List.getElem?_set_ne e] at z; exact z
  have nb : s.owned = true → ∀ (j : Nat) t p, v = .ref p → a[j]? = some t → t.owned = true → σ[j]? ≠ some (some (.ref p)) := fun hs j t p hp => by
    rcases r with ⟨d, rfl, _⟩ | ⟨_, p', ho, e, _, _, _, nb, _⟩
    · cases hs
    · rw [e] at hp
      cases hp
      exact nb j t
  refine ⟨I.ex, I.xs, I.th, by simpa using I.len, fun j t x h1 h2 => ?_, fun j k p t u hjk h1 h2 ht hu e1 e2 => ?_, fun p hp t h1 ht => ?_, fun j t p h1 ht h2 => ?_, fun p t hp => ?_, I.ghn⟩
  · by_cases e : i = j
    · subst e
      cases at_i h1
      cases sx_i h2
      rcases r with ⟨d, rfl, r⟩ | ⟨hs, p, ho, rfl, hm, hp, c, _⟩
      · exact ⟨v, rfl, r⟩
      · exact (SlR.own hs).mpr ⟨p, ho, rfl, hm, hp, c⟩
    · exact I.sl j t x (ne_i e h1) (sx_n e h2)
  · by_cases e : i = j
    · subst e
      have hk : i ≠ k := hjk
      cases at_i h1
      have hv := sx_i e1
      cases hv
      exact nb ht k u p rfl (ne_i hk h2) hu (sx_n hk e2)
    · by_cases e' : i = k
      · subst e'
        cases at_i h2
        have hv := sx_i e2
        cases hv
        exact nb hu j t p rfl (ne_i e h1) ht (sx_n e e1)
      · exact I.inj j k p t u hjk (ne_i e h1) (ne_i e' h2) ht hu (sx_n e e1) (sx_n e' e2)
  · by_cases e : i = 0
    · subst e
      cases at_i h1
      exact absurd ⟨ht, rfl⟩ h0
    · rw [List.getElem?_set_ne e]
      exact I.anc p hp t (ne_i e h1) ht
  · by_cases e : i = j
    · subst e
      cases at_i h1
      have hv := sx_i h2
      cases hv
      rcases r with ⟨d, rfl, r⟩ | ⟨_, p', ho, e, _, _, _, _, _, hB⟩
      · cases ht
      · cases e
        exact hB
    · exact I.fr j t p (ne_i e h1) ht (sx_n e h2)
  · obtain ⟨h1, h2, h3⟩ := I.gh p t hp
    refine ⟨h1, h2, fun j u h4 hu h5 => ?_⟩
    by_cases e : i = j
    · subst e
      cases at_i h4
      have hv := sx_i h5
      cases hv
      rcases r with ⟨d, rfl, r⟩ | ⟨_, p', ho, e, _, _, _, _, ng, _⟩
      · cases hu
      · cases e
        exact ng t hp
    · exact h3 j u (ne_i e h4) hu (sx_n e h5)
/-- a statement that ends with a new state -/
def mPut (f : AEnv → Option AEnv) : M Fl := fun a => (f a).map fun a' => (.ok .nx, a')
theorem StAt.put {W : WX} {D : Ends} {f : AEnv → Option AEnv} (h : StAt K W (mPut f) G O a σ H D) : ∃ a', f a = some a' ∧ ∀ O' σ' H', SR K G O' σ' H' a' → Ext O H O' H' → D.nx σ' H' := by
  obtain ⟨I, x, e, F⟩ := h
  unfold mPut at e
  cases h : f a with
  | none => rw [h] at e; cases e
  | some a' =>
    rw [h] at e
    cases e
    exact ⟨a', rfl, F⟩
end
section
variable {X : Cx} {W : WX} {e : Expr} {pos pos' : Pos} {x : Str}
def mAsg (i : Nat) (m : M Sl) : M Fl := M.bind m fun s => mPut (putS i s)
theorem ms_set {i : Nat} {k : M Sl} (hN : X.N.Nodup) (hi : X.N[i]? = some x) (hx : Loc X.env.scope x) (h : PX X W e k) (hs : swapsWith e (some (.Name x pos')) pos.line X.env = pure false := by rfl)
    (hf : X.fn x = true ∨ X.env.scope.names.lookup x = some .local := by first | exact .inl rfl | exact .inr rfl | assumption) : PSM X W (.Assign [.Name x pos'] e pos) (mAsg i k) :=
  PS.imp (ps_set hN hi hx h hs hf) fun D σ H ⟨G, O, a, q⟩ => q.bind (RR := RS X.kw) fun O1 H1 a1 v s I1 e1 r1 q1 => by
    obtain ⟨a', h1, h2⟩ := q1.put
    exact h2 O1 _ H1 (I1.put r1 h1) (Ext.refl _ _)
/-- x += e -/
def mAug (i : Nat) (m : M PyData) (g : D2) : M Fl := fun a => match a[i]? with
  | some (.dat d) => (M.bind m fun e => M.bind (M.of (g d e)) fun z => mPut (putS i (.dat z))) a
  | _ => none
theorem ms_aug {i : Nat} {k : M PyData} {op : Operator} {r : TIp} {g : D2} (ho : PIp X op r) (hg : OpD X.kw r g) (hN : X.N.Nodup) (hi : X.N[i]? = some x) (hx : Loc X.env.scope x) (h : PD X W e k)
    (hf : X.fn x = true ∨ X.env.scope.names.lookup x = some .local := by first | exact .inl rfl | exact .inr rfl | assumption) : PSM X W (.AugAssign (.Name x pos') op e pos) (mAug i k g) := by
  refine PS.imp (ps_aug hN hi hx h ho hf) fun D σ H ⟨G, O, a, q⟩ => ?_
  obtain ⟨I, y, ey, F⟩ := q
  unfold mAug at ey
  cases hs : a[i]? with
  | none => rw [hs] at ey; cases ey
  | some s =>
    rw [hs] at ey
    cases s with
    | dat d =>
      obtain ⟨v, hv, rv⟩ := I.dat hs
      refine ⟨v, hv, ?_⟩
      have q2 : StAt X.kw W (M.bind k fun e => M.bind (M.of (g d e)) fun z => mPut (putS i (.dat z))) G O a σ H D := ⟨I, y, ey, F⟩
      refine q2.bind (RR := RD X.kw) fun O1 H1 a1 u e I1 e1 r1 q3 => ?_
      obtain ⟨z, hz, q4⟩ := q3.of
      refine hg O1 H1 v u d e z _ I1.th (.inl (R.mono e1 _ _ rv)) (.inl r1) hz fun H' w ex rw' => ?_
      obtain ⟨a', h1, h2⟩ := q4.put
      exact h2 O1 _ H' ((I1.grow ex).put (.inl ⟨z, rfl, rw'⟩) h1) (ext_grow ex)
    | _ => cases ey
/-! targets -/
inductive Tgt where
  | nm (i : Nat)
  | tp (ts : List Tgt)
mutual
def Tgt.put : Tgt → PyData → AEnv → Option AEnv
  | .nm i, d, a => putS i (.dat d) a
  | .tp ts, .tuple ds, a => Tgt.puts ts ds a
  | .tp _, _, _ => none
def Tgt.puts : List Tgt → List PyData → AEnv → Option AEnv
  | [], [], a => some a
  | t :: ts, d :: ds, a => match t.put d a with
    | none => none
    | some a' => Tgt.puts ts ds a'
  | _, _, _ => none
end
mutual
def Tgt.rd (K : KW) : Tgt → TG
  | .nm i => gName i
  | .tp ts => gTup K ts.length (Tgt.rds K ts)
def Tgt.rds (K : KW) : List Tgt → TGs
  | [] => gNil
  | t :: ts => gCons (t.rd K) (Tgt.rds K ts)
end
mutual
def Tgt.slots : Tgt → List Nat
  | .nm i => [i]
  | .tp ts => Tgt.slotss ts
def Tgt.slotss : List Tgt → List Nat
  | [] => []
  | t :: ts => t.slots ++ Tgt.slotss ts
end
/-- σ' is σ but for the slots vs -/
def Alike (vs : List Nat) (σ σ' : St) : Prop := ∀ i, i ∉ vs → σ'[i]? = σ[i]?
mutual
theorem Tgt.run {K : KW} {G : Gd} {O : List Addr} {H : Hp} : ∀ (t : Tgt) {d : PyData} {v : V} {σ : St} {a a' : AEnv} {Q : St → Hp → Prop}, SR K G O σ H a → R K (hide O H) v d → t.put d a = some a' →
    (∀ σ', SR K G O σ' H a' → Alike t.slots σ σ' → Q σ' H) → t.rd K v σ H Q
  | .nm i, d, v, σ, a, a', Q, I, r, h, q => by
    simp only [Tgt.put] at h
    refine q _ (I.put (.inl ⟨d, rfl, r⟩) h) fun j hj => ?_
    rw [List.getElem?_set_ne (fun e => hj (by rw [e]; simp [Tgt.slots]))]
  | .tp ts, d, v, σ, a, a', Q, I, r, h, q => by
    cases d with
    | tuple ds =>
      simp only [Tgt.put] at h
      cases r with
      | tup h1 h2 =>
        have hl := Tgt.puts_len ts h
        exact ⟨_, _, rfl, (hide_ex O H).t h1, by rw [h2.length, hl], Tgt.runs ts I h2 h fun σ' I' al => q σ' I' (by simpa [Tgt.slots] using al)⟩
    | _ => simp [Tgt.put] at h
theorem Tgt.runs {K : KW} {G : Gd} {O : List Addr} {H : Hp} : ∀ (ts : List Tgt) {ds : List PyData} {vs : List V} {σ : St} {a a' : AEnv} {Q : St → Hp → Prop}, SR K G O σ H a → RAll K (hide O H) vs ds → Tgt.puts ts ds a = some a' →
    (∀ σ', SR K G O σ' H a' → Alike (Tgt.slotss ts) σ σ' → Q σ' H) → Tgt.rds K ts vs σ H Q
  | [], ds, vs, σ, a, a', Q, I, r, h, q => by
    cases ds with
    | nil =>
      cases r
      simp only [Tgt.puts] at h
      cases h
      exact ⟨rfl, q σ I fun _ _ => rfl⟩
    | cons _ _ => simp [Tgt.puts] at h
  | t :: ts, ds, vs, σ, a, a', Q, I, r, h, q => by
    cases ds with
    | nil => simp [Tgt.puts] at h
    | cons d ds =>
      cases r with
      | cons r1 r2 =>
        simp only [Tgt.puts] at h
        cases h1 : t.put d a with
        | none => rw [h1] at h; cases h
        | some a1 =>
          rw [h1] at h
          refine ⟨_, _, rfl, Tgt.run t I r1 h1 fun σ1 I1 al1 => Tgt.runs ts I1 r2 h fun σ2 I2 al2 => q σ2 I2 fun i hi => ?_⟩
          have hi' : i ∉ t.slots ∧ i ∉ Tgt.slotss ts := by simpa [Tgt.slotss] using hi
          rw [al2 i hi'.2, al1 i hi'.1]
theorem Tgt.puts_len : ∀ (ts : List Tgt) {ds : List PyData} {a a' : AEnv}, Tgt.puts ts ds a = some a' → ds.length = ts.length
  | [], ds, a, a', h => by
    cases ds with
    | nil => rfl
    | cons _ _ => simp [Tgt.puts] at h
  | t :: ts, ds, a, a', h => by
    cases ds with
    | nil => simp [Tgt.puts] at h
    | cons d ds =>
      simp only [Tgt.puts] at h
      cases h1 : t.put d a with
      | none => rw [h1] at h; cases h
      | some a1 =>
        rw [h1] at h
        rw [List.length_cons, List.length_cons, Tgt.puts_len ts h]
end
mutual
theorem Tgt.put_length : ∀ (t : Tgt) {d : PyData} {a a' : AEnv}, t.put d a = some a' → a'.length = a.length
  | .nm i, d, a, a', h => by
    simp only [Tgt.put] at h
    obtain ⟨_, _, rfl⟩ := putS_some h
    simp
  | .tp ts, d, a, a', h => by
    cases d with
    | tuple ds =>
      simp only [Tgt.put] at h
      exact Tgt.puts_length ts h
    | _ => simp [Tgt.put] at h
theorem Tgt.puts_length : ∀ (ts : List Tgt) {ds : List PyData} {a a' : AEnv}, Tgt.puts ts ds a = some a' → a'.length = a.length
  | [], ds, a, a', h => by
    cases ds with
    | nil => simp only [Tgt.puts] at h; cases h; rfl
    | cons _ _ => simp [Tgt.puts] at h
  | t :: ts, ds, a, a', h => by
    cases ds with
    | nil => simp [Tgt.puts] at h
    | cons d ds =>
      simp only [Tgt.puts] at h
      cases h1 : t.put d a with
      | none => rw [h1] at h; cases h
      | some a1 =>
        rw [h1] at h
        rw [Tgt.puts_length ts h, Tgt.put_length t h1]
end
theorem pgt_nm (i : Nat) (hN : X.N.Nodup) (hi : X.N[i]? = some x) (hx : Loc X.env.scope x) (hf : X.fn x = true ∨ X.env.scope.names.lookup x = some .local := by first | exact .inl rfl | exact .inr rfl | assumption) : PG X (.Name x pos) ((Tgt.nm i).rd X.kw) := by
  simp only [Tgt.rd]
  exact pg_name hN hi hx hf
theorem pgts_nil : PGs X [] (Tgt.rds X.kw []) := by
  simp only [Tgt.rds]
  exact pgs_nil
theorem pgts_cons {es : List Expr} {t : Tgt} {ts : List Tgt} (h1 : PG X e (t.rd X.kw)) (h2 : PGs X es (Tgt.rds X.kw ts)) (hs : (assignEach (e :: es) X.env).map (·.2) = assign e X.env :: (assignEach es X.env).map (·.2) := by rfl) : PGs X (e :: es) (Tgt.rds X.kw (t :: ts)) := by
  simp only [Tgt.rds]
  exact pgs_cons h1 h2 hs
theorem pgt_tp {es : List Expr} {k : Nat} {ts : List Tgt} (hc : X.calm = true) (h : PGs X es (Tgt.rds X.kw ts)) (hn : (assignEach es X.env).length = ts.length := by rfl) (hst : (assignEach es X.env).findIdx? (·.1) = none := by rfl) :
    PG X (.Tuple es k pos) ((Tgt.tp ts).rd X.kw) := by
  simp only [Tgt.rd]
  exact pg_tup hc h hn hst
/-- (a, b, ..) = data -/
def mAsgT (t : Tgt) (m : M PyData) : M Fl := M.bind m fun d => mPut (t.put d)
theorem ms_asg {t : Tgt} {tg : Expr} {k : M PyData} (hg : PG X tg (t.rd X.kw)) (h : PD X W e k) (hs : swapsWithSole [tg] e pos.line X.env = pure false := by rfl) (hw : swappedStores [tg] e X.env = pure none := by rfl)
    (h1 : (assignEach [tg] X.env).map (·.2) = [assign tg X.env] := by rfl) : PSM X W (.Assign [tg] e pos) (mAsgT t k) :=
  PS.imp (ps_asg h hg hs hw h1) fun D σ H ⟨G, O, a, q⟩ => q.bind (RR := RD X.kw) fun O1 H1 a1 v d I1 e1 r1 q1 => by
    obtain ⟨a', h1, h2⟩ := q1.put
    exact t.run I1 r1 h1 fun σ' I' _ => h2 O1 σ' H1 I' (Ext.refl _ _)
end

/-! ### several values, each of them may be new -/
def RSs (K : KW) : Gd → List Addr → St → Hp → AEnv → List V → List Sl → Prop
  | _, _, _, _, _, [], [] => True
  | G, O, σ, H, a, v :: vs, s :: ss => RS K G O σ H a v s ∧ (match s, v with
    | .dat _, _ => RSs K G O σ H a vs ss
    | s, .ref p => RSs K (G.push p s) O σ H a vs ss
    | _, _ => False)
  | _, _, _, _, _, _, _ => False
def mSs (m : M Sl) (r : M (List Sl)) : M (List Sl) := M.bind m fun d => M.bind r fun ds => M.pure (d :: ds)
section
variable {X : Cx} {W : WX} {e : Expr} {es : List Expr}
abbrev PXs (X : Cx) (W : WX) (es : List Expr) (m : M (List Sl)) : Prop := PA X es (tM X.kw W (RSs X.kw) m)
theorem pxs_nil : PXs X W [] (M.pure []) := PA.imp pa_nil fun σ H Q ⟨G, O, a, q⟩ => q.pure (v := []) (by simp [RSs])
theorem pxs_cons {m : M Sl} {mr : M (List Sl)} (h : PX X W e m) (hr : PXs X W es mr) (hs : starEach (e :: es) X.env = (false, eval e X.env) :: starEach es X.env := by rfl) : PXs X W (e :: es) (mSs m mr) := by
  refine PA.imp (pa_cons h hr hs) fun σ H Q ⟨G, O, a, q⟩ => ⟨G, O, a, q.bind (RR := RS X.kw) fun O1 H1 a1 v s I1 e1 r1 q1 => ?_⟩
  rcases r1 with ⟨d, rfl, r⟩ | r
  · exact ⟨G, O1, a1, q1.bind (RR := RSs X.kw) fun O2 H2 a2 vs ss I2 e2 r2 q2 => q2.pure (show RSs X.kw G O2 σ H2 a2 (v :: vs) (.dat d :: ss) from ⟨.inl ⟨d, rfl, R.mono e2 _ _ r⟩, r2⟩)⟩
  · obtain ⟨hs', p, ho, rfl, hm, hp, c, nb, ng, nB⟩ := id r
    have IP := I1.push r
    have q1' : At X.kw W (RSs X.kw) (M.bind mr fun ds => M.pure (s :: ds)) G O1 a1 σ H1 Q := q1
    -- the rest under a ghost
    refine ⟨G.push p s, O1, a1, IP, ?_⟩
    obtain ⟨_, x, ex, F⟩ := q1'
    unfold M.bind at ex
    cases er : mr a1 with
    | none => rw [er] at ex; cases ex
    | some y =>
      refine ⟨y, rfl, ?_⟩
      obtain ⟨y1, a2⟩ := y
      rw [er] at ex
      cases y1 with
      | error e =>
        have ex' : (Except.error e, a2) = x := Option.some.inj ex
        subst ex'
        exact fun O' H' d I' e' q => F O' H' d (I'.pop hs').1 e' q
      | ok ss =>
        have ex' : (Except.ok (s :: ss), a2) = x := Option.some.inj ex
        subst ex'
        intro O' H' vs I' e' r'
        refine F O' H' (.ref p :: vs) (I'.pop hs').1 e' ⟨.inr (I'.pop hs').2, ?_⟩
        cases s with
        | dat d => cases hs'
        | un => cases hs'
        | _ => exact r'
end
section
variable {X : Cx} {W : WX} {pos : Pos} {K : KW}
/-- two slots take two values; stored from the right -/
def put2 (i j : Nat) (s t : Sl) : AEnv → Option AEnv := fun a => (putS i s a).bind (putS j t)
theorem RS.step {G : Gd} {O : List Addr} {σ : St} {H : Hp} {a a' : AEnv} {i : Nat} {v w : V} {s t : Sl} (I : SR K G O σ H a) (rs : RSs K G O σ H a [v, w] [s, t]) (h : putS i s a = some a') :
    RS K G O (σ.set i (some v)) H a' w t := by
  obtain ⟨r1, r2⟩ := rs
  obtain ⟨_, hi, rfl⟩ := putS_some h
  have hi' : i < σ.length := by rw [← I.len]; exact hi
  have key : ∀ G', (∀ p, (∃ u, (p, u) ∈ G.gh) → ∃ u, (p, u) ∈ G'.gh) → (s.owned = true → ∀ p, v = .ref p → ∃ u, (p, u) ∈ G'.gh) → G'.B = G.B → RS K G' O σ H a w t → RS K G O (σ.set i (some v)) H (a.set i s) w t := fun G' hG hv hB r => by
    rcases r with ⟨d, rfl, r⟩ | ⟨hs, p, ho, rfl, hm, hp, c, nb, ng, nB⟩
    · exact .inl ⟨d, rfl, r⟩
    · refine .inr ⟨hs, p, ho, rfl, hm, hp, c, fun j u h1 hu h2 => ?_, fun u hu => (by obtain ⟨u', z⟩ := hG p ⟨u, hu⟩; exact ng u' z), hB ▸ nB⟩
      by_cases e : i = j
      · subst e
        rw [List.getElem?_set_self hi] at h1
        rw [List.getElem?_set_self hi'] at h2
        cases h1
        cases h2
        obtain ⟨u', z⟩ := hv hu p rfl
        exact ng u' z
      · rw [List.getElem?_set_ne e] at h1 h2
        exact nb j u h1 hu h2
  cases s with
  | dat d => exact key G (fun _ z => z) (fun z => by cases z) rfl r2.1
  | un =>
    cases v with
    | ref p => exact key (G.push p .un) (fun q ⟨u, z⟩ => ⟨u, List.mem_cons_of_mem _ z⟩) (fun z => by cases z) rfl r2.1
    | _ => exact r2.elim
  | lst ds =>
    cases v with
    | ref p => exact key (G.push p (.lst ds)) (fun q ⟨u, z⟩ => ⟨u, List.mem_cons_of_mem _ z⟩) (fun _ q e => by cases e; exact ⟨_, List.mem_cons_self⟩) rfl r2.1
    | _ => exact r2.elim
  | dk ds =>
    cases v with
    | ref p => exact key (G.push p (.dk ds)) (fun q ⟨u, z⟩ => ⟨u, List.mem_cons_of_mem _ z⟩) (fun _ q e => by cases e; exact ⟨_, List.mem_cons_self⟩) rfl r2.1
    | _ => exact r2.elim
  | dt ds =>
    cases v with
    | ref p => exact key (G.push p (.dt ds)) (fun q ⟨u, z⟩ => ⟨u, List.mem_cons_of_mem _ z⟩) (fun _ q e => by cases e; exact ⟨_, List.mem_cons_self⟩) rfl r2.1
    | _ => exact r2.elim
  | st ds =>
    cases v with
    | ref p => exact key (G.push p (.st ds)) (fun q ⟨u, z⟩ => ⟨u, List.mem_cons_of_mem _ z⟩) (fun _ q e => by cases e; exact ⟨_, List.mem_cons_self⟩) rfl r2.1
    | _ => exact r2.elim
def mPar (i j : Nat) (m : M (List Sl)) : M Fl := M.bind m fun ss => match ss with
  | [s, t] => mPut (put2 i j s t)
  | _ => M.fail
theorem RSs.two {G : Gd} {O : List Addr} {σ : St} {H : Hp} {a : AEnv} {vs : List V} {s t : Sl} (r : RSs K G O σ H a vs [s, t]) : ∃ v w, vs = [v, w] := by
  cases vs with
  | nil => exact r.elim
  | cons v vs =>
    cases vs with
    | nil =>
      exfalso
      have r2 := r.2
      cases s with
      | dat d => exact r2
      | _ => cases v <;> exact r2
    | cons w vs =>
      cases vs with
      | nil => exact ⟨v, w, rfl⟩
      | cons z vs =>
        exfalso
        have r2 := r.2
        cases s with
        | dat d =>
          have r3 := r2.2
          cases t with
          | dat d => exact r3
          | _ => cases w <;> exact r3
        | _ =>
          cases v with
          | ref p =>
            have r3 := r2.2
            cases t with
            | dat d => exact r3
            | _ => cases w <;> exact r3
          | _ => exact r2
theorem ms_par {i j : Nat} {x y : Str} {a b : Expr} {px py pt : Pos} {kt k2 pt2} {m : M (List Sl)} (hc : X.calm = true) (hN : X.N.Nodup) (hi : X.N[i]? = some x) (hj : X.N[j]? = some y) (hij : i ≠ j)
    (hx : X.env.scope.names.lookup x = some .local) (hy : X.env.scope.names.lookup y = some .local) (ha : PXs X W [a, b] m)
    (hw : swappedStores [.Tuple [.Name x px, .Name y py] kt pt] (.Tuple [a, b] k2 pt2) X.env = pure (some [x, y]))
    (hs : swapsWithSole [.Tuple [.Name x px, .Name y py] kt pt] (.Tuple [a, b] k2 pt2) pos.line X.env = pure false := by rfl) :
    PSM X W (.Assign [.Tuple [.Name x px, .Name y py] kt pt] (.Tuple [a, b] k2 pt2) pos) (mPar i j m) :=
  PS.imp (ps_par hc hN hi hj hij hx hy ha hw hs) fun D σ H ⟨G, O, a, q⟩ => q.bind (RR := RSs X.kw) fun O1 H1 a1 vs ss I1 e1 r1 q1 => by
    cases ss with
    | nil => obtain ⟨_, _, z, _⟩ := q1; cases z
    | cons s ss =>
      cases ss with
      | nil => obtain ⟨_, _, z, _⟩ := q1; cases z
      | cons t ss =>
        cases ss with
        | cons _ _ => obtain ⟨_, _, z, _⟩ := q1; cases z
        | nil =>
          obtain ⟨v, w, rfl⟩ := RSs.two r1
          obtain ⟨a', h1, h2⟩ := StAt.put q1
          unfold put2 at h1
          cases h3 : putS i s a1 with
          | none => rw [h3] at h1; cases h1
          | some a2 =>
            rw [h3] at h1
            exact ⟨v, w, rfl, h2 O1 _ H1 ((I1.put r1.1 h3).put (RS.step I1 r1 h3) h1) (Ext.refl _ _)⟩
end
end Am

/-! Am5: loops, comprehensions. -/
namespace Am
open PySem L2

/-! ### what is walked -/
/-- J walks items, in every state where what was to be seen at O1, H1 is to be seen -/
structure Wk (K : KW) (O1 : List Addr) (H1 : Hp) (J : It) (items : List PyData) : Prop where
  go : ∀ O H i, Ext O1 H1 O H → i < items.length → J.go i H
  stop : ∀ O H, Ext O1 H1 O H → J.stop items.length H
  yld : ∀ O H i x H', Thr O H → Ext O1 H1 O H → i < items.length → J.yld i H x H' → Ex H H' ∧ ∃ d, items[i]? = some d ∧ R K (hide O H') x d
theorem Wk.mono {K : KW} {O1 O2 : List Addr} {H1 H2 : Hp} {J : It} {items : List PyData} (w : Wk K O1 H1 J items) (e : Ext O1 H1 O2 H2) : Wk K O2 H2 J items :=
  ⟨fun O H i e2 hi => w.go O H i (e.trans e2) hi, fun O H e2 => w.stop O H (e.trans e2), fun O H i x H' t e2 hi y => w.yld O H i x H' t (e.trans e2) hi y⟩
/-- the reading: items, walked by J -/
def tI (K : KW) (W : WX) (m : M (List PyData)) : TI := fun σ H R => tM K W (fun _ O _ H _ J items => Wk K O H J items) m σ H R
abbrev PIM (X : Cx) (W : WX) (tg e : Expr) (m : M (List PyData)) : Prop := PI X tg e (tI X.kw W m)
theorem PI.imp {X : Cx} {tg e : Expr} {t u : TI} (h : PI X tg e t) (k : ∀ σ H R, u σ H R → t σ H R) : PI X tg e u := ⟨fun pins s σ H R I q => h.run pins s σ H R I (k σ H R q)⟩
theorem PI.or {X : Cx} {tg e : Expr} {t u : TI} (h : PI X tg e t) (h' : PI X tg e u) : PI X tg e (fun σ H R => t σ H R ∨ u σ H R) := ⟨fun pins s σ H R I q => by
  rcases q with q | q
  · exact h.run pins s σ H R I q
  · exact h'.run pins s σ H R I q⟩
section
variable {X : Cx} {W : WX} {tg e : Expr}
theorem SqL.inj_hide {K : PySem.W.Frag} {H : Hp} {a : Addr} {xs ys : List V} (h : SqL K H a xs) (g : SqL K H a ys) (I : ∃ X pins σ s, L2.Inv X pins σ H s ∧ X.K = K) : xs = ys := by
  obtain ⟨X, pins, σ, s, I, rfl⟩ := I
  exact I.list_inj h g
def seqItems : PyData → Option (List PyData)
  | .list xs => some xs
  | .tuple xs => some xs
  | _ => none
theorem wk_list {K : KW} {O1 : List Addr} {H1 : Hp} {a : Addr} {vs : List V} {ds : List PyData} (h : SqL K (hide O1 H1) a vs) (r : RAll K (hide O1 H1) vs ds) : Wk K O1 H1 (Itl K a) ds := by
  refine ⟨fun O H i e hi => ?_, fun O H e => ?_, fun O H i x H' th e hi y => ?_⟩
  · have hi' : i < vs.length := by rw [r.length]; exact hi
    exact ⟨vs, vs[i], ((e.trans (hide_ex O H)).l h), by simp [hi']⟩
  · exact ⟨vs, (e.trans (hide_ex O H)).l h, Nat.le_of_eq r.length⟩
  · obtain ⟨rfl, y⟩ := y
    have hx := y vs ((e.trans (hide_ex O _)).l h)
    obtain ⟨d, hd, rd⟩ := r.getV i hx
    exact ⟨Ex.refl _, d, hd, R.mono e _ _ rd⟩
theorem wk_tup {K : KW} {O1 : List Addr} {H1 : Hp} {a : Addr} {vs : List V} {ds : List PyData} (h : SqT K (hide O1 H1) a vs) (r : RAll K (hide O1 H1) vs ds) : Wk K O1 H1 (Itt K a) ds := by
  refine ⟨fun O H i e hi => ?_, fun O H e => ?_, fun O H i x H' th e hi y => ?_⟩
  · have hi' : i < vs.length := by rw [r.length]; exact hi
    exact ⟨vs, vs[i], ((e.trans (hide_ex O H)).t h), by simp [hi']⟩
  · exact ⟨vs, (e.trans (hide_ex O H)).t h, Nat.le_of_eq r.length⟩
  · obtain ⟨rfl, y⟩ := y
    have hx := y vs ((e.trans (hide_ex O _)).t h)
    obtain ⟨d, hd, rd⟩ := r.getV i hx
    exact ⟨Ex.refl _, d, hd, R.mono e _ _ rd⟩
def mIter (m : M PyData) : M (List PyData) := M.bind m fun d => M.of (seqItems d)
theorem At.bindE {K : KW} {ν μ α β : Type} {RR : RRel ν α} {RS : RRel μ β} {m : M α} {f : α → M β} {G : Gd} {O : List Addr} {a : AEnv} {σ : St} {H : Hp} {Q : μ → Hp → Prop} {Q1 : ν → Hp → Prop} (h : At K W RS (M.bind m f) G O a σ H Q)
    (k : ∀ O1 H1 a1 v r, m a = some (.ok r, a1) → SR K G O1 σ H1 a1 → Ext O H O1 H1 → RR G O1 σ H1 a1 v r → At K W RS (f r) G O1 a1 σ H1 Q → Q1 v H1) : At K W RR m G O a σ H Q1 := by
  have key : At K W (fun G' O' σ' H' a' v r => m a = some (.ok r, a') ∧ RR G' O' σ' H' a' v r) m G O a σ H Q1 := h.bind fun O1 H1 a1 v r I1 e1 r1 q1 => k O1 H1 a1 v r r1.1 I1 e1 r1.2 q1
  obtain ⟨I, x, ex, F⟩ := key
  refine ⟨I, x, ex, ?_⟩
  obtain ⟨x1, a1⟩ := x
  cases x1 with
  | error e => exact F
  | ok r => exact fun O' H' v I' e' q => F O' H' v I' e' ⟨ex, q⟩
/-- which of the two walks it is, is told by the mirror's own answer -/
theorem pim_seq {m : M PyData} (h : PD X W e m) : PIM X W tg e (mIter m) := by
  refine ⟨fun pins s σ H R I ⟨G, O, a, q⟩ => ?_⟩
  by_cases hl : ∃ ds a1, m a = some (.ok (.list ds), a1)
  · obtain ⟨ds, a1, hm⟩ := hl
    refine (pi_list h).run pins s σ H R I ⟨G, O, a, q.bindE (RR := RD X.kw) fun O1 H1 a2 v d ed I1 e1 r1 q1 => ?_⟩
    rw [hm] at ed
    cases ed
    obtain ⟨items, hi, q2⟩ := q1.of
    cases hi
    cases r1 with
    | lst h1 h2 => exact ⟨_, rfl, ⟨_, (hide_ex _ _).l h1⟩, q2.pure (wk_list h1 h2)⟩
  · refine (pi_tup h).run pins s σ H R I ⟨G, O, a, q.bindE (RR := RD X.kw) fun O1 H1 a2 v d ed I1 e1 r1 q1 => ?_⟩
    obtain ⟨items, hi, q2⟩ := q1.of
    cases d with
    | list ds => exact absurd ⟨ds, a2, ed⟩ hl
    | tuple ds =>
      cases hi
      cases r1 with
      | tup h1 h2 => exact ⟨_, rfl, ⟨_, (hide_ex _ _).t h1⟩, q2.pure (wk_tup h1 h2)⟩
    | _ => cases hi
/-- range -/
def rangeD (lo : Int) (n : Nat) : List PyData := (List.range n).map fun i => .int (lo + (i : Nat))
theorem wk_range {K : KW} {O1 : List Addr} {H1 : Hp} {lo : Int} {n : Nat} : Wk K O1 H1 (Itr lo n) (rangeD lo n) := by
  have hl : (rangeD lo n).length = n := by simp [rangeD]
  refine ⟨fun O H i e hi => by rw [hl] at hi; exact hi, fun O H e => Nat.le_of_eq hl.symm, fun O H i x H' th e hi y => ?_⟩
  obtain ⟨rfl, rfl⟩ := y
  rw [hl] at hi
  exact ⟨Ex.refl _, .int (lo + (i : Nat)), by simp [rangeD, hi], .int _⟩
def gR1 : List PyData → Option (List PyData)
  | [.int j] => if decide (-(2 ^ 62) ≤ j) && decide (j < 2 ^ 62) then some (rangeD 0 j.toNat) else none
  | _ => none
def gR2 : List PyData → Option (List PyData)
  | [.int i, .int j] => if (decide (-(2 ^ 62) ≤ i) && decide (i < 2 ^ 62)) && (decide (-(2 ^ 62) ≤ j) && decide (j < 2 ^ 62)) then some (rangeD i (j - i).toNat) else none
  | _ => none
def mRng (m : M (List PyData)) (g : List PyData → Option (List PyData)) : M (List PyData) := M.bind m fun ds => M.of (g ds)
theorem pim_range1 {a : Expr} {p pos : Pos} {m : M (List PyData)} (hg : Gl X "range") (hm : X.mg "range" = none) (ha : PDs X W [a] m) (hs : starEach [a] X.env = [(false, eval a X.env)] := by rfl) : PIM X W tg (.Call (.Name "range" p) [a] [] pos) (mRng m gR1) :=
  PI.imp (pi_range1 hg hm ha hs) fun σ H R ⟨G, O, a, q⟩ => ⟨G, O, a, q.bind (RR := RDs X.kw) fun O1 H1 a1 vs ds I1 e1 r1 q1 => by
    obtain ⟨items, hi, q2⟩ := q1.of
    unfold gR1 at hi
    split at hi
    · split at hi
      · rename_i j hj
        cases hi
        have hj' := Bool.and_eq_true_iff.mp hj
        cases r1 with
        | cons r1 r2 =>
          cases r2
          cases r1
          exact ⟨j, rfl, of_decide_eq_true hj'.1, of_decide_eq_true hj'.2, q2.pure wk_range⟩
      · cases hi
    · cases hi⟩
theorem pim_range2 {a b : Expr} {p pos : Pos} {m : M (List PyData)} (hg : Gl X "range") (hm : X.mg "range" = none) (ha : PDs X W [a, b] m) (hs : starEach [a, b] X.env = [(false, eval a X.env), (false, eval b X.env)] := by rfl)
    (hs2 : starEach [b] X.env = [(false, eval b X.env)] := by rfl) : PIM X W tg (.Call (.Name "range" p) [a, b] [] pos) (mRng m gR2) :=
  PI.imp (pi_range2 hg hm ha hs hs2) fun σ H R ⟨G, O, a, q⟩ => ⟨G, O, a, q.bind (RR := RDs X.kw) fun O1 H1 a1 vs ds I1 e1 r1 q1 => by
    obtain ⟨items, hi, q2⟩ := q1.of
    unfold gR2 at hi
    split at hi
    · split at hi
      · rename_i i j hj
        cases hi
        have hj' := Bool.and_eq_true_iff.mp hj
        have h1 := Bool.and_eq_true_iff.mp hj'.1
        have h2 := Bool.and_eq_true_iff.mp hj'.2
        cases r1 with
        | cons r1 r2 =>
          cases r2 with
          | cons r2 r3 =>
            cases r3
            cases r1
            cases r2
            exact ⟨i, j, rfl, ⟨of_decide_eq_true h1.1, of_decide_eq_true h1.2, of_decide_eq_true h2.1, of_decide_eq_true h2.2⟩, q2.pure wk_range⟩
      · cases hi
    · cases hi⟩
end

/-! ### for -/
def forL (t : Tgt) (body : M Fl) : List PyData → M Fl
  | [] => M.pure .nx
  | d :: ds => fun a => match t.put d a with
    | none => none
    | some a1 => match body a1 with
      | none => none
      | some (.error e, a2) => some (.error e, a2)
      | some (.ok .nx, a2) => forL t body ds a2
      | some (.ok .ct, a2) => forL t body ds a2
      | some (.ok .brk, a2) => some (.ok .nx, a2)
      | some (.ok (.ret s), a2) => some (.ok (.ret s), a2)
def mFor (mi : M (List PyData)) (t : Tgt) (body : M Fl) : M Fl := M.bind mi fun items => forL t body items
section
variable {X : Cx} {W : WX} {tg e : Expr} {pos : Pos}
/-- the state behind a turn: the rest is to be walked, from a state that keeps what was to be seen -/
def ForN (K : KW) (W : WX) (G : Gd) (O1 : List Addr) (H1 : Hp) (D : Ends) (m : M Fl) : St → Hp → Prop := fun σ H => ∃ O a, Ext O1 H1 O H ∧ StAt K W m G O a σ H D
theorem StAt.forStep {K : KW} {G : Gd} {O O1 : List Addr} {a : AEnv} {σ : St} {H H1 : Hp} {D : Ends} {t : Tgt} {body : M Fl} {d : PyData} {ds : List PyData} (h : StAt K W (forL t body (d :: ds)) G O a σ H D) (e1 : Ext O1 H1 O H) :
    ∃ a1, t.put d a = some a1 ∧ ∀ σ' H', SR K G O σ' H' a1 → Ext O H O H' → sM K W body { D with nx := ForN K W G O1 H1 D (forL t body ds), ct := ForN K W G O1 H1 D (forL t body ds), bk := D.nx } σ' H' := by
  obtain ⟨I, x, ex, F⟩ := h
  unfold forL at ex
  cases h1 : t.put d a with
  | none => rw [h1] at ex; cases ex
  | some a1 =>
    refine ⟨a1, rfl, fun σ' H' I' e2 => ⟨G, O, a1, I', ?_⟩⟩
    have ex1 : (match body a1 with
      | none => none
      | some (.error e, a2) => some (.error e, a2)
      | some (.ok .nx, a2) => forL t body ds a2
      | some (.ok .ct, a2) => forL t body ds a2
      | some (.ok .brk, a2) => some (.ok .nx, a2)
      | some (.ok (.ret s), a2) => some (.ok (.ret s), a2)) = some x := by
      rw [h1] at ex
      exact ex
    have F2 := F.ext e2
    cases h2 : body a1 with
    | none => rw [h2] at ex1; cases ex1
    | some y =>
      rw [h2] at ex1
      refine ⟨y, rfl, ?_⟩
      obtain ⟨y1, a2⟩ := y
      cases y1 with
      | error er =>
        cases ex1
        exact F2
      | ok f =>
        cases f with
        | nx => exact fun O' σ2 H2 I2 e3 => ⟨O', a2, (e1.trans e2).trans e3, I2, x, ex1, F2.ext e3⟩
        | ct => exact fun O' σ2 H2 I2 e3 => ⟨O', a2, (e1.trans e2).trans e3, I2, x, ex1, F2.ext e3⟩
        | brk =>
          cases ex1
          exact F2
        | ret s =>
          cases ex1
          exact F2
theorem ms_for {t : Tgt} {mi : M (List PyData)} {body : List Stmt} {m : M Fl} (hp : PassesOwn (model X.prog X.w) X.A X.env X.xe) (hc : X.calm = true) (hi : PIM X W tg e mi) (hg : PG X tg (t.rd X.kw)) (hb : PSsM X W body m)
    (hs : ∀ x, foldedSetIterable e X.env x = Pure.pure x := by intro _; rfl) : PSM X W (.For tg e body [] pos) (mFor mi t m) := by
  refine PS.imp (ps_for hp hc hi hg hb hs) fun D σ H ⟨G, O, a, q⟩ => ?_
  refine q.bind (RR := fun _ O _ H _ J items => Wk X.kw O H J items) fun O1 H1 a1 J items I1 e1 w q1 => ?_
  refine ⟨fun i n σ' H' => n = items.length - i ∧ i ≤ items.length ∧ ∃ O' a', Ext O1 H1 O' H' ∧ StAt X.kw W (forL t m (items.drop i)) G O' a' σ' H' D, ⟨items.length, by simp, Nat.zero_le _, O1, a1, Ext.refl _ _, by simpa using q1⟩, ?_⟩
  rintro i n σ' H' ⟨rfl, hi, O', a', e2, q2⟩
  by_cases hlt : i < items.length
  · refine .inr ⟨w.go O' H' i e2 hlt, ForN X.kw W G O1 H1 D (forL t m (items.drop (i + 1))), fun σ2 H2 ⟨O2, a2, e3, q3⟩ => ⟨items.length - (i + 1), by omega, rfl, hlt, O2, a2, e3, q3⟩, fun x H2 y => ?_⟩
    obtain ⟨ex, d, hd, rd⟩ := w.yld O' H' i x H2 q2.sr.th e2 hlt y
    have hdr : items.drop i = d :: items.drop (i + 1) := by
      rw [List.drop_eq_getElem_cons hlt]
      have : items[i] = d := by
        have h2 : items[i]? = some items[i] := by simp [hlt]
        rw [h2] at hd
        exact Option.some.inj hd
      rw [this]
    rw [hdr] at q2
    obtain ⟨a2, h1, h2⟩ := q2.forStep e2
    exact t.run (q2.sr.grow ex) rd h1 fun σ2 I2 _ => h2 σ2 H2 I2 (ext_grow ex)
  · have e : i = items.length := by omega
    subst e
    rw [List.drop_length] at q2
    exact .inl ⟨w.stop O' H' e2, StAt.nx q2⟩
/-- while: with fuel -/
def mWhile (c : M Bool) (body : M Fl) : Nat → M Fl
  | 0 => M.fail
  | n + 1 => M.bind c fun b => if b = true then (fun a => match body a with
      | none => none
      | some (.error e, a2) => some (.error e, a2)
      | some (.ok .nx, a2) => mWhile c body n a2
      | some (.ok .ct, a2) => mWhile c body n a2
      | some (.ok .brk, a2) => some (.ok .nx, a2)
      | some (.ok (.ret s), a2) => some (.ok (.ret s), a2)) else M.pure .nx
theorem ms_while {c : Expr} {body : List Stmt} {k : M Bool} {m : M Fl} (n : Nat) (hp : PassesOwn (model X.prog X.w) X.A X.env X.xe) (hc : PB X W c k) (hb : PSsM X W body m) : PSM X W (.While c body [] pos) (mWhile k m n) := by
  refine PS.imp (ps_while hp hc hb) fun D σ H ⟨G, O, a, q⟩ => ?_
  refine ⟨fun n σ' H' => ∃ O' a', StAt X.kw W (mWhile k m n) G O' a' σ' H' D, ⟨n, O, a, q⟩, ?_⟩
  rintro n σ' H' ⟨O', a', q'⟩
  cases n with
  | zero => obtain ⟨_, _, z, _⟩ := q'; cases z
  | succ n =>
    refine StAt.bind (RR := RB) q' fun O1 H1 a1 v b I1 e1 r1 q1 => ?_
    cases (show v = b from r1)
    cases v with
    | false => exact StAt.nx q1
    | true =>
      refine ⟨fun σ2 H2 => ∃ O2 a2, StAt X.kw W (mWhile k m n) G O2 a2 σ2 H2 D, fun σ2 H2 q2 => ⟨n, Nat.lt_succ_self n, q2⟩, G, O1, a1, I1, ?_⟩
      obtain ⟨_, x, ex, F⟩ := q1
      have ex1 : (match m a1 with
        | none => none
        | some (.error e, a2) => some (.error e, a2)
        | some (.ok .nx, a2) => mWhile k m n a2
        | some (.ok .ct, a2) => mWhile k m n a2
        | some (.ok .brk, a2) => some (.ok .nx, a2)
        | some (.ok (.ret s), a2) => some (.ok (.ret s), a2)) = some x := ex
      cases h2 : m a1 with
      | none => rw [h2] at ex1; cases ex1
      | some y =>
        rw [h2] at ex1
        refine ⟨y, rfl, ?_⟩
        obtain ⟨y1, a2⟩ := y
        cases y1 with
        | error er =>
          cases ex1
          exact F
        | ok f =>
          cases f with
          | nx => exact fun O' σ2 H2 I2 e3 => ⟨O', a2, I2, x, ex1, F.ext e3⟩
          | ct => exact fun O' σ2 H2 I2 e3 => ⟨O', a2, I2, x, ex1, F.ext e3⟩
          | brk =>
            cases ex1
            exact F
          | ret s =>
            cases ex1
            exact F
end
end Am

/-! Am6: comprehensions. -/
namespace Am
open PySem L2

def wipeA (a : AEnv) : List Nat → AEnv
  | [] => a
  | v :: vs => (wipeA a vs).set v .un
theorem wipe_get {σ : St} : ∀ {vs : List Nat} {i : Nat}, (wipe σ vs)[i]? = if i ∈ vs then (if i < σ.length then some none else none) else σ[i]?
  | [], i => by simp [wipe]
  | v :: vs, i => by
    unfold wipe
    by_cases h : v = i
    · subst h
      by_cases hl : v < (wipe σ vs).length
      · rw [List.getElem?_set_self hl, if_pos List.mem_cons_self, if_pos (by rw [wipe_length] at hl; exact hl)]
      · rw [List.getElem?_eq_none (by simpa using hl), if_pos List.mem_cons_self, if_neg (by rw [wipe_length] at hl; exact hl)]
    · rw [List.getElem?_set_ne h, wipe_get]
      by_cases hm : i ∈ vs
      · rw [if_pos hm, if_pos (List.mem_cons_of_mem _ hm)]
      · rw [if_neg hm, if_neg (fun z => (List.mem_cons.mp z).elim (fun z => h z.symm) hm)]
theorem wipeA_length (a : AEnv) : ∀ vs : List Nat, (wipeA a vs).length = a.length
  | [] => rfl
  | v :: vs => by unfold wipeA; rw [List.length_set, wipeA_length a vs]
theorem wipeA_get {a : AEnv} : ∀ {vs : List Nat} {i : Nat}, (wipeA a vs)[i]? = if i ∈ vs then (if i < a.length then some .un else none) else a[i]?
  | [], i => by simp [wipeA]
  | v :: vs, i => by
    unfold wipeA
    by_cases h : v = i
    · subst h
      by_cases hl : v < (wipeA a vs).length
      · rw [List.getElem?_set_self hl, if_pos List.mem_cons_self, if_pos (by rw [wipeA_length] at hl; exact hl)]
      · rw [List.getElem?_eq_none (by simpa using hl), if_pos List.mem_cons_self, if_neg (by rw [wipeA_length] at hl; exact hl)]
    · rw [List.getElem?_set_ne h, wipeA_get]
      by_cases hm : i ∈ vs
      · rw [if_pos hm, if_pos (List.mem_cons_of_mem _ hm)]
      · rw [if_neg hm, if_neg (fun z => (List.mem_cons.mp z).elim (fun z => h z.symm) hm)]
theorem wipeA_own {a : AEnv} {vs : List Nat} {i : Nat} {s : Sl} (h : (wipeA a vs)[i]? = some s) : (i ∉ vs ∧ a[i]? = some s) ∨ s = .un := by
  rw [wipeA_get] at h
  split at h
  · split at h
    · cases h; exact .inr rfl
    · cases h
  · exact .inl ⟨by assumption, h⟩
theorem wipe_alike {σ σ' : St} {vs s : List Nat} (hl : σ'.length = σ.length) (al : Alike s (wipe σ vs) σ') (hs : ∀ i ∈ s, i ∈ vs) : wipe σ' vs = wipe σ vs := by
  apply List.ext_getElem?
  intro i
  rw [wipe_get, wipe_get]
  by_cases hm : i ∈ vs
  · rw [if_pos hm, if_pos hm, hl]
  · rw [if_neg hm, if_neg hm, al i (fun z => hm (hs i z)), wipe_get, if_neg hm]
section
variable {K : KW} {G : Gd} {O : List Addr} {a : AEnv} {σ σ' : St} {H : Hp} {vs : List Nat}
/-- the slots vs are forgotten on the abstract side; the concrete slots may differ there -/
theorem SR.forget (I : SR K G O σ H a) (hl : σ'.length = σ.length) (al : ∀ i, i ∉ vs → σ'[i]? = σ[i]?) : SR K G O σ' H (wipeA a vs) := by
  have key : ∀ {i s}, (wipeA a vs)[i]? = some s → s.owned = true → i ∉ vs ∧ a[i]? = some s := fun {i s} h hs => by
    rcases wipeA_own h with h | h
    · exact h
    · subst h; cases hs
  refine ⟨I.ex, I.xs, I.th, by rw [wipeA_length, hl]; exact I.len, fun i s x h1 h2 => ?_, fun i j p s t hij h1 h2 hs ht e1 e2 => ?_, fun p hp s h1 hs => ?_, fun i s p h1 hs h2 => ?_, fun p s hp => ?_, I.ghn⟩
  · rcases wipeA_own h1 with ⟨hn, h1⟩ | h1
    · rw [al i hn] at h2
      exact I.sl i s x h1 h2
    · subst h1; trivial
  · obtain ⟨n1, k1⟩ := key h1 hs
    obtain ⟨n2, k2⟩ := key h2 ht
    rw [al i n1] at e1
    rw [al j n2] at e2
    exact I.inj i j p s t hij k1 k2 hs ht e1 e2
  · obtain ⟨n1, k1⟩ := key h1 hs
    rw [al 0 n1]
    exact I.anc p hp s k1 hs
  · obtain ⟨n1, k1⟩ := key h1 hs
    rw [al i n1] at h2
    exact I.fr i s p k1 hs h2
  · obtain ⟨h1, h2, h3⟩ := I.gh p s hp
    refine ⟨h1, h2, fun i t k1 ht k2 => ?_⟩
    obtain ⟨n1, k1⟩ := key k1 ht
    rw [al i n1] at k2
    exact h3 i t k1 ht k2
/-- a ghost's content changes -/
theorem SR.ghSet {p : Addr} {s s' : Sl} {ho' : HO} (I : SR K (G.push p s) O σ H a) (c : Cont K (hide O H) p ho' s') : SR K (G.push p s') O σ (upd H p ho') a := by
  obtain ⟨⟨hm, hB⟩, ⟨ho, hp, _⟩, nb⟩ := I.gh p s List.mem_cons_self
  have hh : hide O (upd H p ho') = hide O H := by
    funext b
    unfold hide
    by_cases hb : b ∈ O
    · rw [if_pos hb, if_pos hb]
    · rw [if_neg hb, if_neg hb, upd_ne (show b ≠ p from fun e => hb (by rw [e]; exact hm))]
  have ng : ∀ t, (p, t) ∉ G.gh := fun t ht => (List.nodup_cons.mp I.ghn).1 (List.mem_map.mpr ⟨(p, t), ht, rfl⟩)
  refine ⟨fun b o hb => ?_, I.xs, fun b hb => ?_, I.len, fun i t x h1 h2 => ?_, I.inj, I.anc, I.fr, fun b t hb => ?_, I.ghn⟩
  · have hb' : G.B b = some o := hb
    rw [upd_ne (fun e => by rw [e] at hb'; have hB' : G.B p = none := hB; rw [hB'] at hb'; cases hb')]
    exact I.ex b o hb
  · by_cases e : b = p
    · exact ⟨ho', by rw [e, upd_same]⟩
    · rw [upd_ne e]; exact I.th b hb
  · have q := I.sl i t x h1 h2
    cases ht : t.owned with
    | true =>
      obtain ⟨b, hob, e1, m, hpb, cb⟩ := (SlR.own ht).mp q
      subst e1
      have nbp : b ≠ p := fun e => nb i t h1 ht (by rw [h2, e])
      exact (SlR.own ht).mpr ⟨b, hob, rfl, m, by rw [upd_ne nbp]; exact hpb, by rw [hh]; exact cb⟩
    | false =>
      cases t with
      | un => trivial
      | dat d =>
        obtain ⟨v, e1, r⟩ := q
        exact ⟨v, e1, by rw [hh]; exact r⟩
      | _ => exact absurd ht (by simp [Sl.owned])
  · rcases List.mem_cons.mp hb with e | hb
    · cases e
      exact ⟨⟨hm, hB⟩, ⟨ho', upd_same, by rw [hh]; exact c⟩, nb⟩
    · have z := I.gh b t (List.mem_cons_of_mem _ hb)
      have nbp : b ≠ p := fun e => ng t (e ▸ hb)
      exact ⟨z.1, z.2.1.imp fun o q => ⟨by rw [upd_ne nbp]; exact q.1, by rw [hh]; exact q.2⟩, z.2.2⟩
theorem ext_own {p : Addr} {ho : HO} (hm : p ∈ O) : Ext O H O (upd H p ho) := fun b o h => by
  obtain ⟨h1, h2⟩ := hide_some.mp h
  exact hide_some.mpr ⟨h1, by rw [upd_ne (show b ≠ p from fun e => h1 (by rw [e]; exact hm))]; exact h2⟩
end

/-! ### [e for t in xs if c] -/
def lcL (t : Tgt) (c : M Bool) (m : M PyData) (vs : List Nat) : List PyData → List PyData → AEnv → Option (List PyData × AEnv)
  | [], acc, a => some (acc, a)
  | d :: ds, acc, a => match t.put d a with
    | none => none
    | some a1 => match c a1 with
      | some (.ok true, a2) => match m a2 with
        | some (.ok y, a3) => if acc.length < lineN then lcL t c m vs ds (acc ++ [y]) (wipeA a3 vs) else none
        | _ => none
      | some (.ok false, a2) => lcL t c m vs ds acc (wipeA a2 vs)
      | _ => none
def mLc (mi : M (List PyData)) (t : Tgt) (c : M Bool) (m : M PyData) (vs : List Nat) : M Sl := M.bind mi fun items => fun a => (lcL t c m vs items [] (wipeA a vs)).map fun r => (.ok (.lst r.1), wipeA r.2 vs)
abbrev W0 : WX := fun _ _ _ _ => False
section
variable {K : KW} {W : WX}
theorem tM_lc {mi : M (List PyData)} {t : Tgt} {c : M Bool} {m : M PyData} {vs : List Nat} (ht : ∀ i ∈ t.slots, i ∈ vs) {σ : St} {H : Hp} {Q : VK} (h : tM K W (RS K) (mLc mi t c m vs) σ H Q) :
    tLc (tI K W mi) (t.rd K) (tM K W0 RB c) (tM K W0 (RD K) m) vs σ H Q := by
  obtain ⟨G, O, a, q⟩ := h
  refine ⟨G, O, a, q.bind (RR := fun _ O _ H _ J items => Wk K O H J items) fun O1 H1 a1 J items I1 e1 w q1 => ?_⟩
  intro D hD
  obtain ⟨_, x, ex, F⟩ := q1
  cases hr : lcL t c m vs items [] (wipeA a1 vs) with
  | none => rw [hr] at ex; cases ex
  | some r =>
    rw [hr] at ex
    have ex' : (Except.ok (Sl.lst r.1), wipeA r.2 vs) = x := Option.some.inj ex
    subst ex'
    -- the new list, as a ghost
    have I2 : SR K G (D :: O1) σ (upd H1 D (.lst [])) a1 := I1.take (Ex.new hD) hD upd_same
    have rn : RN K G (D :: O1) σ (upd H1 D (.lst [])) a1 (.ref D) (.lst []) := by
      refine ⟨rfl, D, _, rfl, List.mem_cons_self, upd_same, (RAll.nil : RAll _ _ [] []), fun i u h1 h2 h3 => ?_, fun u hu => ?_, I1.ex.free hD⟩
      · obtain ⟨b, ho', e1, mb, hb, _⟩ := I1.own h1 h2
        rw [h3] at e1
        cases e1
        rw [hD] at hb
        cases hb
      · obtain ⟨_, ⟨ho', z, _⟩, _⟩ := I1.gh D u hu
        rw [hD] at z
        cases z
    have I3 : SR K (G.push D (.lst [])) (D :: O1) (wipe σ vs) (upd H1 D (.lst [])) (wipeA a1 vs) :=
      (I2.push rn).forget (wipe_length σ vs) fun i hi => by rw [wipe_get, if_neg hi]
    refine ⟨fun i n H' => n = items.length - i ∧ i ≤ items.length ∧ ∃ O' a' acc, Ext O1 H1 O' H' ∧ SR K (G.push D (.lst acc)) O' (wipe σ vs) H' a' ∧ lcL t c m vs (items.drop i) acc a' = some r,
      ⟨items.length, by simp, Nat.zero_le _, D :: O1, wipeA a1 vs, [], ext_take I1 (Ex.new hD) hD, I3, by simpa using hr⟩, ?_⟩
    rintro i n H' ⟨rfl, hi, O', a', acc, e2, J', hl⟩
    by_cases hlt : i < items.length
    · refine .inr ⟨w.go O' H' i e2 hlt, fun H' => ∃ O' a' acc, Ext O1 H1 O' H' ∧ SR K (G.push D (.lst acc)) O' (wipe σ vs) H' a' ∧ lcL t c m vs (items.drop (i + 1)) acc a' = some r,
        fun H2 q2 => ⟨items.length - (i + 1), by omega, rfl, hlt, q2⟩, fun x H2 y => ?_⟩
      obtain ⟨ex2, d, hd, rd⟩ := w.yld O' H' i x H2 J'.th e2 hlt y
      have hdr : items.drop i = d :: items.drop (i + 1) := by
        rw [List.drop_eq_getElem_cons hlt]
        have : items[i] = d := by
          have h2 : items[i]? = some items[i] := by simp [hlt]
          rw [h2] at hd
          exact Option.some.inj hd
        rw [this]
      rw [hdr] at hl
      unfold lcL at hl
      cases h1 : t.put d a' with
      | none => rw [h1] at hl; cases hl
      | some a2 =>
        rw [h1] at hl
        dsimp only at hl
        refine t.run (J'.grow ex2) rd h1 fun σ2 J2 al => ?_
        have hlen : σ2.length = σ.length := by
          rw [← J2.len, ← wipe_length σ vs, ← J'.len]
          exact Tgt.put_length t h1
        have hw : wipe σ2 vs = wipe σ vs := wipe_alike hlen al ht
        refine ⟨hw, ?_⟩
        have e3 : Ext O1 H1 O' H2 := e2.trans (ext_grow ex2)
        cases hc : c a2 with
        | none => rw [hc] at hl; cases hl
        | some z =>
          obtain ⟨z1, a3⟩ := z
          rw [hc] at hl
          cases z1 with
          | error er => cases hl
          | ok b =>
            refine ⟨_, O', a2, J2, _, hc, fun O3 H3 v J3 e4 rb => ?_⟩
            cases (show v = b from rb)
            have back : ∀ {O4 H4 a4 acc'}, SR K (G.push D (.lst acc')) O4 σ2 H4 a4 → SR K (G.push D (.lst acc')) O4 (wipe σ vs) H4 (wipeA a4 vs) := fun {O4 H4 a4 acc'} J4 =>
              J4.forget (by rw [wipe_length, hlen]) fun i hi => by rw [← hw, wipe_get, if_neg hi]
            cases b with
            | false => exact ⟨O3, wipeA a3 vs, acc, e3.trans e4, back J3, hl⟩
            | true =>
              dsimp only at hl
              cases hm : m a3 with
              | none => rw [hm] at hl; cases hl
              | some z =>
                obtain ⟨z1, a4⟩ := z
                rw [hm] at hl
                cases z1 with
                | error er => cases hl
                | ok y =>
                  have hl' : (if acc.length < lineN then lcL t c m vs (items.drop (i + 1)) (acc ++ [y]) (wipeA a4 vs) else none) = some r := hl
                  split at hl'
                  · rename_i hz
                    refine ⟨_, O3, a3, J3, _, hm, fun O4 H4 v J4 e5 rv => ?_⟩
                    obtain ⟨⟨hmD, _⟩, ⟨ho, hpD, cD⟩, _⟩ := J4.gh D (.lst acc) List.mem_cons_self
                    obtain ⟨vs', rfl, rr⟩ := cD.inv_lst
                    have rl : RAll K (hide O4 H4) (vs' ++ [v]) (acc ++ [y]) := rr.append (.cons rv .nil)
                    refine ⟨vs', hpD, by rw [rr.length, line_eq]; exact hz, O4, wipeA a4 vs, acc ++ [y], ((e3.trans e4).trans e5).trans (ext_own hmD), back (J4.ghSet rl), hl'⟩
                  · cases hl'
    · have e : i = items.length := by omega
      subst e
      rw [List.drop_length] at hl
      have hl' : some (acc, a') = some r := hl
      cases hl'
      refine .inl ⟨w.stop O' H' e2, ?_⟩
      obtain ⟨J4, rn4⟩ := J'.pop rfl
      have J5 : SR K G O' σ H' (wipeA a' vs) := J4.forget (wipe_length σ vs).symm fun i hi => by rw [wipe_get, if_neg hi]
      refine F O' H' (.ref D) J5 e2 (.inr ?_)
      obtain ⟨h1, p, ho, h2, h3, h4, h5, h6, h7, h8⟩ := rn4
      refine ⟨h1, p, ho, h2, h3, h4, h5, fun j u k1 k2 k3 => ?_, h7, h8⟩
      rcases wipeA_own k1 with ⟨n1, k1⟩ | k1
      · exact h6 j u k1 k2 (by rw [wipe_get, if_neg n1]; exact k3)
      · subst k1; cases k2
end
/-! ### the rules -/
section
variable {X : Cx} {W : WX} {elt tg iter : Expr} {ifs : List Expr} {scope : Scope} {own : List (Str × Nat)} {pos : Pos}
abbrev PBs (X : Cx) (W : WX) (es : List Expr) (m : M Bool) : Prop := PTs X es (tM X.kw W RB m)
theorem pbs_nil : PBs X W [] (M.pure true) := ⟨fun pins s σ H Q I ⟨G, O, a, h⟩ => pts_nil.run pins s σ H Q I (h.pure rfl)⟩
theorem pbs_one {c : Expr} {k : M Bool} (h : PB X W c k) : PBs X W [c] k := pts_one h
theorem px_lc {mi : M (List PyData)} {t : Tgt} {c : M Bool} {m : M PyData} (hc : X.calm = true) (hN : X.N.Nodup) (hi : PIM X W tg iter mi) (ok : BlkOk X.N X.env.scope scope own) (hs' : ∀ i ∈ t.slots, i ∈ own.map (·.2))
    (hg : ∀ (s : Shared) (H : Hp) (C : Addr) (cl : List (Str × Addr)) (fp : List Addr), PG (X.blk s H scope (compEnvC scope cl C X.env) fp) tg (t.rd X.kw)) (ht : ∀ (s : Shared) (H : Hp) (C : Addr) (cl : List (Str × Addr)) (fp : List Addr), PBs (X.blk s H scope (compEnvC scope cl C X.env) fp) W0 ifs c)
    (he : ∀ (s : Shared) (H : Hp) (C : Addr) (cl : List (Str × Addr)) (fp : List Addr), PD (X.blk s H scope (compEnvC scope cl C X.env) fp) W0 elt m) (hs : ∀ x, foldedSetIterable iter X.env x = Pure.pure x := by intro _; rfl) :
    PX X W (.ListComp elt [⟨tg, iter, ifs, 0⟩] scope pos) (mLc mi t c m (own.map (·.2))) :=
  PE.imp (pe_lc hc hN hi ok hg ht he hs) fun σ H Q h => tM_lc hs' h
/-- y = [..] on one line, y a local -/
theorem ms_setLc {i : Nat} {y : Str} {py spos : Pos} {mi : M (List PyData)} {t : Tgt} {c : M Bool} {m : M PyData} (hc : X.calm = true) (hN : X.N.Nodup) (hy : X.N[i]? = some y) (hyl : X.env.scope.names.lookup y = some .local)
    (hsw : swapsWith (.ListComp elt [⟨tg, iter, ifs, 0⟩] scope pos) (some (.Name y py)) spos.line X.env = Pure.pure true) (hi : PIM X W tg iter mi) (ok : BlkOk X.N X.env.scope scope own) (hs' : ∀ i ∈ t.slots, i ∈ own.map (·.2))
    (hg : ∀ (s : Shared) (H : Hp) (C : Addr) (cl : List (Str × Addr)) (fp : List Addr), PG (X.blk s H scope (compEnvC scope cl C X.env) fp) tg (t.rd X.kw)) (ht : ∀ (s : Shared) (H : Hp) (C : Addr) (cl : List (Str × Addr)) (fp : List Addr), PBs (X.blk s H scope (compEnvC scope cl C X.env) fp) W0 ifs c)
    (he : ∀ (s : Shared) (H : Hp) (C : Addr) (cl : List (Str × Addr)) (fp : List Addr), PD (X.blk s H scope (compEnvC scope cl C X.env) fp) W0 elt m) (hs : ∀ x, foldedSetIterable iter X.env x = Pure.pure x := by intro _; rfl) :
    PSM X W (.Assign [.Name y py] (.ListComp elt [⟨tg, iter, ifs, 0⟩] scope pos) spos) (mAsg i (mLc mi t c m (own.map (·.2)))) :=
  PS.imp (ps_setLc hc hN hy hyl hsw hi ok hg ht he hs) fun D σ H ⟨G, O, a, q⟩ => tM_lc hs' (q.bind (RR := RS X.kw) fun O1 H1 a1 v s I1 e1 r1 q1 => by
    obtain ⟨a', h1, h2⟩ := q1.put
    exact h2 O1 _ H1 (I1.put r1 h1) (Ext.refl _ _))
end
end Am

/-! Am7: what is owned is changed: methods, items, sets. -/
namespace Am
open PySem L2

section
variable {K : KW} {G : Gd} {O : List Addr} {a : AEnv} {σ : St} {H H' : Hp}
theorem ext_but {p : Addr} (hm : p ∈ O) (e : Ex (hide [p] H) H') : Ext O H O H' := fun b o h => by
  obtain ⟨h1, h2⟩ := hide_some.mp h
  exact hide_some.mpr ⟨h1, e _ _ (hide_some.mpr ⟨fun z => h1 (by rw [List.mem_singleton.mp z]; exact hm), h2⟩)⟩
theorem ex_upd {p : Addr} {ho : HO} : Ex (hide [p] H) (upd H p ho) := fun b o h => by
  obtain ⟨h1, h2⟩ := hide_some.mp h
  rw [upd_ne (fun e => h1 (by rw [e]; exact List.mem_cons_self))]
  exact h2
/-- what a slot owns is changed (and new things may have come) -/
theorem SR.mut (I : SR K G O σ H a) {i : Nat} {s s' : Sl} {p : Addr} {ho' : HO} (h : a[i]? = some s) (hs : s.owned = true) (hv : σ[i]? = some (some (.ref p))) (e : Ex (hide [p] H) H') (hp : H' p = some ho') (c : Cont K (hide O H') p ho' s') : SR K G O σ H' (a.set i s') := by
  obtain ⟨p', ho, hv', hm, _, _⟩ := I.own h hs
  rw [hv] at hv'
  cases hv'
  have hs' := c.mut
  have hB := I.fr i s p h hs hv
  have hi : i < a.length := (List.getElem?_eq_some_iff.mp h).1
  have eh : Ext O H O H' := ext_but hm e
  have stay : ∀ {b : Addr} {o : HO}, b ≠ p → H b = some o → H' b = some o := fun {b o} n q => e _ _ (hide_some.mpr ⟨fun z => n (List.mem_singleton.mp z), q⟩)
  have back : ∀ {j : Nat} {t : Sl}, t.owned = true → (a.set i s')[j]? = some t → ∃ u, a[j]? = some u ∧ u.owned = true ∧ (j ≠ i → u = t) := fun {j t} ht hj => by
    by_cases q : i = j
    · subst q
      exact ⟨s, h, hs, fun z => absurd rfl z⟩
    · rw [List.getElem?_set_ne q] at hj
      exact ⟨t, hj, ht, fun _ => rfl⟩
  refine ⟨fun b o hb => stay (fun z => by rw [z, hB] at hb; cases hb) (I.ex b o hb), I.xs, fun b hb => ?_, by simpa using I.len, fun j t x h1 h2 => ?_, fun j k b t u hjk h1 h2 ht hu e1 e2 => ?_, fun b hb t h1 ht => ?_, fun j t b h1 ht h2 => ?_, fun b t hb => ?_, I.ghn⟩
  · by_cases q : b = p
    · exact ⟨ho', by rw [q]; exact hp⟩
    · exact (I.th b hb).elim fun o ho => ⟨o, stay q ho⟩
  · by_cases q : i = j
    · subst q
      rw [List.getElem?_set_self hi] at h1
      cases h1
      rw [hv] at h2
      cases h2
      exact (SlR.own hs').mpr ⟨p, ho', rfl, hm, hp, c⟩
    · rw [List.getElem?_set_ne q] at h1
      have z := I.sl j t x h1 h2
      cases ht : t.owned with
      | true =>
        obtain ⟨b, hob, e1, mb, hpb, cb⟩ := (SlR.own ht).mp z
        subst e1
        have nbp : b ≠ p := fun w => I.inj i j p s t q h h1 hs ht hv (by rw [h2, w])
        exact (SlR.own ht).mpr ⟨b, hob, rfl, mb, stay nbp hpb, cb.mono eh⟩
      | false =>
        cases t with
        | un => trivial
        | dat d =>
          obtain ⟨v, e1, r⟩ := z
          exact ⟨v, e1, R.mono eh _ _ r⟩
        | _ => exact absurd ht (by simp [Sl.owned])
  · obtain ⟨t', k1, k2, _⟩ := back ht h1
    obtain ⟨u', k3, k4, _⟩ := back hu h2
    exact I.inj j k b t' u' hjk k1 k3 k2 k4 e1 e2
  · obtain ⟨t', k1, k2, _⟩ := back ht h1
    exact I.anc b hb t' k1 k2
  · obtain ⟨t', k1, k2, _⟩ := back ht h1
    exact I.fr j t' b k1 k2 h2
  · obtain ⟨k1, ⟨ho, k2, k3⟩, k4⟩ := I.gh b t hb
    have nbp : b ≠ p := fun w => k4 i s h hs (by rw [hv, w])
    refine ⟨k1, ⟨ho, stay nbp k2, k3.mono eh⟩, fun j u h1 hu => ?_⟩
    obtain ⟨u', k5, k6, _⟩ := back hu h1
    exact k4 j u' k5 k6
end

/-! ### methods that change a slot's own thing -/
def mChk (i : Nat) (chk : Sl → Bool) : M Unit := fun a => match a[i]? with
  | none => none
  | some s => if s.owned && chk s then some (.ok (), a) else none
def mUp {γ : Type} (i : Nat) (g : Sl → Option (γ × Sl)) : M γ := fun a => match a[i]? with
  | none => none
  | some s => if s.owned then (g s).map fun r => (.ok r.1, a.set i r.2) else none
def mMt (i : Nat) (chk : Sl → Bool) (m : M (List PyData)) (g : List PyData → Sl → Option (PyData × Sl)) : M PyData := M.bind (mChk i chk) fun _ => M.bind m fun ds => mUp i (g ds)
section
variable {K : KW} {W : WX} {G : Gd} {O : List Addr} {a : AEnv} {σ : St} {H : Hp} {ν γ : Type} {RR : RRel ν γ} {Q : ν → Hp → Prop} {i : Nat} {chk : Sl → Bool} {f : Unit → M γ}
theorem At.chkd (h : At K W RR (M.bind (mChk i chk) f) G O a σ H Q) : ∃ s, a[i]? = some s ∧ s.owned = true ∧ chk s = true ∧ At K W RR (f ()) G O a σ H Q := by
  obtain ⟨I, x, e, F⟩ := h
  unfold M.bind mChk at e
  cases hs : a[i]? with
  | none => rw [hs] at e; cases e
  | some s =>
    rw [hs] at e
    dsimp only at e
    by_cases hc : (s.owned && chk s) = true
    · rw [if_pos hc] at e
      have hc' := Bool.and_eq_true_iff.mp hc
      exact ⟨s, rfl, hc'.1, hc'.2, I, x, e, F⟩
    · rw [if_neg hc] at e
      cases e
theorem StAt.chkd {D : Ends} {f : Unit → M Fl} (h : StAt K W (M.bind (mChk i chk) f) G O a σ H D) : ∃ s, a[i]? = some s ∧ s.owned = true ∧ chk s = true ∧ StAt K W (f ()) G O a σ H D := by
  obtain ⟨I, x, e, F⟩ := h
  unfold M.bind mChk at e
  cases hs : a[i]? with
  | none => rw [hs] at e; cases e
  | some s =>
    rw [hs] at e
    dsimp only at e
    by_cases hc : (s.owned && chk s) = true
    · rw [if_pos hc] at e
      have hc' := Bool.and_eq_true_iff.mp hc
      exact ⟨s, rfl, hc'.1, hc'.2, I, x, e, F⟩
    · rw [if_neg hc] at e
      cases e
theorem mUp_some {g : Sl → Option (γ × Sl)} {x : Except Exc γ × AEnv} (h : mUp i g a = some x) : ∃ s r, a[i]? = some s ∧ s.owned = true ∧ g s = some r ∧ x = (.ok r.1, a.set i r.2) := by
  unfold mUp at h
  cases hs : a[i]? with
  | none => rw [hs] at h; cases h
  | some s =>
    rw [hs] at h
    dsimp only at h
    by_cases ho : s.owned = true
    · rw [if_pos ho] at h
      cases hg : g s with
      | none => rw [hg] at h; cases h
      | some r =>
        rw [hg] at h
        cases h
        exact ⟨s, r, rfl, ho, hg, rfl⟩
    · rw [if_neg ho] at h
      cases h
theorem At.up {g : Sl → Option (γ × Sl)} (h : At K W RR (mUp i g) G O a σ H Q) : ∃ s r p ho, a[i]? = some s ∧ s.owned = true ∧ g s = some r ∧ σ[i]? = some (some (.ref p)) ∧ p ∈ O ∧ H p = some ho ∧ Cont K (hide O H) p ho s ∧
    ∀ H' ho' v, Ex (hide [p] H) H' → H' p = some ho' → Cont K (hide O H') p ho' r.2 → RR G O σ H' (a.set i r.2) v r.1 → Q v H' := by
  obtain ⟨I, x, e, F⟩ := h
  obtain ⟨s, r, hs, ho, hg, rfl⟩ := mUp_some e
  obtain ⟨p, ho', hv, hm, hp, c⟩ := I.own hs ho
  exact ⟨s, r, p, ho', hs, ho, hg, hv, hm, hp, c, fun H' ho2 v ex hp2 c2 rr => F O H' v (I.mut hs ho hv ex hp2 c2) (ext_but hm ex) rr⟩
end
/-- what a method does with what is owned, data in and out -/
def MtG (K : KW) (r : V → List V → Hp → VK → Prop) (g : List PyData → Sl → Option (PyData × Sl)) : Prop := ∀ (O : List Addr) H p ho s vs ds d s' Q, Thr O H → H p = some ho → Cont K (hide O H) p ho s → RAll K (hide O H) vs ds → g ds s = some (d, s') →
  (∀ ho' v, Cont K (hide O H) p ho' s' → R K (hide O H) v d → Q v (upd H p ho')) → r (.ref p) vs H Q
def ChkT (K : KW) (T : String) (chk : Sl → Bool) : Prop := ∀ (O : List Addr) H p ho s, H p = some ho → Cont K (hide O H) p ho s → chk s = true → tyV K T (.ref p) H
theorem hide_own {O : List Addr} {H : Hp} {p : Addr} {ho : HO} (hm : p ∈ O) : hide O (upd H p ho) = hide O H := by
  funext b
  unfold hide
  by_cases hb : b ∈ O
  · rw [if_pos hb, if_pos hb]
  · rw [if_neg hb, if_neg hb, upd_ne (show b ≠ p from fun e => hb (by rw [e]; exact hm))]
section
variable {X : Cx} {W : WX} {e : Expr} {es : List Expr} {x name : Str} {T id : String} {r : V → List V → Hp → VK → Prop} {chk : Sl → Bool} {g : List PyData → Sl → Option (PyData × Sl)} {m : M (List PyData)} {np apos cpos : Pos}
theorem At.mt {i : Nat} {G : Gd} {O : List Addr} {a : AEnv} {σ : St} {H : Hp} {Q : VK} {ds : List PyData} {vs : List V} {p : Addr} (hr : MtG X.kw r g) (h : At X.kw W (RD X.kw) (mUp i (g ds)) G O a σ H Q) (hv : σ[i]? = some (some (.ref p))) (rv : RAll X.K (hide O H) vs ds) : r (.ref p) vs H Q := by
  obtain ⟨s, r', p', ho, hs, hso, hg, hv', hm, hp, c, k⟩ := h.up
  rw [hv] at hv'
  cases hv'
  exact hr O H p ho s vs ds r'.1 r'.2 Q h.1.th hp c rv hg fun ho' v c2 rd => k _ ho' v ex_upd upd_same (by rw [hide_own hm]; exact c2) (show R X.kw (hide O (upd H p ho')) v r'.1 by rw [hide_own hm]; exact rd)
theorem pd_mt (i : Nat) (pa : PlainAttrs T) (slot : Slot T name id) (hty : typeOf (.builtin id) = pure (.type "method_descriptor")) (hm : MtR X id r) (hc : ChkT X.kw T chk) (hr : MtG X.kw r g) (ha : PDs X W (e :: es) m)
    (hN : X.N[i]? = some x := by rfl) (hv : Vis X.env.scope x := by first | exact Or.inl rfl | exact Or.inr (Or.inl rfl) | exact Or.inr (Or.inr rfl)) (hd : (x == ("__debug__" : Str)) = false := by decide)
    (hcd : (x == ("__classdict__" : Str)) = false := by decide)
    (hbase : attributeBase (.Name x np) name X.env (eval (.Name x np) X.env) = eval (.Name x np) X.env := by rfl)
    (hfew : ((backTo cpos (starEach (e :: es) X.env)).all (fun x => !x.1) && (backToKw cpos (keywordEach [] X.env)).all (fun x => x.1.isSome)
      && decide ((e :: es).length + ([] : List Keyword).length + (if ([] : List Keyword).isEmpty then 0 else 1) < 30)) = true := by rfl)
    (hline : (apos.endLine == cpos.line) = true := by rfl) (hs : starEach (e :: es) X.env = (false, eval e X.env) :: starEach es X.env := by rfl) (hplain : (backTo cpos (starEach es X.env)).any (·.1) = false := by rfl) :
    PD X W (.Call (.Attribute (.Name x np) name apos) (e :: es) [] cpos) (mMt i chk m g) := by
  refine PE.imp (pe_bm pa slot hty hm (pe_var (i := i) hN hv hd hcd) ha hbase hfew hline hs hplain) fun σ H Q ⟨G, O, a, q⟩ => ?_
  obtain ⟨s, hs, hso, hck, q1⟩ := q.chkd
  obtain ⟨p, ho, hv, hm, hp, c⟩ := q.1.own hs hso
  refine ⟨_, hv, hc O H p ho s hp c hck, G, O, a, q1.bind (RR := RDs X.kw) fun O1 H1 a1 vs ds I1 e1 r1 q2 => ?_⟩
  exact q2.mt hr hv r1
theorem pd_mt0 (i : Nat) (pa : PlainAttrs T) (slot : Slot T name id) (hty : typeOf (.builtin id) = pure (.type "method_descriptor")) (hm : MtR X id r) (hc : ChkT X.kw T chk) (hr : MtG X.kw r g)
    (hN : X.N[i]? = some x := by rfl) (hv : Vis X.env.scope x := by first | exact Or.inl rfl | exact Or.inr (Or.inl rfl) | exact Or.inr (Or.inr rfl)) (hd : (x == ("__debug__" : Str)) = false := by decide)
    (hcd : (x == ("__classdict__" : Str)) = false := by decide)
    (hbase : attributeBase (.Name x np) name X.env (eval (.Name x np) X.env) = eval (.Name x np) X.env := by rfl) (hline : (apos.endLine == cpos.line) = true := by rfl) :
    PD X W (.Call (.Attribute (.Name x np) name apos) [] [] cpos) (mMt i chk (M.pure []) g) := by
  refine PE.imp (pe_bm0 pa slot hty hm (pe_var (i := i) hN hv hd hcd) hbase hline) fun σ H Q ⟨G, O, a, q⟩ => ?_
  obtain ⟨s, hs, hso, hck, q1⟩ := q.chkd
  obtain ⟨p, ho, hv, hm, hp, c⟩ := q.1.own hs hso
  exact ⟨_, hv, hc O H p ho s hp c hck, q1.pureB.mt hr hv .nil⟩
end
/-! ### lists -/
def isL : Sl → Bool
  | .lst _ => true
  | _ => false
theorem isL_ok {K : KW} : ChkT K "list" isL := fun O H p ho s hp c hk => by
  cases s with
  | lst ds =>
    obtain ⟨vs, rfl, r⟩ := c.inv_lst
    exact .inl ⟨rfl, vs, SqL.of hp⟩
  | _ => cases hk
def gApp : List PyData → Sl → Option (PyData × Sl)
  | [d], .lst ds => if ds.length < lineN then some (.none, .lst (ds ++ [d])) else none
  | _, _ => none
theorem gApp_ok {K : KW} : MtG K rAppend gApp := by
  intro O H p ho s vs ds d s' Q th hp c rv h q
  unfold gApp at h
  split at h
  · rename_i d0 xs
    split at h
    · rename_i hl
      cases h
      obtain ⟨us, rfl, r⟩ := c.inv_lst
      cases rv with
      | cons r1 r2 =>
        cases r2
        exact ⟨p, us, _, rfl, rfl, hp, by rw [r.length, line_eq]; exact hl, q _ _ (show RAll _ _ _ _ from r.append (.cons r1 .nil)) .non⟩
    · cases h
  · cases h
def gPop : List PyData → Sl → Option (PyData × Sl)
  | [], .lst ds => (ds[ds.length - 1]?).map fun d => (d, .lst ds.dropLast)
  | _, _ => none
theorem RAll.dropLast {K : PySem.W.Frag} {H : Hp} {vs : List V} {ds : List PyData} (r : RAll K H vs ds) : RAll K H vs.dropLast ds.dropLast := by
  rw [List.dropLast_eq_take, List.dropLast_eq_take, r.length]
  exact r.take _
theorem gPop_ok {K : KW} : MtG K rPop gPop := by
  intro O H p ho s vs ds d s' Q th hp c rv h q
  unfold gPop at h
  split at h
  · rename_i xs
    obtain ⟨us, rfl, r⟩ := c.inv_lst
    cases hd : xs[xs.length - 1]? with
    | none => rw [hd] at h; cases h
    | some y =>
      rw [hd] at h
      cases h
      cases rv
      obtain ⟨v, hv, rd⟩ := r.get _ hd
      exact ⟨p, us, v, rfl, rfl, hp, by rw [r.length]; exact hv, q _ _ (show RAll _ _ _ _ from r.dropLast) rd⟩
  · cases h
def gPopAt : List PyData → Sl → Option (PyData × Sl)
  | [.int i], .lst ds => if decide (-(2 ^ 63) ≤ i) && decide (i < 2 ^ 63) then (match seqIndex? i ds.length with
    | none => none
    | some k => (ds[k]?).map fun d => (d, .lst (ds.eraseIdx k))) else none
  | _, _ => none
theorem gPopAt_ok {K : KW} : MtG K rPopAt gPopAt := by
  intro O H p ho s vs ds d s' Q th hp c rv h q
  unfold gPopAt at h
  split at h
  · rename_i i xs
    split at h
    · rename_i hb
      have hb' := Bool.and_eq_true_iff.mp hb
      obtain ⟨us, rfl, r⟩ := c.inv_lst
      cases hk : seqIndex? i xs.length with
      | none => rw [hk] at h; cases h
      | some k =>
        rw [hk] at h
        dsimp only at h
        cases hd : xs[k]? with
        | none => rw [hd] at h; cases h
        | some y =>
          rw [hd] at h
          cases h
          obtain ⟨v, hv, rd⟩ := r.get _ hd
          cases rv with
          | cons r1 r2 =>
            cases r2
            cases r1
            exact ⟨p, us, i, k, v, rfl, rfl, hp, of_decide_eq_true hb'.1, of_decide_eq_true hb'.2, by rw [r.length]; exact hk, hv, q _ _ (show RAll _ _ _ _ from r.erase k) rd⟩
    · cases h
  · cases h
def gRev : List PyData → Sl → Option (PyData × Sl)
  | [], .lst ds => some (.none, .lst ds.reverse)
  | _, _ => none
theorem gRev_ok {K : KW} : MtG K rReverse gRev := by
  intro O H p ho s vs ds d s' Q th hp c rv h q
  unfold gRev at h
  split at h
  · rename_i xs
    cases h
    obtain ⟨us, rfl, r⟩ := c.inv_lst
    cases rv
    exact ⟨p, us, rfl, rfl, hp, q _ _ (show RAll _ _ _ _ from r.reverse) .non⟩
  · cases h
/-! ### sets of ints -/
def isS : Sl → Bool
  | .st _ => true
  | _ => false
def gAdd1 (n : Int) (is : List Int) : List Int := if n ∈ is then is else is ++ [n]
theorem gAdd1_nodup {n : Int} {is : List Int} (h : is.Nodup) : (gAdd1 n is).Nodup := by
  unfold gAdd1
  split
  · exact h
  · rename_i hn
    refine List.nodup_append.mpr ⟨h, List.nodup_cons.mpr ⟨by simp, List.nodup_nil⟩, fun x hx y hy e => hn ?_⟩
    rw [List.mem_singleton.mp hy] at e
    rw [← e]
    exact hx
theorem gAdd1_mem {n j : Int} {is : List Int} : j ∈ gAdd1 n is ↔ j ∈ is ∨ j = n := by
  unfold gAdd1
  split
  · rename_i hn
    exact ⟨.inl, fun h => h.elim id fun e => e ▸ hn⟩
  · simp
theorem gAdd1_len {n : Int} {is : List Int} : (gAdd1 n is).length = if n ∈ is then is.length else is.length + 1 := by
  unfold gAdd1
  split <;> simp
def gSAdd : List PyData → Sl → Option (PyData × Sl)
  | [.int n], .st is => if is.length + 1 < 4096 then some (.none, .st (gAdd1 n is)) else none
  | _, _ => none
theorem gSAdd_ok {K : KW} : MtG K (rSAdd K.w) gSAdd := by
  intro O H p ho s vs ds d s' Q th hp c rv h q
  unfold gSAdd at h
  split at h
  · rename_i n is
    split at h
    · rename_i hl
      cases h
      obtain ⟨S, k, rfl, nd, rfl, hS⟩ := c.inv_st
      cases rv with
      | cons r1 r2 =>
        cases r2
        cases r1
        refine ⟨p, n, S, is.length, rfl, rfl, hp, (by unfold scanBound; omega), q _ _ ?_ .non⟩
        refine ⟨_, _, rfl, gAdd1_nodup nd, ?_, fun j => ?_⟩
        · rw [gAdd1_len, hS]
          simp only [decide_eq_true_eq]
        · rw [hS, ← Bool.decide_or]
          exact decide_eq_decide.mpr gAdd1_mem.symm
    · cases h
  · cases h
section
variable {X : Cx} {W : WX} {e : Expr} {es : List Expr} {x : Str} {m : M (List PyData)} {np apos cpos pos : Pos}
theorem pd_sadd (i : Nat) (ha : PDs X W (e :: es) m)
    (hN : X.N[i]? = some x := by rfl) (hv : Vis X.env.scope x := by first | exact Or.inl rfl | exact Or.inr (Or.inl rfl) | exact Or.inr (Or.inr rfl)) (hd : (x == ("__debug__" : Str)) = false := by decide)
    (hcd : (x == ("__classdict__" : Str)) = false := by decide)
    (hbase : attributeBase (.Name x np) "add" X.env (eval (.Name x np) X.env) = eval (.Name x np) X.env := by rfl)
    (hfew : ((backTo cpos (starEach (e :: es) X.env)).all (fun x => !x.1) && (backToKw cpos (keywordEach [] X.env)).all (fun x => x.1.isSome)
      && decide ((e :: es).length + ([] : List Keyword).length + (if ([] : List Keyword).isEmpty then 0 else 1) < 30)) = true := by rfl)
    (hline : (apos.endLine == cpos.line) = true := by rfl) (hs : starEach (e :: es) X.env = (false, eval e X.env) :: starEach es X.env := by rfl) (hplain : (backTo cpos (starEach es X.env)).any (·.1) = false := by rfl) :
    PD X W (.Call (.Attribute (.Name x np) "add" apos) (e :: es) [] cpos) (mMt i isS m gSAdd) := by
  refine PE.imp (pe_sadd (pe_var (i := i) hN hv hd hcd) ha hbase hfew hline hs hplain) fun σ H Q ⟨G, O, a, q⟩ => ?_
  obtain ⟨s, hs, hso, hck, q1⟩ := q.chkd
  obtain ⟨p, ho, hv, hm, hp, c⟩ := q.1.own hs hso
  refine ⟨_, hv, ?_, G, O, a, q1.bind (RR := RDs X.kw) fun O1 H1 a1 vs ds I1 e1 r1 q2 => q2.mt gSAdd_ok hv r1⟩
  cases s with
  | st is =>
    obtain ⟨S, k, rfl, nd, rfl, hS⟩ := c.inv_st
    exact ⟨p, S, _, rfl, hp⟩
  | _ => cases hck
/-- set() -/
theorem px_set0 {p : Pos} (hgl : Gl X "set") (hm : X.mg "set" = none) : PX X W (.Call (.Name "set" p) [] [] pos) (M.pure (.st [])) := by
  refine PE.imp (pe_callTy0 cr_set0 hgl hm PyProof.Rows.boot_set) fun σ H Q ⟨G, O, a, q⟩ => ?_
  refine ⟨rfl, fun p hp => (q.out (by intro z; cases z)).new (Ex.new hp) hp upd_same ?_⟩
  exact ⟨_, _, rfl, List.nodup_nil, rfl, fun j => by simp⟩
/-- k in s, s a slot -/
def mSIn (neg : Bool) (m : M PyData) (i : Nat) : M Bool := M.bind m fun d => fun a => match d, a[i]? with
  | .int k, some (.st is) => some (.ok (if neg then !decide (k ∈ is) else decide (k ∈ is)), a)
  | _, _ => none
theorem tM_sin {ν : Type} {RR : RRel ν Bool} {neg : Bool} {m : M PyData} {i : Nat} {σ : St} {H : Hp} {Q : ν → Hp → Prop} {T : V → Hp → Prop} (h : tM X.kw W RR (mSIn neg m i) σ H Q)
    (hb : ∀ G O a H b, At X.kw W RR (M.pure b) G O a σ H Q → T (.bl b) H) :
    tOp (if neg then rSNotIn X.w else rSIn X.w) (tM X.kw W (RD X.kw) m) (tVar i) σ H T := by
  obtain ⟨G, O, a, q⟩ := h
  refine ⟨G, O, a, q.bind (RR := RD X.kw) fun O1 H1 a1 v d I1 e1 r1 q1 => ?_⟩
  obtain ⟨I, y, ey, F⟩ := q1
  split at ey
  · rename_i k is hs
    cases ey
    obtain ⟨p, ho, hv, hm, hp, c⟩ := I.own hs rfl
    obtain ⟨S, n, rfl, nd, rfl, hS⟩ := c.inv_st
    cases r1
    refine ⟨_, hv, ?_⟩
    have fin := hb G O1 a1 H1 _ ⟨I, _, rfl, F⟩
    cases neg with
    | true => exact ⟨k, p, S, _, rfl, rfl, hp, by rw [hS]; exact fin⟩
    | false => exact ⟨k, p, S, _, rfl, rfl, hp, by rw [hS]; exact fin⟩
  · cases ey
end
/-! ### xs[i] = e, xs a slot -/
def gSetI (d : PyData) (i : PyData) : Sl → Option (Unit × Sl)
  | .lst ds => match i with
    | .int k => (ixN ds.length k).map fun n => ((), .lst (ds.set n d))
    | _ => none
  | _ => none
def mSetI (j : Nat) (me mi : M PyData) : M Fl := M.bind me fun d => M.bind (mChk j isL) fun _ => M.bind mi fun i => M.bind (mUp j (gSetI d i)) fun _ => M.pure .nx
section
variable {X : Cx} {W : WX} {e i : Expr} {x : Str} {me mi : M PyData} {np pos tpos : Pos}
theorem ms_seti (j : Nat) (he : PD X W e me) (hi : PD X W i mi)
    (hN : X.N[j]? = some x := by rfl) (hv : Vis X.env.scope x := by first | exact Or.inl rfl | exact Or.inr (Or.inl rfl) | exact Or.inr (Or.inr rfl)) (hd : (x == ("__debug__" : Str)) = false := by decide)
    (hcd : (x == ("__classdict__" : Str)) = false := by decide)
    (ha : ∀ v, assign (.Subscript (.Name x np) i tpos) X.env v = (do
      let ov ← holding [v] (eval (.Name x np) X.env)
      let iv ← holding [v, ov] (eval i X.env)
      standAt tpos
      holding [v, ov, iv] (setItem ov iv v)
      release [v, ov, iv] []) := by intro _; rfl)
    (hs : swapsWithSole [.Subscript (.Name x np) i tpos] e pos.line X.env = pure false := by rfl) (hw : swappedStores [.Subscript (.Name x np) i tpos] e X.env = pure none := by rfl)
    (h1 : (assignEach [.Subscript (.Name x np) i tpos] X.env).map (·.2) = [assign (.Subscript (.Name x np) i tpos) X.env] := by rfl) : PSM X W (.Assign [.Subscript (.Name x np) i tpos] e pos) (mSetI j me mi) := by
  refine PS.imp (ps_asg he (pg_sub (pe_var (i := j) hN hv hd hcd) hi set_list ha) hs hw h1) fun D σ H ⟨G, O, a, q⟩ => ?_
  refine q.bind (RR := RD X.kw) fun O1 H1 a1 v d I1 e1 r1 q1 => ?_
  obtain ⟨s, hs, hso, hck, q2⟩ := q1.chkd
  obtain ⟨p, ho, hv, hm, hp, c⟩ := I1.own hs hso
  refine ⟨_, hv, q2.bind (RR := RD X.kw) fun O2 H2 a2 w k I2 e2 r2 q3 => ?_⟩
  obtain ⟨I, y, ey, F⟩ := q3
  unfold M.bind at ey
  cases hu : mUp j (gSetI d k) a2 with
  | none => rw [hu] at ey; cases ey
  | some z =>
    rw [hu] at ey
    obtain ⟨s2, r, hs2, ho2, hg, rfl⟩ := mUp_some hu
    have ey' : some (Except.ok Fl.nx, a2.set j r.2) = some y := ey
    cases ey'
    obtain ⟨p2, hob, hv2, hm2, hp2, c2⟩ := I2.own hs2 ho2
    rw [hv] at hv2
    cases hv2
    unfold gSetI at hg
    split at hg
    · rename_i ds
      obtain ⟨vs, rfl, rr⟩ := c2.inv_lst
      split at hg
      · rename_i kk
        cases hx : ixN ds.length kk with
        | none => rw [hx] at hg; cases hg
        | some n =>
          rw [hx] at hg
          cases hg
          cases r2
          refine ⟨p, vs, kk, n, rfl, rfl, hp2, by rw [rr.length]; exact hx, ?_⟩
          refine F O2 σ _ (I2.mut hs2 rfl hv ex_upd upd_same ?_) (ext_but hm2 ex_upd)
          rw [hide_own hm2]
          exact rr.set (R.mono e2 _ _ r1) n
      · cases hg
    · cases hg
end
end Am

/-! Am8: defs and calls. As in HandS, but every def also knows that no repr runs around it. -/
namespace Am
open PySem L2 PySem.Spec
open PyProof.Rows (envOfC)

/-- a def's promise, where no repr runs around the call -/
structure FnG (P : Program) (w : World) (K : PySem.W.Frag) (mg : Str → Option Value) (base : Heap) (CX : CXT) (k : Nat) (f : Addr) (fd : FuncData) (ps : List Str) (sp : Sp) : Prop where
  len : ∀ vs H Q E, sp vs H Q E → vs.length = ps.length
  run : ∀ (A : Around) (fr : List Env) (s0 : Shared) (H : Hp) (ar : Args) (us : List Value) (vs : List V) (Q : VK) (E : XK), Room k A → A.guards = some [] → Env0 P w K mg base A fr s0 H →
    BindsTo s0 fd ar (ps.zip us) → Vals vs us → sp vs H Q E → codeAny (model P w) A (.call (.ref f) ar) (CR CX fr P w H s0 Q E) s0
theorem FnG.mono {P : Program} {w : World} {K : PySem.W.Frag} {mg : Str → Option Value} {base : Heap} {CX : CXT} {j k : Nat} {f : Addr} {fd : FuncData} {ps : List Str} {sp : Sp} (F : FnG P w K mg base CX j f fd ps sp) (h : j ≤ k) : FnG P w K mg base CX k f fd ps sp :=
  ⟨F.len, fun A fr s0 H ar us vs Q E hr => F.run A fr s0 H ar us vs Q E (hr.mono h)⟩
abbrev dfnEnv (qual : Str) (st : Stmt) (f : Addr) (cdv : Value) (s : Shared) : Env := envOfC qual (defScope st) s.heap.objs.size f cdv
section
variable {P : Program} {w : World} {K : PySem.W.Frag} {mg : Str → Option Value} {base : Heap} {CX : CXT} {k : Nat} {f : Addr} {fd : FuncData} {x qual : Str} {st : Stmt} {N ps : List Str} {sp : Sp}
theorem fnG_of (F : Fun K x qual st f fd) (S : FnScope N ps (defScope st)) (len : ∀ vs H Q E, sp vs H Q E → vs.length = ps.length)
    (hb : ∀ (cdv : Value) (A : Around) (fr : List Env) (s : Shared) (H : Hp) (vs : List V) (Q : VK) (E : XK), Room k (A.deeper (dfnEnv qual st f cdv s)) → A.guards = some [] → sp vs H Q E →
      ∃ t, PSs (cxOf CX P w K mg base N qual (defScope st) f cdv A fr s H E) (defBody st) t ∧ t { nx := fun _ H' => Q .non H', rt := Q } (start N vs) H) : FnG P w K mg base CX (k + 1) f fd ps sp := by
  obtain ⟨_, _, _, _, _, _, cdv, _, _, rfl, atf, cdk⟩ := F.ex
  refine ⟨len, fun A fr s0 H ar us vs Q E room gd env bd rel hsp => ?_⟩
  have stay : ∀ b o, base.get? b = some o → s0.heap.get? b = some o := fun b o e => (env.bs b o e).1
  have kin : K.In s0.heap := env.mod.kin.keeps stay
  have places : ∀ y ∈ ps.zip us, (defScope st).names.lookup y.1 = some .local ∨ ((defScope st).names.lookup y.1 = some .cell ∧ ((cellsFrom (s0.heap.objs.size + 1) (defScope st).names []).lookup y.1).isSome = true) := by
    rintro ⟨n, v⟩ hy
    exact (S.par n (List.of_mem_zip hy).1).imp id fun c => ⟨c, PySem.W.cellsFrom_some _ _ _ (.inl c)⟩
  refine codeAny_call_function room.depth (kin _ _ atf) rfl S.co S.gen rfl (PySem.W.codeRec_of kin cdk) (bd _ _ _ _ (wpAny_newFunctionEnv_cells S.kind places ?_))
  rintro env1 rfl s1 ic
  refine ⟨(env.mod.nolimit.keeps stay).keeps ic.toInCall.keep, codeAny_func ?_⟩
  obtain ⟨t, tr, rd⟩ := hb cdv A fr s0 H vs Q E (room.deeper _) gd hsp
  refine wpAny_mono (tr.run [] s1 (start N vs) H _ (inv_start S room.hd env (len _ _ _ _ hsp) rel ic) rd) ?_ fun _ _ z => z
  rintro (_ | _ | _ | u) s2 hs
  · obtain ⟨σ2, H2, J, q⟩ := hs
    exact ⟨.non, H2, J.os, J.bare, J.base, J.hok, rfl, q⟩
  · exact hs.elim fun _ z => z.elim fun _ z => z.2.elim
  · exact hs.elim fun _ z => z.elim fun _ z => z.2.elim
  · obtain ⟨v, σ2, H2, J, rv, q⟩ := hs
    exact ⟨v, H2, J.os, J.bare, J.base, J.hok, rv, q⟩
end
section
variable {X : Cx} {CX : CXT} {k : Nat} {f : Addr} {fd : FuncData} {ps : List Str} {sp : Sp} {E : St → XK} {x : Str} {p pos : Pos} {e : Expr} {es : List Expr} {t : TA}
theorem call_fnG {pins : List (Addr × Obj)} {σ : St} {H : Hp} {s : Shared} {Q : VK} {us : List Value} {vs : List V} (F : FnG X.prog X.w X.K X.mg X.base CX k f fd ps sp) (hr : Room k X.A) (gd : X.A.guards = some []) (hb : Binds X.K fd ps []) (hx : PassesAt CX X σ (E σ))
    (I : Inv X pins σ H s) (rel : Vals vs us) (h : sp vs H Q (E σ)) : wpAny (model X.prog X.w) X.A (call (.ref f) us) (EP X pins σ Q) X.xe s := by
  have hl : us.length = ps.length := rel.length.symm.trans (F.len _ _ _ _ h)
  have bd : BindsTo s fd ⟨us, []⟩ (ps.zip us) := by simpa using hb s us I.kIn (by simpa using hl)
  refine wpAny_call (codeAny_mono (F.run X.A X.stack s H _ us vs Q (E σ) hr gd I.env0 bd rel h) ?_)
  rintro (e | fl) s2 hq
  · exact hx pins H s e s2 I hq
  · cases fl with
    | ret u => exact I.after hq
    | _ => exact hq.elim
theorem pe_callG (F : FnG X.prog X.w X.K X.mg X.base CX k f fd ps sp) (hr : Room k X.A) (gd : X.A.guards = some []) (hg : Gl X x) (hm : X.mg x = some (.ref f)) (hk : PySem.W.keepIn X.K (.ref f) = true) (hb : Binds X.K fd ps []) (hx : ∀ σ, PassesAt CX X σ (E σ))
    (ha : PA X (e :: es) t) (hdb : (x == ("__debug__" : Str)) = false := by decide) (he : starEach (e :: es) X.env = (false, eval e X.env) :: starEach es X.env := by rfl) (hpl : (backTo pos (starEach es X.env)).any (·.1) = false := by rfl) :
    PE X (.Call (.Name x p) (e :: es) [] pos) (tCallS sp E t) :=
  ⟨fun pins s σ H Q I h => wpAny_Call_Name_kw (ld_glob I hg hm (PySem.W.callWith_K (h₀ := X.base) I.ok.mod.kin hk (thn (ha.run pos pins s σ H _ I h) fun us s1 ⟨vs, H1, I1, rel, q⟩ => ⟨I1.kIn, call_fnG F hr gd hb (hx σ) I1 rel q⟩) he hpl) hdb)⟩
end

/-! ### what a def's mirror gives -/
def startA (n : Nat) (ss : List Sl) : AEnv := ss ++ List.replicate (n - ss.length) .un
def resOf : Option (Except Exc Fl × AEnv) → Option (Except Exc Sl × AEnv)
  | some (.ok .nx, a) => some (.ok (.dat .none), a)
  | some (.ok (.ret s), a) => some (.ok s, a)
  | some (.error e, a) => some (.error e, a)
  | _ => none
/-- a def of data -/
abbrev FnD := List PyData → Option (Except Exc Sl)
/-- a def that changes its first parameter -/
abbrev FnI := Sl → List PyData → Option (Except Exc Sl × Sl)
def fnD (n : Nat) (body : M Fl) : FnD := fun ds => (resOf (body (startA n (ds.map Sl.dat)))).map (·.1)
def fnI (n : Nat) (body : M Fl) : FnI := fun s0 ds => match resOf (body (startA n (s0 :: ds.map Sl.dat))) with
  | some (r, s1 :: _) => if s1.owned then some (r, s1) else none
  | _ => none
def FinD (K : KW) (O : List Addr) (H : Hp) (r : Except Exc Sl) (Q : VK) (E : XK) : Prop := match r with
  | .ok (.dat d) => ∀ H' v, Ex H H' → R K (hide O H') v d → Q v H'
  | .ok s => ∀ H' p ho, Ex H H' → H p = none → H' p = some ho → Cont K (hide (p :: O) H') p ho s → Q (.ref p) H'
  | .error e => ∀ H' d, Ex H H' → ExcR K O H' d e → E (.ref e.cls) d H'
def FinI (K : KW) (O : List Addr) (H : Hp) (p : Addr) (r : Except Exc Sl × Sl) (Q : VK) (E : XK) : Prop := match r with
  | (.ok (.dat d), s1) => ∀ H' v ho, Ex (hide [p] H) H' → H' p = some ho → Cont K (hide O H') p ho s1 → R K (hide O H') v d → Q v H'
  | (.ok s, s1) => ∀ H' q ho ho2, Ex (hide [p] H) H' → H' p = some ho → Cont K (hide (q :: O) H') p ho s1 → H q = none → H' q = some ho2 → Cont K (hide (q :: O) H') q ho2 s → Q (.ref q) H'
  | (.error e, s1) => ∀ H' d ho, Ex (hide [p] H) H' → H' p = some ho → Cont K (hide O H') p ho s1 → ExcR K O H' d e → E (.ref e.cls) d H'
def spD (K : KW) (F : FnD) (n : Nat) : Sp := fun vs H Q E => vs.length = n ∧ ∃ O ds r, Thr O H ∧ RAll K (hide O H) vs ds ∧ F ds = some r ∧ FinD K O H r Q E
def spI (K : KW) (F : FnI) (n : Nat) : Sp := fun vs H Q E => vs.length = n ∧ ∃ O p ws ds s0 ho r, vs = .ref p :: ws ∧ Thr O H ∧ p ∈ O ∧ H p = some ho ∧ s0.owned = true ∧ Cont K (hide O H) p ho s0 ∧ RAll K (hide O H) ws ds ∧ F s0 ds = some r ∧ FinI K O H p r Q E

theorem start_get {n : Nat} {ds : List PyData} {i : Nat} {s : Sl} (h : (startA n (ds.map Sl.dat))[i]? = some s) : s = .un ∨ ∃ d, ds[i]? = some d ∧ s = .dat d := by
  unfold startA at h
  rcases Nat.lt_or_ge i (ds.map Sl.dat).length with hl | hl
  · rw [List.getElem?_append_left hl, List.getElem?_map] at h
    cases hd : ds[i]? with
    | none => rw [hd] at h; cases h
    | some d =>
      rw [hd] at h
      exact .inr ⟨d, rfl, (Option.some.inj h).symm⟩
  · rw [List.getElem?_append_right hl] at h
    exact .inl (List.eq_of_mem_replicate (List.mem_of_getElem? h))
theorem startV_get {N : List Str} {vs : List V} {i : Nat} {v : V} (h : vs[i]? = some v) : (start N vs)[i]? = some (some v) := by
  unfold L2.start
  have hl : i < (vs.map some).length := by
    rw [List.length_map]
    exact (List.getElem?_eq_some_iff.mp h).1
  rw [List.getElem?_append_left hl, List.getElem?_map, h]
  rfl
theorem hide_sub {O O' : List Addr} {H : Hp} (h : ∀ p ∈ O, p ∈ O') : Ex (hide O' H) (hide O H) := fun b o q => by
  obtain ⟨h1, h2⟩ := hide_some.mp q
  exact hide_some.mpr ⟨fun z => h1 (h b z), h2⟩
theorem ExcR.sub {K : KW} {O O' : List Addr} {H : Hp} {d : Option Addr} {e : Exc} (h : ∀ p ∈ O, p ∈ O') (q : ExcR K O' H d e) : ExcR K O H d e := by
  rcases q with q | ⟨p, vs, h1, h2, h3⟩
  · exact .inl q
  · exact .inr ⟨p, vs, h1, h2, RK.mono (hide_sub h) h3⟩
section
variable {K : KW} {O : List Addr} {H : Hp} {N : List Str} {vs : List V} {ds : List PyData}
theorem SR.start (th : Thr O H) (ra : RAll K (hide O H) vs ds) (hn : vs.length ≤ N.length) : SR K { B := H, X := O } O (L2.start N vs) H (startA N.length (ds.map Sl.dat)) := by
  have no : ∀ {i : Nat} {s : Sl}, (startA N.length (ds.map Sl.dat))[i]? = some s → s.owned = true → False := fun {i s} h hs => by
    rcases start_get h with rfl | ⟨d, _, rfl⟩ <;> cases hs
  refine ⟨Ex.refl _, fun p hp => ⟨hp, th p hp⟩, th, ?_, fun i s x h1 h2 => ?_, fun i j p s t _ h1 _ hs => (no h1 hs).elim, fun p hp => (nomatch hp), fun i s p h1 hs => (no h1 hs).elim, fun p s hp => (nomatch hp), List.nodup_nil⟩
  · unfold startA L2.start
    simp [ra.length]
  · rcases start_get h1 with rfl | ⟨d, hd, rfl⟩
    · trivial
    · obtain ⟨v, hv, r⟩ := ra.get i hd
      rw [startV_get hv] at h2
      cases h2
      exact ⟨v, rfl, r⟩
theorem SR.startI {p : Addr} {ho : HO} {s0 : Sl} (th : Thr O H) (hm : p ∈ O) (hp : H p = some ho) (h0 : s0.owned = true) (c : Cont K (hide O H) p ho s0) (ra : RAll K (hide O H) vs ds) (hn : (V.ref p :: vs).length ≤ N.length) :
    SR K { B := hide [p] H, X := O.filter fun b => decide (b ≠ p), anc := some p } O (L2.start N (.ref p :: vs)) H (startA N.length (s0 :: ds.map Sl.dat)) := by
  have e0 : (startA N.length (s0 :: ds.map Sl.dat))[0]? = some s0 := rfl
  have v0 : (L2.start N (.ref p :: vs))[0]? = some (some (.ref p)) := rfl
  have eS : ∀ {i : Nat} {s : Sl}, (startA N.length (s0 :: ds.map Sl.dat))[i + 1]? = some s → (startA (N.length - 1) (ds.map Sl.dat))[i]? = some s := fun {i s} h => by
    have q : startA N.length (s0 :: ds.map Sl.dat) = s0 :: startA (N.length - 1) (ds.map Sl.dat) := by
      unfold startA
      rw [List.length_cons, List.cons_append, Nat.sub_sub, Nat.add_comm 1]
    rw [q] at h
    exact h
  have only : ∀ {i : Nat} {s : Sl}, (startA N.length (s0 :: ds.map Sl.dat))[i]? = some s → s.owned = true → i = 0 ∧ s = s0 := fun {i s} h hs => by
    cases i with
    | zero => exact ⟨rfl, (Option.some.inj (e0.symm.trans h)).symm⟩
    | succ i =>
      rcases start_get (eS h) with rfl | ⟨d, _, rfl⟩ <;> cases hs
  refine ⟨hide_ex _ _, fun b hb => ?_, th, ?_, fun i s x h1 h2 => ?_, fun i j b s t hij h1 h2 hs ht => ?_, fun b hb s h1 hs => ?_, fun i s b h1 hs h2 => ?_, fun b s hb => (nomatch hb), List.nodup_nil⟩
  · obtain ⟨h1, h2⟩ := List.mem_filter.mp hb
    exact ⟨h1, (th b h1).elim fun o q => ⟨o, hide_some.mpr ⟨fun z => of_decide_eq_true h2 (List.mem_singleton.mp z), q⟩⟩⟩
  · unfold startA L2.start
    simp [ra.length]
  · cases i with
    | zero =>
      rw [e0] at h1
      rw [v0] at h2
      cases h1
      cases h2
      exact (SlR.own h0).mpr ⟨p, ho, rfl, hm, hp, c⟩
    | succ i =>
      rcases start_get (eS h1) with rfl | ⟨d, hd, rfl⟩
      · trivial
      · obtain ⟨v, hv, r⟩ := ra.get i hd
        have hv' : (V.ref p :: vs)[i + 1]? = some v := hv
        rw [startV_get hv'] at h2
        cases h2
        exact ⟨v, rfl, r⟩
  · exact absurd ((only h1 hs).1.trans (only h2 ht).1.symm) hij
  · cases hb
    exact v0
  · obtain ⟨rfl, rfl⟩ := only h1 hs
    rw [v0] at h2
    cases h2
    exact if_pos List.mem_cons_self
end
/-! ### a def by its mirror -/
abbrev WXE (E : XK) : WX := fun c d _ H => E c d H
section
variable {P : Program} {w : World} {K : PySem.W.Frag} {mg : Str → Option Value} {base : Heap} {CX : CXT} {k : Nat} {f : Addr} {fd : FuncData} {x qual : Str} {st : Stmt} {N ps : List Str} {body : M Fl}
theorem okD (F : Fun K x qual st f fd) (S : FnScope N ps (defScope st)) (hn : ps.length ≤ N.length)
    (hb : ∀ (cdv : Value) (A : Around) (fr : List Env) (s : Shared) (H : Hp) (E : XK), Room k (A.deeper (dfnEnv qual st f cdv s)) → A.guards = some [] →
      PSsM (cxOf CX P w K mg base N qual (defScope st) f cdv A fr s H E) (WXE E) (defBody st) body) : FnG P w K mg base CX (k + 1) f fd ps (spD ⟨K, w⟩ (fnD N.length body) ps.length) := by
  refine fnG_of F S (fun vs H Q E h => h.1) fun cdv A fr s H vs Q E hr gd h => ⟨_, hb cdv A fr s H E hr gd, ?_⟩
  obtain ⟨hl, O, ds, r, th, ra, hF, fin⟩ := h
  have I := SR.start (K := ⟨K, w⟩) (N := N) th ra (by rw [hl]; exact hn)
  refine ⟨_, O, _, I, ?_⟩
  unfold fnD at hF
  cases hx : body (startA N.length (ds.map Sl.dat)) with
  | none => rw [hx] at hF; cases hF
  | some y =>
    rw [hx] at hF
    refine ⟨y, rfl, ?_⟩
    obtain ⟨y1, a1⟩ := y
    have sub : ∀ {O' : List Addr} {σ' : St} {H' : Hp}, SR ⟨K, w⟩ { B := H, X := O } O' σ' H' a1 → ∀ p ∈ O, p ∈ O' := fun J p hp => (J.xs p hp).1
    cases y1 with
    | error e =>
      have hF' : some (Except.error e) = some r := hF
      cases hF'
      exact fun O' σ' H' d J ex q => fin H' d J.ex (q.sub (sub J))
    | ok fl =>
      cases fl with
      | brk => cases hF
      | ct => cases hF
      | nx =>
        have hF' : some (Except.ok (Sl.dat .none)) = some r := hF
        cases hF'
        exact fun O' σ' H' J ex => fin H' .non J.ex .non
      | ret u =>
        have hF' : some (Except.ok u) = some r := hF
        cases hF'
        refine fun O' σ' H' v J ex q => ?_
        rcases q with ⟨d, rfl, rd⟩ | ⟨hs, p, ho, rfl, hm, hp, c, nb, ng, nB⟩
        · exact fin H' v J.ex (R.mono (hide_sub (sub J)) _ _ rd)
        · have c2 : Cont ⟨K, w⟩ (hide (p :: O) H') p ho u := c.mono (hide_sub fun b hb => (List.mem_cons.mp hb).elim (fun e => e ▸ hm) (sub J b))
          have key : ∀ H' p ho, Ex H H' → H p = none → H' p = some ho → Cont ⟨K, w⟩ (hide (p :: O) H') p ho u → Q (.ref p) H' := by
            cases u with
            | dat d => cases hs
            | _ => exact fin
          exact key H' p ho J.ex nB hp c2
theorem okI (F : Fun K x qual st f fd) (S : FnScope N ps (defScope st)) (hn : ps.length ≤ N.length)
    (hb : ∀ (cdv : Value) (A : Around) (fr : List Env) (s : Shared) (H : Hp) (E : XK), Room k (A.deeper (dfnEnv qual st f cdv s)) → A.guards = some [] →
      PSsM (cxOf CX P w K mg base N qual (defScope st) f cdv A fr s H E) (WXE E) (defBody st) body) : FnG P w K mg base CX (k + 1) f fd ps (spI ⟨K, w⟩ (fnI N.length body) ps.length) := by
  refine fnG_of F S (fun vs H Q E h => h.1) fun cdv A fr s H vs Q E hr gd h => ⟨_, hb cdv A fr s H E hr gd, ?_⟩
  obtain ⟨hl, O, p, ws, ds, s0, ho, r, rfl, th, hm, hp, h0, c, ra, hF, fin⟩ := h
  have I := SR.startI (K := ⟨K, w⟩) (N := N) th hm hp h0 c ra (by rw [hl]; exact hn)
  refine ⟨_, O, _, I, ?_⟩
  unfold fnI at hF
  cases hx : body (startA N.length (s0 :: ds.map Sl.dat)) with
  | none => rw [hx] at hF; cases hF
  | some y =>
    rw [hx] at hF
    refine ⟨y, rfl, ?_⟩
    obtain ⟨y1, a1⟩ := y
    -- the state at the end
    have last : ∀ {O' : List Addr} {σ' : St} {H' : Hp} {s1 : Sl} {ar : AEnv}, SR ⟨K, w⟩ { B := hide [p] H, X := O.filter fun b => decide (b ≠ p), anc := some p } O' σ' H' a1 → a1 = s1 :: ar → s1.owned = true →
        (∀ b ∈ O, b ∈ O') ∧ σ'[0]? = some (some (.ref p)) ∧ ∃ ho', H' p = some ho' ∧ Cont ⟨K, w⟩ (hide O' H') p ho' s1 := fun {O' σ' H' s1 ar} J e hs => by
      have q0 : a1[0]? = some s1 := by rw [e] <;> rfl
      have v0 := J.anc p rfl s1 q0 hs
      obtain ⟨p', ho', hv, hm', hp', c'⟩ := J.own q0 hs
      rw [v0] at hv
      cases hv
      exact ⟨fun b hb => if z : b = p then z ▸ hm' else (J.xs b (List.mem_filter.mpr ⟨hb, decide_eq_true z⟩)).1, v0, ho', hp', c'⟩
    cases y1 with
    | error e =>
      cases a1 with
      | nil => cases hF
      | cons s1 ar =>
        have hF' : (if s1.owned then some (Except.error e, s1) else none) = some r := hF
        split at hF'
        · rename_i hs
          cases hF'
          refine fun O' σ' H' d J ex q => ?_
          obtain ⟨sub, _, ho', h1, h2⟩ := last J rfl hs
          exact fin H' d ho' J.ex h1 (h2.mono (hide_sub sub)) (q.sub sub)
        · cases hF'
    | ok fl =>
      cases fl with
      | brk => cases hF
      | ct => cases hF
      | nx =>
        cases a1 with
        | nil => cases hF
        | cons s1 ar =>
          have hF' : (if s1.owned then some (Except.ok (Sl.dat .none), s1) else none) = some r := hF
          split at hF'
          · rename_i hs
            cases hF'
            refine fun O' σ' H' J ex => ?_
            obtain ⟨sub, _, ho', h1, h2⟩ := last J rfl hs
            exact fin H' .non ho' J.ex h1 (h2.mono (hide_sub sub)) .non
          · cases hF'
      | ret u =>
        cases a1 with
        | nil => cases hF
        | cons s1 ar =>
          have hF' : (if s1.owned then some (Except.ok u, s1) else none) = some r := hF
          split at hF'
          · rename_i hs1
            cases hF'
            refine fun O' σ' H' v J ex q => ?_
            obtain ⟨sub, v0, ho', h1, h2⟩ := last J rfl hs1
            rcases q with ⟨d, rfl, rd⟩ | ⟨hs, b, ho2, rfl, hm2, hp2, c2, nb, ng, nB⟩
            · exact fin H' v ho' J.ex h1 (h2.mono (hide_sub sub)) (R.mono (hide_sub sub) _ _ rd)
            · have sub2 : ∀ a ∈ b :: O, a ∈ O' := fun a ha => (List.mem_cons.mp ha).elim (fun e => e ▸ hm2) (sub a)
              have nbp : b ≠ p := fun e => nb 0 s1 rfl hs1 (by rw [v0, e])
              have hb0 : H b = none := by
                cases q : H b with
                | none => rfl
                | some o =>
                  have z := hide_some (O := [p]).mpr ⟨fun z => nbp (List.mem_singleton.mp z), q⟩
                  have nB' : hide [p] H b = none := nB
                  rw [nB'] at z
                  cases z
              have key : ∀ H' q ho ho2, Ex (hide [p] H) H' → H' p = some ho → Cont ⟨K, w⟩ (hide (q :: O) H') p ho s1 → H q = none → H' q = some ho2 → Cont ⟨K, w⟩ (hide (q :: O) H') q ho2 u → Q (.ref q) H' := by
                cases u with
                | dat d => cases hs
                | _ => exact fin
              exact key H' b ho' ho2 J.ex h1 (h2.mono (hide_sub sub2)) hb0 hp2 (c2.mono (hide_sub sub2))
          · cases hF'
end
/-! ### calls -/
def mFn (m : M (List PyData)) (F : FnD) : M Sl := M.bind m fun ds => fun a => match F ds with
  | some (.ok .un) => none
  | some (.ok s) => some (.ok s, a)
  | some (.error e) => some (.error e, a)
  | none => none
def mFnI (i : Nat) (m : M (List PyData)) (F : FnI) : M Sl := M.bind (mChk i fun _ => true) fun _ => M.bind m fun ds => fun a => match a[i]? with
  | none => none
  | some s0 => if s0.owned then (match F s0 ds with
    | some (.ok .un, _) => none
    | some (.ok s, s1) => some (.ok s, a.set i s1)
    | some (.error e, s1) => some (.error e, a.set i s1)
    | none => none) else none
section
variable {X : Cx} {W : WX} {CX : CXT} {k : Nat} {f : Addr} {fd : FuncData} {ps : List Str} {x y : Str} {p pos np : Pos} {e : Expr} {es : List Expr} {m : M (List PyData)}
theorem px_fn {F : FnD} {n : Nat} (G : FnG X.prog X.w X.K X.mg X.base CX k f fd ps (spD X.kw F n)) (hr : Room k X.A) (gd : X.A.guards = some []) (hg : Gl X x) (hm : X.mg x = some (.ref f)) (hk : PySem.W.keepIn X.K (.ref f) = true) (hb : Binds X.K fd ps []) (hn : (e :: es).length = n)
    (hx : ∀ σ, PassesAt CX X σ (WE W σ)) (hlen : ∀ a ds a', m a = some (.ok ds, a') → ds.length = n) (ha : PDs X W (e :: es) m) (hdb : (x == ("__debug__" : Str)) = false := by decide) (he : starEach (e :: es) X.env = (false, eval e X.env) :: starEach es X.env := by rfl)
    (hpl : (backTo pos (starEach es X.env)).any (·.1) = false := by rfl) : PX X W (.Call (.Name x p) (e :: es) [] pos) (mFn m F) := by
  refine PE.imp (pe_callG G hr gd hg hm hk hb hx ha hdb he hpl) fun σ H Q ⟨G, O, a, q⟩ => ⟨G, O, a, q.bindE (RR := RDs X.kw) fun O1 H1 a1 vs ds em I1 e1 r1 q1 => ?_⟩
  obtain ⟨_, z, ez, F1⟩ := q1
  refine ⟨r1.length.trans (hlen _ _ _ em), O1, ds, ?_⟩
  cases hF : F ds with
  | none => rw [hF] at ez; cases ez
  | some r =>
    rw [hF] at ez
    refine ⟨r, I1.th, r1, rfl, ?_⟩
    cases r with
    | error er =>
      cases ez
      exact fun H' d ex q => F1 O1 H' d (I1.grow ex) (ext_grow ex) q
    | ok s =>
      have new : ∀ {s : Sl}, (∀ (O' : List Addr) (H' : Hp) (v : V), SR X.kw G O' σ H' a1 → Ext O1 H1 O' H' → RS X.kw G O' σ H' a1 v s → Q v H') → s.owned = true → ∀ H' p ho, Ex H1 H' → H1 p = none → H' p = some ho → Cont X.kw (hide (p :: O1) H') p ho s → Q (.ref p) H' := fun {s} F1 hs H' p ho ex np hp c => by
        refine F1 (p :: O1) H' (.ref p) (I1.take ex np hp) (ext_take I1 ex np) (.inr ⟨hs, p, ho, rfl, List.mem_cons_self, hp, c, fun i t h1 h2 h3 => ?_, fun t ht => ?_, I1.ex.free np⟩)
        · obtain ⟨b, ho', e1, mb, hb, _⟩ := I1.own h1 h2
          rw [h3] at e1
          cases e1
          rw [np] at hb
          cases hb
        · obtain ⟨_, ⟨ho', z, _⟩, _⟩ := I1.gh p t ht
          rw [np] at z
          cases z
      cases s with
      | un => cases ez
      | dat d =>
        cases ez
        exact fun H' v ex rd => F1 O1 H' v (I1.grow ex) (ext_grow ex) (.inl ⟨d, rfl, rd⟩)
      | lst ds => cases ez; exact new F1 rfl
      | dk ds => cases ez; exact new F1 rfl
      | dt ds => cases ez; exact new F1 rfl
      | st ds => cases ez; exact new F1 rfl
theorem px_fnI {F : FnI} {n : Nat} (i : Nat) (G : FnG X.prog X.w X.K X.mg X.base CX k f fd ps (spI X.kw F n)) (hr : Room k X.A) (gd : X.A.guards = some []) (hg : Gl X x) (hm : X.mg x = some (.ref f)) (hk : PySem.W.keepIn X.K (.ref f) = true) (hb : Binds X.K fd ps [])
    (hx : ∀ σ, PassesAt CX X σ (WE W σ)) (hlen : ∀ a ds a', m a = some (.ok ds, a') → ds.length + 1 = n) (ha : PDs X W es m)
    (hN : X.N[i]? = some y := by rfl) (hv : Vis X.env.scope y := by first | exact Or.inl rfl | exact Or.inr (Or.inl rfl) | exact Or.inr (Or.inr rfl)) (hd : (y == ("__debug__" : Str)) = false := by decide)
    (hcd : (y == ("__classdict__" : Str)) = false := by decide)
    (hdb : (x == ("__debug__" : Str)) = false := by decide) (he : starEach (.Name y np :: es) X.env = (false, eval (.Name y np) X.env) :: starEach es X.env := by rfl)
    (hpl : (backTo pos (starEach es X.env)).any (·.1) = false := by rfl) : PX X W (.Call (.Name x p) (.Name y np :: es) [] pos) (mFnI i m F) := by
  refine PE.imp (pe_callG G hr gd hg hm hk hb hx (pa_cons (pe_var (i := i) hN hv hd hcd) ha he) hdb he hpl) fun σ H Q ⟨G, O, a, q⟩ => ?_
  obtain ⟨s, hs, hso, _, q0⟩ := q.chkd
  obtain ⟨b, hob, hvb, _, _, _⟩ := q.1.own hs hso
  refine ⟨_, hvb, G, O, a, q0.bindE (RR := RDs X.kw) fun O1 H1 a1 vs ds em I1 e1 r1 q1 => ?_⟩
  obtain ⟨_, z, ez, F1⟩ := q1
  cases hs1 : a1[i]? with
  | none => rw [hs1] at ez; cases ez
  | some s0 =>
    rw [hs1] at ez
    dsimp only at ez
    by_cases h0 : s0.owned = true
    · rw [if_pos h0] at ez
      obtain ⟨b', ho, hvb', hm1, hp1, c1⟩ := I1.own hs1 h0
      rw [hvb] at hvb'
      cases hvb'
      refine ⟨by rw [List.length_cons, r1.length]; exact hlen _ _ _ em, O1, b, vs, ds, s0, ho, ?_⟩
      cases hF : F s0 ds with
      | none => rw [hF] at ez; cases ez
      | some r =>
        rw [hF] at ez
        refine ⟨r, rfl, I1.th, hm1, hp1, h0, c1, r1, rfl, ?_⟩
        obtain ⟨r, s1⟩ := r
        cases r with
        | error er =>
          cases ez
          exact fun H' d ho' ex hp c q => F1 O1 H' d (I1.mut hs1 h0 hvb ex hp c) (ext_but hm1 ex) q
        | ok s =>
          have new : ∀ {s : Sl}, (∀ (O' : List Addr) (H' : Hp) (v : V), SR X.kw G O' σ H' (a1.set i s1) → Ext O1 H1 O' H' → RS X.kw G O' σ H' (a1.set i s1) v s → Q v H') → s.owned = true → ∀ H' q ho ho2, Ex (hide [b] H1) H' → H' b = some ho → Cont X.kw (hide (q :: O1) H') b ho s1 → H1 q = none → H' q = some ho2 → Cont X.kw (hide (q :: O1) H') q ho2 s → Q (.ref q) H' := fun {s} F1 hs H' q ho' ho2 ex hp c np hq c2 => by
            -- first without q
            have nqb : b ≠ q := fun e => by rw [e, np] at hp1; cases hp1
            have ex' : Ex (hide [b] H1) (hide [q] H') := fun d o h => by
              refine hide_some.mpr ⟨fun z => ?_, ex _ _ h⟩
              rw [List.mem_singleton.mp z] at h
              have z2 := (hide_some.mp h).2
              rw [np] at z2
              cases z2
            have hh : hide O1 (hide [q] H') = hide (q :: O1) H' := by
              funext d
              unfold hide
              by_cases h1 : d = q
              · subst h1
                rw [if_pos (List.mem_cons_self (a := d) (l := O1)), if_pos List.mem_cons_self, ite_self]
              · by_cases h2 : d ∈ O1
                · rw [if_pos h2, if_pos (List.mem_cons_of_mem _ h2)]
                · rw [if_neg h2, if_neg (fun z => h1 (List.mem_singleton.mp z)), if_neg (fun z => (List.mem_cons.mp z).elim h1 h2)]
            have J := I1.mut (H' := hide [q] H') hs1 h0 hvb ex' (hide_some.mpr ⟨fun z => nqb (List.mem_singleton.mp z), hp⟩) (by rw [hh]; exact c)
            have nq : hide [q] H' q = none := if_pos List.mem_cons_self
            have J2 := J.take (hide_ex _ _) nq hq
            refine F1 (q :: O1) H' (.ref q) J2 ((ext_but hm1 ex').trans (ext_take J (hide_ex _ _) nq)) (.inr ⟨hs, q, ho2, rfl, List.mem_cons_self, hq, c2, fun j t h1 h2 h3 => ?_, fun t ht => ?_, I1.ex.free np⟩)
            · obtain ⟨d, ho', e1, mb, hb, _⟩ := J.own h1 h2
              rw [h3] at e1
              cases e1
              rw [nq] at hb
              cases hb
            · obtain ⟨_, ⟨ho', z, _⟩, _⟩ := J.gh q t ht
              rw [nq] at z
              cases z
          cases s with
          | un => cases ez
          | dat d =>
            cases ez
            exact fun H' v ho' ex hp c rd => F1 O1 H' v (I1.mut hs1 h0 hvb ex hp c) (ext_but hm1 ex) (.inl ⟨d, rfl, rd⟩)
          | lst ds => cases ez; exact new F1 rfl
          | dk ds => cases ez; exact new F1 rfl
          | dt ds => cases ez; exact new F1 rfl
          | st ds => cases ez; exact new F1 rfl
    · rw [if_neg h0] at ez
      cases ez
end
end Am

/-! Am9: enumerate of lists and tuples, divmod, max and min. -/
namespace Am
open PySem L2 PySem.Spec

set_option maxHeartbeats 1000000 in
theorem meets_enum1 {v : Value} {o : Obj} {B : Heap → Prop} (bg : Begins v o B) : Meets (Builtin.«enumerate.__new__» ⟨[.type "enumerate", v], []⟩) (fun _ R s => B s.heap ∧
    R (.ok (.ret (.ref (s.heap.push o).objs.size))) { s with heap := (s.heap.push o).push { cls := .type "enumerate", data := .fields #[.none, .bool false, .ref s.heap.objs.size, rawInt 0, .none, .none] } }) := by
  refine .of_wp fun prog w A R s hs => ?_
  obtain ⟨hp, gens, drawn, tk, os⟩ := s
  obtain ⟨hB, fin⟩ := hs
  have isSub := sub_enumerate
  have starts : ∀ {A' : Around} {E : Value → Shared → Prop} {Q : Value → Shared → Prop}, Q (.ref hp.objs.size) ⟨hp.push o, gens, drawn, tk, os⟩ → wpAny (model prog w) A' (pyIter v) Q E ⟨hp, gens, drawn, tk, os⟩ := fun q => bg.iter prog w _ _ _ _ hB q
  wp_walk using starts
  refine wpAny_stack_any fun st => wpAny_pure ?_
  split
  · rename_i c _ _ _ _ _
    cases (c == Value.type "enumerate") <;> (wp_walk using starts; exact ⟨_, rfl, fin⟩)
  · wp_walk using starts
    exact ⟨_, rfl, fin⟩
theorem call_enum1 {prog : Program} {w : World} {A : Around} {E : Value → Shared → Prop} {s : Shared} {v : Value} {o : Obj} {B : Heap → Prop} {Q : Value → Shared → Prop} (bg : Begins v o B) (hB : B s.heap)
    (h : ∀ h', IsEnum h' (s.heap.objs.size + 1) s.heap.objs.size 0 .none → h'.get? s.heap.objs.size = some o → (∀ b u, s.heap.get? b = some u → h'.get? b = some u) → Q (.ref (s.heap.objs.size + 1)) { s with heap := h' }) :
    wpAny (model prog w) A (call (.type "enumerate") [v]) Q E s := by
  have sz : (s.heap.push o).objs.size = s.heap.objs.size + 1 := Heap.size_push ..
  have at1 : IsEnum ((s.heap.push o).push { cls := .type "enumerate", data := .fields #[.none, .bool false, .ref s.heap.objs.size, rawInt 0, .none, .none] }) (s.heap.objs.size + 1) s.heap.objs.size 0 .none := by
    have z := Heap.get?_push_size (s.heap.push o) (o := { cls := .type "enumerate", data := .fields #[.none, .bool false, .ref s.heap.objs.size, rawInt 0, .none, .none] }) rfl
    rwa [sz] at z
  refine callType_new F.called_enumerate (by decide) (F.typeCall_enumerate_1 _) (F.newCall_enumerate_1 _) (fun obj => F.args_object_init_2 obj _) F.entry_enumerate_new (meets_enum1 bg) ⟨hB, ?_⟩
  show _ ∧ _
  rw [sz]
  exact ⟨⟨_, at1, rfl⟩, h _ at1 (Heap.get?_push_of_some _ (Heap.get?_push_size _ bg.free)) fun b u e => Heap.get?_push_of_some _ (Heap.get?_push_of_some _ e)⟩

/-- the tuple at a, each item in a new pair with its place -/
def ItU (K : PySem.W.Frag) (a : Addr) : It where
  go := fun i H => ∃ (xs : List V) (x : V), SqT K H a xs ∧ xs[i]? = some x
  yld := fun i H v H' => ∃ T x, v = .ref T ∧ H T = none ∧ H' = upd H T (.tup [.int (i : Nat), x]) ∧ ∀ xs, SqT K H a xs → xs[i]? = some x
  stop := fun i H => ∃ xs : List V, SqT K H a xs ∧ xs.length ≤ i
theorem turn_enumT {P : Program} {w : World} {K : PySem.W.Frag} {elts : List Expr} {kk : Nat} {tpos : Pos} (a e it : Addr) :
    Turn P w K (.Tuple elts kk tpos) (ItU K a) [e, it] e (fun i h => (∃ old, IsEnum h e it ((i : Nat) : Int) old) ∧ h.IsTupleIter it a i ∧ e ≠ it ∧ a ≠ it ∧ a ≠ e) where
  mem := List.mem_cons_self
  obj := fun i h ⟨⟨_, he⟩, ⟨o, ho, _, hd⟩, _⟩ b hb => by
    rcases List.mem_cons.mp hb with rfl | hb
    · exact ⟨_, he, fun _ q => nomatch q⟩
    · rw [List.mem_singleton.mp hb]
      exact ⟨o, ho, fun v q => by rw [hd] at q; cases q⟩
  keep := fun i h h' ⟨⟨old, he⟩, hi, ne⟩ k => ⟨⟨old, k e List.mem_cons_self _ he⟩, hi.at fun o q => k it (List.mem_cons_of_mem _ List.mem_cons_self) o q, ne⟩
  item := by
    intro X hP hw hK calm i pins s σ H E I free st go
    subst hP hw hK
    obtain ⟨⟨old, he⟩, hit, ne, nai, nae⟩ := st
    obtain ⟨xs, x, hq, hx⟩ := go
    obtain ⟨its, rv, isT, _⟩ := I.tuple hq
    obtain ⟨u, hu, ru⟩ := rv.get hx
    have lte : e < s.heap.objs.size := Heap.lt_size he
    have hi : i < its.toArray.size := by
      have z := (List.getElem?_eq_some_iff.mp hu).1
      simpa using z
    have D := Draws.tuple (prog := X.prog) (w := X.w) (A := X.A.in1) (I.ok.hd calm) it a nai its.toArray
    refine wpAny_pyNext_enum_itemD D he ⟨hit, isT⟩ hi ne (fun z => (List.mem_cons.mp z).elim ne fun z => nae (List.mem_singleton.mp z).symm) fun y h' tk hy ho st' hT hsz hk => ?_
    have eu : y = u := by
      have z : its.toArray[i]? = some u := by simpa using hu
      rw [hy] at z
      exact Option.some.inj z
    subst eu
    refine ⟨_, rfl, wpAny_letOwnedTupleGo_enum (s := { s with heap := h', toks := tk + 1 }) ho fun h2 he2 sb => ?_⟩
    have hT2 : h2.get? s.heap.objs.size = some { cls := .type "tuple", data := .seq #[.int i tk, y] } := (sb.2 _ (Nat.ne_of_gt lte)).trans hT
    have lti : it < s.heap.objs.size := by
      obtain ⟨o, q, _⟩ := hit
      exact Heap.lt_size q
    have ok : ObjOk X.prog X.w (upd H s.heap.objs.size (.tup [.int (i : Nat), x])) h2 s.heap.objs.size (.tup [.int (i : Nat), x]) :=
      ⟨by show 2 ≤ sizeLine; decide, [.int i tk, y], .cons ⟨_, rfl⟩ (.cons ru .nil), ⟨_, hT2, rfl, _, rfl⟩⟩
    have others : ∀ b ob, b ∉ [e, it] → s.heap.get? b = some ob → h2.get? b = some ob := fun b ob nb q => (sb.2 b fun z => nb (by rw [z]; exact List.mem_cons_self)).trans (hk b ob (fun z => nb (by rw [z]; exact List.mem_cons_self)) (fun z => nb (by rw [z]; exact List.mem_cons_of_mem _ List.mem_cons_self)) q)
    have I2 : Inv X pins σ (upd H s.heap.objs.size (.tup [.int (i : Nat), x])) { s with heap := h2, toks := tk + 1 } := I.turnedNew (ch := [e, it]) others free (Nat.le_refl _) ok
    refine ⟨.ref s.heap.objs.size, _, I2, rfl, ⟨_, x, rfl, I.hok.fresh (Nat.le_refl _), rfl, fun ys hy => by rw [I.tuple_inj hy hq]; exact hx⟩, ⟨⟨y, ?_⟩, st'.1.at fun o q => (sb.2 it (Ne.symm ne)).trans q, ne, nai, nae⟩, fun b hb => ?_⟩
    · rw [show ((i + 1 : Nat) : Int) = (i : Int) + 1 by omega]
      exact he2
    · have lb : b < s.heap.objs.size := by
        rcases List.mem_cons.mp hb with rfl | hb
        · exact lte
        · rw [List.mem_singleton.mp hb]; exact lti
      rw [upd_ne (Nat.ne_of_lt lb)]
      exact (free b hb).1
  done := by
    intro X hP hw hK calm i pins s σ H E I free st stop
    subst hP hw hK
    obtain ⟨⟨old, he⟩, hit, ne, nai, nae⟩ := st
    obtain ⟨xs, hq, hx⟩ := stop
    obtain ⟨its, rv, isT, _⟩ := I.tuple hq
    obtain ⟨f0, f1, f2, f3, f4, f5⟩ := free it (List.mem_cons_of_mem _ List.mem_cons_self)
    have hn : its.toArray[i]? = none := by
      have z : its[i]? = none := List.getElem?_eq_none (by rw [← rv.length]; exact hx)
      simpa using z
    -- behind the end: a way to draw nothing more
    have D : Draws X.prog X.w X.A.in1 it [it, a] i (fun _ _ => False) (fun j h => j = i ∧ h.IsTupleIter it a i ∧ h.IsTuple a its.toArray) := by
      refine ⟨fun j h q => let ⟨o, ho, _⟩ := q.2.1; ⟨o, ho⟩, fun j h h' q k => ⟨q.1, q.2.1.at fun o z => k it List.mem_cons_self o z, q.2.2.at fun o z => k a (List.mem_cons_of_mem _ List.mem_cons_self) o z⟩, fun j s Q E hj q _ => absurd q.1 (Nat.ne_of_lt hj), fun s Q E q hE => ?_⟩
      exact wpAny_nextOf_tuple_end (I.ok.hd calm) q.2.1 q.2.2 hn hE
    exact wpAny_pyNext_enum_endD D he ⟨rfl, hit, isT⟩ fun h' eb => ⟨rfl, I.turned (t' := s.toks) (fun b o hb q => eb b o hb q) f0 f1 f3 f4 f5⟩
  self := fun A i s Q E st h => let ⟨⟨_, he⟩, _⟩ := st; wpAny_pyIter_enum he h
def iEnumT (K : PySem.W.Frag) (ta : TA) : TI := fun σ H R => ta σ H fun vs H1 => ∃ a xs, vs = [.ref a] ∧ SqT K H1 a xs ∧ R (ItU K a) H1
theorem pi_enumT {X : Cx} {e : Expr} {ta : TA} {p pos tpos : Pos} {elts : List Expr} {kk : Nat} (hg : Gl X "enumerate") (hm : X.mg "enumerate" = none) (ha : PA X [e] ta) (hs : starEach [e] X.env = [(false, eval e X.env)] := by rfl) :
    PI X (.Tuple elts kk tpos) (.Call (.Name "enumerate" p) [e] [] pos) (iEnumT X.K ta) := by
  refine ⟨fun pins s σ H R I h => PyProof.Rows.Call_ (ld_blt I hg hm PyProof.Rows.boot_enumerate (PyProof.Rows.callWith_type1 (thn (ha.run pos pins s σ H _ I h) fun us s1 ⟨vs, H1, I1, r1, q1⟩ => ?_) hs rfl))⟩
  obtain ⟨a, xs, rfl, hq, q⟩ := q1
  obtain ⟨u, rfl, rx⟩ := vals1 r1
  cases rx
  obtain ⟨its, rv, isT, _⟩ := I1.tuple hq
  have lta : a < s1.heap.objs.size := by
    obtain ⟨o, ho, _⟩ := isT
    exact Heap.lt_size ho
  refine call_enum1 (begins_tuple a its.toArray) isT fun h' he hit hk => wpAny_pyIter_enum he ?_
  have I2 : Inv X pins σ H1 { s1 with heap := h' } := I1.kept (t' := s1.toks) hk
  refine ⟨s1.heap.objs.size + 1, [s1.heap.objs.size + 1, s1.heap.objs.size], _, _, H1, rfl, I2, turn_enumT a (s1.heap.objs.size + 1) s1.heap.objs.size,
    ⟨⟨.none, he⟩, ⟨_, hit, rfl, rfl⟩, Nat.succ_ne_self _, Nat.ne_of_lt lta, Nat.ne_of_lt (Nat.lt_succ_of_lt lta)⟩, fun b hb => ?_, q⟩
  have le : s1.heap.objs.size ≤ b := by
    rcases List.mem_cons.mp hb with rfl | hb
    · exact Nat.le_succ _
    · rw [List.mem_singleton.mp hb]
      exact Nat.le_refl _
  exact I1.fpOk le (I1.hok.fresh le)

/-! ### the mirror's enumerate -/
def enumD (k : Nat) : List PyData → List PyData
  | [] => []
  | d :: ds => .tuple [.int (k : Nat), d] :: enumD (k + 1) ds
theorem enumD_length : ∀ (ds : List PyData) (k : Nat), (enumD k ds).length = ds.length
  | [], _ => rfl
  | d :: ds, k => by rw [enumD, List.length_cons, List.length_cons, enumD_length ds]
theorem enumD_get : ∀ (ds : List PyData) (k i : Nat), (enumD k ds)[i]? = (ds[i]?).map fun d => .tuple [.int ((k + i : Nat) : Int), d]
  | [], _, _ => by simp [enumD]
  | d :: ds, k, 0 => by simp [enumD]
  | d :: ds, k, i + 1 => by
    rw [enumD, List.getElem?_cons_succ, enumD_get ds (k + 1) i, List.getElem?_cons_succ]
    rw [show k + 1 + i = k + (i + 1) by omega]
section
variable {K : KW} {O1 : List Addr} {H1 : Hp} {a : Addr} {vs : List V} {ds : List PyData}
theorem yld_pair {O : List Addr} {H : Hp} {T : Addr} {x : V} {d : PyData} {i : Nat} (th : Thr O H) (hT : H T = none) (rd : R K (hide O H) x d) : Ex H (upd H T (.tup [.int (i : Nat), x])) ∧ R K (hide O (upd H T (.tup [.int (i : Nat), x]))) (.ref T) (.tuple [.int (i : Nat), d]) := by
  have nT : T ∉ O := fun z => by
    obtain ⟨o, ho⟩ := th T z
    rw [hT] at ho
    cases ho
  have ex : Ex H (upd H T (.tup [.int (i : Nat), x])) := Ex.new hT
  exact ⟨ex, .tup (SqT.of (hide_some.mpr ⟨nT, upd_same⟩)) (.cons (.int _) (.cons (R.mono (ext_grow ex) _ _ rd) .nil))⟩
theorem wk_enumL (h : SqL K (hide O1 H1) a vs) (r : RAll K (hide O1 H1) vs ds) : Wk K O1 H1 (Ite K a) (enumD 0 ds) := by
  have len : (enumD 0 ds).length = vs.length := by rw [enumD_length, r.length]
  refine ⟨fun O H i e hi => ?_, fun O H e => ⟨vs, (e.trans (hide_ex O H)).l h, Nat.le_of_eq len.symm⟩, fun O H i x H' th e hi y => ?_⟩
  · rw [len] at hi
    exact ⟨vs, vs[i], (e.trans (hide_ex O H)).l h, by simp [hi]⟩
  · obtain ⟨T, x, rfl, hT, rfl, hx⟩ := y
    obtain ⟨d, hd, rd⟩ := r.getV i (hx vs ((e.trans (hide_ex O _)).l h))
    obtain ⟨h1, h2⟩ := yld_pair (i := i) th hT (R.mono e _ _ rd)
    exact ⟨h1, _, by rw [enumD_get, hd, Nat.zero_add] <;> rfl, h2⟩
theorem wk_enumT (h : SqT K (hide O1 H1) a vs) (r : RAll K (hide O1 H1) vs ds) : Wk K O1 H1 (ItU K a) (enumD 0 ds) := by
  have len : (enumD 0 ds).length = vs.length := by rw [enumD_length, r.length]
  refine ⟨fun O H i e hi => ?_, fun O H e => ⟨vs, (e.trans (hide_ex O H)).t h, Nat.le_of_eq len.symm⟩, fun O H i x H' th e hi y => ?_⟩
  · rw [len] at hi
    exact ⟨vs, vs[i], (e.trans (hide_ex O H)).t h, by simp [hi]⟩
  · obtain ⟨T, x, rfl, hT, rfl, hx⟩ := y
    obtain ⟨d, hd, rd⟩ := r.getV i (hx vs ((e.trans (hide_ex O _)).t h))
    obtain ⟨h1, h2⟩ := yld_pair (i := i) th hT (R.mono e _ _ rd)
    exact ⟨h1, _, by rw [enumD_get, hd, Nat.zero_add] <;> rfl, h2⟩
end
def mEnum (m : M PyData) : M (List PyData) := M.bind m fun d => M.bind (M.of (seqItems d)) fun ds => M.pure (enumD 0 ds)
section
variable {X : Cx} {W : WX} {e : Expr} {m : M PyData} {p pos tpos : Pos} {elts : List Expr} {kk : Nat}
theorem pim_enum (hg : Gl X "enumerate") (hm : X.mg "enumerate" = none) (h : PD X W e m) (hs : starEach [e] X.env = [(false, eval e X.env)] := by rfl) : PIM X W (.Tuple elts kk tpos) (.Call (.Name "enumerate" p) [e] [] pos) (mEnum m) := by
  refine ⟨fun pins s σ H R I ⟨G, O, a, q⟩ => ?_⟩
  by_cases hl : ∃ ds a1, m a = some (.ok (.list ds), a1)
  · obtain ⟨ds, a1, hma⟩ := hl
    refine (pi_enum hg hm (pa_cons h pa_nil hs) hs).run pins s σ H R I ⟨G, O, a, q.bindE (RR := RD X.kw) fun O1 H1 a2 v d ed I1 e1 r1 q1 => ?_⟩
    rw [hma] at ed
    cases ed
    obtain ⟨items, hi, q2⟩ := q1.ofB
    cases hi
    cases r1 with
    | lst h1 h2 => exact ⟨_, _, rfl, (hide_ex _ _).l h1, q2.pure (wk_enumL h1 h2)⟩
  · refine (pi_enumT hg hm (pa_cons h pa_nil hs) hs).run pins s σ H R I ⟨G, O, a, q.bindE (RR := RD X.kw) fun O1 H1 a2 v d ed I1 e1 r1 q1 => ?_⟩
    obtain ⟨items, hi, q2⟩ := q1.ofB
    cases d with
    | list ds => exact absurd ⟨ds, a2, ed⟩ hl
    | tuple ds =>
      cases hi
      cases r1 with
      | tup h1 h2 => exact ⟨_, _, rfl, (hide_ex _ _).t h1, q2.pure (wk_enumT h1 h2)⟩
    | _ => cases hi
end

/-! ### divmod, max, min of two -/
def gDivmod : List PyData → Option PyData
  | [.int i, .int j] => if decide (0 < j) && decide (j.natAbs.log2 < 9000) then some (.tuple [.int (i / j), .int (i % j)]) else none
  | _ => none
section
variable {K : KW}
theorem gDivmod_ok : CD_ K (fun xs H Q => ∃ i j, xs = [.int i, .int j] ∧ CDivP i j ∧ ∀ p, H p = none → Q (.ref p) (upd H p (.tup [.int (i / j), .int (i % j)]))) gDivmod := by
  intro O H vs ds d Q th rp h q
  unfold gDivmod at h
  split at h
  · rename_i i j
    split at h
    · rename_i hc
      cases h
      obtain ⟨v, w, rfl, r1, r2⟩ := rp.two
      rw [r1.int, r2.int]
      have hc' := Bool.and_eq_true_iff.mp hc
      refine ⟨i, j, rfl, ?_, fun p hp => ?_⟩
      · exact ⟨of_decide_eq_true hc'.1, PyProof.noPylong_of_log2 (of_decide_eq_true hc'.2)⟩
      · have ex : Ex H (upd H p (.tup [.int (i / j), .int (i % j)])) := Ex.new hp
        refine q _ _ ex (.tup (SqT.of (hide_some.mpr ⟨fun z => ?_, upd_same⟩)) (.cons (.int _) (.cons (.int _) .nil)))
        obtain ⟨o, ho⟩ := th p z
        rw [hp] at ho
        cases ho
    · cases h
  · cases h
end
end Am

/-! Am10: max and min with a default. -/
namespace Am
open PySem L2 PySem.Spec
/-- a built-in that goes on as another code, called with keywords -/
theorem call_tree_kw {prog : Program} {w : World} {A : Around} {E : Value → Shared → Prop} {s : Shared} {id : String} {b : Builtin} {us : List Value} {kw : List (Str × Value)} {Q : Value → Shared → Prop} (kind : builtinKind id = none) (pl : plainId id = true)
    (en : entryFor table id = some b) (ok : argsOk id ⟨us, kw⟩)
    (h : wpAny (model prog w) A.in1 (b ⟨us, kw⟩) (fun fin s' => match fin with
      | .done f => (match (Except.ok f : Result) with | .ok (.ret v) => Q v s' | .ok _ => False | .error e => E e s')
      | .again c' => c'.quiet = true ∧ codeAny (model prog w) A c' (fun r s' => match r with | .ok (.ret v) => Q v s' | .ok _ => False | .error e => E e s') s') E s) : wpAny (model prog w) A (call (.builtin id) us kw) Q E s := by
  refine wpAny_call (codeAny_call_builtin pl en ?_)
  simp only [checkBuiltinCall, kind]
  cases sg : Manifest.signature? id with
  | none => exact wpAny_pure h
  | some sig =>
    have eq1 : Bind.checkArgs id sig ⟨us, kw⟩ = pure () := by simpa only [argsOk, sg] using ok
    exact wpAny_of_eq eq1 h

section
variable {prog : Program} {w : World} {A : Around} {R : Result → Shared → Prop} {I : Addr} {fp wr : List Addr} {n : Nat} {P : Nat → Value → Prop} {St : Nat → Heap → Prop}
theorem plain_kw_max (as : Args) : A.under (.builtin "max.loop" as) = A.in1 := Around.under_plainId (A := A) F.plain_max_loop as
/-- the loop of max(.., default=d) -/
theorem dflt_max_loop (W : Walks prog w A.in1 I fp wr n P St) (bt : Nat → Nat → Bool) (cmp : CmpOf prog w A.in1 .Gt P bt) (S : Addr) (nS : S ∉ fp) (d : Value) :
    ∀ (k j : Nat) (s : Shared) (old : Array Value) (c : Nat), n - j = k → j ≤ n → St j s.heap → ((j = 0 ∧ old = #[]) ∨ ∃ vb, 0 < j ∧ old = #[vb, vb] ∧ P (argBest bt (j - 1)) vb) →
    s.heap.get? S = some { cls := .type "list", dict := none, data := .seq old c, slots := #[] } →
    (∀ v h' tk, ((n = 0 ∧ v = d) ∨ (0 < n ∧ P (argBest bt (n - 1)) v)) → (∀ b o, b ∉ wr → b ≠ S → s.heap.get? b = some o → h'.get? b = some o) → R (.ok (.ret v)) { s with heap := h', toks := tk }) →
    codeAny (model prog w) A (.builtin "max.loop" ⟨[.ref I, .none, .ref S], [(Str.ofString "default", d)]⟩) R s := by
  have wS : S ∉ wr := fun z => nS (W.sub _ z)
  have nm : (toString "max" ++ toString ".loop" : String) = "max.loop" := by decide
  intro k
  induction k with
  | zero =>
    intro j s old c hk hj st inv at_S fin
    obtain rfl : j = n := by omega
    refine codeAny_builtin F.entry_max_loop ?_
    rw [plain_kw_max]
    show wpAny _ A.in1 (bind (seqItems? (.ref S)) _) _ _ s
    refine wpAny_bind (wpAny_seqItems at_S rfl ?_)
    show wpAny _ A.in1 (bind (tryCatch (pyNext (.ref I)) _) _) _ _ s
    refine wpAny_bind (wpAny_tryCatch (W.done s _ _ st fun h1 tk keep => ?_))
    rcases inv with ⟨rfl, rfl⟩ | ⟨vb, pos, rfl, hP⟩
    · exact wpAny_bind (wpAny_rule (wpAny_pure (fin d h1 tk (.inl ⟨rfl, rfl⟩) fun b o nw _ e => keep b o nw e)))
    · have at1 := keep S _ wS at_S
      show wpAny _ A.in1 (bind (updateSeq S fun _ => #[]) _) _ _ _
      refine wpAny_bind (wpAny_updateSeq at1 rfl (wpAny_bind (wpAny_letGo (wpAny_pure ?_))))
      exact fin vb _ tk (.inr ⟨pos, hP⟩) fun b o nw nbS e => (Heap.get?_update_other _ _ (Ne.symm nbS)).trans (keep b o nw e)
  | succ k ih =>
    intro j s old c hk hj st inv at_S fin
    have lt : j < n := by omega
    refine codeAny_builtin F.entry_max_loop ?_
    rw [plain_kw_max]
    show wpAny _ A.in1 (bind (seqItems? (.ref S)) _) _ _ s
    refine wpAny_bind (wpAny_seqItems at_S rfl ?_)
    show wpAny _ A.in1 (bind (tryCatch (pyNext (.ref I)) _) _) _ _ s
    refine wpAny_bind (wpAny_tryCatch (W.item j s _ _ lt st fun v h1 tk hv st1 keep => ?_))
    have at1 := keep S _ wS at_S
    have stay : ∀ {arr : Array Value} (b : Addr) (o : Obj), b ≠ S → h1.get? b = some o → (h1.update S (Obj.mapSeq fun _ => arr)).get? b = some o := fun b o q e => (Heap.get?_update_other _ _ (Ne.symm q)).trans e
    have stU : ∀ {arr : Array Value}, St (j + 1) (h1.update S (Obj.mapSeq fun _ => arr)) := fun {arr} => W.frame _ _ _ st1 fun b hb o e => stay b o (fun z => nS (z ▸ hb)) e
    have next : ∀ {h2 : Heap} {tk2 : Nat} {v2 : Value} {c2 : Nat}, St (j + 1) h2 → P (argBest bt j) v2 → h2.get? S = some { cls := .type "list", dict := none, data := .seq #[v2, v2] c2, slots := #[] } → (∀ b o, b ∉ wr → b ≠ S → s.heap.get? b = some o → h2.get? b = some o) →
        codeAny (model prog w) A (.builtin "max.loop" ⟨[.ref I, .none, .ref S], [(Str.ofString "default", d)]⟩) R { s with heap := h2, toks := tk2 } := fun {h2 tk2 v2 c2} q1 q2 q3 q4 =>
      ih (j + 1) _ _ c2 (by omega) lt q1 (.inr ⟨v2, Nat.succ_pos j, rfl, q2⟩) q3 fun v h' tk' z kp => fin v h' tk' z fun b o nw nbS e => kp b o nw nbS (q4 b o nw nbS e)
    rcases inv with ⟨rfl, rfl⟩ | ⟨vb, pos, rfl, hP⟩
    · show wpAny _ A.in1 (bind (updateSeq S fun _ => #[v, v]) _) _ _ _
      refine wpAny_bind (wpAny_updateSeq at1 rfl ?_)
      rw [nm]
      exact wpAny_pure ⟨plainId_quiet F.plain_max_loop _, next stU hv (Heap.get?_update_self _ at1 rfl) fun b o nw nbS e => stay b o nbS (keep b o nw e)⟩
    · show wpAny _ A.in1 (bind (tryCatch (holding [v, v] (bind (richCompare .Gt v vb) _)) _) _) _ _ _
      refine wpAny_bind (wpAny_tryCatch (wpAny_holding (wpAny_bind (cmp j (argBest bt (j - 1)) v vb _ _ _ hv hP (wpAny_bind (wpAny_holding (wpAny_truthy_bool (wpAny_bind (wpAny_letGo (wpAny_pure ?_))))))))))
      obtain ⟨i, rfl⟩ : ∃ i, j = i + 1 := ⟨j - 1, by omega⟩
      rw [Nat.add_sub_cancel] at hP ⊢
      cases hb : bt (i + 1) (argBest bt i) with
      | true =>
        simp only [if_true]
        refine wpAny_bind (wpAny_updateSeq at1 rfl (wpAny_bind (wpAny_letGo ?_)))
        rw [nm]
        exact wpAny_pure ⟨plainId_quiet F.plain_max_loop _, next stU (by rw [argBest, if_pos hb]; exact hv) (Heap.get?_update_self _ at1 rfl) fun b o nw nbS e => stay b o nbS (keep b o nw e)⟩
      | false =>
        simp only [Bool.false_eq_true, if_false]
        refine wpAny_bind (wpAny_letGo ?_)
        rw [nm]
        exact wpAny_pure ⟨plainId_quiet F.plain_max_loop _, next st1 (by rw [argBest, if_neg (by rw [hb]; decide)]; exact hP) at1 fun b o nw nbS e => keep b o nw e⟩
end
theorem args_max_dflt (a d : Value) : argsOk "max" ⟨[a], [(Str.ofString "default", d)]⟩ := by unfold argsOk; kernel_rfl
theorem params_max (d : Value) : Builtin.Builtins.bindParams "max" ["key", "default"] 0 ⟨[], [(Str.ofString "default", d)]⟩ = pure [none, some d] := by kernel_rfl
theorem max_dflt_ints {prog : Program} {w : World} {A : Around} {E : Value → Shared → Prop} {s : Shared} {l : Addr} {xs : Array (Int × Tok)} {d : Value} {Q : Value → Shared → Prop} (hh : A.handled = none) (hl : s.heap.IsList l (intItems xs))
    (h : ∀ v h' tk, ((xs.size = 0 ∧ v = d) ∨ (0 < xs.size ∧ (intItems xs)[argBest (fun i j => decide (numAt xs i > numAt xs j)) (xs.size - 1)]? = some v)) → (∀ b o, s.heap.get? b = some o → h'.get? b = some o) → Q v { s with heap := h', toks := tk }) :
    wpAny (model prog w) A (call (.builtin "max") [.ref l] [(Str.ofString "default", d)]) Q E s := by
  have nm : (toString "max" ++ toString ".loop" : String) = "max.loop" := by decide
  refine call_tree_kw F.kind_max F.plain_max F.entry_max (args_max_dflt _ _) ?_
  show wpAny _ A.in1 (bind (Builtin.Builtins.bindParams "max" ["key", "default"] 0 ⟨[], [(Str.ofString "default", d)]⟩) _) _ _ s
  refine wpAny_bind (wpAny_of_eq (params_max d) ?_)
  refine wpAny_bind (wpAny_pure (wpAny_bind (iter_intList hl fun s2 es st below ne => ?_)))
  subst es
  refine wpAny_bind (wpAny_newObj_type ?_)
  rw [nm]
  have sz : (intItems xs).size = xs.size := by simp [intItems]
  have W := Walks.list (prog := prog) (w := w) (A := A.in1) hh _ l ne (intItems xs)
  refine wpAny_pure ⟨plainId_quiet F.plain_max_loop _, dflt_max_loop W _ (CmpOf.ints_gt (numAt xs) fun _ _ => intItems_at) _ (fun z => Nat.lt_irrefl _ (below _ z)) d _ 0 _ _ _ rfl (Nat.zero_le _) (W.frame _ _ _ st fun b _ o e => Heap.get?_push_of_some _ e) (.inl ⟨rfl, rfl⟩) (Heap.get?_push_size _ rfl) fun v h' tk z kp => ?_⟩
  refine h v h' tk (by rw [sz] at z; exact z) (old_kept fun b o nb e => kp b o nb (Nat.ne_of_lt (Heap.lt_size e)) (Heap.get?_push_of_some _ e))

section
variable {prog : Program} {w : World} {A : Around} {R : Result → Shared → Prop} {I : Addr} {fp wr : List Addr} {n : Nat} {P : Nat → Value → Prop} {St : Nat → Heap → Prop}
theorem plain_kw_min (as : Args) : A.under (.builtin "min.loop" as) = A.in1 := Around.under_plainId (A := A) F.plain_min_loop as
/-- the loop of min(.., default=d) -/
theorem dflt_min_loop (W : Walks prog w A.in1 I fp wr n P St) (bt : Nat → Nat → Bool) (cmp : CmpOf prog w A.in1 .Lt P bt) (S : Addr) (nS : S ∉ fp) (d : Value) :
    ∀ (k j : Nat) (s : Shared) (old : Array Value) (c : Nat), n - j = k → j ≤ n → St j s.heap → ((j = 0 ∧ old = #[]) ∨ ∃ vb, 0 < j ∧ old = #[vb, vb] ∧ P (argBest bt (j - 1)) vb) →
    s.heap.get? S = some { cls := .type "list", dict := none, data := .seq old c, slots := #[] } →
    (∀ v h' tk, ((n = 0 ∧ v = d) ∨ (0 < n ∧ P (argBest bt (n - 1)) v)) → (∀ b o, b ∉ wr → b ≠ S → s.heap.get? b = some o → h'.get? b = some o) → R (.ok (.ret v)) { s with heap := h', toks := tk }) →
    codeAny (model prog w) A (.builtin "min.loop" ⟨[.ref I, .none, .ref S], [(Str.ofString "default", d)]⟩) R s := by
  have wS : S ∉ wr := fun z => nS (W.sub _ z)
  have nm : (toString "min" ++ toString ".loop" : String) = "min.loop" := by decide
  intro k
  induction k with
  | zero =>
    intro j s old c hk hj st inv at_S fin
    obtain rfl : j = n := by omega
    refine codeAny_builtin F.entry_min_loop ?_
    rw [plain_kw_min]
    show wpAny _ A.in1 (bind (seqItems? (.ref S)) _) _ _ s
    refine wpAny_bind (wpAny_seqItems at_S rfl ?_)
    show wpAny _ A.in1 (bind (tryCatch (pyNext (.ref I)) _) _) _ _ s
    refine wpAny_bind (wpAny_tryCatch (W.done s _ _ st fun h1 tk keep => ?_))
    rcases inv with ⟨rfl, rfl⟩ | ⟨vb, pos, rfl, hP⟩
    · exact wpAny_bind (wpAny_rule (wpAny_pure (fin d h1 tk (.inl ⟨rfl, rfl⟩) fun b o nw _ e => keep b o nw e)))
    · have at1 := keep S _ wS at_S
      show wpAny _ A.in1 (bind (updateSeq S fun _ => #[]) _) _ _ _
      refine wpAny_bind (wpAny_updateSeq at1 rfl (wpAny_bind (wpAny_letGo (wpAny_pure ?_))))
      exact fin vb _ tk (.inr ⟨pos, hP⟩) fun b o nw nbS e => (Heap.get?_update_other _ _ (Ne.symm nbS)).trans (keep b o nw e)
  | succ k ih =>
    intro j s old c hk hj st inv at_S fin
    have lt : j < n := by omega
    refine codeAny_builtin F.entry_min_loop ?_
    rw [plain_kw_min]
    show wpAny _ A.in1 (bind (seqItems? (.ref S)) _) _ _ s
    refine wpAny_bind (wpAny_seqItems at_S rfl ?_)
    show wpAny _ A.in1 (bind (tryCatch (pyNext (.ref I)) _) _) _ _ s
    refine wpAny_bind (wpAny_tryCatch (W.item j s _ _ lt st fun v h1 tk hv st1 keep => ?_))
    have at1 := keep S _ wS at_S
    have stay : ∀ {arr : Array Value} (b : Addr) (o : Obj), b ≠ S → h1.get? b = some o → (h1.update S (Obj.mapSeq fun _ => arr)).get? b = some o := fun b o q e => (Heap.get?_update_other _ _ (Ne.symm q)).trans e
    have stU : ∀ {arr : Array Value}, St (j + 1) (h1.update S (Obj.mapSeq fun _ => arr)) := fun {arr} => W.frame _ _ _ st1 fun b hb o e => stay b o (fun z => nS (z ▸ hb)) e
    have next : ∀ {h2 : Heap} {tk2 : Nat} {v2 : Value} {c2 : Nat}, St (j + 1) h2 → P (argBest bt j) v2 → h2.get? S = some { cls := .type "list", dict := none, data := .seq #[v2, v2] c2, slots := #[] } → (∀ b o, b ∉ wr → b ≠ S → s.heap.get? b = some o → h2.get? b = some o) →
        codeAny (model prog w) A (.builtin "min.loop" ⟨[.ref I, .none, .ref S], [(Str.ofString "default", d)]⟩) R { s with heap := h2, toks := tk2 } := fun {h2 tk2 v2 c2} q1 q2 q3 q4 =>
      ih (j + 1) _ _ c2 (by omega) lt q1 (.inr ⟨v2, Nat.succ_pos j, rfl, q2⟩) q3 fun v h' tk' z kp => fin v h' tk' z fun b o nw nbS e => kp b o nw nbS (q4 b o nw nbS e)
    rcases inv with ⟨rfl, rfl⟩ | ⟨vb, pos, rfl, hP⟩
    · show wpAny _ A.in1 (bind (updateSeq S fun _ => #[v, v]) _) _ _ _
      refine wpAny_bind (wpAny_updateSeq at1 rfl ?_)
      rw [nm]
      exact wpAny_pure ⟨plainId_quiet F.plain_min_loop _, next stU hv (Heap.get?_update_self _ at1 rfl) fun b o nw nbS e => stay b o nbS (keep b o nw e)⟩
    · show wpAny _ A.in1 (bind (tryCatch (holding [v, v] (bind (richCompare .Lt v vb) _)) _) _) _ _ _
      refine wpAny_bind (wpAny_tryCatch (wpAny_holding (wpAny_bind (cmp j (argBest bt (j - 1)) v vb _ _ _ hv hP (wpAny_bind (wpAny_holding (wpAny_truthy_bool (wpAny_bind (wpAny_letGo (wpAny_pure ?_))))))))))
      obtain ⟨i, rfl⟩ : ∃ i, j = i + 1 := ⟨j - 1, by omega⟩
      rw [Nat.add_sub_cancel] at hP ⊢
      cases hb : bt (i + 1) (argBest bt i) with
      | true =>
        simp only [if_true]
        refine wpAny_bind (wpAny_updateSeq at1 rfl (wpAny_bind (wpAny_letGo ?_)))
        rw [nm]
        exact wpAny_pure ⟨plainId_quiet F.plain_min_loop _, next stU (by rw [argBest, if_pos hb]; exact hv) (Heap.get?_update_self _ at1 rfl) fun b o nw nbS e => stay b o nbS (keep b o nw e)⟩
      | false =>
        simp only [Bool.false_eq_true, if_false]
        refine wpAny_bind (wpAny_letGo ?_)
        rw [nm]
        exact wpAny_pure ⟨plainId_quiet F.plain_min_loop _, next st1 (by rw [argBest, if_neg (by rw [hb]; decide)]; exact hP) at1 fun b o nw nbS e => keep b o nw e⟩
end
theorem args_min_dflt (a d : Value) : argsOk "min" ⟨[a], [(Str.ofString "default", d)]⟩ := by unfold argsOk; kernel_rfl
theorem params_min (d : Value) : Builtin.Builtins.bindParams "min" ["key", "default"] 0 ⟨[], [(Str.ofString "default", d)]⟩ = pure [none, some d] := by kernel_rfl
theorem min_dflt_ints {prog : Program} {w : World} {A : Around} {E : Value → Shared → Prop} {s : Shared} {l : Addr} {xs : Array (Int × Tok)} {d : Value} {Q : Value → Shared → Prop} (hh : A.handled = none) (hl : s.heap.IsList l (intItems xs))
    (h : ∀ v h' tk, ((xs.size = 0 ∧ v = d) ∨ (0 < xs.size ∧ (intItems xs)[argBest (fun i j => decide (numAt xs i < numAt xs j)) (xs.size - 1)]? = some v)) → (∀ b o, s.heap.get? b = some o → h'.get? b = some o) → Q v { s with heap := h', toks := tk }) :
    wpAny (model prog w) A (call (.builtin "min") [.ref l] [(Str.ofString "default", d)]) Q E s := by
  have nm : (toString "min" ++ toString ".loop" : String) = "min.loop" := by decide
  refine call_tree_kw F.kind_min F.plain_min F.entry_min (args_min_dflt _ _) ?_
  show wpAny _ A.in1 (bind (Builtin.Builtins.bindParams "min" ["key", "default"] 0 ⟨[], [(Str.ofString "default", d)]⟩) _) _ _ s
  refine wpAny_bind (wpAny_of_eq (params_min d) ?_)
  refine wpAny_bind (wpAny_pure (wpAny_bind (iter_intList hl fun s2 es st below ne => ?_)))
  subst es
  refine wpAny_bind (wpAny_newObj_type ?_)
  rw [nm]
  have sz : (intItems xs).size = xs.size := by simp [intItems]
  have W := Walks.list (prog := prog) (w := w) (A := A.in1) hh _ l ne (intItems xs)
  refine wpAny_pure ⟨plainId_quiet F.plain_min_loop _, dflt_min_loop W _ (CmpOf.ints_lt (numAt xs) fun _ _ => intItems_at) _ (fun z => Nat.lt_irrefl _ (below _ z)) d _ 0 _ _ _ rfl (Nat.zero_le _) (W.frame _ _ _ st fun b _ o e => Heap.get?_push_of_some _ e) (.inl ⟨rfl, rfl⟩) (Heap.get?_push_size _ rfl) fun v h' tk z kp => ?_⟩
  refine h v h' tk (by rw [sz] at z; exact z) (old_kept fun b o nb e => kp b o nb (Nat.ne_of_lt (Heap.lt_size e)) (Heap.get?_push_of_some _ e))

/-! ### by values -/
def rMxD (f : List Int → Option Int) (K : PySem.W.Frag) : List V → List V → Hp → VK → Prop := fun xs zs H Q => ∃ (a : Addr) (ns : List Int) (d : Int), xs = [.ref a] ∧ zs = [.int d] ∧ SqL K H a (ns.map V.int) ∧ Q (.int ((f ns).getD d)) H
section
variable {X : Cx}
theorem its_of {its : List Value} {ns : List Int} (hi : PyProof.Rows.IntsAre its ns) : ∃ xs : Array (Int × Tok), its.toArray = intItems xs ∧ xs.size = ns.length ∧ ∀ i, i < xs.size → ns[i]? = some (numAt xs i) := by
  obtain ⟨xs, e⟩ := hi.allInts.items
  refine ⟨xs, e, ?_, fun i hlt => ?_⟩
  · have h1 := congrArg Array.size e
    rw [List.size_toArray, hi.length] at h1
    simpa [intItems] using h1.symm
  · have h1 : its[i]? = some (.int (xs[i]).1 (xs[i]).2) := by
      have z := congrArg (fun (a : Array Value) => a[i]?) e
      simpa [intItems, hlt] using z
    have key : ∀ {is : List Value} {ms : List Int}, PyProof.Rows.IntsAre is ms → ∀ (j : Nat) (x : Int) (t : Tok), is[j]? = some (.int x t) → ms[j]? = some x := by
      intro is ms h
      induction h with
      | nil => intro j x t q; simp at q
      | cons n t h ih =>
        intro j x u q
        cases j with
        | zero =>
          have q' := Option.some.inj q
          injection q' with q1 q2
          rw [q1] <;> rfl
        | succ j => exact ih j x u (by simpa using q)
    rw [key hi i _ _ h1]
    simp [numAt, hlt]

theorem maxI_ne : ∀ (a : Int) (r : List Int), ∃ m, maxI (a :: r) = some m
  | a, [] => ⟨a, rfl⟩
  | a, b :: r => by
    obtain ⟨m, h⟩ := maxI_ne b r
    exact ⟨if m > a then m else a, by rw [maxI, h] <;> simp⟩
theorem best_max (f : Nat → Int) : ∀ n : Nat, argBest (fun i j => decide (f i > f j)) n ≤ n ∧ ∀ i, i ≤ n → f i ≤ f (argBest (fun i j => decide (f i > f j)) n)
  | 0 => ⟨Nat.le_refl _, fun i hi => by obtain rfl : i = 0 := by omega
                                        exact Int.le_refl _⟩
  | n + 1 => by
    obtain ⟨h1, h2⟩ := best_max f n
    unfold argBest
    by_cases hb : f (n + 1) > f (argBest (fun i j => decide (f i > f j)) n)
    · rw [if_pos (decide_eq_true hb)]
      refine ⟨Nat.le_refl _, fun i hi => ?_⟩
      rcases Nat.lt_or_ge i (n + 1) with q | q
      · have z := h2 i (by omega)
        omega
      · obtain rfl : i = n + 1 := by omega
        exact Int.le_refl _
    · rw [if_neg (by simpa using hb)]
      refine ⟨by omega, fun i hi => ?_⟩
      rcases Nat.lt_or_ge i (n + 1) with q | q
      · exact h2 i (by omega)
      · obtain rfl : i = n + 1 := by omega
        omega
theorem cr_maxD (hc : X.calm = true) : CallRK X (.builtin "max") [Str.ofString "default"] (rMxD maxI X.K) := by
  intro pins s σ H xs zs us ws Q I r1 r2 h
  obtain ⟨a, ns, d, rfl, rfl, hq, q⟩ := h
  obtain ⟨its, rv, hl, hz⟩ := I.list hq
  obtain ⟨u, rfl, ru⟩ := vals1 r1
  cases ru
  obtain ⟨u2, rfl, td, rfl⟩ := vals1 r2
  obtain ⟨ys, e, esz, get⟩ := its_of rv.ints
  have hl' := hl.isList
  rw [e] at hl'
  refine max_dflt_ints (I.ok.hd hc) hl' fun v h' tk z kp => ?_
  have I2 : Inv X pins σ H { s with heap := h', toks := tk } := I.kept kp
  rcases z with ⟨z0, rfl⟩ | ⟨z0, hv⟩
  · obtain rfl : ns = [] := List.length_eq_zero_iff.mp (by rw [← esz]; exact z0)
    exact ⟨.int d, H, I2, ⟨_, rfl⟩, q⟩
  · obtain ⟨t, rfl⟩ := intItems_at hv
    obtain ⟨b1, b2⟩ := best_max (numAt ys) (ys.size - 1)
    have hm : maxI ns = some (numAt ys (argBest (fun i j => decide (numAt ys i > numAt ys j)) (ys.size - 1))) := by
      have at1 := get _ (show argBest (fun i j => decide (numAt ys i > numAt ys j)) (ys.size - 1) < ys.size by omega)
      have mem := List.mem_of_getElem? at1
      cases em : maxI ns with
      | none =>
        cases ns with
        | nil => simp at mem
        | cons n0 ns0 =>
          obtain ⟨z, ez⟩ := maxI_ne n0 ns0
          rw [ez] at em
          cases em
      | some m =>
        obtain ⟨s1, s2⟩ := maxI_spec em
        have s3 := s2 _ mem
        obtain ⟨j, hj, ej⟩ := List.getElem_of_mem s1
        have hj' : j < ys.size := by omega
        have at2 := get j hj'
        rw [List.getElem?_eq_getElem hj, ej] at at2
        have s4 := b2 j (by omega)
        rw [← Option.some.inj at2] at s4
        congr 1
        omega
    rw [hm] at q
    exact ⟨.int _, H, I2, ⟨t, rfl⟩, q⟩

theorem minI_ne : ∀ (a : Int) (r : List Int), ∃ m, minI (a :: r) = some m
  | a, [] => ⟨a, rfl⟩
  | a, b :: r => by
    obtain ⟨m, h⟩ := minI_ne b r
    exact ⟨if m < a then m else a, by rw [minI, h] <;> simp⟩
theorem best_min (f : Nat → Int) : ∀ n : Nat, argBest (fun i j => decide (f i < f j)) n ≤ n ∧ ∀ i, i ≤ n → f (argBest (fun i j => decide (f i < f j)) n) ≤ f i
  | 0 => ⟨Nat.le_refl _, fun i hi => by obtain rfl : i = 0 := by omega
                                        exact Int.le_refl _⟩
  | n + 1 => by
    obtain ⟨h1, h2⟩ := best_min f n
    unfold argBest
    by_cases hb : f (n + 1) < f (argBest (fun i j => decide (f i < f j)) n)
    · rw [if_pos (decide_eq_true hb)]
      refine ⟨Nat.le_refl _, fun i hi => ?_⟩
      rcases Nat.lt_or_ge i (n + 1) with q | q
      · have z := h2 i (by omega)
        omega
      · obtain rfl : i = n + 1 := by omega
        exact Int.le_refl _
    · rw [if_neg (by simpa using hb)]
      refine ⟨by omega, fun i hi => ?_⟩
      rcases Nat.lt_or_ge i (n + 1) with q | q
      · exact h2 i (by omega)
      · obtain rfl : i = n + 1 := by omega
        omega
theorem cr_minD (hc : X.calm = true) : CallRK X (.builtin "min") [Str.ofString "default"] (rMxD minI X.K) := by
  intro pins s σ H xs zs us ws Q I r1 r2 h
  obtain ⟨a, ns, d, rfl, rfl, hq, q⟩ := h
  obtain ⟨its, rv, hl, hz⟩ := I.list hq
  obtain ⟨u, rfl, ru⟩ := vals1 r1
  cases ru
  obtain ⟨u2, rfl, td, rfl⟩ := vals1 r2
  obtain ⟨ys, e, esz, get⟩ := its_of rv.ints
  have hl' := hl.isList
  rw [e] at hl'
  refine min_dflt_ints (I.ok.hd hc) hl' fun v h' tk z kp => ?_
  have I2 : Inv X pins σ H { s with heap := h', toks := tk } := I.kept kp
  rcases z with ⟨z0, rfl⟩ | ⟨z0, hv⟩
  · obtain rfl : ns = [] := List.length_eq_zero_iff.mp (by rw [← esz]; exact z0)
    exact ⟨.int d, H, I2, ⟨_, rfl⟩, q⟩
  · obtain ⟨t, rfl⟩ := intItems_at hv
    obtain ⟨b1, b2⟩ := best_min (numAt ys) (ys.size - 1)
    have hm : minI ns = some (numAt ys (argBest (fun i j => decide (numAt ys i < numAt ys j)) (ys.size - 1))) := by
      have at1 := get _ (show argBest (fun i j => decide (numAt ys i < numAt ys j)) (ys.size - 1) < ys.size by omega)
      have mem := List.mem_of_getElem? at1
      cases em : minI ns with
      | none =>
        cases ns with
        | nil => simp at mem
        | cons n0 ns0 =>
          obtain ⟨z, ez⟩ := minI_ne n0 ns0
          rw [ez] at em
          cases em
      | some m =>
        obtain ⟨s1, s2⟩ := minI_spec em
        have s3 := s2 _ mem
        obtain ⟨j, hj, ej⟩ := List.getElem_of_mem s1
        have hj' : j < ys.size := by omega
        have at2 := get j hj'
        rw [List.getElem?_eq_getElem hj, ej] at at2
        have s4 := b2 j (by omega)
        rw [← Option.some.inj at2] at s4
        congr 1
        omega
    rw [hm] at q
    exact ⟨.int _, H, I2, ⟨t, rfl⟩, q⟩

end
def gMxD (f : List Int → Option Int) : List PyData → PyData → Option PyData
  | [.list xs], .int k => (intsD xs).map fun ns => .int ((f ns).getD k)
  | _, _ => none
def mMxD (f : List Int → Option Int) (m : M (List PyData)) (md : M PyData) : M PyData := M.bind m fun ds => M.bind md fun z => M.of (gMxD f ds z)
section
variable {X : Cx} {W : WX} {x : Str} {id : String} {e de : Expr} {m : M (List PyData)} {md : M PyData} {p pos kpos : Pos} {f : List Int → Option Int}
theorem pd_mxD (hc : CallRK X (.builtin id) [Str.ofString "default"] (rMxD f X.K)) (hg : Gl X x) (hm : X.mg x = none) (hv : bootBuiltins x = some (.builtin id)) (ha : PDs X W [e] m) (hd : PD X W de md) (hn : x ≠ "__name__" := by decide) (hdb : (x == ("__debug__" : Str)) = false := by decide)
    (he : backTo pos (starEach [e] X.env) = (false, eval e X.env) :: backTo pos (starEach [] X.env) := by rfl) (hpl : (backTo pos (starEach [e] X.env)).any (·.1) = false := by rfl)
    (hall : (backToKw pos (keywordEach [⟨some (Str.ofString "default"), de, kpos⟩] X.env)).all (·.1.isSome) = true := by rfl) (hnone : (backToKw pos (keywordEach [⟨some (Str.ofString "default"), de, kpos⟩] X.env)).any (·.1.isNone) = false := by rfl) (hks : (backToKw pos (keywordEach [⟨some (Str.ofString "default"), de, kpos⟩] X.env)).filterMap (·.1) = [Str.ofString "default"] := by rfl) :
    PD X W (.Call (.Name x p) [e] [⟨some (Str.ofString "default"), de, kpos⟩] pos) (mMxD f m md) := by
  refine PE.imp (pe_callBK hc hg hm hv ha (pk_cons hd pk_nil) hn hdb he hpl hall hnone hks) fun σ H Q ⟨G, O, a, q⟩ => ?_
  refine ⟨G, O, a, q.bind (RR := RDs X.kw) fun O1 H1 a1 vs ds I1 e1 r1 q1 => ?_⟩
  refine ⟨G, O1, a1, q1.bind (RR := RD X.kw) fun O2 H2 a2 v z I2 e2 r2 q2 => ?_⟩
  obtain ⟨d, hd, q3⟩ := q2.of
  unfold gMxD at hd
  split at hd
  · rename_i xs k
    cases hx : intsD xs with
    | none => rw [hx] at hd; cases hd
    | some ns =>
      rw [hx] at hd
      cases hd
      cases r2
      obtain rfl := intsD_some hx
      have r1' := RAll.mono e2 _ _ r1
      cases r1' with
      | cons r3 r4 =>
        cases r4
        cases r3 with
        | lst h1 h2 =>
          have h2' := h2.ints
          subst h2'
          exact ⟨_, ns, k, rfl, rfl, (hide_ex _ _).l h1, q3.pure (.int _)⟩
  · cases hd
variable {K : KW}
theorem gMax2_ok : CD_ K (fun xs H Q => ∃ i j, xs = [.int i, .int j] ∧ Q (.int (if j > i then j else i)) H) gMax2 := by
  intro O H vs ds d Q th rp h q
  unfold gMax2 at h
  split at h
  · cases h
    obtain ⟨v, w, rfl, r1, r2⟩ := rp.two
    rw [r1.int, r2.int]
    exact ⟨_, _, rfl, q _ _ (Ex.refl _) (.int _)⟩
  · cases h
theorem gMin2_ok : CD_ K (fun xs H Q => ∃ i j, xs = [.int i, .int j] ∧ Q (.int (if j < i then j else i)) H) gMin2 := by
  intro O H vs ds d Q th rp h q
  unfold gMin2 at h
  split at h
  · cases h
    obtain ⟨v, w, rfl, r1, r2⟩ := rp.two
    rw [r1.int, r2.int]
    exact ⟨_, _, rfl, q _ _ (Ex.refl _) (.int _)⟩
  · cases h
end
end Am

/-! Am11: sorted, of ints and of tuples of ints, any number of them. -/
namespace Am
open PySem L2 PySem.Spec

/-! ### the order, insertion sort -/
def lexL : List Int → List Int → Bool
  | [], [] => false
  | [], _ :: _ => true
  | _ :: _, [] => false
  | x :: xs, y :: ys => if x = y then lexL xs ys else decide (x < y)
theorem lexL_asym : ∀ {a b : List Int}, lexL a b = true → lexL b a = false
  | [], [], h => by cases h
  | [], _ :: _, _ => rfl
  | _ :: _, [], h => by cases h
  | x :: xs, y :: ys, h => by
    unfold lexL at h ⊢
    by_cases e : x = y
    · rw [if_pos e] at h
      rw [if_pos e.symm]
      exact lexL_asym h
    · rw [if_neg e] at h
      rw [if_neg (Ne.symm e)]
      have := of_decide_eq_true h
      exact decide_eq_false (by omega)
theorem lexL_tr : ∀ {a b c : List Int}, lexL b a = false → lexL c b = false → lexL c a = false
  | [], _, [], _, _ => rfl
  | [], _, _ :: _, _, _ => rfl
  | x :: xs, [], c, h1, _ => by cases h1
  | x :: xs, y :: ys, [], h1, h2 => by cases h2
  | x :: xs, y :: ys, z :: zs, h1, h2 => by
    unfold lexL at h1 h2 ⊢
    by_cases e1 : y = x
    · rw [if_pos e1] at h1
      by_cases e2 : z = y
      · rw [if_pos e2] at h2
        rw [if_pos (e2.trans e1)]
        exact lexL_tr h1 h2
      · rw [if_neg e2] at h2
        rw [if_neg (fun e => e2 (e.trans e1.symm))]
        have := of_decide_eq_false h2
        exact decide_eq_false (by omega)
    · rw [if_neg e1] at h1
      have k1 := of_decide_eq_false h1
      by_cases e2 : z = y
      · rw [if_neg (fun e => e1 (e2.symm.trans e))]
        exact decide_eq_false (by omega)
      · rw [if_neg e2] at h2
        have k2 := of_decide_eq_false h2
        rw [if_neg (by omega)]
        exact decide_eq_false (by omega)
theorem lexL_anti : ∀ {a b : List Int}, lexL a b = false → lexL b a = false → a = b
  | [], [], _, _ => rfl
  | [], _ :: _, h, _ => by cases h
  | _ :: _, [], _, h => by cases h
  | x :: xs, y :: ys, h1, h2 => by
    unfold lexL at h1 h2
    by_cases e : x = y
    · rw [if_pos e] at h1
      rw [if_pos e.symm] at h2
      rw [e, lexL_anti h1 h2]
    · rw [if_neg e] at h1
      rw [if_neg (Ne.symm e)] at h2
      have k1 := of_decide_eq_false h1
      have k2 := of_decide_eq_false h2
      omega
theorem lexL_irr (a : List Int) : lexL a a = false := by
  cases h : lexL a a with
  | false => rfl
  | true => rw [lexL_asym h] at h; cases h
section
variable {α : Type}
def ins (lt : α → α → Bool) (x : α) : List α → List α
  | [] => [x]
  | y :: ys => if lt y x then y :: ins lt x ys else x :: y :: ys
def isort (lt : α → α → Bool) : List α → List α
  | [] => []
  | x :: xs => ins lt x (isort lt xs)
theorem ins_perm (lt : α → α → Bool) (x : α) : ∀ l : List α, (ins lt x l).Perm (x :: l)
  | [] => List.Perm.refl _
  | y :: ys => by
    unfold ins
    split
    · exact ((ins_perm lt x ys).cons y).trans (List.Perm.swap x y ys)
    · exact List.Perm.refl _
theorem isort_perm (lt : α → α → Bool) : ∀ l : List α, (isort lt l).Perm l
  | [] => List.Perm.refl _
  | x :: xs => (ins_perm lt x _).trans ((isort_perm lt xs).cons x)
/-- nothing stands behind a greater one -/
def Asc (lt : α → α → Bool) (l : List α) : Prop := l.Pairwise fun x y => lt y x = false
theorem ins_asc {lt : α → α → Bool} (asym : ∀ x y, lt x y = true → lt y x = false) (tr : ∀ x y z, lt y x = false → lt z y = false → lt z x = false) (x : α) : ∀ {l : List α}, Asc lt l → Asc lt (ins lt x l)
  | [], _ => List.pairwise_singleton _ _
  | y :: ys, h => by
    obtain ⟨h1, h2⟩ := List.pairwise_cons.mp h
    unfold ins
    split
    · rename_i c
      refine List.pairwise_cons.mpr ⟨fun z hz => ?_, ins_asc asym tr x h2⟩
      rcases List.mem_cons.mp ((ins_perm lt x ys).mem_iff.mp hz) with rfl | hz
      · exact asym _ _ c
      · exact h1 z hz
    · rename_i c
      have c' : lt y x = false := by simpa using c
      refine List.pairwise_cons.mpr ⟨fun z hz => ?_, h⟩
      rcases List.mem_cons.mp hz with rfl | hz
      · exact c'
      · exact tr _ _ _ c' (h1 z hz)
theorem isort_asc {lt : α → α → Bool} (asym : ∀ x y, lt x y = true → lt y x = false) (tr : ∀ x y z, lt y x = false → lt z y = false → lt z x = false) : ∀ l : List α, Asc lt (isort lt l)
  | [] => List.Pairwise.nil
  | x :: xs => ins_asc asym tr x (isort_asc asym tr xs)
theorem asc_unique {R : α → α → Prop} (anti : ∀ a b, R a b → R b a → a = b) : ∀ {l m : List α}, l.Pairwise R → m.Pairwise R → l.Perm m → l = m
  | [], m, _, _, p => p.nil_eq
  | a :: l, m, h1, h2, p => by
    cases m with
    | nil => exact absurd p.symm.nil_eq (by simp)
    | cons b m =>
      obtain ⟨k1, k2⟩ := List.pairwise_cons.mp h1
      obtain ⟨k3, k4⟩ := List.pairwise_cons.mp h2
      have e : a = b := by
        rcases List.mem_cons.mp (p.mem_iff.mp List.mem_cons_self) with e | ha
        · exact e
        · rcases List.mem_cons.mp (p.mem_iff.mpr List.mem_cons_self) with e | hb
          · exact e.symm
          · exact anti a b (k1 b hb) (k3 a ha)
      subst e
      rw [asc_unique anti k2 k4 p.cons_inv]
end
abbrev srtL : List (List Int) → List (List Int) := isort lexL
theorem srtL_eq {l m : List (List Int)} (p : l.Perm m) (h : Asc lexL l) : l = srtL m :=
  asc_unique (R := fun x y => lexL y x = false) (fun a b h1 h2 => lexL_anti h2 h1) h (isort_asc (lt := lexL) (fun _ _ => lexL_asym) (fun _ _ _ => lexL_tr) m) (p.trans (isort_perm lexL m).symm)
abbrev ltI (i j : Int) : Bool := decide (i < j)
abbrev srtI : List Int → List Int := isort ltI
theorem srtI_eq {l m : List Int} (p : l.Perm m) (h : l.Pairwise (· ≤ ·)) : l = srtI m := by
  refine asc_unique (R := fun x y => ltI y x = false) (fun a b h1 h2 => ?_) (h.imp fun {a b} q => decide_eq_false (by omega)) (isort_asc (fun a b q => ?_) (fun a b c q1 q2 => ?_) m) (p.trans (isort_perm ltI m).symm)
  · have := of_decide_eq_false h1
    have := of_decide_eq_false h2
    omega
  · have := of_decide_eq_true q
    exact decide_eq_false (by omega)
  · have := of_decide_eq_false q1
    have := of_decide_eq_false q2
    exact decide_eq_false (by omega)

/-! ### tuples of ints as the model sorts them -/
section
open PyProof.Rows (IntsAre IsTup keyLt' tuples' SortKind)
open TS
variable {prog : Program} {w : World} {A : Around} {s : Shared} {Q : Bool → Shared → Prop}
theorem kat_ints : ∀ {xs ys : List Value} {ns ms : List Int}, IntsAre xs ns → IntsAre ys ms → ∀ (i : Nat) (fin : Bool), fin = decide (ns.length < ms.length) → Q (lexL ns ms) s → PySem.W.KatLex prog w A true fin Q (xs.zip ys) i s
  | _, _, _, _, .nil, .nil, i, fin, e, q => by subst e; exact PySem.W.kat_nil q
  | _, _, _, _, .nil, .cons m u t, i, fin, e, q => by
    have e' : fin = true := by rw [e]; exact decide_eq_true (Nat.succ_pos _)
    subst e'
    exact PySem.W.kat_nil q
  | _, _, _, _, .cons n t h, .nil, i, fin, e, q => by
    have e' : fin = false := by rw [e]; exact decide_eq_false (Nat.not_lt_zero _)
    subst e'
    exact PySem.W.kat_nil q
  | _, _, _, _, .cons n t h, .cons m u h', i, fin, e, q => by
    refine PySem.W.kat_cons (SeqAt.EqAt.int_int n t m u prog w _ _ (PySem.W.kat_go (fun e1 => ?_) fun e1 => ?_))
    · have en : n = m := by simpa using e1
      refine PySem.W.kat_yes (kat_ints h h' (i + 1) fin ?_ ?_)
      · rw [e, List.length_cons, List.length_cons]
        exact decide_eq_decide.mpr (by omega)
      · have q' : Q (if n = m then lexL _ _ else decide (n < m)) s := q
        rw [if_pos en] at q'
        exact q'
    · have en : ¬ n = m := by simpa using e1
      have q' : Q (if n = m then lexL _ _ else decide (n < m)) s := q
      rw [if_neg en] at q'
      refine PySem.W.kat_no ?_
      cases hb : (true && i == 0) with
      | true => exact PyProof.Rows.oneLt_int q'
      | false => exact PySem.W.kat_one _ _ (PyProof.Rows.lt_int q')
/-- tuples of at least one int each -/
def TupsNe (h : Heap) (vs : List Value) : Prop := ∀ v ∈ vs, ∃ n ns, TupInts h v (n :: ns)
theorem TupsNe.keeps {h h' : Heap} {vs : List Value} (x : TupsNe h vs) (k : ∀ b o, h.get? b = some o → o.cls = .type "tuple" → h'.get? b = some o) : TupsNe h' vs := fun v hv => by
  obtain ⟨n, ns, t⟩ := x v hv
  exact ⟨n, ns, t.keeps k⟩
theorem firsts_ne {h : Heap} : ∀ vs : List Value, TupsNe h vs → ∃ fs, PySem.W.KatTups h vs fs ∧ fs.length = vs.length ∧ ∀ f ∈ fs, ∃ n t, f = Value.int n t
  | [], _ => ⟨[], .nil, rfl, fun _ z => by cases z⟩
  | v :: vs, x => by
    obtain ⟨fs, k, hl, hi⟩ := firsts_ne vs fun u hu => x u (List.mem_cons_of_mem _ hu)
    obtain ⟨n, ns, a, xs, rfl, ⟨o, ho, hc, ep, hdt⟩, i⟩ := x v List.mem_cons_self
    obtain ⟨y, ys, e⟩ : ∃ y ys, xs.toList = y :: ys := by
      cases q : xs.toList with
      | nil => rw [q] at i; cases i
      | cons y ys => exact ⟨y, ys, rfl⟩
    obtain ⟨m, t, hy⟩ := i.all y (by rw [e]; exact List.mem_cons_self)
    refine ⟨y :: fs, .cons ho hc hdt ?_ k, by simp [hl], fun f hf => ?_⟩
    · have z := congrArg (fun l : List Value => l[0]?) e
      simpa using z
    · rcases List.mem_cons.mp hf with rfl | hf
      · exact ⟨m, t, hy⟩
      · exact hi f hf
theorem tups_sortable {a : Addr} {vs : List Value} (h2 : 2 ≤ vs.length) (x : TupsNe s.heap vs) (ha : ∀ o, s.heap.get? a = some o → o.cls ≠ .type "tuple") (k : Value → List Int) (hk : ∀ v ∈ vs, ∀ ns, TupInts s.heap v ns → k v = ns) :
    SrtO.SortableO prog w A s a vs fun u v => lexL (k u) (k v) := by
  intro h' keep
  have kp : ∀ b o, s.heap.get? b = some o → o.cls = .type "tuple" → h'.get? b = some o := fun b o e c => keep b o (fun z => by subst z; exact ha o e c) e
  obtain ⟨fs, h1, h3, h4⟩ := firsts_ne vs (x.keeps kp)
  refine ⟨tuples' true, fun Q E hq => ?_, fun p q hm hm' => ?_⟩
  · refine PySem.W.kat_kind (T := .type "int") h1 (by omega) (fun f hf => ?_) (by rfl) ?_
    · obtain ⟨n, t, rfl⟩ := h4 f hf
      exact PySem.W.Looks.now
    · have e : (Value.type "int" != Value.type "tuple") = true := by first | decide +kernel | rfl
      rw [e]
      exact hq
  · obtain ⟨n, ns, t1⟩ := x _ hm
    obtain ⟨m, ms, t2⟩ := x _ hm'
    have e1 := hk _ hm _ t1
    have e2 := hk _ hm' _ t2
    obtain ⟨b, xs, eb, ⟨o, ho, _, _, hd⟩, i1⟩ := t1.keeps kp
    obtain ⟨c, ys, ec, ⟨o', ho', _, _, hd'⟩, i2⟩ := t2.keeps kp
    show wpAny _ _ (keyLt' (tuples' true) p.1 q.1) (fun r s' => s' = _ ∧ r = lexL (k p.1) (k q.1)) _ _
    rw [e1, e2, eb, ec]
    refine PySem.W.kat_lt ho hd ho' hd' (kat_ints i1 i2 0 _ ?_ ⟨rfl, rfl⟩)
    have l1 := i1.length
    have l2 := i2.length
    rw [Array.length_toList] at l1 l2
    rw [l1, l2]
end
/-- sorted(xs), xs a list of tuples of ints -/
def rSortedN (K : PySem.W.Frag) : List V → Hp → VK → Prop := fun vs H Q => ∃ (a : Addr) (xs : List V), vs = [V.ref a] ∧ SqL K H a xs ∧ (∀ x ∈ xs, ∃ n ns, TupI K H x (n :: ns)) ∧
  ∀ (ys : List V) (p : Addr), ys.Perm xs → ys.Pairwise (fun x y => ∀ n m, TupI K H x n → TupI K H y m → lexL m n = false) → H p = none → Q (.ref p) (upd H p (.lst ys))
section
variable {X : Cx}
theorem cr_sortedN : CallR X (.builtin "sorted") (rSortedN X.K) := by
  intro pins s σ H vs us Q I r h
  obtain ⟨a, xs, rfl, hs, hx, q⟩ := h
  obtain ⟨its, rv, hl, hz⟩ := I.list hs
  rw [Vals.ref1 r]
  obtain ⟨e1, e2⟩ := bkV_refs rv fun x m => by
    obtain ⟨n, ns, ⟨t, e, _⟩⟩ := hx x m
    exact ⟨t, e⟩
  have tups : TupsNe s.heap its := fun v hv => by
    obtain ⟨t, rfl⟩ := e2 v hv
    obtain ⟨n, ns, ⟨t', e, ht⟩⟩ := hx (.ref t) (by rw [e1]; exact List.mem_map.mpr ⟨_, hv, rfl⟩)
    cases e
    exact ⟨n, ns, tupI_raw I ht⟩
  refine SrtO.sorted_ord (ltv := fun u v => lexL (TS.intsOf s.heap u) (TS.intsOf s.heap v)) ⟨fun _ _ => lexL_asym, fun _ _ _ => lexL_tr⟩ hl.isList (by rw [← rv.length]; exact hz) (fun h2 h1 a' ha' kk => ?_) fun out o1 o2 => ?_
  · refine tups_sortable (s := { s with heap := h1 }) h2 (tups.keeps fun b o e _ => (kk b o e).2) (fun o e => ?_) _ fun v hv ns t => ?_
    · have e' : some o = some (PyProof.Rows.seqObj "list" its.toArray 0) := e.symm.trans ha'
      cases e'
      exact fun c => absurd (Value.type.inj c) (by decide)
    · obtain ⟨m, ms, t0⟩ := tups v hv
      rw [t0.ints]
      exact ((t0.keeps fun b o e _ => (kk b o e).2).ints).symm.trans t.ints
  · obtain ⟨ep, he'⟩ := PyProof.Rows.sortedAll_at s.heap its out.toArray
    have h3 : ∀ u ∈ out, ∃ a, u = Value.ref a := fun u hu => e2 u (o2.perm.mem_iff.mp hu)
    have hp : (out.map bkV).Perm xs := by
      rw [e1]
      exact o2.perm.map bkV
    have hlen : (out.map bkV).length ≤ sizeLine := by
      rw [hp.length_eq]
      exact hz
    refine ⟨.ref _, upd H (s.heap.objs.size + 1) (.lst (out.map bkV)), I.laid (t' := s.toks) (fun _ _ => PyProof.Rows.sortedAll_old) (Nat.le_succ _) ⟨hlen, out, ep, bkV_vals h3, he'⟩, rfl, q _ _ hp ?_ (I.hok.fresh (Nat.le_succ _))⟩
    rw [List.pairwise_map]
    refine List.Pairwise.imp (fun {u v} huv n m hn hm => ?_) o1
    obtain ⟨t, et, ht⟩ := hn
    obtain ⟨t', et', ht'⟩ := hm
    have eu := bkV_ref et
    have ev := bkV_ref et'
    have i1 : TS.intsOf s.heap u = n := by rw [eu]; exact (tupI_raw I ht).ints
    have i2 : TS.intsOf s.heap v = m := by rw [ev]; exact (tupI_raw I ht').ints
    rw [← i1, ← i2]
    exact huv
end
/-! ### the mirror's sorted -/
def tupInts : PyData → Option (List Int)
  | .tuple ds => match intsD ds with
    | some (n :: ns) => some (n :: ns)
    | _ => none
  | _ => none
def tupsInts : List PyData → Option (List (List Int))
  | [] => some []
  | d :: ds => match tupInts d, tupsInts ds with
    | some n, some ns => some (n :: ns)
    | _, _ => none
def tupOf (ns : List Int) : PyData := .tuple (ns.map PyData.int)
theorem tupInts_some {d : PyData} {ns : List Int} (h : tupInts d = some ns) : d = tupOf ns ∧ ∃ n r, ns = n :: r := by
  unfold tupInts at h
  split at h
  · rename_i ds
    split at h
    · rename_i n r e
      cases h
      exact ⟨by rw [intsD_some e] <;> rfl, n, r, rfl⟩
    · cases h
  · cases h
theorem tupsInts_some : ∀ {ds : List PyData} {ns : List (List Int)}, tupsInts ds = some ns → ds = ns.map tupOf ∧ ∀ n ∈ ns, ∃ m r, n = m :: r
  | [], ns, h => by
    cases h
    exact ⟨rfl, fun _ z => by cases z⟩
  | d :: ds, ns, h => by
    unfold tupsInts at h
    cases h1 : tupInts d with
    | none => rw [h1] at h; cases h
    | some n =>
      cases h2 : tupsInts ds with
      | none => rw [h1, h2] at h; cases h
      | some r =>
        rw [h1, h2] at h
        cases h
        obtain ⟨e1, e2⟩ := tupInts_some h1
        obtain ⟨e3, e4⟩ := tupsInts_some h2
        refine ⟨by rw [List.map_cons, ← e1, ← e3], fun m hm => ?_⟩
        rcases List.mem_cons.mp hm with rfl | hm
        · exact e2
        · exact e4 m hm
theorem tupsInts_map : ∀ {ns : List (List Int)}, (∀ n ∈ ns, n ≠ []) → tupsInts (ns.map tupOf) = some ns
  | [], _ => rfl
  | n :: ns, h => by
    have h1 : tupInts (tupOf n) = some n := by
      unfold tupInts tupOf
      dsimp only
      rw [intsD_map]
      cases n with
      | nil => exact absurd rfl (h [] List.mem_cons_self)
      | cons _ _ => rfl
    rw [List.map_cons, tupsInts, h1, tupsInts_map fun m hm => h m (List.mem_cons_of_mem _ hm)]
/-- a list of ints, or a list of tuples of ints -/
def gSorted : List PyData → Option Sl
  | [.list ds] => match intsD ds with
    | some ns => some (.lst ((srtI ns).map PyData.int))
    | none => (tupsInts ds).map fun ns => .lst ((srtL ns).map tupOf)
  | _ => none
section
variable {K : KW}
theorem RAll.perm {H : Hp} : ∀ {ys xs : List V}, ys.Perm xs → ∀ {ds : List PyData}, RAll K H xs ds → ∃ es, es.Perm ds ∧ RAll K H ys es := by
  intro ys xs p
  induction p with
  | nil => exact fun {ds} r => ⟨ds, List.Perm.refl _, r⟩
  | cons x p ih =>
    intro ds r
    cases r with
    | cons r1 r2 =>
      obtain ⟨es, p1, r3⟩ := ih r2
      exact ⟨_ :: es, p1.cons _, .cons r1 r3⟩
  | swap x y l =>
    intro ds r
    cases r with
    | cons r1 r2 =>
      cases r2 with
      | cons r2 r3 => exact ⟨_, List.Perm.swap _ _ _, .cons r2 (.cons r1 r3)⟩
  | trans p1 p2 ih1 ih2 =>
    intro ds r
    obtain ⟨es, q1, r1⟩ := ih2 r
    obtain ⟨fs, q2, r2⟩ := ih1 r1
    exact ⟨fs, q2.trans q1, r2⟩
theorem R.tupI {H : Hp} {x : V} {ns : List Int} (r : R K H x (tupOf ns)) : TupI K H x ns := by
  unfold tupOf at r
  cases r with
  | tup h1 h2 => exact ⟨_, rfl, by rw [← h2.ints]; exact h1⟩
theorem RAll.tupIs {H : Hp} : ∀ {xs : List V} {ns : List (List Int)}, RAll K H xs (ns.map tupOf) → ∀ x ∈ xs, ∃ n ∈ ns, TupI K H x n
  | _, [], r, x, hx => by cases r; cases hx
  | _, n :: ns, r, x, hx => by
    cases r with
    | cons r1 r2 =>
      rcases List.mem_cons.mp hx with rfl | hx
      · exact ⟨n, List.mem_cons_self, r1.tupI⟩
      · obtain ⟨m, hm, t⟩ := RAll.tupIs r2 x hx
        exact ⟨m, List.mem_cons_of_mem _ hm, t⟩
theorem RAll.asc {H : Hp} : ∀ {ys : List V} {ns : List (List Int)}, RAll K H ys (ns.map tupOf) → ys.Pairwise (fun x y => ∀ n m, TupI K H x n → TupI K H y m → lexL m n = false) → Asc lexL ns
  | _, [], r, _ => List.Pairwise.nil
  | _, n :: ns, r, p => by
    cases r with
    | cons r1 r2 =>
      obtain ⟨p1, p2⟩ := List.pairwise_cons.mp p
      refine List.pairwise_cons.mpr ⟨fun m hm => ?_, RAll.asc r2 p2⟩
      obtain ⟨j, hj, e⟩ := List.getElem_of_mem hm
      obtain ⟨v, hv, rv⟩ := r2.get j (d := tupOf m) (by rw [List.getElem?_map, List.getElem?_eq_getElem hj, e] <;> rfl)
      exact p1 v (List.mem_of_getElem? hv) n m r1.tupI rv.tupI
theorem perm_of_map {α β : Type} {f : α → β} : ∀ {es : List β} {ns : List α}, es.Perm (ns.map f) → ∃ ns' : List α, ns'.Perm ns ∧ es = ns'.map f := by
  intro es ns p
  generalize hm : ns.map f = ms at p
  induction p generalizing ns with
  | nil =>
    cases ns with
    | nil => exact ⟨[], List.Perm.refl _, rfl⟩
    | cons _ _ => cases hm
  | cons x p ih =>
    cases ns with
    | nil => cases hm
    | cons n ns =>
      rw [List.map_cons] at hm
      injection hm with h1 h2
      obtain ⟨r, q, e⟩ := ih h2
      exact ⟨n :: r, q.cons n, by rw [List.map_cons, h1, e]⟩
  | swap x y l =>
    match ns, hm with
    | n :: m :: ns, hm =>
      rw [List.map_cons, List.map_cons] at hm
      injection hm with h1 h2
      injection h2 with h2 h3
      exact ⟨m :: n :: ns, List.Perm.swap _ _ _, by rw [List.map_cons, List.map_cons, h1, h2, h3]⟩
  | trans p1 p2 ih1 ih2 =>
    obtain ⟨r, q, e⟩ := ih2 hm
    obtain ⟨t, q2, e2⟩ := ih1 e.symm
    exact ⟨t, q2.trans q, e2⟩
theorem TupI.up {O : List Addr} {H : Hp} {x : V} {n : List Int} (h : TupI K (hide O H) x n) : TupI K H x n := by
  obtain ⟨t, e, q⟩ := h
  exact ⟨t, e, (hide_ex O H).t q⟩
def rSortedA (K : PySem.W.Frag) : List V → Hp → VK → Prop := fun vs H Q => rSortedI K vs H Q ∨ rSortedN K vs H Q
theorem cr_sortedA {X : Cx} : CallR X (.builtin "sorted") (rSortedA X.K) := CallR.or cr_sortedI cr_sortedN
theorem gSorted_ok : CX_ K (rSortedA K) gSorted := by
  intro O H vs ds s Q th rp h q
  unfold gSorted at h
  split at h
  · rename_i ds0
    obtain ⟨v, rfl, r⟩ := rp.one
    obtain ⟨p, us, rfl, h1, h2⟩ := r.lst
    cases hi : intsD ds0 with
    | some ns =>
      rw [hi] at h
      cases h
      obtain rfl := intsD_some hi
      have e := h2.ints
      subst e
      refine .inl ⟨p, ns, rfl, h1, fun ns' b pm asc hb => ?_⟩
      rw [srtI_eq pm asc]
      exact q _ b _ (Ex.new hb) hb upd_same (show RAll _ _ _ _ from RAll.ofInts _)
    | none =>
      rw [hi] at h
      cases hn : tupsInts ds0 with
      | none => rw [hn] at h; cases h
      | some ns =>
        rw [hn] at h
        cases h
        obtain ⟨rfl, ne⟩ := tupsInts_some hn
        refine .inr ⟨p, us, rfl, h1, fun x hx => ?_, fun ys b pm asc hb => ?_⟩
        · obtain ⟨n, hm, t⟩ := RAll.tupIs h2 x hx
          obtain ⟨m, r, rfl⟩ := ne n hm
          exact ⟨m, r, TupI.up t⟩
        · obtain ⟨es, p1, r1⟩ := RAll.perm pm h2
          obtain ⟨ns', p2, rfl⟩ := perm_of_map p1
          have a1 : Asc lexL ns' := RAll.asc r1 (asc.imp fun {x y} k n m t1 t2 => k n m (TupI.up t1) (TupI.up t2))
          rw [srtL_eq p2 a1] at r1
          exact q _ b _ (Ex.new hb) hb upd_same (show RAll _ _ _ _ from r1)
  · cases h
end
end Am

/-! Am12: repr; the law's head. -/
namespace Am
open PySem L2 PySem.Spec

/-! ### repr -/
section
variable {X : Cx} {pins : List (Addr × Obj)} {σ : St} {H : Hp} {s : Shared}
mutual
theorem R.reads (I : Inv X pins σ H s) : ∀ (d : PyData) {v : V} {u : Value}, d.hasDict = false → R X.K H v d → RelV v u → ∃ as, Reads s.heap u d as
  | .none, v, u, _, r, e => by
    cases r
    cases e
    exact ⟨[], .none⟩
  | .bool b, v, u, _, r, e => by
    cases r
    cases e
    exact ⟨[], .bool b⟩
  | .int i, v, u, _, r, e => by
    cases r
    obtain ⟨t, rfl⟩ := e
    exact ⟨[], .int i t⟩
  | .str x, v, u, _, r, e => by
    cases r
    obtain ⟨t, rfl⟩ := e
    exact ⟨[], .str x t⟩
  | .list ds, v, u, hd, r, e => by
    cases r with
    | lst h1 h2 =>
      cases e
      obtain ⟨its, rv, pl, _⟩ := I.list h1
      obtain ⟨o, ho, hc, n, hdt⟩ := pl.isList
      obtain ⟨as, q⟩ := RAll.reads I ds hd h2 rv
      exact ⟨_, .list ho hc hdt (by simpa using q)⟩
  | .tuple ds, v, u, hd, r, e => by
    cases r with
    | tup h1 h2 =>
      cases e
      obtain ⟨its, rv, ⟨o, ho, hc, n, hdt⟩, _⟩ := I.tuple h1
      obtain ⟨as, q⟩ := RAll.reads I ds hd h2 rv
      exact ⟨_, .tuple ho hc hdt (by simpa using q)⟩
  | .dict kv, v, u, hd, r, e => by cases hd
theorem RAll.reads (I : Inv X pins σ H s) : ∀ (ds : List PyData) {vs : List V} {us : List Value}, PyData.hasDictAll ds = false → RAll X.K H vs ds → Vals vs us → ∃ as, ReadsAll s.heap us ds as
  | [], vs, us, _, r, e => by
    cases r
    cases e
    exact ⟨[], .nil⟩
  | d :: ds, vs, us, hd, r, e => by
    have hd' : (d.hasDict || PyData.hasDictAll ds) = false := hd
    have hd2 := Bool.or_eq_false_iff.mp hd'
    cases r with
    | cons r1 r2 =>
      cases e with
      | cons e1 e2 =>
        obtain ⟨as, q1⟩ := R.reads I d hd2.1 r1 e1
        obtain ⟨bs, q2⟩ := RAll.reads I ds hd2.2 r2 e2
        exact ⟨_, .cons q1 q2⟩
end
end
def canRepr (d : PyData) : Bool := d.showable && !d.hasDict && decide (d.depth ≤ 60) && decide (d.shown.length ≤ lineN)
def gRepr : List PyData → Option PyData
  | [d] => if canRepr d then some (.str d.shown) else none
  | _ => none
def rRepr (K : PySem.W.Frag) : List V → Hp → VK → Prop := fun vs H Q => ∃ v d, vs = [v] ∧ R K H v d ∧ canRepr d = true ∧ Q (.str d.shown) H
theorem shown_boolS (b : Bool) : PyData.shown (.bool b) = (if b then ("True" : Str) else "False") := by cases b <;> rfl
section
variable {X : Cx}
theorem call_repr {k : Nat} (hr : Room k X.A) (gd : X.A.guards = some []) : CallR X (.builtin "repr") (rRepr X.K) := by
  intro pins s σ H vs us Q I rel h
  obtain ⟨v, d, rfl, r, ok, q⟩ := h
  obtain ⟨u, rfl, ru⟩ := vals1 rel
  simp only [canRepr, Bool.and_eq_true, Bool.not_eq_true', decide_eq_true_eq] at ok
  obtain ⟨⟨⟨k1, k2⟩, k3⟩, k4⟩ := ok
  have k4' : d.shown.length ≤ sizeLine := by rw [line_eq]; exact k4
  obtain ⟨as, rd⟩ := R.reads I d k2 r ru
  have un := hr.units
  have nest : ∀ a, u = .ref a → wpAny (model X.prog X.w) X.A (call (.builtin "repr") [u]) (EP X pins σ Q) X.xe s := fun a e => by
    subst e
    exact repr_of_reads' rd k1 (PyData.noDict_hsm k2) gd (by omega) (fun _ _ e => e) (fun h' t tk kp => ⟨.str d.shown, H, I.kept kp, ⟨t, rfl⟩, q⟩) k4'
  cases r with
  | non =>
    cases ru
    exact P.repr_of_none ⟨.str _, H, I.tok _, ⟨_, rfl⟩, q⟩
  | bl b =>
    cases ru
    exact P.repr_of_bool (b := b) ⟨.str _, H, I.tok _, ⟨_, rfl⟩, by rw [← shown_boolS]; exact q⟩
  | int i =>
    obtain ⟨t, rfl⟩ := ru
    exact P.repr_of_int (by simpa [PyData.showable] using k1) ⟨.str _, H, I.tok _, ⟨_, rfl⟩, q⟩
  | str x =>
    obtain ⟨t, rfl⟩ := ru
    exact P.repr_of_str ⟨.str _, H, I.tok _, ⟨_, rfl⟩, q⟩ k4'
  | lst h1 h2 => cases ru; exact nest _ rfl
  | tup h1 h2 => cases ru; exact nest _ rfl
  | dic0 h1 => cases k2
end
theorem gRepr_ok {K : KW} : CD_ K (rRepr K) gRepr := by
  intro O H vs ds d Q th rp h q
  unfold gRepr at h
  split at h
  · rename_i d0
    split at h
    · rename_i ok
      cases h
      obtain ⟨v, rfl, r⟩ := rp.one
      exact ⟨v, d0, rfl, r.full, ok, q _ _ (Ex.refl _) (.str _)⟩
    · cases h
  · cases h

/-! ### the law's head -/
section
open PySem.W
open PyProof.Rows (AllBare)
variable {P : Program} {w : World} {K : PySem.W.Frag} {mg mb : Str → Option Value} {CX : CXT} {k : Nat} {fa a : Addr} {fd : FuncData} {x : Str} {sp : Sp} {s1 : Shared} {vs : List Value} {ns : List Int}
theorem law_callG (kin : K.In s1.heap) (gs : s1.heap.Ns mainGlobals mg) (bs : s1.heap.Ns builtinsNs mb) (boot : ∀ y : Str, y ≠ "__name__" → mb y = bootBuiltins y) (lim : s1.heap.NoLimit) (gens : s1.gens = #[])
    (at_a : s1.heap.get? a = some { cls := .type "list", data := .seq vs.toArray }) (areInts : PyProof.Rows.IntsAre vs ns) (short : ns.length ≤ sizeLine) (room : Room k callerA)
    (F : ∀ base : Heap, K.In base → base.Ns mainGlobals mg → FnG P w K mg base CX k fa fd [x] sp) (bd : ∀ (s : Shared) (u : Value), BindsTo s fd ⟨[u], []⟩ [(x, u)])
    (go : ∀ H : Hp, Only H → SqL K H a (ns.map V.int) → sp [.ref a] H (fun v _ => v = .bl true) fun _ _ _ => False) (never : ∀ H e s', CX [] H s1 (fun _ _ _ => False) e s' → False) :
    codeAny (model P w) callerA (.call (.ref fa) ⟨[.ref a], []⟩) (fun r s' => r = .ok (.ret (.bool true)) ∧ OldK s1.heap s'.heap ∧ s'.os = s1.os ∧ AllBare s'.gens) s1 := by
  have rv := vals_ints areInts
  -- the heap that is told: the script alone, where the top has not written it
  have run : ∀ H : Hp, Only H → SqL K H a (ns.map V.int) → HOk P w H s1.heap → (∀ b, H b ≠ none → b = a ∧ K.lookup a = none) →
      codeAny (model P w) callerA (.call (.ref fa) ⟨[.ref a], []⟩) (fun r s' => r = .ok (.ret (.bool true)) ∧ OldK s1.heap s'.heap ∧ s'.os = s1.os ∧ AllBare s'.gens) s1 := by
    intro H only sq hok lone
    have toBase : ∀ {b : Addr} {o : Obj}, s1.heap.get? b = some o → H b = none → (hidT s1.heap H).get? b = some o := fun e n => hidT_get e n
    have untold : ∀ {b : Addr} {o : Obj}, s1.heap.get? b = some o → (∀ q, o.data ≠ .seq vs.toArray q) → H b = none := fun {b o} e nd => by
      cases q : H b with
      | none => rfl
      | some u =>
        obtain ⟨rfl, _⟩ := lone b (by rw [q]; exact fun z => nomatch z)
        rw [at_a] at e
        cases e
        exact absurd rfl (nd _)
    have ns1 : ∀ {b : Addr} {m : Str → Option Value}, s1.heap.Ns b m → (hidT s1.heap H).Ns b m := fun {b m} ⟨o, es, ep, e, d, r⟩ => ⟨o, es, ep, toBase e (untold e fun q z => by rw [d] at z; cases z), d, r⟩
    have kin1 : K.In (hidT s1.heap H) := fun b o e => toBase (kin b o e) (by
      cases q : H b with
      | none => rfl
      | some u =>
        obtain ⟨rfl, z⟩ := lone b (by rw [q]; exact fun z => nomatch z)
        rw [z] at e
        cases e)
    have env : Env0 P w K mg (hidT s1.heap H) callerA [] s1 H := by
      refine ⟨rfl, ⟨kin1, ns1 gs, ⟨mb, ns1 bs, boot⟩, ?_⟩, fun b o e => of_hidT e, Nat.le_of_eq (hidT_size _ _), trivial, (fun b hb => by cases hb), hok, .of_eq gens⟩
      obtain ⟨mc, l1, l2⟩ := lim
      exact ⟨mc, ns1 l1, l2⟩
    refine codeAny_mono ((F _ kin1 (ns1 gs)).run callerA [] s1 H _ [.ref a] [.ref a] _ _ room rfl env (bd s1 (.ref a)) (.cons rfl .nil) (go H only sq)) ?_
    rintro (e | fl) s2 hq
    · exact (never H e s2 hq).elim
    · cases fl with
      | ret u =>
        obtain ⟨v, H2, os, bare, un, hok2, rel, rfl⟩ := hq
        cases rel
        refine ⟨rfl, OldK.of_keep fun b o e => ?_, os, bare⟩
        rcases only b with n | ⟨ob, xs, t⟩
        · exact un.keep b o e n (fun z => nomatch z) fun z => nomatch z
        · obtain ⟨e1, _⟩ := hok b _ t
          obtain ⟨e2, _⟩ := hok2 b _ (un.frzs b ob _ t)
          rw [e] at e1
          cases e1
          exact e2
      | _ => exact hq.elim
  have hz : (ns.map V.int).length ≤ sizeLine := by rw [List.length_map]; exact short
  cases hk : K.lookup a with
  | some o =>
    have e := kin a o hk
    rw [at_a] at e
    cases e
    exact run (fun _ => none) (fun _ => .inl rfl) (.inr ⟨_, vs.toArray, _, hk, rfl, rfl, rfl, by rw [List.size_toArray, areInts.length]; exact short, by simpa using rv⟩) (fun b u z => nomatch z) fun b z => absurd rfl z
  | none =>
    have ne : ∀ {b : Addr} {u : HO}, (if b = a then some (HO.frz { cls := .type "list", data := .seq vs.toArray } (.lst (ns.map V.int))) else none) = some u → b = a ∧ u = .frz { cls := .type "list", data := .seq vs.toArray } (.lst (ns.map V.int)) := fun {b u} z => by
      split at z
      · cases z
        exact ⟨by assumption, rfl⟩
      · cases z
    refine run (fun b => if b = a then some (HO.frz { cls := .type "list", data := .seq vs.toArray } (.lst (ns.map V.int))) else none) (fun b => ?_) (.inl (.inr ⟨_, if_pos rfl⟩)) (fun b u z => ?_) fun b z => ?_
    · by_cases hb : b = a
      · exact .inr ⟨_, _, if_pos hb⟩
      · exact .inl (if_neg hb)
    · obtain ⟨rfl, rfl⟩ := ne z
      exact ⟨at_a, hz, vs, _, rv, at_a⟩
    · by_cases hb : b = a
      · exact ⟨hb, hk⟩
      · exact absurd (if_neg hb) z
end
/-- a law's def: it takes a list of ints; its mirror gives True -/
def spLaw (K : KW) (body : M Fl) (n : Nat) : Sp := fun vs H Q _ => ∃ (a : Addr) (ns : List Int), vs = [.ref a] ∧ SqL K.k H a (ns.map V.int) ∧ Only H ∧ fnD n body [.list (ns.map PyData.int)] = some (.ok (.dat (.bool true))) ∧ ∀ H', Q (.bl true) H'
theorem spLaw_D {K : KW} {body : M Fl} {n : Nat} {vs : List V} {H : Hp} {Q : VK} {E : XK} (h : spLaw K body n vs H Q E) : spD K (fnD n body) 1 vs H Q E := by
  obtain ⟨a, ns, rfl, hS, only, hb, k⟩ := h
  have hh : hide [] H = H := by
    funext b
    unfold hide
    rw [if_neg (by simp)]
  refine ⟨rfl, [], _, _, (fun p hp => by cases hp), RAll.cons (R.lst (by rw [hh]; exact hS) (RAll.ofInts ns)) RAll.nil, hb, fun H' v ex r => ?_⟩
  cases r
  exact k H'
theorem FnG.imp {P : Program} {w : World} {K : PySem.W.Frag} {mg : Str → Option Value} {base : Heap} {CX : CXT} {k : Nat} {f : Addr} {fd : FuncData} {ps : List Str} {sp sp' : Sp} (F : FnG P w K mg base CX k f fd ps sp)
    (h : ∀ vs H Q E, sp' vs H Q E → sp vs H Q E) : FnG P w K mg base CX k f fd ps sp' :=
  ⟨fun vs H Q E q => F.len vs H Q E (h _ _ _ _ q), fun A fr s0 H ar us vs Q E hr gd e0 hb hv hs => F.run A fr s0 H ar us vs Q E hr gd e0 hb hv (h _ _ _ _ hs)⟩
theorem walkG {l : PySem.W.OpenLaw} {n k : Nat} {q : Program} {loose : List Str} {XP : (Str → Option Value) → Heap → Prop} {YP : World → Heap → Prop} {d : DefRec} {K : Params → PySem.W.Frag} {CX : World → CXT} {body : M Fl} {sn : Nat} {x : Str}
    (most : l.most = some n) (fits : n ≤ sizeLine) (nodef : d.params.defaults = []) (room : Room k callerA) (inK : ∀ (w : World) (h : Heap), YP w h → (K w.params).In h)
    (F : ∀ (w : World) (mg : Str → Option Value) (fa : Addr) (h : Heap), (K w.params).In h → h.Ns mainGlobals mg → mg d.name = some (.ref fa) →
      ∃ fd : FuncData, (∀ (s : Shared) (u : Value), BindsTo s fd ⟨[u], []⟩ [(x, u)]) ∧
        ∀ base : Heap, (K w.params).In base → base.Ns mainGlobals mg → FnG l.prog w (K w.params) mg base (CX w) k fa fd [x] (spD ⟨K w.params, w⟩ (fnD sn body) 1))
    (law : ∀ ns : List Int, ns.length ≤ n → fnD sn body [.list (ns.map PyData.int)] = some (.ok (.dat (.bool true)))) (never : ∀ (w : World) (H : Hp) (s : Shared) (e : Value) (s' : Shared), CX w [] H s (fun _ _ _ => False) e s' → False) :
    PySem.W.WalkO q loose XP YP l.row.toRowW d [] (fun f vs => PySem.call f vs) := by
  refine Att.attach_call most nodef fun w s0 s1 mg mb fa o pm cd doc a vs ns G Y ho hd hcd hmg hobj hints hlen hg => ?_
  have kin := inK w _ Y
  obtain ⟨fd, bd, hF⟩ := F w mg fa _ kin G.T.g hmg
  exact law_callG (sp := spLaw ⟨K w.params, w⟩ body sn) kin G.T.g G.T.b G.T.builtins G.T.nolimit hg hobj hints (Nat.le_trans hlen fits) room (fun base b1 b2 => (hF base b1 b2).imp fun _ _ _ _ => spLaw_D) bd
    (fun H only sq => ⟨a, ns, rfl, sq, only, law ns hlen, fun _ => rfl⟩) fun H e s' => never w H s1 e s'
end Am

/-! Am13: what the printed walks use besides. -/
namespace Am
open PySem L2 PySem.Spec

section
variable {X : Cx} {W : WX}
/-- + of any kind -/
def gPlus : G2 := fun d e => match d, e with
  | .list xs, .list ys => gCat (.list xs) (.list ys)
  | d, e => (gAdd d e).map Sl.dat
def rPlus (K : KW) : R2 := fun x y H Q => rAddA K x y H Q ∨ (∃ l b xs zs, x = .ref l ∧ y = .ref b ∧ SqL K H l xs ∧ SqL K H b zs ∧ xs.length + zs.length ≤ sizeLine ∧ ∀ p, H p = none → Q (.ref p) (upd H p (.lst (xs ++ zs))))
theorem op_plus : OpR X (binaryOp .Add) (rPlus X.kw) := OpR.or op_addA op_catS
theorem gPlus_ok {K : KW} : OpX K (rPlus K) gPlus := by
  intro O H x y d e s Q th rx ry hg q
  unfold gPlus at hg
  split at hg
  · exact .inr (gCat_ok O H x y _ _ s Q th rx ry hg q)
  · cases hd : gAdd d e with
    | none => rw [hd] at hg; cases hg
    | some z =>
      rw [hd] at hg
      cases hg
      exact .inl (gAdd_ok O H x y d e z Q th rx ry hd q)
/-- nothing is said of it: the mirror does not come here -/
theorem ms_no {st : Stmt} : PSM X W st M.fail := ⟨fun pins s σ H D I ⟨G, O, a, _, x, e, _⟩ => by cases e⟩
theorem ms_noS {st : List Stmt} : PSsM X W st M.fail := ⟨fun pins s σ H D I ⟨G, O, a, _, x, e, _⟩ => by cases e⟩
theorem pv0 {E : St → XK} : ∀ σ, PassesAt CX0 X σ (E σ) := fun _ _ _ _ _ _ _ h => h.elim
end
/-! ### how many arguments -/
def Ln {γ : Type} (n : Nat) (m : M (List γ)) : Prop := ∀ a ds a', m a = some (.ok ds, a') → ds.length = n
theorem ln_nil : Ln 0 (M.pure ([] : List PyData)) := fun a ds a' h => by
  cases h
  rfl
theorem ln_cons {n : Nat} {m : M PyData} {r : M (List PyData)} (h : Ln n r) : Ln (n + 1) (mDs m r) := fun a ds a' e => by
  unfold mDs M.bind at e
  cases h1 : m a with
  | none => rw [h1] at e; cases e
  | some x =>
    obtain ⟨x1, a1⟩ := x
    rw [h1] at e
    cases x1 with
    | error er => cases e
    | ok d =>
      dsimp only at e
      cases h2 : r a1 with
      | none => rw [h2] at e; cases e
      | some y =>
        obtain ⟨y1, a2⟩ := y
        rw [h2] at e
        cases y1 with
        | error er => cases e
        | ok es =>
          cases e
          rw [List.length_cons, h _ _ _ h2]
theorem ln_io {n : Nat} {m : M (List PyData)} (h : Ln n m) : ∀ a ds a', m a = some (.ok ds, a') → ds.length + 1 = n + 1 := fun a ds a' e => by rw [h a ds a' e]
/-- x += e, x an int -/
abbrev gAddI : D2 := gI0 fun i j => i + j
section
variable {K : KW}
theorem gIn_addI : OpD K (ipI fun i j => i + j) gAddI := by
  intro O H x y d e s Q th rx ry hg q
  unfold gAddI gI0 at hg
  split at hg
  · cases hg
    rw [rx.int, ry.int]
    exact ⟨_, _, rfl, rfl, out_same q (.int _)⟩
  · cases hg
theorem gIn_subI : OpD K (ipI fun i j => i - j) gSub := by
  intro O H x y d e s Q th rx ry hg q
  unfold gSub gI0 at hg
  split at hg
  · cases hg
    rw [rx.int, ry.int]
    exact ⟨_, _, rfl, rfl, out_same q (.int _)⟩
  · cases hg
end
/-! ### == of texts and of data -/
def gEqA : B2 := fun d e => match d, e with
  | .str x, .str y => some (decide (x = y))
  | d, e => gEq d e
def gNeA : B2 := fun d e => (gEqA d e).map not
section
variable {X : Cx} {K : KW}
def rEqA (K : PySem.W.Frag) : R2 := fun x y H Q => rEq x y H Q ∨ rEqD K x y H Q
def rNeA (K : PySem.W.Frag) : R2 := fun x y H Q => rNe x y H Q ∨ rNeD K x y H Q
theorem op_eqA (hu : X.A.units + 64 < cLine) : OpR X (compareOp .Eq) (rEqA X.K) := OpR.or op_eq (op_eqD hu)
theorem op_neA (hu : X.A.units + 64 < cLine) : OpR X (compareOp .NotEq) (rNeA X.K) := OpR.or op_ne (op_neD hu)
theorem dec_strV (x y : Str) : decide (V.str x = V.str y) = decide (x = y) := decide_eq_decide.mpr ⟨fun e => (V.str.inj e), fun e => by rw [e]⟩
theorem gEqA_ok : OpB K (rEqA K) gEqA := by
  intro O H x y d e s Q th rx ry hg q
  unfold gEqA at hg
  split at hg
  · cases hg
    rw [rx.str, ry.str]
    exact .inl ⟨rfl, by rw [dec_strV]; exact q H (Ex.refl _)⟩
  · exact .inr (gEq_ok O H x y d e s Q th rx ry hg q)
theorem gNeA_ok : OpB K (rNeA K) gNeA := by
  intro O H x y d e s Q th rx ry hg q
  unfold gNeA gEqA at hg
  split at hg
  · cases hg
    rw [rx.str, ry.str]
    exact .inl ⟨rfl, by rw [dec_strV]; exact q H (Ex.refl _)⟩
  · exact .inr (gNe_ok O H x y d e s Q th rx ry hg q)
end
end Am

/-! Am14: defs that let no exception out; global constants. -/
namespace Am
open PySem L2 PySem.Spec
open PyProof.Rows (envOfC)

section
variable {P : Program} {w : World} {K : PySem.W.Frag} {mg : Str → Option Value} {base : Heap} {CX : CXT} {k : Nat} {f : Addr} {fd : FuncData} {x qual : Str} {st : Stmt} {N ps : List Str} {body : M Fl}
theorem okD0 (F : Fun K x qual st f fd) (S : FnScope N ps (defScope st)) (hn : ps.length ≤ N.length)
    (hb : ∀ (cdv : Value) (A : Around) (fr : List Env) (s : Shared) (H : Hp) (E : XK), Room k (A.deeper (dfnEnv qual st f cdv s)) → A.guards = some [] →
      PSsM (cxOf CX P w K mg base N qual (defScope st) f cdv A fr s H E).nox (WXE E) (defBody st) body) : FnG P w K mg base CX (k + 1) f fd ps (spD ⟨K, w⟩ (fnD N.length body) ps.length) :=
  okD F S hn fun cdv A fr s H E hr gd => PSs.nox (hb cdv A fr s H E hr gd)
theorem okI0 (F : Fun K x qual st f fd) (S : FnScope N ps (defScope st)) (hn : ps.length ≤ N.length)
    (hb : ∀ (cdv : Value) (A : Around) (fr : List Env) (s : Shared) (H : Hp) (E : XK), Room k (A.deeper (dfnEnv qual st f cdv s)) → A.guards = some [] →
      PSsM (cxOf CX P w K mg base N qual (defScope st) f cdv A fr s H E).nox (WXE E) (defBody st) body) : FnG P w K mg base CX (k + 1) f fd ps (spI ⟨K, w⟩ (fnI N.length body) ps.length) :=
  okI F S hn fun cdv A fr s H E hr gd => PSs.nox (hb cdv A fr s H E hr gd)
end
section
variable {X : Cx} {W : WX} {x : Str} {pos : Pos}
theorem pd_gint {n : Int} (hg : Gl X x) (h : ∃ t, X.mg x = some (.int n t)) (hd : (x == ("__debug__" : Str)) = false := by decide) : PD X W (.Name x pos) (M.pure (.int n)) := by
  obtain ⟨t, ht⟩ := h
  exact pd_glob (v := .int n) hg ht ⟨t, rfl⟩ (fun _ => .int n) hd
theorem pd_gstr {n : Str} (hg : Gl X x) (h : ∃ t, X.mg x = some (.str n t)) (hd : (x == ("__debug__" : Str)) = false := by decide) : PD X W (.Name x pos) (M.pure (.str n)) := by
  obtain ⟨t, ht⟩ := h
  exact pd_glob (v := .str n) hg ht ⟨t, rfl⟩ (fun _ => .str n) hd
end
/-- the turns that a while may take here -/
def fuel : Nat := 100000
end Am

namespace LawK02
/-! the walk of berths_k02_steady_state, printed by gen.py -/
open PySem L2 Am
def top (i : Nat) : Stmt := PySem.Challenge.pw_berths_k02_steady_state.main.body.getD i (.Pass ⟨0, 0, 0, 0⟩)
abbrev s_is_int : Stmt := top 11
abbrev s_day_events : Stmt := top 14
abbrev s_count_at_midnight : Stmt := top 15
abbrev s_law_bag : Stmt := top 24
abbrev s_law_pick : Stmt := top 25
abbrev s_law_events : Stmt := top 27
abbrev s_law_here : Stmt := top 29
abbrev s_in_range : Stmt := top 12
abbrev s_counts : Stmt := top 16
abbrev s_law_table : Stmt := top 26
abbrev s_law_levels : Stmt := top 28
abbrev s_law_long_table : Stmt := top 30
abbrev s_is_ship : Stmt := top 13
abbrev s_peak_of : Stmt := top 17
abbrev s_is_table : Stmt := top 18
abbrev s_require_table : Stmt := top 19
abbrev s_peak : Stmt := top 20
abbrev s_low : Stmt := top 21
abbrev s_present : Stmt := top 22
abbrev s_law : Stmt := top 31
def N_is_int : List Str := ["value"]
def m_is_int : M Fl :=
 (mRet (mX (mAndV (mU (mV 0) (isiD "int")) (mNotV (mU (mV 0) (isiD "bool"))))))
abbrev F_is_int : FnD := fnD 1 m_is_int
def m_day_events_l0 : M PyData :=
 (mTup (mDs (mVD 6) (mDs (mVD 10) (mDs (mU (mV 11) gNeg) (mDs (mVD 5) (M.pure []))))))
def m_day_events_l1 : M Fl :=
 (mSeq (mAsgT (Tgt.tp [(Tgt.nm 8), (Tgt.nm 9)]) (mCall (mHs (mH (mB (mV 6) (mV 7) gAdd)) (mHs (mV 1) (M.pure []))) gDivmod))
 (mSeq (mDrop (mMt 3 isL (mDs (mTup (mDs (mVD 9) (mDs (M.pure (PyData.int 0)) (mDs (mU (mV 8) gNeg) (mDs (mVD 6) (mDs (mVD 5) (M.pure []))))))) (M.pure [])) gApp))
 (mDrop (mMt 4 isL (mDs (mTup (mDs (mVD 6) (mDs (M.pure (PyData.int 1)) (mDs (M.pure (PyData.int 0)) (mDs (mVD 6) (mDs (mVD 5) (M.pure []))))))) (M.pure [])) gApp))))
def N_day_events : List Str := ["table", "hours", "ships", "departures", "arrivals", "ship", "hour", "stay", "days_ago", "departure", "kind", "negative", "when"]
def m_day_events : M Fl :=
 (mSeq (mAsgT (Tgt.tp [(Tgt.nm 1), (Tgt.nm 2)]) (mVD 0))
 (mSeq (mPar 3 4 (mSs (mLst (M.pure [])) (mSs (mLst (M.pure [])) (M.pure []))))
 (mSeq (mFor (mEnum (mVD 2)) (Tgt.tp [(Tgt.nm 5), (Tgt.tp [(Tgt.nm 6), (Tgt.nm 7)])])
 m_day_events_l1)
 (mRet (mLc (mIter (mFrz (mCall (mHs (mH (mFrz (mOp gPlus (mV 3) (mV 4)))) (M.pure [])) fun ds => nU (gSorted ds)))) (Tgt.tp [(Tgt.nm 6), (Tgt.nm 10), (Tgt.nm 11), (Tgt.nm 12), (Tgt.nm 5)]) (M.pure true) m_day_events_l0 [6, 10, 11, 12, 5])))))
abbrev F_day_events : FnD := fnD 13 m_day_events
def m_count_at_midnight_l0 : M Fl :=
 (mSeq (mAsg 6 (mX (mB (mH (mB (mV 4) (mV 5) gAdd)) (mV 2) gDiv)))
 (mAug 1 (mVD 6) gAddI))
def N_count_at_midnight : List Str := ["table", "found", "hours", "ships", "hour", "stay", "days_ago"]
def m_count_at_midnight : M Fl :=
 (mSeq (mAsgT (Tgt.tp [(Tgt.nm 2), (Tgt.nm 3)]) (mVD 0))
 (mSeq (mAsg 1 (mX (M.pure (PyData.int 0))))
 (mSeq (mFor (mIter (mVD 3)) (Tgt.tp [(Tgt.nm 4), (Tgt.nm 5)])
 m_count_at_midnight_l0)
 (mRet (mVX 1)))))
abbrev F_count_at_midnight : FnD := fnD 7 m_count_at_midnight
def N_law_bag : List Str := ["_law_cell"]
def m_law_bag : M Fl :=
 (mRet (mLst (mDs (mCall (mHs (mH (M.pure (PyData.int 0))) (mHs (mH (mB (mV 0) (mH (mB (mH (M.pure (PyData.int 10))) (mH (M.pure (PyData.int 18))) gPow)) gSub)) (M.pure []))) gMax2) (mDs (mVD 0) (mDs (M.pure (PyData.int 0)) (M.pure []))))))
abbrev F_law_bag : FnD := fnD 1 m_law_bag
def N_law_pick : List Str := ["_law_bag_here", "_law_many", "_law_first", "_law_second", "_law_told"]
def m_law_pick : M Fl :=
 (mSeq (mSetI 0 (mB (mH (mB (mV 0) (mH (M.pure (PyData.int 2))) gIx)) (mH (M.pure (PyData.int 1))) gAdd) (M.pure (PyData.int 2)))
 (mSeq (mIfS (mB (mH (mB (mV 0) (mH (M.pure (PyData.int 0))) gIx)) (mH (M.pure (PyData.int 0))) gGt)
 (mSeq (mAsg 4 (mX (mB (mH (mB (mV 0) (mH (M.pure (PyData.int 0))) gIx)) (mV 1) gMod)))
 (mSeq (mSetI 0 (mB (mH (mB (mV 0) (mH (M.pure (PyData.int 0))) gIx)) (mV 1) gDiv) (M.pure (PyData.int 0)))
 (mRet (mVX 4))))
 (M.pure .nx))
 (mSeq (mAsg 2 (mX (mB (mH (mB (mH (mB (mH (mB (mH (mB (mH (mB (mV 0) (mH (M.pure (PyData.int 1))) gIx)) (mH (M.pure (PyData.int 2147483629))) gMod)) (mH (M.pure (PyData.int 48271))) gMul)) (mH (mB (mH (mB (mV 0) (mH (M.pure (PyData.int 2))) gIx)) (mH (M.pure (PyData.int 69621))) gMul)) gAdd)) (mH (M.pure (PyData.int 12345))) gAdd)) (mH (M.pure (PyData.int 2147483647))) gMod)))
 (mSeq (mAsg 3 (mX (mB (mH (mB (mH (mB (mV 2) (mV 2) gMul)) (mH (mB (mH (mB (mV 0) (mH (M.pure (PyData.int 2))) gIx)) (mH (M.pure (PyData.int 40692))) gMul)) gAdd)) (mH (M.pure (PyData.int 2147483587))) gMod)))
 (mRet (mX (mB (mH (mB (mH (mB (mH (mB (mV 2) (mH (M.pure (PyData.int 2147483587))) gMul)) (mV 3) gAdd)) (mH (M.pure (PyData.int 32))) gDiv)) (mV 1) gMod)))))))
abbrev F_law_pick : FnI := fnI 5 m_law_pick
def m_law_events_l0 : M Fl :=
 (mSeq (mAsg 9 (mX (mB (mH (mB (mV 6) (mV 3) gMul)) (mV 7) gAdd)))
 (mSeq (mDrop (mMt 2 isL (mDs (mTup (mDs (mVD 9) (mDs (M.pure (PyData.int 1)) (mDs (mVD 9) (mDs (mVD 5) (M.pure [])))))) (M.pure [])) gApp))
 (mDrop (mMt 2 isL (mDs (mTup (mDs (mB (mV 9) (mV 8) gAdd) (mDs (M.pure (PyData.int 0)) (mDs (mVD 9) (mDs (mVD 5) (M.pure [])))))) (M.pure [])) gApp))))
def m_law_events_l1 : M Fl :=
 (mFor (mRng (mDs (mB (mH (mU (mH (M.pure (PyData.int 1))) gNeg)) (mH (mB (mV 8) (mV 3) gDiv)) gSub) (mDs (mVD 1) (M.pure []))) gR2) (Tgt.nm 6)
 m_law_events_l0)
def N_law_events : List Str := ["_law_table_here", "_law_days", "_law_found", "_law_hours", "_law_ships", "_law_ship", "_law_day", "_law_hour", "_law_stay", "_law_arrival"]
def m_law_events : M Fl :=
 (mSeq (mAsgT (Tgt.tp [(Tgt.nm 3), (Tgt.nm 4)]) (mVD 0))
 (mSeq (mAsg 2 (mLst (M.pure [])))
 (mSeq (mFor (mEnum (mVD 4)) (Tgt.tp [(Tgt.nm 5), (Tgt.tp [(Tgt.nm 7), (Tgt.nm 8)])])
 m_law_events_l1)
 (mRet (mCall (mHs (mV 2) (M.pure [])) fun ds => nU (gSorted ds))))))
abbrev F_law_events : FnD := fnD 10 m_law_events
def m_law_here_l0 : M PyData :=
 (mTup (mDs (mVD 5) (mDs (mVD 6) (M.pure []))))
def m_law_here_l1 : M Fl :=
 (mSeq (mAsg 9 (mX (mB (mV 7) (mH (mB (mV 6) (mV 3) gMul)) gSub)))
 (mIfS (mChain gLe gLt (mV 9) (mV 1) (mH (mB (mV 9) (mV 8) gAdd)))
 (mDrop (mMt 2 isL (mDs (mTup (mDs (mVD 9) (mDs (mVD 5) (mDs (mVD 6) (M.pure []))))) (M.pure [])) gApp))
 (M.pure .nx)))
def m_law_here_l2 : M Fl :=
 (mFor (mRng (mDs (mB (mH (M.pure (PyData.int 2))) (mH (mB (mV 8) (mV 3) gDiv)) gAdd) (M.pure [])) gR1) (Tgt.nm 6)
 m_law_here_l1)
def N_law_here : List Str := ["_law_table_here", "_law_time", "_law_found", "_law_hours", "_law_ships", "_law_ship", "_law_days_ago", "_law_hour", "_law_stay", "_law_arrival"]
def m_law_here : M Fl :=
 (mSeq (mAsgT (Tgt.tp [(Tgt.nm 3), (Tgt.nm 4)]) (mVD 0))
 (mSeq (mAsg 2 (mLst (M.pure [])))
 (mSeq (mFor (mEnum (mVD 4)) (Tgt.tp [(Tgt.nm 5), (Tgt.tp [(Tgt.nm 7), (Tgt.nm 8)])])
 m_law_here_l2)
 (mRet (mLc (mIter (mFrz (mCall (mHs (mV 2) (M.pure [])) fun ds => nU (gSorted ds)))) (Tgt.tp [(Tgt.nm 9), (Tgt.nm 5), (Tgt.nm 6)]) (M.pure true) m_law_here_l0 [9, 5, 6])))))
abbrev F_law_here : FnD := fnD 10 m_law_here
def N_in_range : List Str := ["value", "low_end", "high_end"]
def m_in_range : M Fl :=
 (mRet (mX (mAndV (mFrz (mFn (mDs (mVD 0) (M.pure [])) F_is_int)) (M.map PyData.bool (mChain gLe gLe (mV 1) (mV 0) (mV 2))))))
abbrev F_in_range : FnD := fnD 3 m_in_range
def m_counts_l0 : M Fl :=
 (mSeq (mAug 1 (mIf (mB (mV 4) (mH (M.pure (PyData.int 1))) gEqA) (M.pure (PyData.int 1)) (mU (mH (M.pure (PyData.int 1))) gNeg)) gAddI)
 (mDrop (mMt 2 isL (mDs (mVD 1) (M.pure [])) gApp)))
def N_counts : List Str := ["table", "here", "found", "hour", "kind", "days_ago", "ship"]
def m_counts : M Fl :=
 (mSeq (mAsg 1 (mFn (mDs (mVD 0) (M.pure [])) F_count_at_midnight))
 (mSeq (mAsg 2 (mLst (M.pure [])))
 (mSeq (mFor (mIter (mFrz (mFn (mDs (mVD 0) (M.pure [])) F_day_events))) (Tgt.tp [(Tgt.nm 3), (Tgt.nm 4), (Tgt.nm 5), (Tgt.nm 6)])
 m_counts_l0)
 (mRet (mVX 2)))))
abbrev F_counts : FnD := fnD 7 m_counts
def m_law_table_l0 : M Fl :=
 (mDrop (mMt 4 isL (mDs (mTup (mDs (mFrz (mFnI 0 (mDs (mVD 1) (M.pure [])) F_law_pick)) (mDs (mB (mH (M.pure (PyData.int 1))) (mH (mFrz (mFnI 0 (mDs (mCall (mHs (mH (M.pure (PyData.int 10000))) (mHs (mH (mIf (mB (mV 2) (mH (M.pure (PyData.int 20))) gLt) (mVD 3) (mB (mH (M.pure (PyData.int 2))) (mV 1) gMul))) (M.pure []))) gMin2) (M.pure [])) F_law_pick))) gAdd) (M.pure [])))) (M.pure [])) gApp))
def N_law_table : List Str := ["_law_bag_here", "_law_hours", "_law_many", "_law_longest", "_law_ships", "_law_k"]
def m_law_table : M Fl :=
 (mSeq (mAsg 1 (mX (mB (mH (mFrz (mLst (mDs (M.pure (PyData.int 1)) (mDs (M.pure (PyData.int 2)) (mDs (M.pure (PyData.int 5)) (mDs (M.pure (PyData.int 12)) (mDs (M.pure (PyData.int 24)) (mDs (M.pure (PyData.int 1000)) (M.pure [])))))))))) (mH (mFrz (mFnI 0 (mDs (M.pure (PyData.int 6)) (M.pure [])) F_law_pick))) gIx)))
 (mSeq (mAsg 2 (mX (mB (mH (mFrz (mLst (mDs (mFrz (mFnI 0 (mDs (M.pure (PyData.int 5)) (M.pure [])) F_law_pick)) (mDs (mFrz (mFnI 0 (mDs (M.pure (PyData.int 8)) (M.pure [])) F_law_pick)) (mDs (mFrz (mFnI 0 (mDs (M.pure (PyData.int 25)) (M.pure [])) F_law_pick)) (M.pure []))))))) (mH (mFrz (mFnI 0 (mDs (M.pure (PyData.int 3)) (M.pure [])) F_law_pick))) gIx)))
 (mSeq (mAsg 3 (mX (mB (mH (mFrz (mLst (mDs (mVD 1) (mDs (mB (mH (M.pure (PyData.int 2))) (mV 1) gMul) (mDs (mB (mH (M.pure (PyData.int 3))) (mV 1) gMul) (M.pure []))))))) (mH (mFrz (mFnI 0 (mDs (M.pure (PyData.int 3)) (M.pure [])) F_law_pick))) gIx)))
 (mSeq (mAsg 4 (mLst (M.pure [])))
 (mSeq (mFor (mRng (mDs (mVD 2) (M.pure [])) gR1) (Tgt.nm 5)
 m_law_table_l0)
 (mRet (mX (mTup (mDs (mVD 1) (mDs (mCall (mHs (mV 4) (M.pure [])) gTuple) (M.pure [])))))))))))
abbrev F_law_table : FnI := fnI 6 m_law_table
def m_law_levels_l0 : M Fl :=
 (mSeq (mAsg 1 (mX (mB (mV 1) (mH (mIf (mB (mV 4) (mH (M.pure (PyData.int 1))) gEqA) (M.pure (PyData.int 1)) (mU (mH (M.pure (PyData.int 1))) gNeg))) gAdd)))
 (mIfS (mChain gLe gLt (mH (M.pure (PyData.int 0))) (mV 3) (mH (mB (mV 0) (mH (M.pure (PyData.int 0))) gIx)))
 (mDrop (mMt 2 isL (mDs (mVD 1) (M.pure [])) gApp))
 (M.pure .nx)))
def N_law_levels : List Str := ["_law_table_here", "_law_here_here", "_law_found", "_law_time", "_law_kind", "_law_arrival", "_law_ship"]
def m_law_levels : M Fl :=
 (mSeq (mAsg 1 (mX (M.pure (PyData.int 0))))
 (mSeq (mAsg 2 (mLst (M.pure [])))
 (mSeq (mFor (mIter (mFrz (mFn (mDs (mVD 0) (mDs (M.pure (PyData.int 1)) (M.pure []))) F_law_events))) (Tgt.tp [(Tgt.nm 3), (Tgt.nm 4), (Tgt.nm 5), (Tgt.nm 6)])
 m_law_levels_l0)
 (mRet (mVX 2)))))
abbrev F_law_levels : FnD := fnD 7 m_law_levels
def m_law_long_table_l0 : M Fl :=
 (mSeq (mAsg 5 (mX (mCall (mHs (mH (M.pure (PyData.int 10000))) (mHs (mH (mB (mV 1) (mH (mB (mH (M.pure (PyData.int 60))) (mV 2) gDiv)) gMul)) (M.pure []))) gMin2)))
 (mDrop (mMt 3 isL (mDs (mTup (mDs (mFrz (mFnI 0 (mDs (mVD 1) (M.pure [])) F_law_pick)) (mDs (mB (mH (mFrz (mLst (mDs (mVD 5) (mDs (mB (mH (M.pure (PyData.int 1))) (mH (mFrz (mFnI 0 (mDs (mVD 5) (M.pure [])) F_law_pick))) gAdd) (M.pure [])))))) (mH (mFrz (mFnI 0 (mDs (M.pure (PyData.int 2)) (M.pure [])) F_law_pick))) gIx) (M.pure [])))) (M.pure [])) gApp)))
def N_law_long_table : List Str := ["_law_bag_here", "_law_hours", "_law_many", "_law_ships", "_law_k", "_law_longest"]
def m_law_long_table : M Fl :=
 (mSeq (mAsg 1 (mX (mB (mH (mFrz (mLst (mDs (M.pure (PyData.int 1)) (mDs (M.pure (PyData.int 5)) (mDs (M.pure (PyData.int 24)) (mDs (M.pure (PyData.int 160)) (M.pure [])))))))) (mH (mFrz (mFnI 0 (mDs (M.pure (PyData.int 4)) (M.pure [])) F_law_pick))) gIx)))
 (mSeq (mAsg 2 (mX (mB (mH (M.pure (PyData.int 1))) (mH (mFrz (mFnI 0 (mDs (M.pure (PyData.int 4)) (M.pure [])) F_law_pick))) gAdd)))
 (mSeq (mAsg 3 (mLst (M.pure [])))
 (mSeq (mFor (mRng (mDs (mVD 2) (M.pure [])) gR1) (Tgt.nm 4)
 m_law_long_table_l0)
 (mRet (mX (mTup (mDs (mVD 1) (mDs (mCall (mHs (mV 3) (M.pure [])) gTuple) (M.pure []))))))))))
abbrev F_law_long_table : FnI := fnI 6 m_law_long_table
def N_is_ship : List Str := ["hours", "value"]
def m_is_ship : M Fl :=
 (mSeq (mIfS (mOr (mNot (mTru (mU (mV 1) (isiD "tuple")))) (mB (mH (mCall (mHs (mV 1) (M.pure [])) gLen)) (mH (M.pure (PyData.int 2))) gNeA))
 (mRet (mX (M.pure (PyData.bool false))))
 (M.pure .nx))
 (mRet (mX (mAndV (mFrz (mFn (mDs (mB (mV 1) (mH (M.pure (PyData.int 0))) gIx) (mDs (M.pure (PyData.int 0)) (mDs (mB (mV 0) (mH (M.pure (PyData.int 1))) gSub) (M.pure [])))) F_in_range)) (mFrz (mFn (mDs (mB (mV 1) (mH (M.pure (PyData.int 1))) gIx) (mDs (M.pure (PyData.int 1)) (mDs (M.pure (PyData.int 10000)) (M.pure [])))) F_in_range))))))
abbrev F_is_ship : FnD := fnD 2 m_is_ship
def N_peak_of : List Str := ["table"]
def m_peak_of : M Fl :=
 (mRet (mX (mMxD maxI (mDs (mFrz (mFn (mDs (mVD 0) (M.pure [])) F_counts)) (M.pure [])) (M.pure (PyData.int 0)))))
abbrev F_peak_of : FnD := fnD 1 m_peak_of
def m_is_table_l0 : M PyData :=
 (mFrz (mFn (mDs (mVD 1) (mDs (mVD 3) (M.pure []))) F_is_ship))
def N_is_table : List Str := ["value", "hours", "ships", "ship"]
def m_is_table : M Fl :=
 (mSeq (mIfS (mOr (mNot (mTru (mU (mV 0) (isiD "tuple")))) (mOr (mB (mH (mCall (mHs (mV 0) (M.pure [])) gLen)) (mH (M.pure (PyData.int 2))) gNeA) (mNot (mTru (mFrz (mFn (mDs (mB (mV 0) (mH (M.pure (PyData.int 0))) gIx) (mDs (M.pure (PyData.int 1)) (mDs (M.pure (PyData.int 1000)) (M.pure [])))) F_in_range))))))
 (mRet (mX (M.pure (PyData.bool false))))
 (M.pure .nx))
 (mSeq (mAsgT (Tgt.tp [(Tgt.nm 1), (Tgt.nm 2)]) (mVD 0))
 (mSeq (mIfS (mOr (mNot (mTru (mU (mV 2) (isiD "tuple")))) (mOr (mB (mH (mCall (mHs (mV 2) (M.pure [])) gLen)) (mH (M.pure (PyData.int 24))) gGt) (mNot (mTru (mCall (mHs (mH (mFrz (mLc (mIter (mVD 2)) (Tgt.nm 3) (M.pure true) m_is_table_l0 [3]))) (M.pure [])) gAll)))))
 (mRet (mX (M.pure (PyData.bool false))))
 (M.pure .nx))
 (mRet (mX (mB (mH (mFrz (mFn (mDs (mVD 0) (M.pure [])) F_peak_of))) (mH (M.pure (PyData.int 60))) fun d e => (gLe d e).map PyData.bool))))))
abbrev F_is_table : FnD := fnD 4 m_is_table
def N_require_table : List Str := ["value"]
def m_require_table : M Fl :=
 (mIfS (mNot (mTru (mFrz (mFn (mDs (mVD 0) (M.pure [])) F_is_table))))
 M.fail
 (M.pure .nx))
abbrev F_require_table : FnD := fnD 1 m_require_table
def N_peak : List Str := ["table"]
def m_peak : M Fl :=
 (mSeq (mDrop (mFn (mDs (mVD 0) (M.pure [])) F_require_table))
 (mRet (mFn (mDs (mVD 0) (M.pure [])) F_peak_of)))
abbrev F_peak : FnD := fnD 1 m_peak
def N_low : List Str := ["table"]
def m_low : M Fl :=
 (mSeq (mDrop (mFn (mDs (mVD 0) (M.pure [])) F_require_table))
 (mRet (mX (mMxD minI (mDs (mFrz (mFn (mDs (mVD 0) (M.pure [])) F_counts)) (M.pure [])) (M.pure (PyData.int 0))))))
abbrev F_low : FnD := fnD 1 m_low
def m_present_l0 : M PyData :=
 (mTup (mDs (mVD 5) (mDs (mU (mV 9) gNeg) (M.pure []))))
def m_present_l1 : M Bool :=
 (mB (mH (mB (mH (mB (mV 1) (mH (mB (mV 6) (mV 3) gMul)) gAdd)) (mV 7) gSub)) (mV 8) gLt)
def m_present_l2 : M Fl :=
 (mSeq (mDrop (mMt 2 isL (mDs (mTup (mDs (mU (mV 6) gNeg) (mDs (mVD 7) (mDs (mVD 5) (M.pure []))))) (M.pure [])) gApp))
 (mAug 6 (M.pure (PyData.int 1)) gAddI))
def m_present_l3 : M Fl :=
 (mSeq (mAsg 6 (mX (mIf (mB (mV 7) (mV 1) gLe) (M.pure (PyData.int 0)) (M.pure (PyData.int 1)))))
 (mWhile m_present_l1
 m_present_l2 fuel))
def N_present : List Str := ["table", "hour", "found", "hours", "ships", "ship", "days_ago", "arrival", "stay", "negative"]
def m_present : M Fl :=
 (mSeq (mDrop (mFn (mDs (mVD 0) (M.pure [])) F_require_table))
 (mSeq (mAsgT (Tgt.tp [(Tgt.nm 3), (Tgt.nm 4)]) (mVD 0))
 (mSeq (mIfS (mNot (mTru (mFrz (mFn (mDs (mVD 1) (mDs (M.pure (PyData.int 0)) (mDs (mB (mV 3) (mH (M.pure (PyData.int 1))) gSub) (M.pure [])))) F_in_range))))
 M.fail
 (M.pure .nx))
 (mSeq (mAsg 2 (mLst (M.pure [])))
 (mSeq (mFor (mEnum (mVD 4)) (Tgt.tp [(Tgt.nm 5), (Tgt.tp [(Tgt.nm 7), (Tgt.nm 8)])])
 m_present_l3)
 (mRet (mLc (mIter (mFrz (mCall (mHs (mV 2) (M.pure [])) fun ds => nU (gSorted ds)))) (Tgt.tp [(Tgt.nm 9), (Tgt.nm 7), (Tgt.nm 5)]) (M.pure true) m_present_l0 [9, 7, 5])))))))
abbrev F_present : FnD := fnD 10 m_present
def m_law_l0 : M Fl :=
 (mSeq (mAsg 9 (mFn (mDs (mVD 3) (mDs (mVD 7) (M.pure []))) F_present))
 (mSeq (mIfS (mB (mH (mCall (mHs (mV 9) (M.pure [])) gRepr)) (mH (mCall (mHs (mH (mFrz (mFn (mDs (mVD 3) (mDs (mVD 7) (M.pure []))) F_law_here))) (M.pure [])) gRepr)) gNeA)
 (mRet (mX (M.pure (PyData.bool false))))
 (M.pure .nx))
 (mDrop (mMt 9 isL (mDs (M.pure PyData.none) (M.pure [])) gApp))))
def m_law_l1 : M Fl :=
 (mFor (mRng (mDs (M.pure (PyData.int 2)) (M.pure [])) gR1) (Tgt.nm 8)
 m_law_l0)
def m_law_l2 : M PyData :=
 (mFrz (mFnI 2 (mDs (mVD 5) (M.pure [])) F_law_pick))
def m_law_l3 : M PyData :=
 (mB (mV 10) (mH (M.pure (PyData.int 0))) gIx)
def m_law_l4 : M Fl :=
 (mSeq (mAsg 2 (mFn (mDs (mVD 1) (M.pure [])) F_law_bag))
 (mSeq (mAsg 3 (mIf (mB (mH (mFrz (mFnI 2 (mDs (M.pure (PyData.int 3)) (M.pure [])) F_law_pick))) (mH (M.pure (PyData.int 0))) gGt) (mFnI 2 (M.pure []) F_law_table) (mFnI 2 (M.pure []) F_law_long_table)))
 (mSeq (mAsg 4 (mFn (mDs (mVD 3) (M.pure [])) F_law_levels))
 (mSeq (mIfS (mOr (mB (mH (mCall (mHs (mH (mFrz (mFn (mDs (mVD 3) (M.pure [])) F_peak))) (M.pure [])) gRepr)) (mH (mCall (mHs (mH (mCall (mHs (mH (mFrz (mOp gPlus (mV 4) (mH (mFrz (mLst (mDs (M.pure (PyData.int 0)) (M.pure [])))))))) (M.pure [])) gMax1)) (M.pure [])) gRepr)) gNeA) (mB (mH (mCall (mHs (mH (mFrz (mFn (mDs (mVD 3) (M.pure [])) F_low))) (M.pure [])) gRepr)) (mH (mCall (mHs (mH (mIf (mB (mV 4) (mH (mFrz (mLst (M.pure [])))) gNeA) (mCall (mHs (mV 4) (M.pure [])) gMin1) (M.pure (PyData.int 0)))) (M.pure [])) gRepr)) gNeA))
 (mRet (mX (M.pure (PyData.bool false))))
 (M.pure .nx))
 (mSeq (mAsg 5 (mX (mB (mV 3) (mH (M.pure (PyData.int 0))) gIx)))
 (mSeq (mAsg 6 (mOp gPlus (mH (mFrz (mOp gPlus (mH (mFrz (mLst (mDs (M.pure (PyData.int 0)) (mDs (mB (mV 5) (mH (M.pure (PyData.int 1))) gSub) (M.pure [])))))) (mH (mFrz (mLc (mRng (mDs (M.pure (PyData.int 3)) (M.pure [])) gR1) (Tgt.nm 11) (M.pure true) m_law_l2 [11])))))) (mH (mFrz (mLc (mIter (mFrz (mSl (mH (mB (mV 3) (mH (M.pure (PyData.int 1))) gIx)) (M.pure none) (M.bind (M.pure (PyData.int 4)) fun d => M.of (gPart d))))) (Tgt.nm 10) (M.pure true) m_law_l3 [10])))))
 (mFor (mIter (mVD 6)) (Tgt.nm 7)
 m_law_l1)))))))
def N_law : List Str := ["_law_script", "_law_cell", "_law_bag_here", "_law_table_here", "_law_levels_here", "_law_hours", "_law_some", "_law_hour", "_law_again", "_law_found", "_law_ship", "_law_k"]
def m_law : M Fl :=
 (mSeq (mFor (mIter (mFrz (mOp gPlus (mH (mFrz (mSl (mV 0) (M.pure none) (M.bind (M.pure (PyData.int 20)) fun d => M.of (gPart d))))) (mH (mFrz (mLst (mDs (M.pure (PyData.int 0)) (M.pure [])))))))) (Tgt.nm 1)
 m_law_l4)
 (mRet (mX (M.pure (PyData.bool true)))))
abbrev F_law : FnD := fnD 12 m_law
structure Txt (K : PySem.W.Frag) (mg : Str → Option Value) : Type where
  a_is_int : Addr
  d_is_int : FuncData
  F_is_int : Fun K "is_int" "is_int" s_is_int a_is_int d_is_int
  m_is_int : mg "is_int" = some (.ref a_is_int)
  a_day_events : Addr
  d_day_events : FuncData
  F_day_events : Fun K "day_events" "day_events" s_day_events a_day_events d_day_events
  m_day_events : mg "day_events" = some (.ref a_day_events)
  a_count_at_midnight : Addr
  d_count_at_midnight : FuncData
  F_count_at_midnight : Fun K "count_at_midnight" "count_at_midnight" s_count_at_midnight a_count_at_midnight d_count_at_midnight
  m_count_at_midnight : mg "count_at_midnight" = some (.ref a_count_at_midnight)
  a_law_bag : Addr
  d_law_bag : FuncData
  F_law_bag : Fun K "_law_bag" "_law_bag" s_law_bag a_law_bag d_law_bag
  m_law_bag : mg "_law_bag" = some (.ref a_law_bag)
  a_law_pick : Addr
  d_law_pick : FuncData
  F_law_pick : Fun K "_law_pick" "_law_pick" s_law_pick a_law_pick d_law_pick
  m_law_pick : mg "_law_pick" = some (.ref a_law_pick)
  a_law_events : Addr
  d_law_events : FuncData
  F_law_events : Fun K "_law_events" "_law_events" s_law_events a_law_events d_law_events
  m_law_events : mg "_law_events" = some (.ref a_law_events)
  a_law_here : Addr
  d_law_here : FuncData
  F_law_here : Fun K "_law_here" "_law_here" s_law_here a_law_here d_law_here
  m_law_here : mg "_law_here" = some (.ref a_law_here)
  a_in_range : Addr
  d_in_range : FuncData
  F_in_range : Fun K "in_range" "in_range" s_in_range a_in_range d_in_range
  m_in_range : mg "in_range" = some (.ref a_in_range)
  a_counts : Addr
  d_counts : FuncData
  F_counts : Fun K "counts" "counts" s_counts a_counts d_counts
  m_counts : mg "counts" = some (.ref a_counts)
  a_law_table : Addr
  d_law_table : FuncData
  F_law_table : Fun K "_law_table" "_law_table" s_law_table a_law_table d_law_table
  m_law_table : mg "_law_table" = some (.ref a_law_table)
  a_law_levels : Addr
  d_law_levels : FuncData
  F_law_levels : Fun K "_law_levels" "_law_levels" s_law_levels a_law_levels d_law_levels
  m_law_levels : mg "_law_levels" = some (.ref a_law_levels)
  a_law_long_table : Addr
  d_law_long_table : FuncData
  F_law_long_table : Fun K "_law_long_table" "_law_long_table" s_law_long_table a_law_long_table d_law_long_table
  m_law_long_table : mg "_law_long_table" = some (.ref a_law_long_table)
  a_is_ship : Addr
  d_is_ship : FuncData
  F_is_ship : Fun K "is_ship" "is_ship" s_is_ship a_is_ship d_is_ship
  m_is_ship : mg "is_ship" = some (.ref a_is_ship)
  a_peak_of : Addr
  d_peak_of : FuncData
  F_peak_of : Fun K "peak_of" "peak_of" s_peak_of a_peak_of d_peak_of
  m_peak_of : mg "peak_of" = some (.ref a_peak_of)
  a_is_table : Addr
  d_is_table : FuncData
  F_is_table : Fun K "is_table" "is_table" s_is_table a_is_table d_is_table
  m_is_table : mg "is_table" = some (.ref a_is_table)
  a_require_table : Addr
  d_require_table : FuncData
  F_require_table : Fun K "require_table" "require_table" s_require_table a_require_table d_require_table
  m_require_table : mg "require_table" = some (.ref a_require_table)
  a_peak : Addr
  d_peak : FuncData
  F_peak : Fun K "peak" "peak" s_peak a_peak d_peak
  m_peak : mg "peak" = some (.ref a_peak)
  a_low : Addr
  d_low : FuncData
  F_low : Fun K "low" "low" s_low a_low d_low
  m_low : mg "low" = some (.ref a_low)
  a_present : Addr
  d_present : FuncData
  F_present : Fun K "present" "present" s_present a_present d_present
  m_present : mg "present" = some (.ref a_present)
  a_law : Addr
  d_law : FuncData
  F_law : Fun K "law" "law" s_law a_law d_law
  m_law : mg "law" = some (.ref a_law)
  z_all : mg "all" = none
  z_bool : mg "bool" = none
  z_divmod : mg "divmod" = none
  z_enumerate : mg "enumerate" = none
  z_int : mg "int" = none
  z_isinstance : mg "isinstance" = none
  z_len : mg "len" = none
  z_max : mg "max" = none
  z_min : mg "min" = none
  z_range : mg "range" = none
  z_repr : mg "repr" = none
  z_sorted : mg "sorted" = none
  z_tuple : mg "tuple" = none
  c_ARRIVAL : ∃ t, mg "ARRIVAL" = some (.int 1 t)
  c_DEPARTURE : ∃ t, mg "DEPARTURE" = some (.int 0 t)
  c_MOST_HOURS : ∃ t, mg "MOST_HOURS" = some (.int 1000 t)
  c_MOST_PEAK : ∃ t, mg "MOST_PEAK" = some (.int 60 t)
  c_MOST_SHIPS : ∃ t, mg "MOST_SHIPS" = some (.int 24 t)
  c_MOST_STAY : ∃ t, mg "MOST_STAY" = some (.int 10000 t)
section
variable {P : Program} {w : World} {K : PySem.W.Frag} {mg : Str → Option Value} {base : Heap}
theorem sc_is_int : FnScope N_is_int ["value"] (defScope s_is_int) := ⟨rfl, rfl, rfl, by decide +kernel, rfl, by decide +kernel, by decide +kernel⟩
theorem b_is_int (T : Txt K mg) : Binds K T.d_is_int ["value"] [] := T.F_is_int.binds (ps := ["value"]) fun _ _ _ _ _ _ us hl => match us, hl with | [_], _ => rfl
set_option maxHeartbeats 8000000 in
theorem ok_is_int (T : Txt K mg) : FnG P w K mg base CX0 1 T.a_is_int T.d_is_int ["value"] (spD ⟨K, w⟩ F_is_int 1) :=
  have S := sc_is_int
  okD0 T.F_is_int S (by decide) fun cdv A fr s H E hr gd =>
 (mss_one (ms_ret (px_d (pd_and (pd_isi rfl T.z_isinstance rfl T.z_int PySem.Pv.boot_int (ph_v 0)) (pd_one (pd_not (pd_isi rfl T.z_isinstance rfl T.z_bool PySem.Pv.boot_bool (ph_v 0))))))))
theorem sc_day_events : FnScope N_day_events ["table"] (defScope s_day_events) := ⟨rfl, rfl, rfl, by decide +kernel, rfl, by decide +kernel, by decide +kernel⟩
theorem b_day_events (T : Txt K mg) : Binds K T.d_day_events ["table"] [] := T.F_day_events.binds (ps := ["table"]) fun _ _ _ _ _ _ us hl => match us, hl with | [_], _ => rfl
set_option maxHeartbeats 8000000 in
theorem ok_day_events (T : Txt K mg) : FnG P w K mg base CX0 1 T.a_day_events T.d_day_events ["table"] (spD ⟨K, w⟩ F_day_events 1) :=
  have S := sc_day_events
  okD0 T.F_day_events S (by decide) fun cdv A fr s H E hr gd =>
 (mss_cons (ms_asg (pgt_tp rfl (pgts_cons (pgt_nm 1 S.nd rfl (by first | exact Or.inl rfl | exact Or.inr rfl)) (pgts_cons (pgt_nm 2 S.nd rfl (by first | exact Or.inl rfl | exact Or.inr rfl)) pgts_nil))) (pd_v 0))
 (mss_cons (ms_par (i := 3) (j := 4) rfl S.nd rfl rfl (by decide) rfl rfl (pxs_cons (px_lst pds_nil) (pxs_cons (px_lst pds_nil) pxs_nil)) rfl)
 (mss_cons (ms_for PassesOwn.never rfl (pim_enum rfl T.z_enumerate (pd_v 2)) (pgt_tp rfl (pgts_cons (pgt_nm 5 S.nd rfl (by first | exact Or.inl rfl | exact Or.inr rfl)) (pgts_cons (pgt_tp rfl (pgts_cons (pgt_nm 6 S.nd rfl (by first | exact Or.inl rfl | exact Or.inr rfl)) (pgts_cons (pgt_nm 7 S.nd rfl (by first | exact Or.inl rfl | exact Or.inr rfl)) pgts_nil))) pgts_nil)))
 (mss_cons (ms_asg (pgt_tp rfl (pgts_cons (pgt_nm 8 S.nd rfl (by first | exact Or.inl rfl | exact Or.inr rfl)) (pgts_cons (pgt_nm 9 S.nd rfl (by first | exact Or.inl rfl | exact Or.inr rfl)) pgts_nil))) (pd_callB call_divmodW gDivmod_ok rfl T.z_divmod PyProof.Rows.boot_divmod (phs_cons (ph_d (pd_op op_addA gAdd_ok (ph_v 6) (ph_v 7))) (phs_cons (ph_v 1) phs_nil))))
 (mss_cons (ms_expr (pd_mt 3 PySem.F.plainAttrs_list PySem.F.slot_list_append PySem.F.type_list_append mt_append isL_ok gApp_ok (pds_cons (pd_tup (pds_cons (pd_v 9) (pds_cons (pd_gint rfl T.c_DEPARTURE) (pds_cons (pd_neg (ph_v 8)) (pds_cons (pd_v 6) (pds_cons (pd_v 5) pds_nil)))))) pds_nil)))
 (mss_one (ms_expr (pd_mt 4 PySem.F.plainAttrs_list PySem.F.slot_list_append PySem.F.type_list_append mt_append isL_ok gApp_ok (pds_cons (pd_tup (pds_cons (pd_v 6) (pds_cons (pd_gint rfl T.c_ARRIVAL) (pds_cons pd_int (pds_cons (pd_v 6) (pds_cons (pd_v 5) pds_nil)))))) pds_nil)))))))
 (mss_one (ms_ret (px_lc rfl S.nd (own := [("hour", 6), ("kind", 10), ("negative", 11), ("when", 12), ("ship", 5)]) (pim_seq (pd_x (px_callB cr_sortedA gSorted_ok rfl T.z_sorted PyProof.Rows.boot_sorted (phs_cons (ph_x (px_op op_plus gPlus_ok (ph_v 3) (ph_v 4))) phs_nil)))) (blkOk_by (N := N_day_events) (sc := defScope s_day_events) (by decide +kernel)) (by decide) (fun s H C cl fp => (pgt_tp rfl (pgts_cons (pgt_nm 6 S.nd rfl (by first | exact Or.inl rfl | exact Or.inr rfl)) (pgts_cons (pgt_nm 10 S.nd rfl (by first | exact Or.inl rfl | exact Or.inr rfl)) (pgts_cons (pgt_nm 11 S.nd rfl (by first | exact Or.inl rfl | exact Or.inr rfl)) (pgts_cons (pgt_nm 12 S.nd rfl (by first | exact Or.inl rfl | exact Or.inr rfl)) (pgts_cons (pgt_nm 5 S.nd rfl (by first | exact Or.inl rfl | exact Or.inr rfl)) pgts_nil))))))) (fun s H C cl fp => pbs_nil) (fun s H C cl fp => (pd_tup (pds_cons (pd_v 6) (pds_cons (pd_v 10) (pds_cons (pd_neg (ph_v 11)) (pds_cons (pd_v 5) pds_nil))))))))))))
theorem sc_count_at_midnight : FnScope N_count_at_midnight ["table"] (defScope s_count_at_midnight) := ⟨rfl, rfl, rfl, by decide +kernel, rfl, by decide +kernel, by decide +kernel⟩
theorem b_count_at_midnight (T : Txt K mg) : Binds K T.d_count_at_midnight ["table"] [] := T.F_count_at_midnight.binds (ps := ["table"]) fun _ _ _ _ _ _ us hl => match us, hl with | [_], _ => rfl
set_option maxHeartbeats 8000000 in
theorem ok_count_at_midnight (T : Txt K mg) : FnG P w K mg base CX0 1 T.a_count_at_midnight T.d_count_at_midnight ["table"] (spD ⟨K, w⟩ F_count_at_midnight 1) :=
  have S := sc_count_at_midnight
  okD0 T.F_count_at_midnight S (by decide) fun cdv A fr s H E hr gd =>
 (mss_cons (ms_asg (pgt_tp rfl (pgts_cons (pgt_nm 2 S.nd rfl (by first | exact Or.inl rfl | exact Or.inr rfl)) (pgts_cons (pgt_nm 3 S.nd rfl (by first | exact Or.inl rfl | exact Or.inr rfl)) pgts_nil))) (pd_v 0))
 (mss_cons (ms_set S.nd (i := 1) rfl (by first | exact Or.inl rfl | exact Or.inr rfl) (px_d pd_int))
 (mss_cons (ms_for PassesOwn.never rfl (pim_seq (pd_v 3)) (pgt_tp rfl (pgts_cons (pgt_nm 4 S.nd rfl (by first | exact Or.inl rfl | exact Or.inr rfl)) (pgts_cons (pgt_nm 5 S.nd rfl (by first | exact Or.inl rfl | exact Or.inr rfl)) pgts_nil)))
 (mss_cons (ms_set S.nd (i := 6) rfl (by first | exact Or.inl rfl | exact Or.inr rfl) (px_d (pd_op op_fdivW gDiv_ok (ph_d (pd_op op_addA gAdd_ok (ph_v 4) (ph_v 5))) (ph_v 2))))
 (mss_one (ms_aug (i := 1) ip_add gIn_addI S.nd rfl (by first | exact Or.inl rfl | exact Or.inr rfl) (pd_v 6)))))
 (mss_one (ms_ret (px_v 1))))))
theorem sc_law_bag : FnScope N_law_bag ["_law_cell"] (defScope s_law_bag) := ⟨rfl, rfl, rfl, by decide +kernel, rfl, by decide +kernel, by decide +kernel⟩
theorem b_law_bag (T : Txt K mg) : Binds K T.d_law_bag ["_law_cell"] [] := T.F_law_bag.binds (ps := ["_law_cell"]) fun _ _ _ _ _ _ us hl => match us, hl with | [_], _ => rfl
set_option maxHeartbeats 8000000 in
theorem ok_law_bag (T : Txt K mg) : FnG P w K mg base CX0 1 T.a_law_bag T.d_law_bag ["_law_cell"] (spD ⟨K, w⟩ F_law_bag 1) :=
  have S := sc_law_bag
  okD0 T.F_law_bag S (by decide) fun cdv A fr s H E hr gd =>
 (mss_one (ms_ret (px_lst (pds_cons (pd_callB (call_max2 rfl) gMax2_ok rfl T.z_max PyProof.Rows.boot_max (phs_cons (ph_d pd_int) (phs_cons (ph_d (pd_op op_sub gI0_ok (ph_v 0) (ph_d (pd_op op_powA gPow_ok (ph_d pd_int) (ph_d pd_int))))) phs_nil))) (pds_cons (pd_v 0) (pds_cons pd_int pds_nil))))))
theorem sc_law_pick : FnScope N_law_pick ["_law_bag_here", "_law_many"] (defScope s_law_pick) := ⟨rfl, rfl, rfl, by decide +kernel, rfl, by decide +kernel, by decide +kernel⟩
theorem b_law_pick (T : Txt K mg) : Binds K T.d_law_pick ["_law_bag_here", "_law_many"] [] := T.F_law_pick.binds (ps := ["_law_bag_here", "_law_many"]) fun _ _ _ _ _ _ us hl => match us, hl with | [_, _], _ => rfl
set_option maxHeartbeats 8000000 in
theorem ok_law_pick (T : Txt K mg) : FnG P w K mg base CX0 1 T.a_law_pick T.d_law_pick ["_law_bag_here", "_law_many"] (spI ⟨K, w⟩ F_law_pick 2) :=
  have S := sc_law_pick
  okI0 T.F_law_pick S (by decide) fun cdv A fr s H E hr gd =>
 (mss_cons (ms_seti 0 (pd_op op_addA gAdd_ok (ph_d (pd_ix (ph_v 0) (ph_d pd_int))) (ph_d pd_int)) pd_int)
 (mss_cons (ms_if (pb_cmp op_gt gCmp_ok (ph_d (pd_ix (ph_v 0) (ph_d pd_int))) (ph_d pd_int))
 (mss_cons (ms_set S.nd (i := 4) rfl (by first | exact Or.inl rfl | exact Or.inr rfl) (px_d (pd_op op_mod gMod_ok (ph_d (pd_ix (ph_v 0) (ph_d pd_int))) (ph_v 1))))
 (mss_cons (ms_seti 0 (pd_op op_fdivW gDiv_ok (ph_d (pd_ix (ph_v 0) (ph_d pd_int))) (ph_v 1)) pd_int)
 (mss_one (ms_ret (px_v 4)))))
 mss_nil)
 (mss_cons (ms_set S.nd (i := 2) rfl (by first | exact Or.inl rfl | exact Or.inr rfl) (px_d (pd_op op_mod gMod_ok (ph_d (pd_op op_addA gAdd_ok (ph_d (pd_op op_addA gAdd_ok (ph_d (pd_op op_mulW gMul_ok (ph_d (pd_op op_mod gMod_ok (ph_d (pd_ix (ph_v 0) (ph_d pd_int))) (ph_d pd_int))) (ph_d pd_int))) (ph_d (pd_op op_mulW gMul_ok (ph_d (pd_ix (ph_v 0) (ph_d pd_int))) (ph_d pd_int))))) (ph_d pd_int))) (ph_d pd_int))))
 (mss_cons (ms_set S.nd (i := 3) rfl (by first | exact Or.inl rfl | exact Or.inr rfl) (px_d (pd_op op_mod gMod_ok (ph_d (pd_op op_addA gAdd_ok (ph_d (pd_op op_mulW gMul_ok (ph_v 2) (ph_v 2))) (ph_d (pd_op op_mulW gMul_ok (ph_d (pd_ix (ph_v 0) (ph_d pd_int))) (ph_d pd_int))))) (ph_d pd_int))))
 (mss_one (ms_ret (px_d (pd_op op_mod gMod_ok (ph_d (pd_op op_fdivW gDiv_ok (ph_d (pd_op op_addA gAdd_ok (ph_d (pd_op op_mulW gMul_ok (ph_v 2) (ph_d pd_int))) (ph_v 3))) (ph_d pd_int))) (ph_v 1)))))))))
theorem sc_law_events : FnScope N_law_events ["_law_table_here", "_law_days"] (defScope s_law_events) := ⟨rfl, rfl, rfl, by decide +kernel, rfl, by decide +kernel, by decide +kernel⟩
theorem b_law_events (T : Txt K mg) : Binds K T.d_law_events ["_law_table_here", "_law_days"] [] := T.F_law_events.binds (ps := ["_law_table_here", "_law_days"]) fun _ _ _ _ _ _ us hl => match us, hl with | [_, _], _ => rfl
set_option maxHeartbeats 8000000 in
theorem ok_law_events (T : Txt K mg) : FnG P w K mg base CX0 1 T.a_law_events T.d_law_events ["_law_table_here", "_law_days"] (spD ⟨K, w⟩ F_law_events 2) :=
  have S := sc_law_events
  okD0 T.F_law_events S (by decide) fun cdv A fr s H E hr gd =>
 (mss_cons (ms_asg (pgt_tp rfl (pgts_cons (pgt_nm 3 S.nd rfl (by first | exact Or.inl rfl | exact Or.inr rfl)) (pgts_cons (pgt_nm 4 S.nd rfl (by first | exact Or.inl rfl | exact Or.inr rfl)) pgts_nil))) (pd_v 0))
 (mss_cons (ms_set S.nd (i := 2) rfl (by first | exact Or.inl rfl | exact Or.inr rfl) (px_lst pds_nil))
 (mss_cons (ms_for PassesOwn.never rfl (pim_enum rfl T.z_enumerate (pd_v 4)) (pgt_tp rfl (pgts_cons (pgt_nm 5 S.nd rfl (by first | exact Or.inl rfl | exact Or.inr rfl)) (pgts_cons (pgt_tp rfl (pgts_cons (pgt_nm 7 S.nd rfl (by first | exact Or.inl rfl | exact Or.inr rfl)) (pgts_cons (pgt_nm 8 S.nd rfl (by first | exact Or.inl rfl | exact Or.inr rfl)) pgts_nil))) pgts_nil)))
 (mss_one (ms_for PassesOwn.never rfl (pim_range2 rfl T.z_range (pds_cons (pd_op op_sub gI0_ok (ph_d (pd_neg (ph_d pd_int))) (ph_d (pd_op op_fdivW gDiv_ok (ph_v 8) (ph_v 3)))) (pds_cons (pd_v 1) pds_nil))) (pgt_nm 6 S.nd rfl (by first | exact Or.inl rfl | exact Or.inr rfl))
 (mss_cons (ms_set S.nd (i := 9) rfl (by first | exact Or.inl rfl | exact Or.inr rfl) (px_d (pd_op op_addA gAdd_ok (ph_d (pd_op op_mulW gMul_ok (ph_v 6) (ph_v 3))) (ph_v 7))))
 (mss_cons (ms_expr (pd_mt 2 PySem.F.plainAttrs_list PySem.F.slot_list_append PySem.F.type_list_append mt_append isL_ok gApp_ok (pds_cons (pd_tup (pds_cons (pd_v 9) (pds_cons pd_int (pds_cons (pd_v 9) (pds_cons (pd_v 5) pds_nil))))) pds_nil)))
 (mss_one (ms_expr (pd_mt 2 PySem.F.plainAttrs_list PySem.F.slot_list_append PySem.F.type_list_append mt_append isL_ok gApp_ok (pds_cons (pd_tup (pds_cons (pd_op op_addA gAdd_ok (ph_v 9) (ph_v 8)) (pds_cons pd_int (pds_cons (pd_v 9) (pds_cons (pd_v 5) pds_nil))))) pds_nil)))))))))
 (mss_one (ms_ret (px_callB cr_sortedA gSorted_ok rfl T.z_sorted PyProof.Rows.boot_sorted (phs_cons (ph_v 2) phs_nil)))))))
theorem sc_law_here : FnScope N_law_here ["_law_table_here", "_law_time"] (defScope s_law_here) := ⟨rfl, rfl, rfl, by decide +kernel, rfl, by decide +kernel, by decide +kernel⟩
theorem b_law_here (T : Txt K mg) : Binds K T.d_law_here ["_law_table_here", "_law_time"] [] := T.F_law_here.binds (ps := ["_law_table_here", "_law_time"]) fun _ _ _ _ _ _ us hl => match us, hl with | [_, _], _ => rfl
set_option maxHeartbeats 8000000 in
theorem ok_law_here (T : Txt K mg) : FnG P w K mg base CX0 1 T.a_law_here T.d_law_here ["_law_table_here", "_law_time"] (spD ⟨K, w⟩ F_law_here 2) :=
  have S := sc_law_here
  okD0 T.F_law_here S (by decide) fun cdv A fr s H E hr gd =>
 (mss_cons (ms_asg (pgt_tp rfl (pgts_cons (pgt_nm 3 S.nd rfl (by first | exact Or.inl rfl | exact Or.inr rfl)) (pgts_cons (pgt_nm 4 S.nd rfl (by first | exact Or.inl rfl | exact Or.inr rfl)) pgts_nil))) (pd_v 0))
 (mss_cons (ms_set S.nd (i := 2) rfl (by first | exact Or.inl rfl | exact Or.inr rfl) (px_lst pds_nil))
 (mss_cons (ms_for PassesOwn.never rfl (pim_enum rfl T.z_enumerate (pd_v 4)) (pgt_tp rfl (pgts_cons (pgt_nm 5 S.nd rfl (by first | exact Or.inl rfl | exact Or.inr rfl)) (pgts_cons (pgt_tp rfl (pgts_cons (pgt_nm 7 S.nd rfl (by first | exact Or.inl rfl | exact Or.inr rfl)) (pgts_cons (pgt_nm 8 S.nd rfl (by first | exact Or.inl rfl | exact Or.inr rfl)) pgts_nil))) pgts_nil)))
 (mss_one (ms_for PassesOwn.never rfl (pim_range1 rfl T.z_range (pds_cons (pd_op op_addA gAdd_ok (ph_d pd_int) (ph_d (pd_op op_fdivW gDiv_ok (ph_v 8) (ph_v 3)))) pds_nil)) (pgt_nm 6 S.nd rfl (by first | exact Or.inl rfl | exact Or.inr rfl))
 (mss_cons (ms_set S.nd (i := 9) rfl (by first | exact Or.inl rfl | exact Or.inr rfl) (px_d (pd_op op_sub gI0_ok (ph_v 7) (ph_d (pd_op op_mulW gMul_ok (ph_v 6) (ph_v 3))))))
 (mss_one (ms_if (pb_chain op_le op_lt gCmp_ok gCmp_ok (ph_v 9) (ph_v 1) (ph_d (pd_op op_addA gAdd_ok (ph_v 9) (ph_v 8))))
 (mss_one (ms_expr (pd_mt 2 PySem.F.plainAttrs_list PySem.F.slot_list_append PySem.F.type_list_append mt_append isL_ok gApp_ok (pds_cons (pd_tup (pds_cons (pd_v 9) (pds_cons (pd_v 5) (pds_cons (pd_v 6) pds_nil)))) pds_nil))))
 mss_nil))))))
 (mss_one (ms_ret (px_lc rfl S.nd (own := [("_law_arrival", 9), ("_law_ship", 5), ("_law_days_ago", 6)]) (pim_seq (pd_x (px_callB cr_sortedA gSorted_ok rfl T.z_sorted PyProof.Rows.boot_sorted (phs_cons (ph_v 2) phs_nil)))) (blkOk_by (N := N_law_here) (sc := defScope s_law_here) (by decide +kernel)) (by decide) (fun s H C cl fp => (pgt_tp rfl (pgts_cons (pgt_nm 9 S.nd rfl (by first | exact Or.inl rfl | exact Or.inr rfl)) (pgts_cons (pgt_nm 5 S.nd rfl (by first | exact Or.inl rfl | exact Or.inr rfl)) (pgts_cons (pgt_nm 6 S.nd rfl (by first | exact Or.inl rfl | exact Or.inr rfl)) pgts_nil))))) (fun s H C cl fp => pbs_nil) (fun s H C cl fp => (pd_tup (pds_cons (pd_v 5) (pds_cons (pd_v 6) pds_nil))))))))))
theorem sc_in_range : FnScope N_in_range ["value", "low_end", "high_end"] (defScope s_in_range) := ⟨rfl, rfl, rfl, by decide +kernel, rfl, by decide +kernel, by decide +kernel⟩
theorem b_in_range (T : Txt K mg) : Binds K T.d_in_range ["value", "low_end", "high_end"] [] := T.F_in_range.binds (ps := ["value", "low_end", "high_end"]) fun _ _ _ _ _ _ us hl => match us, hl with | [_, _, _], _ => rfl
set_option maxHeartbeats 8000000 in
theorem ok_in_range (T : Txt K mg) : FnG P w K mg base CX0 2 T.a_in_range T.d_in_range ["value", "low_end", "high_end"] (spD ⟨K, w⟩ F_in_range 3) :=
  have S := sc_in_range
  okD0 T.F_in_range S (by decide) fun cdv A fr s H E hr gd =>
 (mss_one (ms_ret (px_d (pd_and (pd_x (px_fn (ok_is_int T) (hr.mono (by decide)) gd rfl T.m_is_int T.F_is_int.kp (b_is_int T) rfl pv0 (ln_cons ln_nil) (pds_cons (pd_v 0) pds_nil))) (pd_one (pd_chain op_le op_le gCmp_ok gCmp_ok (ph_v 1) (ph_v 0) (ph_v 2)))))))
theorem sc_counts : FnScope N_counts ["table"] (defScope s_counts) := ⟨rfl, rfl, rfl, by decide +kernel, rfl, by decide +kernel, by decide +kernel⟩
theorem b_counts (T : Txt K mg) : Binds K T.d_counts ["table"] [] := T.F_counts.binds (ps := ["table"]) fun _ _ _ _ _ _ us hl => match us, hl with | [_], _ => rfl
set_option maxHeartbeats 8000000 in
theorem ok_counts (T : Txt K mg) : FnG P w K mg base CX0 2 T.a_counts T.d_counts ["table"] (spD ⟨K, w⟩ F_counts 1) :=
  have S := sc_counts
  okD0 T.F_counts S (by decide) fun cdv A fr s H E hr gd =>
 (mss_cons (ms_set S.nd (i := 1) rfl (by first | exact Or.inl rfl | exact Or.inr rfl) (px_fn (ok_count_at_midnight T) (hr.mono (by decide)) gd rfl T.m_count_at_midnight T.F_count_at_midnight.kp (b_count_at_midnight T) rfl pv0 (ln_cons ln_nil) (pds_cons (pd_v 0) pds_nil)))
 (mss_cons (ms_set S.nd (i := 2) rfl (by first | exact Or.inl rfl | exact Or.inr rfl) (px_lst pds_nil))
 (mss_cons (ms_for PassesOwn.never rfl (pim_seq (pd_x (px_fn (ok_day_events T) (hr.mono (by decide)) gd rfl T.m_day_events T.F_day_events.kp (b_day_events T) rfl pv0 (ln_cons ln_nil) (pds_cons (pd_v 0) pds_nil)))) (pgt_tp rfl (pgts_cons (pgt_nm 3 S.nd rfl (by first | exact Or.inl rfl | exact Or.inr rfl)) (pgts_cons (pgt_nm 4 S.nd rfl (by first | exact Or.inl rfl | exact Or.inr rfl)) (pgts_cons (pgt_nm 5 S.nd rfl (by first | exact Or.inl rfl | exact Or.inr rfl)) (pgts_cons (pgt_nm 6 S.nd rfl (by first | exact Or.inl rfl | exact Or.inr rfl)) pgts_nil)))))
 (mss_cons (ms_aug (i := 1) ip_add gIn_addI S.nd rfl (by first | exact Or.inl rfl | exact Or.inr rfl) (pe_if (pb_cmp (op_eqA hr.units) gEqA_ok (ph_v 4) (ph_d (pd_gint rfl T.c_ARRIVAL))) pd_int (pd_neg (ph_d pd_int))))
 (mss_one (ms_expr (pd_mt 2 PySem.F.plainAttrs_list PySem.F.slot_list_append PySem.F.type_list_append mt_append isL_ok gApp_ok (pds_cons (pd_v 1) pds_nil))))))
 (mss_one (ms_ret (px_v 2))))))
theorem sc_law_table : FnScope N_law_table ["_law_bag_here"] (defScope s_law_table) := ⟨rfl, rfl, rfl, by decide +kernel, rfl, by decide +kernel, by decide +kernel⟩
theorem b_law_table (T : Txt K mg) : Binds K T.d_law_table ["_law_bag_here"] [] := T.F_law_table.binds (ps := ["_law_bag_here"]) fun _ _ _ _ _ _ us hl => match us, hl with | [_], _ => rfl
set_option maxHeartbeats 8000000 in
theorem ok_law_table (T : Txt K mg) : FnG P w K mg base CX0 2 T.a_law_table T.d_law_table ["_law_bag_here"] (spI ⟨K, w⟩ F_law_table 1) :=
  have S := sc_law_table
  okI0 T.F_law_table S (by decide) fun cdv A fr s H E hr gd =>
 (mss_cons (ms_set S.nd (i := 1) rfl (by first | exact Or.inl rfl | exact Or.inr rfl) (px_d (pd_ix (ph_x (px_lst (pds_cons pd_int (pds_cons pd_int (pds_cons pd_int (pds_cons pd_int (pds_cons pd_int (pds_cons pd_int pds_nil)))))))) (ph_x (px_fnI 0 (ok_law_pick T) (hr.mono (by decide)) gd rfl T.m_law_pick T.F_law_pick.kp (b_law_pick T) pv0 (ln_io (ln_cons ln_nil)) (pds_cons pd_int pds_nil))))))
 (mss_cons (ms_set S.nd (i := 2) rfl (by first | exact Or.inl rfl | exact Or.inr rfl) (px_d (pd_ix (ph_x (px_lst (pds_cons (pd_x (px_fnI 0 (ok_law_pick T) (hr.mono (by decide)) gd rfl T.m_law_pick T.F_law_pick.kp (b_law_pick T) pv0 (ln_io (ln_cons ln_nil)) (pds_cons pd_int pds_nil))) (pds_cons (pd_x (px_fnI 0 (ok_law_pick T) (hr.mono (by decide)) gd rfl T.m_law_pick T.F_law_pick.kp (b_law_pick T) pv0 (ln_io (ln_cons ln_nil)) (pds_cons pd_int pds_nil))) (pds_cons (pd_x (px_fnI 0 (ok_law_pick T) (hr.mono (by decide)) gd rfl T.m_law_pick T.F_law_pick.kp (b_law_pick T) pv0 (ln_io (ln_cons ln_nil)) (pds_cons pd_int pds_nil))) pds_nil))))) (ph_x (px_fnI 0 (ok_law_pick T) (hr.mono (by decide)) gd rfl T.m_law_pick T.F_law_pick.kp (b_law_pick T) pv0 (ln_io (ln_cons ln_nil)) (pds_cons pd_int pds_nil))))))
 (mss_cons (ms_set S.nd (i := 3) rfl (by first | exact Or.inl rfl | exact Or.inr rfl) (px_d (pd_ix (ph_x (px_lst (pds_cons (pd_v 1) (pds_cons (pd_op op_mulW gMul_ok (ph_d pd_int) (ph_v 1)) (pds_cons (pd_op op_mulW gMul_ok (ph_d pd_int) (ph_v 1)) pds_nil))))) (ph_x (px_fnI 0 (ok_law_pick T) (hr.mono (by decide)) gd rfl T.m_law_pick T.F_law_pick.kp (b_law_pick T) pv0 (ln_io (ln_cons ln_nil)) (pds_cons pd_int pds_nil))))))
 (mss_cons (ms_set S.nd (i := 4) rfl (by first | exact Or.inl rfl | exact Or.inr rfl) (px_lst pds_nil))
 (mss_cons (ms_for PassesOwn.never rfl (pim_range1 rfl T.z_range (pds_cons (pd_v 2) pds_nil)) (pgt_nm 5 S.nd rfl (by first | exact Or.inl rfl | exact Or.inr rfl))
 (mss_one (ms_expr (pd_mt 4 PySem.F.plainAttrs_list PySem.F.slot_list_append PySem.F.type_list_append mt_append isL_ok gApp_ok (pds_cons (pd_tup (pds_cons (pd_x (px_fnI 0 (ok_law_pick T) (hr.mono (by decide)) gd rfl T.m_law_pick T.F_law_pick.kp (b_law_pick T) pv0 (ln_io (ln_cons ln_nil)) (pds_cons (pd_v 1) pds_nil))) (pds_cons (pd_op op_addA gAdd_ok (ph_d pd_int) (ph_x (px_fnI 0 (ok_law_pick T) (hr.mono (by decide)) gd rfl T.m_law_pick T.F_law_pick.kp (b_law_pick T) pv0 (ln_io (ln_cons ln_nil)) (pds_cons (pd_callB (call_min2 rfl) gMin2_ok rfl T.z_min PyProof.Rows.boot_min (phs_cons (ph_d pd_int) (phs_cons (ph_d (pe_if (pb_cmp op_lt gCmp_ok (ph_v 2) (ph_d pd_int)) (pd_v 3) (pd_op op_mulW gMul_ok (ph_d pd_int) (ph_v 1)))) phs_nil))) pds_nil)))) pds_nil))) pds_nil)))))
 (mss_one (ms_ret (px_d (pd_tup (pds_cons (pd_v 1) (pds_cons (pd_callT call_tuple_of gTuple_ok rfl T.z_tuple PySem.Pv.boot_tuple (phs_cons (ph_v 4) phs_nil)) pds_nil)))))))))))
theorem sc_law_levels : FnScope N_law_levels ["_law_table_here"] (defScope s_law_levels) := ⟨rfl, rfl, rfl, by decide +kernel, rfl, by decide +kernel, by decide +kernel⟩
theorem b_law_levels (T : Txt K mg) : Binds K T.d_law_levels ["_law_table_here"] [] := T.F_law_levels.binds (ps := ["_law_table_here"]) fun _ _ _ _ _ _ us hl => match us, hl with | [_], _ => rfl
set_option maxHeartbeats 8000000 in
theorem ok_law_levels (T : Txt K mg) : FnG P w K mg base CX0 2 T.a_law_levels T.d_law_levels ["_law_table_here"] (spD ⟨K, w⟩ F_law_levels 1) :=
  have S := sc_law_levels
  okD0 T.F_law_levels S (by decide) fun cdv A fr s H E hr gd =>
 (mss_cons (ms_set S.nd (i := 1) rfl (by first | exact Or.inl rfl | exact Or.inr rfl) (px_d pd_int))
 (mss_cons (ms_set S.nd (i := 2) rfl (by first | exact Or.inl rfl | exact Or.inr rfl) (px_lst pds_nil))
 (mss_cons (ms_for PassesOwn.never rfl (pim_seq (pd_x (px_fn (ok_law_events T) (hr.mono (by decide)) gd rfl T.m_law_events T.F_law_events.kp (b_law_events T) rfl pv0 (ln_cons (ln_cons ln_nil)) (pds_cons (pd_v 0) (pds_cons pd_int pds_nil))))) (pgt_tp rfl (pgts_cons (pgt_nm 3 S.nd rfl (by first | exact Or.inl rfl | exact Or.inr rfl)) (pgts_cons (pgt_nm 4 S.nd rfl (by first | exact Or.inl rfl | exact Or.inr rfl)) (pgts_cons (pgt_nm 5 S.nd rfl (by first | exact Or.inl rfl | exact Or.inr rfl)) (pgts_cons (pgt_nm 6 S.nd rfl (by first | exact Or.inl rfl | exact Or.inr rfl)) pgts_nil)))))
 (mss_cons (ms_set S.nd (i := 1) rfl (by first | exact Or.inl rfl | exact Or.inr rfl) (px_d (pd_op op_addA gAdd_ok (ph_v 1) (ph_d (pe_if (pb_cmp (op_eqA hr.units) gEqA_ok (ph_v 4) (ph_d pd_int)) pd_int (pd_neg (ph_d pd_int)))))))
 (mss_one (ms_if (pb_chain op_le op_lt gCmp_ok gCmp_ok (ph_d pd_int) (ph_v 3) (ph_d (pd_ix (ph_v 0) (ph_d pd_int))))
 (mss_one (ms_expr (pd_mt 2 PySem.F.plainAttrs_list PySem.F.slot_list_append PySem.F.type_list_append mt_append isL_ok gApp_ok (pds_cons (pd_v 1) pds_nil))))
 mss_nil))))
 (mss_one (ms_ret (px_v 2))))))
theorem sc_law_long_table : FnScope N_law_long_table ["_law_bag_here"] (defScope s_law_long_table) := ⟨rfl, rfl, rfl, by decide +kernel, rfl, by decide +kernel, by decide +kernel⟩
theorem b_law_long_table (T : Txt K mg) : Binds K T.d_law_long_table ["_law_bag_here"] [] := T.F_law_long_table.binds (ps := ["_law_bag_here"]) fun _ _ _ _ _ _ us hl => match us, hl with | [_], _ => rfl
set_option maxHeartbeats 8000000 in
theorem ok_law_long_table (T : Txt K mg) : FnG P w K mg base CX0 2 T.a_law_long_table T.d_law_long_table ["_law_bag_here"] (spI ⟨K, w⟩ F_law_long_table 1) :=
  have S := sc_law_long_table
  okI0 T.F_law_long_table S (by decide) fun cdv A fr s H E hr gd =>
 (mss_cons (ms_set S.nd (i := 1) rfl (by first | exact Or.inl rfl | exact Or.inr rfl) (px_d (pd_ix (ph_x (px_lst (pds_cons pd_int (pds_cons pd_int (pds_cons pd_int (pds_cons pd_int pds_nil)))))) (ph_x (px_fnI 0 (ok_law_pick T) (hr.mono (by decide)) gd rfl T.m_law_pick T.F_law_pick.kp (b_law_pick T) pv0 (ln_io (ln_cons ln_nil)) (pds_cons pd_int pds_nil))))))
 (mss_cons (ms_set S.nd (i := 2) rfl (by first | exact Or.inl rfl | exact Or.inr rfl) (px_d (pd_op op_addA gAdd_ok (ph_d pd_int) (ph_x (px_fnI 0 (ok_law_pick T) (hr.mono (by decide)) gd rfl T.m_law_pick T.F_law_pick.kp (b_law_pick T) pv0 (ln_io (ln_cons ln_nil)) (pds_cons pd_int pds_nil))))))
 (mss_cons (ms_set S.nd (i := 3) rfl (by first | exact Or.inl rfl | exact Or.inr rfl) (px_lst pds_nil))
 (mss_cons (ms_for PassesOwn.never rfl (pim_range1 rfl T.z_range (pds_cons (pd_v 2) pds_nil)) (pgt_nm 4 S.nd rfl (by first | exact Or.inl rfl | exact Or.inr rfl))
 (mss_cons (ms_set S.nd (i := 5) rfl (by first | exact Or.inl rfl | exact Or.inr rfl) (px_d (pd_callB (call_min2 rfl) gMin2_ok rfl T.z_min PyProof.Rows.boot_min (phs_cons (ph_d pd_int) (phs_cons (ph_d (pd_op op_mulW gMul_ok (ph_v 1) (ph_d (pd_op op_fdivW gDiv_ok (ph_d pd_int) (ph_v 2))))) phs_nil)))))
 (mss_one (ms_expr (pd_mt 3 PySem.F.plainAttrs_list PySem.F.slot_list_append PySem.F.type_list_append mt_append isL_ok gApp_ok (pds_cons (pd_tup (pds_cons (pd_x (px_fnI 0 (ok_law_pick T) (hr.mono (by decide)) gd rfl T.m_law_pick T.F_law_pick.kp (b_law_pick T) pv0 (ln_io (ln_cons ln_nil)) (pds_cons (pd_v 1) pds_nil))) (pds_cons (pd_ix (ph_x (px_lst (pds_cons (pd_v 5) (pds_cons (pd_op op_addA gAdd_ok (ph_d pd_int) (ph_x (px_fnI 0 (ok_law_pick T) (hr.mono (by decide)) gd rfl T.m_law_pick T.F_law_pick.kp (b_law_pick T) pv0 (ln_io (ln_cons ln_nil)) (pds_cons (pd_v 5) pds_nil)))) pds_nil)))) (ph_x (px_fnI 0 (ok_law_pick T) (hr.mono (by decide)) gd rfl T.m_law_pick T.F_law_pick.kp (b_law_pick T) pv0 (ln_io (ln_cons ln_nil)) (pds_cons pd_int pds_nil)))) pds_nil))) pds_nil))))))
 (mss_one (ms_ret (px_d (pd_tup (pds_cons (pd_v 1) (pds_cons (pd_callT call_tuple_of gTuple_ok rfl T.z_tuple PySem.Pv.boot_tuple (phs_cons (ph_v 3) phs_nil)) pds_nil))))))))))
theorem sc_is_ship : FnScope N_is_ship ["hours", "value"] (defScope s_is_ship) := ⟨rfl, rfl, rfl, by decide +kernel, rfl, by decide +kernel, by decide +kernel⟩
theorem b_is_ship (T : Txt K mg) : Binds K T.d_is_ship ["hours", "value"] [] := T.F_is_ship.binds (ps := ["hours", "value"]) fun _ _ _ _ _ _ us hl => match us, hl with | [_, _], _ => rfl
set_option maxHeartbeats 8000000 in
theorem ok_is_ship (T : Txt K mg) : FnG P w K mg base CX0 3 T.a_is_ship T.d_is_ship ["hours", "value"] (spD ⟨K, w⟩ F_is_ship 2) :=
  have S := sc_is_ship
  okD0 T.F_is_ship S (by decide) fun cdv A fr s H E hr gd =>
 (mss_cons (ms_if (pb_w (pbw_or (pb_not (pb_d (pd_isi rfl T.z_isinstance rfl T.z_tuple PySem.Pv.boot_tuple (ph_v 1)))) (pbw_or1 (pb_cmp (op_neA hr.units) gNeA_ok (ph_d (pd_callB call_lenA gLen_ok rfl T.z_len PySem.boot_len (phs_cons (ph_v 1) phs_nil))) (ph_d pd_int)))))
 (mss_one (ms_ret (px_d pd_bl)))
 mss_nil)
 (mss_one (ms_ret (px_d (pd_and (pd_x (px_fn (ok_in_range T) (hr.mono (by decide)) gd rfl T.m_in_range T.F_in_range.kp (b_in_range T) rfl pv0 (ln_cons (ln_cons (ln_cons ln_nil))) (pds_cons (pd_ix (ph_v 1) (ph_d pd_int)) (pds_cons pd_int (pds_cons (pd_op op_sub gI0_ok (ph_v 0) (ph_d pd_int)) pds_nil))))) (pd_one (pd_x (px_fn (ok_in_range T) (hr.mono (by decide)) gd rfl T.m_in_range T.F_in_range.kp (b_in_range T) rfl pv0 (ln_cons (ln_cons (ln_cons ln_nil))) (pds_cons (pd_ix (ph_v 1) (ph_d pd_int)) (pds_cons pd_int (pds_cons (pd_gint rfl T.c_MOST_STAY) pds_nil)))))))))))
theorem sc_peak_of : FnScope N_peak_of ["table"] (defScope s_peak_of) := ⟨rfl, rfl, rfl, by decide +kernel, rfl, by decide +kernel, by decide +kernel⟩
theorem b_peak_of (T : Txt K mg) : Binds K T.d_peak_of ["table"] [] := T.F_peak_of.binds (ps := ["table"]) fun _ _ _ _ _ _ us hl => match us, hl with | [_], _ => rfl
set_option maxHeartbeats 8000000 in
theorem ok_peak_of (T : Txt K mg) : FnG P w K mg base CX0 3 T.a_peak_of T.d_peak_of ["table"] (spD ⟨K, w⟩ F_peak_of 1) :=
  have S := sc_peak_of
  okD0 T.F_peak_of S (by decide) fun cdv A fr s H E hr gd =>
 (mss_one (ms_ret (px_d (pd_mxD (cr_maxD rfl) rfl T.z_max PyProof.Rows.boot_max (pds_cons (pd_x (px_fn (ok_counts T) (hr.mono (by decide)) gd rfl T.m_counts T.F_counts.kp (b_counts T) rfl pv0 (ln_cons ln_nil) (pds_cons (pd_v 0) pds_nil))) pds_nil) pd_int))))
theorem sc_is_table : FnScope N_is_table ["value"] (defScope s_is_table) := ⟨rfl, rfl, rfl, by decide +kernel, rfl, by decide +kernel, by decide +kernel⟩
theorem b_is_table (T : Txt K mg) : Binds K T.d_is_table ["value"] [] := T.F_is_table.binds (ps := ["value"]) fun _ _ _ _ _ _ us hl => match us, hl with | [_], _ => rfl
set_option maxHeartbeats 8000000 in
theorem ok_is_table (T : Txt K mg) : FnG P w K mg base CX0 4 T.a_is_table T.d_is_table ["value"] (spD ⟨K, w⟩ F_is_table 1) :=
  have S := sc_is_table
  okD0 T.F_is_table S (by decide) fun cdv A fr s H E hr gd =>
 (mss_cons (ms_if (pb_w (pbw_or (pb_not (pb_d (pd_isi rfl T.z_isinstance rfl T.z_tuple PySem.Pv.boot_tuple (ph_v 0)))) (pbw_or (pb_cmp (op_neA hr.units) gNeA_ok (ph_d (pd_callB call_lenA gLen_ok rfl T.z_len PySem.boot_len (phs_cons (ph_v 0) phs_nil))) (ph_d pd_int)) (pbw_or1 (pb_not (pb_d (pd_x (px_fn (ok_in_range T) (hr.mono (by decide)) gd rfl T.m_in_range T.F_in_range.kp (b_in_range T) rfl pv0 (ln_cons (ln_cons (ln_cons ln_nil))) (pds_cons (pd_ix (ph_v 0) (ph_d pd_int)) (pds_cons pd_int (pds_cons (pd_gint rfl T.c_MOST_HOURS) pds_nil)))))))))))
 (mss_one (ms_ret (px_d pd_bl)))
 mss_nil)
 (mss_cons (ms_asg (pgt_tp rfl (pgts_cons (pgt_nm 1 S.nd rfl (by first | exact Or.inl rfl | exact Or.inr rfl)) (pgts_cons (pgt_nm 2 S.nd rfl (by first | exact Or.inl rfl | exact Or.inr rfl)) pgts_nil))) (pd_v 0))
 (mss_cons (ms_if (pb_w (pbw_or (pb_not (pb_d (pd_isi rfl T.z_isinstance rfl T.z_tuple PySem.Pv.boot_tuple (ph_v 2)))) (pbw_or (pb_cmp op_gt gCmp_ok (ph_d (pd_callB call_lenA gLen_ok rfl T.z_len PySem.boot_len (phs_cons (ph_v 2) phs_nil))) (ph_d (pd_gint rfl T.c_MOST_SHIPS))) (pbw_or1 (pb_not (pb_d (pd_callB (cr_all rfl) gAll_ok rfl T.z_all PyProof.Rows.boot_all (phs_cons (ph_x (px_lc rfl S.nd (own := [("ship", 3)]) (pim_seq (pd_v 2)) (blkOk_by (N := N_is_table) (sc := defScope s_is_table) (by decide +kernel)) (by decide) (fun s H C cl fp => (pgt_nm 3 S.nd rfl (by first | exact Or.inl rfl | exact Or.inr rfl))) (fun s H C cl fp => pbs_nil) (fun s H C cl fp => (pd_x (px_fn (ok_is_ship T) (hr.mono (by decide)) gd rfl T.m_is_ship T.F_is_ship.kp (b_is_ship T) rfl pv0 (ln_cons (ln_cons ln_nil)) (pds_cons (pd_v 1) (pds_cons (pd_v 3) pds_nil))))))) phs_nil))))))))
 (mss_one (ms_ret (px_d pd_bl)))
 mss_nil)
 (mss_one (ms_ret (px_d (pd_cmp op_le gCmp_ok (ph_x (px_fn (ok_peak_of T) (hr.mono (by decide)) gd rfl T.m_peak_of T.F_peak_of.kp (b_peak_of T) rfl pv0 (ln_cons ln_nil) (pds_cons (pd_v 0) pds_nil))) (ph_d (pd_gint rfl T.c_MOST_PEAK)))))))))
theorem sc_require_table : FnScope N_require_table ["value"] (defScope s_require_table) := ⟨rfl, rfl, rfl, by decide +kernel, rfl, by decide +kernel, by decide +kernel⟩
theorem b_require_table (T : Txt K mg) : Binds K T.d_require_table ["value"] [] := T.F_require_table.binds (ps := ["value"]) fun _ _ _ _ _ _ us hl => match us, hl with | [_], _ => rfl
set_option maxHeartbeats 8000000 in
theorem ok_require_table (T : Txt K mg) : FnG P w K mg base CX0 5 T.a_require_table T.d_require_table ["value"] (spD ⟨K, w⟩ F_require_table 1) :=
  have S := sc_require_table
  okD0 T.F_require_table S (by decide) fun cdv A fr s H E hr gd =>
 (mss_one (ms_if (pb_not (pb_d (pd_x (px_fn (ok_is_table T) (hr.mono (by decide)) gd rfl T.m_is_table T.F_is_table.kp (b_is_table T) rfl pv0 (ln_cons ln_nil) (pds_cons (pd_v 0) pds_nil)))))
 (mss_one ms_no)
 mss_nil))
theorem sc_peak : FnScope N_peak ["table"] (defScope s_peak) := ⟨rfl, rfl, rfl, by decide +kernel, rfl, by decide +kernel, by decide +kernel⟩
theorem b_peak (T : Txt K mg) : Binds K T.d_peak ["table"] [] := T.F_peak.binds (ps := ["table"]) fun _ _ _ _ _ _ us hl => match us, hl with | [_], _ => rfl
set_option maxHeartbeats 8000000 in
theorem ok_peak (T : Txt K mg) : FnG P w K mg base CX0 6 T.a_peak T.d_peak ["table"] (spD ⟨K, w⟩ F_peak 1) :=
  have S := sc_peak
  okD0 T.F_peak S (by decide) fun cdv A fr s H E hr gd =>
 (mss_cons (ms_expr (px_fn (ok_require_table T) (hr.mono (by decide)) gd rfl T.m_require_table T.F_require_table.kp (b_require_table T) rfl pv0 (ln_cons ln_nil) (pds_cons (pd_v 0) pds_nil)))
 (mss_one (ms_ret (px_fn (ok_peak_of T) (hr.mono (by decide)) gd rfl T.m_peak_of T.F_peak_of.kp (b_peak_of T) rfl pv0 (ln_cons ln_nil) (pds_cons (pd_v 0) pds_nil)))))
theorem sc_low : FnScope N_low ["table"] (defScope s_low) := ⟨rfl, rfl, rfl, by decide +kernel, rfl, by decide +kernel, by decide +kernel⟩
theorem b_low (T : Txt K mg) : Binds K T.d_low ["table"] [] := T.F_low.binds (ps := ["table"]) fun _ _ _ _ _ _ us hl => match us, hl with | [_], _ => rfl
set_option maxHeartbeats 8000000 in
theorem ok_low (T : Txt K mg) : FnG P w K mg base CX0 6 T.a_low T.d_low ["table"] (spD ⟨K, w⟩ F_low 1) :=
  have S := sc_low
  okD0 T.F_low S (by decide) fun cdv A fr s H E hr gd =>
 (mss_cons (ms_expr (px_fn (ok_require_table T) (hr.mono (by decide)) gd rfl T.m_require_table T.F_require_table.kp (b_require_table T) rfl pv0 (ln_cons ln_nil) (pds_cons (pd_v 0) pds_nil)))
 (mss_one (ms_ret (px_d (pd_mxD (cr_minD rfl) rfl T.z_min PyProof.Rows.boot_min (pds_cons (pd_x (px_fn (ok_counts T) (hr.mono (by decide)) gd rfl T.m_counts T.F_counts.kp (b_counts T) rfl pv0 (ln_cons ln_nil) (pds_cons (pd_v 0) pds_nil))) pds_nil) pd_int)))))
theorem sc_present : FnScope N_present ["table", "hour"] (defScope s_present) := ⟨rfl, rfl, rfl, by decide +kernel, rfl, by decide +kernel, by decide +kernel⟩
theorem b_present (T : Txt K mg) : Binds K T.d_present ["table", "hour"] [] := T.F_present.binds (ps := ["table", "hour"]) fun _ _ _ _ _ _ us hl => match us, hl with | [_, _], _ => rfl
set_option maxHeartbeats 8000000 in
theorem ok_present (T : Txt K mg) : FnG P w K mg base CX0 6 T.a_present T.d_present ["table", "hour"] (spD ⟨K, w⟩ F_present 2) :=
  have S := sc_present
  okD0 T.F_present S (by decide) fun cdv A fr s H E hr gd =>
 (mss_cons (ms_expr (px_fn (ok_require_table T) (hr.mono (by decide)) gd rfl T.m_require_table T.F_require_table.kp (b_require_table T) rfl pv0 (ln_cons ln_nil) (pds_cons (pd_v 0) pds_nil)))
 (mss_cons (ms_asg (pgt_tp rfl (pgts_cons (pgt_nm 3 S.nd rfl (by first | exact Or.inl rfl | exact Or.inr rfl)) (pgts_cons (pgt_nm 4 S.nd rfl (by first | exact Or.inl rfl | exact Or.inr rfl)) pgts_nil))) (pd_v 0))
 (mss_cons (ms_if (pb_not (pb_d (pd_x (px_fn (ok_in_range T) (hr.mono (by decide)) gd rfl T.m_in_range T.F_in_range.kp (b_in_range T) rfl pv0 (ln_cons (ln_cons (ln_cons ln_nil))) (pds_cons (pd_v 1) (pds_cons pd_int (pds_cons (pd_op op_sub gI0_ok (ph_v 3) (ph_d pd_int)) pds_nil)))))))
 (mss_one ms_no)
 mss_nil)
 (mss_cons (ms_set S.nd (i := 2) rfl (by first | exact Or.inl rfl | exact Or.inr rfl) (px_lst pds_nil))
 (mss_cons (ms_for PassesOwn.never rfl (pim_enum rfl T.z_enumerate (pd_v 4)) (pgt_tp rfl (pgts_cons (pgt_nm 5 S.nd rfl (by first | exact Or.inl rfl | exact Or.inr rfl)) (pgts_cons (pgt_tp rfl (pgts_cons (pgt_nm 7 S.nd rfl (by first | exact Or.inl rfl | exact Or.inr rfl)) (pgts_cons (pgt_nm 8 S.nd rfl (by first | exact Or.inl rfl | exact Or.inr rfl)) pgts_nil))) pgts_nil)))
 (mss_cons (ms_set S.nd (i := 6) rfl (by first | exact Or.inl rfl | exact Or.inr rfl) (px_d (pe_if (pb_cmp op_le gCmp_ok (ph_v 7) (ph_v 1)) pd_int pd_int)))
 (mss_one (ms_while fuel PassesOwn.never (pb_cmp op_lt gCmp_ok (ph_d (pd_op op_sub gI0_ok (ph_d (pd_op op_addA gAdd_ok (ph_v 1) (ph_d (pd_op op_mulW gMul_ok (ph_v 6) (ph_v 3))))) (ph_v 7))) (ph_v 8))
 (mss_cons (ms_expr (pd_mt 2 PySem.F.plainAttrs_list PySem.F.slot_list_append PySem.F.type_list_append mt_append isL_ok gApp_ok (pds_cons (pd_tup (pds_cons (pd_neg (ph_v 6)) (pds_cons (pd_v 7) (pds_cons (pd_v 5) pds_nil)))) pds_nil)))
 (mss_one (ms_aug (i := 6) ip_add gIn_addI S.nd rfl (by first | exact Or.inl rfl | exact Or.inr rfl) pd_int)))))))
 (mss_one (ms_ret (px_lc rfl S.nd (own := [("negative", 9), ("arrival", 7), ("ship", 5)]) (pim_seq (pd_x (px_callB cr_sortedA gSorted_ok rfl T.z_sorted PyProof.Rows.boot_sorted (phs_cons (ph_v 2) phs_nil)))) (blkOk_by (N := N_present) (sc := defScope s_present) (by decide +kernel)) (by decide) (fun s H C cl fp => (pgt_tp rfl (pgts_cons (pgt_nm 9 S.nd rfl (by first | exact Or.inl rfl | exact Or.inr rfl)) (pgts_cons (pgt_nm 7 S.nd rfl (by first | exact Or.inl rfl | exact Or.inr rfl)) (pgts_cons (pgt_nm 5 S.nd rfl (by first | exact Or.inl rfl | exact Or.inr rfl)) pgts_nil))))) (fun s H C cl fp => pbs_nil) (fun s H C cl fp => (pd_tup (pds_cons (pd_v 5) (pds_cons (pd_neg (ph_v 9)) pds_nil))))))))))))
theorem sc_law : FnScope N_law ["_law_script"] (defScope s_law) := ⟨rfl, rfl, rfl, by decide +kernel, rfl, by decide +kernel, by decide +kernel⟩
theorem b_law (T : Txt K mg) : Binds K T.d_law ["_law_script"] [] := T.F_law.binds (ps := ["_law_script"]) fun _ _ _ _ _ _ us hl => match us, hl with | [_], _ => rfl
set_option maxHeartbeats 8000000 in
theorem ok_law (T : Txt K mg) : FnG P w K mg base CX0 7 T.a_law T.d_law ["_law_script"] (spD ⟨K, w⟩ F_law 1) :=
  have S := sc_law
  okD0 T.F_law S (by decide) fun cdv A fr s H E hr gd =>
 (mss_cons (ms_for PassesOwn.never rfl (pim_seq (pd_x (px_op op_plus gPlus_ok (ph_x (px_slice (ph_v 0) pp_none (pp_some pd_int))) (ph_x (px_lst (pds_cons pd_int pds_nil)))))) (pgt_nm 1 S.nd rfl (by first | exact Or.inl rfl | exact Or.inr rfl))
 (mss_cons (ms_set S.nd (i := 2) rfl (by first | exact Or.inl rfl | exact Or.inr rfl) (px_fn (ok_law_bag T) (hr.mono (by decide)) gd rfl T.m_law_bag T.F_law_bag.kp (b_law_bag T) rfl pv0 (ln_cons ln_nil) (pds_cons (pd_v 1) pds_nil)))
 (mss_cons (ms_set S.nd (i := 3) rfl (by first | exact Or.inl rfl | exact Or.inr rfl) (pe_if (pb_cmp op_gt gCmp_ok (ph_x (px_fnI 2 (ok_law_pick T) (hr.mono (by decide)) gd rfl T.m_law_pick T.F_law_pick.kp (b_law_pick T) pv0 (ln_io (ln_cons ln_nil)) (pds_cons pd_int pds_nil))) (ph_d pd_int)) (px_fnI 2 (ok_law_table T) (hr.mono (by decide)) gd rfl T.m_law_table T.F_law_table.kp (b_law_table T) pv0 (ln_io ln_nil) pds_nil) (px_fnI 2 (ok_law_long_table T) (hr.mono (by decide)) gd rfl T.m_law_long_table T.F_law_long_table.kp (b_law_long_table T) pv0 (ln_io ln_nil) pds_nil)))
 (mss_cons (ms_set S.nd (i := 4) rfl (by first | exact Or.inl rfl | exact Or.inr rfl) (px_fn (ok_law_levels T) (hr.mono (by decide)) gd rfl T.m_law_levels T.F_law_levels.kp (b_law_levels T) rfl pv0 (ln_cons ln_nil) (pds_cons (pd_v 3) pds_nil)))
 (mss_cons (ms_if (pb_w (pbw_or (pb_cmp (op_neA hr.units) gNeA_ok (ph_d (pd_callB (call_repr hr gd) gRepr_ok rfl T.z_repr PyProof.Rows.bootS_repr (phs_cons (ph_x (px_fn (ok_peak T) (hr.mono (by decide)) gd rfl T.m_peak T.F_peak.kp (b_peak T) rfl pv0 (ln_cons ln_nil) (pds_cons (pd_v 3) pds_nil))) phs_nil))) (ph_d (pd_callB (call_repr hr gd) gRepr_ok rfl T.z_repr PyProof.Rows.bootS_repr (phs_cons (ph_d (pd_callB (cr_max rfl) gMax1_ok rfl T.z_max PyProof.Rows.boot_max (phs_cons (ph_x (px_op op_plus gPlus_ok (ph_v 4) (ph_x (px_lst (pds_cons pd_int pds_nil))))) phs_nil))) phs_nil)))) (pbw_or1 (pb_cmp (op_neA hr.units) gNeA_ok (ph_d (pd_callB (call_repr hr gd) gRepr_ok rfl T.z_repr PyProof.Rows.bootS_repr (phs_cons (ph_x (px_fn (ok_low T) (hr.mono (by decide)) gd rfl T.m_low T.F_low.kp (b_low T) rfl pv0 (ln_cons ln_nil) (pds_cons (pd_v 3) pds_nil))) phs_nil))) (ph_d (pd_callB (call_repr hr gd) gRepr_ok rfl T.z_repr PyProof.Rows.bootS_repr (phs_cons (ph_d (pe_if (pb_cmp (op_neA hr.units) gNeA_ok (ph_v 4) (ph_x (px_lst pds_nil))) (pd_callB (cr_min rfl) gMin1_ok rfl T.z_min PyProof.Rows.boot_min (phs_cons (ph_v 4) phs_nil)) pd_int)) phs_nil)))))))
 (mss_one (ms_ret (px_d pd_bl)))
 mss_nil)
 (mss_cons (ms_set S.nd (i := 5) rfl (by first | exact Or.inl rfl | exact Or.inr rfl) (px_d (pd_ix (ph_v 3) (ph_d pd_int))))
 (mss_cons (ms_set S.nd (i := 6) rfl (by first | exact Or.inl rfl | exact Or.inr rfl) (px_op op_plus gPlus_ok (ph_x (px_op op_plus gPlus_ok (ph_x (px_lst (pds_cons pd_int (pds_cons (pd_op op_sub gI0_ok (ph_v 5) (ph_d pd_int)) pds_nil)))) (ph_x (px_lc rfl S.nd (own := [("_law_k", 11)]) (pim_range1 rfl T.z_range (pds_cons pd_int pds_nil)) (blkOk_by (N := N_law) (sc := defScope s_law) (by decide +kernel)) (by decide) (fun s H C cl fp => (pgt_nm 11 S.nd rfl (by first | exact Or.inl rfl | exact Or.inr rfl))) (fun s H C cl fp => pbs_nil) (fun s H C cl fp => (pd_x (px_fnI 2 (ok_law_pick T) (hr.mono (by decide)) gd rfl T.m_law_pick T.F_law_pick.kp (b_law_pick T) pv0 (ln_io (ln_cons ln_nil)) (pds_cons (pd_v 5) pds_nil)))))))) (ph_x (px_lc rfl S.nd (own := [("_law_ship", 10)]) (pim_seq (pd_x (px_slice (ph_d (pd_ix (ph_v 3) (ph_d pd_int))) pp_none (pp_some pd_int)))) (blkOk_by (N := N_law) (sc := defScope s_law) (by decide +kernel)) (by decide) (fun s H C cl fp => (pgt_nm 10 S.nd rfl (by first | exact Or.inl rfl | exact Or.inr rfl))) (fun s H C cl fp => pbs_nil) (fun s H C cl fp => (pd_ix (ph_v 10) (ph_d pd_int)))))))
 (mss_one (ms_for PassesOwn.never rfl (pim_seq (pd_v 6)) (pgt_nm 7 S.nd rfl (by first | exact Or.inl rfl | exact Or.inr rfl))
 (mss_one (ms_for PassesOwn.never rfl (pim_range1 rfl T.z_range (pds_cons pd_int pds_nil)) (pgt_nm 8 S.nd rfl (by first | exact Or.inl rfl | exact Or.inr rfl))
 (mss_cons (ms_set S.nd (i := 9) rfl (by first | exact Or.inl rfl | exact Or.inr rfl) (px_fn (ok_present T) (hr.mono (by decide)) gd rfl T.m_present T.F_present.kp (b_present T) rfl pv0 (ln_cons (ln_cons ln_nil)) (pds_cons (pd_v 3) (pds_cons (pd_v 7) pds_nil))))
 (mss_cons (ms_if (pb_cmp (op_neA hr.units) gNeA_ok (ph_d (pd_callB (call_repr hr gd) gRepr_ok rfl T.z_repr PyProof.Rows.bootS_repr (phs_cons (ph_v 9) phs_nil))) (ph_d (pd_callB (call_repr hr gd) gRepr_ok rfl T.z_repr PyProof.Rows.bootS_repr (phs_cons (ph_x (px_fn (ok_law_here T) (hr.mono (by decide)) gd rfl T.m_law_here T.F_law_here.kp (b_law_here T) rfl pv0 (ln_cons (ln_cons ln_nil)) (pds_cons (pd_v 3) (pds_cons (pd_v 7) pds_nil)))) phs_nil))))
 (mss_one (ms_ret (px_d pd_bl)))
 mss_nil)
 (mss_one (ms_expr (pd_mt 9 PySem.F.plainAttrs_list PySem.F.slot_list_append PySem.F.type_list_append mt_append isL_ok gApp_ok (pds_cons pd_non pds_nil)))))))))))))))))
 (mss_one (ms_ret (px_d pd_bl))))
end
end LawK02

/-! Am15: running mirrors, in plain Lean. -/
namespace Am
open PySem L2

abbrev Rs (α : Type) := Option (Except Exc α × AEnv)
def nxt {α β : Type} (o : Rs α) (f : α → M β) : Rs β := match o with
  | none => none
  | some (.error e, a) => some (.error e, a)
  | some (.ok r, a) => f r a
def ofO {γ : Type} (a : AEnv) (o : Option γ) : Rs γ := o.map fun r => (.ok r, a)
section
variable {α β γ : Type} {a : AEnv}
@[simp] theorem nxt_ok (r : α) (f : α → M β) : nxt (some (.ok r, a)) f = f r a := rfl
@[simp] theorem nxt_none (f : α → M β) : nxt none f = none := rfl
@[simp] theorem nxt_err (e : Exc) (f : α → M β) : nxt (some (.error e, a)) f = some (.error e, a) := rfl
@[simp] theorem ofO_some (r : γ) : ofO a (some r) = some (.ok r, a) := rfl
@[simp] theorem ofO_none : ofO a (none : Option γ) = none := rfl
@[simp] theorem bind_app (m : M α) (f : α → M β) : M.bind m f a = nxt (m a) f := by
  unfold M.bind nxt
  cases m a with
  | none => rfl
  | some x =>
    obtain ⟨x1, a1⟩ := x
    cases x1 <;> rfl
@[simp] theorem pure_app (r : α) : M.pure r a = some (.ok r, a) := rfl
@[simp] theorem fail_app : (M.fail : M α) a = none := rfl
@[simp] theorem of_app (o : Option α) : M.of o a = ofO a o := by cases o <;> rfl
@[simp] theorem get_app : M.get a = some (.ok a, a) := rfl
@[simp] theorem map_app (f : α → β) (m : M α) : M.map f m a = nxt (m a) fun x => M.pure (f x) := by rw [M.map, bind_app]
@[simp] theorem mFrz_app (m : M Sl) : mFrz m a = nxt (m a) fun s => M.of (frz s) := by rw [mFrz, bind_app]
@[simp] theorem mX_app (m : M PyData) : mX m a = nxt (m a) fun d => M.pure (.dat d) := by rw [mX, map_app]
@[simp] theorem mH_app (m : M PyData) : mH m a = nxt (m a) fun d => M.pure fun _ => some d := by rw [mH, map_app]
@[simp] theorem frz_dat (d : PyData) : frz (.dat d) = some d := rfl
@[simp] theorem frz_lst (d : List PyData) : frz (.lst d) = some (.list d) := rfl
@[simp] theorem frz_dk0 : frz (.dk []) = some (.dict []) := rfl
@[simp] theorem cont_dat (d : PyData) : cont (.dat d) = some d := rfl
@[simp] theorem cont_lst (d : List PyData) : cont (.lst d) = some (.list d) := rfl
@[simp] theorem hV_app (i : Nat) : hV i a = (a[i]?).bind cont := rfl
@[simp] theorem mV_app (i : Nat) : mV i a = ((a[i]?).bind cont).map fun _ => (.ok (hV i), a) := by
  unfold mV
  cases (a[i]?).bind cont <;> rfl
def vdO (i : Nat) (a : AEnv) : Option Sl → Rs PyData
  | some (.dat d) => some (.ok d, a)
  | some (.lst ds) => some (.ok (.list ds), a.set i (.dat (.list ds)))
  | _ => none
@[simp] theorem mVD_app (i : Nat) : mVD i a = vdO i a a[i]? := by
  unfold mVD vdO
  rfl
@[simp] theorem vdO_dat (i : Nat) (d : PyData) : vdO i a (some (.dat d)) = some (.ok d, a) := rfl
@[simp] theorem vdO_lst (i : Nat) (ds : List PyData) : vdO i a (some (.lst ds)) = some (.ok (.list ds), a.set i (.dat (.list ds))) := rfl
def vxO (i : Nat) (a : AEnv) : Option Sl → Rs Sl
  | some .un => none
  | some (.dat d) => some (.ok (.dat d), a)
  | some s => some (.ok s, a.set i .un)
  | none => none
@[simp] theorem mVX_app (i : Nat) : mVX i a = vxO i a a[i]? := by
  unfold mVX vxO
  rfl
@[simp] theorem vxO_dat (i : Nat) (d : PyData) : vxO i a (some (.dat d)) = some (.ok (.dat d), a) := rfl
@[simp] theorem vxO_lst (i : Nat) (ds : List PyData) : vxO i a (some (.lst ds)) = some (.ok (.lst ds), a.set i .un) := rfl
@[simp] theorem mB_app (ma mb : M Hn) (g : PyData → PyData → Option γ) : mB ma mb g a = nxt (ma a) fun h1 a1 => nxt (mb a1) fun h2 a2 => ofO a2 ((h1 a2).bind fun d1 => (h2 a2).bind fun d2 => g d1 d2) := by
  rw [mB, bind_app]
  congr 1
  funext h1 a1
  rw [bind_app]
  congr 1
  funext h2 a2
  rw [bind_app, get_app, nxt_ok, bind_app, of_app]
  cases h1 a2 with
  | none => rfl
  | some d1 =>
    rw [ofO_some, nxt_ok, bind_app, of_app]
    cases h2 a2 <;> simp
@[simp] theorem mOp_app (ma mb : M Hn) (g : G2) : mOp g ma mb a = nxt (ma a) fun h1 a1 => nxt (mb a1) fun h2 a2 => ofO a2 ((h1 a2).bind fun d1 => (h2 a2).bind fun d2 => nU (g d1 d2)) := by rw [mOp, mB_app]
@[simp] theorem mU_app (ma : M Hn) (g : PyData → Option γ) : mU ma g a = nxt (ma a) fun h1 a1 => ofO a1 ((h1 a1).bind g) := by
  rw [mU, bind_app]
  congr 1
  funext h1 a1
  rw [bind_app, get_app, nxt_ok, bind_app, of_app]
  cases h1 a1 <;> simp
@[simp] theorem nU_dat (d : PyData) : nU (some (.dat d)) = some (.dat d) := rfl
@[simp] theorem nU_lst (d : List PyData) : nU (some (.lst d)) = some (.lst d) := rfl
@[simp] theorem nU_none : nU none = none := rfl
@[simp] theorem mTru_app (m : M PyData) : mTru m a = nxt (m a) fun d => M.of (gTru d) := by rw [mTru, bind_app]
@[simp] theorem gTru_b (b : Bool) : gTru (.bool b) = some b := rfl
@[simp] theorem mAnd_app (k l : M Bool) : mAnd k l a = nxt (k a) fun b => if b = true then l else M.pure false := by rw [mAnd, bind_app]
@[simp] theorem mOr_app (k l : M Bool) : mOr k l a = nxt (k a) fun b => if b = true then M.pure true else l := by rw [mOr, bind_app]
@[simp] theorem mNot_app (k : M Bool) : mNot k a = nxt (k a) fun b => M.pure (!b) := by rw [mNot, map_app]
@[simp] theorem mAndV_app (k l : M PyData) : mAndV k l a = nxt (k a) fun d => M.bind (M.of (gTru d)) fun b => if b = true then l else M.pure (.bool false) := by rw [mAndV, bind_app]
@[simp] theorem mOrV_app (k l : M PyData) : mOrV k l a = nxt (k a) fun d => M.bind (M.of (gTru d)) fun b => if b = true then M.pure (.bool true) else l := by rw [mOrV, bind_app]
@[simp] theorem mNotV_app (k : M PyData) : mNotV k a = nxt (k a) fun d => M.bind (M.of (gTru d)) fun b => M.pure (.bool (!b)) := by rw [mNotV, bind_app]
@[simp] theorem mIf_app (k : M Bool) (x y : M γ) : mIf k x y a = nxt (k a) fun b => if b = true then x else y := by rw [mIf, bind_app]
@[simp] theorem mChain_app (g g' : B2) (x y z : M Hn) : mChain g g' x y z a = nxt (x a) fun h1 a1 => nxt (y a1) fun h2 a2 => nxt (ofO a2 ((h1 a2).bind fun d1 => (h2 a2).bind fun d2 => g d1 d2)) fun k => if k = true then (fun a3 => nxt (z a3) fun h3 a4 => ofO a4 ((h2 a4).bind fun d2 => (h3 a4).bind fun d3 => g' d2 d3)) else M.pure false := by
  rw [mChain, bind_app]
  congr 1
  funext h1 a1
  rw [bind_app]
  congr 1
  funext h2 a2
  rw [bind_app, get_app, nxt_ok, bind_app, of_app]
  cases h1 a2 with
  | none => rfl
  | some d1 =>
    rw [ofO_some, nxt_ok, bind_app, of_app]
    cases h2 a2 with
    | none => rfl
    | some d2 =>
      rw [ofO_some, nxt_ok, bind_app, of_app]
      show nxt (ofO a2 (g d1 d2)) _ = nxt (ofO a2 (g d1 d2)) _
      congr 1
      funext k
      cases k with
      | false => rfl
      | true =>
        funext a3
        simp only [if_true, bind_app]
        congr 1
        funext h3 a4
        rw [bind_app, get_app, nxt_ok, bind_app, of_app]
        cases h2 a4 with
        | none => rfl
        | some d2' =>
          rw [ofO_some, nxt_ok, bind_app, of_app]
          cases h3 a4 <;> simp
def seqO (o : Rs Fl) (r : M Fl) : Rs Fl := match o with
  | some (.ok .nx, a) => r a
  | o => o
@[simp] theorem mSeq_app (m r : M Fl) : mSeq m r a = seqO (m a) r := by
  unfold mSeq M.bind seqO
  cases m a with
  | none => rfl
  | some x =>
    obtain ⟨x1, a1⟩ := x
    cases x1 with
    | error e => rfl
    | ok f => cases f <;> rfl
@[simp] theorem seqO_nx (r : M Fl) : seqO (some (.ok .nx, a)) r = r a := rfl
@[simp] theorem seqO_ret (s : Sl) (r : M Fl) : seqO (some (.ok (.ret s), a)) r = some (.ok (.ret s), a) := rfl
@[simp] theorem seqO_brk (r : M Fl) : seqO (some (.ok .brk, a)) r = some (.ok .brk, a) := rfl
@[simp] theorem seqO_ct (r : M Fl) : seqO (some (.ok .ct, a)) r = some (.ok .ct, a) := rfl
@[simp] theorem seqO_none (r : M Fl) : seqO none r = none := rfl
@[simp] theorem seqO_err (e : Exc) (r : M Fl) : seqO (some (.error e, a)) r = some (.error e, a) := rfl
@[simp] theorem mDrop_app (m : M γ) : mDrop m a = nxt (m a) fun _ => M.pure .nx := by rw [mDrop, bind_app]
@[simp] theorem mRet_app (m : M Sl) : mRet m a = nxt (m a) fun s => M.pure (.ret s) := by rw [mRet, bind_app]
@[simp] theorem mIfS_app (c : M Bool) (m r : M Fl) : mIfS c m r a = nxt (c a) fun b => if b = true then m else r := by rw [mIfS, bind_app]
@[simp] theorem mPut_app (f : AEnv → Option AEnv) : mPut f a = (f a).map fun a' => (.ok .nx, a') := rfl
@[simp] theorem putS_app (i : Nat) (s : Sl) : putS i s a = if s.owned = true ∧ i = 0 then none else if i < a.length then some (a.set i s) else none := rfl
@[simp] theorem owned_dat (d : PyData) : (Sl.dat d).owned = false := rfl
@[simp] theorem owned_lst (d : List PyData) : (Sl.lst d).owned = true := rfl
@[simp] theorem owned_un : Sl.un.owned = false := rfl
@[simp] theorem owned_st (d : List Int) : (Sl.st d).owned = true := rfl
@[simp] theorem owned_dk (d : List (Key × PyData)) : (Sl.dk d).owned = true := rfl
@[simp] theorem mAsg_app (i : Nat) (m : M Sl) : mAsg i m a = nxt (m a) fun s => mPut (putS i s) := by rw [mAsg, bind_app]
@[simp] theorem mAsgT_app (t : Tgt) (m : M PyData) : mAsgT t m a = nxt (m a) fun d => mPut (t.put d) := by rw [mAsgT, bind_app]
@[simp] theorem put_nm (i : Nat) (d : PyData) : (Tgt.nm i).put d a = putS i (.dat d) a := by rw [Tgt.put]
@[simp] theorem put_tp (ts : List Tgt) (ds : List PyData) : (Tgt.tp ts).put (.tuple ds) a = Tgt.puts ts ds a := by rw [Tgt.put]
@[simp] theorem puts_nil : Tgt.puts [] [] a = some a := by rw [Tgt.puts]
@[simp] theorem puts_cons (t : Tgt) (ts : List Tgt) (d : PyData) (ds : List PyData) : Tgt.puts (t :: ts) (d :: ds) a = (t.put d a).bind (Tgt.puts ts ds) := by
  rw [Tgt.puts]
  cases t.put d a <;> rfl
def augO (i : Nat) (m : M PyData) (g : D2) (a : AEnv) : Option Sl → Rs Fl
  | some (.dat d) => nxt (m a) fun e a1 => nxt (ofO a1 (g d e)) fun z => mPut (putS i (.dat z))
  | _ => none
@[simp] theorem mAug_app (i : Nat) (m : M PyData) (g : D2) : mAug i m g a = augO i m g a a[i]? := by
  unfold mAug augO
  cases a[i]? with
  | none => rfl
  | some s =>
    cases s with
    | dat d =>
      dsimp only
      rw [bind_app]
      congr 1
      funext e a1
      rw [bind_app, of_app]
    | _ => rfl
@[simp] theorem augO_dat (i : Nat) (m : M PyData) (g : D2) (d : PyData) : augO i m g a (some (.dat d)) = nxt (m a) fun e a1 => nxt (ofO a1 (g d e)) fun z => mPut (putS i (.dat z)) := rfl
@[simp] theorem mDs_app (m : M PyData) (r : M (List PyData)) : mDs m r a = nxt (m a) fun d => M.bind r fun ds => M.pure (d :: ds) := by rw [mDs, bind_app]
@[simp] theorem mHs_app (m : M Hn) (r : M (List Hn)) : mHs m r a = nxt (m a) fun d => M.bind r fun ds => M.pure (d :: ds) := by rw [mHs, bind_app]
@[simp] theorem mSs_app (m : M Sl) (r : M (List Sl)) : mSs m r a = nxt (m a) fun d => M.bind r fun ds => M.pure (d :: ds) := by rw [mSs, bind_app]
@[simp] theorem mTup_app (m : M (List PyData)) : mTup m a = nxt (m a) fun ds => M.of (if ds.length ≤ lineN then some (.tuple ds) else none) := by rw [mTup, bind_app]
@[simp] theorem mLst_app (m : M (List PyData)) : mLst m a = nxt (m a) fun ds => M.of (if ds.length ≤ lineN then some (.lst ds) else none) := by rw [mLst, bind_app]
def parS (i j : Nat) : List Sl → M Fl
  | [s, t] => mPut (put2 i j s t)
  | _ => M.fail
@[simp] theorem parS_two (i j : Nat) (s t : Sl) : parS i j [s, t] = mPut (put2 i j s t) := rfl
@[simp] theorem mPar_app (i j : Nat) (m : M (List Sl)) : mPar i j m a = nxt (m a) (parS i j) := by
  rw [mPar, bind_app]
  rfl
@[simp] theorem mCall_app (m : M (List Hn)) (g : List PyData → Option γ) : mCall m g a = nxt (m a) fun hs a1 => ofO a1 ((rdAll a1 hs).bind g) := by
  rw [mCall, bind_app]
  congr 1
  funext hs a1
  rw [bind_app, get_app, nxt_ok, bind_app, of_app]
  cases rdAll a1 hs <;> simp
@[simp] theorem rdAll_nil : rdAll a [] = some [] := rfl
@[simp] theorem rdAll_cons (h : Hn) (hs : List Hn) : rdAll a (h :: hs) = (h a).bind fun d => (rdAll a hs).map fun ds => d :: ds := by
  rw [rdAll]
  cases h a with
  | none => rfl
  | some d =>
    cases rdAll a hs <;> rfl
@[simp] theorem mIter_app (m : M PyData) : mIter m a = nxt (m a) fun d => M.of (seqItems d) := by rw [mIter, bind_app]
@[simp] theorem mRng_app (m : M (List PyData)) (g : List PyData → Option (List PyData)) : mRng m g a = nxt (m a) fun d => M.of (g d) := by rw [mRng, bind_app]
@[simp] theorem mEnum_app (m : M PyData) : mEnum m a = nxt (m a) fun d => M.bind (M.of (seqItems d)) fun ds => M.pure (enumD 0 ds) := by rw [mEnum, bind_app]
@[simp] theorem seqItems_l (ds : List PyData) : seqItems (.list ds) = some ds := rfl
@[simp] theorem seqItems_t (ds : List PyData) : seqItems (.tuple ds) = some ds := rfl
@[simp] theorem mFor_app (mi : M (List PyData)) (t : Tgt) (b : M Fl) : mFor mi t b a = nxt (mi a) fun items => forL t b items := by rw [mFor, bind_app]
@[simp] theorem mSl_app (m : M Hn) (l h : M (Option Int)) : mSl m l h a = nxt (m a) fun h1 => M.bind l fun lo => M.bind h fun hi => M.bind M.get fun a => M.bind (M.of (h1 a)) fun d1 => M.of (nU (gSl d1 lo hi)) := by rw [mSl, bind_app]
@[simp] theorem mMxD_app (f : List Int → Option Int) (m : M (List PyData)) (md : M PyData) : mMxD f m md a = nxt (m a) fun ds => M.bind md fun z => M.of (gMxD f ds z) := by rw [mMxD, bind_app]
def upO {γ : Type} (i : Nat) (g : Sl → Option (γ × Sl)) (a : AEnv) : Option Sl → Rs γ
  | some s => if s.owned then (g s).map fun r => (.ok r.1, a.set i r.2) else none
  | none => none
@[simp] theorem mUp_app (i : Nat) (g : Sl → Option (γ × Sl)) : mUp i g a = upO i g a a[i]? := by
  unfold mUp upO
  cases a[i]? <;> rfl
@[simp] theorem upO_lst (i : Nat) (g : Sl → Option (γ × Sl)) (ds : List PyData) : upO i g a (some (.lst ds)) = (g (.lst ds)).map fun r => (.ok r.1, a.set i r.2) := rfl
@[simp] theorem upO_st (i : Nat) (g : Sl → Option (γ × Sl)) (ds : List Int) : upO i g a (some (.st ds)) = (g (.st ds)).map fun r => (.ok r.1, a.set i r.2) := rfl
def chkO (chk : Sl → Bool) (a : AEnv) : Option Sl → Rs Unit
  | some s => if s.owned && chk s then some (.ok (), a) else none
  | none => none
@[simp] theorem mChk_app (i : Nat) (chk : Sl → Bool) : mChk i chk a = chkO chk a a[i]? := by
  unfold mChk chkO
  cases a[i]? <;> rfl
@[simp] theorem chkO_some (chk : Sl → Bool) (s : Sl) : chkO chk a (some s) = if s.owned && chk s then some (.ok (), a) else none := rfl
@[simp] theorem isL_lst (ds : List PyData) : isL (.lst ds) = true := rfl
@[simp] theorem mMt_app (i : Nat) (chk : Sl → Bool) (m : M (List PyData)) (g : List PyData → Sl → Option (PyData × Sl)) : mMt i chk m g a = nxt (mChk i chk a) fun _ => M.bind m fun ds => mUp i (g ds) := by rw [mMt, bind_app]
@[simp] theorem mSetI_app (j : Nat) (me mi : M PyData) : mSetI j me mi a = nxt (me a) fun d => M.bind (mChk j isL) fun _ => M.bind mi fun i => M.bind (mUp j (gSetI d i)) fun _ => M.pure .nx := by rw [mSetI, bind_app]
@[simp] theorem gApp_l (d : PyData) (ds : List PyData) : gApp [d] (.lst ds) = if ds.length < lineN then some (.none, .lst (ds ++ [d])) else none := rfl
def fnO (a : AEnv) : Option (Except Exc Sl) → Rs Sl
  | some (.ok .un) => none
  | some (.ok s) => some (.ok s, a)
  | some (.error e) => some (.error e, a)
  | none => none
@[simp] theorem mFn_app (m : M (List PyData)) (F : FnD) : mFn m F a = nxt (m a) fun ds a1 => fnO a1 (F ds) := by
  rw [mFn, bind_app]
  rfl
@[simp] theorem fnO_dat (d : PyData) : fnO a (some (.ok (.dat d))) = some (.ok (.dat d), a) := rfl
@[simp] theorem fnO_lst (d : List PyData) : fnO a (some (.ok (.lst d))) = some (.ok (.lst d), a) := rfl
@[simp] theorem fnO_none : fnO a none = none := rfl
def fiO (i : Nat) (a : AEnv) : Option (Except Exc Sl × Sl) → Rs Sl
  | some (.ok .un, _) => none
  | some (.ok s, s1) => some (.ok s, a.set i s1)
  | some (.error e, s1) => some (.error e, a.set i s1)
  | none => none
def fiS (i : Nat) (a : AEnv) (F : FnI) (ds : List PyData) : Option Sl → Rs Sl
  | some s0 => if s0.owned then fiO i a (F s0 ds) else none
  | none => none
@[simp] theorem mFnI_app (i : Nat) (m : M (List PyData)) (F : FnI) : mFnI i m F a = nxt (mChk i (fun _ => true) a) fun _ => M.bind m fun ds a1 => fiS i a1 F ds a1[i]? := by
  rw [mFnI, bind_app]
  congr 1
  funext _ a0
  rw [bind_app, bind_app]
  congr 1
  funext ds a1
  unfold fiS fiO
  cases a1[i]? with
  | none => rfl
  | some s0 => rfl
@[simp] theorem fiS_lst (i : Nat) (F : FnI) (ds xs : List PyData) : fiS i a F ds (some (.lst xs)) = fiO i a (F (.lst xs) ds) := rfl
@[simp] theorem fiO_dat (i : Nat) (d : PyData) (s : Sl) : fiO i a (some (.ok (.dat d), s)) = some (.ok (.dat d), a.set i s) := rfl
@[simp] theorem fiO_lst (i : Nat) (d : List PyData) (s : Sl) : fiO i a (some (.ok (.lst d), s)) = some (.ok (.lst d), a.set i s) := rfl
@[simp] theorem resOf_nx : resOf (some (.ok .nx, a)) = some (.ok (.dat .none), a) := rfl
@[simp] theorem resOf_ret (s : Sl) : resOf (some (.ok (.ret s), a)) = some (.ok s, a) := rfl
end
/-! ### loops -/
section
variable {α : Type}
/-- a for without break and return -/
theorem forL_inv {t : Tgt} {body : M Fl} (enc : α → PyData) (Inv : List α → AEnv → Prop) : ∀ (xs pre : List α) (a : AEnv), Inv pre a →
    (∀ p x q b, pre ++ xs = p ++ x :: q → Inv p b → ∃ b1 b2, t.put (enc x) b = some b1 ∧ (body b1 = some (.ok .nx, b2) ∨ body b1 = some (.ok .ct, b2)) ∧ Inv (p ++ [x]) b2) →
    ∃ a', forL t body (xs.map enc) a = some (.ok .nx, a') ∧ Inv (pre ++ xs) a'
  | [], pre, a, h0, h => ⟨a, rfl, by simpa using h0⟩
  | x :: xs, pre, a, h0, h => by
    obtain ⟨b1, b2, e1, e2, h2⟩ := h pre x xs a rfl h0
    obtain ⟨a', e3, h3⟩ := forL_inv enc Inv xs (pre ++ [x]) b2 h2 fun p y q b e hb => h p y q b (by rw [← e]; simp) hb
    refine ⟨a', ?_, by simpa using h3⟩
    rw [List.map_cons]
    unfold forL
    simp only [e1]
    rcases e2 with e2 | e2
    · simp only [e2]
      exact e3
    · simp only [e2]
      exact e3
/-- a list comprehension without a condition -/
theorem lcL_inv {t : Tgt} {m : M PyData} {vs : List Nat} (enc : α → PyData) (Inv : List α → List PyData → AEnv → Prop) : ∀ (xs pre : List α) (acc : List PyData) (a : AEnv), Inv pre acc a → acc.length + xs.length ≤ lineN → acc.length = pre.length →
    (∀ p x q acc b, pre ++ xs = p ++ x :: q → Inv p acc b → ∃ b1 b2 y, t.put (enc x) b = some b1 ∧ m b1 = some (.ok y, b2) ∧ Inv (p ++ [x]) (acc ++ [y]) (wipeA b2 vs)) →
    ∃ ys a', lcL t (M.pure true) m vs (xs.map enc) acc a = some (ys, a') ∧ Inv (pre ++ xs) ys a' ∧ ys.length = (pre ++ xs).length
  | [], pre, acc, a, h0, _, hl, h => ⟨acc, a, rfl, by simpa using h0, by simpa using hl⟩
  | x :: xs, pre, acc, a, h0, hz, hl, h => by
    obtain ⟨b1, b2, y, e1, e2, h2⟩ := h pre x xs acc a rfl h0
    have hz' : acc.length + (xs.length + 1) ≤ lineN := hz
    obtain ⟨ys, a', e3, h3, h4⟩ := lcL_inv enc Inv xs (pre ++ [x]) (acc ++ [y]) (wipeA b2 vs) h2 (by simp; omega) (by simp [hl]) fun p z q acc b e hb => h p z q acc b (by rw [← e]; simp) hb
    refine ⟨ys, a', ?_, by simpa using h3, by simpa using h4⟩
    rw [List.map_cons, lcL, e1]
    simp only [pure_app, e2]
    rw [if_pos (by omega)]
    exact e3
/-- the same, where each turn gives what f says and leaves the state as it is -/
theorem lcL_map {t : Tgt} {m : M PyData} {vs : List Nat} (enc f : α → PyData) (a : AEnv) : ∀ (xs : List α) (acc : List PyData), acc.length + xs.length ≤ lineN →
    (∀ x ∈ xs, ∃ b1 b2, t.put (enc x) a = some b1 ∧ m b1 = some (.ok (f x), b2) ∧ wipeA b2 vs = a) → lcL t (M.pure true) m vs (xs.map enc) acc a = some (acc ++ xs.map f, a)
  | [], acc, _, _ => by simp [lcL]
  | x :: xs, acc, hz, h => by
    obtain ⟨b1, b2, e1, e2, e3⟩ := h x List.mem_cons_self
    have hz' : acc.length + (xs.length + 1) ≤ lineN := hz
    rw [List.map_cons, lcL, e1]
    simp only [pure_app, e2]
    rw [if_pos (by omega), e3, lcL_map enc f a xs (acc ++ [f x]) (by simp; omega) fun y hy => h y (List.mem_cons_of_mem _ hy)]
    simp
theorem mLc_app {a : AEnv} (mi : M (List PyData)) (t : Tgt) (c : M Bool) (m : M PyData) (vs : List Nat) : mLc mi t c m vs a = nxt (mi a) fun items a1 => (lcL t c m vs items [] (wipeA a1 vs)).map fun r => (.ok (.lst r.1), wipeA r.2 vs) := by rw [mLc, bind_app]
/-- a while: k turns, each from one state to the next -/
theorem mWhile_run {c : M Bool} {body : M Fl} (A : Nat → AEnv) : ∀ (k i n : Nat), k < n → (∀ j, i ≤ j → j < i + k → ∃ b, c (A j) = some (.ok true, b) ∧ body b = some (.ok .nx, A (j + 1))) → (∃ b, c (A (i + k)) = some (.ok false, b) ∧ b = A (i + k)) →
    mWhile c body n (A i) = some (.ok .nx, A (i + k))
  | 0, i, n + 1, _, _, h2 => by
    obtain ⟨b, e, rfl⟩ := h2
    rw [mWhile, bind_app]
    rw [Nat.add_zero] at e ⊢
    simp [e]
  | k + 1, i, n + 1, hk, h1, h2 => by
    obtain ⟨b, e1, e2⟩ := h1 i (Nat.le_refl _) (by omega)
    rw [mWhile, bind_app, e1, nxt_ok, if_pos rfl]
    simp only [e2]
    have q := mWhile_run A k (i + 1) n (by omega) (fun j hj1 hj2 => h1 j (by omega) (by omega)) (by rw [show i + 1 + k = i + (k + 1) by omega]; exact h2)
    rw [show i + 1 + k = i + (k + 1) by omega] at q
    exact q
end
end Am

namespace LawK02
open PySem L2 Am
theorem log2_small {n : Nat} (h : n < 2 ^ 400) : n.log2 < 400 := by
  by_cases h0 : n = 0
  · subst h0
    decide
  · exact (Nat.log2_lt h0).mpr h
theorem cMul_small {i j : Int} (hi : i.natAbs < 2 ^ 400) (hj : j.natAbs < 2 ^ 400) : cMul i j = true := by
  have h1 := log2_small hi
  have h2 := log2_small hj
  exact decide_eq_true (by omega)
theorem small400 {x : Int} (h1 : -1000000000000 ≤ x) (h2 : x ≤ 1000000000000) : x.natAbs < 2 ^ 400 :=
  Nat.lt_trans (show x.natAbs < 1000000000001 by omega) (by decide)
theorem gMul_eq (i j : Int) : gI cMul (fun i j => i * j) (.int i) (.int j) = if cMul i j = true then some (.int (i * j)) else none := rfl
theorem big : (2 : Nat) ^ 400 > 2 ^ 70 := by decide
/-- a bag [a, b, k] is asked for a number below n -/
theorem pick_lit {k n : Int} (a b : Int) (hk : 0 ≤ k) (hk2 : k < 2 ^ 60) (hn : 0 < n) (hn2 : n < 2 ^ 60) : ∃ r a' k', F_law_pick (.lst [.int a, .int b, .int k]) [.int n] = some (.ok (.dat (.int r)), .lst [.int a', .int b, .int k']) ∧ k' = k + 1 ∧ 0 ≤ r ∧ r < n := by
  have b70 : (2 : Nat) ^ 70 < 2 ^ 400 := by decide
  have p60 : (2 : Int) ^ 60 = 1152921504606846976 := by decide
  have p70 : (2 : Nat) ^ 70 = 1180591620717411303424 := by decide
  rw [p60] at hk2 hn2
  have hl : n.natAbs.log2 < 9000 := Nat.lt_trans (log2_small (Nat.lt_trans (by rw [p70]; omega) b70)) (by decide)
  by_cases ha : 0 < a
  · refine ⟨a % n, a / n, k + 1, ?_, rfl, Int.emod_nonneg _ (by omega), Int.emod_lt_of_pos _ hn⟩
    simp [fnI, m_law_pick, startA, gSetI, ixN, gAdd, gIx, atI, gGt, gCmp, gMod, gDiv, gI, cMod, cDiv, ha, hn, hl]
  · have e1 := Int.emod_lt_of_pos b (show (0 : Int) < 2147483629 by decide)
    have e2 := Int.emod_nonneg b (show (2147483629 : Int) ≠ 0 by decide)
    have m1 : cMul (b % 2147483629) 48271 = true := cMul_small (Nat.lt_trans (by rw [p70]; omega) b70) (Nat.lt_trans (by decide) b70)
    have m2 : cMul (k + 1) 69621 = true := cMul_small (Nat.lt_trans (by rw [p70]; omega) b70) (Nat.lt_trans (by decide) b70)
    have m4 : cMul (k + 1) 40692 = true := cMul_small (Nat.lt_trans (by rw [p70]; omega) b70) (Nat.lt_trans (by decide) b70)
    have f1 : ∀ x : Int, (x % 2147483647).natAbs < 2 ^ 400 := fun x => by
      have q1 := Int.emod_lt_of_pos x (show (0 : Int) < 2147483647 by decide)
      have q2 := Int.emod_nonneg x (show (2147483647 : Int) ≠ 0 by decide)
      exact Nat.lt_trans (by rw [p70]; omega) b70
    have m3 : ∀ x : Int, cMul (x % 2147483647) (x % 2147483647) = true := fun x => cMul_small (f1 x) (f1 x)
    have m5 : ∀ x : Int, cMul (x % 2147483647) 2147483587 = true := fun x => cMul_small (f1 x) (Nat.lt_trans (by decide) b70)
    have d1 : ∀ x : Int, cDiv x 32 = true := fun x => by simp [cDiv]; decide
    have key : ∀ F : Int, F = (b % 2147483629 * 48271 + (k + 1) * 69621 + 12345) % 2147483647 → F_law_pick (.lst [.int a, .int b, .int k]) [.int n] = some (.ok (.dat (.int ((F * 2147483587 + (F * F + (k + 1) * 40692) % 2147483587) / 32 % n))), .lst [.int a, .int b, .int (k + 1)]) := fun F eF => by
      subst eF
      simp only [F_law_pick, fnI, m_law_pick, startA]
      simp [gSetI, ixN, gAdd, gIx, atI, gGt, gCmp, gMod, gDiv, gMul_eq, gI, cMod, ha, hn, m1, m2, m3, m4, m5, d1]
    exact ⟨_, _, _, key _ rfl, rfl, Int.emod_nonneg _ (show n ≠ 0 by omega), Int.emod_lt_of_pos _ hn⟩

/-! ### timetables -/
def eS (p : Int × Int) : PyData := .tuple [.int p.1, .int p.2]
def eT (H : Int) (ss : List (Int × Int)) : PyData := .tuple [.int H, .tuple (ss.map eS)]
def caps (H : Int) (ss : List (Int × Int)) : Int := (ss.map fun p => (p.2 + H - 1) / H).sum
structure TOk (H : Int) (ss : List (Int × Int)) : Prop where
  h1 : 1 ≤ H
  h2 : H ≤ 1000
  len : ss.length ≤ 24
  ship : ∀ p ∈ ss, 0 ≤ p.1 ∧ p.1 < H ∧ 1 ≤ p.2 ∧ p.2 ≤ 10000
  cap : caps H ss ≤ 60
theorem gIx_in (ds : List PyData) (i : Int) (h0 : 0 ≤ i) (h1 : i < ds.length) : ∃ d ∈ ds, gIx (.list ds) (.int i) = some d := by
  refine ⟨ds[i.toNat]'(by omega), List.getElem_mem _, ?_⟩
  show atI ds i = _
  have e : ixN ds.length i = some i.toNat := by unfold ixN; rw [if_pos h0, if_pos h1]
  unfold atI
  rw [e]
  simp
theorem caps_le {H c : Int} (hH : 1 ≤ H) (ss : List (Int × Int)) (h : ∀ p ∈ ss, p.2 ≤ c * H) : caps H ss ≤ c * ss.length := by
  unfold caps
  induction ss with
  | nil => simp
  | cons p ss ih =>
    rw [List.map_cons, List.sum_cons, List.length_cons]
    have h1 := h p List.mem_cons_self
    have h2 := ih fun q hq => h q (List.mem_cons_of_mem _ hq)
    have h3 : (p.2 + H - 1) / H ≤ c := by
      have : (p.2 + H - 1) / H < c + 1 := Int.ediv_lt_of_lt_mul (by omega) (by rw [Int.add_mul]; omega)
      omega
    have e : c * ((ss.length + 1 : Nat) : Int) = c * (ss.length : Int) + c := by rw [Int.natCast_add, Int.mul_add]; omega
    omega
def TLI (b H m L Z k : Int) (pre : List Nat) (st : AEnv) : Prop := ∃ (ss : List (Int × Int)) (a' k' : Int) (s5 : Sl), st = [.lst [.int a', .int b, .int k'], .dat (.int H), .dat (.int m), .dat (.int L), .lst (ss.map eS), s5] ∧ ss.length = pre.length ∧ k' = k + 2 * pre.length ∧
  ∀ p ∈ ss, 0 ≤ p.1 ∧ p.1 < H ∧ 1 ≤ p.2 ∧ p.2 ≤ 10000 ∧ p.2 ≤ Z
theorem table_loop {k : Int} (a b H m L Z : Int) (hk : 0 ≤ k) (hk2 : k < 2 ^ 55) (hH : 1 ≤ H ∧ H ≤ 1000) (hm : 0 ≤ m ∧ m < 25) (hZ : Z = if m < 20 then L else 2 * H) (hZ0 : 1 ≤ Z ∧ Z ≤ 3 * H) :
    ∃ (ss : List (Int × Int)) (a' k' : Int) (s5 : Sl), forL (Tgt.nm 5) m_law_table_l0 (rangeD 0 m.toNat) [.lst [.int a, .int b, .int k], .dat (.int H), .dat (.int m), .dat (.int L), .lst [], .un] =
      some (.ok .nx, [.lst [.int a', .int b, .int k'], .dat (.int H), .dat (.int m), .dat (.int L), .lst (ss.map eS), s5]) ∧ ss.length = m.toNat ∧ k' = k + 2 * m.toNat ∧ ∀ p ∈ ss, 0 ≤ p.1 ∧ p.1 < H ∧ 1 ≤ p.2 ∧ p.2 ≤ 10000 ∧ p.2 ≤ Z := by
  have p55 : (2 : Int) ^ 55 = 36028797018963968 := by decide
  have p60 : (2 : Int) ^ 60 = 1152921504606846976 := by decide
  rw [p55] at hk2
  have c2 : cMul 2 H = true := cMul_small (by decide) (small400 (by omega) (by omega))
  have turn : ∀ (p : List Nat) (x : Nat) (q : List Nat) (b0 : AEnv), [] ++ List.range m.toNat = p ++ x :: q → TLI b H m L Z k p b0 → ∃ b1 b2, (Tgt.nm 5).put (PyData.int (0 + (x : Int))) b0 = some b1 ∧ (m_law_table_l0 b1 = some (.ok .nx, b2) ∨ m_law_table_l0 b1 = some (.ok .ct, b2)) ∧ TLI b H m L Z k (p ++ [x]) b2 := by
    rintro p x q st hpx ⟨ss, a1, k1, s5, rfl, h1, h2, h3⟩
    have hlen : p.length < 25 := by
      have z := congrArg List.length hpx
      simp at z
      omega
    obtain ⟨r1, a2, k2, e1, q1, l1, u1⟩ := pick_lit (k := k1) (n := H) a1 b (by omega) (by omega) (by omega) (by omega)
    have hY : 1 ≤ (if Z < 10000 then Z else 10000) := by split <;> omega
    have hY2 : (if Z < 10000 then Z else 10000) ≤ 10000 := by split <;> omega
    have hY3 : (if Z < 10000 then Z else 10000) ≤ Z := by split <;> omega
    obtain ⟨r2, a3, k3, e2, q2, l2, u2⟩ := pick_lit (k := k2) (n := if Z < 10000 then Z else 10000) a2 b (by omega) (by omega) (by omega) (by omega)
    have hz : ss.length < 16777216 := by omega
    refine ⟨[.lst [.int a1, .int b, .int k1], .dat (.int H), .dat (.int m), .dat (.int L), .lst (ss.map eS), .dat (.int (0 + (x : Int)))], [.lst [.int a3, .int b, .int k3], .dat (.int H), .dat (.int m), .dat (.int L), .lst ((ss ++ [(r1, 1 + r2)]).map eS), .dat (.int (0 + (x : Int)))], by simp, .inl ?_, ss ++ [(r1, 1 + r2)], a3, k3, _, rfl, by simp [h1], by simp; omega, fun y hy => ?_⟩
    · by_cases h20 : m < 20
      · rw [if_pos h20] at hZ
        subst hZ
        simp [m_law_table_l0, e1, e2, gLt, gCmp, h20, gMin2, gAdd, lineN, hz, eS]
      · rw [if_neg h20] at hZ
        subst hZ
        simp [m_law_table_l0, e1, e2, gLt, gCmp, h20, gMin2, gAdd, gMul_eq, c2, lineN, hz, eS]
    · rcases List.mem_append.mp hy with hy | hy
      · exact h3 y hy
      · rw [List.mem_singleton.mp hy]
        exact ⟨l1, u1, by show 1 ≤ 1 + r2; omega, by show 1 + r2 ≤ 10000; omega, by show 1 + r2 ≤ Z; omega⟩
  obtain ⟨a', e, h⟩ := forL_inv (t := Tgt.nm 5) (body := m_law_table_l0) (fun i : Nat => PyData.int (0 + (i : Int))) (TLI b H m L Z k) (List.range m.toNat) [] _ ⟨[], a, k, .un, rfl, rfl, by simp, fun _ z => nomatch z⟩ turn
  obtain ⟨ss, a1, k1, s5, rfl, h1, h2, h3⟩ := h
  exact ⟨ss, a1, k1, s5, e, by simpa using h1, by simpa using h2, h3⟩
theorem table_spec {k : Int} (a b : Int) (hk : 0 ≤ k) (hk2 : k < 2 ^ 50) : ∃ H ss a' k', F_law_table (.lst [.int a, .int b, .int k]) [] = some (.ok (.dat (eT H ss)), .lst [.int a', .int b, .int k']) ∧ TOk H ss ∧ k ≤ k' ∧ k' ≤ k + 60 := by
  have p50 : (2 : Int) ^ 50 = 1125899906842624 := by decide
  have p60 : (2 : Int) ^ 60 = 1152921504606846976 := by decide
  rw [p50] at hk2
  obtain ⟨r1, a1, k1, e1, q1, l1, u1⟩ := pick_lit (n := 6) a b hk (by omega) (by decide) (by decide)
  obtain ⟨r2, a2, k2, e2, q2, l2, u2⟩ := pick_lit (k := k1) (n := 5) a1 b (by omega) (by omega) (by decide) (by decide)
  obtain ⟨r3, a3, k3, e3, q3, l3, u3⟩ := pick_lit (k := k2) (n := 8) a2 b (by omega) (by omega) (by decide) (by decide)
  obtain ⟨r4, a4, k4, e4, q4, l4, u4⟩ := pick_lit (k := k3) (n := 25) a3 b (by omega) (by omega) (by decide) (by decide)
  obtain ⟨r5, a5, k5, e5, q5, l5, u5⟩ := pick_lit (k := k4) (n := 3) a4 b (by omega) (by omega) (by decide) (by decide)
  obtain ⟨r6, a6, k6, e6, q6, l6, u6⟩ := pick_lit (k := k5) (n := 3) a5 b (by omega) (by omega) (by decide) (by decide)
  obtain ⟨d1, m1, g1⟩ := gIx_in [.int 1, .int 2, .int 5, .int 12, .int 24, .int 1000] r1 l1 (by simpa using u1)
  obtain ⟨H, rfl, hH1, hH2⟩ : ∃ H, d1 = .int H ∧ 1 ≤ H ∧ H ≤ 1000 := by
    simp at m1
    rcases m1 with rfl | rfl | rfl | rfl | rfl | rfl <;> exact ⟨_, rfl, by decide, by decide⟩
  obtain ⟨d2, m2, g2⟩ := gIx_in [.int r2, .int r3, .int r4] r5 l5 (by simpa using u5)
  obtain ⟨m, rfl, hm0, hm1⟩ : ∃ m, d2 = .int m ∧ 0 ≤ m ∧ m < 25 := by
    simp at m2
    rcases m2 with rfl | rfl | rfl <;> exact ⟨_, rfl, by omega, by omega⟩
  obtain ⟨d3, m3, g3⟩ := gIx_in [.int H, .int (2 * H), .int (3 * H)] r6 l6 (by simpa using u6)
  obtain ⟨L, rfl, hL0, hL1⟩ : ∃ L, d3 = .int L ∧ 1 ≤ L ∧ L ≤ 3 * H := by
    simp at m3
    rcases m3 with rfl | rfl | rfl <;> exact ⟨_, rfl, by omega, by omega⟩
  have c2 : cMul 2 H = true := cMul_small (by decide) (small400 (by omega) (by omega))
  have c3 : cMul 3 H = true := cMul_small (by decide) (small400 (by omega) (by omega))
  have hZ1 : 1 ≤ (if m < 20 then L else 2 * H) ∧ (if m < 20 then L else 2 * H) ≤ 3 * H := by split <;> omega
  obtain ⟨ss, a7, k7, s5, e7, n7, q7, h7⟩ := table_loop (k := k6) a6 b H m L _ (by omega) (by omega) ⟨hH1, hH2⟩ ⟨hm0, hm1⟩ rfl hZ1
  have b1 : -4611686018427387904 ≤ m ∧ m < 4611686018427387904 := by omega
  have z1 : ss.length ≤ 16777216 := by omega
  refine ⟨H, ss, a7, k7, ?_, ⟨hH1, hH2, by omega, fun p hp => ?_, ?_⟩, by omega, by omega⟩
  · simp only [F_law_table, fnI, m_law_table, startA]
    simp [e1, e2, e3, e4, e5, e6, g1, g2, g3, gMul_eq, c2, c3, lineN, gR1, b1, e7, gTuple, eT, z1]
  · obtain ⟨x1, x2, x3, x4, _⟩ := h7 p hp
    exact ⟨x1, x2, x3, x4⟩
  · by_cases h20 : m < 20
    · rw [if_pos h20] at h7
      have := caps_le (c := 3) hH1 ss fun p hp => by
        have := (h7 p hp).2.2.2.2
        omega
      omega
    · rw [if_neg h20] at h7
      have := caps_le (c := 2) hH1 ss fun p hp => (h7 p hp).2.2.2.2
      omega
end LawK02

namespace LawK02
open PySem L2 Am

/-! ### enumerate over the ships -/
abbrev Shp := (Int × Int) × Nat
def eQ (q : Shp) : PyData := .tuple [.int (q.2 : Int), eS q.1]
theorem enum_zip : ∀ (ss : List (Int × Int)) (k : Nat), enumD k (ss.map eS) = (ss.zipIdx k).map eQ
  | [], _ => rfl
  | p :: ss, k => by
    rw [List.map_cons, enumD, List.zipIdx_cons, List.map_cons, enum_zip ss (k + 1)]
    rfl
theorem zip_mem {ss : List (Int × Int)} {q : Shp} (h : q ∈ ss.zipIdx) : q.1 ∈ ss ∧ q.2 < ss.length := by
  obtain ⟨p, i⟩ := q
  have z := List.mem_zipIdx h
  simp at z
  exact ⟨by rw [z.2]; exact List.getElem_mem _, z.1⟩
def dep (H : Int) (q : Shp) : List Int := [(q.1.1 + q.1.2) % H, 0, -((q.1.1 + q.1.2) / H), q.1.1, (q.2 : Int)]
def arr (q : Shp) : List Int := [q.1.1, 1, 0, q.1.1, (q.2 : Int)]
def evs (H : Int) (ss : List (Int × Int)) : List (List Int) := srtL (ss.zipIdx.map (dep H) ++ ss.zipIdx.map arr)
def ev (l : List Int) : PyData := .tuple [.int (l.getD 0 0), .int (l.getD 1 0), .int (-(l.getD 2 0)), .int (l.getD 4 0)]
theorem logH {H : Int} (h : 1 ≤ H ∧ H ≤ 1000) : H.natAbs.log2 < 9000 := Nat.lt_trans (log2_small (small400 (by omega) (by omega))) (by decide)
def DEI (H : Int) (ss : List (Int × Int)) (pre : List Shp) (st : AEnv) : Prop := ∃ s5 s6 s7 s8 s9, st = [.dat (eT H ss), .dat (.int H), .dat (.tuple (ss.map eS)), .lst ((pre.map (dep H)).map tupOf), .lst ((pre.map arr).map tupOf), s5, s6, s7, s8, s9, .un, .un, .un]
theorem day_loop {H : Int} {ss : List (Int × Int)} (ok : TOk H ss) (s : List Sl) : ∃ st, forL (Tgt.tp [(Tgt.nm 5), (Tgt.tp [(Tgt.nm 6), (Tgt.nm 7)])]) m_day_events_l1 (ss.zipIdx.map eQ) [.dat (eT H ss), .dat (.int H), .dat (.tuple (ss.map eS)), .lst [], .lst [], .un, .un, .un, .un, .un, .un, .un, .un] = some (.ok .nx, st) ∧ DEI H ss ss.zipIdx st := by
  have hH := ok.h1
  have hH2 := ok.h2
  have turn : ∀ (p : List Shp) (x : Shp) (q : List Shp) (b : AEnv), [] ++ ss.zipIdx = p ++ x :: q → DEI H ss p b →
      ∃ b1 b2, (Tgt.tp [(Tgt.nm 5), (Tgt.tp [(Tgt.nm 6), (Tgt.nm 7)])]).put (eQ x) b = some b1 ∧ (m_day_events_l1 b1 = some (.ok .nx, b2) ∨ m_day_events_l1 b1 = some (.ok .ct, b2)) ∧ DEI H ss (p ++ [x]) b2 := by
    rintro p x q b e ⟨s5, s6, s7, s8, s9, rfl⟩
    have hl : p.length < 16777216 := by
      have z := congrArg List.length e
      have := ok.len
      simp at z
      omega
    obtain ⟨⟨h, s⟩, i⟩ := x
    have pos : 0 < H := by omega
    have lg := logH ⟨hH, hH2⟩
    refine ⟨[.dat (eT H ss), .dat (.int H), .dat (.tuple (ss.map eS)), .lst ((p.map (dep H)).map tupOf), .lst ((p.map arr).map tupOf), .dat (.int (i : Int)), .dat (.int h), .dat (.int s), s8, s9, .un, .un, .un], _, by simp [eQ, eS], .inl ?_,
      .dat (.int (i : Int)), .dat (.int h), .dat (.int s), .dat (.int ((h + s) / H)), .dat (.int ((h + s) % H)), rfl⟩
    simp [m_day_events_l1, gAdd, gDivmod, pos, lg, gNeg, lineN, hl, dep, arr, tupOf]
  obtain ⟨st, e, h⟩ := forL_inv (t := Tgt.tp [(Tgt.nm 5), (Tgt.tp [(Tgt.nm 6), (Tgt.nm 7)])]) (body := m_day_events_l1) eQ (DEI H ss) ss.zipIdx [] _ ⟨.un, .un, .un, .un, .un, rfl⟩ turn
  exact ⟨st, e, h⟩
theorem evs_shape {H : Int} {ss : List (Int × Int)} {l : List Int} (h : l ∈ evs H ss) : ∃ a b c d e, l = [a, b, c, d, e] := by
  have z := (isort_perm lexL _).mem_iff.mp h
  rcases List.mem_append.mp z with z | z
  · obtain ⟨q, _, rfl⟩ := List.mem_map.mp z
    exact ⟨_, _, _, _, _, rfl⟩
  · obtain ⟨q, _, rfl⟩ := List.mem_map.mp z
    exact ⟨_, _, _, _, _, rfl⟩
theorem evs_len (H : Int) (ss : List (Int × Int)) : (evs H ss).length = 2 * ss.length := by
  unfold evs
  rw [(isort_perm lexL _).length_eq]
  simp
  omega
theorem sorted_tups {ns : List (List Int)} (h : ∀ n ∈ ns, n ≠ []) : gSorted [.list (ns.map tupOf)] = some (.lst ((srtL ns).map tupOf)) := by
  cases ns with
  | nil => rfl
  | cons n r =>
    unfold gSorted
    have e : intsD ((n :: r).map tupOf) = none := rfl
    simp only [e, tupsInts_map h, Option.map_some]
theorem fnD_ret {n : Nat} {body : M Fl} {ds : List PyData} {s : Sl} (h : ∃ a', body (startA n (ds.map Sl.dat)) = some (.ok (.ret s), a')) : fnD n body ds = some (.ok s) := by
  obtain ⟨a', h⟩ := h
  unfold fnD
  rw [h] <;> rfl
theorem lcL_pure {α : Type} {t : Tgt} {m : M PyData} {vs : List Nat} (enc f : α → PyData) (a : AEnv) (xs : List α) (hz : xs.length ≤ lineN) (h : ∀ x ∈ xs, ∃ b, t.put (enc x) a = some b ∧ m b = some (.ok (f x), b) ∧ wipeA b vs = a) :
    lcL t (M.pure true) m vs (xs.map enc) [] a = some (xs.map f, a) := by
  have q := lcL_map (t := t) (m := m) (vs := vs) enc f a xs [] (by simpa using hz) fun x hx => by
    obtain ⟨b, h1, h2, h3⟩ := h x hx
    exact ⟨b, b, h1, h2, h3⟩
  simpa using q
theorem day_spec {H : Int} {ss : List (Int × Int)} (ok : TOk H ss) : F_day_events [eT H ss] = some (.ok (.lst ((evs H ss).map ev))) := by
  obtain ⟨st, e, s5, s6, s7, s8, s9, rfl⟩ := day_loop ok []
  have hlen := ok.len
  have hl2 : ss.length + ss.length ≤ 16777216 := by omega
  have srt : gSorted [.list ((ss.zipIdx.map (dep H)).map tupOf ++ (ss.zipIdx.map arr).map tupOf)] = some (.lst ((evs H ss).map tupOf)) := by
    rw [← List.map_append, sorted_tups]
    · rfl
    · intro n hn
      rcases List.mem_append.mp hn with z | z
      · obtain ⟨q, _, rfl⟩ := List.mem_map.mp z
        exact fun z => nomatch z
      · obtain ⟨q, _, rfl⟩ := List.mem_map.mp z
        exact fun z => nomatch z
  have cmp := lcL_pure (t := Tgt.tp [Tgt.nm 6, Tgt.nm 10, Tgt.nm 11, Tgt.nm 12, Tgt.nm 5]) (m := m_day_events_l0) (vs := [6, 10, 11, 12, 5]) tupOf ev
    [.dat (eT H ss), .dat (.int H), .dat (.tuple (ss.map eS)), .lst ((ss.zipIdx.map (dep H)).map tupOf), .lst ((ss.zipIdx.map arr).map tupOf), .un, .un, s7, s8, s9, .un, .un, .un] (evs H ss)
    (by rw [evs_len]; simp [lineN]; omega) fun l hl => by
      obtain ⟨a, b, c, d, f, rfl⟩ := evs_shape hl
      refine ⟨[.dat (eT H ss), .dat (.int H), .dat (.tuple (ss.map eS)), .lst ((ss.zipIdx.map (dep H)).map tupOf), .lst ((ss.zipIdx.map arr).map tupOf), .dat (.int f), .dat (.int a), s7, s8, s9, .dat (.int b), .dat (.int c), .dat (.int d)], ?_, ?_, ?_⟩
      · simp [tupOf]
      · simp [m_day_events_l0, gNeg, lineN, ev]
      · simp [wipeA]
  refine fnD_ret ?_
  simp only [m_day_events, startA]
  simp only [eT] at e cmp
  simp [-List.map_map, eT, lineN, put2, enum_zip, e, gPlus, gCat, hl2, srt, mLc_app, wipeA, cmp]
end LawK02

namespace LawK02
open PySem L2 Am

theorem gEq_int (i j : Int) : gEq (.int i) (.int j) = some (decide (i = j)) := by
  have h1 : SeqAt.shaped (.int i) = true := rfl
  have h2 : SeqAt.shaped (.int j) = true := rfl
  unfold gEq
  rw [h1, h2]
  simp [PyData.eqv]
  rfl
theorem gEqA_int (i j : Int) : gEqA (.int i) (.int j) = some (decide (i = j)) := gEq_int i j
theorem k_ii : kitB "int" "int" = some true := by first | rfl | decide +kernel
theorem k_ib : kitB "int" "bool" = some false := by first | rfl | decide +kernel
theorem k_tt : kitB "tuple" "tuple" = some true := by first | rfl | decide +kernel
theorem is_int_spec (v : Int) : F_is_int [.int v] = some (.ok (.dat (.bool true))) := by
  refine fnD_ret ?_
  simp [m_is_int, startA, isiD, tyD, k_ii, k_ib]
theorem in_range_spec (v l h : Int) : F_in_range [.int v, .int l, .int h] = some (.ok (.dat (.bool (decide (l ≤ v) && decide (v ≤ h))))) := by
  refine fnD_ret ?_
  by_cases h1 : l ≤ v
  · simp [m_in_range, startA, is_int_spec, gLe, gCmp, h1]
  · simp [m_in_range, startA, is_int_spec, gLe, gCmp, h1]
/-! ### counts -/
def stepI (l : List Int) : Int := if l.getD 1 0 = 1 then 1 else -1
def tot (a : Int) (ls : List (List Int)) : Int := a + (ls.map stepI).sum
def cnt (a : Int) : List (List Int) → List Int
  | [] => []
  | l :: ls => (a + stepI l) :: cnt (a + stepI l) ls
theorem cnt_append (a : Int) : ∀ (p q : List (List Int)), cnt a (p ++ q) = cnt a p ++ cnt (tot a p) q
  | [], q => by simp [cnt, tot]
  | l :: p, q => by
    rw [List.cons_append, cnt, cnt_append (a + stepI l) p q, cnt, List.cons_append]
    congr 3
    simp [tot]
    omega
theorem cnt_len (a : Int) : ∀ p : List (List Int), (cnt a p).length = p.length
  | [] => rfl
  | l :: p => by rw [cnt, List.length_cons, List.length_cons, cnt_len]
def mid (H : Int) (ss : List (Int × Int)) : Int := (ss.map fun p => (p.1 + p.2) / H).sum
def MII (H : Int) (ss : List (Int × Int)) (pre : List (Int × Int)) (st : AEnv) : Prop := ∃ s4 s5 s6, st = [.dat (eT H ss), .dat (.int (mid H pre)), .dat (.int H), .dat (.tuple (ss.map eS)), s4, s5, s6]
theorem mid_spec {H : Int} {ss : List (Int × Int)} (ok : TOk H ss) : F_count_at_midnight [eT H ss] = some (.ok (.dat (.int (mid H ss)))) := by
  have pos : 0 < H := by have := ok.h1; omega
  have lg := logH ⟨ok.h1, ok.h2⟩
  have turn : ∀ (p : List (Int × Int)) (x : Int × Int) (q : List (Int × Int)) (b : AEnv), [] ++ ss = p ++ x :: q → MII H ss p b →
      ∃ b1 b2, (Tgt.tp [(Tgt.nm 4), (Tgt.nm 5)]).put (eS x) b = some b1 ∧ (m_count_at_midnight_l0 b1 = some (.ok .nx, b2) ∨ m_count_at_midnight_l0 b1 = some (.ok .ct, b2)) ∧ MII H ss (p ++ [x]) b2 := by
    rintro p ⟨h, s⟩ q b e ⟨s4, s5, s6, rfl⟩
    refine ⟨[.dat (eT H ss), .dat (.int (mid H p)), .dat (.int H), .dat (.tuple (ss.map eS)), .dat (.int h), .dat (.int s), s6], _, by simp [eS], .inl ?_, .dat (.int h), .dat (.int s), .dat (.int ((h + s) / H)), rfl⟩
    simp [m_count_at_midnight_l0, gAdd, gDiv, gI, cDiv, pos, lg, gAddI, gI0, mid]
  obtain ⟨st, e, s4, s5, s6, rfl⟩ := forL_inv (t := Tgt.tp [(Tgt.nm 4), (Tgt.nm 5)]) (body := m_count_at_midnight_l0) eS (MII H ss) ss [] [.dat (eT H ss), .dat (.int 0), .dat (.int H), .dat (.tuple (ss.map eS)), .un, .un, .un] ⟨.un, .un, .un, rfl⟩ turn
  refine fnD_ret ?_
  simp only [eT] at e
  simp [m_count_at_midnight, startA, eT, e]
def CNI (H : Int) (ss : List (Int × Int)) (pre : List (List Int)) (st : AEnv) : Prop := ∃ s3 s4 s5 s6, st = [.dat (eT H ss), .dat (.int (tot (mid H ss) pre)), .lst ((cnt (mid H ss) pre).map PyData.int), s3, s4, s5, s6]
theorem counts_spec {H : Int} {ss : List (Int × Int)} (ok : TOk H ss) : F_counts [eT H ss] = some (.ok (.lst ((cnt (mid H ss) (evs H ss)).map PyData.int))) := by
  have hlen := evs_len H ss
  have hl2 := ok.len
  have turn : ∀ (p : List (List Int)) (x : List Int) (q : List (List Int)) (b : AEnv), [] ++ evs H ss = p ++ x :: q → CNI H ss p b →
      ∃ b1 b2, (Tgt.tp [(Tgt.nm 3), (Tgt.nm 4), (Tgt.nm 5), (Tgt.nm 6)]).put (ev x) b = some b1 ∧ (m_counts_l0 b1 = some (.ok .nx, b2) ∨ m_counts_l0 b1 = some (.ok .ct, b2)) ∧ CNI H ss (p ++ [x]) b2 := by
    rintro p x q b e ⟨s3, s4, s5, s6, rfl⟩
    have z : evs H ss = p ++ x :: q := e
    obtain ⟨a, k, c, d, f, rfl⟩ := evs_shape (H := H) (ss := ss) (l := x) (by simp [z])
    have hl : p.length < 16777216 := by
      have z := congrArg List.length e
      simp at z
      omega
    refine ⟨[.dat (eT H ss), .dat (.int (tot (mid H ss) p)), .lst ((cnt (mid H ss) p).map PyData.int), .dat (.int a), .dat (.int k), .dat (.int (-c)), .dat (.int f)], _, by simp [ev], .inl ?_, .dat (.int a), .dat (.int k), .dat (.int (-c)), .dat (.int f), rfl⟩
    by_cases hk : k = 1
    · subst hk
      simp [m_counts_l0, gEqA_int, gAddI, gI0, cnt_append, cnt_len, hl, lineN, cnt, tot, stepI, Int.add_assoc]
    · simp [m_counts_l0, gEqA_int, hk, gNeg, gAddI, gI0, cnt_append, cnt_len, hl, lineN, cnt, tot, stepI, Int.add_assoc]
  obtain ⟨st, e, s3, s4, s5, s6, rfl⟩ := forL_inv (t := Tgt.tp [(Tgt.nm 3), (Tgt.nm 4), (Tgt.nm 5), (Tgt.nm 6)]) (body := m_counts_l0) ev (CNI H ss) (evs H ss) [] [.dat (eT H ss), .dat (.int (mid H ss)), .lst [], .un, .un, .un, .un] ⟨.un, .un, .un, .un, by simp [tot, cnt]⟩ turn
  refine fnD_ret ?_
  simp [m_counts, startA, mid_spec ok, day_spec ok, lineN, e]
theorem peak_of_spec {H : Int} {ss : List (Int × Int)} (ok : TOk H ss) : F_peak_of [eT H ss] = some (.ok (.dat (.int ((maxI (cnt (mid H ss) (evs H ss))).getD 0)))) := by
  refine fnD_ret ?_
  simp [m_peak_of, startA, counts_spec ok, gMxD, intsD_map]
end LawK02

namespace LawK02
open PySem L2 Am

theorem is_ship_spec {H : Int} {p : Int × Int} (h : 0 ≤ p.1 ∧ p.1 < H ∧ 1 ≤ p.2 ∧ p.2 ≤ 10000) : F_is_ship [.int H, eS p] = some (.ok (.dat (.bool true))) := by
  obtain ⟨x, y⟩ := p
  obtain ⟨h1, h2, h3, h4⟩ := h
  have h2' : x ≤ H - 1 := by
    have : x < H := h2
    omega
  refine fnD_ret ?_
  simp at h1 h3 h4
  simp [m_is_ship, startA, isiD, tyD, k_tt, eS, gLen, gNeA, gEqA_int, lineN, gIx, atI, ixN, gI0, in_range_spec, h1, h2', h3, h4]
theorem peak_hyp : True := trivial
theorem is_table_spec {H : Int} {ss : List (Int × Int)} (ok : TOk H ss) (hp : (maxI (cnt (mid H ss) (evs H ss))).getD 0 ≤ 60) : F_is_table [eT H ss] = some (.ok (.dat (.bool true))) := by
  have h1 := ok.h1
  have h2 := ok.h2
  have hl := ok.len
  have hl3 : ss.length ≤ 16777216 := by omega
  have cmp := lcL_pure (t := Tgt.nm 3) (m := m_is_table_l0) (vs := [3]) eS (fun _ => .bool true) [.dat (eT H ss), .dat (.int H), .dat (.tuple (ss.map eS)), .un] ss (by simp [lineN]; omega) fun p hp => by
    refine ⟨[.dat (eT H ss), .dat (.int H), .dat (.tuple (ss.map eS)), .dat (eS p)], ?_, ?_, ?_⟩
    · simp
    · simp [m_is_table_l0, is_ship_spec (ok.ship p hp)]
    · simp [wipeA]
  have all : gAll [.list (ss.map fun _ => .bool true)] = some (.bool true) := by
    have e : ss.map (fun _ => PyData.bool true) = (ss.map fun _ => true).map PyData.bool := by simp
    unfold gAll
    rw [e]
    simp only [boolsD_map]
    simp
  have pk := peak_of_spec ok
  have hl4 : ¬ ((24 : Int) < (ss.length : Int)) := by omega
  refine fnD_ret ?_
  simp only [eT] at cmp pk
  simp [-List.map_const, m_is_table, startA, isiD, tyD, k_tt, eT, gLen, gNeA, gEqA_int, lineN, gIx, atI, ixN, gI0, gGt, gLe, gCmp, in_range_spec, h1, h2, hl3, hl4, mLc_app, wipeA, cmp, all, pk, hp]
theorem require_spec {H : Int} {ss : List (Int × Int)} (ok : TOk H ss) (hp : (maxI (cnt (mid H ss) (evs H ss))).getD 0 ≤ 60) : F_require_table [eT H ss] = some (.ok (.dat .none)) := by
  unfold F_require_table fnD
  simp [m_require_table, startA, is_table_spec ok hp]
theorem peak_spec {H : Int} {ss : List (Int × Int)} (ok : TOk H ss) (hp : (maxI (cnt (mid H ss) (evs H ss))).getD 0 ≤ 60) : F_peak [eT H ss] = some (.ok (.dat (.int ((maxI (cnt (mid H ss) (evs H ss))).getD 0)))) := by
  refine fnD_ret ?_
  simp [m_peak, startA, require_spec ok hp, peak_of_spec ok]
theorem low_spec {H : Int} {ss : List (Int × Int)} (ok : TOk H ss) (hp : (maxI (cnt (mid H ss) (evs H ss))).getD 0 ≤ 60) : F_low [eT H ss] = some (.ok (.dat (.int ((minI (cnt (mid H ss) (evs H ss))).getD 0)))) := by
  refine fnD_ret ?_
  simp [m_low, startA, require_spec ok hp, counts_spec ok, gMxD, intsD_map]
end LawK02

namespace LawK02
open PySem L2 Am

/-! ### the law's events -/
def evD (H : Int) (q : Shp) (d : Int) : List (List Int) := [[d * H + q.1.1, 1, d * H + q.1.1, (q.2 : Int)], [d * H + q.1.1 + q.1.2, 0, d * H + q.1.1, (q.2 : Int)]]
def nD (H : Int) (q : Shp) : Nat := (2 + q.1.2 / H).toNat
def evJ (H : Int) (q : Shp) (j : Nat) : List (List Int) := evD H q (-1 - q.1.2 / H + (j : Int))
def shipEv (H : Int) (q : Shp) : List (List Int) := (List.range (nD H q)).flatMap (evJ H q)
def lawUns (H : Int) (ss : List (Int × Int)) : List (List Int) := ss.zipIdx.flatMap (shipEv H)
theorem nD_le {H : Int} {q : Shp} (h1 : 1 ≤ H) (h : 0 ≤ q.1.2 ∧ q.1.2 ≤ 10000) : nD H q ≤ 10002 ∧ 0 ≤ q.1.2 / H ∧ q.1.2 / H ≤ 10000 := by
  have z1 : 0 ≤ q.1.2 / H := Int.ediv_nonneg h.1 (by omega)
  have z2 : q.1.2 / H ≤ q.1.2 := Int.ediv_le_self _ h.1
  unfold nD
  omega
theorem flat_len {α : Type} (f : α → List (List Int)) (c : Nat) : ∀ (xs : List α), (∀ x ∈ xs, (f x).length ≤ c) → (xs.flatMap f).length ≤ c * xs.length
  | [], _ => by simp
  | x :: xs, h => by
    rw [List.flatMap_cons, List.length_append, List.length_cons]
    have h1 := h x List.mem_cons_self
    have h2 := flat_len f c xs fun y hy => h y (List.mem_cons_of_mem _ hy)
    rw [Nat.mul_add]
    omega
theorem shipEv_len {H : Int} {q : Shp} (h1 : 1 ≤ H) (h : 0 ≤ q.1.2 ∧ q.1.2 ≤ 10000) : (shipEv H q).length ≤ 20004 := by
  have z := flat_len (evJ H q) 2 (List.range (nD H q)) fun _ _ => Nat.le_refl 2
  have := (nD_le h1 h).1
  unfold shipEv
  simp at z ⊢
  omega
def LEI0 (H : Int) (ss : List (Int × Int)) (base : List (List Int)) (q : Shp) (pre : List Nat) (st : AEnv) : Prop := ∃ (L : List (List Int)) (s6 s9 : Sl), L = base ++ pre.flatMap (evJ H q) ∧
  st = [.dat (eT H ss), .dat (.int 1), .lst (L.map tupOf), .dat (.int H), .dat (.tuple (ss.map eS)), .dat (.int (q.2 : Int)), s6, .dat (.int q.1.1), .dat (.int q.1.2), s9]
theorem lev_inner {H : Int} {ss : List (Int × Int)} (ok : TOk H ss) (base : List (List Int)) (hb : base.length ≤ 1000000) (q : Shp) (hq : 0 ≤ q.1.1 ∧ q.1.1 < H ∧ 1 ≤ q.1.2 ∧ q.1.2 ≤ 10000) (s6 s9 : Sl) :
    ∃ s6' s9', forL (Tgt.nm 6) m_law_events_l0 (rangeD (-1 - q.1.2 / H) (nD H q)) [.dat (eT H ss), .dat (.int 1), .lst (base.map tupOf), .dat (.int H), .dat (.tuple (ss.map eS)), .dat (.int (q.2 : Int)), s6, .dat (.int q.1.1), .dat (.int q.1.2), s9] =
      some (.ok .nx, [.dat (eT H ss), .dat (.int 1), .lst ((base ++ shipEv H q).map tupOf), .dat (.int H), .dat (.tuple (ss.map eS)), .dat (.int (q.2 : Int)), s6', .dat (.int q.1.1), .dat (.int q.1.2), s9']) := by
  have h1 := ok.h1
  have h2 := ok.h2
  obtain ⟨n1, n2, n3⟩ := nD_le h1 ⟨by omega, hq.2.2.2⟩
  have turn : ∀ (p : List Nat) (x : Nat) (r : List Nat) (b : AEnv), [] ++ List.range (nD H q) = p ++ x :: r → LEI0 H ss base q p b →
      ∃ b1 b2, (Tgt.nm 6).put (PyData.int (-1 - q.1.2 / H + (x : Int))) b = some b1 ∧ (m_law_events_l0 b1 = some (.ok .nx, b2) ∨ m_law_events_l0 b1 = some (.ok .ct, b2)) ∧ LEI0 H ss base q (p ++ [x]) b2 := by
    rintro p x r b e ⟨L, s6, s9, hL, rfl⟩
    have hx : x < nD H q := by
      have z : x ∈ List.range (nD H q) := by
        have e' : List.range (nD H q) = p ++ x :: r := e
        rw [e']
        simp
      exact List.mem_range.mp z
    have hp : p.length ≤ nD H q := by
      have z := congrArg List.length e
      simp at z
      omega
    have fl := flat_len (evJ H q) 2 p fun _ _ => Nat.le_refl 2
    have hl : L.length < 16777216 := by rw [hL, List.length_append]; omega
    have hl2 : L.length + 1 < 16777216 := by rw [hL, List.length_append]; omega
    have cm : cMul (-1 - q.1.2 / H + (x : Int)) H = true := cMul_small (small400 (by omega) (by omega)) (small400 (by omega) (by omega))
    refine ⟨[.dat (eT H ss), .dat (.int 1), .lst (L.map tupOf), .dat (.int H), .dat (.tuple (ss.map eS)), .dat (.int (q.2 : Int)), .dat (.int (-1 - q.1.2 / H + (x : Int))), .dat (.int q.1.1), .dat (.int q.1.2), s9],
      [.dat (eT H ss), .dat (.int 1), .lst ((L ++ evJ H q x).map tupOf), .dat (.int H), .dat (.tuple (ss.map eS)), .dat (.int (q.2 : Int)), .dat (.int (-1 - q.1.2 / H + (x : Int))), .dat (.int q.1.1), .dat (.int q.1.2), .dat (.int ((-1 - q.1.2 / H + (x : Int)) * H + q.1.1))], by simp, .inl ?_,
      L ++ evJ H q x, _, _, by simp [hL], rfl⟩
    simp [m_law_events_l0, gMul_eq, cm, gAdd, lineN, hl, hl2, evJ, evD, tupOf]
  obtain ⟨st, e, L, s6', s9', hL, rfl⟩ := forL_inv (t := Tgt.nm 6) (body := m_law_events_l0) (fun j : Nat => PyData.int (-1 - q.1.2 / H + (j : Int))) (LEI0 H ss base q) (List.range (nD H q)) [] [.dat (eT H ss), .dat (.int 1), .lst (base.map tupOf), .dat (.int H), .dat (.tuple (ss.map eS)), .dat (.int (q.2 : Int)), s6, .dat (.int q.1.1), .dat (.int q.1.2), s9] ⟨base, s6, s9, by simp, rfl⟩ turn
  refine ⟨s6', s9', ?_⟩
  rw [hL] at e
  exact e
def LEI1 (H : Int) (ss : List (Int × Int)) (pre : List Shp) (st : AEnv) : Prop := ∃ s5 s6 s7 s8 s9, st = [.dat (eT H ss), .dat (.int 1), .lst ((pre.flatMap (shipEv H)).map tupOf), .dat (.int H), .dat (.tuple (ss.map eS)), s5, s6, s7, s8, s9]
theorem lawUns_shape {H : Int} {ss : List (Int × Int)} {l : List Int} (h : l ∈ lawUns H ss) : ∃ a b c d, l = [a, b, c, d] := by
  obtain ⟨q, _, h⟩ := List.mem_flatMap.mp h
  obtain ⟨j, _, h⟩ := List.mem_flatMap.mp h
  unfold evJ evD at h
  rcases List.mem_cons.mp h with rfl | h
  · exact ⟨_, _, _, _, rfl⟩
  · rw [List.mem_singleton.mp h]
    exact ⟨_, _, _, _, rfl⟩
theorem law_events_spec {H : Int} {ss : List (Int × Int)} (ok : TOk H ss) : F_law_events [eT H ss, .int 1] = some (.ok (.lst ((srtL (lawUns H ss)).map tupOf))) := by
  have h1 := ok.h1
  have h2 := ok.h2
  have pos : 0 < H := by omega
  have lg := logH ⟨h1, h2⟩
  have turn : ∀ (p : List Shp) (x : Shp) (r : List Shp) (b : AEnv), [] ++ ss.zipIdx = p ++ x :: r → LEI1 H ss p b →
      ∃ b1 b2, (Tgt.tp [(Tgt.nm 5), (Tgt.tp [(Tgt.nm 7), (Tgt.nm 8)])]).put (eQ x) b = some b1 ∧ (m_law_events_l1 b1 = some (.ok .nx, b2) ∨ m_law_events_l1 b1 = some (.ok .ct, b2)) ∧ LEI1 H ss (p ++ [x]) b2 := by
    rintro p x r b e ⟨s5, s6, s7, s8, s9, rfl⟩
    have e' : ss.zipIdx = p ++ x :: r := e
    have hx := zip_mem (ss := ss) (q := x) (by simp [e'])
    have ok2 := ok.ship _ hx.1
    have hp : p.length ≤ 24 := by
      have z := congrArg List.length e'
      have := ok.len
      simp at z
      omega
    have fl := flat_len (shipEv H) 20004 p fun y hy => shipEv_len h1 (by
      have z := ok.ship _ (zip_mem (ss := ss) (q := y) (by simp [e', hy])).1
      omega)
    obtain ⟨n1, n2, n3⟩ := nD_le (q := x) h1 ⟨by omega, ok2.2.2.2⟩
    obtain ⟨s6', s9', ef⟩ := lev_inner ok (p.flatMap (shipEv H)) (by omega) x ok2 s6 s9
    obtain ⟨⟨h, s⟩, i⟩ := x
    have c1 : -4611686018427387904 ≤ -1 - s / H ∧ -1 - s / H < 4611686018427387904 := by
      simp only at n2 n3
      omega
    have en : (1 - (-1 - s / H)).toNat = nD H ((h, s), i) := by
      unfold nD
      congr 1
      show 1 - (-1 - s / H) = 2 + s / H
      omega
    refine ⟨[.dat (eT H ss), .dat (.int 1), .lst ((p.flatMap (shipEv H)).map tupOf), .dat (.int H), .dat (.tuple (ss.map eS)), .dat (.int (i : Int)), s6, .dat (.int h), .dat (.int s), s9], _, by simp [eQ, eS], .inl ?_, .dat (.int (i : Int)), s6', .dat (.int h), .dat (.int s), s9', rfl⟩
    simp [m_law_events_l1, gNeg, gDiv, gI, cDiv, pos, lg, gI0, gR2, c1, en, ef]
  obtain ⟨st, e, s5, s6, s7, s8, s9, rfl⟩ := forL_inv (t := Tgt.tp [(Tgt.nm 5), (Tgt.tp [(Tgt.nm 7), (Tgt.nm 8)])]) (body := m_law_events_l1) eQ (LEI1 H ss) ss.zipIdx [] [.dat (eT H ss), .dat (.int 1), .lst [], .dat (.int H), .dat (.tuple (ss.map eS)), .un, .un, .un, .un, .un] ⟨.un, .un, .un, .un, .un, by simp⟩ turn
  have srt : gSorted [.list ((lawUns H ss).map tupOf)] = some (.lst ((srtL (lawUns H ss)).map tupOf)) := sorted_tups fun n hn => by
    obtain ⟨a, b, c, d, rfl⟩ := lawUns_shape hn
    exact fun z => nomatch z
  refine fnD_ret ?_
  unfold lawUns at srt ⊢
  simp only [eT] at e
  simp [-List.map_map, -List.map_flatMap, m_law_events, startA, eT, lineN, enum_zip, e, srt]
end LawK02

namespace LawK02
open PySem L2 Am

/-! ### levels -/
def lev (H a : Int) : List (List Int) → List Int
  | [] => []
  | l :: ls => if 0 ≤ l.getD 0 0 ∧ l.getD 0 0 < H then (a + stepI l) :: lev H (a + stepI l) ls else lev H (a + stepI l) ls
theorem tot_cons (a : Int) (l : List Int) (p : List (List Int)) : tot a (l :: p) = tot (a + stepI l) p := by
  simp [tot]
  omega
theorem lev_append (H a : Int) : ∀ (p q : List (List Int)), lev H a (p ++ q) = lev H a p ++ lev H (tot a p) q
  | [], q => by simp [lev, tot]
  | l :: p, q => by
    rw [List.cons_append, lev, lev, tot_cons, lev_append H (a + stepI l) p q]
    split <;> simp
theorem lev_len (H a : Int) : ∀ p : List (List Int), (lev H a p).length ≤ p.length
  | [] => Nat.le_refl _
  | l :: p => by
    have z := lev_len H (a + stepI l) p
    rw [lev, List.length_cons]
    split
    · rw [List.length_cons]; omega
    · omega
theorem lawUns_len {H : Int} {ss : List (Int × Int)} (ok : TOk H ss) : (lawUns H ss).length ≤ 500000 := by
  have z := flat_len (shipEv H) 20004 ss.zipIdx fun y hy => shipEv_len ok.h1 (by
    have z := ok.ship _ (zip_mem hy).1
    omega)
  have := ok.len
  unfold lawUns
  simp at z ⊢
  omega
def LVI (H : Int) (ss : List (Int × Int)) (pre : List (List Int)) (st : AEnv) : Prop := ∃ s3 s4 s5 s6, st = [.dat (eT H ss), .dat (.int (tot 0 pre)), .lst ((lev H 0 pre).map PyData.int), s3, s4, s5, s6]
theorem levels_spec {H : Int} {ss : List (Int × Int)} (ok : TOk H ss) : F_law_levels [eT H ss] = some (.ok (.lst ((lev H 0 (srtL (lawUns H ss))).map PyData.int))) := by
  have hlen := lawUns_len ok
  have hl2 : (srtL (lawUns H ss)).length ≤ 500000 := by rw [(isort_perm lexL _).length_eq]; exact hlen
  have turn : ∀ (p : List (List Int)) (x : List Int) (q : List (List Int)) (b : AEnv), [] ++ srtL (lawUns H ss) = p ++ x :: q → LVI H ss p b →
      ∃ b1 b2, (Tgt.tp [(Tgt.nm 3), (Tgt.nm 4), (Tgt.nm 5), (Tgt.nm 6)]).put (tupOf x) b = some b1 ∧ (m_law_levels_l0 b1 = some (.ok .nx, b2) ∨ m_law_levels_l0 b1 = some (.ok .ct, b2)) ∧ LVI H ss (p ++ [x]) b2 := by
    rintro p x q b e ⟨s3, s4, s5, s6, rfl⟩
    have z : srtL (lawUns H ss) = p ++ x :: q := e
    obtain ⟨a, k, c, d, rfl⟩ := lawUns_shape (H := H) (ss := ss) (l := x) ((isort_perm lexL _).mem_iff.mp (by rw [show isort lexL (lawUns H ss) = p ++ x :: q from e]; simp))
    have hl : (lev H 0 p).length < 16777216 := by
      have z1 := congrArg List.length z
      have z2 := lev_len H 0 p
      simp at z1
      omega
    refine ⟨[.dat (eT H ss), .dat (.int (tot 0 p)), .lst ((lev H 0 p).map PyData.int), .dat (.int a), .dat (.int k), .dat (.int c), .dat (.int d)], _, by simp [tupOf], .inl ?_, .dat (.int a), .dat (.int k), .dat (.int c), .dat (.int d), rfl⟩
    have tt : tot 0 (p ++ [[a, k, c, d]]) = tot 0 p + (if k = 1 then 1 else -1) := by simp [tot, stepI, Int.add_assoc]
    by_cases hk : k = 1
    · subst hk
      simp at tt
      by_cases ha : 0 ≤ a
      · by_cases hb : a < H
        · simp [m_law_levels_l0, gEqA_int, gAdd, gLe, gLt, gCmp, eT, gIx, atI, ixN, ha, hb, lev_append, hl, lineN, lev, tt, stepI]
        · simp [m_law_levels_l0, gEqA_int, gAdd, gLe, gLt, gCmp, eT, gIx, atI, ixN, ha, hb, lev_append, hl, lineN, lev, tt, stepI]
      · simp [m_law_levels_l0, gEqA_int, gAdd, gLe, gLt, gCmp, eT, gIx, atI, ixN, ha, lev_append, hl, lineN, lev, tt, stepI]
    · simp [hk] at tt
      by_cases ha : 0 ≤ a
      · by_cases hb : a < H
        · simp [m_law_levels_l0, gEqA_int, hk, gNeg, gAdd, gLe, gLt, gCmp, eT, gIx, atI, ixN, ha, hb, lev_append, hl, lineN, lev, tt, stepI]
        · simp [m_law_levels_l0, gEqA_int, hk, gNeg, gAdd, gLe, gLt, gCmp, eT, gIx, atI, ixN, ha, hb, lev_append, hl, lineN, lev, tt, stepI]
      · simp [m_law_levels_l0, gEqA_int, hk, gNeg, gAdd, gLe, gLt, gCmp, eT, gIx, atI, ixN, ha, lev_append, hl, lineN, lev, tt, stepI]
  obtain ⟨st, e, s3, s4, s5, s6, rfl⟩ := forL_inv (t := Tgt.tp [(Tgt.nm 3), (Tgt.nm 4), (Tgt.nm 5), (Tgt.nm 6)]) (body := m_law_levels_l0) tupOf (LVI H ss) (srtL (lawUns H ss)) [] [.dat (eT H ss), .dat (.int 0), .lst [], .un, .un, .un, .un] ⟨.un, .un, .un, .un, by simp [tot, lev]⟩ turn
  refine fnD_ret ?_
  simp [-List.map_map, m_law_levels, startA, law_events_spec ok, lineN, e]
end LawK02

namespace LawK02
open PySem L2 Am

/-! ### present -/
def k0 (t h : Int) : Int := if h ≤ t then 0 else 1
def nK (H t : Int) (q : Shp) : Nat := ((q.1.2 + q.1.1 - t + H - 1) / H - k0 t q.1.1).toNat
def prsJ (t : Int) (q : Shp) (j : Nat) : List Int := [-(k0 t q.1.1 + (j : Int)), q.1.1, (q.2 : Int)]
def prsQ (H t : Int) (q : Shp) : List (List Int) := (List.range (nK H t q)).map (prsJ t q)
theorem nK_iff {H t : Int} {q : Shp} (hH : 1 ≤ H) (j : Nat) : j < nK H t q ↔ t + (k0 t q.1.1 + (j : Int)) * H - q.1.1 < q.1.2 := by
  unfold nK
  have z : (k0 t q.1.1 + (j : Int)) < (q.1.2 + q.1.1 - t + H - 1) / H ↔ (k0 t q.1.1 + (j : Int)) + 1 ≤ (q.1.2 + q.1.1 - t + H - 1) / H := Int.lt_iff_add_one_le
  have z2 : (k0 t q.1.1 + (j : Int)) + 1 ≤ (q.1.2 + q.1.1 - t + H - 1) / H ↔ ((k0 t q.1.1 + (j : Int)) + 1) * H ≤ q.1.2 + q.1.1 - t + H - 1 := Int.le_ediv_iff_mul_le (by omega)
  have z3 : ((k0 t q.1.1 + (j : Int)) + 1) * H = (k0 t q.1.1 + (j : Int)) * H + H := by rw [Int.add_mul, Int.one_mul]
  constructor
  · intro h
    have h' : k0 t q.1.1 + (j : Int) < (q.1.2 + q.1.1 - t + H - 1) / H := by omega
    have := z2.mp (z.mp h')
    omega
  · intro h
    have := z.mpr (z2.mpr (by omega))
    omega
theorem nK_le {H t : Int} {q : Shp} (hH : 1 ≤ H) (ht : 0 ≤ t) (h : 0 ≤ q.1.1 ∧ q.1.1 ≤ 1000) (h2 : 1 ≤ q.1.2 ∧ q.1.2 ≤ 10000) (hH2 : H ≤ 1000) : nK H t q ≤ 12000 := by
  unfold nK
  have z : (q.1.2 + q.1.1 - t + H - 1) / H ≤ 12000 := by
    by_cases hz : 0 ≤ q.1.2 + q.1.1 - t + H - 1
    · have := Int.ediv_le_self H hz
      omega
    · have : (q.1.2 + q.1.1 - t + H - 1) / H < 0 := Int.ediv_neg_of_neg_of_pos (by omega) (by omega)
      omega
  have : 0 ≤ k0 t q.1.1 := by unfold k0; split <;> omega
  omega
theorem mWhile_pure {c : M Bool} {body : M Fl} (A : Nat → AEnv) (k n : Nat) (hk : k < n) (h1 : ∀ j, j < k → c (A j) = some (.ok true, A j) ∧ body (A j) = some (.ok .nx, A (j + 1))) (h2 : c (A k) = some (.ok false, A k)) : mWhile c body n (A 0) = some (.ok .nx, A k) := by
  have q := mWhile_run (c := c) (body := body) A k 0 n hk (fun j _ hj => ⟨A j, (h1 j (by omega)).1, (h1 j (by omega)).2⟩) ⟨A (0 + k), by rw [Nat.zero_add]; exact h2, rfl⟩
  rw [Nat.zero_add] at q
  exact q
theorem prs_while {H t : Int} {ss : List (Int × Int)} (ok : TOk H ss) (ht : 0 ≤ t ∧ t < H) (base : List (List Int)) (hb : base.length ≤ 1000000) (q : Shp) (hq : 0 ≤ q.1.1 ∧ q.1.1 < H ∧ 1 ≤ q.1.2 ∧ q.1.2 ≤ 10000) (s9 : Sl) :
    mWhile m_present_l1 m_present_l2 fuel [.dat (eT H ss), .dat (.int t), .lst (base.map tupOf), .dat (.int H), .dat (.tuple (ss.map eS)), .dat (.int (q.2 : Int)), .dat (.int (k0 t q.1.1)), .dat (.int q.1.1), .dat (.int q.1.2), s9] =
      some (.ok .nx, [.dat (eT H ss), .dat (.int t), .lst ((base ++ prsQ H t q).map tupOf), .dat (.int H), .dat (.tuple (ss.map eS)), .dat (.int (q.2 : Int)), .dat (.int (k0 t q.1.1 + (nK H t q : Int))), .dat (.int q.1.1), .dat (.int q.1.2), s9]) := by
  have h1 := ok.h1
  have h2 := ok.h2
  have nk := nK_le (q := q) h1 ht.1 ⟨hq.1, by omega⟩ hq.2.2 h2
  have k01 : 0 ≤ k0 t q.1.1 ∧ k0 t q.1.1 ≤ 1 := by unfold k0; split <;> omega
  have run := mWhile_pure (c := m_present_l1) (body := m_present_l2) (fun j => [.dat (eT H ss), .dat (.int t), .lst ((base ++ (List.range j).map (prsJ t q)).map tupOf), .dat (.int H), .dat (.tuple (ss.map eS)), .dat (.int (q.2 : Int)), .dat (.int (k0 t q.1.1 + (j : Int))), .dat (.int q.1.1), .dat (.int q.1.2), s9])
    (nK H t q) fuel (by unfold fuel; omega) (fun j hj => ?_) ?_
  · simpa [prsQ] using run
  · have lt := (nK_iff (q := q) (t := t) h1 j).mp (by omega)
    have cm : cMul (k0 t q.1.1 + (j : Int)) H = true := cMul_small (small400 (by omega) (by omega)) (small400 (by omega) (by omega))
    have hl : base.length + j < 16777216 := by omega
    refine ⟨?_, ?_⟩
    · simp [m_present_l1, gMul_eq, cm, gAdd, gI0, gLt, gCmp, lt]
    · simp [m_present_l2, gNeg, lineN, hl, gAddI, gI0, List.range_succ, prsJ, tupOf]
      omega
  · have lt : ¬ t + (k0 t q.1.1 + (nK H t q : Int)) * H - q.1.1 < q.1.2 := fun z => Nat.lt_irrefl _ ((nK_iff (q := q) (t := t) h1 (nK H t q)).mpr z)
    have cm : cMul (k0 t q.1.1 + (nK H t q : Int)) H = true := cMul_small (small400 (by omega) (by omega)) (small400 (by omega) (by omega))
    simp [m_present_l1, gMul_eq, cm, gAdd, gI0, gLt, gCmp, lt]
end LawK02

namespace LawK02
open PySem L2 Am

def prs (H t : Int) (ss : List (Int × Int)) : List (List Int) := ss.zipIdx.flatMap (prsQ H t)
def pv (l : List Int) : PyData := .tuple [.int (l.getD 2 0), .int (-(l.getD 0 0))]
def PRI (H t : Int) (ss : List (Int × Int)) (pre : List Shp) (st : AEnv) : Prop := ∃ s5 s6 s7 s8 s9, st = [.dat (eT H ss), .dat (.int t), .lst ((pre.flatMap (prsQ H t)).map tupOf), .dat (.int H), .dat (.tuple (ss.map eS)), s5, s6, s7, s8, s9]
theorem prs_shape {H t : Int} {ss : List (Int × Int)} {l : List Int} (h : l ∈ prs H t ss) : ∃ a b c, l = [a, b, c] := by
  obtain ⟨q, _, h⟩ := List.mem_flatMap.mp h
  obtain ⟨j, _, rfl⟩ := List.mem_map.mp h
  exact ⟨_, _, _, rfl⟩
theorem prs_len {H t : Int} {ss : List (Int × Int)} (ok : TOk H ss) (ht : 0 ≤ t ∧ t < H) : (prs H t ss).length ≤ 288000 := by
  have z := flat_len (prsQ H t) 12000 ss.zipIdx fun y hy => by
    have z := ok.ship _ (zip_mem hy).1
    have h1 := ok.h1
    have h2 := ok.h2
    unfold prsQ
    rw [List.length_map, List.length_range]
    exact nK_le h1 ht.1 ⟨z.1, by omega⟩ z.2.2 h2
  have := ok.len
  unfold prs
  simp at z ⊢
  omega
theorem present_spec {H t : Int} {ss : List (Int × Int)} (ok : TOk H ss) (hp : (maxI (cnt (mid H ss) (evs H ss))).getD 0 ≤ 60) (ht : 0 ≤ t ∧ t < H) : F_present [eT H ss, .int t] = some (.ok (.lst ((srtL (prs H t ss)).map pv))) := by
  have h1 := ok.h1
  have h2 := ok.h2
  have hlen := prs_len ok ht
  have turn : ∀ (p : List Shp) (x : Shp) (r : List Shp) (b : AEnv), [] ++ ss.zipIdx = p ++ x :: r → PRI H t ss p b →
      ∃ b1 b2, (Tgt.tp [(Tgt.nm 5), (Tgt.tp [(Tgt.nm 7), (Tgt.nm 8)])]).put (eQ x) b = some b1 ∧ (m_present_l3 b1 = some (.ok .nx, b2) ∨ m_present_l3 b1 = some (.ok .ct, b2)) ∧ PRI H t ss (p ++ [x]) b2 := by
    rintro p x r b e ⟨s5, s6, s7, s8, s9, rfl⟩
    have e' : ss.zipIdx = p ++ x :: r := e
    have ok2 := ok.ship _ (zip_mem (ss := ss) (q := x) (by simp [e'])).1
    have hp : (p.flatMap (prsQ H t)).length ≤ 1000000 := by
      have z : prs H t ss = p.flatMap (prsQ H t) ++ (x :: r).flatMap (prsQ H t) := by unfold prs; rw [e', List.flatMap_append]
      have z2 := congrArg List.length z
      rw [List.length_append] at z2
      omega
    have ef := prs_while ok ht (p.flatMap (prsQ H t)) hp x ok2 s9
    obtain ⟨⟨h, s⟩, i⟩ := x
    refine ⟨[.dat (eT H ss), .dat (.int t), .lst ((p.flatMap (prsQ H t)).map tupOf), .dat (.int H), .dat (.tuple (ss.map eS)), .dat (.int (i : Int)), s6, .dat (.int h), .dat (.int s), s9],
      [.dat (eT H ss), .dat (.int t), .lst ((p.flatMap (prsQ H t) ++ prsQ H t ((h, s), i)).map tupOf), .dat (.int H), .dat (.tuple (ss.map eS)), .dat (.int (i : Int)), .dat (.int (k0 t h + (nK H t ((h, s), i) : Int))), .dat (.int h), .dat (.int s), s9], by simp [eQ, eS], .inl ?_, .dat (.int (i : Int)), _, .dat (.int h), .dat (.int s), s9, by rw [List.flatMap_append, List.flatMap_singleton]⟩
    by_cases hh : h ≤ t
    · have ek : k0 t h = 0 := if_pos hh
      simp only [ek] at ef ⊢
      simp [-List.map_append, m_present_l3, gLe, gCmp, hh, ef]
    · have ek : k0 t h = 1 := if_neg hh
      simp only [ek] at ef ⊢
      simp [-List.map_append, m_present_l3, gLe, gCmp, hh, ef]
  obtain ⟨st, e, s5, s6, s7, s8, s9, rfl⟩ := forL_inv (t := Tgt.tp [(Tgt.nm 5), (Tgt.tp [(Tgt.nm 7), (Tgt.nm 8)])]) (body := m_present_l3) eQ (PRI H t ss) ss.zipIdx [] [.dat (eT H ss), .dat (.int t), .lst [], .dat (.int H), .dat (.tuple (ss.map eS)), .un, .un, .un, .un, .un] ⟨.un, .un, .un, .un, .un, by simp⟩ turn
  have srt : gSorted [.list ((prs H t ss).map tupOf)] = some (.lst ((srtL (prs H t ss)).map tupOf)) := sorted_tups fun n hn => by
    obtain ⟨a, b, c, rfl⟩ := prs_shape hn
    exact fun z => nomatch z
  have cmp := lcL_pure (t := Tgt.tp [Tgt.nm 9, Tgt.nm 7, Tgt.nm 5]) (m := m_present_l0) (vs := [9, 7, 5]) tupOf pv
    [.dat (eT H ss), .dat (.int t), .lst ((prs H t ss).map tupOf), .dat (.int H), .dat (.tuple (ss.map eS)), .un, s6, .un, s8, .un] (srtL (prs H t ss))
    (by rw [(isort_perm lexL _).length_eq]; unfold lineN; omega) fun l hl => by
      obtain ⟨a, b, c, rfl⟩ := prs_shape ((isort_perm lexL _).mem_iff.mp hl)
      refine ⟨[.dat (eT H ss), .dat (.int t), .lst ((prs H t ss).map tupOf), .dat (.int H), .dat (.tuple (ss.map eS)), .dat (.int c), s6, .dat (.int b), s8, .dat (.int a)], ?_, ?_, ?_⟩
      · simp [tupOf]
      · simp [m_present_l0, gNeg, lineN, pv]
      · simp [wipeA]
  have hr : t ≤ H - 1 := by omega
  refine fnD_ret ?_
  have rq := require_spec ok hp
  unfold prs at srt cmp ⊢
  simp only [eT] at e cmp rq
  simp [-List.map_map, m_present, startA, rq, eT, gI0, in_range_spec, ht.1, hr, lineN, enum_zip, e, srt, mLc_app, wipeA, cmp]
end LawK02

namespace LawK02
open PySem L2 Am

/-! ### the law's own list -/
def herJ (H t : Int) (q : Shp) (d : Nat) : List (List Int) := if q.1.1 - (d : Int) * H ≤ t ∧ t < q.1.1 - (d : Int) * H + q.1.2 then [[q.1.1 - (d : Int) * H, (q.2 : Int), (d : Int)]] else []
def herQ (H t : Int) (q : Shp) : List (List Int) := (List.range (nD H q)).flatMap (herJ H t q)
def her (H t : Int) (ss : List (Int × Int)) : List (List Int) := ss.zipIdx.flatMap (herQ H t)
def hv (l : List Int) : PyData := .tuple [.int (l.getD 1 0), .int (l.getD 2 0)]
theorem herJ_len (H t : Int) (q : Shp) (d : Nat) : (herJ H t q d).length ≤ 1 := by
  unfold herJ
  split <;> simp
theorem herQ_len {H t : Int} {q : Shp} (h1 : 1 ≤ H) (h : 0 ≤ q.1.2 ∧ q.1.2 ≤ 10000) : (herQ H t q).length ≤ 10002 := by
  have z := flat_len (herJ H t q) 1 (List.range (nD H q)) fun d _ => herJ_len H t q d
  have := (nD_le h1 h).1
  unfold herQ
  simp at z ⊢
  omega
theorem her_shape {H t : Int} {ss : List (Int × Int)} {l : List Int} (h : l ∈ her H t ss) : ∃ a b c, l = [a, b, c] := by
  obtain ⟨q, _, h⟩ := List.mem_flatMap.mp h
  obtain ⟨j, _, h⟩ := List.mem_flatMap.mp h
  unfold herJ at h
  split at h
  · rw [List.mem_singleton.mp h]
    exact ⟨_, _, _, rfl⟩
  · cases h
def HEI0 (H t : Int) (ss : List (Int × Int)) (base : List (List Int)) (q : Shp) (pre : List Nat) (st : AEnv) : Prop := ∃ (L : List (List Int)) (s6 s9 : Sl), L = base ++ pre.flatMap (herJ H t q) ∧
  st = [.dat (eT H ss), .dat (.int t), .lst (L.map tupOf), .dat (.int H), .dat (.tuple (ss.map eS)), .dat (.int (q.2 : Int)), s6, .dat (.int q.1.1), .dat (.int q.1.2), s9]
theorem her_inner {H t : Int} {ss : List (Int × Int)} (ok : TOk H ss) (base : List (List Int)) (hb : base.length ≤ 1000000) (q : Shp) (hq : 0 ≤ q.1.1 ∧ q.1.1 < H ∧ 1 ≤ q.1.2 ∧ q.1.2 ≤ 10000) (s6 s9 : Sl) :
    ∃ s6' s9', forL (Tgt.nm 6) m_law_here_l1 (rangeD 0 (nD H q)) [.dat (eT H ss), .dat (.int t), .lst (base.map tupOf), .dat (.int H), .dat (.tuple (ss.map eS)), .dat (.int (q.2 : Int)), s6, .dat (.int q.1.1), .dat (.int q.1.2), s9] =
      some (.ok .nx, [.dat (eT H ss), .dat (.int t), .lst ((base ++ herQ H t q).map tupOf), .dat (.int H), .dat (.tuple (ss.map eS)), .dat (.int (q.2 : Int)), s6', .dat (.int q.1.1), .dat (.int q.1.2), s9']) := by
  have h1 := ok.h1
  have h2 := ok.h2
  obtain ⟨n1, n2, n3⟩ := nD_le h1 ⟨by omega, hq.2.2.2⟩
  have turn : ∀ (p : List Nat) (x : Nat) (r : List Nat) (b : AEnv), [] ++ List.range (nD H q) = p ++ x :: r → HEI0 H t ss base q p b →
      ∃ b1 b2, (Tgt.nm 6).put (PyData.int (0 + (x : Int))) b = some b1 ∧ (m_law_here_l1 b1 = some (.ok .nx, b2) ∨ m_law_here_l1 b1 = some (.ok .ct, b2)) ∧ HEI0 H t ss base q (p ++ [x]) b2 := by
    rintro p x r b e ⟨L, s6, s9, hL, rfl⟩
    have hx : x < nD H q := by
      have z : x ∈ List.range (nD H q) := by
        have e' : List.range (nD H q) = p ++ x :: r := e
        rw [e']
        simp
      exact List.mem_range.mp z
    have hp : p.length ≤ nD H q := by
      have z := congrArg List.length e
      simp at z
      omega
    have fl := flat_len (herJ H t q) 1 p fun d _ => herJ_len H t q d
    have hl : L.length < 16777216 := by rw [hL, List.length_append]; omega
    have cm : cMul (x : Int) H = true := cMul_small (small400 (by omega) (by omega)) (small400 (by omega) (by omega))
    refine ⟨[.dat (eT H ss), .dat (.int t), .lst (L.map tupOf), .dat (.int H), .dat (.tuple (ss.map eS)), .dat (.int (q.2 : Int)), .dat (.int (x : Int)), .dat (.int q.1.1), .dat (.int q.1.2), s9],
      [.dat (eT H ss), .dat (.int t), .lst ((L ++ herJ H t q x).map tupOf), .dat (.int H), .dat (.tuple (ss.map eS)), .dat (.int (q.2 : Int)), .dat (.int (x : Int)), .dat (.int q.1.1), .dat (.int q.1.2), .dat (.int (q.1.1 - (x : Int) * H))], by simp, .inl ?_,
      L ++ herJ H t q x, _, _, by simp [hL], rfl⟩
    by_cases c1 : q.1.1 - (x : Int) * H ≤ t
    · by_cases c2 : t < q.1.1 - (x : Int) * H + q.1.2
      · simp [m_law_here_l1, gMul_eq, cm, gAdd, gI0, gLe, gLt, gCmp, c1, c2, lineN, hl, herJ, tupOf]
      · simp [m_law_here_l1, gMul_eq, cm, gAdd, gI0, gLe, gLt, gCmp, c1, c2, lineN, hl, herJ, tupOf]
    · simp [m_law_here_l1, gMul_eq, cm, gAdd, gI0, gLe, gLt, gCmp, c1, lineN, hl, herJ, tupOf]
  obtain ⟨st, e, L, s6', s9', hL, rfl⟩ := forL_inv (t := Tgt.nm 6) (body := m_law_here_l1) (fun j : Nat => PyData.int (0 + (j : Int))) (HEI0 H t ss base q) (List.range (nD H q)) [] [.dat (eT H ss), .dat (.int t), .lst (base.map tupOf), .dat (.int H), .dat (.tuple (ss.map eS)), .dat (.int (q.2 : Int)), s6, .dat (.int q.1.1), .dat (.int q.1.2), s9] ⟨base, s6, s9, by simp, rfl⟩ turn
  refine ⟨s6', s9', ?_⟩
  rw [hL] at e
  exact e
def HEI1 (H t : Int) (ss : List (Int × Int)) (pre : List Shp) (st : AEnv) : Prop := ∃ s5 s6 s7 s8 s9, st = [.dat (eT H ss), .dat (.int t), .lst ((pre.flatMap (herQ H t)).map tupOf), .dat (.int H), .dat (.tuple (ss.map eS)), s5, s6, s7, s8, s9]
theorem here_spec {H t : Int} {ss : List (Int × Int)} (ok : TOk H ss) : F_law_here [eT H ss, .int t] = some (.ok (.lst ((srtL (her H t ss)).map hv))) := by
  have h1 := ok.h1
  have h2 := ok.h2
  have pos : 0 < H := by omega
  have lg := logH ⟨h1, h2⟩
  have hlen : (her H t ss).length ≤ 241000 := by
    have z := flat_len (herQ H t) 10002 ss.zipIdx fun y hy => herQ_len h1 (by
      have z := ok.ship _ (zip_mem hy).1
      omega)
    have := ok.len
    unfold her
    simp at z ⊢
    omega
  have turn : ∀ (p : List Shp) (x : Shp) (r : List Shp) (b : AEnv), [] ++ ss.zipIdx = p ++ x :: r → HEI1 H t ss p b →
      ∃ b1 b2, (Tgt.tp [(Tgt.nm 5), (Tgt.tp [(Tgt.nm 7), (Tgt.nm 8)])]).put (eQ x) b = some b1 ∧ (m_law_here_l2 b1 = some (.ok .nx, b2) ∨ m_law_here_l2 b1 = some (.ok .ct, b2)) ∧ HEI1 H t ss (p ++ [x]) b2 := by
    rintro p x r b e ⟨s5, s6, s7, s8, s9, rfl⟩
    have e' : ss.zipIdx = p ++ x :: r := e
    have ok2 := ok.ship _ (zip_mem (ss := ss) (q := x) (by simp [e'])).1
    have hp : (p.flatMap (herQ H t)).length ≤ 1000000 := by
      have z : her H t ss = p.flatMap (herQ H t) ++ (x :: r).flatMap (herQ H t) := by unfold her; rw [e', List.flatMap_append]
      have z2 := congrArg List.length z
      rw [List.length_append] at z2
      omega
    obtain ⟨n1, n2, n3⟩ := nD_le (q := x) h1 ⟨by omega, ok2.2.2.2⟩
    obtain ⟨s6', s9', ef⟩ := her_inner (t := t) ok (p.flatMap (herQ H t)) hp x ok2 s6 s9
    obtain ⟨⟨h, s⟩, i⟩ := x
    have c1 : -4611686018427387904 ≤ 2 + s / H ∧ 2 + s / H < 4611686018427387904 := by
      simp only at n2 n3
      omega
    have en : (2 + s / H).toNat = nD H ((h, s), i) := rfl
    refine ⟨[.dat (eT H ss), .dat (.int t), .lst ((p.flatMap (herQ H t)).map tupOf), .dat (.int H), .dat (.tuple (ss.map eS)), .dat (.int (i : Int)), s6, .dat (.int h), .dat (.int s), s9],
      [.dat (eT H ss), .dat (.int t), .lst ((p.flatMap (herQ H t) ++ herQ H t ((h, s), i)).map tupOf), .dat (.int H), .dat (.tuple (ss.map eS)), .dat (.int (i : Int)), s6', .dat (.int h), .dat (.int s), s9'], by simp [eQ, eS], .inl ?_, .dat (.int (i : Int)), s6', .dat (.int h), .dat (.int s), s9', by rw [List.flatMap_append, List.flatMap_singleton]⟩
    simp [-List.map_append, m_law_here_l2, gAdd, gDiv, gI, cDiv, pos, lg, gR1, c1, en, ef]
  obtain ⟨st, e, s5, s6, s7, s8, s9, rfl⟩ := forL_inv (t := Tgt.tp [(Tgt.nm 5), (Tgt.tp [(Tgt.nm 7), (Tgt.nm 8)])]) (body := m_law_here_l2) eQ (HEI1 H t ss) ss.zipIdx [] [.dat (eT H ss), .dat (.int t), .lst [], .dat (.int H), .dat (.tuple (ss.map eS)), .un, .un, .un, .un, .un] ⟨.un, .un, .un, .un, .un, by simp⟩ turn
  have srt : gSorted [.list ((her H t ss).map tupOf)] = some (.lst ((srtL (her H t ss)).map tupOf)) := sorted_tups fun n hn => by
    obtain ⟨a, b, c, rfl⟩ := her_shape hn
    exact fun z => nomatch z
  have cmp := lcL_pure (t := Tgt.tp [Tgt.nm 9, Tgt.nm 5, Tgt.nm 6]) (m := m_law_here_l0) (vs := [9, 5, 6]) tupOf hv
    [.dat (eT H ss), .dat (.int t), .lst ((her H t ss).map tupOf), .dat (.int H), .dat (.tuple (ss.map eS)), .un, .un, s7, s8, .un] (srtL (her H t ss))
    (by rw [(isort_perm lexL _).length_eq]; unfold lineN; omega) fun l hl => by
      obtain ⟨a, b, c, rfl⟩ := her_shape ((isort_perm lexL _).mem_iff.mp hl)
      refine ⟨[.dat (eT H ss), .dat (.int t), .lst ((her H t ss).map tupOf), .dat (.int H), .dat (.tuple (ss.map eS)), .dat (.int b), .dat (.int c), s7, s8, .dat (.int a)], ?_, ?_, ?_⟩
      · simp [tupOf]
      · simp [m_law_here_l0, lineN, hv]
      · simp [wipeA]
  refine fnD_ret ?_
  unfold her at srt cmp ⊢
  simp only [eT] at e cmp
  simp [-List.map_map, m_law_here, startA, eT, lineN, enum_zip, e, srt, mLc_app, wipeA, cmp]
/-! ### the bag -/
theorem bag_spec (c : Int) : ∃ a, F_law_bag [.int c] = some (.ok (.lst [.int a, .int c, .int 0])) := by
  have p : cPow 10 18 = true := by decide
  refine ⟨if c - 1000000000000000000 > 0 then c - 1000000000000000000 else 0, fnD_ret ?_⟩
  simp [m_law_bag, startA, gPow, gI, p, gI0, gMax2, lineN]
end LawK02

namespace LawK02
open PySem L2 Am

def LTI (b H m Z k : Int) (pre : List Nat) (st : AEnv) : Prop := ∃ (ss : List (Int × Int)) (a' k' : Int) (s4 s5 : Sl), st = [.lst [.int a', .int b, .int k'], .dat (.int H), .dat (.int m), .lst (ss.map eS), s4, s5] ∧ ss.length = pre.length ∧ k' = k + 3 * pre.length ∧
  ∀ p ∈ ss, 0 ≤ p.1 ∧ p.1 < H ∧ 1 ≤ p.2 ∧ p.2 ≤ 10000 ∧ p.2 ≤ Z
theorem long_loop {k : Int} (a b H m Z : Int) (hk : 0 ≤ k) (hk2 : k < 2 ^ 55) (hH : 1 ≤ H ∧ H ≤ 1000) (hm : 1 ≤ m ∧ m ≤ 4) (hZ : Z = H * (60 / m)) (hZ0 : 1 ≤ Z) (hZ1 : Z ≤ 60000) :
    ∃ (ss : List (Int × Int)) (a' k' : Int) (s4 s5 : Sl), forL (Tgt.nm 4) m_law_long_table_l0 (rangeD 0 m.toNat) [.lst [.int a, .int b, .int k], .dat (.int H), .dat (.int m), .lst [], .un, .un] =
      some (.ok .nx, [.lst [.int a', .int b, .int k'], .dat (.int H), .dat (.int m), .lst (ss.map eS), s4, s5]) ∧ ss.length = m.toNat ∧ k' = k + 3 * m.toNat ∧ ∀ p ∈ ss, 0 ≤ p.1 ∧ p.1 < H ∧ 1 ≤ p.2 ∧ p.2 ≤ 10000 ∧ p.2 ≤ Z := by
  have p55 : (2 : Int) ^ 55 = 36028797018963968 := by decide
  have p60 : (2 : Int) ^ 60 = 1152921504606846976 := by decide
  rw [p55] at hk2
  have turn : ∀ (p : List Nat) (x : Nat) (q : List Nat) (b0 : AEnv), [] ++ List.range m.toNat = p ++ x :: q → LTI b H m Z k p b0 → ∃ b1 b2, (Tgt.nm 4).put (PyData.int (0 + (x : Int))) b0 = some b1 ∧ (m_law_long_table_l0 b1 = some (.ok .nx, b2) ∨ m_law_long_table_l0 b1 = some (.ok .ct, b2)) ∧ LTI b H m Z k (p ++ [x]) b2 := by
    rintro p x q st hpx ⟨ss, a1, k1, s4, s5, rfl, h1, h2, h3⟩
    have hlen : p.length < 5 := by
      have z := congrArg List.length hpx
      simp at z
      omega
    obtain ⟨Y, hY⟩ : ∃ Y : Int, (if Z < 10000 then Z else 10000) = Y := ⟨_, rfl⟩
    have hY1 : 1 ≤ Y ∧ Y ≤ 10000 ∧ Y ≤ Z := by subst hY; split <;> omega
    obtain ⟨r1, a2, k2, e1, q1, l1, u1⟩ := pick_lit (k := k1) (n := H) a1 b (by omega) (by omega) (by omega) (by omega)
    obtain ⟨r2, a3, k3, e2, q2, l2, u2⟩ := pick_lit (k := k2) (n := Y) a2 b (by omega) (by omega) (by omega) (by omega)
    obtain ⟨r3, a4, k4, e3, q3, l3, u3⟩ := pick_lit (k := k3) (n := 2) a3 b (by omega) (by omega) (by decide) (by decide)
    obtain ⟨d, md, gd⟩ := gIx_in [.int Y, .int (1 + r2)] r3 l3 (by simpa using u3)
    obtain ⟨s, rfl, hs0, hs1⟩ : ∃ s, d = .int s ∧ 1 ≤ s ∧ s ≤ Y := by
      simp at md
      rcases md with rfl | rfl <;> exact ⟨_, rfl, by omega, by omega⟩
    have hz : ss.length < 16777216 := by omega
    have pm : 0 < m := by omega
    have lm : m.natAbs.log2 < 9000 := Nat.lt_trans (log2_small (small400 (by omega) (by omega))) (by decide)
    have d60 : 0 ≤ 60 / m ∧ 60 / m ≤ 60 := ⟨Int.ediv_nonneg (by omega) (by omega), Int.ediv_le_self _ (by omega)⟩
    have cm : cMul H (60 / m) = true := cMul_small (small400 (by omega) (by omega)) (small400 (by omega) (by omega))
    refine ⟨[.lst [.int a1, .int b, .int k1], .dat (.int H), .dat (.int m), .lst (ss.map eS), .dat (.int (0 + (x : Int))), s5], [.lst [.int a4, .int b, .int k4], .dat (.int H), .dat (.int m), .lst ((ss ++ [(r1, s)]).map eS), .dat (.int (0 + (x : Int))), .dat (.int Y)], by simp, .inl ?_, ss ++ [(r1, s)], a4, k4, _, _, rfl, by simp [h1], by simp; omega, fun y hy => ?_⟩
    · rw [hZ] at hY
      simp [m_law_long_table_l0, gDiv, gI, cDiv, pm, lm, gMul_eq, cm, gMin2, hY, e1, e2, e3, gAdd, lineN, gd, hz, eS]
    · rcases List.mem_append.mp hy with hy | hy
      · exact h3 y hy
      · rw [List.mem_singleton.mp hy]
        exact ⟨l1, u1, hs0, by show s ≤ 10000; omega, by show s ≤ Z; omega⟩
  obtain ⟨a', e, h⟩ := forL_inv (t := Tgt.nm 4) (body := m_law_long_table_l0) (fun i : Nat => PyData.int (0 + (i : Int))) (LTI b H m Z k) (List.range m.toNat) [] _ ⟨[], a, k, .un, .un, rfl, rfl, by simp, fun _ z => nomatch z⟩ turn
  obtain ⟨ss, a1, k1, s4, s5, rfl, h1, h2, h3⟩ := h
  exact ⟨ss, a1, k1, s4, s5, e, by simpa using h1, by simpa using h2, h3⟩
theorem long_spec {k : Int} (a b : Int) (hk : 0 ≤ k) (hk2 : k < 2 ^ 50) : ∃ H ss a' k', F_law_long_table (.lst [.int a, .int b, .int k]) [] = some (.ok (.dat (eT H ss)), .lst [.int a', .int b, .int k']) ∧ TOk H ss ∧ k ≤ k' ∧ k' ≤ k + 60 := by
  have p50 : (2 : Int) ^ 50 = 1125899906842624 := by decide
  have p60 : (2 : Int) ^ 60 = 1152921504606846976 := by decide
  rw [p50] at hk2
  obtain ⟨r1, a1, k1, e1, q1, l1, u1⟩ := pick_lit (n := 4) a b hk (by omega) (by decide) (by decide)
  obtain ⟨r2, a2, k2, e2, q2, l2, u2⟩ := pick_lit (k := k1) (n := 4) a1 b (by omega) (by omega) (by decide) (by decide)
  obtain ⟨d1, m1, g1⟩ := gIx_in [.int 1, .int 5, .int 24, .int 160] r1 l1 (by simpa using u1)
  obtain ⟨H, rfl, hH1, hH2⟩ : ∃ H, d1 = .int H ∧ 1 ≤ H ∧ H ≤ 1000 := by
    simp at m1
    rcases m1 with rfl | rfl | rfl | rfl <;> exact ⟨_, rfl, by decide, by decide⟩
  obtain ⟨m, hm⟩ : ∃ m, 1 + r2 = m := ⟨_, rfl⟩
  have d60 : 15 ≤ 60 / m ∧ 60 / m ≤ 60 ∧ 60 / m * m ≤ 60 := by
    have : m = 1 ∨ m = 2 ∨ m = 3 ∨ m = 4 := by omega
    rcases this with rfl | rfl | rfl | rfl <;> decide
  have hZ1 : 1 ≤ H * (60 / m) ∧ H * (60 / m) ≤ 60000 := by
    constructor
    · have : H * 1 ≤ H * (60 / m) := Int.mul_le_mul_of_nonneg_left (by omega) (by omega)
      omega
    · have z1 : H * (60 / m) ≤ H * 60 := Int.mul_le_mul_of_nonneg_left (by omega) (by omega)
      omega
  obtain ⟨ss, a7, k7, s4, s5, e7, n7, q7, h7⟩ := long_loop (k := k2) a2 b H m _ (by omega) (by omega) ⟨hH1, hH2⟩ ⟨by omega, by omega⟩ rfl hZ1.1 hZ1.2
  have b1 : -4611686018427387904 ≤ m ∧ m < 4611686018427387904 := by omega
  have z1 : ss.length ≤ 16777216 := by omega
  refine ⟨H, ss, a7, k7, ?_, ⟨hH1, hH2, by omega, fun p hp => ?_, ?_⟩, by omega, by omega⟩
  · simp only [F_law_long_table, fnI, m_law_long_table, startA]
    simp [e1, e2, g1, gAdd, hm, lineN, gR1, b1, e7, gTuple, eT, z1]
  · obtain ⟨x1, x2, x3, x4, _⟩ := h7 p hp
    exact ⟨x1, x2, x3, x4⟩
  · have c := caps_le (c := 60 / m) hH1 ss fun p hp => by
      have z := (h7 p hp).2.2.2.2
      rw [Int.mul_comm] at z
      exact z
    have e : ((ss.length : Nat) : Int) = m := by rw [n7]; omega
    rw [e] at c
    omega
end LawK02

namespace LawK02
open PySem L2 Am

/-! ### sorting and maps -/
theorem srtL_map (f : List Int → List Int) (X : List (List Int)) (h : ∀ a ∈ X, ∀ b ∈ X, lexL (f a) (f b) = lexL a b) : (srtL X).map f = srtL (X.map f) := by
  refine srtL_eq ((isort_perm lexL X).map f) ?_
  have asc : Asc lexL (srtL X) := isort_asc (lt := lexL) (fun _ _ => lexL_asym) (fun _ _ _ => lexL_tr) X
  have mem : ∀ a ∈ srtL X, a ∈ X := fun a ha => (isort_perm lexL X).mem_iff.mp ha
  unfold Asc at asc ⊢
  rw [List.pairwise_map]
  exact asc.imp_of_mem fun {a b} ha hb q => by rw [h b (mem b hb) a (mem a ha)]; exact q
theorem srtL_perm {X Y : List (List Int)} (p : X.Perm Y) : srtL X = srtL Y :=
  srtL_eq ((isort_perm lexL X).trans p) (isort_asc (lt := lexL) (fun _ _ => lexL_asym) (fun _ _ _ => lexL_tr) X)
theorem flat_add {α β : Type} (f g : α → List β) : ∀ xs : List α, (xs.flatMap fun x => f x ++ g x).Perm (xs.flatMap f ++ xs.flatMap g)
  | [] => List.Perm.refl _
  | x :: xs => by
    rw [List.flatMap_cons, List.flatMap_cons, List.flatMap_cons]
    have ih := flat_add f g xs
    refine ((ih.append_left (f x ++ g x))).trans ?_
    rw [List.append_assoc, List.append_assoc]
    refine List.Perm.append_left (f x) ?_
    rw [← List.append_assoc, ← List.append_assoc]
    exact (List.perm_append_comm (l₁ := g x) (l₂ := xs.flatMap f)).append_right _
theorem flat_perm {α β : Type} {f g : α → List β} : ∀ {xs : List α}, (∀ x ∈ xs, (f x).Perm (g x)) → (xs.flatMap f).Perm (xs.flatMap g)
  | [], _ => List.Perm.refl _
  | x :: xs, h => by
    rw [List.flatMap_cons, List.flatMap_cons]
    exact (h x List.mem_cons_self).append (flat_perm fun y hy => h y (List.mem_cons_of_mem _ hy))
theorem flat_one {α β : Type} (f : α → β) : ∀ xs : List α, (xs.flatMap fun x => [f x]) = xs.map f
  | [] => rfl
  | x :: xs => by rw [List.flatMap_cons, flat_one f xs]; rfl
theorem zip_map {β : Type} (f : Int × Int → β) : ∀ (ss : List (Int × Int)) (k : Nat), (ss.zipIdx k).map (fun q => f q.1) = ss.map f
  | [], _ => rfl
  | p :: ss, k => by rw [List.zipIdx_cons, List.map_cons, List.map_cons, zip_map f ss (k + 1)]
theorem sum_add {α : Type} (f g : α → Int) : ∀ xs : List α, (xs.map fun x => f x + g x).sum = (xs.map f).sum + (xs.map g).sum
  | [] => rfl
  | x :: xs => by simp only [List.map_cons, List.sum_cons, sum_add f g xs]; omega
theorem sum_le {α : Type} (f g : α → Int) : ∀ xs : List α, (∀ x ∈ xs, f x ≤ g x) → (xs.map f).sum ≤ (xs.map g).sum
  | [], _ => Int.le_refl _
  | x :: xs, h => by
    have h1 := h x List.mem_cons_self
    have h2 := sum_le f g xs fun y hy => h y (List.mem_cons_of_mem _ hy)
    simp only [List.map_cons, List.sum_cons]
    omega
theorem sum_flat {α : Type} (f : List Int → Int) (g : α → List (List Int)) : ∀ xs : List α, ((xs.flatMap g).map f).sum = (xs.map fun x => ((g x).map f).sum).sum
  | [] => rfl
  | x :: xs => by simp only [List.flatMap_cons, List.map_append, List.sum_append, List.map_cons, List.sum_cons, sum_flat f g xs]
theorem sum_perm {X Y : List Int} (p : X.Perm Y) : X.sum = Y.sum := by
  induction p with
  | nil => rfl
  | cons x _ ih => simp only [List.sum_cons, ih]
  | swap x y l => simp only [List.sum_cons]; omega
  | trans _ _ h1 h2 => exact h1.trans h2
theorem sum_filter (f : List Int → Int) (P : List Int → Bool) : ∀ X : List (List Int), ((X.filter P).map f).sum = (X.map fun l => if P l = true then f l else 0).sum
  | [] => rfl
  | l :: X => by
    rw [List.filter_cons]
    by_cases h : P l = true
    · rw [if_pos h]
      simp only [List.map_cons, List.sum_cons, sum_filter f P X, if_pos h]
    · rw [if_neg h]
      simp only [List.map_cons, List.sum_cons, sum_filter f P X, if_neg h]
      omega
/-! ### present = here -/
theorem range_cut {β : Type} (F : Nat → β) (c : Nat → Prop) [DecidablePred c] (k m n : Nat) (h : k + m ≤ n) (hc : ∀ d, d < n → (c d ↔ k ≤ d ∧ d < k + m)) :
    ((List.range n).flatMap fun d => if c d then [F d] else []) = (List.range m).map fun j => F (k + j) := by
  have none : ∀ xs : List Nat, (∀ d ∈ xs, ¬ c d) → (xs.flatMap fun d => if c d then [F d] else []) = [] := fun xs hx => by
    rw [List.flatMap_eq_nil_iff]
    intro d hd
    exact if_neg (hx d hd)
  have all : ∀ xs : List Nat, (∀ d ∈ xs, c d) → (xs.flatMap fun d => if c d then [F d] else []) = xs.map F := fun xs hx => by
    rw [← flat_one F xs]
    induction xs with
    | nil => rfl
    | cons d xs ih =>
      rw [List.flatMap_cons, List.flatMap_cons, if_pos (hx d List.mem_cons_self), ih fun y hy => hx y (List.mem_cons_of_mem _ hy)]
  obtain ⟨r, rfl⟩ : ∃ r, n = k + (m + r) := ⟨n - k - m, by omega⟩
  rw [List.range_add, List.flatMap_append, none _ fun d hd => ?_, List.nil_append, List.range_add, List.map_append, List.flatMap_append, all _ fun d hd => ?_, none _ fun d hd => ?_, List.append_nil, List.map_map]
  · rfl
  · obtain ⟨j, hj, rfl⟩ := List.mem_map.mp hd
    obtain ⟨i, hi, rfl⟩ := List.mem_map.mp hj
    have := List.mem_range.mp hi
    intro z
    have := (hc _ (by omega)).mp z
    omega
  · obtain ⟨j, hj, rfl⟩ := List.mem_map.mp hd
    have := List.mem_range.mp hj
    exact (hc _ (by omega)).mpr (by omega)
  · have := List.mem_range.mp hd
    intro z
    have := (hc _ (by omega)).mp z
    omega
def psi (H : Int) (l : List Int) : List Int := [l.getD 1 0 + l.getD 0 0 * H, l.getD 2 0, -(l.getD 0 0)]
theorem her_of {H t : Int} {q : Shp} (hH : 1 ≤ H) (ht : 0 ≤ t ∧ t < H) (hq : 0 ≤ q.1.1 ∧ q.1.1 < H ∧ 1 ≤ q.1.2 ∧ q.1.2 ≤ 10000) : herQ H t q = (prsQ H t q).map (psi H) := by
  obtain ⟨kk, hk⟩ : ∃ kk : Nat, k0 t q.1.1 = (kk : Int) ∧ (kk = 0 ∧ q.1.1 ≤ t ∨ kk = 1 ∧ ¬ q.1.1 ≤ t) := by
    unfold k0
    by_cases h : q.1.1 ≤ t
    · exact ⟨0, by rw [if_pos h]; rfl, .inl ⟨rfl, h⟩⟩
    · exact ⟨1, by rw [if_neg h]; rfl, .inr ⟨rfl, h⟩⟩
  have fit : kk + nK H t q ≤ nD H q := by
    rcases Nat.eq_zero_or_pos (nK H t q) with z | z
    · have := nD_le (q := q) hH ⟨by omega, hq.2.2.2⟩
      have : 2 ≤ nD H q := by unfold nD; omega
      omega
    · have w := (nK_iff (q := q) (t := t) hH (nK H t q - 1)).mp (by omega)
      rw [hk.1] at w
      have e : ((nK H t q - 1 : Nat) : Int) = (nK H t q : Int) - 1 := by omega
      rw [e] at w
      have w2 : ((kk : Int) + ((nK H t q : Int) - 1) - 1) * H ≤ q.1.2 := by
        rw [Int.sub_mul, Int.one_mul]
        omega
      have w3 := (Int.le_ediv_iff_mul_le (by omega : (0 : Int) < H)).mpr w2
      unfold nD
      omega
  have main := range_cut (fun d : Nat => [q.1.1 - (d : Int) * H, (q.2 : Int), (d : Int)]) (fun d : Nat => q.1.1 - (d : Int) * H ≤ t ∧ t < q.1.1 - (d : Int) * H + q.1.2) kk (nK H t q) (nD H q) fit fun d hd => by
    have c1 : q.1.1 - (d : Int) * H ≤ t ↔ kk ≤ d := by
      rcases hk.2 with ⟨rfl, h⟩ | ⟨rfl, h⟩
      · have : 0 ≤ (d : Int) * H := Int.mul_nonneg (by omega) (by omega)
        omega
      · rcases Nat.eq_zero_or_pos d with rfl | hd0
        · simp
          omega
        · have : 1 * H ≤ (d : Int) * H := Int.mul_le_mul_of_nonneg_right (by omega) (by omega)
          omega
    constructor
    · rintro ⟨z1, z2⟩
      have z3 := c1.mp z1
      refine ⟨z3, ?_⟩
      obtain ⟨j, rfl⟩ : ∃ j, d = kk + j := ⟨d - kk, by omega⟩
      have := (nK_iff (q := q) (t := t) hH j).mpr (by
        rw [hk.1]
        have e : ((kk + j : Nat) : Int) = (kk : Int) + (j : Int) := by omega
        rw [e] at z2
        omega)
      omega
    · rintro ⟨z1, z2⟩
      refine ⟨c1.mpr z1, ?_⟩
      obtain ⟨j, rfl⟩ : ∃ j, d = kk + j := ⟨d - kk, by omega⟩
      have := (nK_iff (q := q) (t := t) hH j).mp (by omega)
      rw [hk.1] at this
      have e : ((kk + j : Nat) : Int) = (kk : Int) + (j : Int) := by omega
      rw [e]
      omega
  unfold herQ herJ prsQ
  rw [main, List.map_map]
  refine List.map_congr_left fun j hj => ?_
  show [q.1.1 - ((kk + j : Nat) : Int) * H, (q.2 : Int), ((kk + j : Nat) : Int)] = [q.1.1 + -(k0 t q.1.1 + (j : Int)) * H, (q.2 : Int), -(-(k0 t q.1.1 + (j : Int)))]
  rw [hk.1]
  have e : ((kk + j : Nat) : Int) = (kk : Int) + (j : Int) := by omega
  rw [e, Int.neg_mul, Int.neg_neg]
  rfl
theorem here_eq {H t : Int} {ss : List (Int × Int)} (ok : TOk H ss) (ht : 0 ≤ t ∧ t < H) : (srtL (her H t ss)).map hv = (srtL (prs H t ss)).map pv := by
  have h1 := ok.h1
  have e1 : her H t ss = (prs H t ss).map (psi H) := by
    unfold her prs
    rw [List.map_flatMap]
    have cong : ∀ xs : List Shp, (∀ q ∈ xs, q ∈ ss.zipIdx) → xs.flatMap (herQ H t) = xs.flatMap fun q => (prsQ H t q).map (psi H) := fun xs hx => by
      induction xs with
      | nil => rfl
      | cons q xs ih => rw [List.flatMap_cons, List.flatMap_cons, her_of h1 ht (ok.ship _ (zip_mem (hx q List.mem_cons_self)).1), ih fun y hy => hx y (List.mem_cons_of_mem _ hy)]
    exact cong _ fun _ h => h
  have sh : ∀ l ∈ prs H t ss, ∃ k h i, l = [-k, h, i] ∧ 0 ≤ h ∧ h < H := fun l hl => by
    obtain ⟨q, hq, hl⟩ := List.mem_flatMap.mp hl
    obtain ⟨j, _, rfl⟩ := List.mem_map.mp hl
    have z := ok.ship _ (zip_mem hq).1
    exact ⟨_, _, _, rfl, z.1, z.2.1⟩
  rw [e1, ← srtL_map, List.map_map]
  · refine List.map_congr_left fun l hl => ?_
    obtain ⟨k, h, i, rfl, _⟩ := sh l ((isort_perm lexL _).mem_iff.mp hl)
    rfl
  · intro a ha b hb
    obtain ⟨k, h, i, rfl, a1, a2⟩ := sh a ha
    obtain ⟨k', h', i', rfl, b1, b2⟩ := sh b hb
    show lexL [h + -k * H, i, - -k] [h' + -k' * H, i', - -k'] = lexL [-k, h, i] [-k', h', i']
    rw [Int.neg_mul, Int.neg_mul, Int.neg_neg, Int.neg_neg]
    rcases Int.lt_trichotomy k k' with c | c | c
    · have z : (k + 1) * H ≤ k' * H := Int.mul_le_mul_of_nonneg_right (by omega) (by omega)
      rw [Int.add_mul, Int.one_mul] at z
      unfold lexL
      rw [if_neg (by omega), if_neg (by omega)]
      rw [decide_eq_false (by omega), decide_eq_false (by omega)]
    · subst c
      unfold lexL
      by_cases e : h = h'
      · subst e
        rw [if_pos rfl, if_pos rfl]
        unfold lexL
        rw [if_pos rfl]
        by_cases e2 : i = i'
        · subst e2
          rw [if_pos rfl]
          unfold lexL
          rw [if_pos rfl, if_pos rfl]
        · rw [if_neg e2]
          unfold lexL
          rw [if_neg e2]
      · rw [if_neg (by omega), if_pos rfl]
        unfold lexL
        rw [if_neg e]
        exact decide_eq_decide.mpr (by omega)
    · have z : (k' + 1) * H ≤ k * H := Int.mul_le_mul_of_nonneg_right (by omega) (by omega)
      rw [Int.add_mul, Int.one_mul] at z
      unfold lexL
      rw [if_neg (by omega), if_neg (by omega)]
      rw [decide_eq_true (by omega), decide_eq_true (by omega)]
end LawK02

namespace LawK02
open PySem L2 Am

/-! ### counts = levels -/
def inDay (H : Int) (l : List Int) : Bool := decide (0 ≤ l.getD 0 0 ∧ l.getD 0 0 < H)
def early (l : List Int) : Int := if l.getD 0 0 < 0 then stepI l else 0
theorem time_le : ∀ {a b : List Int}, a ≠ [] → b ≠ [] → lexL b a = false → a.getD 0 0 ≤ b.getD 0 0
  | [], _, h, _, _ => absurd rfl h
  | _ :: _, [], _, h, _ => absurd rfl h
  | x :: a, y :: b, _, _, h => by
    unfold lexL at h
    show x ≤ y
    by_cases e : y = x
    · omega
    · rw [if_neg e] at h
      have := of_decide_eq_false h
      omega
theorem lev_eq {H : Int} (hH : 1 ≤ H) : ∀ (L : List (List Int)) (a : Int), (∀ l ∈ L, l ≠ []) → Asc lexL L → lev H a L = cnt (a + (L.map early).sum) (L.filter (inDay H))
  | [], a, _, _ => rfl
  | l :: L, a, ne, asc => by
    obtain ⟨k1, k2⟩ := List.pairwise_cons.mp asc
    have ih := lev_eq hH L (a + stepI l) (fun m hm => ne m (List.mem_cons_of_mem _ hm)) k2
    have later : ∀ m ∈ L, l.getD 0 0 ≤ m.getD 0 0 := fun m hm => time_le (ne l List.mem_cons_self) (ne m (List.mem_cons_of_mem _ hm)) (k1 m hm)
    have noEarly : 0 ≤ l.getD 0 0 → (L.map early).sum = 0 := fun h0 => by
      have z : ∀ xs : List (List Int), (∀ m ∈ xs, 0 ≤ m.getD 0 0) → (xs.map early).sum = 0 := fun xs hx => by
        induction xs with
        | nil => rfl
        | cons m xs ihx =>
          rw [List.map_cons, List.sum_cons, ihx fun y hy => hx y (List.mem_cons_of_mem _ hy)]
          have := hx m List.mem_cons_self
          unfold early
          rw [if_neg (by omega)]
          rfl
      exact z L fun m hm => by have := later m hm; omega
    rw [lev, List.map_cons, List.sum_cons, List.filter_cons]
    by_cases c1 : l.getD 0 0 < 0
    · have e1 : early l = stepI l := if_pos c1
      have e2 : inDay H l = false := decide_eq_false (by omega)
      rw [if_neg (by omega), e1, e2, ih]
      simp only [Bool.false_eq_true, if_false]
      congr 1
      omega
    · have e1 : early l = 0 := if_neg c1
      have z := noEarly (by omega)
      by_cases c2 : l.getD 0 0 < H
      · have e2 : inDay H l = true := decide_eq_true (by omega)
        rw [if_pos (by omega), e1, e2, ih, z]
        simp only [if_true]
        rw [cnt]
        simp
      · have e2 : inDay H l = false := decide_eq_false (by omega)
        have e3 : L.filter (inDay H) = [] := List.filter_eq_nil_iff.mpr fun m hm => by
          have := later m hm
          intro z
          have z2 : 0 ≤ m.getD 0 0 ∧ m.getD 0 0 < H := of_decide_eq_true z
          omega
        rw [if_neg (by omega), e1, e2, ih, z]
        simp only [Bool.false_eq_true, if_false]
        rw [e3]
        rfl
def phi (H : Int) (l : List Int) : List Int := [l.getD 0 0, l.getD 1 0, l.getD 3 0 + l.getD 2 0 * H, l.getD 4 0]
theorem cnt_map (f : List Int → List Int) (h : ∀ l, stepI (f l) = stepI l) : ∀ (L : List (List Int)) (a : Int), cnt a (L.map f) = cnt a L
  | [], a => rfl
  | l :: L, a => by rw [List.map_cons, cnt, cnt, h, cnt_map f h L]
theorem div_facts {H h s : Int} (hH : 1 ≤ H) (h0 : 0 ≤ h ∧ h < H) (hs : 1 ≤ s) : h + s = (h + s) / H * H + (h + s) % H ∧ 0 ≤ (h + s) % H ∧ (h + s) % H < H ∧ 0 ≤ (h + s) / H ∧ (h + s) / H ≤ 1 + s / H := by
  have e := Int.mul_ediv_add_emod (h + s) H
  have r1 := Int.emod_nonneg (h + s) (show H ≠ 0 by omega)
  have r2 := Int.emod_lt_of_pos (h + s) (show (0 : Int) < H by omega)
  have q1 : 0 ≤ (h + s) / H := Int.ediv_nonneg (by omega) (by omega)
  refine ⟨by rw [Int.mul_comm]; omega, r1, r2, q1, ?_⟩
  have : ((h + s) / H - 1) * H ≤ s := by
    rw [Int.sub_mul, Int.one_mul, Int.mul_comm]
    omega
  have := (Int.le_ediv_iff_mul_le (by omega : (0 : Int) < H)).mpr this
  omega
/-- the day d of the departure at hour (h + s) % H -/
theorem dep_day {H h s d : Int} (hH : 1 ≤ H) (h0 : 0 ≤ h ∧ h < H) (hs : 1 ≤ s) : (d * H + h + s < 0 ↔ d < -((h + s) / H)) ∧ (0 ≤ d * H + h + s ∧ d * H + h + s < H ↔ d = -((h + s) / H)) := by
  obtain ⟨e, r1, r2, q1, _⟩ := div_facts hH h0 hs
  have key : d * H + h + s = (d + (h + s) / H) * H + (h + s) % H := by rw [Int.add_mul]; omega
  rw [key]
  generalize (h + s) / H = D at *
  generalize (h + s) % H = r at *
  generalize hm : d + D = m
  have up : 0 < m → H ≤ m * H := fun z => by
    have : 1 * H ≤ m * H := Int.mul_le_mul_of_nonneg_right (by omega) (by omega)
    omega
  have dn : m < 0 → m * H ≤ -H := fun z => by
    have : m * H ≤ -1 * H := Int.mul_le_mul_of_nonneg_right (by omega) (by omega)
    omega
  have ze : m = 0 → m * H = 0 := fun z => by rw [z, Int.zero_mul]
  rcases Int.lt_trichotomy m 0 with c | c | c
  · have := dn c
    constructor <;> constructor <;> intro _ <;> omega
  · have := ze c
    constructor <;> constructor <;> intro _ <;> omega
  · have := up c
    constructor <;> constructor <;> intro _ <;> omega
theorem arr_day {H h d : Int} (hH : 1 ≤ H) (h0 : 0 ≤ h ∧ h < H) : (d * H + h < 0 ↔ d < 0) ∧ (0 ≤ d * H + h ∧ d * H + h < H ↔ d = 0) := by
  have up : 0 < d → H ≤ d * H := fun z => by
    have : 1 * H ≤ d * H := Int.mul_le_mul_of_nonneg_right (by omega) (by omega)
    omega
  have dn : d < 0 → d * H ≤ -H := fun z => by
    have : d * H ≤ -1 * H := Int.mul_le_mul_of_nonneg_right (by omega) (by omega)
    omega
  have ze : d = 0 → d * H = 0 := fun z => by rw [z, Int.zero_mul]
  rcases Int.lt_trichotomy d 0 with c | c | c
  · have := dn c
    constructor <;> constructor <;> intro _ <;> omega
  · have := ze c
    constructor <;> constructor <;> intro _ <;> omega
  · have := up c
    constructor <;> constructor <;> intro _ <;> omega
theorem below_sum (m : Int) (n : Nat) (h0 : 0 ≤ m) (h1 : m ≤ n) : ((List.range n).map fun j : Nat => if (j : Int) < m then (1 : Int) else 0).sum = m := by
  have gen : ∀ n : Nat, ((List.range n).map fun j : Nat => if (j : Int) < m then (1 : Int) else 0).sum = min m n := fun n => by
    induction n with
    | zero => simp; omega
    | succ n ih =>
      rw [List.range_succ, List.map_append, List.sum_append, ih]
      simp only [List.map_cons, List.map_nil, List.sum_cons, List.sum_nil]
      split <;> omega
  rw [gen]
  omega
/-- the calls of a ship that are there at midnight -/
theorem early_ship {H : Int} {q : Shp} (hH : 1 ≤ H) (hq : 0 ≤ q.1.1 ∧ q.1.1 < H ∧ 1 ≤ q.1.2 ∧ q.1.2 ≤ 10000) : ((shipEv H q).map early).sum = (q.1.1 + q.1.2) / H := by
  obtain ⟨e, r1, r2, q1, q2⟩ := div_facts hH ⟨hq.1, hq.2.1⟩ hq.2.2.1
  have sd : 0 ≤ q.1.2 / H := Int.ediv_nonneg (by omega) (by omega)
  have nn : (nD H q : Int) = 2 + q.1.2 / H := by unfold nD; omega
  unfold shipEv
  rw [sum_flat]
  have each : ∀ j : Nat, ((evJ H q j).map early).sum = (if (j : Int) < 1 + q.1.2 / H then (1 : Int) else 0) + -(if (j : Int) < 1 + q.1.2 / H - (q.1.1 + q.1.2) / H then (1 : Int) else 0) := fun j => by
    have a := (arr_day (d := -1 - q.1.2 / H + (j : Int)) hH ⟨hq.1, hq.2.1⟩).1
    have b := (dep_day (d := -1 - q.1.2 / H + (j : Int)) hH ⟨hq.1, hq.2.1⟩ hq.2.2.1).1
    have ea : early [(-1 - q.1.2 / H + (j : Int)) * H + q.1.1, 1, (-1 - q.1.2 / H + (j : Int)) * H + q.1.1, (q.2 : Int)] = if (j : Int) < 1 + q.1.2 / H then (1 : Int) else 0 := by
      show (if (-1 - q.1.2 / H + (j : Int)) * H + q.1.1 < 0 then (1 : Int) else 0) = _
      by_cases c : (j : Int) < 1 + q.1.2 / H
      · rw [if_pos c, if_pos (a.mpr (by omega))]
      · rw [if_neg c, if_neg (fun z => c (by have := a.mp z; omega))]
    have eb : early [(-1 - q.1.2 / H + (j : Int)) * H + q.1.1 + q.1.2, 0, (-1 - q.1.2 / H + (j : Int)) * H + q.1.1, (q.2 : Int)] = -(if (j : Int) < 1 + q.1.2 / H - (q.1.1 + q.1.2) / H then (1 : Int) else 0) := by
      show (if (-1 - q.1.2 / H + (j : Int)) * H + q.1.1 + q.1.2 < 0 then (-1 : Int) else 0) = _
      by_cases c : (j : Int) < 1 + q.1.2 / H - (q.1.1 + q.1.2) / H
      · rw [if_pos c, if_pos (b.mpr (by omega))]
      · rw [if_neg c, if_neg (fun z => c (by have := b.mp z; omega))]
        rfl
    unfold evJ evD
    rw [List.map_cons, List.map_cons, List.map_nil, List.sum_cons, List.sum_cons, List.sum_nil, ea, eb]
    omega
  rw [List.map_congr_left fun j _ => each j, sum_add, below_sum _ _ (by omega) (by omega)]
  have neg : ∀ (f : Nat → Int) (xs : List Nat), (xs.map fun x => -f x).sum = -(xs.map f).sum := fun f xs => by
    induction xs with
    | nil => rfl
    | cons x xs ih => simp only [List.map_cons, List.sum_cons, ih]; omega
  rw [neg (fun j : Nat => if (j : Int) < 1 + q.1.2 / H - (q.1.1 + q.1.2) / H then (1 : Int) else 0), below_sum _ _ (by omega) (by omega)]
  omega
theorem early_all {H : Int} {ss : List (Int × Int)} (ok : TOk H ss) : ((srtL (lawUns H ss)).map early).sum = mid H ss := by
  rw [sum_perm ((isort_perm lexL (lawUns H ss)).map early)]
  unfold lawUns mid
  rw [sum_flat, List.map_congr_left fun q hq => early_ship ok.h1 (ok.ship _ (zip_mem hq).1), zip_map (fun p => (p.1 + p.2) / H) ss 0]
/-- the events of a ship within the day -/
theorem day_ship {H : Int} {q : Shp} (hH : 1 ≤ H) (hq : 0 ≤ q.1.1 ∧ q.1.1 < H ∧ 1 ≤ q.1.2 ∧ q.1.2 ≤ 10000) : ((shipEv H q).filter (inDay H)).Perm ([phi H (dep H q)] ++ [phi H (arr q)]) := by
  obtain ⟨e, r1, r2, q1, q2⟩ := div_facts hH ⟨hq.1, hq.2.1⟩ hq.2.2.1
  have sd : 0 ≤ q.1.2 / H := Int.ediv_nonneg (by omega) (by omega)
  have nn : (nD H q : Int) = 2 + q.1.2 / H := by unfold nD; omega
  obtain ⟨x, hx⟩ : ∃ x : Nat, (x : Int) = 1 + q.1.2 / H := ⟨(1 + q.1.2 / H).toNat, by omega⟩
  obtain ⟨y, hy⟩ : ∃ y : Nat, (y : Int) = 1 + q.1.2 / H - (q.1.1 + q.1.2) / H := ⟨(1 + q.1.2 / H - (q.1.1 + q.1.2) / H).toNat, by omega⟩
  have each : ∀ j : Nat, (evJ H q j).filter (inDay H) = (if j = x then [phi H (arr q)] else []) ++ (if j = y then [phi H (dep H q)] else []) := fun j => by
    have a := (arr_day (d := -1 - q.1.2 / H + (j : Int)) hH ⟨hq.1, hq.2.1⟩).2
    have b := (dep_day (d := -1 - q.1.2 / H + (j : Int)) hH ⟨hq.1, hq.2.1⟩ hq.2.2.1).2
    have ia : inDay H [(-1 - q.1.2 / H + (j : Int)) * H + q.1.1, 1, (-1 - q.1.2 / H + (j : Int)) * H + q.1.1, (q.2 : Int)] = decide (j = x) := by
      show decide (0 ≤ (-1 - q.1.2 / H + (j : Int)) * H + q.1.1 ∧ (-1 - q.1.2 / H + (j : Int)) * H + q.1.1 < H) = decide (j = x)
      exact decide_eq_decide.mpr (a.trans (by omega))
    have ib : inDay H [(-1 - q.1.2 / H + (j : Int)) * H + q.1.1 + q.1.2, 0, (-1 - q.1.2 / H + (j : Int)) * H + q.1.1, (q.2 : Int)] = decide (j = y) := by
      show decide (0 ≤ (-1 - q.1.2 / H + (j : Int)) * H + q.1.1 + q.1.2 ∧ (-1 - q.1.2 / H + (j : Int)) * H + q.1.1 + q.1.2 < H) = decide (j = y)
      exact decide_eq_decide.mpr (b.trans (by omega))
    have va : j = x → [(-1 - q.1.2 / H + (j : Int)) * H + q.1.1, 1, (-1 - q.1.2 / H + (j : Int)) * H + q.1.1, (q.2 : Int)] = phi H (arr q) := fun z => by
      have zz : -1 - q.1.2 / H + (j : Int) = 0 := by omega
      rw [zz]
      show [0 * H + q.1.1, 1, 0 * H + q.1.1, (q.2 : Int)] = [q.1.1, 1, q.1.1 + 0 * H, (q.2 : Int)]
      rw [Int.zero_mul, Int.zero_add, Int.add_zero]
    have vb : j = y → [(-1 - q.1.2 / H + (j : Int)) * H + q.1.1 + q.1.2, 0, (-1 - q.1.2 / H + (j : Int)) * H + q.1.1, (q.2 : Int)] = phi H (dep H q) := fun z => by
      have zz : -1 - q.1.2 / H + (j : Int) = -((q.1.1 + q.1.2) / H) := by omega
      rw [zz]
      show [-((q.1.1 + q.1.2) / H) * H + q.1.1 + q.1.2, 0, -((q.1.1 + q.1.2) / H) * H + q.1.1, (q.2 : Int)] = [(q.1.1 + q.1.2) % H, 0, q.1.1 + -((q.1.1 + q.1.2) / H) * H, (q.2 : Int)]
      rw [Int.neg_mul]
      congr 1
      · omega
      · congr 2
        omega
    unfold evJ evD
    rw [List.filter_cons, ia, List.filter_cons, ib, List.filter_nil]
    by_cases c1 : j = x
    · by_cases c2 : j = y
      · rw [decide_eq_true c1, decide_eq_true c2, if_pos rfl, if_pos rfl, if_pos c1, if_pos c2, va c1, vb c2]
        rfl
      · rw [decide_eq_true c1, decide_eq_false c2, if_pos rfl, if_neg (by simp), if_pos c1, if_neg c2, va c1]
        rfl
    · by_cases c2 : j = y
      · rw [decide_eq_false c1, decide_eq_true c2, if_neg (by simp), if_pos rfl, if_neg c1, if_pos c2, vb c2]
        rfl
      · rw [decide_eq_false c1, decide_eq_false c2, if_neg (by simp), if_neg (by simp), if_neg c1, if_neg c2]
        rfl
  have one : ∀ (z : Nat) (B : List Int), z < nD H q → ((List.range (nD H q)).flatMap fun j => if j = z then [B] else []) = [B] := fun z B hz => by
    have := range_cut (fun _ : Nat => B) (fun d : Nat => d = z) z 1 (nD H q) (by omega) fun d _ => by omega
    rw [this]
    rfl
  unfold shipEv
  rw [List.filter_flatMap]
  have cong : ((List.range (nD H q)).flatMap fun j => (evJ H q j).filter (inDay H)) = (List.range (nD H q)).flatMap fun j => (if j = x then [phi H (arr q)] else []) ++ (if j = y then [phi H (dep H q)] else []) := by
    congr 1
    funext j
    exact each j
  rw [cong]
  refine (flat_add _ _ _).trans ?_
  rw [one x _ (by omega), one y _ (by omega)]
  exact List.perm_append_comm
theorem day_all {H : Int} {ss : List (Int × Int)} (ok : TOk H ss) : ((lawUns H ss).filter (inDay H)).Perm ((ss.zipIdx.map (dep H) ++ ss.zipIdx.map arr).map (phi H)) := by
  unfold lawUns
  rw [List.filter_flatMap, List.map_append, List.map_map, List.map_map]
  refine (flat_perm fun q hq => day_ship ok.h1 (ok.ship _ (zip_mem hq).1)).trans ?_
  refine (flat_add (fun q => [phi H (dep H q)]) (fun q => [phi H (arr q)]) ss.zipIdx).trans ?_
  rw [flat_one, flat_one]
  exact List.Perm.refl _
theorem phi_lex {H : Int} {ss : List (Int × Int)} (ok : TOk H ss) : ∀ a ∈ ss.zipIdx.map (dep H) ++ ss.zipIdx.map arr, ∀ b ∈ ss.zipIdx.map (dep H) ++ ss.zipIdx.map arr, lexL (phi H a) (phi H b) = lexL a b := by
  have sh : ∀ a ∈ ss.zipIdx.map (dep H) ++ ss.zipIdx.map arr, ∃ u k n w i, a = [u, k, n, w, i] ∧ 0 ≤ w ∧ w < H := fun a ha => by
    rcases List.mem_append.mp ha with z | z
    · obtain ⟨q, hq, rfl⟩ := List.mem_map.mp z
      have y := ok.ship _ (zip_mem hq).1
      exact ⟨_, _, _, _, _, rfl, y.1, y.2.1⟩
    · obtain ⟨q, hq, rfl⟩ := List.mem_map.mp z
      have y := ok.ship _ (zip_mem hq).1
      exact ⟨_, _, _, _, _, rfl, y.1, y.2.1⟩
  intro a ha b hb
  obtain ⟨u, k, n, w, i, rfl, w1, w2⟩ := sh a ha
  obtain ⟨u', k', n', w', i', rfl, x1, x2⟩ := sh b hb
  show lexL [u, k, w + n * H, i] [u', k', w' + n' * H, i'] = lexL [u, k, n, w, i] [u', k', n', w', i']
  have h1 := ok.h1
  by_cases e1 : u = u'
  · by_cases e2 : k = k'
    · subst e1 e2
      simp only [lexL, if_true]
      rcases Int.lt_trichotomy n n' with c | c | c
      · have z : (n + 1) * H ≤ n' * H := Int.mul_le_mul_of_nonneg_right (by omega) (by omega)
        rw [Int.add_mul, Int.one_mul] at z
        rw [if_neg (by omega), if_neg (by omega), decide_eq_true (by omega), decide_eq_true c]
      · subst c
        rw [if_pos rfl]
        by_cases e3 : w = w'
        · subst e3
          rw [if_pos rfl, if_pos rfl]
        · rw [if_neg (by omega), if_neg e3]
          exact decide_eq_decide.mpr (by omega)
      · have z : (n' + 1) * H ≤ n * H := Int.mul_le_mul_of_nonneg_right (by omega) (by omega)
        rw [Int.add_mul, Int.one_mul] at z
        rw [if_neg (by omega), if_neg (by omega), decide_eq_false (by omega), decide_eq_false (by omega)]
    · simp only [lexL, e1, if_true, if_neg e2]
  · simp only [lexL, if_neg e1]
theorem levels_eq {H : Int} {ss : List (Int × Int)} (ok : TOk H ss) : lev H 0 (srtL (lawUns H ss)) = cnt (mid H ss) (evs H ss) := by
  have asc : Asc lexL (srtL (lawUns H ss)) := isort_asc (lt := lexL) (fun _ _ => lexL_asym) (fun _ _ _ => lexL_tr) _
  rw [lev_eq ok.h1 _ 0 (fun l hl => by
    obtain ⟨a, b, c, d, rfl⟩ := lawUns_shape ((isort_perm lexL _).mem_iff.mp hl)
    exact fun z => nomatch z) asc, early_all ok, Int.zero_add]
  have e1 : (srtL (lawUns H ss)).filter (inDay H) = srtL ((lawUns H ss).filter (inDay H)) := srtL_eq ((isort_perm lexL _).filter _) (asc.filter _)
  rw [e1, srtL_perm (day_all ok), ← srtL_map (phi H) _ (phi_lex ok), cnt_map (phi H) (fun l => rfl)]
  rfl
end LawK02

namespace LawK02
open PySem L2 Am

/-! ### how many calls are there at a time -/
theorem cnt_mem {v : Int} : ∀ {E : List (List Int)} {a : Int}, v ∈ cnt a E → ∃ p x r, E = p ++ x :: r ∧ v = tot a (p ++ [x])
  | [], a, h => by cases h
  | l :: E, a, h => by
    rw [cnt] at h
    rcases List.mem_cons.mp h with rfl | h
    · exact ⟨[], l, E, rfl, by simp [tot]⟩
    · obtain ⟨p, x, r, rfl, e⟩ := cnt_mem h
      exact ⟨l :: p, x, r, rfl, by rw [e, List.cons_append, tot_cons]⟩
theorem zip_nodup (ss : List (Int × Int)) : (ss.zipIdx.map fun q : Shp => (q.2 : Int)).Nodup := by
  have e : ∀ (ss : List (Int × Int)) (k : Nat), (ss.zipIdx k).map (fun q : Shp => (q.2 : Int)) = (List.range' k ss.length).map fun n : Nat => (n : Int) := fun ss => by
    induction ss with
    | nil => intro k; rfl
    | cons p ss ih =>
      intro k
      rw [List.zipIdx_cons, List.map_cons, ih (k + 1)]
      rfl
  rw [e]
  exact List.Pairwise.map _ (fun a b h => by omega) (List.nodup_range' (step := 1) (by omega))
theorem evs_nodup (H : Int) (ss : List (Int × Int)) : (evs H ss).Nodup := by
  unfold evs
  refine (isort_perm lexL _).nodup_iff.mpr ?_
  have n1 : (ss.zipIdx.map (dep H)).Nodup := by
    have z : ((ss.zipIdx.map (dep H)).map fun l => l.getD 4 0).Nodup := by
      rw [List.map_map]
      exact zip_nodup ss
    exact (List.pairwise_map.mp z).imp fun h e => h (by rw [e])
  have n2 : (ss.zipIdx.map arr).Nodup := by
    have z : ((ss.zipIdx.map arr).map fun l => l.getD 4 0).Nodup := by
      rw [List.map_map]
      exact zip_nodup ss
    exact (List.pairwise_map.mp z).imp fun h e => h (by rw [e])
  refine List.nodup_append.mpr ⟨n1, n2, fun a ha b hb e => ?_⟩
  obtain ⟨q, _, rfl⟩ := List.mem_map.mp ha
  obtain ⟨q', _, rfl⟩ := List.mem_map.mp hb
  have z := congrArg (fun l : List Int => l.getD 1 0) e
  exact absurd z (by show ¬ (0 : Int) = 1; decide)
theorem prefix_filter {p r : List (List Int)} {x : List Int} (asc : Asc lexL (p ++ x :: r)) (nd : (p ++ x :: r).Nodup) : (p ++ x :: r).filter (fun l => !lexL x l) = p ++ [x] := by
  obtain ⟨_, a2, a3⟩ := List.pairwise_append.mp asc
  obtain ⟨a4, _⟩ := List.pairwise_cons.mp a2
  obtain ⟨_, n2, _⟩ := List.nodup_append.mp nd
  obtain ⟨n4, _⟩ := List.nodup_cons.mp n2
  rw [List.filter_append, List.filter_cons, if_pos (by rw [lexL_irr]; rfl)]
  have e1 : p.filter (fun l => !lexL x l) = p := List.filter_eq_self.mpr fun l hl => by rw [a3 l hl x List.mem_cons_self]; rfl
  have e2 : r.filter (fun l => !lexL x l) = [] := List.filter_eq_nil_iff.mpr fun l hl z => by
    have z2 : lexL x l = false := by simpa using z
    have := lexL_anti z2 (a4 l hl)
    exact n4 (this ▸ hl)
  rw [e1, e2]
/-- the calls of one ship behind the event x -/
def wS (H : Int) (x : List Int) (q : Shp) : Int := (q.1.1 + q.1.2) / H + ((if (!lexL x (dep H q)) = true then (-1 : Int) else 0) + (if (!lexL x (arr q)) = true then (1 : Int) else 0))
theorem wS_bound {H : Int} (x : List Int) {q : Shp} (hH : 1 ≤ H) (hq : 0 ≤ q.1.1 ∧ q.1.1 < H ∧ 1 ≤ q.1.2 ∧ q.1.2 ≤ 10000) : 0 ≤ wS H x q ∧ wS H x q ≤ (q.1.2 + H - 1) / H := by
  obtain ⟨e, r1, r2, q1, _⟩ := div_facts hH ⟨hq.1, hq.2.1⟩ hq.2.2.1
  unfold wS
  by_cases c : (q.1.1 + q.1.2) % H ≤ q.1.1
  · -- it departs first
    have da : lexL (arr q) (dep H q) = false := by
      unfold arr dep lexL
      by_cases c2 : q.1.1 = (q.1.1 + q.1.2) % H
      · rw [if_pos c2]
        rfl
      · rw [if_neg c2]
        exact decide_eq_false (by omega)
    have D1 : 1 ≤ (q.1.1 + q.1.2) / H := by
      rcases Int.lt_or_le ((q.1.1 + q.1.2) / H) 1 with z | z
      · have z0 : (q.1.1 + q.1.2) / H = 0 := by omega
        rw [z0, Int.zero_mul] at e
        omega
      · exact z
    have cl : (q.1.1 + q.1.2) / H ≤ (q.1.2 + H - 1) / H := (Int.le_ediv_iff_mul_le (by omega : (0 : Int) < H)).mpr (by omega)
    by_cases ha : lexL x (arr q) = true
    · rw [ha]
      simp only [Bool.not_true, Bool.false_eq_true, if_false]
      split <;> omega
    · have ha' : lexL x (arr q) = false := by simpa using ha
      have hd := lexL_tr (a := dep H q) (b := arr q) (c := x) da ha'
      rw [ha', hd]
      simp only [Bool.not_false, if_true]
      omega
  · have da : lexL (dep H q) (arr q) = false := by
      unfold arr dep lexL
      rw [if_neg (by omega)]
      exact decide_eq_false (by omega)
    have cl : (q.1.1 + q.1.2) / H + 1 ≤ (q.1.2 + H - 1) / H := (Int.le_ediv_iff_mul_le (by omega : (0 : Int) < H)).mpr (by rw [Int.add_mul, Int.one_mul]; omega)
    by_cases hd : lexL x (dep H q) = true
    · rw [hd]
      simp only [Bool.not_true, Bool.false_eq_true, if_false]
      split <;> omega
    · have hd' : lexL x (dep H q) = false := by simpa using hd
      have ha := lexL_tr (a := arr q) (b := dep H q) (c := x) da hd'
      rw [ha, hd']
      simp only [Bool.not_false, if_true]
      omega
theorem cnt_bound {H : Int} {ss : List (Int × Int)} (ok : TOk H ss) {v : Int} (h : v ∈ cnt (mid H ss) (evs H ss)) : 0 ≤ v ∧ v ≤ 60 := by
  obtain ⟨p, x, r, e, rfl⟩ := cnt_mem h
  have asc : Asc lexL (evs H ss) := isort_asc (lt := lexL) (fun _ _ => lexL_asym) (fun _ _ _ => lexL_tr) _
  have pf := prefix_filter (e ▸ asc) (e ▸ evs_nodup H ss)
  rw [← e] at pf
  have val : tot (mid H ss) (p ++ [x]) = (ss.zipIdx.map (wS H x)).sum := by
    unfold tot
    rw [← pf, sum_filter]
    have pm : (evs H ss).Perm (ss.zipIdx.map (dep H) ++ ss.zipIdx.map arr) := isort_perm lexL _
    rw [sum_perm (pm.map _), List.map_append, List.sum_append, List.map_map, List.map_map]
    unfold mid
    rw [← zip_map (fun p => (p.1 + p.2) / H) ss 0]
    unfold wS
    rw [sum_add, sum_add]
    rfl
  rw [val]
  have b : ∀ q ∈ ss.zipIdx, 0 ≤ wS H x q ∧ wS H x q ≤ (q.1.2 + H - 1) / H := fun q hq => wS_bound x ok.h1 (ok.ship _ (zip_mem hq).1)
  constructor
  · have := sum_le (fun _ : Shp => (0 : Int)) (wS H x) ss.zipIdx fun q hq => (b q hq).1
    have z : ∀ xs : List Shp, (xs.map fun _ => (0 : Int)).sum = 0 := fun xs => by
      induction xs with
      | nil => rfl
      | cons _ xs ih => rw [List.map_cons, List.sum_cons, ih]; rfl
    rw [z] at this
    exact this
  · have h1 := sum_le (wS H x) (fun q : Shp => (q.1.2 + H - 1) / H) ss.zipIdx fun q hq => (b q hq).2
    have h2 := ok.cap
    unfold caps at h2
    rw [← zip_map (fun p => (p.2 + H - 1) / H) ss 0] at h2
    exact Int.le_trans h1 h2
theorem peak_ok {H : Int} {ss : List (Int × Int)} (ok : TOk H ss) : (maxI (cnt (mid H ss) (evs H ss))).getD 0 ≤ 60 := by
  cases e : maxI (cnt (mid H ss) (evs H ss)) with
  | none => decide
  | some m => exact (cnt_bound ok (maxI_spec e).1).2
end LawK02

namespace LawK02
open PySem L2 Am

/-! ### what repr is asked of -/
theorem textFrom_up : ∀ (ts : List Str) (k : Nat) (acc : Str), (textFrom k acc ts).length ≤ acc.length + piled ts
  | [], k, acc => by
    show acc.length ≤ _
    omega
  | t :: ts, k, acc => by
    have z := textFrom_up ts (k + 1) (acc ++ (if k > 0 then ", " else "" : String) ++ t)
    show (textFrom (k + 1) (acc ++ (if k > 0 then ", " else "" : String) ++ t) ts).length ≤ _
    have e : (((if k > 0 then ", " else "" : String)) : Str).length ≤ 2 := by split <;> decide
    rw [strLen_append, strLen_append] at z
    rw [piled_cons]
    omega
theorem listText_up (ts : List Str) : (listText ts).length ≤ 2 + piled ts := by
  unfold listText
  rw [strLen_append]
  have z := textFrom_up ts 0 "["
  have e1 : ((("[" : String)) : Str).length = 1 := rfl
  have e2 : ((("]" : String)) : Str).length = 1 := rfl
  omega
theorem int_len {i : Int} (h : -1000000 ≤ i ∧ i ≤ 1000000) : (PyData.shown (.int i)).length ≤ 8 := by
  show (Str.ofString (toString i)).length ≤ 8
  rw [PySem.ofString_length]
  exact int_text_length_le10 (k := 7) (by decide) (by omega)
theorem int_show {i : Int} (h : -1000000 ≤ i ∧ i ≤ 1000000) : PyData.showable (.int i) = true :=
  decide_eq_true (Nat.lt_trans (log2_small (small400 (by omega) (by omega))) (by decide))
theorem canRepr_int {i : Int} (h : -1000000 ≤ i ∧ i ≤ 1000000) : canRepr (.int i) = true := by
  unfold canRepr
  rw [int_show h, decide_eq_true (Nat.le_trans (int_len h) (by decide)), decide_eq_true (show PyData.depth (.int i) ≤ 60 from Nat.zero_le _)]
  rfl
theorem pair_len {p : Int × Int} (h : (-1000000 ≤ p.1 ∧ p.1 ≤ 1000000) ∧ (-1000000 ≤ p.2 ∧ p.2 ≤ 1000000)) : (PyData.shown (eS p)).length ≤ 24 := by
  show (tupleText [PyData.shown (.int p.1), PyData.shown (.int p.2)]).length ≤ 24
  unfold tupleText
  rw [strLen_append, strLen_append]
  have z := join_length_add [PyData.shown (.int p.1), PyData.shown (.int p.2)] (by simp)
  rw [piled_cons, piled_cons, piled_nil] at z
  have a := int_len h.1
  have b := int_len h.2
  have e1 : ((("(" : String)) : Str).length = 1 := rfl
  have e2 : (((if [PyData.shown (.int p.1), PyData.shown (.int p.2)].length == 1 then ",)" else ")" : String)) : Str).length ≤ 2 := by split <;> decide
  omega
theorem canRepr_pairs (ps : List (Int × Int)) (hl : ps.length ≤ 300000) (h : ∀ p ∈ ps, (-1000000 ≤ p.1 ∧ p.1 ≤ 1000000) ∧ (-1000000 ≤ p.2 ∧ p.2 ≤ 1000000)) : canRepr (.list (ps.map eS)) = true := by
  have all : ∀ qs : List (Int × Int), (∀ p ∈ qs, p ∈ ps) → PyData.showableAll (qs.map eS) = true ∧ PyData.hasDictAll (qs.map eS) = false ∧ PyData.depthAll (qs.map eS) ≤ 1 ∧ piled (PyData.shownAll (qs.map eS)) ≤ 26 * qs.length := fun qs hq => by
    induction qs with
    | nil => exact ⟨rfl, rfl, Nat.zero_le _, Nat.zero_le _⟩
    | cons p qs ih =>
      obtain ⟨i1, i2, i3, i4⟩ := ih fun y hy => hq y (List.mem_cons_of_mem _ hy)
      have hp := h p (hq p List.mem_cons_self)
      refine ⟨?_, ?_, ?_, ?_⟩
      · show (PyData.showable (eS p) && PyData.showableAll (qs.map eS)) = true
        rw [i1, Bool.and_true]
        show (PyData.showable (.int p.1) && (PyData.showable (.int p.2) && true)) = true
        rw [int_show hp.1, int_show hp.2]
        rfl
      · show (PyData.hasDict (eS p) || PyData.hasDictAll (qs.map eS)) = false
        rw [i2]
        rfl
      · show max (PyData.depth (eS p)) (PyData.depthAll (qs.map eS)) ≤ 1
        have e : PyData.depth (eS p) = 1 := rfl
        omega
      · show piled (PyData.shown (eS p) :: PyData.shownAll (qs.map eS)) ≤ _
        rw [piled_cons, List.length_cons]
        have := pair_len hp
        omega
  obtain ⟨i1, i2, i3, i4⟩ := all ps fun _ hp => hp
  unfold canRepr
  have e1 : PyData.showable (.list (ps.map eS)) = true := i1
  have e2 : PyData.hasDict (.list (ps.map eS)) = false := i2
  have e3 : PyData.depth (.list (ps.map eS)) ≤ 60 := by
    show PyData.depthAll (ps.map eS) + 1 ≤ 60
    omega
  have e4 : (PyData.shown (.list (ps.map eS))).length ≤ lineN := by
    have z := listText_up (PyData.shownAll (ps.map eS))
    show (listText (PyData.shownAll (ps.map eS))).length ≤ lineN
    unfold lineN
    omega
  rw [e1, e2, decide_eq_true e3, decide_eq_true e4]
  rfl
theorem gNe_str (x : Str) : gNeA (.str x) (.str x) = some false := by
  unfold gNeA gEqA
  simp
theorem gRepr_of {d : PyData} (h : canRepr d = true) : gRepr [d] = some (.str d.shown) := by
  simp only [gRepr, h, if_true]
/-! ### the lists that are shown -/
def pq (l : List Int) : Int × Int := (l.getD 2 0, -(l.getD 0 0))
theorem prs_can {H t : Int} {ss : List (Int × Int)} (ok : TOk H ss) (ht : 0 ≤ t ∧ t < H) : canRepr (.list ((srtL (prs H t ss)).map pv)) = true := by
  have e : (srtL (prs H t ss)).map pv = ((srtL (prs H t ss)).map pq).map eS := by rw [List.map_map]; rfl
  rw [e]
  refine canRepr_pairs _ (by rw [List.length_map, (isort_perm lexL _).length_eq]; have := prs_len ok ht; omega) fun p hp => ?_
  obtain ⟨l, hl, rfl⟩ := List.mem_map.mp hp
  obtain ⟨q, hq, hl⟩ := List.mem_flatMap.mp ((isort_perm lexL _).mem_iff.mp hl)
  obtain ⟨j, hj, rfl⟩ := List.mem_map.mp hl
  have z := ok.ship _ (zip_mem hq).1
  have zi := (zip_mem hq).2
  have h1 := ok.h1
  have h2 := ok.h2
  have len := ok.len
  have nk := nK_le (q := q) h1 ht.1 ⟨z.1, by omega⟩ z.2.2 h2
  have hj' := List.mem_range.mp hj
  have k01 : 0 ≤ k0 t q.1.1 ∧ k0 t q.1.1 ≤ 1 := by unfold k0; split <;> omega
  show (-1000000 ≤ (q.2 : Int) ∧ (q.2 : Int) ≤ 1000000) ∧ (-1000000 ≤ - -(k0 t q.1.1 + (j : Int)) ∧ - -(k0 t q.1.1 + (j : Int)) ≤ 1000000)
  omega
theorem maxI_app0 {L : List Int} (h : ∀ v ∈ L, 0 ≤ v) : maxI (L ++ [0]) = some ((maxI L).getD 0) := by
  have ex : ∃ m, maxI (L ++ [0]) = some m := by
    cases L with
    | nil => exact ⟨0, rfl⟩
    | cons a r => exact maxI_ne a (r ++ [0])
  obtain ⟨m, e⟩ := ex
  obtain ⟨m1, m2⟩ := maxI_spec e
  rw [e]
  congr 1
  cases e2 : maxI L with
  | none =>
    cases L with
    | nil =>
      have : maxI ([] ++ [0]) = some 0 := rfl
      rw [this] at e
      exact (Option.some.inj e).symm
    | cons a r =>
      obtain ⟨k, ek⟩ := maxI_ne a r
      rw [ek] at e2
      cases e2
  | some k =>
    obtain ⟨k1, k2⟩ := maxI_spec e2
    show m = k
    have a1 := m2 k (List.mem_append_left _ k1)
    rcases List.mem_append.mp m1 with z | z
    · have := k2 m z
      omega
    · have := List.mem_singleton.mp z
      have := h k k1
      omega
end LawK02

namespace LawK02
open PySem L2 Am

theorem seqO_nx' {a : AEnv} {o : Rs Fl} {r : M Fl} (h : o = some (.ok .nx, a)) : seqO o r = r a := by rw [h, seqO_nx]
/-- one hour, asked once -/
theorem l0_spec {H t : Int} {ss : List (Int × Int)} (ok : TOk H ss) (ht : 0 ≤ t ∧ t < H) (s0 s1 s2 s4 s5 s6 s8 s9 s10 s11 : Sl) :
    ∃ s9', m_law_l0 [s0, s1, s2, .dat (eT H ss), s4, s5, s6, .dat (.int t), s8, s9, s10, s11] = some (.ok .nx, [s0, s1, s2, .dat (eT H ss), s4, s5, s6, .dat (.int t), s8, s9', s10, s11]) := by
  have hp := peak_ok ok
  have can := gRepr_of (prs_can ok ht)
  have len : (prs H t ss).length < 16777216 := by have := prs_len ok ht; omega
  have len2 : (srtL (prs H t ss)).length < 16777216 := by rw [(isort_perm lexL _).length_eq]; exact len
  refine ⟨.lst ((srtL (prs H t ss)).map pv ++ [.none]), ?_⟩
  simp [-List.map_map, m_law_l0, present_spec ok hp ht, here_spec ok, here_eq ok ht, can, gNe_str, lineN, len2]
def L1I (H t : Int) (ss : List (Int × Int)) (s0 s1 s2 s4 s5 s6 s10 s11 : Sl) (_ : List Nat) (st : AEnv) : Prop := ∃ s8 s9, st = [s0, s1, s2, .dat (eT H ss), s4, s5, s6, .dat (.int t), s8, s9, s10, s11]
theorem l1_spec {H t : Int} {ss : List (Int × Int)} (ok : TOk H ss) (ht : 0 ≤ t ∧ t < H) (s0 s1 s2 s4 s5 s6 s8 s9 s10 s11 : Sl) :
    ∃ s8' s9', m_law_l1 [s0, s1, s2, .dat (eT H ss), s4, s5, s6, .dat (.int t), s8, s9, s10, s11] = some (.ok .nx, [s0, s1, s2, .dat (eT H ss), s4, s5, s6, .dat (.int t), s8', s9', s10, s11]) := by
  have turn : ∀ (p : List Nat) (x : Nat) (q : List Nat) (b : AEnv), [] ++ List.range 2 = p ++ x :: q → L1I H t ss s0 s1 s2 s4 s5 s6 s10 s11 p b → ∃ b1 b2, (Tgt.nm 8).put (PyData.int (0 + (x : Int))) b = some b1 ∧ (m_law_l0 b1 = some (.ok .nx, b2) ∨ m_law_l0 b1 = some (.ok .ct, b2)) ∧ L1I H t ss s0 s1 s2 s4 s5 s6 s10 s11 (p ++ [x]) b2 := by
    rintro p x q b _ ⟨s8, s9, rfl⟩
    obtain ⟨s9', e⟩ := l0_spec ok ht s0 s1 s2 s4 s5 s6 (.dat (.int (0 + (x : Int)))) s9 s10 s11
    exact ⟨_, _, by simp, .inl e, _, _, rfl⟩
  obtain ⟨st, e, s8', s9', rfl⟩ := forL_inv (t := Tgt.nm 8) (body := m_law_l0) (fun i : Nat => PyData.int (0 + (i : Int))) (L1I H t ss s0 s1 s2 s4 s5 s6 s10 s11) (List.range 2) [] [s0, s1, s2, .dat (eT H ss), s4, s5, s6, .dat (.int t), s8, s9, s10, s11] ⟨s8, s9, rfl⟩ turn
  refine ⟨s8', s9', ?_⟩
  have e' : forL (Tgt.nm 8) m_law_l0 (rangeD 0 2) [s0, s1, s2, .dat (eT H ss), s4, s5, s6, .dat (.int t), s8, s9, s10, s11] = some (.ok .nx, [s0, s1, s2, .dat (eT H ss), s4, s5, s6, .dat (.int t), s8', s9', s10, s11]) := e
  simp [m_law_l1, gR1, e']
def L2I (H : Int) (ss : List (Int × Int)) (s0 s1 s2 s4 s5 s6 s10 s11 : Sl) (_ : List Int) (st : AEnv) : Prop := ∃ s7 s8 s9, st = [s0, s1, s2, .dat (eT H ss), s4, s5, s6, s7, s8, s9, s10, s11]
theorem hours_spec {H : Int} {ss : List (Int × Int)} (ok : TOk H ss) (ts : List Int) (ht : ∀ t ∈ ts, 0 ≤ t ∧ t < H) (s0 s1 s2 s4 s5 s6 s7 s8 s9 s10 s11 : Sl) :
    ∃ s7' s8' s9', forL (Tgt.nm 7) m_law_l1 (ts.map PyData.int) [s0, s1, s2, .dat (eT H ss), s4, s5, s6, s7, s8, s9, s10, s11] = some (.ok .nx, [s0, s1, s2, .dat (eT H ss), s4, s5, s6, s7', s8', s9', s10, s11]) := by
  have turn : ∀ (p : List Int) (x : Int) (q : List Int) (b : AEnv), [] ++ ts = p ++ x :: q → L2I H ss s0 s1 s2 s4 s5 s6 s10 s11 p b → ∃ b1 b2, (Tgt.nm 7).put (PyData.int x) b = some b1 ∧ (m_law_l1 b1 = some (.ok .nx, b2) ∨ m_law_l1 b1 = some (.ok .ct, b2)) ∧ L2I H ss s0 s1 s2 s4 s5 s6 s10 s11 (p ++ [x]) b2 := by
    rintro p x q b e0 ⟨s7, s8, s9, rfl⟩
    have hx : 0 ≤ x ∧ x < H := ht x (by
      have z : ts = p ++ x :: q := e0
      simp [z])
    obtain ⟨s8', s9', e⟩ := l1_spec ok hx s0 s1 s2 s4 s5 s6 s8 s9 s10 s11
    exact ⟨_, _, by simp, .inl e, _, _, _, rfl⟩
  obtain ⟨st, e, s7', s8', s9', rfl⟩ := forL_inv (t := Tgt.nm 7) (body := m_law_l1) PyData.int (L2I H ss s0 s1 s2 s4 s5 s6 s10 s11) ts [] [s0, s1, s2, .dat (eT H ss), s4, s5, s6, s7, s8, s9, s10, s11] ⟨s7, s8, s9, rfl⟩ turn
  exact ⟨s7', s8', s9', e⟩
end LawK02

namespace LawK02
open PySem L2 Am

theorem gNeA_nil (L : List Int) : gNeA (.list (L.map PyData.int)) (.list []) = some (decide (L ≠ [])) := by
  have sh : SeqAt.shaped (.list (L.map PyData.int)) = true := by
    have z : ∀ L : List Int, PyData.canLayAll0 (L.map PyData.int) = true ∧ PyData.depthAll (L.map PyData.int) = 0 := fun L => by
      induction L with
      | nil => exact ⟨rfl, rfl⟩
      | cons a r ih =>
        refine ⟨?_, ?_⟩
        · show (true && PyData.canLayAll0 (r.map PyData.int)) = true
          rw [ih.1]
          rfl
        · show max 0 (PyData.depthAll (r.map PyData.int)) = 0
          rw [ih.2]
          rfl
    show (PyData.canLayAll0 (L.map PyData.int) && decide (PyData.depthAll (L.map PyData.int) + 1 ≤ 64)) = true
    rw [(z L).1, (z L).2]
    rfl
  have sh2 : SeqAt.shaped (.list []) = true := rfl
  unfold gNeA gEqA gEq
  simp only [sh, sh2]
  cases L with
  | nil => rfl
  | cons a r => rfl
theorem gMax1_app {L : List Int} (h : ∀ v ∈ L, 0 ≤ v) : gMax1 [.list (L.map PyData.int ++ [.int 0])] = some (.int ((maxI L).getD 0)) := by
  have e : L.map PyData.int ++ [PyData.int 0] = (L ++ [0]).map PyData.int := by simp
  rw [e]
  simp only [gMax1, intsD_map]
  simp [maxI_app0 h]
theorem gMin1_of {L : List Int} (h : L ≠ []) : gMin1 [.list (L.map PyData.int)] = some (.int ((minI L).getD 0)) := by
  cases L with
  | nil => exact absurd rfl h
  | cons a r =>
    obtain ⟨m, e⟩ := minI_ne a r
    simp only [gMin1, intsD_map]
    simp [e]
theorem cut_map (ss : List (Int × Int)) (lo hi : Option Int) : ∃ rs : List (Int × Int), cutD (ss.map eS) lo hi = rs.map eS ∧ (∀ p ∈ rs, p ∈ ss) ∧ rs.length ≤ ss.length := by
  unfold cutD
  rw [← List.map_drop, ← List.map_take]
  refine ⟨_, rfl, fun p hp => List.mem_of_mem_drop (List.mem_of_mem_take hp), ?_⟩
  rw [List.length_take, List.length_drop]
  omega
theorem seq_step {m r : M Fl} {a A : AEnv} {x : Rs Fl} (h : m a = some (.ok .nx, A)) (h2 : r A = x) : mSeq m r a = x := by rw [mSeq_app, h, seqO_nx, h2]
theorem cell_spec (c : Int) (s0 s2 s3 s4 s5 s6 s7 s8 s9 s10 s11 : Sl) :
    ∃ b2, m_law_l4 [s0, .dat (.int c), s2, s3, s4, s5, s6, s7, s8, s9, s10, s11] = some (.ok .nx, b2) ∧ ∃ s2' s3' s4' s5' s6' s7' s8' s9' s10' s11', b2 = [s0, .dat (.int c), s2', s3', s4', s5', s6', s7', s8', s9', s10', s11'] := by
  have p50 : (2 : Int) ^ 50 = 1125899906842624 := by decide
  have p60 : (2 : Int) ^ 60 = 1152921504606846976 := by decide
  obtain ⟨a0, eb⟩ := bag_spec c
  obtain ⟨r1, a1, k1, e1, q1, l1, u1⟩ := pick_lit (k := 0) (n := 3) a0 c (by decide) (by decide) (by decide) (by decide)
  -- the table
  have tb : ∃ H ss a2 k2, mIf (mB (mH (mFrz (mFnI 2 (mDs (M.pure (PyData.int 3)) (M.pure [])) F_law_pick))) (mH (M.pure (PyData.int 0))) gGt) (mFnI 2 (M.pure []) F_law_table) (mFnI 2 (M.pure []) F_law_long_table) [s0, .dat (.int c), .lst [.int a0, .int c, .int 0], s3, s4, s5, s6, s7, s8, s9, s10, s11] =
      some (.ok (.dat (eT H ss)), [s0, .dat (.int c), .lst [.int a2, .int c, .int k2], s3, s4, s5, s6, s7, s8, s9, s10, s11]) ∧ TOk H ss ∧ 0 ≤ k2 ∧ k2 ≤ 100 := by
    by_cases hr : 0 < r1
    · obtain ⟨H, ss, a2, k2, e2, ok, b1, b2⟩ := table_spec (k := k1) a1 c (by omega) (by omega)
      exact ⟨H, ss, a2, k2, by simp [e1, gGt, gCmp, hr, e2], ok, by omega, by omega⟩
    · obtain ⟨H, ss, a2, k2, e2, ok, b1, b2⟩ := long_spec (k := k1) a1 c (by omega) (by omega)
      exact ⟨H, ss, a2, k2, by simp [e1, gGt, gCmp, hr, e2], ok, by omega, by omega⟩
  obtain ⟨H, ss, a2, k2, et, ok, b1, b2⟩ := tb
  have h1 := ok.h1
  have h2 := ok.h2
  have hp := peak_ok ok
  have nn : ∀ v ∈ cnt (mid H ss) (evs H ss), 0 ≤ v := fun v hv => (cnt_bound ok hv).1
  have lev0 := levels_spec ok
  rw [levels_eq ok] at lev0
  have pk := peak_spec ok hp
  have lw := low_spec ok hp
  have len : (cnt (mid H ss) (evs H ss)).length ≤ 48 := by
    rw [cnt_len, evs_len]
    have := ok.len
    omega
  generalize cnt (mid H ss) (evs H ss) = L at *
  have mx0 : 0 ≤ (maxI L).getD 0 := by
    cases e : maxI L with
    | none => exact Int.le_refl _
    | some m => exact nn m (maxI_spec e).1
  have mn0 : 0 ≤ (minI L).getD 0 ∧ (minI L).getD 0 ≤ 60 := by
    cases e : minI L with
    | none => exact ⟨Int.le_refl _, by decide⟩
    | some m =>
      have z1 := nn m (minI_spec e).1
      refine ⟨z1, ?_⟩
      cases L with
      | nil => cases e
      | cons a r =>
        obtain ⟨k, ek⟩ := maxI_ne a r
        have z2 := (maxI_spec ek).2 m (minI_spec e).1
        rw [ek] at hp
        have z3 : k ≤ 60 := hp
        show m ≤ 60
        omega
  have rp := gRepr_of (canRepr_int (i := (maxI L).getD 0) (by omega))
  have rm := gRepr_of (canRepr_int (i := (minI L).getD 0) (by omega))
  have mx := gMax1_app nn
  -- three numbers
  obtain ⟨x1, y1, z1, f1, g1, m1, n1⟩ := pick_lit (k := k2) (n := H) a2 c (by omega) (by omega) (by omega) (by omega)
  obtain ⟨x2, y2, z2, f2, g2, m2, n2⟩ := pick_lit (k := z1) (n := H) y1 c (by omega) (by omega) (by omega) (by omega)
  obtain ⟨x3, y3, z3, f3, g3, m3, n3⟩ := pick_lit (k := z2) (n := H) y2 c (by omega) (by omega) (by omega) (by omega)
  obtain ⟨rs, ecut, hrs, lrs⟩ := cut_map ss none (some 4)
  have hln := ok.len
  obtain ⟨ts, hts⟩ : ∃ ts : List Int, ts = [0, H - 1] ++ [x1, x2, x3] ++ rs.map (·.1) := ⟨_, rfl⟩
  have tin : ∀ t ∈ ts, 0 ≤ t ∧ t < H := fun t ht => by
    rw [hts] at ht
    rcases List.mem_append.mp ht with ht | ht
    · simp at ht
      omega
    · obtain ⟨p, hp, rfl⟩ := List.mem_map.mp ht
      have := ok.ship _ (hrs p hp)
      exact ⟨this.1, this.2.1⟩
  obtain ⟨s7', s8', s9', ef⟩ := hours_spec ok ts tin s0 (.dat (.int c)) (.lst [.int y3, .int c, .int z3]) (.lst (L.map PyData.int)) (.dat (.int H)) (.dat (.list (ts.map PyData.int))) s7 s8 s9 .un .un
  refine ⟨_, ?_, .lst [.int y3, .int c, .int z3], .dat (eT H ss), .lst (L.map PyData.int), .dat (.int H), .dat (.list (ts.map PyData.int)), s7', s8', s9', .un, .un, rfl⟩
  unfold m_law_l4
  refine seq_step (A := [s0, .dat (.int c), .lst [.int a0, .int c, .int 0], s3, s4, s5, s6, s7, s8, s9, s10, s11]) (by simp [eb]) ?_
  refine seq_step (A := [s0, .dat (.int c), .lst [.int a2, .int c, .int k2], .dat (eT H ss), s4, s5, s6, s7, s8, s9, s10, s11]) (by rw [mAsg_app, et]; simp) ?_
  refine seq_step (A := [s0, .dat (.int c), .lst [.int a2, .int c, .int k2], .dat (eT H ss), .lst (L.map PyData.int), s5, s6, s7, s8, s9, s10, s11]) (by simp [lev0]) ?_
  have l16 : L.length ≤ 16777215 := by omega
  refine seq_step (A := [s0, .dat (.int c), .lst [.int a2, .int c, .int k2], .dat (eT H ss), .lst (L.map PyData.int), s5, s6, s7, s8, s9, s10, s11]) ?_ ?_
  · by_cases hL : L = []
    · subst hL
      have rm0 : gRepr [.int 0] = some (.str (PyData.shown (.int 0))) := gRepr_of (canRepr_int (by decide))
      have mi0 : (minI ([] : List Int)).getD 0 = 0 := rfl
      have nl := gNeA_nil []
      simp only [List.map_nil, List.nil_append] at nl mx
      rw [mi0] at lw
      simp [pk, lw, gPlus, gCat, lineN, mx, rp, rm0, gNe_str, nl]
    · have nl := gNeA_nil L
      rw [decide_eq_true hL] at nl
      have mn := gMin1_of hL
      simp [pk, lw, gPlus, gCat, lineN, l16, mx, rp, rm, gNe_str, nl, mn]
  refine seq_step (A := [s0, .dat (.int c), .lst [.int a2, .int c, .int k2], .dat (eT H ss), .lst (L.map PyData.int), .dat (.int H), s6, s7, s8, s9, s10, s11]) (by simp [eT, gIx, atI, ixN]) ?_
  refine seq_step (A := [s0, .dat (.int c), .lst [.int y3, .int c, .int z3], .dat (eT H ss), .lst (L.map PyData.int), .dat (.int H), .lst (ts.map PyData.int), s7, s8, s9, .un, .un]) ?_ ?_
  · have cmp := lcL_pure (t := Tgt.nm 10) (m := m_law_l3) (vs := [10]) eS (fun p => .int p.1) [s0, .dat (.int c), .lst [.int y3, .int c, .int z3], .dat (eT H ss), .lst (L.map PyData.int), .dat (.int H), s6, s7, s8, s9, .un, .un] rs (by unfold lineN; omega) fun p hp => by
      refine ⟨[s0, .dat (.int c), .lst [.int y3, .int c, .int z3], .dat (eT H ss), .lst (L.map PyData.int), .dat (.int H), s6, s7, s8, s9, .dat (eS p), .un], ?_, ?_, ?_⟩
      · simp
      · simp [m_law_l3, eS, gIx, atI, ixN]
      · simp [wipeA]
    have l24 : 5 + rs.length ≤ 16777216 := by omega
    simp only [eT] at cmp
    simp [mLc_app, gR1, rangeD, List.range_succ, lcL, m_law_l2, wipeA, f1, f2, f3, lineN, eT, gIx, atI, ixN, gI0, gSl, gPart, ecut, cmp, gPlus, gCat, hts, l24, Function.comp_def]
  · simp [ef]
end LawK02

namespace LawK02
open PySem L2 Am

def L4I (s0 : Sl) (_ : List Int) (st : AEnv) : Prop := ∃ s1 s2 s3 s4 s5 s6 s7 s8 s9 s10 s11, st = [s0, s1, s2, s3, s4, s5, s6, s7, s8, s9, s10, s11]
theorem cut_ints (ns : List Int) (lo hi : Option Int) : ∃ rs : List Int, cutD (ns.map PyData.int) lo hi = rs.map PyData.int ∧ rs.length ≤ ns.length := by
  unfold cutD
  rw [← List.map_drop, ← List.map_take]
  refine ⟨_, rfl, ?_⟩
  rw [List.length_take, List.length_drop]
  omega
theorem law_true : ∀ ns : List Int, ns.length ≤ 63 → fnD 12 m_law [.list (ns.map PyData.int)] = some (.ok (.dat (.bool true))) := fun ns hn => by
  obtain ⟨rs, ecut, lrs⟩ := cut_ints ns none (some 20)
  have turn : ∀ (p : List Int) (x : Int) (q : List Int) (b : AEnv), [] ++ (rs ++ [0]) = p ++ x :: q → L4I (.dat (.list (ns.map PyData.int))) p b → ∃ b1 b2, (Tgt.nm 1).put (PyData.int x) b = some b1 ∧ (m_law_l4 b1 = some (.ok .nx, b2) ∨ m_law_l4 b1 = some (.ok .ct, b2)) ∧ L4I (.dat (.list (ns.map PyData.int))) (p ++ [x]) b2 := by
    rintro p x q b _ ⟨s1, s2, s3, s4, s5, s6, s7, s8, s9, s10, s11, rfl⟩
    obtain ⟨b2, e, s2', s3', s4', s5', s6', s7', s8', s9', s10', s11', rfl⟩ := cell_spec x (.dat (.list (ns.map PyData.int))) s2 s3 s4 s5 s6 s7 s8 s9 s10 s11
    exact ⟨_, _, by simp, .inl e, _, _, _, _, _, _, _, _, _, _, _, rfl⟩
  obtain ⟨st, e, s1, s2, s3, s4, s5, s6, s7, s8, s9, s10, s11, rfl⟩ := forL_inv (t := Tgt.nm 1) (body := m_law_l4) PyData.int (L4I (.dat (.list (ns.map PyData.int)))) (rs ++ [0]) [] [.dat (.list (ns.map PyData.int)), .un, .un, .un, .un, .un, .un, .un, .un, .un, .un, .un] ⟨_, _, _, _, _, _, _, _, _, _, _, rfl⟩ turn
  have l1 : rs.length + 1 ≤ 16777216 := by omega
  have l2 : rs.length ≤ 16777215 := by omega
  rw [List.map_append] at e
  refine fnD_ret ?_
  simp only [List.map_cons, List.map_nil] at e
  simp [-List.map_append, m_law, startA, gSl, gPart, ecut, gPlus, gCat, lineN, l1, l2, e]
end LawK02

namespace LawK02
open PySem L2 Am
def mkT {K : PySem.W.Frag} {h : Heap} {mg : Str → Option Value} (X : K.In h) (G : h.Ns mainGlobals mg)
    {f0 : Addr} {oc0 kV0 dc0 pm0 cd0 ct0 : Value} {od0 an0 : Option Addr} {sl0 : Array (Option Value)}
    {f1 : Addr} {oc1 kV1 dc1 pm1 cd1 ct1 : Value} {od1 an1 : Option Addr} {sl1 : Array (Option Value)}
    {f2 : Addr} {oc2 kV2 dc2 pm2 cd2 ct2 : Value} {od2 an2 : Option Addr} {sl2 : Array (Option Value)}
    {f3 : Addr} {oc3 kV3 dc3 pm3 cd3 ct3 : Value} {od3 an3 : Option Addr} {sl3 : Array (Option Value)}
    {f4 : Addr} {oc4 kV4 dc4 pm4 cd4 ct4 : Value} {od4 an4 : Option Addr} {sl4 : Array (Option Value)}
    {f5 : Addr} {oc5 kV5 dc5 pm5 cd5 ct5 : Value} {od5 an5 : Option Addr} {sl5 : Array (Option Value)}
    {f6 : Addr} {oc6 kV6 dc6 pm6 cd6 ct6 : Value} {od6 an6 : Option Addr} {sl6 : Array (Option Value)}
    {f7 : Addr} {oc7 kV7 dc7 pm7 cd7 ct7 : Value} {od7 an7 : Option Addr} {sl7 : Array (Option Value)}
    {f8 : Addr} {oc8 kV8 dc8 pm8 cd8 ct8 : Value} {od8 an8 : Option Addr} {sl8 : Array (Option Value)}
    {f9 : Addr} {oc9 kV9 dc9 pm9 cd9 ct9 : Value} {od9 an9 : Option Addr} {sl9 : Array (Option Value)}
    {f10 : Addr} {oc10 kV10 dc10 pm10 cd10 ct10 : Value} {od10 an10 : Option Addr} {sl10 : Array (Option Value)}
    {f11 : Addr} {oc11 kV11 dc11 pm11 cd11 ct11 : Value} {od11 an11 : Option Addr} {sl11 : Array (Option Value)}
    {f12 : Addr} {oc12 kV12 dc12 pm12 cd12 ct12 : Value} {od12 an12 : Option Addr} {sl12 : Array (Option Value)}
    {f13 : Addr} {oc13 kV13 dc13 pm13 cd13 ct13 : Value} {od13 an13 : Option Addr} {sl13 : Array (Option Value)}
    {f14 : Addr} {oc14 kV14 dc14 pm14 cd14 ct14 : Value} {od14 an14 : Option Addr} {sl14 : Array (Option Value)}
    {f15 : Addr} {oc15 kV15 dc15 pm15 cd15 ct15 : Value} {od15 an15 : Option Addr} {sl15 : Array (Option Value)}
    {f16 : Addr} {oc16 kV16 dc16 pm16 cd16 ct16 : Value} {od16 an16 : Option Addr} {sl16 : Array (Option Value)}
    {f17 : Addr} {oc17 kV17 dc17 pm17 cd17 ct17 : Value} {od17 an17 : Option Addr} {sl17 : Array (Option Value)}
    {f18 : Addr} {oc18 kV18 dc18 pm18 cd18 ct18 : Value} {od18 an18 : Option Addr} {sl18 : Array (Option Value)}
    {f19 : Addr} {oc19 kV19 dc19 pm19 cd19 ct19 : Value} {od19 an19 : Option Addr} {sl19 : Array (Option Value)}
    {t_ARRIVAL : Tok}
    {t_DEPARTURE : Tok}
    {t_MOST_HOURS : Tok}
    {t_MOST_PEAK : Tok}
    {t_MOST_SHIPS : Tok}
    {t_MOST_STAY : Tok}
    (a0 : PySem.W.nsIn K mainGlobals "is_int" = some (some (.ref f0)))
    (l0 : K.lookup f0 = some ⟨oc0, od0, .func (PySem.W.fnOf "is_int" "is_int" (defArgs s_is_int) (defBody s_is_int) (defScope s_is_int) .none kV0 dc0 pm0 an0 cd0 ct0), sl0⟩) (c0 : PySem.W.codeIn K cd0 "is_int" = true) (k0 : PySem.W.keepIn K (.ref f0) = true)
    (a1 : PySem.W.nsIn K mainGlobals "day_events" = some (some (.ref f1)))
    (l1 : K.lookup f1 = some ⟨oc1, od1, .func (PySem.W.fnOf "day_events" "day_events" (defArgs s_day_events) (defBody s_day_events) (defScope s_day_events) .none kV1 dc1 pm1 an1 cd1 ct1), sl1⟩) (c1 : PySem.W.codeIn K cd1 "day_events" = true) (k1 : PySem.W.keepIn K (.ref f1) = true)
    (a2 : PySem.W.nsIn K mainGlobals "count_at_midnight" = some (some (.ref f2)))
    (l2 : K.lookup f2 = some ⟨oc2, od2, .func (PySem.W.fnOf "count_at_midnight" "count_at_midnight" (defArgs s_count_at_midnight) (defBody s_count_at_midnight) (defScope s_count_at_midnight) .none kV2 dc2 pm2 an2 cd2 ct2), sl2⟩) (c2 : PySem.W.codeIn K cd2 "count_at_midnight" = true) (k2 : PySem.W.keepIn K (.ref f2) = true)
    (a3 : PySem.W.nsIn K mainGlobals "_law_bag" = some (some (.ref f3)))
    (l3 : K.lookup f3 = some ⟨oc3, od3, .func (PySem.W.fnOf "_law_bag" "_law_bag" (defArgs s_law_bag) (defBody s_law_bag) (defScope s_law_bag) .none kV3 dc3 pm3 an3 cd3 ct3), sl3⟩) (c3 : PySem.W.codeIn K cd3 "_law_bag" = true) (k3 : PySem.W.keepIn K (.ref f3) = true)
    (a4 : PySem.W.nsIn K mainGlobals "_law_pick" = some (some (.ref f4)))
    (l4 : K.lookup f4 = some ⟨oc4, od4, .func (PySem.W.fnOf "_law_pick" "_law_pick" (defArgs s_law_pick) (defBody s_law_pick) (defScope s_law_pick) .none kV4 dc4 pm4 an4 cd4 ct4), sl4⟩) (c4 : PySem.W.codeIn K cd4 "_law_pick" = true) (k4 : PySem.W.keepIn K (.ref f4) = true)
    (a5 : PySem.W.nsIn K mainGlobals "_law_events" = some (some (.ref f5)))
    (l5 : K.lookup f5 = some ⟨oc5, od5, .func (PySem.W.fnOf "_law_events" "_law_events" (defArgs s_law_events) (defBody s_law_events) (defScope s_law_events) .none kV5 dc5 pm5 an5 cd5 ct5), sl5⟩) (c5 : PySem.W.codeIn K cd5 "_law_events" = true) (k5 : PySem.W.keepIn K (.ref f5) = true)
    (a6 : PySem.W.nsIn K mainGlobals "_law_here" = some (some (.ref f6)))
    (l6 : K.lookup f6 = some ⟨oc6, od6, .func (PySem.W.fnOf "_law_here" "_law_here" (defArgs s_law_here) (defBody s_law_here) (defScope s_law_here) .none kV6 dc6 pm6 an6 cd6 ct6), sl6⟩) (c6 : PySem.W.codeIn K cd6 "_law_here" = true) (k6 : PySem.W.keepIn K (.ref f6) = true)
    (a7 : PySem.W.nsIn K mainGlobals "in_range" = some (some (.ref f7)))
    (l7 : K.lookup f7 = some ⟨oc7, od7, .func (PySem.W.fnOf "in_range" "in_range" (defArgs s_in_range) (defBody s_in_range) (defScope s_in_range) .none kV7 dc7 pm7 an7 cd7 ct7), sl7⟩) (c7 : PySem.W.codeIn K cd7 "in_range" = true) (k7 : PySem.W.keepIn K (.ref f7) = true)
    (a8 : PySem.W.nsIn K mainGlobals "counts" = some (some (.ref f8)))
    (l8 : K.lookup f8 = some ⟨oc8, od8, .func (PySem.W.fnOf "counts" "counts" (defArgs s_counts) (defBody s_counts) (defScope s_counts) .none kV8 dc8 pm8 an8 cd8 ct8), sl8⟩) (c8 : PySem.W.codeIn K cd8 "counts" = true) (k8 : PySem.W.keepIn K (.ref f8) = true)
    (a9 : PySem.W.nsIn K mainGlobals "_law_table" = some (some (.ref f9)))
    (l9 : K.lookup f9 = some ⟨oc9, od9, .func (PySem.W.fnOf "_law_table" "_law_table" (defArgs s_law_table) (defBody s_law_table) (defScope s_law_table) .none kV9 dc9 pm9 an9 cd9 ct9), sl9⟩) (c9 : PySem.W.codeIn K cd9 "_law_table" = true) (k9 : PySem.W.keepIn K (.ref f9) = true)
    (a10 : PySem.W.nsIn K mainGlobals "_law_levels" = some (some (.ref f10)))
    (l10 : K.lookup f10 = some ⟨oc10, od10, .func (PySem.W.fnOf "_law_levels" "_law_levels" (defArgs s_law_levels) (defBody s_law_levels) (defScope s_law_levels) .none kV10 dc10 pm10 an10 cd10 ct10), sl10⟩) (c10 : PySem.W.codeIn K cd10 "_law_levels" = true) (k10 : PySem.W.keepIn K (.ref f10) = true)
    (a11 : PySem.W.nsIn K mainGlobals "_law_long_table" = some (some (.ref f11)))
    (l11 : K.lookup f11 = some ⟨oc11, od11, .func (PySem.W.fnOf "_law_long_table" "_law_long_table" (defArgs s_law_long_table) (defBody s_law_long_table) (defScope s_law_long_table) .none kV11 dc11 pm11 an11 cd11 ct11), sl11⟩) (c11 : PySem.W.codeIn K cd11 "_law_long_table" = true) (k11 : PySem.W.keepIn K (.ref f11) = true)
    (a12 : PySem.W.nsIn K mainGlobals "is_ship" = some (some (.ref f12)))
    (l12 : K.lookup f12 = some ⟨oc12, od12, .func (PySem.W.fnOf "is_ship" "is_ship" (defArgs s_is_ship) (defBody s_is_ship) (defScope s_is_ship) .none kV12 dc12 pm12 an12 cd12 ct12), sl12⟩) (c12 : PySem.W.codeIn K cd12 "is_ship" = true) (k12 : PySem.W.keepIn K (.ref f12) = true)
    (a13 : PySem.W.nsIn K mainGlobals "peak_of" = some (some (.ref f13)))
    (l13 : K.lookup f13 = some ⟨oc13, od13, .func (PySem.W.fnOf "peak_of" "peak_of" (defArgs s_peak_of) (defBody s_peak_of) (defScope s_peak_of) .none kV13 dc13 pm13 an13 cd13 ct13), sl13⟩) (c13 : PySem.W.codeIn K cd13 "peak_of" = true) (k13 : PySem.W.keepIn K (.ref f13) = true)
    (a14 : PySem.W.nsIn K mainGlobals "is_table" = some (some (.ref f14)))
    (l14 : K.lookup f14 = some ⟨oc14, od14, .func (PySem.W.fnOf "is_table" "is_table" (defArgs s_is_table) (defBody s_is_table) (defScope s_is_table) .none kV14 dc14 pm14 an14 cd14 ct14), sl14⟩) (c14 : PySem.W.codeIn K cd14 "is_table" = true) (k14 : PySem.W.keepIn K (.ref f14) = true)
    (a15 : PySem.W.nsIn K mainGlobals "require_table" = some (some (.ref f15)))
    (l15 : K.lookup f15 = some ⟨oc15, od15, .func (PySem.W.fnOf "require_table" "require_table" (defArgs s_require_table) (defBody s_require_table) (defScope s_require_table) .none kV15 dc15 pm15 an15 cd15 ct15), sl15⟩) (c15 : PySem.W.codeIn K cd15 "require_table" = true) (k15 : PySem.W.keepIn K (.ref f15) = true)
    (a16 : PySem.W.nsIn K mainGlobals "peak" = some (some (.ref f16)))
    (l16 : K.lookup f16 = some ⟨oc16, od16, .func (PySem.W.fnOf "peak" "peak" (defArgs s_peak) (defBody s_peak) (defScope s_peak) .none kV16 dc16 pm16 an16 cd16 ct16), sl16⟩) (c16 : PySem.W.codeIn K cd16 "peak" = true) (k16 : PySem.W.keepIn K (.ref f16) = true)
    (a17 : PySem.W.nsIn K mainGlobals "low" = some (some (.ref f17)))
    (l17 : K.lookup f17 = some ⟨oc17, od17, .func (PySem.W.fnOf "low" "low" (defArgs s_low) (defBody s_low) (defScope s_low) .none kV17 dc17 pm17 an17 cd17 ct17), sl17⟩) (c17 : PySem.W.codeIn K cd17 "low" = true) (k17 : PySem.W.keepIn K (.ref f17) = true)
    (a18 : PySem.W.nsIn K mainGlobals "present" = some (some (.ref f18)))
    (l18 : K.lookup f18 = some ⟨oc18, od18, .func (PySem.W.fnOf "present" "present" (defArgs s_present) (defBody s_present) (defScope s_present) .none kV18 dc18 pm18 an18 cd18 ct18), sl18⟩) (c18 : PySem.W.codeIn K cd18 "present" = true) (k18 : PySem.W.keepIn K (.ref f18) = true)
    (a19 : PySem.W.nsIn K mainGlobals "law" = some (some (.ref f19)))
    (l19 : K.lookup f19 = some ⟨oc19, od19, .func (PySem.W.fnOf "law" "law" (defArgs s_law) (defBody s_law) (defScope s_law) .none kV19 dc19 pm19 an19 cd19 ct19), sl19⟩) (c19 : PySem.W.codeIn K cd19 "law" = true) (k19 : PySem.W.keepIn K (.ref f19) = true)
    (z_all : PySem.W.nsIn K mainGlobals "all" = some none)
    (z_bool : PySem.W.nsIn K mainGlobals "bool" = some none)
    (z_divmod : PySem.W.nsIn K mainGlobals "divmod" = some none)
    (z_enumerate : PySem.W.nsIn K mainGlobals "enumerate" = some none)
    (z_int : PySem.W.nsIn K mainGlobals "int" = some none)
    (z_isinstance : PySem.W.nsIn K mainGlobals "isinstance" = some none)
    (z_len : PySem.W.nsIn K mainGlobals "len" = some none)
    (z_max : PySem.W.nsIn K mainGlobals "max" = some none)
    (z_min : PySem.W.nsIn K mainGlobals "min" = some none)
    (z_range : PySem.W.nsIn K mainGlobals "range" = some none)
    (z_repr : PySem.W.nsIn K mainGlobals "repr" = some none)
    (z_sorted : PySem.W.nsIn K mainGlobals "sorted" = some none)
    (z_tuple : PySem.W.nsIn K mainGlobals "tuple" = some none)
    (c_ARRIVAL : PySem.W.nsIn K mainGlobals "ARRIVAL" = some (some (.int 1 t_ARRIVAL)))
    (c_DEPARTURE : PySem.W.nsIn K mainGlobals "DEPARTURE" = some (some (.int 0 t_DEPARTURE)))
    (c_MOST_HOURS : PySem.W.nsIn K mainGlobals "MOST_HOURS" = some (some (.int 1000 t_MOST_HOURS)))
    (c_MOST_PEAK : PySem.W.nsIn K mainGlobals "MOST_PEAK" = some (some (.int 60 t_MOST_PEAK)))
    (c_MOST_SHIPS : PySem.W.nsIn K mainGlobals "MOST_SHIPS" = some (some (.int 24 t_MOST_SHIPS)))
    (c_MOST_STAY : PySem.W.nsIn K mainGlobals "MOST_STAY" = some (some (.int 10000 t_MOST_STAY))) : Txt K mg :=
  ⟨f0, _, fun_mk (st := s_is_int) l0 c0 k0, PySem.W.mg_of X G a0, f1, _, fun_mk (st := s_day_events) l1 c1 k1, PySem.W.mg_of X G a1, f2, _, fun_mk (st := s_count_at_midnight) l2 c2 k2, PySem.W.mg_of X G a2, f3, _, fun_mk (st := s_law_bag) l3 c3 k3, PySem.W.mg_of X G a3, f4, _, fun_mk (st := s_law_pick) l4 c4 k4, PySem.W.mg_of X G a4, f5, _, fun_mk (st := s_law_events) l5 c5 k5, PySem.W.mg_of X G a5, f6, _, fun_mk (st := s_law_here) l6 c6 k6, PySem.W.mg_of X G a6, f7, _, fun_mk (st := s_in_range) l7 c7 k7, PySem.W.mg_of X G a7, f8, _, fun_mk (st := s_counts) l8 c8 k8, PySem.W.mg_of X G a8, f9, _, fun_mk (st := s_law_table) l9 c9 k9, PySem.W.mg_of X G a9, f10, _, fun_mk (st := s_law_levels) l10 c10 k10, PySem.W.mg_of X G a10, f11, _, fun_mk (st := s_law_long_table) l11 c11 k11, PySem.W.mg_of X G a11, f12, _, fun_mk (st := s_is_ship) l12 c12 k12, PySem.W.mg_of X G a12, f13, _, fun_mk (st := s_peak_of) l13 c13 k13, PySem.W.mg_of X G a13, f14, _, fun_mk (st := s_is_table) l14 c14 k14, PySem.W.mg_of X G a14, f15, _, fun_mk (st := s_require_table) l15 c15 k15, PySem.W.mg_of X G a15, f16, _, fun_mk (st := s_peak) l16 c16 k16, PySem.W.mg_of X G a16, f17, _, fun_mk (st := s_low) l17 c17 k17, PySem.W.mg_of X G a17, f18, _, fun_mk (st := s_present) l18 c18 k18, PySem.W.mg_of X G a18, f19, _, fun_mk (st := s_law) l19 c19 k19, PySem.W.mg_of X G a19, PySem.W.mg_none_of X G z_all, PySem.W.mg_none_of X G z_bool, PySem.W.mg_none_of X G z_divmod, PySem.W.mg_none_of X G z_enumerate, PySem.W.mg_none_of X G z_int, PySem.W.mg_none_of X G z_isinstance, PySem.W.mg_none_of X G z_len, PySem.W.mg_none_of X G z_max, PySem.W.mg_none_of X G z_min, PySem.W.mg_none_of X G z_range, PySem.W.mg_none_of X G z_repr, PySem.W.mg_none_of X G z_sorted, PySem.W.mg_none_of X G z_tuple, ⟨t_ARRIVAL, PySem.W.mg_of X G c_ARRIVAL⟩, ⟨t_DEPARTURE, PySem.W.mg_of X G c_DEPARTURE⟩, ⟨t_MOST_HOURS, PySem.W.mg_of X G c_MOST_HOURS⟩, ⟨t_MOST_PEAK, PySem.W.mg_of X G c_MOST_PEAK⟩, ⟨t_MOST_SHIPS, PySem.W.mg_of X G c_MOST_SHIPS⟩, ⟨t_MOST_STAY, PySem.W.mg_of X G c_MOST_STAY⟩⟩
theorem all_mk {l : PySem.W.OpenLaw} {w : World} {K : PySem.W.Frag} {h : Heap} {mg : Str → Option Value} {fa : Addr} (X : K.In h) (G : h.Ns mainGlobals mg) (hfa : mg "law" = some (.ref fa))
    {f0 : Addr} {oc0 kV0 dc0 pm0 cd0 ct0 : Value} {od0 an0 : Option Addr} {sl0 : Array (Option Value)}
    {f1 : Addr} {oc1 kV1 dc1 pm1 cd1 ct1 : Value} {od1 an1 : Option Addr} {sl1 : Array (Option Value)}
    {f2 : Addr} {oc2 kV2 dc2 pm2 cd2 ct2 : Value} {od2 an2 : Option Addr} {sl2 : Array (Option Value)}
    {f3 : Addr} {oc3 kV3 dc3 pm3 cd3 ct3 : Value} {od3 an3 : Option Addr} {sl3 : Array (Option Value)}
    {f4 : Addr} {oc4 kV4 dc4 pm4 cd4 ct4 : Value} {od4 an4 : Option Addr} {sl4 : Array (Option Value)}
    {f5 : Addr} {oc5 kV5 dc5 pm5 cd5 ct5 : Value} {od5 an5 : Option Addr} {sl5 : Array (Option Value)}
    {f6 : Addr} {oc6 kV6 dc6 pm6 cd6 ct6 : Value} {od6 an6 : Option Addr} {sl6 : Array (Option Value)}
    {f7 : Addr} {oc7 kV7 dc7 pm7 cd7 ct7 : Value} {od7 an7 : Option Addr} {sl7 : Array (Option Value)}
    {f8 : Addr} {oc8 kV8 dc8 pm8 cd8 ct8 : Value} {od8 an8 : Option Addr} {sl8 : Array (Option Value)}
    {f9 : Addr} {oc9 kV9 dc9 pm9 cd9 ct9 : Value} {od9 an9 : Option Addr} {sl9 : Array (Option Value)}
    {f10 : Addr} {oc10 kV10 dc10 pm10 cd10 ct10 : Value} {od10 an10 : Option Addr} {sl10 : Array (Option Value)}
    {f11 : Addr} {oc11 kV11 dc11 pm11 cd11 ct11 : Value} {od11 an11 : Option Addr} {sl11 : Array (Option Value)}
    {f12 : Addr} {oc12 kV12 dc12 pm12 cd12 ct12 : Value} {od12 an12 : Option Addr} {sl12 : Array (Option Value)}
    {f13 : Addr} {oc13 kV13 dc13 pm13 cd13 ct13 : Value} {od13 an13 : Option Addr} {sl13 : Array (Option Value)}
    {f14 : Addr} {oc14 kV14 dc14 pm14 cd14 ct14 : Value} {od14 an14 : Option Addr} {sl14 : Array (Option Value)}
    {f15 : Addr} {oc15 kV15 dc15 pm15 cd15 ct15 : Value} {od15 an15 : Option Addr} {sl15 : Array (Option Value)}
    {f16 : Addr} {oc16 kV16 dc16 pm16 cd16 ct16 : Value} {od16 an16 : Option Addr} {sl16 : Array (Option Value)}
    {f17 : Addr} {oc17 kV17 dc17 pm17 cd17 ct17 : Value} {od17 an17 : Option Addr} {sl17 : Array (Option Value)}
    {f18 : Addr} {oc18 kV18 dc18 pm18 cd18 ct18 : Value} {od18 an18 : Option Addr} {sl18 : Array (Option Value)}
    {f19 : Addr} {oc19 kV19 dc19 pm19 cd19 ct19 : Value} {od19 an19 : Option Addr} {sl19 : Array (Option Value)}
    {t_ARRIVAL : Tok}
    {t_DEPARTURE : Tok}
    {t_MOST_HOURS : Tok}
    {t_MOST_PEAK : Tok}
    {t_MOST_SHIPS : Tok}
    {t_MOST_STAY : Tok}
    (a0 : PySem.W.nsIn K mainGlobals "is_int" = some (some (.ref f0)))
    (l0 : K.lookup f0 = some ⟨oc0, od0, .func (PySem.W.fnOf "is_int" "is_int" (defArgs s_is_int) (defBody s_is_int) (defScope s_is_int) .none kV0 dc0 pm0 an0 cd0 ct0), sl0⟩) (c0 : PySem.W.codeIn K cd0 "is_int" = true) (k0 : PySem.W.keepIn K (.ref f0) = true)
    (a1 : PySem.W.nsIn K mainGlobals "day_events" = some (some (.ref f1)))
    (l1 : K.lookup f1 = some ⟨oc1, od1, .func (PySem.W.fnOf "day_events" "day_events" (defArgs s_day_events) (defBody s_day_events) (defScope s_day_events) .none kV1 dc1 pm1 an1 cd1 ct1), sl1⟩) (c1 : PySem.W.codeIn K cd1 "day_events" = true) (k1 : PySem.W.keepIn K (.ref f1) = true)
    (a2 : PySem.W.nsIn K mainGlobals "count_at_midnight" = some (some (.ref f2)))
    (l2 : K.lookup f2 = some ⟨oc2, od2, .func (PySem.W.fnOf "count_at_midnight" "count_at_midnight" (defArgs s_count_at_midnight) (defBody s_count_at_midnight) (defScope s_count_at_midnight) .none kV2 dc2 pm2 an2 cd2 ct2), sl2⟩) (c2 : PySem.W.codeIn K cd2 "count_at_midnight" = true) (k2 : PySem.W.keepIn K (.ref f2) = true)
    (a3 : PySem.W.nsIn K mainGlobals "_law_bag" = some (some (.ref f3)))
    (l3 : K.lookup f3 = some ⟨oc3, od3, .func (PySem.W.fnOf "_law_bag" "_law_bag" (defArgs s_law_bag) (defBody s_law_bag) (defScope s_law_bag) .none kV3 dc3 pm3 an3 cd3 ct3), sl3⟩) (c3 : PySem.W.codeIn K cd3 "_law_bag" = true) (k3 : PySem.W.keepIn K (.ref f3) = true)
    (a4 : PySem.W.nsIn K mainGlobals "_law_pick" = some (some (.ref f4)))
    (l4 : K.lookup f4 = some ⟨oc4, od4, .func (PySem.W.fnOf "_law_pick" "_law_pick" (defArgs s_law_pick) (defBody s_law_pick) (defScope s_law_pick) .none kV4 dc4 pm4 an4 cd4 ct4), sl4⟩) (c4 : PySem.W.codeIn K cd4 "_law_pick" = true) (k4 : PySem.W.keepIn K (.ref f4) = true)
    (a5 : PySem.W.nsIn K mainGlobals "_law_events" = some (some (.ref f5)))
    (l5 : K.lookup f5 = some ⟨oc5, od5, .func (PySem.W.fnOf "_law_events" "_law_events" (defArgs s_law_events) (defBody s_law_events) (defScope s_law_events) .none kV5 dc5 pm5 an5 cd5 ct5), sl5⟩) (c5 : PySem.W.codeIn K cd5 "_law_events" = true) (k5 : PySem.W.keepIn K (.ref f5) = true)
    (a6 : PySem.W.nsIn K mainGlobals "_law_here" = some (some (.ref f6)))
    (l6 : K.lookup f6 = some ⟨oc6, od6, .func (PySem.W.fnOf "_law_here" "_law_here" (defArgs s_law_here) (defBody s_law_here) (defScope s_law_here) .none kV6 dc6 pm6 an6 cd6 ct6), sl6⟩) (c6 : PySem.W.codeIn K cd6 "_law_here" = true) (k6 : PySem.W.keepIn K (.ref f6) = true)
    (a7 : PySem.W.nsIn K mainGlobals "in_range" = some (some (.ref f7)))
    (l7 : K.lookup f7 = some ⟨oc7, od7, .func (PySem.W.fnOf "in_range" "in_range" (defArgs s_in_range) (defBody s_in_range) (defScope s_in_range) .none kV7 dc7 pm7 an7 cd7 ct7), sl7⟩) (c7 : PySem.W.codeIn K cd7 "in_range" = true) (k7 : PySem.W.keepIn K (.ref f7) = true)
    (a8 : PySem.W.nsIn K mainGlobals "counts" = some (some (.ref f8)))
    (l8 : K.lookup f8 = some ⟨oc8, od8, .func (PySem.W.fnOf "counts" "counts" (defArgs s_counts) (defBody s_counts) (defScope s_counts) .none kV8 dc8 pm8 an8 cd8 ct8), sl8⟩) (c8 : PySem.W.codeIn K cd8 "counts" = true) (k8 : PySem.W.keepIn K (.ref f8) = true)
    (a9 : PySem.W.nsIn K mainGlobals "_law_table" = some (some (.ref f9)))
    (l9 : K.lookup f9 = some ⟨oc9, od9, .func (PySem.W.fnOf "_law_table" "_law_table" (defArgs s_law_table) (defBody s_law_table) (defScope s_law_table) .none kV9 dc9 pm9 an9 cd9 ct9), sl9⟩) (c9 : PySem.W.codeIn K cd9 "_law_table" = true) (k9 : PySem.W.keepIn K (.ref f9) = true)
    (a10 : PySem.W.nsIn K mainGlobals "_law_levels" = some (some (.ref f10)))
    (l10 : K.lookup f10 = some ⟨oc10, od10, .func (PySem.W.fnOf "_law_levels" "_law_levels" (defArgs s_law_levels) (defBody s_law_levels) (defScope s_law_levels) .none kV10 dc10 pm10 an10 cd10 ct10), sl10⟩) (c10 : PySem.W.codeIn K cd10 "_law_levels" = true) (k10 : PySem.W.keepIn K (.ref f10) = true)
    (a11 : PySem.W.nsIn K mainGlobals "_law_long_table" = some (some (.ref f11)))
    (l11 : K.lookup f11 = some ⟨oc11, od11, .func (PySem.W.fnOf "_law_long_table" "_law_long_table" (defArgs s_law_long_table) (defBody s_law_long_table) (defScope s_law_long_table) .none kV11 dc11 pm11 an11 cd11 ct11), sl11⟩) (c11 : PySem.W.codeIn K cd11 "_law_long_table" = true) (k11 : PySem.W.keepIn K (.ref f11) = true)
    (a12 : PySem.W.nsIn K mainGlobals "is_ship" = some (some (.ref f12)))
    (l12 : K.lookup f12 = some ⟨oc12, od12, .func (PySem.W.fnOf "is_ship" "is_ship" (defArgs s_is_ship) (defBody s_is_ship) (defScope s_is_ship) .none kV12 dc12 pm12 an12 cd12 ct12), sl12⟩) (c12 : PySem.W.codeIn K cd12 "is_ship" = true) (k12 : PySem.W.keepIn K (.ref f12) = true)
    (a13 : PySem.W.nsIn K mainGlobals "peak_of" = some (some (.ref f13)))
    (l13 : K.lookup f13 = some ⟨oc13, od13, .func (PySem.W.fnOf "peak_of" "peak_of" (defArgs s_peak_of) (defBody s_peak_of) (defScope s_peak_of) .none kV13 dc13 pm13 an13 cd13 ct13), sl13⟩) (c13 : PySem.W.codeIn K cd13 "peak_of" = true) (k13 : PySem.W.keepIn K (.ref f13) = true)
    (a14 : PySem.W.nsIn K mainGlobals "is_table" = some (some (.ref f14)))
    (l14 : K.lookup f14 = some ⟨oc14, od14, .func (PySem.W.fnOf "is_table" "is_table" (defArgs s_is_table) (defBody s_is_table) (defScope s_is_table) .none kV14 dc14 pm14 an14 cd14 ct14), sl14⟩) (c14 : PySem.W.codeIn K cd14 "is_table" = true) (k14 : PySem.W.keepIn K (.ref f14) = true)
    (a15 : PySem.W.nsIn K mainGlobals "require_table" = some (some (.ref f15)))
    (l15 : K.lookup f15 = some ⟨oc15, od15, .func (PySem.W.fnOf "require_table" "require_table" (defArgs s_require_table) (defBody s_require_table) (defScope s_require_table) .none kV15 dc15 pm15 an15 cd15 ct15), sl15⟩) (c15 : PySem.W.codeIn K cd15 "require_table" = true) (k15 : PySem.W.keepIn K (.ref f15) = true)
    (a16 : PySem.W.nsIn K mainGlobals "peak" = some (some (.ref f16)))
    (l16 : K.lookup f16 = some ⟨oc16, od16, .func (PySem.W.fnOf "peak" "peak" (defArgs s_peak) (defBody s_peak) (defScope s_peak) .none kV16 dc16 pm16 an16 cd16 ct16), sl16⟩) (c16 : PySem.W.codeIn K cd16 "peak" = true) (k16 : PySem.W.keepIn K (.ref f16) = true)
    (a17 : PySem.W.nsIn K mainGlobals "low" = some (some (.ref f17)))
    (l17 : K.lookup f17 = some ⟨oc17, od17, .func (PySem.W.fnOf "low" "low" (defArgs s_low) (defBody s_low) (defScope s_low) .none kV17 dc17 pm17 an17 cd17 ct17), sl17⟩) (c17 : PySem.W.codeIn K cd17 "low" = true) (k17 : PySem.W.keepIn K (.ref f17) = true)
    (a18 : PySem.W.nsIn K mainGlobals "present" = some (some (.ref f18)))
    (l18 : K.lookup f18 = some ⟨oc18, od18, .func (PySem.W.fnOf "present" "present" (defArgs s_present) (defBody s_present) (defScope s_present) .none kV18 dc18 pm18 an18 cd18 ct18), sl18⟩) (c18 : PySem.W.codeIn K cd18 "present" = true) (k18 : PySem.W.keepIn K (.ref f18) = true)
    (a19 : PySem.W.nsIn K mainGlobals "law" = some (some (.ref f19)))
    (l19 : K.lookup f19 = some ⟨oc19, od19, .func (PySem.W.fnOf "law" "law" (defArgs s_law) (defBody s_law) (defScope s_law) .none kV19 dc19 pm19 an19 cd19 ct19), sl19⟩) (c19 : PySem.W.codeIn K cd19 "law" = true) (k19 : PySem.W.keepIn K (.ref f19) = true)
    (z_all : PySem.W.nsIn K mainGlobals "all" = some none)
    (z_bool : PySem.W.nsIn K mainGlobals "bool" = some none)
    (z_divmod : PySem.W.nsIn K mainGlobals "divmod" = some none)
    (z_enumerate : PySem.W.nsIn K mainGlobals "enumerate" = some none)
    (z_int : PySem.W.nsIn K mainGlobals "int" = some none)
    (z_isinstance : PySem.W.nsIn K mainGlobals "isinstance" = some none)
    (z_len : PySem.W.nsIn K mainGlobals "len" = some none)
    (z_max : PySem.W.nsIn K mainGlobals "max" = some none)
    (z_min : PySem.W.nsIn K mainGlobals "min" = some none)
    (z_range : PySem.W.nsIn K mainGlobals "range" = some none)
    (z_repr : PySem.W.nsIn K mainGlobals "repr" = some none)
    (z_sorted : PySem.W.nsIn K mainGlobals "sorted" = some none)
    (z_tuple : PySem.W.nsIn K mainGlobals "tuple" = some none)
    (c_ARRIVAL : PySem.W.nsIn K mainGlobals "ARRIVAL" = some (some (.int 1 t_ARRIVAL)))
    (c_DEPARTURE : PySem.W.nsIn K mainGlobals "DEPARTURE" = some (some (.int 0 t_DEPARTURE)))
    (c_MOST_HOURS : PySem.W.nsIn K mainGlobals "MOST_HOURS" = some (some (.int 1000 t_MOST_HOURS)))
    (c_MOST_PEAK : PySem.W.nsIn K mainGlobals "MOST_PEAK" = some (some (.int 60 t_MOST_PEAK)))
    (c_MOST_SHIPS : PySem.W.nsIn K mainGlobals "MOST_SHIPS" = some (some (.int 24 t_MOST_SHIPS)))
    (c_MOST_STAY : PySem.W.nsIn K mainGlobals "MOST_STAY" = some (some (.int 10000 t_MOST_STAY))) :
    ∃ fd : FuncData, (∀ (s : Shared) (v : Value), BindsTo s fd ⟨[v], []⟩ [("_law_script", v)]) ∧ ∀ base : Heap, K.In base → base.Ns mainGlobals mg → FnG l.prog w K mg base CX0 7 fa fd ["_law_script"] (spD ⟨K, w⟩ (fnD 12 m_law) 1) := by
  have e := hfa.symm.trans (PySem.W.mg_of X G a19)
  cases e
  exact ⟨_, fun s v => .of_eq rfl, fun base _ _ => ok_law (mkT X G a0 l0 c0 k0 a1 l1 c1 k1 a2 l2 c2 k2 a3 l3 c3 k3 a4 l4 c4 k4 a5 l5 c5 k5 a6 l6 c6 k6 a7 l7 c7 k7 a8 l8 c8 k8 a9 l9 c9 k9 a10 l10 c10 k10 a11 l11 c11 k11 a12 l12 c12 k12 a13 l13 c13 k13 a14 l14 c14 k14 a15 l15 c15 k15 a16 l16 c16 k16 a17 l17 c17 k17 a18 l18 c18 k18 a19 l19 c19 k19 z_all z_bool z_divmod z_enumerate z_int z_isinstance z_len z_max z_min z_range z_repr z_sorted z_tuple c_ARRIVAL c_DEPARTURE c_MOST_HOURS c_MOST_PEAK c_MOST_SHIPS c_MOST_STAY)⟩
end LawK02
open PySem PySem.W PyProof.Rows in
set_option maxRecDepth 100000 in
set_option maxHeartbeats 0 in
theorem PySem.Challenge.cw_berths_k02_steady_state_holds : PySem.Challenge.rw_berths_k02_steady_state.Holds := by
  w_on; o_law; k_head; (case hw => w_witness2)
  k_fill
  refine Am.walkG (n := 63) (k := 7) (x := "_law_script") (CX := fun _ => L2.CX0) (body := LawK02.m_law) (sn := 12) rfl (by decide) rfl ⟨rfl, by decide, by decide⟩ (fun w h Y => PySem.W.kIn_of Y) ?F LawK02.law_true fun _ _ _ _ _ z => z
  case F =>
    intro w mg fa h KX G hmg
    refine' LawK02.all_mk KX G hmg ?a0 ?l0 ?c0 ?k0 ?a1 ?l1 ?c1 ?k1 ?a2 ?l2 ?c2 ?k2 ?a3 ?l3 ?c3 ?k3 ?a4 ?l4 ?c4 ?k4 ?a5 ?l5 ?c5 ?k5 ?a6 ?l6 ?c6 ?k6 ?a7 ?l7 ?c7 ?k7 ?a8 ?l8 ?c8 ?k8 ?a9 ?l9 ?c9 ?k9 ?a10 ?l10 ?c10 ?k10 ?a11 ?l11 ?c11 ?k11 ?a12 ?l12 ?c12 ?k12 ?a13 ?l13 ?c13 ?k13 ?a14 ?l14 ?c14 ?k14 ?a15 ?l15 ?c15 ?k15 ?a16 ?l16 ?c16 ?k16 ?a17 ?l17 ?c17 ?k17 ?a18 ?l18 ?c18 ?k18 ?a19 ?l19 ?c19 ?k19 ?z_all ?z_bool ?z_divmod ?z_enumerate ?z_int ?z_isinstance ?z_len ?z_max ?z_min ?z_range ?z_repr ?z_sorted ?z_tuple ?c_ARRIVAL ?c_DEPARTURE ?c_MOST_HOURS ?c_MOST_PEAK ?c_MOST_SHIPS ?c_MOST_STAY
    (case a0 => k_is)
    (case l0 => k_is)
    (case c0 => k_is)
    (case k0 => k_is)
    (case a1 => k_is)
    (case l1 => k_is)
    (case c1 => k_is)
    (case k1 => k_is)
    (case a2 => k_is)
    (case l2 => k_is)
    (case c2 => k_is)
    (case k2 => k_is)
    (case a3 => k_is)
    (case l3 => k_is)
    (case c3 => k_is)
    (case k3 => k_is)
    (case a4 => k_is)
    (case l4 => k_is)
    (case c4 => k_is)
    (case k4 => k_is)
    (case a5 => k_is)
    (case l5 => k_is)
    (case c5 => k_is)
    (case k5 => k_is)
    (case a6 => k_is)
    (case l6 => k_is)
    (case c6 => k_is)
    (case k6 => k_is)
    (case a7 => k_is)
    (case l7 => k_is)
    (case c7 => k_is)
    (case k7 => k_is)
    (case a8 => k_is)
    (case l8 => k_is)
    (case c8 => k_is)
    (case k8 => k_is)
    (case a9 => k_is)
    (case l9 => k_is)
    (case c9 => k_is)
    (case k9 => k_is)
    (case a10 => k_is)
    (case l10 => k_is)
    (case c10 => k_is)
    (case k10 => k_is)
    (case a11 => k_is)
    (case l11 => k_is)
    (case c11 => k_is)
    (case k11 => k_is)
    (case a12 => k_is)
    (case l12 => k_is)
    (case c12 => k_is)
    (case k12 => k_is)
    (case a13 => k_is)
    (case l13 => k_is)
    (case c13 => k_is)
    (case k13 => k_is)
    (case a14 => k_is)
    (case l14 => k_is)
    (case c14 => k_is)
    (case k14 => k_is)
    (case a15 => k_is)
    (case l15 => k_is)
    (case c15 => k_is)
    (case k15 => k_is)
    (case a16 => k_is)
    (case l16 => k_is)
    (case c16 => k_is)
    (case k16 => k_is)
    (case a17 => k_is)
    (case l17 => k_is)
    (case c17 => k_is)
    (case k17 => k_is)
    (case a18 => k_is)
    (case l18 => k_is)
    (case c18 => k_is)
    (case k18 => k_is)
    (case a19 => k_is)
    (case l19 => k_is)
    (case c19 => k_is)
    (case k19 => k_is)
    (case z_all => k_is)
    (case z_bool => k_is)
    (case z_divmod => k_is)
    (case z_enumerate => k_is)
    (case z_int => k_is)
    (case z_isinstance => k_is)
    (case z_len => k_is)
    (case z_max => k_is)
    (case z_min => k_is)
    (case z_range => k_is)
    (case z_repr => k_is)
    (case z_sorted => k_is)
    (case z_tuple => k_is)
    (case c_ARRIVAL => k_is)
    (case c_DEPARTURE => k_is)
    (case c_MOST_HOURS => k_is)
    (case c_MOST_PEAK => k_is)
    (case c_MOST_SHIPS => k_is)
    (case c_MOST_STAY => k_is)
