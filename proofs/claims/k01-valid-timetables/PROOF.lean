import PyProof.Rows.All
import Wide.All
import OpenK.AllK
import Wide.FinOn
import HandS.ForMost
import HandS.ForExc
import HandS.Strs
import HandS.ExcCtx
import HandS.Wide
import HandS.IsInst
import HandS.WideBits
import HandS.TupAny
import HandS.Style
import HandS.Walk
import HandS.Flow
import HandS.TupLe
import HandS.Zip
import HandS.Words
import HandS.Ends
import KE.GoesMore
import KE.GoesEnum
import HandS.SortKw
import PyProof.WalkInts
import PyProof.MinMaxWalk
import HandS.SortOrd
import HandS.SortInts
import HandS.TupSets
import KE.KSortTup
import PyProof.ReprReads
import PyProof.ReprDict
import PyProof.StrHeap
import PyProof.ReprRoads
import PyProof.Rows.NestShow
import HandS.SetFor
import HandS.TupMul
import KE.KRevSl
import KE.GoesSet
import HandS.Conv
import HandS.Text
import HandS.WordsDict
import HandS.Dict
import HandS.DictTup
import HandS.More
import HandS.DictComp
import HandS.SetKeys
import HandS.List
import PyProof.DictMoreH
import KE.DataCmp
import KE.LtData
import HandS.Comp
import PyProof.IsRules
import PyProof.SumWalkG
import HandS.ExcIs
import HandS.HotCalls
import HandS.WordsExc
import PySem.Challenge.RW_berths_k01_valid_timetables
set_option Elab.async false
set_option linter.all false
set_option maxRecDepth 100000
set_option maxHeartbeats 4000000
set_option exponentiation.threshold 500
/-! Am1: data over the heap, owned places, the abstract state and the monad of mirrors; the readings that a mirror gives. -/
namespace Am
open PySem L2

/-! ### data in the heap -/
/-- a view of the heap: what is to be seen, and where the boxes stand -/
structure Vw where
  h : Hp
  r : List Addr
/-- box i's reference, as data: a dict that no program has, and no repr shows -/
def bigB : Int := 2 ^ 2000
theorem bigB_log (i : Nat) : ¬ (bigB + (i : Int)).natAbs.log2 < 1920 := by
  have h : (bigB + (i : Int)).natAbs = 2 ^ 2000 + i := by
    unfold bigB
    omega
  rw [h]
  intro z
  have h0 : (2 ^ 2000 + i : Nat) ≠ 0 := by
    have : 0 < (2 : Nat) ^ 2000 := Nat.two_pow_pos 2000
    omega
  have h1 := (Nat.log2_lt h0).mp z
  have h2 : (2 : Nat) ^ 1920 ≤ 2 ^ 2000 := Nat.pow_le_pow_right (by decide) (by decide)
  omega
mutual
inductive R (K : PySem.W.Frag) (H : Vw) : V → PyData → Prop
  | non : R K H .non .none
  | bl (b : Bool) : R K H (.bl b) (.bool b)
  | int (i : Int) : R K H (.int i) (.int i)
  | str (x : Str) : R K H (.str x) (.str x)
  | lst {a : Addr} {xs : List V} {ds : List PyData} : SqL K H.h a xs → RAll K H xs ds → R K H (.ref a) (.list ds)
  | tup {a : Addr} {xs : List V} {ds : List PyData} : H.h a = some (.tup xs) → RAll K H xs ds → R K H (.ref a) (.tuple ds)
  | dic0 {a : Addr} : H.h a = some (.dK []) → R K H (.ref a) (.dict [])
  | bx {a : Addr} {i : Nat} : H.r[i]? = some a → R K H (.ref a) (.dict [(.none, .int (bigB + (i : Int)))])
inductive RAll (K : PySem.W.Frag) (H : Vw) : List V → List PyData → Prop
  | nil : RAll K H [] []
  | cons {v : V} {vs : List V} {d : PyData} {ds : List PyData} : R K H v d → RAll K H vs ds → RAll K H (v :: vs) (d :: ds)
end
/-- the reference of box i, as data -/
def bxD (i : Nat) : PyData := .dict [(.none, .int (bigB + (i : Int)))]

/-- all that H tracks, H' tracks as it is -/
def Ex (H H' : Hp) : Prop := ∀ b o, H b = some o → H' b = some o
theorem Ex.refl (H : Hp) : Ex H H := fun _ _ h => h
theorem Ex.trans {H H1 H2 : Hp} (a : Ex H H1) (b : Ex H1 H2) : Ex H H2 := fun c o h => b c o (a c o h)
theorem Ex.free {H H' : Hp} (e : Ex H H') {l : Addr} (h : H' l = none) : H l = none := by
  cases q : H l with
  | none => rfl
  | some o =>
    rw [e l o q] at h
    cases h
theorem Ex.rd {H H' : Hp} (e : Ex H H') {a : Addr} {u : HO} (h : Rd H a u) : Rd H' a u := by
  rcases h with h | ⟨o, h⟩
  · exact .inl (e _ _ h)
  · exact .inr ⟨o, e _ _ h⟩
theorem Ex.l {K : PySem.W.Frag} {H H' : Hp} (e : Ex H H') {a : Addr} {xs : List V} (h : SqL K H a xs) : SqL K H' a xs := by
  rcases h with h | h
  · exact .inl (e.rd h)
  · exact .inr h
theorem Ex.t {K : PySem.W.Frag} {H H' : Hp} (e : Ex H H') {a : Addr} {xs : List V} (h : SqT K H a xs) : SqT K H' a xs := by
  rcases h with h | h
  · exact .inl (e.rd h)
  · exact .inr h
theorem Ex.new {H : Hp} {p : Addr} {o : HO} (h : H p = none) : Ex H (upd H p o) := fun a u e => by
  rw [upd_ne (ne_of_none e h)]
  exact e
/-- the same of views -/
structure Vx (V V' : Vw) : Prop where
  h : Ex V.h V'.h
  r : V.r <+: V'.r
theorem Vx.refl (V : Vw) : Vx V V := ⟨Ex.refl _, List.prefix_refl _⟩
theorem Vx.trans {V V1 V2 : Vw} (a : Vx V V1) (b : Vx V1 V2) : Vx V V2 := ⟨a.h.trans b.h, a.r.trans b.r⟩
theorem Vx.at {V V' : Vw} (e : Vx V V') {i : Nat} {a : Addr} (h : V.r[i]? = some a) : V'.r[i]? = some a := by
  obtain ⟨t, ht⟩ := e.r
  rw [← ht, List.getElem?_append_left (List.getElem?_eq_some_iff.mp h).1]
  exact h
mutual
theorem R.mono {K : PySem.W.Frag} {H H' : Vw} (e : Vx H H') : ∀ (d : PyData) (v : V), R K H v d → R K H' v d
  | .none, _, h => by cases h; exact .non
  | .bool b, _, h => by cases h; exact .bl b
  | .int i, _, h => by cases h; exact .int i
  | .str x, _, h => by cases h; exact .str x
  | .list ds, _, h => by
    cases h with
    | lst h1 h2 => exact .lst (e.h.l h1) (RAll.mono e ds _ h2)
  | .tuple ds, _, h => by
    cases h with
    | tup h1 h2 => exact .tup (e.h _ _ h1) (RAll.mono e ds _ h2)
  | .dict kv, _, h => by
    cases h with
    | dic0 h1 => exact .dic0 (e.h _ _ h1)
    | bx h1 => exact .bx (e.at h1)
theorem RAll.mono {K : PySem.W.Frag} {H H' : Vw} (e : Vx H H') : ∀ (ds : List PyData) (vs : List V), RAll K H vs ds → RAll K H' vs ds
  | [], _, h => by cases h; exact .nil
  | d :: ds, _, h => by
    cases h with
    | cons h1 h2 => exact .cons (R.mono e d _ h1) (RAll.mono e ds _ h2)
end
theorem RAll.length {K : PySem.W.Frag} {H : Vw} : ∀ {vs : List V} {ds : List PyData}, RAll K H vs ds → vs.length = ds.length
  | _, [], h => by cases h; rfl
  | _, _ :: _, h => by
    cases h with
    | cons _ h2 => rw [List.length_cons, List.length_cons, h2.length]
theorem RAll.append {K : PySem.W.Frag} {H : Vw} : ∀ {vs ws : List V} {ds es : List PyData}, RAll K H vs ds → RAll K H ws es → RAll K H (vs ++ ws) (ds ++ es)
  | _, _, [], _, h, g => by cases h; exact g
  | _, _, _ :: _, _, h, g => by
    cases h with
    | cons h1 h2 => exact .cons h1 (h2.append g)
theorem RAll.take {K : PySem.W.Frag} {H : Vw} : ∀ (n : Nat) {vs : List V} {ds : List PyData}, RAll K H vs ds → RAll K H (vs.take n) (ds.take n)
  | 0, _, _, _ => by simp only [List.take_zero]; exact .nil
  | _ + 1, _, [], h => by cases h; exact .nil
  | n + 1, _, _ :: _, h => by
    cases h with
    | cons h1 h2 => exact .cons h1 (h2.take n)
theorem RAll.drop {K : PySem.W.Frag} {H : Vw} : ∀ (n : Nat) {vs : List V} {ds : List PyData}, RAll K H vs ds → RAll K H (vs.drop n) (ds.drop n)
  | 0, _, _, h => h
  | _ + 1, _, [], h => by cases h; exact .nil
  | n + 1, _, _ :: _, h => by
    cases h with
    | cons h1 h2 => exact h2.drop n
theorem RAll.get {K : PySem.W.Frag} {H : Vw} : ∀ {vs : List V} {ds : List PyData} (i : Nat) {d : PyData}, RAll K H vs ds → ds[i]? = some d → ∃ v, vs[i]? = some v ∧ R K H v d
  | _, [], i, d, _, e => by simp at e
  | _, _ :: _, 0, d, h, e => by
    cases h with
    | cons h1 h2 =>
      have e' := Option.some.inj e
      subst e'
      exact ⟨_, rfl, h1⟩
  | _, _ :: _, i + 1, d, h, e => by
    cases h with
    | cons h1 h2 => exact h2.get i (by simpa using e)
theorem RAll.getV {K : PySem.W.Frag} {H : Vw} : ∀ {vs : List V} {ds : List PyData} (i : Nat) {v : V}, RAll K H vs ds → vs[i]? = some v → ∃ d, ds[i]? = some d ∧ R K H v d
  | _, [], i, d, h, e => by cases h; simp at e
  | _, _ :: _, 0, d, h, e => by
    cases h with
    | cons h1 h2 =>
      have e' := Option.some.inj e
      subst e'
      exact ⟨_, rfl, h1⟩
  | _, _ :: _, i + 1, d, h, e => by
    cases h with
    | cons h1 h2 => exact h2.getV i (by simpa using e)
theorem RAll.set {K : PySem.W.Frag} {H : Vw} {v : V} {d : PyData} (r : R K H v d) : ∀ (i : Nat) {vs : List V} {ds : List PyData}, RAll K H vs ds → RAll K H (vs.set i v) (ds.set i d)
  | _, _, [], h => by cases h; exact .nil
  | 0, _, _ :: _, h => by
    cases h with
    | cons h1 h2 => exact .cons r h2
  | i + 1, _, _ :: _, h => by
    cases h with
    | cons h1 h2 => exact .cons h1 (h2.set r i)
theorem RAll.erase {K : PySem.W.Frag} {H : Vw} : ∀ (i : Nat) {vs : List V} {ds : List PyData}, RAll K H vs ds → RAll K H (vs.eraseIdx i) (ds.eraseIdx i)
  | _, _, [], h => by cases h; exact .nil
  | 0, _, _ :: _, h => by
    cases h with
    | cons h1 h2 => exact h2
  | i + 1, _, _ :: _, h => by
    cases h with
    | cons h1 h2 => exact .cons h1 (h2.erase i)
theorem RAll.reverse {K : PySem.W.Frag} {H : Vw} : ∀ {vs : List V} {ds : List PyData}, RAll K H vs ds → RAll K H vs.reverse ds.reverse
  | _, [], h => by cases h; exact .nil
  | _, _ :: _, h => by
    cases h with
    | cons h1 h2 =>
      rw [List.reverse_cons, List.reverse_cons]
      exact h2.reverse.append (.cons h1 .nil)
theorem RAll.ints {K : PySem.W.Frag} {H : Vw} : ∀ {vs : List V} {ns : List Int}, RAll K H vs (ns.map PyData.int) → vs = ns.map V.int
  | _, [], h => by cases h; rfl
  | _, n :: ns, h => by
    cases h with
    | cons h1 h2 =>
      cases h1
      rw [h2.ints]
      rfl
theorem RAll.ofInts {K : PySem.W.Frag} {H : Vw} : ∀ (ns : List Int), RAll K H (ns.map V.int) (ns.map PyData.int)
  | [] => .nil
  | n :: ns => .cons (.int n) (RAll.ofInts ns)

/-- the written part, the world, the pinned exceptions -/
structure KW where
  k : PySem.W.Frag
  w : World
  pn : List (Addr × Obj) := []
instance : Coe KW PySem.W.Frag := ⟨KW.k⟩
abbrev _root_.L2.Cx.kw (X : Cx) : KW := ⟨X.K, X.w, if X.calm then [] else X.pn⟩
/-! ### what is owned is hidden -/
/-- what is owned: all of it; the boxes among it, by their numbers -/
structure Own where
  l : List Addr
  r : List Addr := []
def hid (O : List Addr) (H : Hp) : Hp := fun b => if b ∈ O then none else H b
theorem hide_some {O : List Addr} {H : Hp} {b : Addr} {o : HO} : hid O H b = some o ↔ b ∉ O ∧ H b = some o := by
  unfold hid
  split
  · rename_i h
    exact ⟨fun z => (by cases z), fun z => absurd h z.1⟩
  · rename_i h
    exact ⟨fun z => ⟨h, z⟩, fun z => z.2⟩
theorem hid_ex (O : List Addr) (H : Hp) : Ex (hid O H) H := fun b o h => (hide_some.mp h).2
def hide (O : Own) (H : Hp) : Vw := ⟨hid O.l H, O.r⟩
/-- nothing is hidden -/
def full (O : Own) (H : Hp) : Vw := ⟨H, O.r⟩
theorem hide_ex (O : Own) (H : Hp) : Vx (hide O H) (full O H) := ⟨hid_ex _ _, List.prefix_refl _⟩
/-- from owned places O over H to owned places O' over H': what was to be seen is to be seen -/
abbrev Ext (O : Own) (H : Hp) (O' : Own) (H' : Hp) : Prop := Vx (hide O H) (hide O' H')
theorem Ext.refl (O : Own) (H : Hp) : Ext O H O H := Vx.refl _
def Own.put (O : Own) (p : Addr) : Own := ⟨p :: O.l, O.r⟩
def Own.del (O : Own) (p : Addr) : Own := ⟨O.l.filter fun b => decide (b ≠ p), O.r⟩
theorem Own.mem_del {O : Own} {b p : Addr} : b ∈ (O.del p).l ↔ b ∈ O.l ∧ b ≠ p := by simp [Own.del]

/-! ### exceptions -/
/-- an exception: its class's name, its fields -/
structure Exc where
  cls : Str
  fs : List (Str × PyData) := []
/-- where the class of that name stands -/
def clsA (K : PySem.W.Frag) (x : Str) : Addr := match PySem.W.nsIn K mainGlobals x with
  | some (some (.ref a)) => a
  | _ => 0

/-! ### the abstract state -/
inductive Sl where
  | un
  | dat (d : PyData)
  | lst (ds : List PyData)
  | dk (kvs : List (Key × PyData))
  | dt (kvs : List (List Key × PyData))
  | st (is : List Int)
  | ob (C : Str) (fs : List (Str × PyData))
  | exc (e : Exc)
  | bxs (bs : List Sl)
abbrev AEnv := List Sl
def Sl.owned : Sl → Bool
  | .un => false
  | .dat _ => false
  | .exc _ => false
  | .bxs _ => false
  | _ => true
def Sl.isB : Sl → Bool
  | .bxs _ => true
  | _ => false
def RK (K : PySem.W.Frag) (H : Vw) {κ : Type} : List (κ × V) → List (κ × PyData) → Prop := Paired fun p q => p.1 = q.1 ∧ R K H p.2 q.2
theorem RK.mono {K : PySem.W.Frag} {H H' : Vw} {κ : Type} (e : Vx H H') {xs : List (κ × V)} {ys : List (κ × PyData)} (h : RK K H xs ys) : RK K H' xs ys := Paired.mapP h fun _ _ z => ⟨z.1, R.mono e _ _ z.2⟩
/-- what stands at an owned place p -/
def Cont (K : KW) (H : Vw) (p : Addr) : HO → Sl → Prop
  | .lst vs, .lst ds => RAll K H vs ds
  | .dK kvs, .dk ds => RK K H kvs ds
  | .dT kvs, .dt ds => RK K H kvs ds
  | .ins C _ vs, .ob x fs => C = clsA K.k x ∧ RK K H vs fs
  | .ext φ, .st is => ∃ S n, HO.ext φ = SetO K.w p S n ∧ is.Nodup ∧ n = is.length ∧ ∀ i, S i = decide (i ∈ is)
  | _, _ => False
theorem Cont.mono {K : KW} {H H' : Vw} {p : Addr} (e : Vx H H') : ∀ {o : HO} {s : Sl}, Cont K H p o s → Cont K H' p o s := by
  intro o s h
  cases o <;> cases s <;> first | exact h.elim | exact RAll.mono e _ _ h | exact RK.mono e h | exact ⟨h.1, RK.mono e h.2⟩ | exact h
theorem Cont.mut {K : KW} {H : Vw} {p : Addr} {o : HO} {s : Sl} (h : Cont K H p o s) : s.owned = true := by
  cases o <;> cases s <;> first | exact h.elim | rfl
theorem Cont.inv_lst {K : KW} {H : Vw} {p : Addr} {o : HO} {ds : List PyData} (h : Cont K H p o (.lst ds)) : ∃ vs, o = .lst vs ∧ RAll K H vs ds := by
  cases o <;> first | exact h.elim | exact ⟨_, rfl, h⟩
theorem Cont.inv_dk {K : KW} {H : Vw} {p : Addr} {o : HO} {ds : List (Key × PyData)} (h : Cont K H p o (.dk ds)) : ∃ vs, o = .dK vs ∧ RK K H vs ds := by
  cases o <;> first | exact h.elim | exact ⟨_, rfl, h⟩
theorem Cont.inv_dt {K : KW} {H : Vw} {p : Addr} {o : HO} {ds : List (List Key × PyData)} (h : Cont K H p o (.dt ds)) : ∃ vs, o = .dT vs ∧ RK K H vs ds := by
  cases o <;> first | exact h.elim | exact ⟨_, rfl, h⟩
theorem Cont.inv_ob {K : KW} {H : Vw} {p : Addr} {o : HO} {x : Str} {fs : List (Str × PyData)} (h : Cont K H p o (.ob x fs)) : ∃ dx vs, o = .ins (clsA K.k x) dx vs ∧ RK K H vs fs := by
  cases o <;> first | exact h.elim | (obtain ⟨rfl, h⟩ := h; exact ⟨_, _, rfl, h⟩)
theorem Cont.inv_st {K : KW} {H : Vw} {p : Addr} {o : HO} {is : List Int} (h : Cont K H p o (.st is)) : ∃ S n, o = SetO K.w p S n ∧ is.Nodup ∧ n = is.length ∧ ∀ i, S i = decide (i ∈ is) := by
  cases o <;> first | exact h.elim | (obtain ⟨S, n, e, h⟩ := h; exact ⟨S, n, e, h⟩)
/-- an exception stands at a: pinned or tracked -/
def ZE (K : KW) (e : Exc) (d : Option Addr) (oe : Obj) : Prop := L2N.Zn (.ref (clsA K.k e.cls)) d oe ∧ ∃ vs, oe.data = .fields vs
def ExAt (K : KW) (H : Vw) (a : Addr) (e : Exc) : Prop := ∃ d, ((∃ oe, (a, oe) ∈ K.pn ∧ ZE K e d oe) ∨ ∃ oe, H.h a = some (.ext fun h => h.get? a = some oe) ∧ ZE K e d oe) ∧ ((e.fs = [] ∧ d = none) ∨ ∃ p vs, d = some p ∧ H.h p = some (.xd vs) ∧ RK K H vs e.fs ∧ e.fs ≠ [])
theorem ExAt.mono {K : KW} {H H' : Vw} {a : Addr} {e : Exc} (x : Vx H H') (h : ExAt K H a e) : ExAt K H' a e := by
  obtain ⟨d, h1, h2⟩ := h
  refine ⟨d, h1.imp id fun ⟨oe, q, z⟩ => ⟨oe, x.h _ _ q, z⟩, h2.imp id fun ⟨p, vs, q1, q2, q3, q4⟩ => ⟨p, vs, q1, x.h _ _ q2, q3.mono x, q4⟩⟩
/-- one slot -/
def SlR (K : KW) (O : Own) (H : Hp) (x : Option V) : Sl → Prop
  | .un => True
  | .dat d => ∃ v, x = some v ∧ R K (hide O H) v d
  | .exc e => ∃ a, x = some (.ref a) ∧ ExAt K (hide O H) a e
  | .bxs _ => False
  | s => ∃ p ho, x = some (.ref p) ∧ p ∈ O.l ∧ H p = some ho ∧ Cont K (hide O H) p ho s
theorem SlR.own {K : KW} {O : Own} {H : Hp} {x : Option V} {s : Sl} (hs : s.owned = true) : SlR K O H x s ↔ ∃ p ho, x = some (.ref p) ∧ p ∈ O.l ∧ H p = some ho ∧ Cont K (hide O H) p ho s := by
  cases s <;> first | (exfalso; revert hs; decide) | exact Iff.rfl | (exfalso; simp [Sl.owned] at hs)
/-- to another state: what is seen stays, an owned place's thing stays -/
theorem SlR.imp {K : KW} {O O' : Own} {H H' : Hp} {x : Option V} {s : Sl} (e : Ext O H O' H') (h : SlR K O H x s) (own : s.owned = true → ∀ p ho, x = some (.ref p) → p ∈ O.l → H p = some ho → p ∈ O'.l ∧ H' p = some ho) : SlR K O' H' x s := by
  cases hs : s.owned with
  | true =>
    obtain ⟨p, ho, e1, m, hp, c⟩ := (SlR.own hs).mp h
    obtain ⟨m', hp'⟩ := own hs p ho e1 m hp
    exact (SlR.own hs).mpr ⟨p, ho, e1, m', hp', c.mono e⟩
  | false =>
    cases s with
    | un => trivial
    | dat d =>
      obtain ⟨v, e1, r⟩ := h
      exact ⟨v, e1, R.mono e _ _ r⟩
    | exc x =>
      obtain ⟨v, e1, r⟩ := h
      exact ⟨v, e1, r.mono e⟩
    | bxs _ => exact h.elim
    | _ => exact absurd hs (by simp [Sl.owned])
/-- the boxes -/
structure Bxs (K : KW) (O : Own) (H : Hp) (bs : List Sl) : Prop where
  len : bs.length = O.r.length
  at_ : ∀ (i : Nat) (p : Addr) (s : Sl), O.r[i]? = some p → bs[i]? = some s → ∃ ho, H p = some ho ∧ Cont K (hide O H) p ho s
/-- the ground: what must stay, the place of an in-out first parameter; opn: the boxes are at hand, in the last place -/
structure Gd where
  B : Hp
  X : List Addr := []
  anc : Option Addr := none
  gh : List (Addr × Sl) := []
  opn : Bool := false
  rc : List Addr := []
def Gd.push (G : Gd) (p : Addr) (s : Sl) : Gd := { G with gh := (p, s) :: G.gh }
/-- what is known of the boxes -/
structure Rr (K : KW) (G : Gd) (O : Own) (σ : St) (H : Hp) (a : AEnv) : Prop where
  sub : ∀ p ∈ O.r, p ∈ O.l
  nd : O.r.Nodup
  sl : ∀ (i : Nat) (s : Sl) (p : Addr), a[i]? = some s → s.owned = true → σ[i]? = some (some (.ref p)) → p ∉ O.r
  gh : ∀ p s, (p, s) ∈ G.gh → p ∉ O.r
  bs : G.opn = true → ∃ bs, a[σ.length]? = some (.bxs bs) ∧ Bxs K O H bs
  bB : G.opn = true → ∀ p ∈ O.r, G.B p = none
  rc : G.opn = false → O.r = G.rc
structure SR (K : KW) (G : Gd) (O : Own) (σ : St) (H : Hp) (a : AEnv) : Prop where
  ex : Ex G.B H
  xs : ∀ p ∈ G.X, p ∈ O.l ∧ ∃ o, G.B p = some o
  th : ∀ p ∈ O.l, ∃ o, H p = some o
  len : a.length = σ.length + if G.opn = true then 1 else 0
  sl : ∀ (i : Nat) (s : Sl) (x : Option V), a[i]? = some s → σ[i]? = some x → SlR K O H x s
  inj : ∀ (i j : Nat) (p : Addr) (s t : Sl), i ≠ j → a[i]? = some s → a[j]? = some t → s.owned = true → t.owned = true → σ[i]? = some (some (.ref p)) → σ[j]? = some (some (.ref p)) → False
  anc : ∀ p, G.anc = some p → ∀ s, a[0]? = some s → s.owned = true → σ[0]? = some (some (.ref p))
  fr : ∀ (i : Nat) (s : Sl) (p : Addr), a[i]? = some s → s.owned = true → σ[i]? = some (some (.ref p)) → G.B p = none
  gh : ∀ p s, (p, s) ∈ G.gh → (p ∈ O.l ∧ G.B p = none) ∧ (∃ ho, H p = some ho ∧ Cont K (hide O H) p ho s) ∧ ∀ (i : Nat) t, a[i]? = some t → t.owned = true → σ[i]? ≠ some (some (.ref p))
  ghn : (G.gh.map (·.1)).Nodup
  rr : Rr K G O σ H a
/-- the state's boxes are as they were -/
theorem Rr.to {K : KW} {G : Gd} {O O' : Own} {σ : St} {H H' : Hp} {a : AEnv} (R1 : Rr K G O σ H a) (e : Ext O H O' H') (er : O'.r = O.r) (sub : ∀ p ∈ O.r, p ∈ O'.l) (hb : ∀ p ∈ O.r, ∀ o, H p = some o → H' p = some o) : Rr K G O' σ H' a := by
  refine ⟨fun p hp => sub p (er ▸ hp), er ▸ R1.nd, fun i s p h1 h2 h3 => er ▸ R1.sl i s p h1 h2 h3, fun p s h => er ▸ R1.gh p s h, fun ho => ?_, fun ho p hp => R1.bB ho p (er ▸ hp), fun ho => er.trans (R1.rc ho)⟩
  obtain ⟨bs, h1, h2⟩ := R1.bs ho
  refine ⟨bs, h1, by rw [er]; exact h2.len, fun i p s hp hs => ?_⟩
  rw [er] at hp
  obtain ⟨o, q, c⟩ := h2.at_ i p s hp hs
  exact ⟨o, hb p (List.mem_of_getElem? hp) o q, c.mono e⟩
section
variable {K : KW} {G : Gd} {O O' : Own} {σ : St} {H H' : Hp} {a : AEnv}
theorem SR.lt (I : SR K G O σ H a) {i : Nat} {s : Sl} (h : a[i]? = some s) (hb : s.isB = false) : i < σ.length := by
  have hi := (List.getElem?_eq_some_iff.mp h).1
  have hl := I.len
  by_cases ho : G.opn = true
  · rw [if_pos ho] at hl
    by_cases e : i = σ.length
    · obtain ⟨bs, q, _⟩ := I.rr.bs ho
      rw [e, q] at h
      cases h
      cases hb
    · omega
  · rw [if_neg ho] at hl
    omega
theorem SR.x (I : SR K G O σ H a) {i : Nat} {s : Sl} (h : a[i]? = some s) (hb : s.isB = false) : ∃ x, σ[i]? = some x ∧ SlR K O H x s := by
  have hi := I.lt h hb
  exact ⟨σ[i], by simp [hi], I.sl i s _ h (by simp [hi])⟩
theorem SR.dat (I : SR K G O σ H a) {i : Nat} {d : PyData} (h : a[i]? = some (.dat d)) : ∃ v, σ[i]? = some (some v) ∧ R K (hide O H) v d := by
  obtain ⟨x, e, v, rfl, r⟩ := I.x h rfl
  exact ⟨v, e, r⟩
theorem Sl.notB {s : Sl} (hs : s.owned = true) : s.isB = false := by cases s <;> first | rfl | (simp [Sl.owned] at hs)
theorem SR.own (I : SR K G O σ H a) {i : Nat} {s : Sl} (h : a[i]? = some s) (hs : s.owned = true) : ∃ p ho, σ[i]? = some (some (.ref p)) ∧ p ∈ O.l ∧ H p = some ho ∧ Cont K (hide O H) p ho s := by
  obtain ⟨x, e, q⟩ := I.x h (Sl.notB hs)
  obtain ⟨p, ho, rfl, q2⟩ := (SlR.own hs).mp q
  exact ⟨p, ho, e, q2⟩
theorem ext_grow (e : Ex H H') : Ext O H O H' := ⟨fun b o h => by
  obtain ⟨h1, h2⟩ := hide_some.mp h
  exact hide_some.mpr ⟨h1, e _ _ h2⟩, List.prefix_refl _⟩
/-- the heap grows, the owned places stay as they are -/
theorem SR.grow (I : SR K G O σ H a) (e : Ex H H') : SR K G O σ H' a := by
  have eh : Ext O H O H' := ext_grow e
  refine ⟨I.ex.trans e, I.xs, fun p hp => (I.th p hp).elim fun o ho => ⟨o, e _ _ ho⟩, I.len, fun i s x h1 h2 => ?_, I.inj, I.anc, I.fr, fun p s hp => (I.gh p s hp).imp id fun z => z.imp (fun ⟨ho, h1, h2⟩ => ⟨ho, e _ _ h1, h2.mono eh⟩) id, I.ghn, I.rr.to eh rfl I.rr.sub fun p hp o q => e _ _ q⟩
  exact (I.sl i s x h1 h2).imp eh fun _ p ho _ m hp => ⟨m, e _ _ hp⟩
end

/-! ### mirrors -/
abbrev M (α : Type) := AEnv → Option (Except Exc α × AEnv)
namespace M
def pure {α : Type} (x : α) : M α := fun a => some (.ok x, a)
def bind {α β : Type} (m : M α) (f : α → M β) : M β := fun a => match m a with
  | none => none
  | some (.error e, a1) => some (.error e, a1)
  | some (.ok r, a1) => f r a1
def fail {α : Type} : M α := fun _ => none
def raise {α : Type} (e : Exc) : M α := fun a => some (.error e, a)
def of {α : Type} (o : Option α) : M α := fun a => match o with
  | none => none
  | some x => some (.ok x, a)
def get : M AEnv := fun a => some (.ok a, a)
def map {α β : Type} (f : α → β) (m : M α) : M β := bind m fun x => pure (f x)
end M

/-- the wish of exceptions, with fields -/
def ExcR (K : KW) (O : Own) (H : Hp) (d : Option Addr) (e : Exc) : Prop :=
  (e.fs = [] ∧ d = none) ∨ (∃ p vs, d = some p ∧ p ∉ O.l ∧ H p = some (.xd vs) ∧ RK K (hide O H) vs e.fs ∧ e.fs ≠ [])
/-- the wish of exceptions; whether the boxes are at hand -/
structure WB where
  f : WX
  opn : Bool := false

section
variable {ν α β : Type}
/-- the relation of a result: ground, owned places, slots, heap, abstract state, value, mirror's value -/
abbrev RRel (ν α : Type) := Gd → Own → St → Hp → AEnv → ν → α → Prop
def Fin (K : KW) (W : WB) (RR : RRel ν α) (G : Gd) (O : Own) (σ : St) (H : Hp) (x : Except Exc α × AEnv) (Q : ν → Hp → Prop) : Prop := match x with
  | (.ok r, a') => ∀ O' H' v, SR K G O' σ H' a' → Ext O H O' H' → RR G O' σ H' a' v r → Q v H'
  | (.error e, a') => ∀ O' H' d, SR K G O' σ H' a' → Ext O H O' H' → ExcR K O' H' d e → W.f (.ref (clsA K.k e.cls)) d σ H'
structure At (K : KW) (W : WB) (RR : RRel ν α) (m : M α) (G : Gd) (O : Own) (a : AEnv) (σ : St) (H : Hp) (Q : ν → Hp → Prop) : Prop where
  sr : SR K G O σ H a
  op : W.opn = true → G.opn = true
  go : ∃ x, m a = some x ∧ Fin K W RR G O σ H x Q
/-- the reading of a mirror -/
def tM (K : KW) (W : WB) (RR : RRel ν α) (m : M α) : St → Hp → (ν → Hp → Prop) → Prop := fun σ H Q => ∃ G O a, At K W RR m G O a σ H Q
end
section
variable {ν μ α β : Type} {K : KW} {W : WB} {RR : RRel ν α} {RS : RRel μ β} {m : M α} {f : α → M β} {G : Gd} {O : Own} {a : AEnv} {σ : St} {H : Hp} {Q : μ → Hp → Prop} {Q1 : ν → Hp → Prop}
theorem At.bind (h : At K W RS (M.bind m f) G O a σ H Q)
    (k : ∀ O1 H1 a1 v r, SR K G O1 σ H1 a1 → Ext O H O1 H1 → RR G O1 σ H1 a1 v r → At K W RS (f r) G O1 a1 σ H1 Q → Q1 v H1) : At K W RR m G O a σ H Q1 := by
  obtain ⟨I, op, x, e, F⟩ := h
  refine ⟨I, op, ?_⟩
  unfold M.bind at e
  cases em : m a with
  | none => rw [em] at e; cases e
  | some y =>
    refine ⟨y, rfl, ?_⟩
    obtain ⟨y1, a1⟩ := y
    rw [em] at e
    cases y1 with
    | error er =>
      have e' : (Except.error er, a1) = x := Option.some.inj e
      subst e'
      exact F
    | ok r =>
      have e' : f r a1 = some x := e
      show ∀ O' H' v, SR K G O' σ H' a1 → Ext O H O' H' → RR G O' σ H' a1 v r → Q1 v H'
      intro O1 H1 v I1 e1 r1
      refine k O1 H1 a1 v r I1 e1 r1 ⟨I1, op, x, e', ?_⟩
      obtain ⟨x1, a2⟩ := x
      cases x1 with
      | error er => exact fun O' H' d I' e2 q => F O' H' d I' (e1.trans e2) q
      | ok r2 => exact fun O' H' v I' e2 q => F O' H' v I' (e1.trans e2) q
theorem At.pure {r : β} (h : At K W RS (M.pure r) G O a σ H Q) {v : μ} (q : RS G O σ H a v r) : Q v H := by
  obtain ⟨I, op, x, e, F⟩ := h
  have e' : (Except.ok r, a) = x := Option.some.inj e
  subst e'
  exact F O H v I (Ext.refl _ _) q
/-- the same where the heap has grown -/
theorem At.pureG {H' : Hp} {r : β} (h : At K W RS (M.pure r) G O a σ H Q) (eh : Ex H H') {v : μ} (q : RS G O σ H' a v r) : Q v H' := by
  obtain ⟨I, op, x, e, F⟩ := h
  have e' : (Except.ok r, a) = x := Option.some.inj e
  subst e'
  exact F O H' v (I.grow eh) (ext_grow eh) q
theorem At.of {o : Option β} (h : At K W RS (M.of o) G O a σ H Q) : ∃ r, o = some r ∧ At K W RS (M.pure r) G O a σ H Q := by
  obtain ⟨I, op, x, e, F⟩ := h
  cases o with
  | none => cases e
  | some r => exact ⟨r, rfl, I, op, x, e, F⟩
theorem At.ofB {γ : Type} {o : Option γ} {f : γ → M β} (h : At K W RS (M.bind (M.of o) f) G O a σ H Q) : ∃ r, o = some r ∧ At K W RS (f r) G O a σ H Q := by
  obtain ⟨I, op, x, e, F⟩ := h
  cases o with
  | none => cases e
  | some r => exact ⟨r, rfl, I, op, x, e, F⟩
theorem At.getB {f : AEnv → M β} (h : At K W RS (M.bind M.get f) G O a σ H Q) : At K W RS (f a) G O a σ H Q := by
  obtain ⟨I, op, x, e, F⟩ := h
  exact ⟨I, op, x, e, F⟩
theorem At.pureB {γ : Type} {o : γ} {f : γ → M β} (h : At K W RS (M.bind (M.pure o) f) G O a σ H Q) : At K W RS (f o) G O a σ H Q := by
  obtain ⟨I, op, x, e, F⟩ := h
  exact ⟨I, op, x, e, F⟩
theorem At.go' (h : At K W RR m G O a σ H Q1) : tM K W RR m σ H Q1 := ⟨G, O, a, h⟩
end

/-! ### the results' relations -/
/-- data -/
def RD (K : KW) : RRel V PyData := fun _ O _ H _ v d => R K (hide O H) v d
/-- a new owned thing -/
def RN (K : KW) : RRel V Sl := fun G O σ H a v s => s.owned = true ∧ (∃ p ho, v = .ref p ∧ p ∈ O.l ∧ H p = some ho ∧ Cont K (hide O H) p ho s ∧ (∀ (i : Nat) t, a[i]? = some t → t.owned = true → σ[i]? ≠ some (some (.ref p))) ∧ (∀ t, (p, t) ∉ G.gh) ∧ G.B p = none ∧ p ∉ O.r)
/-- data, a new thing, an exception -/
def RS (K : KW) : RRel V Sl := fun G O σ H a v s => (∃ d, s = .dat d ∧ R K (hide O H) v d) ∨ RN K G O σ H a v s ∨ ∃ e p, s = .exc e ∧ v = .ref p ∧ ExAt K (hide O H) p e
/-- a handle: what is read when it is used; data, or a slot's own list -/
def RP (K : KW) (O : Own) (H : Hp) (v : V) (d : PyData) : Prop := R K (hide O H) v d ∨ ∃ p vs ds, v = .ref p ∧ d = .list ds ∧ SqL K H p vs ∧ RAll K (hide O H) vs ds
abbrev Hn := AEnv → Option PyData
def RH (K : KW) : RRel V Hn := fun G O σ H _ v h => ∀ O' H' a' d, SR K G O' σ H' a' → Ext O H O' H' → h a' = some d → RP K O' H' v d
/-- lists of these -/
def RDs (K : KW) : RRel (List V) (List PyData) := fun _ O _ H _ vs ds => RAll K (hide O H) vs ds
def RHs (K : KW) : RRel (List V) (List Hn) := fun G O σ H a vs hs => Paired (fun v h => RH K G O σ H a v h) vs hs
def RB : RRel Bool Bool := fun _ _ _ _ _ b c => b = c
theorem RP.full {K : KW} {O : Own} {H : Hp} {v : V} {d : PyData} (h : RP K O H v d) : R K (full O H) v d := by
  rcases h with h | ⟨p, vs, ds, rfl, rfl, h1, h2⟩
  · exact R.mono (hide_ex O H) _ _ h
  · exact .lst h1 (RAll.mono (hide_ex O H) _ _ h2)
theorem RP.lst {K : KW} {O : Own} {H : Hp} {v : V} {ds : List PyData} (h : RP K O H v (.list ds)) : ∃ p vs, v = .ref p ∧ SqL K H p vs ∧ RAll K (hide O H) vs ds := by
  rcases h with h | ⟨p, vs, ds', rfl, e, h1, h2⟩
  · cases h with
    | lst h1 h2 => exact ⟨_, _, rfl, (hide_ex O H).h.l h1, h2⟩
  · cases e
    exact ⟨p, vs, rfl, h1, h2⟩
theorem RP.tup {K : KW} {O : Own} {H : Hp} {v : V} {ds : List PyData} (h : RP K O H v (.tuple ds)) : ∃ p vs, v = .ref p ∧ SqT K H p vs ∧ RAll K (hide O H) vs ds := by
  rcases h with h | ⟨p, vs, ds', rfl, e, h1, h2⟩
  · cases h with
    | tup h1 h2 => exact ⟨_, _, rfl, SqT.of ((hide_ex O H).h _ _ h1), h2⟩
  · cases e
theorem RP.tupH {K : KW} {O : Own} {H : Hp} {v : V} {ds : List PyData} (h : RP K O H v (.tuple ds)) : ∃ p vs, v = .ref p ∧ H p = some (.tup vs) ∧ p ∉ O.l ∧ RAll K (hide O H) vs ds := by
  rcases h with h | ⟨p, vs, ds', rfl, e, h1, h2⟩
  · cases h with
    | tup h1 h2 => exact ⟨_, _, rfl, (hide_some.mp h1).2, (hide_some.mp h1).1, h2⟩
  · cases e
theorem RP.int {K : KW} {O : Own} {H : Hp} {v : V} {i : Int} (h : RP K O H v (.int i)) : v = .int i := by
  rcases h with h | ⟨p, vs, ds', rfl, e, h1, h2⟩
  · cases h; rfl
  · cases e
theorem RP.bl {K : KW} {O : Own} {H : Hp} {v : V} {i : Bool} (h : RP K O H v (.bool i)) : v = .bl i := by
  rcases h with h | ⟨p, vs, ds', rfl, e, h1, h2⟩
  · cases h; rfl
  · cases e
theorem RP.str {K : KW} {O : Own} {H : Hp} {v : V} {i : Str} (h : RP K O H v (.str i)) : v = .str i := by
  rcases h with h | ⟨p, vs, ds', rfl, e, h1, h2⟩
  · cases h; rfl
  · cases e
theorem RP.non {K : KW} {O : Own} {H : Hp} {v : V} (h : RP K O H v .none) : v = .non := by
  rcases h with h | ⟨p, vs, ds', rfl, e, h1, h2⟩
  · cases h; rfl
  · cases e

/-! ### the judgements -/
abbrev PD (X : Cx) (W : WB) (e : Expr) (m : M PyData) : Prop := PE X e (tM X.kw W (RD X.kw) m)
abbrev PX (X : Cx) (W : WB) (e : Expr) (m : M Sl) : Prop := PE X e (tM X.kw W (RS X.kw) m)
abbrev PH (X : Cx) (W : WB) (e : Expr) (m : M Hn) : Prop := PE X e (tM X.kw W (RH X.kw) m)
abbrev PDs (X : Cx) (W : WB) (es : List Expr) (m : M (List PyData)) : Prop := PA X es (tM X.kw W (RDs X.kw) m)
abbrev PHs (X : Cx) (W : WB) (es : List Expr) (m : M (List Hn)) : Prop := PA X es (tM X.kw W (RHs X.kw) m)
abbrev PB (X : Cx) (W : WB) (e : Expr) (m : M Bool) : Prop := PT X e (tM X.kw W RB m)

theorem PE.imp {X : Cx} {e : Expr} {t u : TE} (h : PE X e t) (k : ∀ σ H Q, u σ H Q → t σ H Q) : PE X e u := ⟨fun pins s σ H Q I q => h.run pins s σ H Q I (k σ H Q q)⟩
theorem PA.imp {X : Cx} {e : List Expr} {t u : TA} (h : PA X e t) (k : ∀ σ H Q, u σ H Q → t σ H Q) : PA X e u := ⟨fun pos pins s σ H Q I q => h.run pos pins s σ H Q I (k σ H Q q)⟩
theorem PT.imp {X : Cx} {e : Expr} {t u : TT} (h : PT X e t) (k : ∀ σ H Q, u σ H Q → t σ H Q) : PT X e u := ⟨fun pins s σ H Q I q => h.run pins s σ H Q I (k σ H Q q)⟩
theorem PS.imp {X : Cx} {e : Stmt} {t u : TS} (h : PS X e t) (k : ∀ D σ H, u D σ H → t D σ H) : PS X e u := ⟨fun pins s σ H Q I q => h.run pins s σ H Q I (k Q σ H q)⟩
theorem PSs.imp {X : Cx} {e : List Stmt} {t u : TS} (h : PSs X e t) (k : ∀ D σ H, u D σ H → t D σ H) : PSs X e u := ⟨fun pins s σ H Q I q => h.run pins s σ H Q I (k Q σ H q)⟩

/-! ### from one to the other -/
section
variable {X : Cx} {W : WB} {e : Expr}
theorem ext_letgo {O : Own} {H : Hp} {p : Addr} : Ext O H (O.del p) H := ⟨fun b o q => by
  obtain ⟨h1, h2⟩ := hide_some.mp q
  exact hide_some.mpr ⟨fun z => h1 (Own.mem_del.mp z).1, h2⟩, List.prefix_refl _⟩
/-- a new thing that nobody owns any more becomes data -/
theorem SR.letgo {K : KW} {G : Gd} {O : Own} {σ : St} {H : Hp} {a : AEnv} (I : SR K G O σ H a) {p : Addr} (h : ∀ (i : Nat) t, a[i]? = some t → t.owned = true → σ[i]? ≠ some (some (.ref p))) (hg : ∀ s, (p, s) ∉ G.gh) (hB : G.B p = none) (hr : p ∉ O.r) :
    SR K G (O.del p) σ H a := by
  refine ⟨I.ex, fun b hb => ⟨Own.mem_del.mpr ⟨(I.xs b hb).1, fun e => (by obtain ⟨o, z⟩ := (I.xs b hb).2; rw [e, hB] at z; cases z)⟩, (I.xs b hb).2⟩, fun b hb => I.th b (Own.mem_del.mp hb).1, I.len, fun i s x h1 h2 => ?_, I.inj, I.anc, I.fr,
    fun b s hb => (I.gh b s hb).imp (fun z => ⟨Own.mem_del.mpr ⟨z.1, fun e => hg s (e ▸ hb)⟩, z.2⟩) fun z => z.imp (fun ⟨ho, h1, h2⟩ => ⟨ho, h1, h2.mono ext_letgo⟩) id, I.ghn, I.rr.to ext_letgo rfl (fun q hq => Own.mem_del.mpr ⟨I.rr.sub q hq, fun e => hr (e ▸ hq)⟩) fun q _ o z => z⟩
  refine (I.sl i s x h1 h2).imp ext_letgo fun hs q ho e1 m hp => ⟨Own.mem_del.mpr ⟨m, fun z => ?_⟩, hp⟩
  exact h i s h1 hs (by rw [h2, e1, z])
/-- a new list as data -/
def frz : Sl → Option PyData
  | .dat d => some d
  | .lst ds => some (.list ds)
  | .dk [] => some (.dict [])
  | _ => none
def mFrz (m : M Sl) : M PyData := M.bind m fun s => M.of (frz s)
theorem pd_x {m : M Sl} (h : PX X W e m) : PD X W e (mFrz m) := by
  refine PE.imp h fun σ H Q ⟨G, O, a, q⟩ => ⟨G, O, a, q.bind (RR := RS X.kw) fun O1 H1 a1 v s I1 e1 r1 q1 => ?_⟩
  obtain ⟨d, hd, q2⟩ := q1.of
  rcases r1 with ⟨d', rfl, r⟩ | ⟨hs, p, ho, rfl, hm, hp, c, nb, ng, nB, nr⟩ | ⟨e, p, rfl, _⟩
  · cases hd
    exact q2.pure r
  · obtain ⟨I2, op, x, ex, F⟩ := q2
    have ex' : (Except.ok d, a1) = x := Option.some.inj ex
    subst ex'
    refine F (O1.del p) H1 (.ref p) (SR.letgo I1 nb ng nB nr) ext_letgo ?_
    have np : p ∉ (O1.del p).l := fun z => (Own.mem_del.mp z).2 rfl
    cases s with
    | lst ds =>
      obtain ⟨vs, rfl, r⟩ := c.inv_lst
      cases hd
      exact .lst (SqL.of (hide_some.mpr ⟨np, hp⟩)) (RAll.mono ext_letgo _ _ r)
    | dk kvs =>
      obtain ⟨vs, rfl, r⟩ := c.inv_dk
      cases kvs with
      | nil =>
        cases r
        cases hd
        exact .dic0 (hide_some.mpr ⟨np, hp⟩)
      | cons _ _ => cases hd
    | dat d => cases hs
    | un => cases hs
    | _ => cases hd
  · cases hd
def mX (m : M PyData) : M Sl := M.map Sl.dat m
theorem px_d {m : M PyData} (h : PD X W e m) : PX X W e (mX m) := by
  refine PE.imp h fun σ H Q ⟨G, O, a, q⟩ => ⟨G, O, a, q.bind (RR := RD X.kw) fun O1 H1 a1 v d I1 e1 r1 q1 => ?_⟩
  exact q1.pure (v := v) (.inl ⟨d, rfl, r1⟩)
def mH (m : M PyData) : M Hn := M.map (fun d _ => some d) m
theorem ph_d {m : M PyData} (h : PD X W e m) : PH X W e (mH m) := by
  refine PE.imp h fun σ H Q ⟨G, O, a, q⟩ => ⟨G, O, a, q.bind (RR := RD X.kw) fun O1 H1 a1 v d I1 e1 r1 q1 => ?_⟩
  exact q1.pure (v := v) fun O2 H2 a2 d2 I2 e2 h2 => by
    cases h2
    exact .inl (R.mono e2 _ _ r1)
theorem ph_x {m : M Sl} (h : PX X W e m) : PH X W e (mH (mFrz m)) := ph_d (pd_x h)
end

/-! ### what an operation upon values gives -/
/-- data, or a new thing at a new place -/
def Out (K : KW) (O : Own) (H : Hp) (s : Sl) (Q : VK) : Prop := match s with
  | .dat d => ∀ H' v, Ex H H' → R K (hide O H') v d → Q v H'
  | .exc e => ∀ H' p, Ex H H' → ExAt K (hide O H') p e → Q (.ref p) H'
  | s => ∀ H' p ho, Ex H H' → H p = none → H' p = some ho → Cont K (hide O H) p ho s → Q (.ref p) H'
theorem Out.new {K : KW} {O : Own} {H H' : Hp} {s : Sl} {Q : VK} (h : Out K O H s Q) {p : Addr} {ho : HO} (e : Ex H H') (np : H p = none) (hp : H' p = some ho) (c : Cont K (hide O H) p ho s) : Q (.ref p) H' := by
  cases s with
  | dat d => exact absurd c.mut (by simp [Sl.owned])
  | exc d => exact absurd c.mut (by simp [Sl.owned])
  | _ => exact h H' p ho e np hp c
section
variable {K : KW} {W : WB} {G : Gd} {O : Own} {a : AEnv} {σ : St} {H H' : Hp} {Q : VK}
theorem ext_take (th : ∀ p ∈ O.l, ∃ o, H p = some o) {p : Addr} (e : Ex H H') (np : H p = none) : Ext O H (O.put p) H' := ⟨fun b o q => by
  obtain ⟨h1, h2⟩ := hide_some.mp q
  exact hide_some.mpr ⟨fun z => (List.mem_cons.mp z).elim (fun z => by rw [z, np] at h2; cases h2) h1, e _ _ h2⟩, List.prefix_refl _⟩
theorem SR.notin (I : SR K G O σ H a) {p : Addr} (np : H p = none) : p ∉ O.l := fun z => by
  obtain ⟨o, ho⟩ := I.th p z
  rw [np] at ho
  cases ho
/-- a new thing is taken among the owned -/
theorem SR.take (I : SR K G O σ H a) {p : Addr} {ho : HO} (e : Ex H H') (np : H p = none) (hp : H' p = some ho) : SR K G (O.put p) σ H' a := by
  have eh : Ext O H (O.put p) H' := ext_take I.th e np
  refine ⟨I.ex.trans e, fun b hb => ⟨List.mem_cons_of_mem _ (I.xs b hb).1, (I.xs b hb).2⟩, fun b hb => ?_, I.len, fun i s x h1 h2 => ?_, I.inj, I.anc, I.fr,
    fun b s hb => (I.gh b s hb).imp (fun z => ⟨List.mem_cons_of_mem _ z.1, z.2⟩) fun z => z.imp (fun ⟨ho, h1, h2⟩ => ⟨ho, e _ _ h1, h2.mono eh⟩) id, I.ghn, I.rr.to eh rfl (fun q hq => List.mem_cons_of_mem _ (I.rr.sub q hq)) fun q _ o z => e _ _ z⟩
  · rcases List.mem_cons.mp hb with rfl | hb
    · exact ⟨ho, hp⟩
    · exact (I.th b hb).elim fun o q => ⟨o, e _ _ q⟩
  · exact (I.sl i s x h1 h2).imp eh fun _ q ho _ m hq => ⟨List.mem_cons_of_mem _ m, e _ _ hq⟩
/-- what is new at a new place -/
theorem SR.isNew (I : SR K G O σ H a) {p : Addr} {ho : HO} {s : Sl} (e : Ex H H') (np : H p = none) (hp : H' p = some ho) (c : Cont K (hide (O.put p) H') p ho s) : RN K G (O.put p) σ H' a (.ref p) s := by
  refine ⟨c.mut, p, ho, rfl, List.mem_cons_self, hp, c, fun i t h1 h2 h3 => ?_, fun t ht => ?_, I.ex.free np, fun z => I.notin np (I.rr.sub p z)⟩
  · obtain ⟨b, ho', e1, m, _⟩ := I.own h1 h2
    rw [h3] at e1
    cases e1
    exact I.notin np m
  · obtain ⟨_, ⟨ho', z, _⟩, _⟩ := I.gh p t ht
    rw [np] at z
    cases z
theorem At.out {s : Sl} (h : At K W (RS K) (M.pure s) G O a σ H Q) (hu : s ≠ .un) : Out K O H s Q := by
  obtain ⟨I, op, x, e, F⟩ := h
  have e' : (Except.ok s, a) = x := Option.some.inj e
  subst e'
  have new : ∀ H' p ho, Ex H H' → H p = none → H' p = some ho → Cont K (hide O H) p ho s → Q (.ref p) H' := fun H' p ho ex np hp c =>
    F (O.put p) H' (.ref p) (I.take ex np hp) (ext_take I.th ex np) (.inr (.inl (I.isNew ex np hp (c.mono (ext_take I.th ex np)))))
  cases s with
  | un => exact absurd rfl hu
  | dat d => exact fun H' v ex r => F O H' v (I.grow ex) (ext_grow ex) (.inl ⟨d, rfl, r⟩)
  | exc d => exact fun H' p ex r => F O H' (.ref p) (I.grow ex) (ext_grow ex) (.inr (.inr ⟨d, p, rfl, rfl, r⟩))
  | _ => exact new
theorem At.outD {d : PyData} (h : At K W (RD K) (M.pure d) G O a σ H Q) : ∀ H' v, Ex H H' → R K (hide O H') v d → Q v H' := fun H' v ex r => h.pureG ex r
end
/-! ### ghosts: what is new is remembered while something else is evaluated -/
section
variable {K : KW} {G : Gd} {O : Own} {a : AEnv} {σ : St} {H : Hp}
theorem SR.push (I : SR K G O σ H a) {p : Addr} {s : Sl} (r : RN K G O σ H a (.ref p) s) : SR K (G.push p s) O σ H a := by
  obtain ⟨hs, p', ho, e, hm, hp, c, nb, ng, nB, nr⟩ := r
  cases e
  refine ⟨I.ex, I.xs, I.th, I.len, I.sl, I.inj, I.anc, I.fr, fun b t hb => ?_, ?_, ⟨I.rr.sub, I.rr.nd, I.rr.sl, fun b t hb => ?_, I.rr.bs, I.rr.bB, I.rr.rc⟩⟩
  · rcases List.mem_cons.mp hb with e | hb
    · cases e
      exact ⟨⟨hm, nB⟩, ⟨ho, hp, c⟩, nb⟩
    · exact I.gh b t hb
  · refine List.nodup_cons.mpr ⟨fun z => ?_, I.ghn⟩
    obtain ⟨⟨b, t⟩, h1, h2⟩ := List.mem_map.mp z
    have h2' : b = p := h2
    subst h2'
    exact ng t h1
  · rcases List.mem_cons.mp hb with e | hb
    · cases e
      exact nr
    · exact I.rr.gh b t hb
theorem SR.pop {p : Addr} {s : Sl} (I : SR K (G.push p s) O σ H a) (hs : s.owned = true) : SR K G O σ H a ∧ RN K G O σ H a (.ref p) s := by
  obtain ⟨h1, ⟨ho, h2, h3⟩, h4⟩ := I.gh p s List.mem_cons_self
  refine ⟨⟨I.ex, I.xs, I.th, I.len, I.sl, I.inj, I.anc, I.fr, fun b t hb => I.gh b t (List.mem_cons_of_mem _ hb), (List.nodup_cons.mp I.ghn).2, ⟨I.rr.sub, I.rr.nd, I.rr.sl, fun b t hb => I.rr.gh b t (List.mem_cons_of_mem _ hb), I.rr.bs, I.rr.bB, I.rr.rc⟩⟩, hs, p, ho, rfl, h1.1, h2, h3, h4, fun t ht => ?_, h1.2, I.rr.gh p s List.mem_cons_self⟩
  exact (List.nodup_cons.mp I.ghn).1 (List.mem_map.mpr ⟨(p, t), ht, rfl⟩)
end
end Am

/-! Am2: expressions. -/
namespace Am
open PySem L2

/-! ### names, constants -/
def cont : Sl → Option PyData
  | .dat d => some d
  | .lst ds => some (.list ds)
  | _ => none
def hV (i : Nat) : Hn := fun a => (a[i]?).bind cont
def mV (i : Nat) : M Hn := fun a => match (a[i]?).bind cont with
  | none => none
  | some _ => some (.ok (hV i), a)
section
variable {X : Cx} {W : WB} {x : Str} {pos : Pos}
theorem ph_v (i : Nat) (hN : X.N[i]? = some x := by rfl) (hv : Vis X.env.scope x := by first | exact Or.inl rfl | exact Or.inr (Or.inl rfl) | exact Or.inr (Or.inr rfl)) (hd : (x == ("__debug__" : Str)) = false := by decide)
    (hcd : (x == ("__classdict__" : Str)) = false := by decide) : PH X W (.Name x pos) (mV i) := by
  refine PE.imp (pe_var (i := i) hN hv hd hcd) fun σ H Q ⟨G, O, a, I, op, y, e, F⟩ => ?_
  unfold mV at e
  cases h : (a[i]?).bind cont with
  | none => rw [h] at e; cases e
  | some d =>
    rw [h] at e
    have e' : (Except.ok (hV i), a) = y := Option.some.inj e
    subst e'
    cases hs : a[i]? with
    | none => rw [hs] at h; cases h
    | some s =>
      have hx : ∃ v, σ[i]? = some (some v) := by
        rw [hs] at h
        cases s with
        | dat d => obtain ⟨v, e, _⟩ := I.dat hs; exact ⟨v, e⟩
        | lst ds => obtain ⟨p, ho, e, _⟩ := I.own hs rfl; exact ⟨_, e⟩
        | _ => cases h
      obtain ⟨v, hv⟩ := hx
      refine ⟨v, hv, F O H v I (Ext.refl _ _) fun O' H' a' d' I' e' hd' => ?_⟩
      cases hs' : a'[i]? with
      | none =>
        have z : (a'[i]?).bind cont = some d' := hd'
        rw [hs'] at z; cases z
      | some s' =>
        have z : (a'[i]?).bind cont = some d' := hd'
        rw [hs'] at z
        cases s' with
        | dat d2 =>
          obtain ⟨v2, e2, r⟩ := I'.dat hs'
          rw [hv] at e2
          cases e2
          cases z
          exact .inl r
        | lst ds =>
          obtain ⟨p, ho, e2, m, hp, c⟩ := I'.own hs' rfl
          rw [hv] at e2
          cases e2
          cases z
          obtain ⟨vs, rfl, r⟩ := c.inv_lst
          exact .inr ⟨p, vs, ds, rfl, rfl, SqL.of hp, r⟩
        | _ => cases z
/-- data: the name's own; a list of its own becomes data for ever -/
def mVD (i : Nat) : M PyData := fun a => match a[i]? with
  | some (.dat d) => some (.ok d, a)
  | some (.lst ds) => some (.ok (.list ds), a.set i (.dat (.list ds)))
  | _ => none
/-- a slot changes from owned to something that is not owned -/
theorem SR.slot {K : KW} {G : Gd} {O : Own} {σ : St} {H : Hp} {a : AEnv} (I : SR K G O σ H a) {i : Nat} {t : Sl} (hl : i < σ.length) (ht : t.owned = false) (h : ∀ x, σ[i]? = some x → SlR K O H x t) : SR K G O σ H (a.set i t) := by
  have old : ∀ {j : Nat} {s : Sl}, s.owned = true → (a.set i t)[j]? = some s → j ≠ i ∧ a[j]? = some s := fun {j s} hs hj => by
    by_cases e : i = j
    · subst e
      by_cases hl : i < a.length
      · rw [List.getElem?_set_self hl] at hj
        cases hj
        rw [ht] at hs
        cases hs
      · rw [List.getElem?_eq_none (by simpa using hl)] at hj
        cases hj
    · rw [List.getElem?_set_ne e] at hj
      exact ⟨Ne.symm e, hj⟩
  refine ⟨I.ex, I.xs, I.th, by simpa using I.len, fun j s x h1 h2 => ?_, fun j k p s u hjk h1 h2 hs hu e1 e2 => I.inj j k p s u hjk (old hs h1).2 (old hu h2).2 hs hu e1 e2, fun p hp s h1 hs => I.anc p hp s (old hs h1).2 hs, fun j s p h1 h2 h3 => I.fr j s p (old h2 h1).2 h2 h3, fun p s hp => (I.gh p s hp).imp id fun z => z.imp id fun z j t h1 h2 => z j t (old h2 h1).2 h2, I.ghn,
    ⟨I.rr.sub, I.rr.nd, fun j s p h1 h2 h3 => I.rr.sl j s p (old h2 h1).2 h2 h3, I.rr.gh, fun ho => (I.rr.bs ho).imp fun bs z => ⟨(by rw [List.getElem?_set_ne (Nat.ne_of_lt hl)]; exact z.1), z.2⟩, I.rr.bB, I.rr.rc⟩⟩
  by_cases e : i = j
  · subst e
    by_cases hl : i < a.length
    · rw [List.getElem?_set_self hl] at h1
      cases h1
      exact h x h2
    · rw [List.getElem?_eq_none (by simpa using hl)] at h1
      cases h1
  · rw [List.getElem?_set_ne e] at h1
    exact I.sl j s x h1 h2
theorem pd_v (i : Nat) (hN : X.N[i]? = some x := by rfl) (hv : Vis X.env.scope x := by first | exact Or.inl rfl | exact Or.inr (Or.inl rfl) | exact Or.inr (Or.inr rfl)) (hd : (x == ("__debug__" : Str)) = false := by decide)
    (hcd : (x == ("__classdict__" : Str)) = false := by decide) : PD X W (.Name x pos) (mVD i) := by
  refine PE.imp (pe_var (i := i) hN hv hd hcd) fun σ H Q ⟨G, O, a, I, op, y, e, F⟩ => ?_
  unfold mVD at e
  split at e
  · rename_i d hs
    have e' : (Except.ok d, a) = y := Option.some.inj e
    subst e'
    obtain ⟨v, hv, r⟩ := I.dat hs
    exact ⟨v, hv, F O H v I (Ext.refl _ _) r⟩
  · rename_i ds hs
    have e' : (Except.ok (PyData.list ds), a.set i (.dat (.list ds))) = y := Option.some.inj e
    subst e'
    obtain ⟨p, ho, hv, m, hp, c⟩ := I.own hs rfl
    obtain ⟨vs, rfl, r⟩ := c.inv_lst
    have I1 : SR X.kw G O σ H (a.set i .un) := I.slot (I.lt hs (Sl.notB rfl)) rfl fun _ _ => trivial
    have nb : ∀ (j : Nat) t, (a.set i Sl.un)[j]? = some t → t.owned = true → σ[j]? ≠ some (some (.ref p)) := fun j t h1 h2 h3 => by
      by_cases e : i = j
      · subst e
        by_cases hl : i < a.length
        · rw [List.getElem?_set_self hl] at h1
          cases h1
          cases h2
        · rw [List.getElem?_eq_none (by simpa using hl)] at h1
          cases h1
      · rw [List.getElem?_set_ne e] at h1
        exact I.inj i j p _ _ e hs h1 rfl h2 hv h3
    have np : p ∉ (O.del p).l := fun z => (Own.mem_del.mp z).2 rfl
    have rr : R X.K (hide (O.del p) H) (.ref p) (.list ds) := .lst (SqL.of (hide_some.mpr ⟨np, hp⟩)) (RAll.mono ext_letgo _ _ r)
    have ng : ∀ t, (p, t) ∉ G.gh := fun t ht => (I.gh p t ht).2.2 i _ hs rfl hv
    have I2 := (SR.letgo I1 nb ng (I.fr i _ p hs rfl hv) (I.rr.sl i _ p hs rfl hv)).slot (i := i) (t := .dat (.list ds)) (I.lt hs rfl) rfl fun x hx => by
      rw [hv] at hx
      cases hx
      exact ⟨_, rfl, rr⟩
    rw [List.set_set] at I2
    exact ⟨.ref p, hv, F _ H (.ref p) I2 ext_letgo rr⟩
  · cases e
/-- what a name owns is handed on (return) -/
def mVX (i : Nat) : M Sl := fun a => match a[i]? with
  | some .un => none
  | some (.bxs _) => none
  | some (.dat d) => some (.ok (.dat d), a)
  | some (.exc e) => some (.ok (.exc e), a)
  | some s => some (.ok s, a.set i .un)
  | none => none
theorem px_v (i : Nat) (hN : X.N[i]? = some x := by rfl) (hv : Vis X.env.scope x := by first | exact Or.inl rfl | exact Or.inr (Or.inl rfl) | exact Or.inr (Or.inr rfl)) (hd : (x == ("__debug__" : Str)) = false := by decide)
    (hcd : (x == ("__classdict__" : Str)) = false := by decide) : PX X W (.Name x pos) (mVX i) := by
  refine PE.imp (pe_var (i := i) hN hv hd hcd) fun σ H Q ⟨G, O, a, I, op, y, e, F⟩ => ?_
  unfold mVX at e
  split at e
  · cases e
  · cases e
  · rename_i d hs
    have e' : (Except.ok (Sl.dat d), a) = y := Option.some.inj e
    subst e'
    obtain ⟨v, hv, r⟩ := I.dat hs
    exact ⟨v, hv, F O H v I (Ext.refl _ _) (.inl ⟨d, rfl, r⟩)⟩
  · rename_i d hs
    have e' : (Except.ok (Sl.exc d), a) = y := Option.some.inj e
    subst e'
    obtain ⟨x, hx, p, rfl, r⟩ := I.x hs rfl
    exact ⟨.ref p, hx, F O H (.ref p) I (Ext.refl _ _) (.inr (.inr ⟨d, p, rfl, rfl, r⟩))⟩
  · rename_i s n1 n0 n2 n3 hs
    have e' : (Except.ok s, a.set i .un) = y := Option.some.inj e
    subst e'
    have hso : s.owned = true := by cases s <;> first | rfl | exact absurd rfl n1 | exact absurd rfl (n2 _) | exact absurd rfl (n3 _) | exact absurd rfl (n0 _)
    obtain ⟨p, ho, hv, m, hp, c⟩ := I.own hs hso
    have I1 : SR X.kw G O σ H (a.set i .un) := I.slot (I.lt hs (Sl.notB hso)) rfl fun _ _ => trivial
    have nb : ∀ (j : Nat) t, (a.set i Sl.un)[j]? = some t → t.owned = true → σ[j]? ≠ some (some (.ref p)) := fun j t h1 h2 h3 => by
      by_cases e : i = j
      · subst e
        by_cases hl : i < a.length
        · rw [List.getElem?_set_self hl] at h1
          cases h1
          cases h2
        · rw [List.getElem?_eq_none (by simpa using hl)] at h1
          cases h1
      · rw [List.getElem?_set_ne e] at h1
        exact I.inj i j p _ _ e hs h1 hso h2 hv h3
    exact ⟨.ref p, hv, F O H (.ref p) I1 (Ext.refl _ _) (.inr (.inl ⟨hso, p, ho, rfl, m, hp, c, nb, fun t ht => (I.gh p t ht).2.2 i _ hs hso hv, I.fr i _ p hs hso hv, I.rr.sl i _ p hs hso hv⟩))⟩
  · cases e
theorem pd_c {e : Expr} {v : V} {d : PyData} (h : PE X e (tC v)) (r : ∀ H, R X.K H v d) : PD X W e (M.pure d) :=
  PE.imp h fun σ H Q ⟨G, O, a, q⟩ => q.pure (v := v) (r _)
theorem pd_int {i : Int} {j} : PD X W (.Constant (.int i) j pos) (M.pure (.int i)) := pd_c pe_int fun _ => .int i
theorem pd_bl {b j} : PD X W (.Constant (.bool b) j pos) (M.pure (.bool b)) := pd_c pe_bl fun _ => .bl b
theorem pd_non {j} : PD X W (.Constant .none j pos) (M.pure .none) := pd_c pe_non fun _ => .non
theorem pd_str {s : Str} {j} : PD X W (.Constant (.str s) j pos) (M.pure (.str s)) := pd_c pe_str fun _ => .str s
/-- a global constant of the module -/
theorem pd_glob {v : V} {u : Value} {d : PyData} (hg : Gl X x) (hm : X.mg x = some u) (r : RelV v u) (rd : ∀ H, R X.K H v d) (hd : (x == ("__debug__" : Str)) = false := by decide) : PD X W (.Name x pos) (M.pure d) :=
  pd_c (pe_glob hg hm r hd) rd
end

/-! ### operators -/
def Thr (O : Own) (H : Hp) : Prop := ∀ p ∈ O.l, ∃ o, H p = some o
abbrev G2 := PyData → PyData → Option Sl
abbrev D2 := PyData → PyData → Option PyData
abbrev B2 := PyData → PyData → Option Bool
def OpX (K : KW) (r : R2) (g : G2) : Prop := ∀ O H x y d e s Q, Thr O H → RP K O H x d → RP K O H y e → g d e = some s → Out K O H s Q → r x y H Q
def OpD (K : KW) (r : R2) (g : D2) : Prop := ∀ O H x y d e s Q, Thr O H → RP K O H x d → RP K O H y e → g d e = some s → (∀ H' v, Ex H H' → R K (hide O H') v s → Q v H') → r x y H Q
def OpB (K : KW) (r : R2) (g : B2) : Prop := ∀ O H x y d e s Q, Thr O H → RP K O H x d → RP K O H y e → g d e = some s → (∀ H', Ex H H' → Q (.bl s) H') → r x y H Q
def nU (o : Option Sl) : Option Sl := match o with
  | some .un => none
  | o => o
theorem nU_some {o : Option Sl} {s : Sl} (h : nU o = some s) : o = some s ∧ s ≠ .un := by
  unfold nU at h
  split at h
  · cases h
  · rename_i n
    exact ⟨h, fun e => n (e ▸ h)⟩
/-- two operands, then g -/
def mB {γ : Type} (ma mb : M Hn) (g : PyData → PyData → Option γ) : M γ :=
  M.bind ma fun h1 => M.bind mb fun h2 => M.bind M.get fun a => M.bind (M.of (h1 a)) fun d1 => M.bind (M.of (h2 a)) fun d2 => M.of (g d1 d2)
def mOp (g : G2) (ma mb : M Hn) : M Sl := mB ma mb fun d e => nU (g d e)
section
variable {X : Cx} {W : WB} {a b c : Expr} {ma mb mc : M Hn} {pos : Pos}
theorem tM_op {γ : Type} {RR : RRel V γ} {r : R2} {g : PyData → PyData → Option γ} {σ : St} {H : Hp} {Q : VK}
    (hg : ∀ G O a H x y d e s, SR X.kw G O σ H a → RP X.kw O H x d → RP X.kw O H y e → g d e = some s → At X.kw W RR (M.pure s) G O a σ H Q → r x y H Q)
    (h : tM X.kw W RR (mB ma mb g) σ H Q) : tOp r (tM X.kw W (RH X.kw) ma) (tM X.kw W (RH X.kw) mb) σ H Q := by
  obtain ⟨G, O, a, q⟩ := h
  refine ⟨G, O, a, q.bind (RR := RH X.kw) fun O1 H1 a1 x h1 I1 e1 r1 q1 => ?_⟩
  refine ⟨G, O1, a1, q1.bind (RR := RH X.kw) fun O2 H2 a2 y h2 I2 e2 r2 q2 => ?_⟩
  obtain ⟨d, hd, q3⟩ := (At.getB q2).ofB
  obtain ⟨e, he, q4⟩ := q3.ofB
  obtain ⟨s, hs, q5⟩ := q4.of
  exact hg G O2 a2 H2 x y d e s I2 (r1 O2 H2 a2 d I2 e2 hd) (r2 O2 H2 a2 e I2 (Ext.refl _ _) he) hs q5
theorem px_op {op : Operator} {r : R2} {g : G2} (hr : OpR X (binaryOp op) r) (hg : OpX X.kw r g) (ha : PH X W a ma) (hb : PH X W b mb) : PX X W (.BinOp a op b pos) (mOp g ma mb) :=
  PE.imp (pe_op hr ha hb) fun σ H Q h => tM_op (fun G O a H x y d e s I rx ry hs q => hg O H x y d e s Q I.th rx ry (nU_some hs).1 (q.out (nU_some hs).2)) h
theorem pd_op {op : Operator} {r : R2} {g : D2} (hr : OpR X (binaryOp op) r) (hg : OpD X.kw r g) (ha : PH X W a ma) (hb : PH X W b mb) : PD X W (.BinOp a op b pos) (mB ma mb g) :=
  PE.imp (pe_op hr ha hb) fun σ H Q h => tM_op (fun G O a H x y d e s I rx ry hs q => hg O H x y d e s Q I.th rx ry hs q.outD) h
theorem pd_cmp {op : CmpOp} {r : R2} {g : B2} (hr : OpR X (compareOp op) r) (hg : OpB X.kw r g) (ha : PH X W a ma) (hb : PH X W b mb) (hm : behindInMarks op b = false := by first | exact nomark _ | rfl | with_unfolding_all rfl) :
    PD X W (.Compare a [op] [b] pos) (mB ma mb fun d e => (g d e).map PyData.bool) :=
  PE.imp (pe_cmpR hr ha hb hm) fun σ H Q h => tM_op (fun G O a H x y d e s I rx ry hs q => by
    cases hb : g d e with
    | none => rw [hb] at hs; cases hs
    | some b =>
      rw [hb] at hs
      cases hs
      exact hg O H x y d e b Q I.th rx ry hb fun H' ex => q.outD H' (.bl b) ex (.bl b)) h
theorem pb_cmp {op : CmpOp} {r : R2} {g : B2} (hr : OpR X (compareOp op) r) (hg : OpB X.kw r g) (ha : PH X W a ma) (hb : PH X W b mb) (hm : behindInMarks op b = false := by first | exact nomark _ | rfl | with_unfolding_all rfl) :
    PB X W (.Compare a [op] [b] pos) (mB ma mb g) := by
  refine PT.imp (pt_cmpR hr ha hb hm) fun σ H Q h => ?_
  obtain ⟨G, O, a, q⟩ := h
  refine ⟨G, O, a, q.bind (RR := RH X.kw) fun O1 H1 a1 x h1 I1 e1 r1 q1 => ?_⟩
  refine ⟨G, O1, a1, q1.bind (RR := RH X.kw) fun O2 H2 a2 y h2 I2 e2 r2 q2 => ?_⟩
  obtain ⟨d, hd, q3⟩ := (At.getB q2).ofB
  obtain ⟨e, he, q4⟩ := q3.ofB
  obtain ⟨s, hs, q5⟩ := q4.of
  exact hg O2 H2 x y d e s _ I2.th (r1 O2 H2 a2 d I2 e2 hd) (r2 O2 H2 a2 e I2 (Ext.refl _ _) he) hs fun H' ex => ⟨s, rfl, q5.pureG ex rfl⟩
/-- any data that is a truth value as a test -/
def gTru : PyData → Option Bool
  | .bool b => some b
  | _ => none
def mTru (m : M PyData) : M Bool := M.bind m fun d => M.of (gTru d)
theorem pb_d {m : M PyData} (h : PD X W a m) (he : ∀ whole, isTrue a X.env whole = (do let v ← whole; standAt a.pos; holding [v] (truthy v)) := by intro _; rfl) : PB X W a (mTru m) := by
  refine PT.imp (pt_val h he) fun σ H Q ⟨G, O, a, q⟩ => ?_
  refine ⟨G, O, a, q.bind (RR := RD X.kw) fun O1 H1 a1 v d I1 e1 r1 q1 => ?_⟩
  obtain ⟨b, hb, q2⟩ := q1.of
  cases d with
  | bool b' =>
    cases hb
    cases r1
    exact ⟨_, rfl, q2.pure rfl⟩
  | _ => cases hb
/-- and, or, not as tests -/
def mAnd (ma mb : M Bool) : M Bool := M.bind ma fun b => if b = true then mb else M.pure false
def mOr (ma mb : M Bool) : M Bool := M.bind ma fun b => if b = true then M.pure true else mb
def mNot (ma : M Bool) : M Bool := M.map not ma
abbrev PBW (X : Cx) (W : WB) (e : Expr) (m : M Bool) : Prop := PW X e (tM X.kw W RB m)
theorem PW.imp {X : Cx} {e : Expr} {t u : TT} (h : PW X e t) (k : ∀ σ H Q, u σ H Q → t σ H Q) : PW X e u := ⟨fun wh pins s σ H Q I q => h.run wh pins s σ H Q I (k σ H Q q)⟩
variable {rest : List Expr} {ka kb : M Bool}
theorem pbw_and1 (h : PB X W a ka) : PBW X W (.BoolOp .And [a] pos) ka := pw_and1 h
theorem pbw_or1 (h : PB X W a ka) : PBW X W (.BoolOp .Or [a] pos) ka := pw_or1 h
theorem pbw_and (h : PB X W a ka) (h2 : PBW X W (.BoolOp .And (b :: rest) pos) kb) : PBW X W (.BoolOp .And (a :: b :: rest) pos) (mAnd ka kb) := by
  refine PW.imp (pw_and h h2) fun σ H Q ⟨G, O, a, q⟩ => ?_
  refine ⟨G, O, a, q.bind (RR := RB) fun O1 H1 a1 v d I1 e1 r1 q1 => ?_⟩
  cases (show v = d from r1)
  cases v with
  | true => exact ⟨G, O1, a1, q1⟩
  | false => exact q1.pure rfl
theorem pbw_or (h : PB X W a ka) (h2 : PBW X W (.BoolOp .Or (b :: rest) pos) kb) : PBW X W (.BoolOp .Or (a :: b :: rest) pos) (mOr ka kb) := by
  refine PW.imp (pw_or h h2) fun σ H Q ⟨G, O, a, q⟩ => ?_
  refine ⟨G, O, a, q.bind (RR := RB) fun O1 H1 a1 v d I1 e1 r1 q1 => ?_⟩
  cases (show v = d from r1)
  cases v with
  | false => exact ⟨G, O1, a1, q1⟩
  | true => exact q1.pure rfl
theorem pb_w (h : PBW X W a ka) : PB X W a ka := PW.pt h
theorem pb_not (h : PB X W a ka) : PB X W (.UnaryOp .Not a pos) (mNot ka) := by
  refine PT.imp (pt_not h) fun σ H Q ⟨G, O, a, q⟩ => ?_
  refine ⟨G, O, a, q.bind (RR := RB) fun O1 H1 a1 v d I1 e1 r1 q1 => ?_⟩
  cases (show v = d from r1)
  exact q1.pure rfl
/-- the same as values -/
def mAndV (ma mb : M PyData) : M PyData := M.bind ma fun d => M.bind (M.of (gTru d)) fun b => if b = true then mb else M.pure (.bool false)
def mOrV (ma mb : M PyData) : M PyData := M.bind ma fun d => M.bind (M.of (gTru d)) fun b => if b = true then M.pure (.bool true) else mb
def mNotV (ma : M PyData) : M PyData := M.bind ma fun d => M.bind (M.of (gTru d)) fun b => M.pure (.bool (!b))
variable {da db dc : M PyData}
theorem pd_one {op} (h : PD X W a da) : PD X W (.BoolOp op [a] pos) da := pe_one h
theorem tM_tru {σ : St} {H : Hp} {Q : VK} {f : Bool → M PyData} {T : Bool → V → Hp → Prop} (h : tM X.kw W (RD X.kw) (M.bind da fun d => M.bind (M.of (gTru d)) f) σ H Q)
    (k : ∀ G O1 a1 H1 b, SR X.kw G O1 σ H1 a1 → At X.kw W (RD X.kw) (f b) G O1 a1 σ H1 Q → T b (.bl b) H1) : tM X.kw W (RD X.kw) da σ H (fun v H1 => ∃ c, v = .bl c ∧ T c v H1) := by
  obtain ⟨G, O, a, q⟩ := h
  refine ⟨G, O, a, q.bind (RR := RD X.kw) fun O1 H1 a1 v d I1 e1 r1 q1 => ?_⟩
  obtain ⟨b, hb, q2⟩ := q1.ofB
  cases d with
  | bool b' =>
    cases hb
    cases r1
    exact ⟨_, rfl, k G O1 a1 H1 _ I1 q2⟩
  | _ => cases hb
theorem pd_and (h : PD X W a da) (h2 : PD X W (.BoolOp .And (b :: rest) pos) db) : PD X W (.BoolOp .And (a :: b :: rest) pos) (mAndV da db) := by
  refine PE.imp (pe_and h h2) fun σ H Q q => tM_tru q fun G O1 a1 H1 b I1 q1 => ?_
  cases b with
  | true => exact ⟨G, O1, a1, q1⟩
  | false => exact q1.pure (v := .bl false) (.bl false)
theorem pd_or (h : PD X W a da) (h2 : PD X W (.BoolOp .Or (b :: rest) pos) db) : PD X W (.BoolOp .Or (a :: b :: rest) pos) (mOrV da db) := by
  refine PE.imp (pe_or h h2) fun σ H Q q => tM_tru q fun G O1 a1 H1 b I1 q1 => ?_
  cases b with
  | false => exact ⟨G, O1, a1, q1⟩
  | true => exact q1.pure (v := .bl true) (.bl true)
theorem pd_not (h : PD X W a da) : PD X W (.UnaryOp .Not a pos) (mNotV da) := by
  refine PE.imp (pe_not h) fun σ H Q q => tM_tru q fun G O1 a1 H1 b I1 q1 => ?_
  exact q1.pure (v := .bl (!b)) (.bl (!b))
/-- a if t else b -/
def mIf {γ : Type} (k : M Bool) (ma mb : M γ) : M γ := M.bind k fun b => if b = true then ma else mb
theorem pe_if {γ : Type} {RR : RRel V γ} {xa xb : M γ} (hk : PB X W c ka) (ha : PE X a (tM X.kw W RR xa)) (hb : PE X b (tM X.kw W RR xb)) : PE X (.IfExp c a b pos) (tM X.kw W RR (mIf ka xa xb)) := by
  refine PE.imp (pe_ifExp hk ha hb) fun σ H Q ⟨G, O, a, q⟩ => ?_
  refine ⟨G, O, a, q.bind (RR := RB) fun O1 H1 a1 v d I1 e1 r1 q1 => ?_⟩
  cases (show v = d from r1)
  cases v with
  | true => exact ⟨G, O1, a1, q1⟩
  | false => exact ⟨G, O1, a1, q1⟩
/-- a chain a op b op' c; the middle and first are handles -/
def mChain (g g' : B2) (ma mb mc : M Hn) : M Bool := M.bind ma fun h1 => M.bind mb fun h2 => M.bind M.get fun a => M.bind (M.of (h1 a)) fun d1 => M.bind (M.of (h2 a)) fun d2 => M.bind (M.of (g d1 d2)) fun k =>
  if k = true then M.bind mc fun h3 => M.bind M.get fun a => M.bind (M.of (h2 a)) fun d2 => M.bind (M.of (h3 a)) fun d3 => M.of (g' d2 d3) else M.pure false
theorem tM_chain {r r' : R2} {g g' : B2} (hg : OpB X.kw r g) (hg' : OpB X.kw r' g') {ν : Type} {RR : RRel ν Bool} {σ : St} {H : Hp} {Q : ν → Hp → Prop} {Q' : VK} (hq : ∀ G O a H b H', Ex H H' → At X.kw W RR (M.pure b) G O a σ H Q → Q' (.bl b) H')
    (h : tM X.kw W RR (mChain g g' ma mb mc) σ H Q) : tChain r r' (tM X.kw W (RH X.kw) ma) (tM X.kw W (RH X.kw) mb) (tM X.kw W (RH X.kw) mc) σ H Q' := by
  obtain ⟨G, O, a, q⟩ := h
  refine ⟨G, O, a, q.bind (RR := RH X.kw) fun O1 H1 a1 x h1 I1 e1 r1 q1 => ?_⟩
  refine ⟨G, O1, a1, q1.bind (RR := RH X.kw) fun O2 H2 a2 y h2 I2 e2 r2 q2 => ?_⟩
  obtain ⟨d, hd, q3⟩ := (At.getB q2).ofB
  obtain ⟨e, he, q4⟩ := q3.ofB
  obtain ⟨k, hk, q5⟩ := q4.ofB
  refine hg O2 H2 x y d e k _ I2.th (r1 O2 H2 a2 d I2 e2 hd) (r2 O2 H2 a2 e I2 (Ext.refl _ _) he) hk fun H3 ex => ⟨k, rfl, ?_⟩
  cases k with
  | false => exact hq G O2 a2 H2 false H3 ex q5
  | true =>
    have I3 := I2.grow ex
    have q6 : At X.kw W RR (M.bind mc fun h3 => M.bind M.get fun a => M.bind (M.of (h2 a)) fun d2 => M.bind (M.of (h3 a)) fun d3 => M.of (g' d2 d3)) G O2 a2 σ H3 Q := by
      obtain ⟨_, op, z, ez, F⟩ := q5
      refine ⟨I3, op, z, ez, ?_⟩
      obtain ⟨z1, z2⟩ := z
      cases z1 with
      | error er => exact fun O' H' d I' e2 q => F O' H' d I' ((ext_grow ex).trans e2) q
      | ok r2 => exact fun O' H' v I' e2 q => F O' H' v I' ((ext_grow ex).trans e2) q
    refine ⟨G, O2, a2, q6.bind (RR := RH X.kw) fun O4 H4 a4 z h3 I4 e4 r4 q7 => ?_⟩
    obtain ⟨d2, hd2, q8⟩ := (At.getB q7).ofB
    obtain ⟨d3, hd3, q9⟩ := q8.ofB
    obtain ⟨b, hb, q10⟩ := q9.of
    exact hg' O4 H4 y z d2 d3 b _ I4.th (r2 O4 H4 a4 d2 I4 ((ext_grow ex).trans e4) hd2) (r4 O4 H4 a4 d3 I4 (Ext.refl _ _) hd3) hb fun H5 ex5 => hq G O4 a4 H4 b H5 ex5 q10
theorem pb_chain {op op' : CmpOp} {r r' : R2} {g g' : B2} (hr : OpR X (compareOp op) r) (hr' : OpR X (compareOp op') r') (hg : OpB X.kw r g) (hg' : OpB X.kw r' g') (ha : PH X W a ma) (hb : PH X W b mb) (hc : PH X W c mc)
    (hm : lastMarks [op, op'] [b, c] = false := by with_unfolding_all rfl) : PB X W (.Compare a [op, op'] [b, c] pos) (mChain g g' ma mb mc) :=
  PT.imp (pt_chain hr hr' ha hb hc hm) fun σ H Q h => tM_chain hg hg' (fun G O a H b H' ex q => ⟨b, rfl, q.pureG ex rfl⟩) h
theorem pd_chain {op op' : CmpOp} {r r' : R2} {g g' : B2} (hr : OpR X (compareOp op) r) (hr' : OpR X (compareOp op') r') (hg : OpB X.kw r g) (hg' : OpB X.kw r' g') (ha : PH X W a ma) (hb : PH X W b mb) (hc : PH X W c mc)
    (hm : lastMarks [op, op'] [b, c] = false := by with_unfolding_all rfl) : PD X W (.Compare a [op, op'] [b, c] pos) (M.map PyData.bool (mChain g g' ma mb mc)) :=
  PE.imp (pe_chain hr hr' ha hb hc hm) fun σ H Q ⟨G, O, a, q⟩ => tM_chain (RR := fun _ _ _ _ _ v b => v = V.bl b) hg hg' (fun G O a H b H' ex q => q.pureG ex rfl)
    ⟨G, O, a, q.bind (RR := fun _ _ _ _ _ v b => v = V.bl b) fun O1 H1 a1 v b I1 e1 r1 q1 => by subst r1; exact q1.pure (v := .bl b) (.bl b)⟩
end
end Am

/-! Am3: operations upon values. -/
namespace Am
open PySem L2

theorem OpR.or {X : Cx} {f : Value → Value → Sem Value} {r r' : R2} (h : OpR X f r) (h' : OpR X f r') : OpR X f (fun x y H Q => r x y H Q ∨ r' x y H Q) := by
  intro pins s σ H x y v u Q I rx ry q
  rcases q with q | q
  · exact h pins s σ H x y v u Q I rx ry q
  · exact h' pins s σ H x y v u Q I rx ry q
/-- the most items of a list here -/
def lineN : Nat := 16777216
theorem line_eq : sizeLine = lineN := sizeLine_eq
theorem hide_upd {O : Own} {H : Hp} {p : Addr} {o : HO} (th : Thr O H) (np : H p = none) : (hide O (upd H p o)).h p = some o := hide_some.mpr ⟨fun z => (by obtain ⟨o, q⟩ := th p z; rw [np] at q; cases q), upd_same⟩
theorem out_tup {K : KW} {O : Own} {H : Hp} {p : Addr} {vs : List V} {ds : List PyData} {Q : VK} (h : ∀ H' v, Ex H H' → R K (hide O H') v (.tuple ds) → Q v H') (th : Thr O H) (np : H p = none) (r : RAll K (hide O H) vs ds) : Q (.ref p) (upd H p (.tup vs)) :=
  h _ _ (Ex.new np) (.tup (hide_upd th np) (RAll.mono (ext_grow (Ex.new np)) _ _ r))
theorem out_lst {K : KW} {O : Own} {H : Hp} {p : Addr} {vs : List V} {ds : List PyData} {Q : VK} (h : Out K O H (.lst ds) Q) (np : H p = none) (r : RAll K (hide O H) vs ds) : Q (.ref p) (upd H p (.lst vs)) :=
  h.new (Ex.new np) np upd_same r
theorem out_same {K : KW} {O : Own} {H : Hp} {v : V} {d : PyData} {Q : VK} (h : ∀ H' v, Ex H H' → R K (hide O H') v d → Q v H') (r : R K (hide O H) v d) : Q v H := h H v (Ex.refl _) r
theorem RP.tupR {K : KW} {O : Own} {H : Hp} {v : V} {ds : List PyData} (h : RP K O H v (.tuple ds)) : R K (hide O H) v (.tuple ds) := by
  rcases h with h | ⟨p, vs, ds', rfl, e, h1, h2⟩
  · exact h
  · cases e

/-! ### arithmetic -/
def gAdd : D2
  | .int i, .int j => some (.int (i + j))
  | .str x, .str y => if x.length + y.length ≤ lineN then some (.str (x ++ y)) else none
  | .tuple xs, .tuple ys => if xs.length + ys.length ≤ lineN then some (.tuple (xs ++ ys)) else none
  | _, _ => none
section
variable {X : Cx}
def rAddA (K : KW) : R2 := fun x y H Q => (rI0 fun i j => .int (i + j)) x y H Q ∨ (fun x y H Q => ∃ i j, x = .str i ∧ y = .str j ∧ i.length + j.length ≤ sizeLine ∧ Q (.str (i ++ j)) H) x y H Q ∨ rCatA K x y H Q
theorem op_addA : OpR X (binaryOp .Add) (rAddA X.kw) := OpR.or op_add (OpR.or op_add_str op_catA)
theorem gAdd_ok {K : KW} : OpD K (rAddA K) gAdd := by
  intro O H x y d e s Q th rx ry hg q
  unfold gAdd at hg
  split at hg
  · cases rx.int
    cases ry.int
    cases hg
    exact .inl ⟨_, _, rfl, rfl, out_same q (.int _)⟩
  · cases rx.str
    cases ry.str
    split at hg
    · rename_i hz
      cases hg
      exact .inr (.inl ⟨_, _, rfl, rfl, by rw [line_eq]; exact hz, out_same q (.str _)⟩)
    · cases hg
  · split at hg
    · rename_i xs ys hz
      cases hg
      obtain ⟨p, vs, rfl, h1, r1⟩ := rx.tup
      obtain ⟨p2, ws, rfl, h2, r2⟩ := ry.tup
      refine .inr (.inr ⟨p, p2, vs, ws, rfl, rfl, h1, h2, by rw [r1.length, r2.length, line_eq]; exact hz, fun e => ?_, fun _ e => ?_, fun _ _ p hp => ?_⟩)
      · subst e
        cases r1
        exact out_same q (by simpa using ry.tupR)
      · subst e
        cases r2
        exact out_same q (by simpa using rx.tupR)
      · exact out_tup q th hp (r1.append r2)
    · cases hg
  · cases hg
theorem op_catS : OpR X (binaryOp .Add) (fun x y H Q => ∃ l b xs zs, x = .ref l ∧ y = .ref b ∧ SqL X.K H l xs ∧ SqL X.K H b zs ∧ xs.length + zs.length ≤ sizeLine ∧ ∀ p, H p = none → Q (.ref p) (upd H p (.lst (xs ++ zs)))) := by
  intro pins s σ H x y v u Q I rx ry h
  obtain ⟨l, b, xs, zs, rfl, rfl, hH, hB, hz, q⟩ := h
  cases rx
  cases ry
  obtain ⟨its, r, hp1, _⟩ := I.list hH
  obtain ⟨its2, r2, hp2, _⟩ := I.list hB
  obtain ⟨⟨cls, dd, data, sl⟩, ho, hc, n, hd⟩ := hp1.isList
  obtain ⟨⟨cls2, dd2, data2, sl2⟩, ho2, hc2, n2, hd2⟩ := hp2.isList
  simp only at hc hd hc2 hd2
  subst hc hd hc2 hd2
  have hl := r.length
  have hl2 := r2.length
  refine concat_meets ⟨_, ho, rfl⟩ ⟨_, ho2, rfl⟩ noFill_list_add seq_list_add PySem.F.slot_list_add PySem.F.entry_list_add (PySem.F.args_list_add_2 _ _) (PyProof.Rows.list_addW l b its.toArray its2.toArray n n2 dd dd2 sl sl2 (by rw [List.size_toArray, List.size_toArray]; omega)) ⟨ho, ho2, ?_⟩
  have ea : its.toArray ++ its2.toArray = (its ++ its2).toArray := by simp
  rw [ea]
  exact ⟨.ref _, _, I.lnew (t' := s.toks) (r.append r2) (by rw [List.length_append]; omega), rfl, q _ I.fresh⟩
def gCat : G2
  | .list xs, .list ys => if xs.length + ys.length ≤ lineN then some (.lst (xs ++ ys)) else none
  | _, _ => none
theorem gCat_ok {K : KW} : OpX K (fun x y H Q => ∃ l b xs zs, x = .ref l ∧ y = .ref b ∧ SqL K H l xs ∧ SqL K H b zs ∧ xs.length + zs.length ≤ sizeLine ∧ ∀ p, H p = none → Q (.ref p) (upd H p (.lst (xs ++ zs)))) gCat := by
  intro O H x y d e s Q th rx ry hg q
  unfold gCat at hg
  split at hg
  · split at hg
    · rename_i xs ys hz
      cases hg
      obtain ⟨p, vs, rfl, h1, r1⟩ := rx.lst
      obtain ⟨p2, ws, rfl, h2, r2⟩ := ry.lst
      exact ⟨p, p2, vs, ws, rfl, rfl, h1, h2, by rw [r1.length, r2.length, line_eq]; exact hz, fun p hp => out_lst q hp (r1.append r2)⟩
    · cases hg
  · cases hg
/-- ints in, an int out -/
def gI (C : Int → Int → Bool) (f : Int → Int → Int) : D2
  | .int i, .int j => if C i j = true then some (.int (f i j)) else none
  | _, _ => none
theorem gI_ok {K : KW} {C : Int → Int → Bool} {f : Int → Int → Int} {P : Int → Int → Prop} (h : ∀ i j, C i j = true → P i j) : OpD K (rI P fun i j => .int (f i j)) (gI C f) := by
  intro O H x y d e s Q th rx ry hg q
  unfold gI at hg
  split at hg
  · split at hg
    · rename_i hc
      cases rx.int
      cases ry.int
      cases hg
      exact ⟨_, _, rfl, rfl, h _ _ hc, out_same q (.int _)⟩
    · cases hg
  · cases hg
def gI0 (f : Int → Int → Int) : D2
  | .int i, .int j => some (.int (f i j))
  | _, _ => none
theorem gI0_ok {K : KW} {f : Int → Int → Int} : OpD K (rI0 fun i j => .int (f i j)) (gI0 f) := by
  intro O H x y d e s Q th rx ry hg q
  unfold gI0 at hg
  split at hg
  · cases rx.int
    cases ry.int
    cases hg
    exact ⟨_, _, rfl, rfl, out_same q (.int _)⟩
  · cases hg
abbrev gSub : D2 := gI0 fun i j => i - j
def cMul (i j : Int) : Bool := decide (i.natAbs.log2 + j.natAbs.log2 < 1000000)
abbrev gMul : D2 := gI cMul fun i j => i * j
def cDiv (_ j : Int) : Bool := decide (0 < j) && decide (j.natAbs.log2 < 9000)
abbrev gDiv : D2 := gI cDiv fun i j => i / j
def cMod (_ j : Int) : Bool := decide (0 < j)
abbrev gMod : D2 := gI cMod fun i j => i % j
def cPow (i j : Int) : Bool := decide (0 ≤ j) && decide ((Builtin.Int.intBits i : Int) * j ≤ 2 ^ 27)
abbrev gPow : D2 := gI cPow fun i j => i ^ j.toNat
theorem op_powA : OpR X (binaryOp .Pow) (rI (fun i j => 0 ≤ j ∧ (Builtin.Int.intBits i : Int) * j ≤ 2 ^ 27) fun i j => .int (i ^ j.toNat)) := opI fun _ _ _ _ _ _ _ hc q => PyProof.Rows.pow_int hc.1 hc.2 q
theorem gMul_ok {K : KW} : OpD K (rI CMulW fun i j => .int (i * j)) gMul := gI_ok fun i j h => of_decide_eq_true (p := i.natAbs.log2 + j.natAbs.log2 < 1000000) h
theorem gDiv_ok {K : KW} : OpD K (rI CDivW fun i j => .int (i / j)) gDiv := gI_ok fun i j h => by
  have h' := Bool.and_eq_true_iff.mp h
  exact ⟨of_decide_eq_true h'.1, of_decide_eq_true h'.2⟩
theorem gMod_ok {K : KW} : OpD K (rI (fun _ j => 0 < j) fun i j => .int (i % j)) gMod := gI_ok fun i j h => of_decide_eq_true (p := 0 < j) h
theorem gPow_ok {K : KW} : OpD K (rI (fun i j => 0 ≤ j ∧ (Builtin.Int.intBits i : Int) * j ≤ 2 ^ 27) fun i j => .int (i ^ j.toNat)) gPow := gI_ok fun i j h => by
  have h' := Bool.and_eq_true_iff.mp h
  exact ⟨of_decide_eq_true h'.1, of_decide_eq_true h'.2⟩
/-- -a -/
def gNeg : PyData → Option PyData
  | .int i => some (.int (-i))
  | _ => none
/-- list * int, tuple * int -/
def gRep : G2
  | .list xs, .int k => if decide (-(2 ^ 63) ≤ k) && decide (k < 2 ^ 63) && decide (xs.length * k.toNat ≤ lineN) then some (.lst (List.replicate k.toNat xs).flatten) else none
  | _, _ => none
theorem RAll.rep {K : PySem.W.Frag} {H : Vw} {vs : List V} {ds : List PyData} (r : RAll K H vs ds) : ∀ n : Nat, RAll K H (List.replicate n vs).flatten (List.replicate n ds).flatten
  | 0 => .nil
  | n + 1 => by
    rw [List.replicate_succ, List.replicate_succ, List.flatten_cons, List.flatten_cons]
    exact r.append (r.rep n)
end
section
variable {X : Cx} {W : WB} {a : Expr} {ma : M Hn} {pos : Pos}
/-- one operand, then g -/
def mU {γ : Type} (ma : M Hn) (g : PyData → Option γ) : M γ := M.bind ma fun h1 => M.bind M.get fun a => M.bind (M.of (h1 a)) fun d1 => M.of (g d1)
theorem tM_un {ν γ : Type} {RR : RRel ν γ} {g : PyData → Option γ} {σ : St} {H : Hp} {Q : ν → Hp → Prop} {T : V → Hp → Prop}
    (hg : ∀ G O a H x d s, SR X.kw G O σ H a → RP X.kw O H x d → g d = some s → At X.kw W RR (M.pure s) G O a σ H Q → T x H)
    (h : tM X.kw W RR (mU ma g) σ H Q) : tM X.kw W (RH X.kw) ma σ H T := by
  obtain ⟨G, O, a, q⟩ := h
  refine ⟨G, O, a, q.bind (RR := RH X.kw) fun O1 H1 a1 x h1 I1 e1 r1 q1 => ?_⟩
  obtain ⟨d, hd, q3⟩ := (At.getB q1).ofB
  obtain ⟨s, hs, q5⟩ := q3.of
  exact hg G O1 a1 H1 x d s I1 (r1 O1 H1 a1 d I1 (Ext.refl _ _) hd) hs q5
theorem pd_neg (ha : PH X W a ma) : PD X W (.UnaryOp .USub a pos) (mU ma gNeg) :=
  PE.imp (pe_un un_neg ha) fun σ H Q h => tM_un (T := fun x H1 => rU (fun i => .int (-i)) x H1 Q) (fun G O a H x d s I rx hs q => by
    unfold gNeg at hs
    split at hs
    · cases rx.int
      cases hs
      exact ⟨_, rfl, q.outD H _ (Ex.refl _) (.int _)⟩
    · cases hs) h
end

/-! ### comparisons -/
section
variable {X : Cx}
def gCmp (f : Int → Int → Bool) : B2
  | .int i, .int j => some (f i j)
  | _, _ => none
theorem gCmp_ok {K : KW} {f : Int → Int → Bool} : OpB K (rI0 fun i j => .bl (f i j)) (gCmp f) := by
  intro O H x y d e s Q th rx ry hg q
  unfold gCmp at hg
  split at hg
  · cases rx.int
    cases ry.int
    cases hg
    exact ⟨_, _, rfl, rfl, q H (Ex.refl _)⟩
  · cases hg
abbrev gLt : B2 := gCmp fun i j => decide (i < j)
abbrev gLe : B2 := gCmp fun i j => decide (i ≤ j)
abbrev gGt : B2 := gCmp fun i j => decide (j < i)
abbrev gGe : B2 := gCmp fun i j => decide (j ≤ i)
mutual
theorem R.dp {K : PySem.W.Frag} {H : Vw} : ∀ (d : PyData) (v : V), d.canLay0 = true → R K H v d → Dp K H.h v d
  | .none, _, _, h => by cases h; exact .non
  | .bool b, _, _, h => by cases h; exact .bl b
  | .int i, _, _, h => by cases h; exact .int i
  | .str x, _, _, h => by cases h; exact .str x
  | .list ds, _, c, h => by
    cases h with
    | lst h1 h2 => exact .lst h1 (RAll.dp ds _ (by simpa [PyData.canLay0] using c) h2)
  | .tuple ds, _, c, h => by
    cases h with
    | tup h1 h2 => exact .tup (SqT.of h1) (RAll.dp ds _ (by simpa [PyData.canLay0] using c) h2)
  | .dict kv, _, c, h => by simp [PyData.canLay0] at c
theorem RAll.dp {K : PySem.W.Frag} {H : Vw} : ∀ (ds : List PyData) (vs : List V), PyData.canLayAll0 ds = true → RAll K H vs ds → DpAll K H.h vs ds
  | [], _, _, h => by cases h; exact .nil
  | d :: ds, _, c, h => by
    cases h with
    | cons h1 h2 =>
      have c' : d.canLay0 = true ∧ PyData.canLayAll0 ds = true := by simpa [PyData.canLayAll0] using c
      exact .cons (R.dp d _ c'.1 h1) (RAll.dp ds _ c'.2 h2)
end
def gEq : B2 := fun d e => if SeqAt.shaped d && SeqAt.shaped e then some (PyData.eqv d e) else none
def gNe : B2 := fun d e => (gEq d e).map not
theorem gEq_some {d e : PyData} {b : Bool} (h : gEq d e = some b) : SeqAt.shaped d = true ∧ SeqAt.shaped e = true ∧ PyData.eqv d e = b := by
  unfold gEq at h
  split at h
  · rename_i hs
    have hs' := Bool.and_eq_true_iff.mp hs
    cases h
    exact ⟨hs'.1, hs'.2, rfl⟩
  · cases h
theorem gEq_ok {K : KW} : OpB K (rEqD K) gEq := by
  intro O H x y d e s Q th rx ry hg q
  obtain ⟨h1, h2, h3⟩ := gEq_some hg
  exact ⟨d, e, R.dp d _ (SeqAt.canLay_of_shaped h1) rx.full, R.dp e _ (SeqAt.canLay_of_shaped h2) ry.full, h1, h2, by rw [h3]; exact q H (Ex.refl _)⟩
theorem gNe_ok {K : KW} : OpB K (rNeD K) gNe := by
  intro O H x y d e s Q th rx ry hg q
  unfold gNe at hg
  cases hb : gEq d e with
  | none => rw [hb] at hg; cases hg
  | some b =>
    rw [hb] at hg
    cases hg
    obtain ⟨h1, h2, h3⟩ := gEq_some hb
    exact ⟨d, e, R.dp d _ (SeqAt.canLay_of_shaped h1) rx.full, R.dp e _ (SeqAt.canLay_of_shaped h2) ry.full, h1, h2, by rw [h3]; exact q H (Ex.refl _)⟩
def isNone : PyData → Bool
  | .none => true
  | _ => false
def gIsN : B2
  | d, .none => some (isNone d)
  | _, _ => none
def gNotN : B2
  | d, .none => some (!isNone d)
  | _, _ => none
theorem R.isNone {K : PySem.W.Frag} {H : Vw} {x : V} {d : PyData} (h : R K H x d) : decide (x = .non) = isNone d := by
  cases h <;> first | rfl | simp [Am.isNone]
theorem gIsN_ok {K : KW} : OpB K (fun x y H Q => y = .non ∧ Q (.bl (decide (x = .non))) H) gIsN := by
  intro O H x y d e s Q th rx ry hg q
  unfold gIsN at hg
  split at hg
  · cases hg
    exact ⟨ry.non, by rw [rx.full.isNone]; exact q H (Ex.refl _)⟩
  · cases hg
theorem gNotN_ok {K : KW} : OpB K (fun x y H Q => y = .non ∧ Q (.bl (!decide (x = .non))) H) gNotN := by
  intro O H x y d e s Q th rx ry hg q
  unfold gNotN at hg
  split at hg
  · cases hg
    exact ⟨ry.non, by rw [rx.full.isNone]; exact q H (Ex.refl _)⟩
  · cases hg
/-- x in xs: flat items -/
def flatD : PyData → Bool
  | .none => true
  | .bool _ => true
  | .int _ => true
  | .str _ => true
  | _ => false
def seqD : PyData → Option (List PyData)
  | .list xs => some xs
  | .tuple xs => some xs
  | _ => none
def gIn : B2 := fun d e => match seqD e with
  | some xs => if flatD d && xs.all flatD then some (xs.any fun y => PyData.eqv y d) else none
  | none => none
def gNotIn : B2 := fun d e => (gIn d e).map not
theorem R.flat {K : PySem.W.Frag} {H : Vw} {x : V} {d : PyData} (h : R K H x d) : flatV x = flatD d := by cases h <;> rfl
theorem RAll.flat {K : PySem.W.Frag} {H : Vw} : ∀ {vs : List V} {ds : List PyData}, RAll K H vs ds → vs.all flatV = ds.all flatD
  | _, [], h => by cases h; rfl
  | _, _ :: _, h => by
    cases h with
    | cons h1 h2 => rw [List.all_cons, List.all_cons, h1.flat, h2.flat]
theorem R.eqV {K : PySem.W.Frag} {H : Vw} {x y : V} {d e : PyData} (h : R K H x d) (g : R K H y e) (hd : flatD d = true) (he : flatD e = true) : eqV x y = PyData.eqv d e := by
  cases h <;> cases g <;> first | rfl | (simp [flatD] at hd; done) | (simp [flatD] at he; done) | (simp [L2.eqV, PyData.eqv]; done)
theorem RAll.anyEq {K : PySem.W.Frag} {H : Vw} {x : V} {d : PyData} (g : R K H x d) (hd : flatD d = true) : ∀ {vs : List V} {ds : List PyData}, RAll K H vs ds → ds.all flatD = true → (vs.any fun y => L2.eqV y x) = ds.any fun y => PyData.eqv y d
  | _, [], h, _ => by cases h; rfl
  | _, _ :: _, h, f => by
    cases h with
    | cons h1 h2 =>
      rw [List.all_cons, Bool.and_eq_true] at f
      rw [List.any_cons, List.any_cons, h1.eqV g f.1 hd, h2.anyEq g hd f.2]
theorem gIn_some {K : KW} {O : Own} {H : Hp} {x y : V} {d e : PyData} {b : Bool} (rx : RP K O H x d) (ry : RP K O H y e) (h : gIn d e = some b) : ∃ p xs, y = .ref p ∧ (SqL K H p xs ∨ SqT K H p xs) ∧ flatV x = true ∧ xs.all flatV = true ∧ inV x xs = b := by
  unfold gIn at h
  split at h
  · rename_i xs hs
    split at h
    · rename_i hf
      have hf' := Bool.and_eq_true_iff.mp hf
      cases h
      have key : ∀ {vs : List V}, RAll K (hide O H) vs xs → flatV x = true ∧ vs.all flatV = true ∧ inV x vs = xs.any fun y => PyData.eqv y d := fun {vs} r =>
        have r' := RAll.mono (hide_ex O H) _ _ r
        ⟨by rw [rx.full.flat]; exact hf'.1, by rw [r.flat]; exact hf'.2, RAll.anyEq rx.full hf'.1 r' hf'.2⟩
      cases e with
      | list ds =>
        cases hs
        obtain ⟨p, vs, rfl, h1, r⟩ := ry.lst
        exact ⟨p, vs, rfl, .inl h1, key r⟩
      | tuple ds =>
        cases hs
        obtain ⟨p, vs, rfl, h1, r⟩ := ry.tup
        exact ⟨p, vs, rfl, .inr h1, key r⟩
      | _ => cases hs
    · cases h
  · cases h
theorem gIn_ok {K : KW} : OpB K (rIn K false) gIn := by
  intro O H x y d e s Q th rx ry hg q
  obtain ⟨p, xs, rfl, h1, h2, h3, h4⟩ := gIn_some rx ry hg
  exact ⟨p, xs, rfl, h1, h2, h3, by rw [h4]; exact q H (Ex.refl _)⟩
theorem gNotIn_ok {K : KW} : OpB K (rIn K true) gNotIn := by
  intro O H x y d e s Q th rx ry hg q
  unfold gNotIn at hg
  cases hb : gIn d e with
  | none => rw [hb] at hg; cases hg
  | some b =>
    rw [hb] at hg
    cases hg
    obtain ⟨p, xs, rfl, h1, h2, h3, h4⟩ := gIn_some rx ry hb
    exact ⟨p, xs, rfl, h1, h2, h3, by rw [h4]; exact q H (Ex.refl _)⟩
end

/-! ### subscripts, slices -/
section
variable {X : Cx} {W : WB} {a b : Expr} {ma mb : M Hn} {pos : Pos}
def gIx : D2
  | .list xs, .int i => atI xs i
  | .tuple xs, .int i => atI xs i
  | .str z, .int i => if z.length ≤ lineN then (atI z.cps.toList i).map fun c => .str ⟨#[c]⟩ else none
  | _, _ => none
theorem RAll.atI {K : PySem.W.Frag} {H : Vw} {vs : List V} {ds : List PyData} {i : Int} {d : PyData} (r : RAll K H vs ds) (h : L2.atI ds i = some d) : ∃ v, L2.atI vs i = some v ∧ R K H v d := by
  unfold L2.atI at h ⊢
  rw [r.length]
  cases e : ixN ds.length i with
  | none => rw [e] at h; cases h
  | some j =>
    rw [e] at h
    exact r.get j h
theorem gIx_ok {K : KW} : OpD K (rIx K) gIx := by
  intro O H x y d e s Q th rx ry hg q
  unfold gIx at hg
  split at hg
  · cases ry.int
    obtain ⟨p, vs, rfl, h1, r⟩ := rx.lst
    obtain ⟨v, hv, rv⟩ := r.atI hg
    exact .inl ⟨p, vs, _, v, rfl, rfl, h1, hv, out_same q rv⟩
  · cases ry.int
    obtain ⟨p, vs, rfl, h1, r⟩ := rx.tup
    obtain ⟨v, hv, rv⟩ := r.atI hg
    exact .inr (.inl ⟨p, vs, _, v, rfl, rfl, h1, hv, out_same q rv⟩)
  · cases ry.int
    cases rx.str
    split at hg
    · rename_i z i hz
      cases hc : L2.atI z.cps.toList i with
      | none => rw [hc] at hg; cases hg
      | some c =>
        rw [hc] at hg
        cases hg
        exact .inr (.inr ⟨z, i, c, rfl, rfl, by rw [line_eq]; exact hz, hc, out_same q (.str _)⟩)
    · cases hg
  · cases hg
theorem pd_ix (ha : PH X W a ma) (hb : PH X W b mb) (hs : PlainIx b := by exact fun _ _ => rfl) : PD X W (.Subscript a b pos) (mB ma mb gIx) :=
  PE.imp (pe_ix ix_seq ha hb hs) fun σ H Q h => tM_op (fun G O a H x y d e s I rx ry hs q => gIx_ok O H x y d e s Q I.th rx ry hs q.outD) h
/-- the parts of a slice -/
def gPart : PyData → Option (Option Int)
  | .int i => some (some i)
  | _ => none
def RPt : RRel (Option Int) (Option Int) := fun _ _ _ _ _ u v => u = v
abbrev PP (X : Cx) (W : WB) (e : Option Expr) (m : M (Option Int)) : Prop := PO X e (tM X.kw W RPt m)
theorem PO.imp {X : Cx} {e : Option Expr} {t u : TO} (h : PO X e t) (k : ∀ σ H Q, u σ H Q → t σ H Q) : PO X e u := ⟨fun pins s σ H Q I q => h.run pins s σ H Q I (k σ H Q q)⟩
theorem pp_none : PP X W none (M.pure none) := PO.imp po_none fun σ H Q ⟨G, O, a, q⟩ => q.pure (v := none) rfl
theorem pp_some {m : M PyData} (h : PD X W a m) : PP X W (some a) (M.bind m fun d => M.of (gPart d)) :=
  PO.imp (po_some h) fun σ H Q ⟨G, O, a, q⟩ => ⟨G, O, a, q.bind (RR := RD X.kw) fun O1 H1 a1 v d I1 e1 r1 q1 => by
    obtain ⟨o, ho, q2⟩ := q1.of
    cases d with
    | int i =>
      cases r1
      cases ho
      exact ⟨i, rfl, q2.pure rfl⟩
    | _ => cases ho⟩
def cutD (xs : List PyData) (lo hi : Option Int) : List PyData := (xs.drop (HT.sIx xs.length 0 lo)).take (HT.sIx xs.length xs.length hi - HT.sIx xs.length 0 lo)
theorem RAll.cut {K : PySem.W.Frag} {H : Vw} {vs : List V} {ds : List PyData} (r : RAll K H vs ds) (lo hi : Option Int) : RAll K H (cutV vs lo hi) (cutD ds lo hi) := by
  unfold cutV cutD
  rw [r.length]
  exact (r.drop _).take _
/-- a slice: a list's is new -/
def gSl (d : PyData) (lo hi : Option Int) : Option Sl := match d with
  | .list xs => some (.lst (cutD xs lo hi))
  | .tuple xs => some (.dat (.tuple (cutD xs lo hi)))
  | .str z => if z.length ≤ lineN then some (.dat (.str (cutS z lo hi))) else none
  | _ => none
def rSlY (K : KW) : V → Option Int → Option Int → Hp → VK → Prop := fun x lo hi H Q => rSlL K x lo hi H Q ∨ rSlA K x lo hi H Q ∨ rSlS x lo hi H Q
theorem sl_any : L2.SlR X (rSlY X.kw) := L2.SlR.or sl_list (L2.SlR.or sl_tupA sl_str)
theorem gSl_ok {K : KW} {O : Own} {H : Hp} {x : V} {d : PyData} {lo hi : Option Int} {s : Sl} {Q : VK} (th : Thr O H) (rx : RP K O H x d) (hg : gSl d lo hi = some s) (q : Out K O H s Q) : rSlY K x lo hi H Q := by
  unfold gSl at hg
  split at hg
  · cases hg
    obtain ⟨p, vs, rfl, h1, r⟩ := rx.lst
    exact .inl ⟨p, vs, rfl, h1, fun p hp => out_lst q hp (r.cut lo hi)⟩
  · cases hg
    obtain ⟨p, vs, rfl, h1, r⟩ := rx.tup
    refine .inr (.inl ⟨p, vs, rfl, h1, fun e => ?_, fun _ p hp => out_tup q th hp (r.cut lo hi)⟩)
    have hw : ∀ (xs : List PyData), HT.sIx xs.length 0 lo = 0 ∧ HT.sIx xs.length xs.length hi = xs.length → cutD xs lo hi = xs := fun xs h => by
      unfold cutD
      rw [h.1, h.2]
      simp
    rw [r.length] at e
    rw [hw _ e] at q
    exact out_same q rx.tupR
  · cases rx.str
    split at hg
    · rename_i hz
      cases hg
      exact .inr (.inr ⟨_, rfl, by rw [line_eq]; exact hz, out_same q (.str _)⟩)
    · cases hg
  · cases hg
def mSl (ma : M Hn) (ml mh : M (Option Int)) : M Sl := M.bind ma fun h1 => M.bind ml fun lo => M.bind mh fun hi => M.bind M.get fun a => M.bind (M.of (h1 a)) fun d1 => M.of (nU (gSl d1 lo hi))
theorem px_slice {lo hi : Option Expr} {ml mh : M (Option Int)} {p2 : Pos} (ha : PH X W a ma) (hl : PP X W lo ml) (hh : PP X W hi mh) : PX X W (.Subscript a (.Slice lo hi none p2) pos) (mSl ma ml mh) := by
  refine PE.imp (pe_slice sl_any ha hl hh) fun σ H Q ⟨G, O, a, q⟩ => ?_
  refine ⟨G, O, a, q.bind (RR := RH X.kw) fun O1 H1 a1 x h1 I1 e1 r1 q1 => ?_⟩
  refine ⟨G, O1, a1, q1.bind (RR := RPt) fun O2 H2 a2 l lo I2 e2 r2 q2 => ?_⟩
  refine ⟨G, O2, a2, q2.bind (RR := RPt) fun O3 H3 a3 h hi I3 e3 r3 q3 => ?_⟩
  cases r2
  cases r3
  obtain ⟨d, hd, q4⟩ := (At.getB q3).ofB
  obtain ⟨s, hs, q5⟩ := q4.of
  obtain ⟨h2, h3⟩ := nU_some hs
  exact gSl_ok I3.th (r1 O3 H3 a3 d I3 (e2.trans e3) hd) h2 (q5.out h3)
end

/-! ### displays -/
section
variable {X : Cx} {W : WB} {e : Expr} {es : List Expr} {pos : Pos}
theorem pds_nil : PDs X W [] (M.pure []) := PA.imp pa_nil fun σ H Q ⟨G, O, a, q⟩ => q.pure (v := []) .nil
def mDs (m : M PyData) (r : M (List PyData)) : M (List PyData) := M.bind m fun d => M.bind r fun ds => M.pure (d :: ds)
theorem pds_cons {m : M PyData} {r : M (List PyData)} (h : PD X W e m) (hr : PDs X W es r) (hs : starEach (e :: es) X.env = (false, eval e X.env) :: starEach es X.env := by rfl) : PDs X W (e :: es) (mDs m r) :=
  PA.imp (pa_cons h hr hs) fun σ H Q ⟨G, O, a, q⟩ => ⟨G, O, a, q.bind (RR := RD X.kw) fun O1 H1 a1 v d I1 e1 r1 q1 => ⟨G, O1, a1, q1.bind (RR := RDs X.kw) fun O2 H2 a2 vs ds I2 e2 r2 q2 =>
    q2.pure (.cons (R.mono e2 _ _ r1) r2)⟩⟩
def mHs (m : M Hn) (r : M (List Hn)) : M (List Hn) := M.bind m fun d => M.bind r fun ds => M.pure (d :: ds)
theorem phs_nil : PHs X W [] (M.pure []) := PA.imp pa_nil fun σ H Q ⟨G, O, a, q⟩ => q.pure (v := []) .nil
theorem RH.mono {K : KW} {G : Gd} {O O' : Own} {σ : St} {H H' : Hp} {a a' : AEnv} {v : V} {h : Hn} (e : Ext O H O' H') (r : RH K G O σ H a v h) : RH K G O' σ H' a' v h := fun O2 H2 a2 d I2 e2 h2 => r O2 H2 a2 d I2 (e.trans e2) h2
theorem phs_cons {m : M Hn} {r : M (List Hn)} (h : PH X W e m) (hr : PHs X W es r) (hs : starEach (e :: es) X.env = (false, eval e X.env) :: starEach es X.env := by rfl) : PHs X W (e :: es) (mHs m r) :=
  PA.imp (pa_cons h hr hs) fun σ H Q ⟨G, O, a, q⟩ => ⟨G, O, a, q.bind (RR := RH X.kw) fun O1 H1 a1 v d I1 e1 r1 q1 => ⟨G, O1, a1, q1.bind (RR := RHs X.kw) fun O2 H2 a2 vs ds I2 e2 r2 q2 =>
    q2.pure (.cons (RH.mono e2 r1) r2)⟩⟩
def mTup (m : M (List PyData)) : M PyData := M.bind m fun ds => M.of (if ds.length ≤ lineN then some (.tuple ds) else none)
theorem pd_tup {m : M (List PyData)} {x1} (h : PDs X W es m) : PD X W (.Tuple es x1 pos) (mTup m) :=
  PE.imp (pe_tup h) fun σ H Q ⟨G, O, a, q⟩ => ⟨G, O, a, q.bind (RR := RDs X.kw) fun O1 H1 a1 vs ds I1 e1 r1 q1 => by
    obtain ⟨d, hd, q2⟩ := q1.of
    split at hd
    · rename_i hz
      cases hd
      exact ⟨by rw [r1.length, line_eq]; exact hz, fun p hp => out_tup q2.outD I1.th hp r1⟩
    · cases hd⟩
def mLst (m : M (List PyData)) : M Sl := M.bind m fun ds => M.of (if ds.length ≤ lineN then some (.lst ds) else none)
theorem px_lst {m : M (List PyData)} (h : PDs X W es m) : PX X W (.List es pos) (mLst m) :=
  PE.imp (pe_lst h) fun σ H Q ⟨G, O, a, q⟩ => ⟨G, O, a, q.bind (RR := RDs X.kw) fun O1 H1 a1 vs ds I1 e1 r1 q1 => by
    obtain ⟨d, hd, q2⟩ := q1.of
    split at hd
    · rename_i hz
      cases hd
      exact ⟨by rw [r1.length, line_eq]; exact hz, fun p hp => out_lst (q2.out (by simp)) hp r1⟩
    · cases hd⟩
/-- {} -/
theorem px_dict0 : PX X W (.Dict [] [] pos) (M.pure (.dk [])) :=
  PE.imp pe_dnewK fun σ H Q ⟨G, O, a, q⟩ => fun d hd => (q.out (by simp)).new (Ex.new hd) hd upd_same (show Cont X.kw (hide O H) d (.dK []) (.dk []) from Paired.nil)
end

/-! ### calls of built-in functions -/
def RPs (K : KW) (O : Own) (H : Hp) : List V → List PyData → Prop := Paired (RP K O H)
def CX_ (K : KW) (r : List V → Hp → VK → Prop) (g : List PyData → Option Sl) : Prop := ∀ O H vs ds s Q, Thr O H → RPs K O H vs ds → g ds = some s → Out K O H s Q → r vs H Q
def CD_ (K : KW) (r : List V → Hp → VK → Prop) (g : List PyData → Option PyData) : Prop := ∀ O H vs ds s Q, Thr O H → RPs K O H vs ds → g ds = some s → (∀ H' v, Ex H H' → R K (hide O H') v s → Q v H') → r vs H Q
def rdAll (a : AEnv) : List Hn → Option (List PyData)
  | [] => some []
  | h :: hs => match h a with
    | none => none
    | some d => (rdAll a hs).map (d :: ·)
def mCall {γ : Type} (m : M (List Hn)) (g : List PyData → Option γ) : M γ := M.bind m fun hs => M.bind M.get fun a => M.bind (M.of (rdAll a hs)) fun ds => M.of (g ds)
theorem rdAll_some {K : KW} {G : Gd} {O : Own} {σ : St} {H : Hp} {a : AEnv} (I : SR K G O σ H a) : ∀ {vs : List V} {hs : List Hn} {ds : List PyData}, RHs K G O σ H a vs hs → rdAll a hs = some ds → RPs K O H vs ds
  | _, [], ds, r, h => by
    cases r
    cases h
    exact .nil
  | _, h :: hs, ds, r, e => by
    cases r with
    | cons r1 r2 =>
      unfold rdAll at e
      cases e1 : h a with
      | none => rw [e1] at e; cases e
      | some d =>
        rw [e1] at e
        cases e2 : rdAll a hs with
        | none =>
          have e' : (rdAll a hs).map (d :: ·) = some ds := e
          rw [e2] at e'
          cases e'
        | some ds' =>
          have e' : (rdAll a hs).map (d :: ·) = some ds := e
          rw [e2] at e'
          cases e'
          exact .cons (r1 O H a d I (Ext.refl _ _) e1) (rdAll_some I r2 e2)
section
variable {X : Cx} {W : WB} {x : Str} {p pos : Pos} {e : Expr} {es : List Expr} {m : M (List Hn)} {id T : String} {r : List V → Hp → VK → Prop}
theorem tM_call {γ : Type} {RR : RRel V γ} {g : List PyData → Option γ} {σ : St} {H : Hp} {Q : VK}
    (hg : ∀ G O a H vs ds s, SR X.kw G O σ H a → RPs X.kw O H vs ds → g ds = some s → At X.kw W RR (M.pure s) G O a σ H Q → r vs H Q)
    (h : tM X.kw W RR (mCall m g) σ H Q) : tCB r (tM X.kw W (RHs X.kw) m) σ H Q := by
  obtain ⟨G, O, a, q⟩ := h
  refine ⟨G, O, a, q.bind (RR := RHs X.kw) fun O1 H1 a1 x h1 I1 e1 r1 q1 => ?_⟩
  obtain ⟨d, hd, q3⟩ := (At.getB q1).ofB
  obtain ⟨s, hs, q5⟩ := q3.of
  exact hg G O1 a1 H1 x d s I1 (rdAll_some I1 r1 hd) hs q5
theorem px_callB {g : List PyData → Option Sl} (hc : CallR X (.builtin id) r) (hg : CX_ X.kw r g) (hgl : Gl X x) (hm : X.mg x = none) (hv : bootBuiltins x = some (.builtin id)) (ha : PHs X W (e :: es) m) (hn : x ≠ "__name__" := by decide) (hdb : (x == ("__debug__" : Str)) = false := by decide)
    (he : starEach (e :: es) X.env = (false, eval e X.env) :: starEach es X.env := by rfl) (hpl : (backTo pos (starEach es X.env)).any (·.1) = false := by rfl) : PX X W (.Call (.Name x p) (e :: es) [] pos) (mCall m fun ds => nU (g ds)) :=
  PE.imp (pe_callB hc hgl hm hv ha hn hdb he hpl) fun σ H Q h => tM_call (fun G O a H vs ds s I rs hs q => hg O H vs ds s Q I.th rs (nU_some hs).1 (q.out (nU_some hs).2)) h
theorem pd_callB {g : List PyData → Option PyData} (hc : CallR X (.builtin id) r) (hg : CD_ X.kw r g) (hgl : Gl X x) (hm : X.mg x = none) (hv : bootBuiltins x = some (.builtin id)) (ha : PHs X W (e :: es) m) (hn : x ≠ "__name__" := by decide) (hdb : (x == ("__debug__" : Str)) = false := by decide)
    (he : starEach (e :: es) X.env = (false, eval e X.env) :: starEach es X.env := by rfl) (hpl : (backTo pos (starEach es X.env)).any (·.1) = false := by rfl) : PD X W (.Call (.Name x p) (e :: es) [] pos) (mCall m g) :=
  PE.imp (pe_callB hc hgl hm hv ha hn hdb he hpl) fun σ H Q h => tM_call (fun G O a H vs ds s I rs hs q => hg O H vs ds s Q I.th rs hs q.outD) h
theorem px_callT {g : List PyData → Option Sl} (hc : CallR X (.type T) r) (hg : CX_ X.kw r g) (hgl : Gl X x) (hm : X.mg x = none) (hv : bootBuiltins x = some (.type T)) (ha : PHs X W (e :: es) m) (hn : x ≠ "__name__" := by decide) (hdb : (x == ("__debug__" : Str)) = false := by decide)
    (he : starEach (e :: es) X.env = (false, eval e X.env) :: starEach es X.env := by rfl) (hpl : (backTo pos (starEach es X.env)).any (·.1) = false := by rfl) : PX X W (.Call (.Name x p) (e :: es) [] pos) (mCall m fun ds => nU (g ds)) :=
  PE.imp (pe_callTy hc hgl hm hv ha hn hdb he hpl) fun σ H Q h => tM_call (fun G O a H vs ds s I rs hs q => hg O H vs ds s Q I.th rs (nU_some hs).1 (q.out (nU_some hs).2)) h
theorem pd_callT {g : List PyData → Option PyData} (hc : CallR X (.type T) r) (hg : CD_ X.kw r g) (hgl : Gl X x) (hm : X.mg x = none) (hv : bootBuiltins x = some (.type T)) (ha : PHs X W (e :: es) m) (hn : x ≠ "__name__" := by decide) (hdb : (x == ("__debug__" : Str)) = false := by decide)
    (he : starEach (e :: es) X.env = (false, eval e X.env) :: starEach es X.env := by rfl) (hpl : (backTo pos (starEach es X.env)).any (·.1) = false := by rfl) : PD X W (.Call (.Name x p) (e :: es) [] pos) (mCall m g) :=
  PE.imp (pe_callTy hc hgl hm hv ha hn hdb he hpl) fun σ H Q h => tM_call (fun G O a H vs ds s I rs hs q => hg O H vs ds s Q I.th rs hs q.outD) h
end
theorem RPs.one {K : KW} {O : Own} {H : Hp} {vs : List V} {d : PyData} (h : RPs K O H vs [d]) : ∃ v, vs = [v] ∧ RP K O H v d := by
  cases h with
  | cons h1 h2 => cases h2; exact ⟨_, rfl, h1⟩
theorem RPs.two {K : KW} {O : Own} {H : Hp} {vs : List V} {d e : PyData} (h : RPs K O H vs [d, e]) : ∃ v w, vs = [v, w] ∧ RP K O H v d ∧ RP K O H w e := by
  cases h with
  | cons h1 h2 =>
    cases h2 with
    | cons h2 h3 => cases h3; exact ⟨_, _, rfl, h1, h2⟩
/-- len -/
def gLen : List PyData → Option PyData
  | [.list xs] => some (.int xs.length)
  | [.tuple xs] => some (.int xs.length)
  | [.str z] => if z.length ≤ lineN then some (.int z.length) else none
  | _ => none
def rLenA (K : KW) : List V → Hp → VK → Prop := fun xs H Q => (∃ p ys, xs = [.ref p] ∧ (SqL K H p ys ∨ SqT K H p ys) ∧ Q (.int ys.length) H) ∨ (∃ z, xs = [.str z] ∧ z.length ≤ sizeLine ∧ Q (.int z.length) H)
section
variable {X : Cx} {K : KW}
theorem call_lenA : CallR X (.builtin "len") (rLenA X.kw) := CallR.or call_len_seq call_len_str
theorem gLen_ok : CD_ K (rLenA K) gLen := by
  intro O H vs ds s Q th rs hg q
  unfold gLen at hg
  split at hg
  · cases hg
    obtain ⟨v, rfl, r⟩ := rs.one
    obtain ⟨p, ys, rfl, h1, r1⟩ := r.lst
    exact .inl ⟨p, ys, rfl, .inl h1, by rw [r1.length]; exact out_same q (.int _)⟩
  · cases hg
    obtain ⟨v, rfl, r⟩ := rs.one
    obtain ⟨p, ys, rfl, h1, r1⟩ := r.tup
    exact .inl ⟨p, ys, rfl, .inr h1, by rw [r1.length]; exact out_same q (.int _)⟩
  · split at hg
    · rename_i hz
      cases hg
      obtain ⟨v, rfl, r⟩ := rs.one
      cases r.str
      exact .inr ⟨_, rfl, by rw [line_eq]; exact hz, out_same q (.int _)⟩
    · cases hg
  · cases hg
/-- list(x), tuple(x) of a list or a tuple -/
def gList : List PyData → Option Sl
  | [.list xs] => some (.lst xs)
  | [.tuple xs] => some (.lst xs)
  | _ => none
theorem gList_ok : CX_ K (fun xs H Q => ∃ p ys, xs = [.ref p] ∧ (SqL K H p ys ∨ SqT K H p ys) ∧ ∀ l, H l = none → Q (.ref l) (upd H l (.lst ys))) gList := by
  intro O H vs ds s Q th rs hg q
  unfold gList at hg
  split at hg
  · cases hg
    obtain ⟨v, rfl, r⟩ := rs.one
    obtain ⟨p, ys, rfl, h1, r1⟩ := r.lst
    exact ⟨p, ys, rfl, .inl h1, fun l hl => out_lst q hl r1⟩
  · cases hg
    obtain ⟨v, rfl, r⟩ := rs.one
    obtain ⟨p, ys, rfl, h1, r1⟩ := r.tup
    exact ⟨p, ys, rfl, .inr h1, fun l hl => out_lst q hl r1⟩
  · cases hg
def gTuple : List PyData → Option PyData
  | [.list xs] => some (.tuple xs)
  | [.tuple xs] => some (.tuple xs)
  | _ => none
theorem gTuple_ok : CD_ K (fun xs H Q => ∃ p ys, xs = [.ref p] ∧ ((SqL K H p ys ∧ ∀ l, H l = none → Q (.ref l) (upd H l (.tup ys))) ∨ (SqT K H p ys ∧ Q (.ref p) H))) gTuple := by
  intro O H vs ds s Q th rs hg q
  unfold gTuple at hg
  split at hg
  · cases hg
    obtain ⟨v, rfl, r⟩ := rs.one
    obtain ⟨p, ys, rfl, h1, r1⟩ := r.lst
    exact ⟨p, ys, rfl, .inl ⟨h1, fun l hl => out_tup q th hl r1⟩⟩
  · cases hg
    obtain ⟨v, rfl, r⟩ := rs.one
    have r' := r.tupR
    obtain ⟨p, ys, rfl, h1, r1⟩ := r.tup
    exact ⟨p, ys, rfl, .inr ⟨h1, out_same q r'⟩⟩
  · cases hg
/-- all, any, sum, max, min of a list -/
def boolsD : List PyData → Option (List Bool)
  | [] => some []
  | .bool b :: r => (boolsD r).map (b :: ·)
  | _ => none
def intsD : List PyData → Option (List Int)
  | [] => some []
  | .int b :: r => (intsD r).map (b :: ·)
  | _ => none
theorem boolsD_some : ∀ {ds : List PyData} {bs : List Bool}, boolsD ds = some bs → ds = bs.map PyData.bool
  | [], bs, h => by cases h; rfl
  | d :: ds, bs, h => by
    cases d with
    | bool b =>
      have h' : (boolsD ds).map (b :: ·) = some bs := h
      cases e : boolsD ds with
      | none => rw [e] at h'; cases h'
      | some cs =>
        rw [e] at h'
        cases h'
        rw [boolsD_some e]
        rfl
    | _ => cases h
theorem intsD_some : ∀ {ds : List PyData} {bs : List Int}, intsD ds = some bs → ds = bs.map PyData.int
  | [], bs, h => by cases h; rfl
  | d :: ds, bs, h => by
    cases d with
    | int b =>
      have h' : (intsD ds).map (b :: ·) = some bs := h
      cases e : intsD ds with
      | none => rw [e] at h'; cases h'
      | some cs =>
        rw [e] at h'
        cases h'
        rw [intsD_some e]
        rfl
    | _ => cases h
theorem intsD_map (ns : List Int) : intsD (ns.map PyData.int) = some ns := by
  induction ns with
  | nil => rfl
  | cons n ns ih => show (intsD (ns.map PyData.int)).map (n :: ·) = _; rw [ih]; rfl
theorem boolsD_map (ns : List Bool) : boolsD (ns.map PyData.bool) = some ns := by
  induction ns with
  | nil => rfl
  | cons n ns ih => show (boolsD (ns.map PyData.bool)).map (n :: ·) = _; rw [ih]; rfl
theorem RAll.bools {K : PySem.W.Frag} {H : Vw} : ∀ {vs : List V} {ns : List Bool}, RAll K H vs (ns.map PyData.bool) → vs = ns.map V.bl
  | _, [], h => by cases h; rfl
  | _, n :: ns, h => by
    cases h with
    | cons h1 h2 =>
      cases h1
      rw [h2.bools]
      rfl
def gAll : List PyData → Option PyData
  | [.list xs] => (boolsD xs).map fun bs => .bool (bs.all id)
  | _ => none
def gAny : List PyData → Option PyData
  | [.list xs] => (boolsD xs).map fun bs => .bool (bs.any id)
  | _ => none
def gSum : List PyData → Option PyData
  | [.list xs] => (intsD xs).map fun bs => .int bs.sum
  | _ => none
theorem gAll_ok : CD_ K (rAll K) gAll := by
  intro O H vs ds s Q th rs hg q
  unfold gAll at hg
  split at hg
  · rename_i xs
    cases e : boolsD xs with
    | none => rw [e] at hg; cases hg
    | some bs =>
      rw [e] at hg
      cases hg
      obtain ⟨v, rfl, r⟩ := rs.one
      obtain ⟨p, ys, rfl, h1, r1⟩ := r.lst
      rw [boolsD_some e] at r1
      rw [r1.bools] at h1
      exact ⟨p, bs, rfl, h1, out_same q (.bl _)⟩
  · cases hg
theorem gAny_ok : CD_ K (rAny K) gAny := by
  intro O H vs ds s Q th rs hg q
  unfold gAny at hg
  split at hg
  · rename_i xs
    cases e : boolsD xs with
    | none => rw [e] at hg; cases hg
    | some bs =>
      rw [e] at hg
      cases hg
      obtain ⟨v, rfl, r⟩ := rs.one
      obtain ⟨p, ys, rfl, h1, r1⟩ := r.lst
      rw [boolsD_some e] at r1
      rw [r1.bools] at h1
      exact ⟨p, bs, rfl, h1, out_same q (.bl _)⟩
  · cases hg
theorem gSum_ok : CD_ K (rSum K) gSum := by
  intro O H vs ds s Q th rs hg q
  unfold gSum at hg
  split at hg
  · rename_i xs
    cases e : intsD xs with
    | none => rw [e] at hg; cases hg
    | some bs =>
      rw [e] at hg
      cases hg
      obtain ⟨v, rfl, r⟩ := rs.one
      obtain ⟨p, ys, rfl, h1, r1⟩ := r.lst
      rw [intsD_some e] at r1
      rw [r1.ints] at h1
      exact ⟨p, bs, rfl, h1, out_same q (.int _)⟩
  · cases hg
/-- max(xs), min(xs): a list of ints that is not empty -/
def maxI : List Int → Option Int
  | [] => none
  | [a] => some a
  | a :: r => (maxI r).map fun m => if m > a then m else a
def minI : List Int → Option Int
  | [] => none
  | [a] => some a
  | a :: r => (minI r).map fun m => if m < a then m else a
theorem maxI_spec : ∀ {ns : List Int} {m : Int}, maxI ns = some m → m ∈ ns ∧ ∀ y ∈ ns, y ≤ m
  | [], m, h => by cases h
  | [a], m, h => by cases h; simp
  | a :: b :: r, m, h => by
    have h' : (maxI (b :: r)).map (fun m => if m > a then m else a) = some m := h
    cases e : maxI (b :: r) with
    | none => rw [e] at h'; cases h'
    | some k =>
      rw [e] at h'
      obtain ⟨h1, h2⟩ := maxI_spec e
      have h'' : (if k > a then k else a) = m := Option.some.inj h'
      subst h''
      constructor
      · split
        · exact List.mem_cons_of_mem _ h1
        · exact List.mem_cons_self
      · intro y hy
        rcases List.mem_cons.mp hy with rfl | hy
        · split <;> omega
        · have := h2 y hy
          split <;> omega
theorem minI_spec : ∀ {ns : List Int} {m : Int}, minI ns = some m → m ∈ ns ∧ ∀ y ∈ ns, m ≤ y
  | [], m, h => by cases h
  | [a], m, h => by cases h; simp
  | a :: b :: r, m, h => by
    have h' : (minI (b :: r)).map (fun m => if m < a then m else a) = some m := h
    cases e : minI (b :: r) with
    | none => rw [e] at h'; cases h'
    | some k =>
      rw [e] at h'
      obtain ⟨h1, h2⟩ := minI_spec e
      have h'' : (if k < a then k else a) = m := Option.some.inj h'
      subst h''
      constructor
      · split
        · exact List.mem_cons_of_mem _ h1
        · exact List.mem_cons_self
      · intro y hy
        rcases List.mem_cons.mp hy with rfl | hy
        · split <;> omega
        · have := h2 y hy
          split <;> omega
def gMax1 : List PyData → Option PyData
  | [.list xs] => (intsD xs).bind fun ns => (maxI ns).map .int
  | _ => none
def gMin1 : List PyData → Option PyData
  | [.list xs] => (intsD xs).bind fun ns => (minI ns).map .int
  | _ => none
theorem gMax1_ok : CD_ K (rMax K) gMax1 := by
  intro O H vs ds s Q th rs hg q
  unfold gMax1 at hg
  split at hg
  · rename_i xs
    cases e : intsD xs with
    | none => rw [e] at hg; cases hg
    | some ns =>
      rw [e] at hg
      cases e2 : maxI ns with
      | none =>
        have hg' : (maxI ns).map PyData.int = some s := hg
        rw [e2] at hg'
        cases hg'
      | some k =>
        have hg' : (maxI ns).map PyData.int = some s := hg
        rw [e2] at hg'
        cases hg'
        obtain ⟨v, rfl, r⟩ := rs.one
        obtain ⟨p, ys, rfl, h1, r1⟩ := r.lst
        rw [intsD_some e] at r1
        rw [r1.ints] at h1
        obtain ⟨k1, k2⟩ := maxI_spec e2
        refine ⟨p, ns, rfl, h1, List.length_pos_of_mem k1, fun m hm hle => ?_⟩
        have em : m = k := Int.le_antisymm (k2 m hm) (hle k k1)
        rw [em]
        exact out_same q (.int _)
  · cases hg
theorem gMin1_ok : CD_ K (rMin K) gMin1 := by
  intro O H vs ds s Q th rs hg q
  unfold gMin1 at hg
  split at hg
  · rename_i xs
    cases e : intsD xs with
    | none => rw [e] at hg; cases hg
    | some ns =>
      rw [e] at hg
      cases e2 : minI ns with
      | none =>
        have hg' : (minI ns).map PyData.int = some s := hg
        rw [e2] at hg'
        cases hg'
      | some k =>
        have hg' : (minI ns).map PyData.int = some s := hg
        rw [e2] at hg'
        cases hg'
        obtain ⟨v, rfl, r⟩ := rs.one
        obtain ⟨p, ys, rfl, h1, r1⟩ := r.lst
        rw [intsD_some e] at r1
        rw [r1.ints] at h1
        obtain ⟨k1, k2⟩ := minI_spec e2
        refine ⟨p, ns, rfl, h1, List.length_pos_of_mem k1, fun m hm hle => ?_⟩
        have em : m = k := Int.le_antisymm (hle k k1) (k2 m hm)
        rw [em]
        exact out_same q (.int _)
  · cases hg
/-- max(i, j), min(i, j) -/
def gMax2 : List PyData → Option PyData
  | [.int i, .int j] => some (.int (if j > i then j else i))
  | _ => none
def gMin2 : List PyData → Option PyData
  | [.int i, .int j] => some (.int (if j < i then j else i))
  | _ => none
/-- isinstance -/
def tyD : PyData → String
  | .none => "NoneType"
  | .bool _ => "bool"
  | .int _ => "int"
  | .str _ => "str"
  | .list _ => "list"
  | .tuple _ => "tuple"
  | .dict _ => "dict"
@[simp] def isBx : PyData → Bool
  | .dict (_ :: _) => true
  | _ => false
theorem R.ty {K : PySem.W.Frag} {H : Vw} {x : V} {d : PyData} (h : R K H x d) (nb : isBx d = false) : TyX K H.h x (.type (tyD d)) := by
  cases h with
  | non => exact .base .non
  | bl b => exact .base (.bl b)
  | int i => exact .base (.int i)
  | str x => exact .base (.str x)
  | lst h1 h2 =>
    rcases h1 with (h1 | ⟨o, h1⟩) | ⟨o, its, n, h1, h2, _⟩
    · exact .base (.lst h1)
    · exact .base (.frz h1)
    · exact .kList h1 h2
  | tup h1 h2 =>
    exact .base (.tup h1)
  | dic0 h1 => exact .base (.dK h1)
  | bx _ => cases nb
def isiD (T : String) (d : PyData) : Option PyData := if isBx d = true then none else (kitB (tyD d) T).map .bool
end
section
variable {X : Cx} {W : WB} {p p2 pos : Pos} {e : Expr} {m : M Hn} {T : String} {x : Str}
theorem pd_isi (hgl : Gl X "isinstance") (hm : X.mg "isinstance" = none) (hgx : Gl X x) (hmx : X.mg x = none) (hv : bootBuiltins x = some (.type T)) (ha : PH X W e m) (hn : x ≠ "__name__" := by decide) (hdb : (x == ("__debug__" : Str)) = false := by decide)
    (he1 : starEach [e, .Name x p2] X.env = (false, eval e X.env) :: starEach [.Name x p2] X.env := by rfl) (he2 : starEach [.Name x p2] X.env = (false, eval (.Name x p2) X.env) :: starEach [] X.env := by rfl)
    (hpl : (backTo pos (starEach [.Name x p2] X.env)).any (·.1) = false := by rfl) : PD X W (.Call (.Name "isinstance" p) [e, .Name x p2] [] pos) (mU m (isiD T)) := by
  have hT : PE X (.Name x p2) (tC (.ty T)) := pe_bltn hgx hmx hv rfl hn hdb
  refine PE.imp (pe_callB call_isi hgl hm PyProof.Rows.boot_isinstance (pa_cons ha (pa_cons hT pa_nil he2) he1) (by decide) (by decide) he1 hpl) fun σ H Q h => ?_
  refine tM_un (T := fun x1 H1 => (tCons (tC (.ty T)) tNil) σ H1 fun xs H2 => rIsi X.K (x1 :: xs) H2 Q) (fun G O a H x d s I rx hs q => ?_) h
  unfold isiD at hs
  split at hs
  · cases hs
  rename_i nb
  have nb : isBx d = false := by simpa using nb
  cases hk : kitB (tyD d) T with
  | none => rw [hk] at hs; cases hs
  | some b =>
    rw [hk] at hs
    cases hs
    exact ⟨x, .ty T, _, _, b, rfl, .ty T, R.ty rx.full nb, kit_ty hk, q.outD H _ (Ex.refl _) (.bl b)⟩
end
end Am

/-! Am4: statements, loops, comprehensions. -/
namespace Am
open PySem L2

inductive Fl where
  | nx | brk | ct
  | ret (s : Sl)
def FinS (K : KW) (W : WB) (G : Gd) (O : Own) (H : Hp) (x : Except Exc Fl × AEnv) (D : Ends) : Prop := match x with
  | (.ok .nx, a') => ∀ O' σ' H', SR K G O' σ' H' a' → Ext O H O' H' → D.nx σ' H'
  | (.ok .brk, a') => ∀ O' σ' H', SR K G O' σ' H' a' → Ext O H O' H' → D.bk σ' H'
  | (.ok .ct, a') => ∀ O' σ' H', SR K G O' σ' H' a' → Ext O H O' H' → D.ct σ' H'
  | (.ok (.ret s), a') => ∀ O' σ' H' v, SR K G O' σ' H' a' → Ext O H O' H' → RS K G O' σ' H' a' v s → D.rt v H'
  | (.error e, a') => ∀ O' σ' H' d, SR K G O' σ' H' a' → Ext O H O' H' → ExcR K O' H' d e → W.f (.ref (clsA K.k e.cls)) d σ' H'
structure StAt (K : KW) (W : WB) (m : M Fl) (G : Gd) (O : Own) (a : AEnv) (σ : St) (H : Hp) (D : Ends) : Prop where
  sr : SR K G O σ H a
  op : W.opn = true → G.opn = true
  go : ∃ x, m a = some x ∧ FinS K W G O H x D
def sM (K : KW) (W : WB) (m : M Fl) : TS := fun D σ H => ∃ G O a, StAt K W m G O a σ H D
abbrev PSM (X : Cx) (W : WB) (st : Stmt) (m : M Fl) : Prop := PS X st (sM X.kw W m)
abbrev PSsM (X : Cx) (W : WB) (st : List Stmt) (m : M Fl) : Prop := PSs X st (sM X.kw W m)
theorem FinS.ext {K : KW} {W : WB} {G : Gd} {O O1 : Own} {H H1 : Hp} {x : Except Exc Fl × AEnv} {D : Ends} (F : FinS K W G O H x D) (e1 : Ext O H O1 H1) : FinS K W G O1 H1 x D := by
  obtain ⟨r, a⟩ := x
  cases r with
  | error e => exact fun O' σ' H' d I e2 q => F O' σ' H' d I (e1.trans e2) q
  | ok f =>
    cases f with
    | nx => exact fun O' σ' H' I e2 => F O' σ' H' I (e1.trans e2)
    | brk => exact fun O' σ' H' I e2 => F O' σ' H' I (e1.trans e2)
    | ct => exact fun O' σ' H' I e2 => F O' σ' H' I (e1.trans e2)
    | ret s => exact fun O' σ' H' v I e2 q => F O' σ' H' v I (e1.trans e2) q

section
variable {K : KW} {W : WB} {G : Gd} {O : Own} {a : AEnv} {σ : St} {H : Hp} {D : Ends} {ν α : Type} {RR : RRel ν α} {m : M α} {f : α → M Fl} {Q1 : ν → Hp → Prop}
/-- from a statement's mirror to its first expression's -/
theorem StAt.bind (h : StAt K W (M.bind m f) G O a σ H D) (k : ∀ O1 H1 a1 v r, SR K G O1 σ H1 a1 → Ext O H O1 H1 → RR G O1 σ H1 a1 v r → StAt K W (f r) G O1 a1 σ H1 D → Q1 v H1) : tM K W RR m σ H Q1 := by
  obtain ⟨I, op, x, e, F⟩ := h
  refine ⟨G, O, a, I, op, ?_⟩
  unfold M.bind at e
  cases em : m a with
  | none => rw [em] at e; cases e
  | some y =>
    refine ⟨y, rfl, ?_⟩
    obtain ⟨y1, a1⟩ := y
    rw [em] at e
    cases y1 with
    | error er =>
      have e' : (Except.error er, a1) = x := Option.some.inj e
      subst e'
      exact fun O' H' d I' e1 q => F O' σ H' d I' e1 q
    | ok r =>
      have e' : f r a1 = some x := e
      exact fun O1 H1 v I1 e1 r1 => k O1 H1 a1 v r I1 e1 r1 ⟨I1, op, x, e', F.ext e1⟩
theorem StAt.nx {G : Gd} {a : AEnv} (h : StAt K W (M.pure .nx) G O a σ H D) : D.nx σ H := by
  obtain ⟨I, op, x, e, F⟩ := h
  have e' : (Except.ok Fl.nx, a) = x := Option.some.inj e
  subst e'
  exact F O σ H I (Ext.refl _ _)
theorem StAt.of {γ : Type} {o : Option γ} {f : γ → M Fl} (h : StAt K W (M.bind (M.of o) f) G O a σ H D) : ∃ r, o = some r ∧ StAt K W (f r) G O a σ H D := by
  obtain ⟨I, op, x, e, F⟩ := h
  cases o with
  | none => cases e
  | some r => exact ⟨r, rfl, I, op, x, e, F⟩
theorem StAt.get {f : AEnv → M Fl} (h : StAt K W (M.bind M.get f) G O a σ H D) : StAt K W (f a) G O a σ H D := by
  obtain ⟨I, op, x, e, F⟩ := h
  exact ⟨I, op, x, e, F⟩
theorem StAt.grow {m : M Fl} {H' : Hp} (h : StAt K W m G O a σ H D) (e : Ex H H') : StAt K W m G O a σ H' D :=
  ⟨h.sr.grow e, h.op, h.go.imp fun x q => ⟨q.1, q.2.ext (ext_grow e)⟩⟩
end

/-! ### blocks -/
def mSeq (m r : M Fl) : M Fl := M.bind m fun f => match f with
  | .nx => r
  | f => M.pure f
section
variable {X : Cx} {W : WB} {st : Stmt} {rest : List Stmt} {m r : M Fl} {e : Expr} {pos : Pos}
theorem StAt.seq {K : KW} {G : Gd} {O : Own} {a : AEnv} {σ : St} {H : Hp} {D : Ends} (h : StAt K W (mSeq m r) G O a σ H D) : StAt K W m G O a σ H { D with nx := sM K W r D } := by
  obtain ⟨I, op, x, e, F⟩ := h
  refine ⟨I, op, ?_⟩
  unfold mSeq M.bind at e
  cases em : m a with
  | none => rw [em] at e; cases e
  | some y =>
    refine ⟨y, rfl, ?_⟩
    obtain ⟨y1, a1⟩ := y
    rw [em] at e
    cases y1 with
    | error er =>
      have e' : (Except.error er, a1) = x := Option.some.inj e
      subst e'
      exact F
    | ok f =>
      cases f with
      | nx =>
        have e' : r a1 = some x := e
        exact fun O' σ' H' I' e1 => ⟨G, O', a1, I', op, x, e', F.ext e1⟩
      | brk =>
        have e' : (Except.ok Fl.brk, a1) = x := Option.some.inj e
        subst e'
        exact F
      | ct =>
        have e' : (Except.ok Fl.ct, a1) = x := Option.some.inj e
        subst e'
        exact F
      | ret s =>
        have e' : (Except.ok (Fl.ret s), a1) = x := Option.some.inj e
        subst e'
        exact F
theorem mss_nil : PSsM X W [] (M.pure .nx) := PSs.imp pss_nil fun D σ H ⟨G, O, a, h⟩ => h.nx
theorem mss_cons (h1 : PSM X W st m) (h2 : PSsM X W rest r) : PSsM X W (st :: rest) (mSeq m r) :=
  PSs.imp (pss_cons h1 h2) fun D σ H ⟨G, O, a, h⟩ => ⟨G, O, a, h.seq⟩
theorem mss_one (h1 : PSM X W st m) : PSsM X W [st] m := PSs.imp (pss_one h1) fun D σ H h => h
theorem ms_pass : PSM X W (.Pass pos) (M.pure .nx) := PS.imp ps_pass fun D σ H ⟨G, O, a, h⟩ => h.nx
theorem ms_doc {x j pos'} : PSM X W (.Expr (.Constant (.str x) j pos) pos') (M.pure .nx) := PS.imp ps_doc fun D σ H ⟨G, O, a, h⟩ => h.nx
theorem ms_break : PSM X W (.Break pos) (M.pure .brk) := PS.imp ps_break fun D σ H ⟨G, O, a, I, op, x, e, F⟩ => by
  have e' : (Except.ok Fl.brk, a) = x := Option.some.inj e
  subst e'
  exact F O σ H I (Ext.refl _ _)
theorem ms_continue : PSM X W (.Continue pos) (M.pure .ct) := PS.imp ps_continue fun D σ H ⟨G, O, a, I, op, x, e, F⟩ => by
  have e' : (Except.ok Fl.ct, a) = x := Option.some.inj e
  subst e'
  exact F O σ H I (Ext.refl _ _)
/-- an expression as a statement -/
def mDrop {γ : Type} (m : M γ) : M Fl := M.bind m fun _ => M.pure .nx
theorem ms_expr {γ : Type} {RR : RRel V γ} {k : M γ} (h : PE X e (tM X.kw W RR k)) (hs : swapsWith e none pos.line X.env = pure false := by rfl) : PSM X W (.Expr e pos) (mDrop k) :=
  PS.imp (ps_expr h hs) fun D σ H ⟨G, O, a, q⟩ => q.bind (RR := RR) fun O1 H1 a1 v r I1 e1 r1 q1 => q1.nx
def mRet (m : M Sl) : M Fl := M.bind m fun s => M.pure (.ret s)
theorem ms_ret {k : M Sl} (h : PX X W e k) : PSM X W (.Return (some e) pos) (mRet k) :=
  PS.imp (ps_ret h) fun D σ H ⟨G, O, a, q⟩ => q.bind (RR := RS X.kw) fun O1 H1 a1 v r I1 e1 r1 q1 => by
    obtain ⟨I, op, x, e, F⟩ := q1
    have e' : (Except.ok (Fl.ret r), a1) = x := Option.some.inj e
    subst e'
    exact F O1 σ H1 v I (Ext.refl _ _) r1
theorem ms_retN : PSM X W (.Return none pos) (M.pure (.ret (.dat .none))) := PS.imp ps_retN fun D σ H ⟨G, O, a, I, op, x, e, F⟩ => by
  have e' : (Except.ok (Fl.ret (.dat .none)), a) = x := Option.some.inj e
  subst e'
  exact F O σ H .non I (Ext.refl _ _) (.inl ⟨_, rfl, .non⟩)
def mIfS (c : M Bool) (m r : M Fl) : M Fl := M.bind c fun b => if b = true then m else r
theorem ms_if {c : Expr} {a b : List Stmt} {k : M Bool} (hc : PB X W c k) (ha : PSsM X W a m) (hb : PSsM X W b r) : PSM X W (.If c a b pos) (mIfS k m r) :=
  PS.imp (ps_if hc ha hb) fun D σ H ⟨G, O, a, q⟩ => q.bind (RR := RB) fun O1 H1 a1 v b I1 e1 r1 q1 => by
    cases (show v = b from r1)
    cases v with
    | true => exact ⟨G, O1, a1, q1⟩
    | false => exact ⟨G, O1, a1, q1⟩
end

/-! ### assignments -/
section
variable {K : KW} {G : Gd} {O : Own} {a : AEnv} {σ : St} {H : Hp}
/-- a name's slot takes a value -/
def putS (i : Nat) (s : Sl) : AEnv → Option AEnv := fun a => if s.owned = true ∧ i = 0 then none else if i < a.length then some (a.set i s) else none
theorem putS_some {i : Nat} {s : Sl} {a a' : AEnv} (h : putS i s a = some a') : ¬ (s.owned = true ∧ i = 0) ∧ i < a.length ∧ a' = a.set i s := by
  unfold putS at h
  split at h
  · cases h
  · split at h
    · cases h
      exact ⟨by assumption, by assumption, rfl⟩
    · cases h
theorem SR.put (I : SR K G O σ H a) {i : Nat} {s : Sl} {v : V} (hi' : i < σ.length) (r : RS K G O σ H a v s) {a' : AEnv} (h : putS i s a = some a') : SR K G O (σ.set i (some v)) H a' := by
  obtain ⟨h0, hi, rfl⟩ := putS_some h
  have at_i : ∀ {t}, (a.set i s)[i]? = some t → t = s := fun {t} z => by rw [List.getElem?_set_self hi] at z; exact (Option.some.inj z).symm
  have ne_i : ∀ {j t}, i ≠ j → (a.set i s)[j]? = some t → a[j]? = some t := fun {j t} e z => by rw [List.getElem?_set_ne e] at z; exact z
  have sx_i : ∀ {x}, (σ.set i (some v))[i]? = some x → x = some v := fun {x} z => by rw [List.getElem?_set_self hi'] at z; exact (Option.some.inj z).symm
  have sx_n : ∀ {j x}, i ≠ j → (σ.set i (some v))[j]? = some x → σ[j]? = some x := fun {j x} e z => by rw [List.getElem?_set_ne e] at z; exact z
  have nb : s.owned = true → ∀ (j : Nat) t p, v = .ref p → a[j]? = some t → t.owned = true → σ[j]? ≠ some (some (.ref p)) := fun hs j t p hp => by
    rcases r with ⟨d, rfl, _⟩ | ⟨_, p', ho, e, _, _, _, nb, _⟩ | ⟨d, _, rfl, _⟩
    · cases hs
    · rw [e] at hp
      cases hp
      exact nb j t
    · cases hs
  refine ⟨I.ex, I.xs, I.th, by simpa using I.len, fun j t x h1 h2 => ?_, fun j k p t u hjk h1 h2 ht hu e1 e2 => ?_, fun p hp t h1 ht => ?_, fun j t p h1 ht h2 => ?_, fun p t hp => ?_, I.ghn, ⟨I.rr.sub, I.rr.nd, fun j t p h1 ht h2 => ?_, I.rr.gh, fun ho => (I.rr.bs ho).imp fun bs z => ⟨by rw [List.length_set, List.getElem?_set_ne (Nat.ne_of_lt hi')]; exact z.1, z.2⟩, I.rr.bB, I.rr.rc⟩⟩
  · by_cases e : i = j
    · subst e
      cases at_i h1
      cases sx_i h2
      rcases r with ⟨d, rfl, r⟩ | ⟨hs, p, ho, rfl, hm, hp, c, _⟩ | ⟨d, p, rfl, rfl, r⟩
      · exact ⟨v, rfl, r⟩
      · exact (SlR.own hs).mpr ⟨p, ho, rfl, hm, hp, c⟩
      · exact ⟨p, rfl, r⟩
    · exact I.sl j t x (ne_i e h1) (sx_n e h2)
  · by_cases e : i = j
    · subst e
      have hk : i ≠ k := hjk
      cases at_i h1
      have hv := sx_i e1
      cases hv
      exact nb ht k u p rfl (ne_i hk h2) hu (sx_n hk e2)
    · by_cases e' : i = k
      · subst e'
        cases at_i h2
        have hv := sx_i e2
        cases hv
        exact nb hu j t p rfl (ne_i e h1) ht (sx_n e e1)
      · exact I.inj j k p t u hjk (ne_i e h1) (ne_i e' h2) ht hu (sx_n e e1) (sx_n e' e2)
  · by_cases e : i = 0
    · subst e
      cases at_i h1
      exact absurd ⟨ht, rfl⟩ h0
    · rw [List.getElem?_set_ne e]
      exact I.anc p hp t (ne_i e h1) ht
  · by_cases e : i = j
    · subst e
      cases at_i h1
      have hv := sx_i h2
      cases hv
      rcases r with ⟨d, rfl, r⟩ | ⟨_, p', ho, e, _, _, _, _, _, hB, _⟩ | ⟨d, _, rfl, _⟩
      · cases ht
      · cases e
        exact hB
      · cases ht
    · exact I.fr j t p (ne_i e h1) ht (sx_n e h2)
  · obtain ⟨h1, h2, h3⟩ := I.gh p t hp
    refine ⟨h1, h2, fun j u h4 hu h5 => ?_⟩
    by_cases e : i = j
    · subst e
      cases at_i h4
      have hv := sx_i h5
      cases hv
      rcases r with ⟨d, rfl, r⟩ | ⟨_, p', ho, e, _, _, _, _, ng, _⟩ | ⟨d, _, rfl, _⟩
      · cases hu
      · cases e
        exact ng t hp
      · cases hu
    · exact h3 j u (ne_i e h4) hu (sx_n e h5)
  · by_cases e : i = j
    · subst e
      cases at_i h1
      have hv := sx_i h2
      cases hv
      rcases r with ⟨d, rfl, r⟩ | ⟨_, p', ho, e, _, _, _, _, _, _, nr⟩ | ⟨d, _, rfl, _⟩
      · cases ht
      · cases e
        exact nr
      · cases ht
    · exact I.rr.sl j t p (ne_i e h1) ht (sx_n e h2)
/-- a statement that ends with a new state -/
def mPut (f : AEnv → Option AEnv) : M Fl := fun a => (f a).map fun a' => (.ok .nx, a')
theorem StAt.put {W : WB} {D : Ends} {f : AEnv → Option AEnv} (h : StAt K W (mPut f) G O a σ H D) : ∃ a', f a = some a' ∧ ∀ O' σ' H', SR K G O' σ' H' a' → Ext O H O' H' → D.nx σ' H' := by
  obtain ⟨I, op, x, e, F⟩ := h
  unfold mPut at e
  cases h : f a with
  | none => rw [h] at e; cases e
  | some a' =>
    rw [h] at e
    cases e
    exact ⟨a', rfl, F⟩
end
section
variable {X : Cx} {W : WB} {e : Expr} {pos pos' : Pos} {x : Str}
theorem slot_ok {pins : List (Addr × Obj)} {s : Shared} {σ : St} {H : Hp} {i : Nat} {x : Str} (I : Inv X pins σ H s) (hi : X.N[i]? = some x) : i < σ.length := by
  rw [I.len]
  exact (List.getElem?_eq_some_iff.mp hi).1
def mAsg (i : Nat) (m : M Sl) : M Fl := M.bind m fun s => mPut (putS i s)
theorem ms_set {i : Nat} {k : M Sl} (hN : X.N.Nodup) (hi : X.N[i]? = some x) (hx : Loc X.env.scope x) (h : PX X W e k) (hs : swapsWith e (some (.Name x pos')) pos.line X.env = pure false := by rfl)
    (hf : X.fn x = true ∨ X.env.scope.names.lookup x = some .local := by first | exact .inl rfl | exact .inr rfl | assumption) : PSM X W (.Assign [.Name x pos'] e pos) (mAsg i k) :=
  ⟨fun pins s σ H D I ⟨G, O, a, q⟩ => (ps_set hN hi hx h hs hf).run pins s σ H D I (q.bind (RR := RS X.kw) fun O1 H1 a1 v s I1 e1 r1 q1 => by
    obtain ⟨a', h1, h2⟩ := q1.put
    exact h2 O1 _ H1 (I1.put (slot_ok I hi) r1 h1) (Ext.refl _ _))⟩
/-- x += e -/
def mAug (i : Nat) (m : M PyData) (g : D2) : M Fl := fun a => match a[i]? with
  | some (.dat d) => (M.bind m fun e => M.bind (M.of (g d e)) fun z => mPut (putS i (.dat z))) a
  | _ => none
theorem ms_aug {i : Nat} {k : M PyData} {op : Operator} {r : TIp} {g : D2} (ho : PIp X op r) (hg : OpD X.kw r g) (hN : X.N.Nodup) (hi : X.N[i]? = some x) (hx : Loc X.env.scope x) (h : PD X W e k)
    (hf : X.fn x = true ∨ X.env.scope.names.lookup x = some .local := by first | exact .inl rfl | exact .inr rfl | assumption) : PSM X W (.AugAssign (.Name x pos') op e pos) (mAug i k g) := by
  refine ⟨fun pins s σ H D I0 ⟨G, O, a, q⟩ => (ps_aug hN hi hx h ho hf).run pins s σ H D I0 ?_⟩
  obtain ⟨I, op, y, ey, F⟩ := q
  unfold mAug at ey
  cases hs : a[i]? with
  | none => rw [hs] at ey; cases ey
  | some s =>
    rw [hs] at ey
    cases s with
    | dat d =>
      obtain ⟨v, hv, rv⟩ := I.dat hs
      refine ⟨v, hv, ?_⟩
      have q2 : StAt X.kw W (M.bind k fun e => M.bind (M.of (g d e)) fun z => mPut (putS i (.dat z))) G O a σ H D := ⟨I, op, y, ey, F⟩
      refine q2.bind (RR := RD X.kw) fun O1 H1 a1 u e I1 e1 r1 q3 => ?_
      obtain ⟨z, hz, q4⟩ := q3.of
      refine hg O1 H1 v u d e z _ I1.th (.inl (R.mono e1 _ _ rv)) (.inl r1) hz fun H' w ex rw' => ?_
      obtain ⟨a', h1, h2⟩ := q4.put
      exact h2 O1 _ H' ((I1.grow ex).put (slot_ok I0 hi) (.inl ⟨z, rfl, rw'⟩) h1) (ext_grow ex)
    | _ => cases ey
/-! targets -/
inductive Tgt where
  | nm (i : Nat)
  | tp (ts : List Tgt)
mutual
def Tgt.put : Tgt → PyData → AEnv → Option AEnv
  | .nm i, d, a => putS i (.dat d) a
  | .tp ts, .tuple ds, a => Tgt.puts ts ds a
  | .tp _, _, _ => none
def Tgt.puts : List Tgt → List PyData → AEnv → Option AEnv
  | [], [], a => some a
  | t :: ts, d :: ds, a => match t.put d a with
    | none => none
    | some a' => Tgt.puts ts ds a'
  | _, _, _ => none
end
mutual
def Tgt.rd (K : KW) : Tgt → TG
  | .nm i => fun v σ H Q => i < σ.length → gName i v σ H Q
  | .tp ts => gTup K ts.length (Tgt.rds K ts)
def Tgt.rds (K : KW) : List Tgt → TGs
  | [] => gNil
  | t :: ts => gCons (t.rd K) (Tgt.rds K ts)
end
mutual
def Tgt.slots : Tgt → List Nat
  | .nm i => [i]
  | .tp ts => Tgt.slotss ts
def Tgt.slotss : List Tgt → List Nat
  | [] => []
  | t :: ts => t.slots ++ Tgt.slotss ts
end
/-- σ' is σ but for the slots vs -/
def Alike (vs : List Nat) (σ σ' : St) : Prop := ∀ i, i ∉ vs → σ'[i]? = σ[i]?
mutual
theorem Tgt.run {K : KW} {G : Gd} {O : Own} {H : Hp} : ∀ (t : Tgt) {d : PyData} {v : V} {σ : St} {a a' : AEnv} {Q : St → Hp → Prop}, SR K G O σ H a → R K (hide O H) v d → t.put d a = some a' →
    (∀ σ', SR K G O σ' H a' → Alike t.slots σ σ' → Q σ' H) → t.rd K v σ H Q
  | .nm i, d, v, σ, a, a', Q, I, r, h, q => by
    simp only [Tgt.put] at h
    simp only [Tgt.rd]
    intro hi
    refine q _ (I.put hi (.inl ⟨d, rfl, r⟩) h) fun j hj => ?_
    rw [List.getElem?_set_ne (fun e => hj (by rw [e]; simp [Tgt.slots]))]
  | .tp ts, d, v, σ, a, a', Q, I, r, h, q => by
    cases d with
    | tuple ds =>
      simp only [Tgt.put] at h
      cases r with
      | tup h1 h2 =>
        have hl := Tgt.puts_len ts h
        exact ⟨_, _, rfl, SqT.of ((hide_ex O H).h _ _ h1), by rw [h2.length, hl], Tgt.runs ts I h2 h fun σ' I' al => q σ' I' (by simpa [Tgt.slots] using al)⟩
    | _ => simp [Tgt.put] at h
theorem Tgt.runs {K : KW} {G : Gd} {O : Own} {H : Hp} : ∀ (ts : List Tgt) {ds : List PyData} {vs : List V} {σ : St} {a a' : AEnv} {Q : St → Hp → Prop}, SR K G O σ H a → RAll K (hide O H) vs ds → Tgt.puts ts ds a = some a' →
    (∀ σ', SR K G O σ' H a' → Alike (Tgt.slotss ts) σ σ' → Q σ' H) → Tgt.rds K ts vs σ H Q
  | [], ds, vs, σ, a, a', Q, I, r, h, q => by
    cases ds with
    | nil =>
      cases r
      simp only [Tgt.puts] at h
      cases h
      exact ⟨rfl, q σ I fun _ _ => rfl⟩
    | cons _ _ => simp [Tgt.puts] at h
  | t :: ts, ds, vs, σ, a, a', Q, I, r, h, q => by
    cases ds with
    | nil => simp [Tgt.puts] at h
    | cons d ds =>
      cases r with
      | cons r1 r2 =>
        simp only [Tgt.puts] at h
        cases h1 : t.put d a with
        | none => rw [h1] at h; cases h
        | some a1 =>
          rw [h1] at h
          refine ⟨_, _, rfl, Tgt.run t I r1 h1 fun σ1 I1 al1 => Tgt.runs ts I1 r2 h fun σ2 I2 al2 => q σ2 I2 fun i hi => ?_⟩
          have hi' : i ∉ t.slots ∧ i ∉ Tgt.slotss ts := by simpa [Tgt.slotss] using hi
          rw [al2 i hi'.2, al1 i hi'.1]
theorem Tgt.puts_len : ∀ (ts : List Tgt) {ds : List PyData} {a a' : AEnv}, Tgt.puts ts ds a = some a' → ds.length = ts.length
  | [], ds, a, a', h => by
    cases ds with
    | nil => rfl
    | cons _ _ => simp [Tgt.puts] at h
  | t :: ts, ds, a, a', h => by
    cases ds with
    | nil => simp [Tgt.puts] at h
    | cons d ds =>
      simp only [Tgt.puts] at h
      cases h1 : t.put d a with
      | none => rw [h1] at h; cases h
      | some a1 =>
        rw [h1] at h
        rw [List.length_cons, List.length_cons, Tgt.puts_len ts h]
end
mutual
theorem Tgt.put_length : ∀ (t : Tgt) {d : PyData} {a a' : AEnv}, t.put d a = some a' → a'.length = a.length
  | .nm i, d, a, a', h => by
    simp only [Tgt.put] at h
    obtain ⟨_, _, rfl⟩ := putS_some h
    simp
  | .tp ts, d, a, a', h => by
    cases d with
    | tuple ds =>
      simp only [Tgt.put] at h
      exact Tgt.puts_length ts h
    | _ => simp [Tgt.put] at h
theorem Tgt.puts_length : ∀ (ts : List Tgt) {ds : List PyData} {a a' : AEnv}, Tgt.puts ts ds a = some a' → a'.length = a.length
  | [], ds, a, a', h => by
    cases ds with
    | nil => simp only [Tgt.puts] at h; cases h; rfl
    | cons _ _ => simp [Tgt.puts] at h
  | t :: ts, ds, a, a', h => by
    cases ds with
    | nil => simp [Tgt.puts] at h
    | cons d ds =>
      simp only [Tgt.puts] at h
      cases h1 : t.put d a with
      | none => rw [h1] at h; cases h
      | some a1 =>
        rw [h1] at h
        rw [Tgt.puts_length ts h, Tgt.put_length t h1]
end
theorem pgt_nm (i : Nat) (hN : X.N.Nodup) (hi : X.N[i]? = some x) (hx : Loc X.env.scope x) (hf : X.fn x = true ∨ X.env.scope.names.lookup x = some .local := by first | exact .inl rfl | exact .inr rfl | assumption) : PG X (.Name x pos) ((Tgt.nm i).rd X.kw) := by
  simp only [Tgt.rd]
  exact ⟨fun pins s σ H v u Q I r h => (pg_name hN hi hx hf).run pins s σ H v u Q I r (h (slot_ok I hi))⟩
theorem pgts_nil : PGs X [] (Tgt.rds X.kw []) := by
  simp only [Tgt.rds]
  exact pgs_nil
theorem pgts_cons {es : List Expr} {t : Tgt} {ts : List Tgt} (h1 : PG X e (t.rd X.kw)) (h2 : PGs X es (Tgt.rds X.kw ts)) (hs : (assignEach (e :: es) X.env).map (·.2) = assign e X.env :: (assignEach es X.env).map (·.2) := by rfl) : PGs X (e :: es) (Tgt.rds X.kw (t :: ts)) := by
  simp only [Tgt.rds]
  exact pgs_cons h1 h2 hs
theorem pgt_tp {es : List Expr} {k : Nat} {ts : List Tgt} (hc : X.calm = true) (h : PGs X es (Tgt.rds X.kw ts)) (hn : (assignEach es X.env).length = ts.length := by rfl) (hst : (assignEach es X.env).findIdx? (·.1) = none := by rfl) :
    PG X (.Tuple es k pos) ((Tgt.tp ts).rd X.kw) := by
  simp only [Tgt.rd]
  exact pg_tup hc h hn hst
/-- (a, b, ..) = data -/
def mAsgT (t : Tgt) (m : M PyData) : M Fl := M.bind m fun d => mPut (t.put d)
theorem ms_asg {t : Tgt} {tg : Expr} {k : M PyData} (hg : PG X tg (t.rd X.kw)) (h : PD X W e k) (hs : swapsWithSole [tg] e pos.line X.env = pure false := by rfl) (hw : swappedStores [tg] e X.env = pure none := by rfl)
    (h1 : (assignEach [tg] X.env).map (·.2) = [assign tg X.env] := by rfl) : PSM X W (.Assign [tg] e pos) (mAsgT t k) :=
  PS.imp (ps_asg h hg hs hw h1) fun D σ H ⟨G, O, a, q⟩ => q.bind (RR := RD X.kw) fun O1 H1 a1 v d I1 e1 r1 q1 => by
    obtain ⟨a', h1, h2⟩ := q1.put
    exact t.run I1 r1 h1 fun σ' I' _ => h2 O1 σ' H1 I' (Ext.refl _ _)
end

/-! ### several values, each of them may be new -/
def RSs (K : KW) : Gd → Own → St → Hp → AEnv → List V → List Sl → Prop
  | _, _, _, _, _, [], [] => True
  | G, O, σ, H, a, v :: vs, s :: ss => RS K G O σ H a v s ∧ if s.owned = true then ∃ p, v = .ref p ∧ RSs K (G.push p s) O σ H a vs ss else RSs K G O σ H a vs ss
  | _, _, _, _, _, _, _ => False
def mSs (m : M Sl) (r : M (List Sl)) : M (List Sl) := M.bind m fun d => M.bind r fun ds => M.pure (d :: ds)
section
variable {X : Cx} {W : WB} {e : Expr} {es : List Expr}
abbrev PXs (X : Cx) (W : WB) (es : List Expr) (m : M (List Sl)) : Prop := PA X es (tM X.kw W (RSs X.kw) m)
theorem pxs_nil : PXs X W [] (M.pure []) := PA.imp pa_nil fun σ H Q ⟨G, O, a, q⟩ => q.pure (v := []) (by simp [RSs])
theorem pxs_cons {m : M Sl} {mr : M (List Sl)} (h : PX X W e m) (hr : PXs X W es mr) (hs : starEach (e :: es) X.env = (false, eval e X.env) :: starEach es X.env := by rfl) : PXs X W (e :: es) (mSs m mr) := by
  refine PA.imp (pa_cons h hr hs) fun σ H Q ⟨G, O, a, q⟩ => ⟨G, O, a, q.bind (RR := RS X.kw) fun O1 H1 a1 v s I1 e1 r1 q1 => ?_⟩
  have plain : s.owned = false → (∀ {O2 : Own} {H2 : Hp} {a2 : AEnv}, SR X.kw G O2 σ H2 a2 → Ext O1 H1 O2 H2 → RS X.kw G O2 σ H2 a2 v s) → tM X.kw W (RSs X.kw) mr σ H1 fun vs H2 => Q (v :: vs) H2 := fun hs k =>
    ⟨G, O1, a1, q1.bind (RR := RSs X.kw) fun O2 H2 a2 vs ss I2 e2 r2 q2 => q2.pure (show RSs X.kw G O2 σ H2 a2 (v :: vs) (s :: ss) from ⟨k I2 e2, by rw [if_neg (by rw [hs]; decide)]; exact r2⟩)⟩
  rcases r1 with ⟨d, rfl, r⟩ | r | ⟨d, p, rfl, rfl, r⟩
  · exact plain rfl fun _ e2 => .inl ⟨d, rfl, R.mono e2 _ _ r⟩
  · obtain ⟨hs', p, ho, rfl, hm, hp, c, nb, ng, nB, nr⟩ := id r
    have IP := I1.push r
    have q1' : At X.kw W (RSs X.kw) (M.bind mr fun ds => M.pure (s :: ds)) G O1 a1 σ H1 Q := q1
    -- the rest under a ghost
    obtain ⟨_, op, x, ex, F⟩ := q1'
    refine ⟨G.push p s, O1, a1, IP, op, ?_⟩
    unfold M.bind at ex
    cases er : mr a1 with
    | none => rw [er] at ex; cases ex
    | some y =>
      refine ⟨y, rfl, ?_⟩
      obtain ⟨y1, a2⟩ := y
      rw [er] at ex
      cases y1 with
      | error e =>
        have ex' : (Except.error e, a2) = x := Option.some.inj ex
        subst ex'
        exact fun O' H' d I' e' q => F O' H' d (I'.pop hs').1 e' q
      | ok ss =>
        have ex' : (Except.ok (s :: ss), a2) = x := Option.some.inj ex
        subst ex'
        intro O' H' vs I' e' r'
        exact F O' H' (.ref p :: vs) (I'.pop hs').1 e' ⟨.inr (.inl (I'.pop hs').2), by rw [if_pos hs']; exact ⟨p, rfl, r'⟩⟩
  · exact plain rfl fun _ e2 => .inr (.inr ⟨d, p, rfl, rfl, r.mono e2⟩)
end
section
variable {X : Cx} {W : WB} {pos : Pos} {K : KW}
/-- two slots take two values; stored from the right -/
def put2 (i j : Nat) (s t : Sl) : AEnv → Option AEnv := fun a => (putS i s a).bind (putS j t)
theorem RS.step {G : Gd} {O : Own} {σ : St} {H : Hp} {a a' : AEnv} {i : Nat} {v w : V} {s t : Sl} (I : SR K G O σ H a) (hi' : i < σ.length) (rs : RSs K G O σ H a [v, w] [s, t]) (h : putS i s a = some a') :
    RS K G O (σ.set i (some v)) H a' w t := by
  obtain ⟨r1, r2⟩ := rs
  obtain ⟨_, hi, rfl⟩ := putS_some h
  have key : ∀ G', (∀ p, (∃ u, (p, u) ∈ G.gh) → ∃ u, (p, u) ∈ G'.gh) → (s.owned = true → ∀ p, v = .ref p → ∃ u, (p, u) ∈ G'.gh) → G'.B = G.B → RS K G' O σ H a w t → RS K G O (σ.set i (some v)) H (a.set i s) w t := fun G' hG hv hB r => by
    rcases r with ⟨d, rfl, r⟩ | ⟨hs, p, ho, rfl, hm, hp, c, nb, ng, nB, nr⟩ | r
    · exact .inl ⟨d, rfl, r⟩
    · refine .inr (.inl ⟨hs, p, ho, rfl, hm, hp, c, fun j u h1 hu h2 => ?_, fun u hu => (by obtain ⟨u', z⟩ := hG p ⟨u, hu⟩; exact ng u' z), hB ▸ nB, nr⟩)
      by_cases e : i = j
      · subst e
        rw [List.getElem?_set_self hi] at h1
        rw [List.getElem?_set_self hi'] at h2
        cases h1
        cases h2
        obtain ⟨u', z⟩ := hv hu p rfl
        exact ng u' z
      · rw [List.getElem?_set_ne e] at h1 h2
        exact nb j u h1 hu h2
    · exact .inr (.inr r)
  by_cases hs : s.owned = true
  · rw [if_pos hs] at r2
    obtain ⟨p, rfl, r2⟩ := r2
    exact key (G.push p s) (fun q ⟨u, z⟩ => ⟨u, List.mem_cons_of_mem _ z⟩) (fun _ q e => by cases e; exact ⟨_, List.mem_cons_self⟩) rfl r2.1
  · rw [if_neg hs] at r2
    exact key G (fun _ z => z) (fun z => absurd z hs) rfl r2.1
def mPar (i j : Nat) (m : M (List Sl)) : M Fl := M.bind m fun ss => match ss with
  | [s, t] => mPut (put2 i j s t)
  | _ => M.fail
theorem RSs.length {O : Own} {σ : St} {H : Hp} {a : AEnv} : ∀ {vs : List V} {ss : List Sl} {G : Gd}, RSs K G O σ H a vs ss → vs.length = ss.length
  | [], [], _, _ => rfl
  | [], _ :: _, _, h => h.elim
  | _ :: _, [], _, h => h.elim
  | v :: vs, s :: ss, G, h => by
    have h2 := h.2
    rw [List.length_cons, List.length_cons]
    split at h2
    · obtain ⟨p, _, h2⟩ := h2
      rw [RSs.length h2]
    · rw [RSs.length h2]
theorem RSs.two {G : Gd} {O : Own} {σ : St} {H : Hp} {a : AEnv} {vs : List V} {s t : Sl} (r : RSs K G O σ H a vs [s, t]) : ∃ v w, vs = [v, w] := by
  have hl := r.length
  match vs, hl with
  | [v, w], _ => exact ⟨v, w, rfl⟩
theorem ms_par {i j : Nat} {x y : Str} {a b : Expr} {px py pt : Pos} {kt k2 pt2} {m : M (List Sl)} (hc : X.calm = true) (hN : X.N.Nodup) (hi : X.N[i]? = some x) (hj : X.N[j]? = some y) (hij : i ≠ j)
    (hx : X.env.scope.names.lookup x = some .local) (hy : X.env.scope.names.lookup y = some .local) (ha : PXs X W [a, b] m)
    (hw : swappedStores [.Tuple [.Name x px, .Name y py] kt pt] (.Tuple [a, b] k2 pt2) X.env = pure (some [x, y]))
    (hs : swapsWithSole [.Tuple [.Name x px, .Name y py] kt pt] (.Tuple [a, b] k2 pt2) pos.line X.env = pure false := by rfl) :
    PSM X W (.Assign [.Tuple [.Name x px, .Name y py] kt pt] (.Tuple [a, b] k2 pt2) pos) (mPar i j m) :=
  ⟨fun pins s0 σ H D I0 ⟨G, O, a, q⟩ => (ps_par hc hN hi hj hij hx hy ha hw hs).run pins s0 σ H D I0 (q.bind (RR := RSs X.kw) fun O1 H1 a1 vs ss I1 e1 r1 q1 => by
    cases ss with
    | nil => obtain ⟨_, _, _, z, _⟩ := q1; cases z
    | cons s ss =>
      cases ss with
      | nil => obtain ⟨_, _, _, z, _⟩ := q1; cases z
      | cons t ss =>
        cases ss with
        | cons _ _ => obtain ⟨_, _, _, z, _⟩ := q1; cases z
        | nil =>
          obtain ⟨v, w, rfl⟩ := RSs.two r1
          obtain ⟨a', h1, h2⟩ := StAt.put q1
          unfold put2 at h1
          cases h3 : putS i s a1 with
          | none => rw [h3] at h1; cases h1
          | some a2 =>
            rw [h3] at h1
            exact ⟨v, w, rfl, h2 O1 _ H1 ((I1.put (slot_ok I0 hi) r1.1 h3).put (by rw [List.length_set]; exact slot_ok I0 hj) (RS.step I1 (slot_ok I0 hi) r1 h3) h1) (Ext.refl _ _)⟩)⟩
end
end Am

/-! Am5: loops, comprehensions. -/
namespace Am
open PySem L2

/-! ### what is walked -/
/-- J walks items, in every state where what was to be seen at O1, H1 is to be seen -/
structure Wk (K : KW) (O1 : Own) (H1 : Hp) (J : It) (items : List PyData) : Prop where
  go : ∀ O H i, Ext O1 H1 O H → i < items.length → J.go i H
  stop : ∀ O H, Ext O1 H1 O H → J.stop items.length H
  yld : ∀ O H i x H', Thr O H → Ext O1 H1 O H → i < items.length → J.yld i H x H' → Ex H H' ∧ ∃ d, items[i]? = some d ∧ R K (hide O H') x d
theorem Wk.mono {K : KW} {O1 O2 : Own} {H1 H2 : Hp} {J : It} {items : List PyData} (w : Wk K O1 H1 J items) (e : Ext O1 H1 O2 H2) : Wk K O2 H2 J items :=
  ⟨fun O H i e2 hi => w.go O H i (e.trans e2) hi, fun O H e2 => w.stop O H (e.trans e2), fun O H i x H' t e2 hi y => w.yld O H i x H' t (e.trans e2) hi y⟩
/-- the reading: items, walked by J -/
def tI (K : KW) (W : WB) (m : M (List PyData)) : TI := fun σ H R => tM K W (fun _ O _ H _ J items => Wk K O H J items) m σ H R
abbrev PIM (X : Cx) (W : WB) (tg e : Expr) (m : M (List PyData)) : Prop := PI X tg e (tI X.kw W m)
theorem PI.imp {X : Cx} {tg e : Expr} {t u : TI} (h : PI X tg e t) (k : ∀ σ H R, u σ H R → t σ H R) : PI X tg e u := ⟨fun pins s σ H R I q => h.run pins s σ H R I (k σ H R q)⟩
theorem PI.or {X : Cx} {tg e : Expr} {t u : TI} (h : PI X tg e t) (h' : PI X tg e u) : PI X tg e (fun σ H R => t σ H R ∨ u σ H R) := ⟨fun pins s σ H R I q => by
  rcases q with q | q
  · exact h.run pins s σ H R I q
  · exact h'.run pins s σ H R I q⟩
section
variable {X : Cx} {W : WB} {tg e : Expr}
theorem SqL.inj_hide {K : PySem.W.Frag} {H : Hp} {a : Addr} {xs ys : List V} (h : SqL K H a xs) (g : SqL K H a ys) (I : ∃ X pins σ s, L2.Inv X pins σ H s ∧ X.K = K) : xs = ys := by
  obtain ⟨X, pins, σ, s, I, rfl⟩ := I
  exact I.list_inj h g
def seqItems : PyData → Option (List PyData)
  | .list xs => some xs
  | .tuple xs => some xs
  | _ => none
theorem wk_list {K : KW} {O1 : Own} {H1 : Hp} {a : Addr} {vs : List V} {ds : List PyData} (h : SqL K (hide O1 H1).h a vs) (r : RAll K (hide O1 H1) vs ds) : Wk K O1 H1 (Itl K a) ds := by
  refine ⟨fun O H i e hi => ?_, fun O H e => ?_, fun O H i x H' th e hi y => ?_⟩
  · have hi' : i < vs.length := by rw [r.length]; exact hi
    exact ⟨vs, vs[i], ((e.trans (hide_ex O H)).h.l h), by simp [hi']⟩
  · exact ⟨vs, (e.trans (hide_ex O H)).h.l h, Nat.le_of_eq r.length⟩
  · obtain ⟨rfl, y⟩ := y
    have hx := y vs ((e.trans (hide_ex O _)).h.l h)
    obtain ⟨d, hd, rd⟩ := r.getV i hx
    exact ⟨Ex.refl _, d, hd, R.mono e _ _ rd⟩
theorem wk_tup {K : KW} {O1 : Own} {H1 : Hp} {a : Addr} {vs : List V} {ds : List PyData} (h : (hide O1 H1).h a = some (.tup vs)) (r : RAll K (hide O1 H1) vs ds) : Wk K O1 H1 (Itt K a) ds := by
  refine ⟨fun O H i e hi => ?_, fun O H e => ?_, fun O H i x H' th e hi y => ?_⟩
  · have hi' : i < vs.length := by rw [r.length]; exact hi
    exact ⟨vs, vs[i], (SqT.of ((e.trans (hide_ex O H)).h _ _ h)), by simp [hi']⟩
  · exact ⟨vs, SqT.of ((e.trans (hide_ex O H)).h _ _ h), Nat.le_of_eq r.length⟩
  · obtain ⟨rfl, y⟩ := y
    have hx := y vs (SqT.of ((e.trans (hide_ex O _)).h _ _ h))
    obtain ⟨d, hd, rd⟩ := r.getV i hx
    exact ⟨Ex.refl _, d, hd, R.mono e _ _ rd⟩
def mIter (m : M PyData) : M (List PyData) := M.bind m fun d => M.of (seqItems d)
theorem At.bindE {K : KW} {ν μ α β : Type} {RR : RRel ν α} {RS : RRel μ β} {m : M α} {f : α → M β} {G : Gd} {O : Own} {a : AEnv} {σ : St} {H : Hp} {Q : μ → Hp → Prop} {Q1 : ν → Hp → Prop} (h : At K W RS (M.bind m f) G O a σ H Q)
    (k : ∀ O1 H1 a1 v r, m a = some (.ok r, a1) → SR K G O1 σ H1 a1 → Ext O H O1 H1 → RR G O1 σ H1 a1 v r → At K W RS (f r) G O1 a1 σ H1 Q → Q1 v H1) : At K W RR m G O a σ H Q1 := by
  have key : At K W (fun G' O' σ' H' a' v r => m a = some (.ok r, a') ∧ RR G' O' σ' H' a' v r) m G O a σ H Q1 := h.bind fun O1 H1 a1 v r I1 e1 r1 q1 => k O1 H1 a1 v r r1.1 I1 e1 r1.2 q1
  obtain ⟨I, op, x, ex, F⟩ := key
  refine ⟨I, op, x, ex, ?_⟩
  obtain ⟨x1, a1⟩ := x
  cases x1 with
  | error e => exact F
  | ok r => exact fun O' H' v I' e' q => F O' H' v I' e' ⟨ex, q⟩
/-- which of the two walks it is, is told by the mirror's own answer -/
theorem pim_seq {m : M PyData} (h : PD X W e m) : PIM X W tg e (mIter m) := by
  refine ⟨fun pins s σ H R I ⟨G, O, a, q⟩ => ?_⟩
  by_cases hl : ∃ ds a1, m a = some (.ok (.list ds), a1)
  · obtain ⟨ds, a1, hm⟩ := hl
    refine (pi_list h).run pins s σ H R I ⟨G, O, a, q.bindE (RR := RD X.kw) fun O1 H1 a2 v d ed I1 e1 r1 q1 => ?_⟩
    rw [hm] at ed
    cases ed
    obtain ⟨items, hi, q2⟩ := q1.of
    cases hi
    cases r1 with
    | lst h1 h2 => exact ⟨_, rfl, ⟨_, (hide_ex _ _).h.l h1⟩, q2.pure (wk_list h1 h2)⟩
  · refine (pi_tup h).run pins s σ H R I ⟨G, O, a, q.bindE (RR := RD X.kw) fun O1 H1 a2 v d ed I1 e1 r1 q1 => ?_⟩
    obtain ⟨items, hi, q2⟩ := q1.of
    cases d with
    | list ds => exact absurd ⟨ds, a2, ed⟩ hl
    | tuple ds =>
      cases hi
      cases r1 with
      | tup h1 h2 => exact ⟨_, rfl, ⟨_, SqT.of ((hide_ex _ _).h _ _ h1)⟩, q2.pure (wk_tup h1 h2)⟩
    | _ => cases hi
/-- range -/
def rangeD (lo : Int) (n : Nat) : List PyData := (List.range n).map fun i => .int (lo + (i : Nat))
theorem wk_range {K : KW} {O1 : Own} {H1 : Hp} {lo : Int} {n : Nat} : Wk K O1 H1 (Itr lo n) (rangeD lo n) := by
  have hl : (rangeD lo n).length = n := by simp [rangeD]
  refine ⟨fun O H i e hi => by rw [hl] at hi; exact hi, fun O H e => Nat.le_of_eq hl.symm, fun O H i x H' th e hi y => ?_⟩
  obtain ⟨rfl, rfl⟩ := y
  rw [hl] at hi
  exact ⟨Ex.refl _, .int (lo + (i : Nat)), by simp [rangeD, hi], .int _⟩
def gR1 : List PyData → Option (List PyData)
  | [.int j] => if decide (-(2 ^ 62) ≤ j) && decide (j < 2 ^ 62) then some (rangeD 0 j.toNat) else none
  | _ => none
def gR2 : List PyData → Option (List PyData)
  | [.int i, .int j] => if (decide (-(2 ^ 62) ≤ i) && decide (i < 2 ^ 62)) && (decide (-(2 ^ 62) ≤ j) && decide (j < 2 ^ 62)) then some (rangeD i (j - i).toNat) else none
  | _ => none
def mRng (m : M (List PyData)) (g : List PyData → Option (List PyData)) : M (List PyData) := M.bind m fun ds => M.of (g ds)
theorem pim_range1 {a : Expr} {p pos : Pos} {m : M (List PyData)} (hg : Gl X "range") (hm : X.mg "range" = none) (ha : PDs X W [a] m) (hs : starEach [a] X.env = [(false, eval a X.env)] := by rfl) : PIM X W tg (.Call (.Name "range" p) [a] [] pos) (mRng m gR1) :=
  PI.imp (pi_range1 hg hm ha hs) fun σ H R ⟨G, O, a, q⟩ => ⟨G, O, a, q.bind (RR := RDs X.kw) fun O1 H1 a1 vs ds I1 e1 r1 q1 => by
    obtain ⟨items, hi, q2⟩ := q1.of
    unfold gR1 at hi
    split at hi
    · split at hi
      · rename_i j hj
        cases hi
        have hj' := Bool.and_eq_true_iff.mp hj
        cases r1 with
        | cons r1 r2 =>
          cases r2
          cases r1
          exact ⟨j, rfl, of_decide_eq_true hj'.1, of_decide_eq_true hj'.2, q2.pure wk_range⟩
      · cases hi
    · cases hi⟩
theorem pim_range2 {a b : Expr} {p pos : Pos} {m : M (List PyData)} (hg : Gl X "range") (hm : X.mg "range" = none) (ha : PDs X W [a, b] m) (hs : starEach [a, b] X.env = [(false, eval a X.env), (false, eval b X.env)] := by rfl)
    (hs2 : starEach [b] X.env = [(false, eval b X.env)] := by rfl) : PIM X W tg (.Call (.Name "range" p) [a, b] [] pos) (mRng m gR2) :=
  PI.imp (pi_range2 hg hm ha hs hs2) fun σ H R ⟨G, O, a, q⟩ => ⟨G, O, a, q.bind (RR := RDs X.kw) fun O1 H1 a1 vs ds I1 e1 r1 q1 => by
    obtain ⟨items, hi, q2⟩ := q1.of
    unfold gR2 at hi
    split at hi
    · split at hi
      · rename_i i j hj
        cases hi
        have hj' := Bool.and_eq_true_iff.mp hj
        have h1 := Bool.and_eq_true_iff.mp hj'.1
        have h2 := Bool.and_eq_true_iff.mp hj'.2
        cases r1 with
        | cons r1 r2 =>
          cases r2 with
          | cons r2 r3 =>
            cases r3
            cases r1
            cases r2
            exact ⟨i, j, rfl, ⟨of_decide_eq_true h1.1, of_decide_eq_true h1.2, of_decide_eq_true h2.1, of_decide_eq_true h2.2⟩, q2.pure wk_range⟩
      · cases hi
    · cases hi⟩
end

/-! ### for -/
def forL (t : Tgt) (body : M Fl) : List PyData → M Fl
  | [] => M.pure .nx
  | d :: ds => fun a => match t.put d a with
    | none => none
    | some a1 => match body a1 with
      | none => none
      | some (.error e, a2) => some (.error e, a2)
      | some (.ok .nx, a2) => forL t body ds a2
      | some (.ok .ct, a2) => forL t body ds a2
      | some (.ok .brk, a2) => some (.ok .nx, a2)
      | some (.ok (.ret s), a2) => some (.ok (.ret s), a2)
def mFor (mi : M (List PyData)) (t : Tgt) (body : M Fl) : M Fl := M.bind mi fun items => forL t body items
section
variable {X : Cx} {W : WB} {tg e : Expr} {pos : Pos}
/-- the state behind a turn: the rest is to be walked, from a state that keeps what was to be seen -/
def ForN (K : KW) (W : WB) (G : Gd) (O1 : Own) (H1 : Hp) (D : Ends) (m : M Fl) : St → Hp → Prop := fun σ H => ∃ O a, Ext O1 H1 O H ∧ StAt K W m G O a σ H D
theorem StAt.forStep {K : KW} {G : Gd} {O O1 : Own} {a : AEnv} {σ : St} {H H1 : Hp} {D : Ends} {t : Tgt} {body : M Fl} {d : PyData} {ds : List PyData} (h : StAt K W (forL t body (d :: ds)) G O a σ H D) (e1 : Ext O1 H1 O H) :
    ∃ a1, t.put d a = some a1 ∧ ∀ σ' H', SR K G O σ' H' a1 → Ext O H O H' → sM K W body { D with nx := ForN K W G O1 H1 D (forL t body ds), ct := ForN K W G O1 H1 D (forL t body ds), bk := D.nx } σ' H' := by
  obtain ⟨I, op, x, ex, F⟩ := h
  unfold forL at ex
  cases h1 : t.put d a with
  | none => rw [h1] at ex; cases ex
  | some a1 =>
    refine ⟨a1, rfl, fun σ' H' I' e2 => ⟨G, O, a1, I', op, ?_⟩⟩
    have ex1 : (match body a1 with
      | none => none
      | some (.error e, a2) => some (.error e, a2)
      | some (.ok .nx, a2) => forL t body ds a2
      | some (.ok .ct, a2) => forL t body ds a2
      | some (.ok .brk, a2) => some (.ok .nx, a2)
      | some (.ok (.ret s), a2) => some (.ok (.ret s), a2)) = some x := by
      rw [h1] at ex
      exact ex
    have F2 := F.ext e2
    cases h2 : body a1 with
    | none => rw [h2] at ex1; cases ex1
    | some y =>
      rw [h2] at ex1
      refine ⟨y, rfl, ?_⟩
      obtain ⟨y1, a2⟩ := y
      cases y1 with
      | error er =>
        cases ex1
        exact F2
      | ok f =>
        cases f with
        | nx => exact fun O' σ2 H2 I2 e3 => ⟨O', a2, (e1.trans e2).trans e3, I2, op, x, ex1, F2.ext e3⟩
        | ct => exact fun O' σ2 H2 I2 e3 => ⟨O', a2, (e1.trans e2).trans e3, I2, op, x, ex1, F2.ext e3⟩
        | brk =>
          cases ex1
          exact F2
        | ret s =>
          cases ex1
          exact F2
theorem ms_for {t : Tgt} {mi : M (List PyData)} {body : List Stmt} {m : M Fl} (hp : PassesOwn (model X.prog X.w) X.A X.env X.xe) (hc : X.calm = true) (hi : PIM X W tg e mi) (hg : PG X tg (t.rd X.kw)) (hb : PSsM X W body m)
    (hs : ∀ x, foldedSetIterable e X.env x = Pure.pure x := by intro _; rfl) : PSM X W (.For tg e body [] pos) (mFor mi t m) := by
  refine PS.imp (ps_for hp hc hi hg hb hs) fun D σ H ⟨G, O, a, q⟩ => ?_
  refine q.bind (RR := fun _ O _ H _ J items => Wk X.kw O H J items) fun O1 H1 a1 J items I1 e1 w q1 => ?_
  refine ⟨fun i n σ' H' => n = items.length - i ∧ i ≤ items.length ∧ ∃ O' a', Ext O1 H1 O' H' ∧ StAt X.kw W (forL t m (items.drop i)) G O' a' σ' H' D, ⟨items.length, by simp, Nat.zero_le _, O1, a1, Ext.refl _ _, by simpa using q1⟩, ?_⟩
  rintro i n σ' H' ⟨rfl, hi, O', a', e2, q2⟩
  by_cases hlt : i < items.length
  · refine .inr ⟨w.go O' H' i e2 hlt, ForN X.kw W G O1 H1 D (forL t m (items.drop (i + 1))), fun σ2 H2 ⟨O2, a2, e3, q3⟩ => ⟨items.length - (i + 1), by omega, rfl, hlt, O2, a2, e3, q3⟩, fun x H2 y => ?_⟩
    obtain ⟨ex, d, hd, rd⟩ := w.yld O' H' i x H2 q2.sr.th e2 hlt y
    have hdr : items.drop i = d :: items.drop (i + 1) := by
      rw [List.drop_eq_getElem_cons hlt]
      have : items[i] = d := by
        have h2 : items[i]? = some items[i] := by simp [hlt]
        rw [h2] at hd
        exact Option.some.inj hd
      rw [this]
    rw [hdr] at q2
    obtain ⟨a2, h1, h2⟩ := q2.forStep e2
    exact t.run (q2.sr.grow ex) rd h1 fun σ2 I2 _ => h2 σ2 H2 I2 (ext_grow ex)
  · have e : i = items.length := by omega
    subst e
    rw [List.drop_length] at q2
    exact .inl ⟨w.stop O' H' e2, StAt.nx q2⟩
/-- while: with fuel -/
def mWhile (c : M Bool) (body : M Fl) : Nat → M Fl
  | 0 => M.fail
  | n + 1 => M.bind c fun b => if b = true then (fun a => match body a with
      | none => none
      | some (.error e, a2) => some (.error e, a2)
      | some (.ok .nx, a2) => mWhile c body n a2
      | some (.ok .ct, a2) => mWhile c body n a2
      | some (.ok .brk, a2) => some (.ok .nx, a2)
      | some (.ok (.ret s), a2) => some (.ok (.ret s), a2)) else M.pure .nx
theorem ms_while {c : Expr} {body : List Stmt} {k : M Bool} {m : M Fl} (n : Nat) (hp : PassesOwn (model X.prog X.w) X.A X.env X.xe) (hc : PB X W c k) (hb : PSsM X W body m) : PSM X W (.While c body [] pos) (mWhile k m n) := by
  refine PS.imp (ps_while hp hc hb) fun D σ H ⟨G, O, a, q⟩ => ?_
  refine ⟨fun n σ' H' => ∃ O' a', StAt X.kw W (mWhile k m n) G O' a' σ' H' D, ⟨n, O, a, q⟩, ?_⟩
  rintro n σ' H' ⟨O', a', q'⟩
  cases n with
  | zero => obtain ⟨_, _, _, z, _⟩ := q'; cases z
  | succ n =>
    refine StAt.bind (RR := RB) q' fun O1 H1 a1 v b I1 e1 r1 q1 => ?_
    cases (show v = b from r1)
    cases v with
    | false => exact StAt.nx q1
    | true =>
      refine ⟨fun σ2 H2 => ∃ O2 a2, StAt X.kw W (mWhile k m n) G O2 a2 σ2 H2 D, fun σ2 H2 q2 => ⟨n, Nat.lt_succ_self n, q2⟩, G, O1, a1, I1, q1.op, ?_⟩
      obtain ⟨_, op, x, ex, F⟩ := q1
      have ex1 : (match m a1 with
        | none => none
        | some (.error e, a2) => some (.error e, a2)
        | some (.ok .nx, a2) => mWhile k m n a2
        | some (.ok .ct, a2) => mWhile k m n a2
        | some (.ok .brk, a2) => some (.ok .nx, a2)
        | some (.ok (.ret s), a2) => some (.ok (.ret s), a2)) = some x := ex
      cases h2 : m a1 with
      | none => rw [h2] at ex1; cases ex1
      | some y =>
        rw [h2] at ex1
        refine ⟨y, rfl, ?_⟩
        obtain ⟨y1, a2⟩ := y
        cases y1 with
        | error er =>
          cases ex1
          exact F
        | ok f =>
          cases f with
          | nx => exact fun O' σ2 H2 I2 e3 => ⟨O', a2, I2, op, x, ex1, F.ext e3⟩
          | ct => exact fun O' σ2 H2 I2 e3 => ⟨O', a2, I2, op, x, ex1, F.ext e3⟩
          | brk =>
            cases ex1
            exact F
          | ret s =>
            cases ex1
            exact F
end
end Am

/-! Am6: comprehensions. -/
namespace Am
open PySem L2

def wipeA (a : AEnv) : List Nat → AEnv
  | [] => a
  | v :: vs => (wipeA a vs).set v .un
theorem wipe_get {σ : St} : ∀ {vs : List Nat} {i : Nat}, (wipe σ vs)[i]? = if i ∈ vs then (if i < σ.length then some none else none) else σ[i]?
  | [], i => by simp [wipe]
  | v :: vs, i => by
    unfold wipe
    by_cases h : v = i
    · subst h
      by_cases hl : v < (wipe σ vs).length
      · rw [List.getElem?_set_self hl, if_pos List.mem_cons_self, if_pos (by rw [wipe_length] at hl; exact hl)]
      · rw [List.getElem?_eq_none (by simpa using hl), if_pos List.mem_cons_self, if_neg (by rw [wipe_length] at hl; exact hl)]
    · rw [List.getElem?_set_ne h, wipe_get]
      by_cases hm : i ∈ vs
      · rw [if_pos hm, if_pos (List.mem_cons_of_mem _ hm)]
      · rw [if_neg hm, if_neg (fun z => (List.mem_cons.mp z).elim (fun z => h z.symm) hm)]
theorem wipeA_length (a : AEnv) : ∀ vs : List Nat, (wipeA a vs).length = a.length
  | [] => rfl
  | v :: vs => by unfold wipeA; rw [List.length_set, wipeA_length a vs]
theorem wipeA_get {a : AEnv} : ∀ {vs : List Nat} {i : Nat}, (wipeA a vs)[i]? = if i ∈ vs then (if i < a.length then some .un else none) else a[i]?
  | [], i => by simp [wipeA]
  | v :: vs, i => by
    unfold wipeA
    by_cases h : v = i
    · subst h
      by_cases hl : v < (wipeA a vs).length
      · rw [List.getElem?_set_self hl, if_pos List.mem_cons_self, if_pos (by rw [wipeA_length] at hl; exact hl)]
      · rw [List.getElem?_eq_none (by simpa using hl), if_pos List.mem_cons_self, if_neg (by rw [wipeA_length] at hl; exact hl)]
    · rw [List.getElem?_set_ne h, wipeA_get]
      by_cases hm : i ∈ vs
      · rw [if_pos hm, if_pos (List.mem_cons_of_mem _ hm)]
      · rw [if_neg hm, if_neg (fun z => (List.mem_cons.mp z).elim (fun z => h z.symm) hm)]
theorem wipeA_own {a : AEnv} {vs : List Nat} {i : Nat} {s : Sl} (h : (wipeA a vs)[i]? = some s) : (i ∉ vs ∧ a[i]? = some s) ∨ s = .un := by
  rw [wipeA_get] at h
  split at h
  · split at h
    · cases h; exact .inr rfl
    · cases h
  · exact .inl ⟨by assumption, h⟩
theorem wipe_alike {σ σ' : St} {vs s : List Nat} (hl : σ'.length = σ.length) (al : Alike s (wipe σ vs) σ') (hs : ∀ i ∈ s, i ∈ vs) : wipe σ' vs = wipe σ vs := by
  apply List.ext_getElem?
  intro i
  rw [wipe_get, wipe_get]
  by_cases hm : i ∈ vs
  · rw [if_pos hm, if_pos hm, hl]
  · rw [if_neg hm, if_neg hm, al i (fun z => hm (hs i z)), wipe_get, if_neg hm]
section
variable {K : KW} {G : Gd} {O : Own} {a : AEnv} {σ σ' : St} {H : Hp} {vs : List Nat}
/-- the slots vs are forgotten on the abstract side; the concrete slots may differ there -/
theorem SR.forget (I : SR K G O σ H a) (hv : ∀ i ∈ vs, i < σ.length) (hl : σ'.length = σ.length) (al : ∀ i, i ∉ vs → σ'[i]? = σ[i]?) : SR K G O σ' H (wipeA a vs) := by
  have key : ∀ {i s}, (wipeA a vs)[i]? = some s → s.owned = true → i ∉ vs ∧ a[i]? = some s := fun {i s} h hs => by
    rcases wipeA_own h with h | h
    · exact h
    · subst h; cases hs
  refine ⟨I.ex, I.xs, I.th, by rw [wipeA_length, hl]; exact I.len, fun i s x h1 h2 => ?_, fun i j p s t hij h1 h2 hs ht e1 e2 => ?_, fun p hp s h1 hs => ?_, fun i s p h1 hs h2 => ?_, fun p s hp => ?_, I.ghn, ⟨I.rr.sub, I.rr.nd, fun i s p h1 hs h2 => ?_, I.rr.gh, fun ho => (I.rr.bs ho).imp fun bs z => ⟨?_, z.2⟩, I.rr.bB, I.rr.rc⟩⟩
  · rcases wipeA_own h1 with ⟨hn, h1⟩ | h1
    · rw [al i hn] at h2
      exact I.sl i s x h1 h2
    · subst h1; trivial
  · obtain ⟨n1, k1⟩ := key h1 hs
    obtain ⟨n2, k2⟩ := key h2 ht
    rw [al i n1] at e1
    rw [al j n2] at e2
    exact I.inj i j p s t hij k1 k2 hs ht e1 e2
  · obtain ⟨n1, k1⟩ := key h1 hs
    rw [al 0 n1]
    exact I.anc p hp s k1 hs
  · obtain ⟨n1, k1⟩ := key h1 hs
    rw [al i n1] at h2
    exact I.fr i s p k1 hs h2
  · obtain ⟨h1, h2, h3⟩ := I.gh p s hp
    refine ⟨h1, h2, fun i t k1 ht k2 => ?_⟩
    obtain ⟨n1, k1⟩ := key k1 ht
    rw [al i n1] at k2
    exact h3 i t k1 ht k2
  · obtain ⟨n1, k1⟩ := key h1 hs
    rw [al i n1] at h2
    exact I.rr.sl i s p k1 hs h2
  · rw [hl, wipeA_get, if_neg (fun z => Nat.lt_irrefl _ (hv _ z))]
    exact z.1
theorem hide_upd_own {p : Addr} {ho : HO} (hm : p ∈ O.l) : hide O (upd H p ho) = hide O H := by
  unfold hide
  congr 1
  funext b
  unfold hid
  by_cases hb : b ∈ O.l
  · rw [if_pos hb, if_pos hb]
  · rw [if_neg hb, if_neg hb, upd_ne (show b ≠ p from fun e => hb (by rw [e]; exact hm))]
theorem ext_own {p : Addr} {ho : HO} (hm : p ∈ O.l) : Ext O H O (upd H p ho) := by
  show Vx (hide O H) (hide O (upd H p ho))
  rw [hide_upd_own hm]
  exact Vx.refl _
/-- a ghost's content changes -/
theorem SR.ghSet {p : Addr} {s s' : Sl} {ho' : HO} (I : SR K (G.push p s) O σ H a) (c : Cont K (hide O H) p ho' s') : SR K (G.push p s') O σ (upd H p ho') a := by
  obtain ⟨⟨hm, hB⟩, ⟨ho, hp, _⟩, nb⟩ := I.gh p s List.mem_cons_self
  have hh : hide O (upd H p ho') = hide O H := hide_upd_own hm
  have nr := I.rr.gh p s List.mem_cons_self
  have ng : ∀ t, (p, t) ∉ G.gh := fun t ht => (List.nodup_cons.mp I.ghn).1 (List.mem_map.mpr ⟨(p, t), ht, rfl⟩)
  have R2 := I.rr.to (ext_own (ho := ho') hm) rfl I.rr.sub fun q hq o z => by rw [upd_ne (show q ≠ p from fun e => nr (by rw [← e]; exact hq))]; exact z
  refine ⟨fun b o hb => ?_, I.xs, fun b hb => ?_, I.len, fun i t x h1 h2 => ?_, I.inj, I.anc, I.fr, fun b t hb => ?_, I.ghn, ⟨R2.sub, R2.nd, R2.sl, fun b t hb => ?_, R2.bs, R2.bB, R2.rc⟩⟩
  · have hb' : G.B b = some o := hb
    rw [upd_ne (fun e => by rw [e] at hb'; have hB' : G.B p = none := hB; rw [hB'] at hb'; cases hb')]
    exact I.ex b o hb
  · by_cases e : b = p
    · exact ⟨ho', by rw [e, upd_same]⟩
    · rw [upd_ne e]; exact I.th b hb
  · refine (I.sl i t x h1 h2).imp (ext_own hm) fun ht q o e1 m hq => ⟨m, ?_⟩
    rw [upd_ne (fun e => nb i t h1 ht (by rw [h2, e1, e]))]
    exact hq
  · rcases List.mem_cons.mp hb with e | hb
    · cases e
      exact ⟨⟨hm, hB⟩, ⟨ho', upd_same, by rw [hh]; exact c⟩, nb⟩
    · have z := I.gh b t (List.mem_cons_of_mem _ hb)
      have nbp : b ≠ p := fun e => ng t (e ▸ hb)
      exact ⟨z.1, z.2.1.imp fun o q => ⟨by rw [upd_ne nbp]; exact q.1, by rw [hh]; exact q.2⟩, z.2.2⟩
  · rcases List.mem_cons.mp hb with e | hb
    · cases e
      exact nr
    · exact I.rr.gh b t (List.mem_cons_of_mem _ hb)
end

/-! ### [e for t in xs if c] -/
def lcL (t : Tgt) (c : M Bool) (m : M PyData) (vs : List Nat) : List PyData → List PyData → AEnv → Option (List PyData × AEnv)
  | [], acc, a => some (acc, a)
  | d :: ds, acc, a => match t.put d a with
    | none => none
    | some a1 => match c a1 with
      | some (.ok true, a2) => match m a2 with
        | some (.ok y, a3) => if acc.length < lineN then lcL t c m vs ds (acc ++ [y]) (wipeA a3 vs) else none
        | _ => none
      | some (.ok false, a2) => lcL t c m vs ds acc (wipeA a2 vs)
      | _ => none
def mLc (mi : M (List PyData)) (t : Tgt) (c : M Bool) (m : M PyData) (vs : List Nat) : M Sl := M.bind mi fun items => fun a => (lcL t c m vs items [] (wipeA a vs)).map fun r => (.ok (.lst r.1), wipeA r.2 vs)
/-- nothing leaves; the boxes are at hand if they were -/
abbrev W0 (W : WB) : WB := ⟨fun _ _ _ _ => False, W.opn⟩
section
variable {K : KW} {W : WB}
theorem tM_lc {mi : M (List PyData)} {t : Tgt} {c : M Bool} {m : M PyData} {vs : List Nat} (ht : ∀ i ∈ t.slots, i ∈ vs) {σ : St} {H : Hp} {Q : VK} (hv : ∀ i ∈ vs, i < σ.length) (h : tM K W (RS K) (mLc mi t c m vs) σ H Q) :
    tLc (tI K W mi) (t.rd K) (tM K (W0 W) RB c) (tM K (W0 W) (RD K) m) vs σ H Q := by
  obtain ⟨G, O, a, q⟩ := h
  refine ⟨G, O, a, q.bind (RR := fun _ O _ H _ J items => Wk K O H J items) fun O1 H1 a1 J items I1 e1 w q1 => ?_⟩
  intro D hD
  obtain ⟨_, op, x, ex, F⟩ := q1
  cases hr : lcL t c m vs items [] (wipeA a1 vs) with
  | none => rw [hr] at ex; cases ex
  | some r =>
    rw [hr] at ex
    have ex' : (Except.ok (Sl.lst r.1), wipeA r.2 vs) = x := Option.some.inj ex
    subst ex'
    -- the new list, as a ghost
    have I2 : SR K G (O1.put D) σ (upd H1 D (.lst [])) a1 := I1.take (Ex.new hD) hD upd_same
    have rn : RN K G (O1.put D) σ (upd H1 D (.lst [])) a1 (.ref D) (.lst []) := I1.isNew (Ex.new hD) hD upd_same (RAll.nil : RAll _ _ [] [])
    have I3 : SR K (G.push D (.lst [])) (O1.put D) (wipe σ vs) (upd H1 D (.lst [])) (wipeA a1 vs) :=
      (I2.push rn).forget hv (wipe_length σ vs) fun i hi => by rw [wipe_get, if_neg hi]
    refine ⟨fun i n H' => n = items.length - i ∧ i ≤ items.length ∧ ∃ O' a' acc, Ext O1 H1 O' H' ∧ SR K (G.push D (.lst acc)) O' (wipe σ vs) H' a' ∧ lcL t c m vs (items.drop i) acc a' = some r,
      ⟨items.length, by simp, Nat.zero_le _, O1.put D, wipeA a1 vs, [], ext_take I1.th (Ex.new hD) hD, I3, by simpa using hr⟩, ?_⟩
    rintro i n H' ⟨rfl, hi, O', a', acc, e2, J', hl⟩
    by_cases hlt : i < items.length
    · refine .inr ⟨w.go O' H' i e2 hlt, fun H' => ∃ O' a' acc, Ext O1 H1 O' H' ∧ SR K (G.push D (.lst acc)) O' (wipe σ vs) H' a' ∧ lcL t c m vs (items.drop (i + 1)) acc a' = some r,
        fun H2 q2 => ⟨items.length - (i + 1), by omega, rfl, hlt, q2⟩, fun x H2 y => ?_⟩
      obtain ⟨ex2, d, hd, rd⟩ := w.yld O' H' i x H2 J'.th e2 hlt y
      have hdr : items.drop i = d :: items.drop (i + 1) := by
        rw [List.drop_eq_getElem_cons hlt]
        have : items[i] = d := by
          have h2 : items[i]? = some items[i] := by simp [hlt]
          rw [h2] at hd
          exact Option.some.inj hd
        rw [this]
      rw [hdr] at hl
      unfold lcL at hl
      cases h1 : t.put d a' with
      | none => rw [h1] at hl; cases hl
      | some a2 =>
        rw [h1] at hl
        dsimp only at hl
        refine t.run (J'.grow ex2) rd h1 fun σ2 J2 al => ?_
        have hlen : σ2.length = σ.length := by
          have z1 := J2.len
          have z2 := J'.len
          rw [wipe_length] at z2
          rw [Tgt.put_length t h1] at z1
          omega
        have hw : wipe σ2 vs = wipe σ vs := wipe_alike hlen al ht
        refine ⟨hw, ?_⟩
        have e3 : Ext O1 H1 O' H2 := e2.trans (ext_grow ex2)
        cases hc : c a2 with
        | none => rw [hc] at hl; cases hl
        | some z =>
          obtain ⟨z1, a3⟩ := z
          rw [hc] at hl
          cases z1 with
          | error er => cases hl
          | ok b =>
            refine ⟨_, O', a2, J2, op, _, hc, fun O3 H3 v J3 e4 rb => ?_⟩
            cases (show v = b from rb)
            have back : ∀ {O4 H4 a4 acc'}, SR K (G.push D (.lst acc')) O4 σ2 H4 a4 → SR K (G.push D (.lst acc')) O4 (wipe σ vs) H4 (wipeA a4 vs) := fun {O4 H4 a4 acc'} J4 =>
              J4.forget (by rw [hlen]; exact hv) (by rw [wipe_length, hlen]) fun i hi => by rw [← hw, wipe_get, if_neg hi]
            cases b with
            | false => exact ⟨O3, wipeA a3 vs, acc, e3.trans e4, back J3, hl⟩
            | true =>
              dsimp only at hl
              cases hm : m a3 with
              | none => rw [hm] at hl; cases hl
              | some z =>
                obtain ⟨z1, a4⟩ := z
                rw [hm] at hl
                cases z1 with
                | error er => cases hl
                | ok y =>
                  have hl' : (if acc.length < lineN then lcL t c m vs (items.drop (i + 1)) (acc ++ [y]) (wipeA a4 vs) else none) = some r := hl
                  split at hl'
                  · rename_i hz
                    refine ⟨_, O3, a3, J3, op, _, hm, fun O4 H4 v J4 e5 rv => ?_⟩
                    obtain ⟨⟨hmD, _⟩, ⟨ho, hpD, cD⟩, _⟩ := J4.gh D (.lst acc) List.mem_cons_self
                    obtain ⟨vs', rfl, rr⟩ := cD.inv_lst
                    have rl : RAll K (hide O4 H4) (vs' ++ [v]) (acc ++ [y]) := rr.append (.cons rv .nil)
                    refine ⟨vs', hpD, by rw [rr.length, line_eq]; exact hz, O4, wipeA a4 vs, acc ++ [y], ((e3.trans e4).trans e5).trans (ext_own hmD), back (J4.ghSet rl), hl'⟩
                  · cases hl'
    · have e : i = items.length := by omega
      subst e
      rw [List.drop_length] at hl
      have hl' : some (acc, a') = some r := hl
      cases hl'
      refine .inl ⟨w.stop O' H' e2, ?_⟩
      obtain ⟨J4, rn4⟩ := J'.pop rfl
      have J5 : SR K G O' σ H' (wipeA a' vs) := J4.forget (by rw [wipe_length]; exact hv) (wipe_length σ vs).symm fun i hi => by rw [wipe_get, if_neg hi]
      refine F O' H' (.ref D) J5 e2 (.inr (.inl ?_))
      obtain ⟨h1, p, ho, h2, h3, h4, h5, h6, h7, h8⟩ := rn4
      refine ⟨h1, p, ho, h2, h3, h4, h5, fun j u k1 k2 k3 => ?_, h7, h8⟩
      rcases wipeA_own k1 with ⟨n1, k1⟩ | k1
      · exact h6 j u k1 k2 (by rw [wipe_get, if_neg n1]; exact k3)
      · subst k1; cases k2
end
/-! ### the rules -/
section
variable {X : Cx} {W : WB} {elt tg iter : Expr} {ifs : List Expr} {scope : Scope} {own : List (Str × Nat)} {pos : Pos}
abbrev PBs (X : Cx) (W : WB) (es : List Expr) (m : M Bool) : Prop := PTs X es (tM X.kw W RB m)
theorem pbs_nil : PBs X W [] (M.pure true) := ⟨fun pins s σ H Q I ⟨G, O, a, h⟩ => pts_nil.run pins s σ H Q I (h.pure rfl)⟩
theorem pbs_one {c : Expr} {k : M Bool} (h : PB X W c k) : PBs X W [c] k := pts_one h
theorem blk_kw {s : Shared} {H : Hp} {ce : Env} {fp : List Addr} (hc : X.calm = true) : (X.blk s H scope ce fp).kw = X.kw := by
  have e1 : (if X.calm then [] else X.pn) = ([] : List (Addr × Obj)) := if_pos hc
  have e2 : (if X.calm then [] else ([] : List (Addr × Obj))) = [] := if_pos hc
  show KW.mk X.K X.w (if X.calm then [] else []) = KW.mk X.K X.w (if X.calm then [] else X.pn)
  rw [e1, e2]
theorem own_lt {N : List Str} {sc scope : Scope} {own : List (Str × Nat)} (ok : BlkOk N sc scope own) : ∀ i ∈ own.map (·.2), i < N.length := fun i hi => by
  obtain ⟨p, hp, rfl⟩ := List.mem_map.mp hi
  exact (List.getElem?_eq_some_iff.mp (ok.ix p hp)).1
theorem px_lc {mi : M (List PyData)} {t : Tgt} {c : M Bool} {m : M PyData} (hc : X.calm = true) (hN : X.N.Nodup) (hi : PIM X W tg iter mi) (ok : BlkOk X.N X.env.scope scope own) (hs' : ∀ i ∈ t.slots, i ∈ own.map (·.2))
    (hg : ∀ (s : Shared) (H : Hp) (C : Addr) (cl : List (Str × Addr)) (fp : List Addr), PG (X.blk s H scope (compEnvC scope cl C X.env) fp) tg (t.rd X.kw)) (ht : ∀ (s : Shared) (H : Hp) (C : Addr) (cl : List (Str × Addr)) (fp : List Addr), PBs (X.blk s H scope (compEnvC scope cl C X.env) fp) (W0 W) ifs c)
    (he : ∀ (s : Shared) (H : Hp) (C : Addr) (cl : List (Str × Addr)) (fp : List Addr), PD (X.blk s H scope (compEnvC scope cl C X.env) fp) (W0 W) elt m) (hs : ∀ x, foldedSetIterable iter X.env x = Pure.pure x := by intro _; rfl) :
    PX X W (.ListComp elt [⟨tg, iter, ifs, 0⟩] scope pos) (mLc mi t c m (own.map (·.2))) := by
  have ht' : ∀ (s : Shared) (H : Hp) (C : Addr) (cl : List (Str × Addr)) (fp : List Addr), PTs (X.blk s H scope (compEnvC scope cl C X.env) fp) ifs (tM X.kw (W0 W) RB c) := fun s H C cl fp => blk_kw (X := X) hc ▸ ht s H C cl fp
  have he' : ∀ (s : Shared) (H : Hp) (C : Addr) (cl : List (Str × Addr)) (fp : List Addr), PE (X.blk s H scope (compEnvC scope cl C X.env) fp) elt (tM X.kw (W0 W) (RD X.kw) m) := fun s H C cl fp => blk_kw (X := X) hc ▸ he s H C cl fp
  exact ⟨fun pins s σ H Q I h => (pe_lc hc hN hi ok hg ht' he' hs).run pins s σ H Q I (tM_lc hs' (by rw [I.len]; exact own_lt ok) h)⟩
/-- y = [..] on one line, y a local -/
theorem ms_setLc {i : Nat} {y : Str} {py spos : Pos} {mi : M (List PyData)} {t : Tgt} {c : M Bool} {m : M PyData} (hc : X.calm = true) (hN : X.N.Nodup) (hy : X.N[i]? = some y) (hyl : X.env.scope.names.lookup y = some .local)
    (hsw : swapsWith (.ListComp elt [⟨tg, iter, ifs, 0⟩] scope pos) (some (.Name y py)) spos.line X.env = Pure.pure true) (hi : PIM X W tg iter mi) (ok : BlkOk X.N X.env.scope scope own) (hs' : ∀ i ∈ t.slots, i ∈ own.map (·.2))
    (hg : ∀ (s : Shared) (H : Hp) (C : Addr) (cl : List (Str × Addr)) (fp : List Addr), PG (X.blk s H scope (compEnvC scope cl C X.env) fp) tg (t.rd X.kw)) (ht : ∀ (s : Shared) (H : Hp) (C : Addr) (cl : List (Str × Addr)) (fp : List Addr), PBs (X.blk s H scope (compEnvC scope cl C X.env) fp) (W0 W) ifs c)
    (he : ∀ (s : Shared) (H : Hp) (C : Addr) (cl : List (Str × Addr)) (fp : List Addr), PD (X.blk s H scope (compEnvC scope cl C X.env) fp) (W0 W) elt m) (hs : ∀ x, foldedSetIterable iter X.env x = Pure.pure x := by intro _; rfl) :
    PSM X W (.Assign [.Name y py] (.ListComp elt [⟨tg, iter, ifs, 0⟩] scope pos) spos) (mAsg i (mLc mi t c m (own.map (·.2)))) := by
  have ht' : ∀ (s : Shared) (H : Hp) (C : Addr) (cl : List (Str × Addr)) (fp : List Addr), PTs (X.blk s H scope (compEnvC scope cl C X.env) fp) ifs (tM X.kw (W0 W) RB c) := fun s H C cl fp => blk_kw (X := X) hc ▸ ht s H C cl fp
  have he' : ∀ (s : Shared) (H : Hp) (C : Addr) (cl : List (Str × Addr)) (fp : List Addr), PE (X.blk s H scope (compEnvC scope cl C X.env) fp) elt (tM X.kw (W0 W) (RD X.kw) m) := fun s H C cl fp => blk_kw (X := X) hc ▸ he s H C cl fp
  exact ⟨fun pins s σ H D I ⟨G, O, a, q⟩ => (ps_setLc hc hN hy hyl hsw hi ok hg ht' he' hs).run pins s σ H D I (tM_lc hs' (by rw [I.len]; exact own_lt ok) (q.bind (RR := RS X.kw) fun O1 H1 a1 v s I1 e1 r1 q1 => by
    obtain ⟨a', h1, h2⟩ := q1.put
    exact h2 O1 _ H1 (I1.put (slot_ok I hy) r1 h1) (Ext.refl _ _)))⟩
end
end Am

/-! Am7: what is owned is changed: methods, items, sets. -/
namespace Am
open PySem L2

section
variable {K : KW} {G : Gd} {O : Own} {a : AEnv} {σ : St} {H H' : Hp}
theorem ext_but {p : Addr} (hm : p ∈ O.l) (e : Ex (hid [p] H) H') : Ext O H O H' := ⟨fun b o h => by
  obtain ⟨h1, h2⟩ := hide_some.mp h
  exact hide_some.mpr ⟨h1, e _ _ (hide_some.mpr ⟨fun z => h1 (by rw [List.mem_singleton.mp z]; exact hm), h2⟩)⟩, List.prefix_refl _⟩
theorem ex_upd {p : Addr} {ho : HO} : Ex (hid [p] H) (upd H p ho) := fun b o h => by
  obtain ⟨h1, h2⟩ := hide_some.mp h
  rw [upd_ne (fun e => h1 (by rw [e]; exact List.mem_cons_self))]
  exact h2
/-- what a slot owns is changed (and new things may have come) -/
theorem SR.mut (I : SR K G O σ H a) {i : Nat} {s s' : Sl} {p : Addr} {ho' : HO} (h : a[i]? = some s) (hs : s.owned = true) (hv : σ[i]? = some (some (.ref p))) (e : Ex (hid [p] H) H') (hp : H' p = some ho') (c : Cont K (hide O H') p ho' s') : SR K G O σ H' (a.set i s') := by
  obtain ⟨p', ho, hv', hm, _, _⟩ := I.own h hs
  rw [hv] at hv'
  cases hv'
  have hs' := c.mut
  have hB := I.fr i s p h hs hv
  have hi : i < a.length := (List.getElem?_eq_some_iff.mp h).1
  have eh : Ext O H O H' := ext_but hm e
  have stay : ∀ {b : Addr} {o : HO}, b ≠ p → H b = some o → H' b = some o := fun {b o} n q => e _ _ (hide_some.mpr ⟨fun z => n (List.mem_singleton.mp z), q⟩)
  have back : ∀ {j : Nat} {t : Sl}, t.owned = true → (a.set i s')[j]? = some t → ∃ u, a[j]? = some u ∧ u.owned = true ∧ (j ≠ i → u = t) := fun {j t} ht hj => by
    by_cases q : i = j
    · subst q
      exact ⟨s, h, hs, fun z => absurd rfl z⟩
    · rw [List.getElem?_set_ne q] at hj
      exact ⟨t, hj, ht, fun _ => rfl⟩
  refine ⟨fun b o hb => stay (fun z => by rw [z, hB] at hb; cases hb) (I.ex b o hb), I.xs, fun b hb => ?_, by simpa using I.len, fun j t x h1 h2 => ?_, fun j k b t u hjk h1 h2 ht hu e1 e2 => ?_, fun b hb t h1 ht => ?_, fun j t b h1 ht h2 => ?_, fun b t hb => ?_, I.ghn, ?_⟩
  · by_cases q : b = p
    · exact ⟨ho', by rw [q]; exact hp⟩
    · exact (I.th b hb).elim fun o ho => ⟨o, stay q ho⟩
  · by_cases q : i = j
    · subst q
      rw [List.getElem?_set_self hi] at h1
      cases h1
      rw [hv] at h2
      cases h2
      exact (SlR.own hs').mpr ⟨p, ho', rfl, hm, hp, c⟩
    · rw [List.getElem?_set_ne q] at h1
      refine (I.sl j t x h1 h2).imp eh fun ht b o e1 mb hpb => ⟨mb, stay (fun w => I.inj i j p s t q h h1 hs ht hv (by rw [h2, e1, w])) hpb⟩
  · obtain ⟨t', k1, k2, _⟩ := back ht h1
    obtain ⟨u', k3, k4, _⟩ := back hu h2
    exact I.inj j k b t' u' hjk k1 k3 k2 k4 e1 e2
  · obtain ⟨t', k1, k2, _⟩ := back ht h1
    exact I.anc b hb t' k1 k2
  · obtain ⟨t', k1, k2, _⟩ := back ht h1
    exact I.fr j t' b k1 k2 h2
  · obtain ⟨k1, ⟨ho, k2, k3⟩, k4⟩ := I.gh b t hb
    have nbp : b ≠ p := fun w => k4 i s h hs (by rw [hv, w])
    refine ⟨k1, ⟨ho, stay nbp k2, k3.mono eh⟩, fun j u h1 hu => ?_⟩
    obtain ⟨u', k5, k6, _⟩ := back hu h1
    exact k4 j u' k5 k6
  · have nr := I.rr.sl i s p h hs hv
    have R2 := I.rr.to eh rfl I.rr.sub fun q hq o z => stay (show q ≠ p from fun e => nr (by rw [← e]; exact hq)) z
    refine ⟨R2.sub, R2.nd, fun j t b h1 ht h2 => ?_, R2.gh, fun ho => (R2.bs ho).imp fun bs z => ⟨?_, z.2⟩, R2.bB, R2.rc⟩
    · obtain ⟨t', k1, k2, _⟩ := back ht h1
      exact I.rr.sl j t' b k1 k2 h2
    · rw [List.getElem?_set_ne (Nat.ne_of_lt (I.lt h (Sl.notB hs)))]
      exact z.1
end

/-! ### methods that change a slot's own thing -/
def mChk (i : Nat) (chk : Sl → Bool) : M Unit := fun a => match a[i]? with
  | none => none
  | some s => if s.owned && chk s then some (.ok (), a) else none
def mUp {γ : Type} (i : Nat) (g : Sl → Option (γ × Sl)) : M γ := fun a => match a[i]? with
  | none => none
  | some s => if s.owned then (g s).map fun r => (.ok r.1, a.set i r.2) else none
def mMt (i : Nat) (chk : Sl → Bool) (m : M (List PyData)) (g : List PyData → Sl → Option (PyData × Sl)) : M PyData := M.bind (mChk i chk) fun _ => M.bind m fun ds => mUp i (g ds)
section
variable {K : KW} {W : WB} {G : Gd} {O : Own} {a : AEnv} {σ : St} {H : Hp} {ν γ : Type} {RR : RRel ν γ} {Q : ν → Hp → Prop} {i : Nat} {chk : Sl → Bool} {f : Unit → M γ}
theorem At.chkd (h : At K W RR (M.bind (mChk i chk) f) G O a σ H Q) : ∃ s, a[i]? = some s ∧ s.owned = true ∧ chk s = true ∧ At K W RR (f ()) G O a σ H Q := by
  obtain ⟨I, op, x, e, F⟩ := h
  unfold M.bind mChk at e
  cases hs : a[i]? with
  | none => rw [hs] at e; cases e
  | some s =>
    rw [hs] at e
    dsimp only at e
    by_cases hc : (s.owned && chk s) = true
    · rw [if_pos hc] at e
      have hc' := Bool.and_eq_true_iff.mp hc
      exact ⟨s, rfl, hc'.1, hc'.2, I, op, x, e, F⟩
    · rw [if_neg hc] at e
      cases e
theorem StAt.chkd {D : Ends} {f : Unit → M Fl} (h : StAt K W (M.bind (mChk i chk) f) G O a σ H D) : ∃ s, a[i]? = some s ∧ s.owned = true ∧ chk s = true ∧ StAt K W (f ()) G O a σ H D := by
  obtain ⟨I, op, x, e, F⟩ := h
  unfold M.bind mChk at e
  cases hs : a[i]? with
  | none => rw [hs] at e; cases e
  | some s =>
    rw [hs] at e
    dsimp only at e
    by_cases hc : (s.owned && chk s) = true
    · rw [if_pos hc] at e
      have hc' := Bool.and_eq_true_iff.mp hc
      exact ⟨s, rfl, hc'.1, hc'.2, I, op, x, e, F⟩
    · rw [if_neg hc] at e
      cases e
theorem mUp_some {g : Sl → Option (γ × Sl)} {x : Except Exc γ × AEnv} (h : mUp i g a = some x) : ∃ s r, a[i]? = some s ∧ s.owned = true ∧ g s = some r ∧ x = (.ok r.1, a.set i r.2) := by
  unfold mUp at h
  cases hs : a[i]? with
  | none => rw [hs] at h; cases h
  | some s =>
    rw [hs] at h
    dsimp only at h
    by_cases ho : s.owned = true
    · rw [if_pos ho] at h
      cases hg : g s with
      | none => rw [hg] at h; cases h
      | some r =>
        rw [hg] at h
        cases h
        exact ⟨s, r, rfl, ho, hg, rfl⟩
    · rw [if_neg ho] at h
      cases h
theorem At.up {g : Sl → Option (γ × Sl)} (h : At K W RR (mUp i g) G O a σ H Q) : ∃ s r p ho, a[i]? = some s ∧ s.owned = true ∧ g s = some r ∧ σ[i]? = some (some (.ref p)) ∧ p ∈ O.l ∧ H p = some ho ∧ Cont K (hide O H) p ho s ∧
    ∀ H' ho' v, Ex (hid [p] H) H' → H' p = some ho' → Cont K (hide O H') p ho' r.2 → RR G O σ H' (a.set i r.2) v r.1 → Q v H' := by
  obtain ⟨I, op, x, e, F⟩ := h
  obtain ⟨s, r, hs, ho, hg, rfl⟩ := mUp_some e
  obtain ⟨p, ho', hv, hm, hp, c⟩ := I.own hs ho
  exact ⟨s, r, p, ho', hs, ho, hg, hv, hm, hp, c, fun H' ho2 v ex hp2 c2 rr => F O H' v (I.mut hs ho hv ex hp2 c2) (ext_but hm ex) rr⟩
end
/-- what a method does with what is owned, data in and out -/
def MtG (K : KW) (r : V → List V → Hp → VK → Prop) (g : List PyData → Sl → Option (PyData × Sl)) : Prop := ∀ (O : Own) H p ho s vs ds d s' Q, Thr O H → H p = some ho → Cont K (hide O H) p ho s → RAll K (hide O H) vs ds → g ds s = some (d, s') →
  (∀ ho' v, Cont K (hide O H) p ho' s' → R K (hide O H) v d → Q v (upd H p ho')) → r (.ref p) vs H Q
def ChkT (K : KW) (T : String) (chk : Sl → Bool) : Prop := ∀ (O : Own) H p ho s, H p = some ho → Cont K (hide O H) p ho s → chk s = true → tyV K T (.ref p) H
theorem hide_own {O : Own} {H : Hp} {p : Addr} {ho : HO} (hm : p ∈ O.l) : hide O (upd H p ho) = hide O H := hide_upd_own hm
section
variable {X : Cx} {W : WB} {e : Expr} {es : List Expr} {x name : Str} {T id : String} {r : V → List V → Hp → VK → Prop} {chk : Sl → Bool} {g : List PyData → Sl → Option (PyData × Sl)} {m : M (List PyData)} {np apos cpos : Pos}
theorem At.mt {i : Nat} {G : Gd} {O : Own} {a : AEnv} {σ : St} {H : Hp} {Q : VK} {ds : List PyData} {vs : List V} {p : Addr} (hr : MtG X.kw r g) (h : At X.kw W (RD X.kw) (mUp i (g ds)) G O a σ H Q) (hv : σ[i]? = some (some (.ref p))) (rv : RAll X.K (hide O H) vs ds) : r (.ref p) vs H Q := by
  obtain ⟨s, r', p', ho, hs, hso, hg, hv', hm, hp, c, k⟩ := h.up
  rw [hv] at hv'
  cases hv'
  exact hr O H p ho s vs ds r'.1 r'.2 Q h.1.th hp c rv hg fun ho' v c2 rd => k _ ho' v ex_upd upd_same (by rw [hide_own hm]; exact c2) (show R X.kw (hide O (upd H p ho')) v r'.1 by rw [hide_own hm]; exact rd)
theorem pd_mt (i : Nat) (pa : PlainAttrs T) (slot : Slot T name id) (hty : typeOf (.builtin id) = pure (.type "method_descriptor")) (hm : MtR X id r) (hc : ChkT X.kw T chk) (hr : MtG X.kw r g) (ha : PDs X W (e :: es) m)
    (hN : X.N[i]? = some x := by rfl) (hv : Vis X.env.scope x := by first | exact Or.inl rfl | exact Or.inr (Or.inl rfl) | exact Or.inr (Or.inr rfl)) (hd : (x == ("__debug__" : Str)) = false := by decide)
    (hcd : (x == ("__classdict__" : Str)) = false := by decide)
    (hbase : attributeBase (.Name x np) name X.env (eval (.Name x np) X.env) = eval (.Name x np) X.env := by rfl)
    (hfew : ((backTo cpos (starEach (e :: es) X.env)).all (fun x => !x.1) && (backToKw cpos (keywordEach [] X.env)).all (fun x => x.1.isSome)
      && decide ((e :: es).length + ([] : List Keyword).length + (if ([] : List Keyword).isEmpty then 0 else 1) < 30)) = true := by rfl)
    (hline : (apos.endLine == cpos.line) = true := by rfl) (hs : starEach (e :: es) X.env = (false, eval e X.env) :: starEach es X.env := by rfl) (hplain : (backTo cpos (starEach es X.env)).any (·.1) = false := by rfl) :
    PD X W (.Call (.Attribute (.Name x np) name apos) (e :: es) [] cpos) (mMt i chk m g) := by
  refine PE.imp (pe_bm pa slot hty hm (pe_var (i := i) hN hv hd hcd) ha hbase hfew hline hs hplain) fun σ H Q ⟨G, O, a, q⟩ => ?_
  obtain ⟨s, hs, hso, hck, q1⟩ := q.chkd
  obtain ⟨p, ho, hv, hm, hp, c⟩ := q.1.own hs hso
  refine ⟨_, hv, hc O H p ho s hp c hck, G, O, a, q1.bind (RR := RDs X.kw) fun O1 H1 a1 vs ds I1 e1 r1 q2 => ?_⟩
  exact q2.mt hr hv r1
theorem pd_mt0 (i : Nat) (pa : PlainAttrs T) (slot : Slot T name id) (hty : typeOf (.builtin id) = pure (.type "method_descriptor")) (hm : MtR X id r) (hc : ChkT X.kw T chk) (hr : MtG X.kw r g)
    (hN : X.N[i]? = some x := by rfl) (hv : Vis X.env.scope x := by first | exact Or.inl rfl | exact Or.inr (Or.inl rfl) | exact Or.inr (Or.inr rfl)) (hd : (x == ("__debug__" : Str)) = false := by decide)
    (hcd : (x == ("__classdict__" : Str)) = false := by decide)
    (hbase : attributeBase (.Name x np) name X.env (eval (.Name x np) X.env) = eval (.Name x np) X.env := by rfl) (hline : (apos.endLine == cpos.line) = true := by rfl) :
    PD X W (.Call (.Attribute (.Name x np) name apos) [] [] cpos) (mMt i chk (M.pure []) g) := by
  refine PE.imp (pe_bm0 pa slot hty hm (pe_var (i := i) hN hv hd hcd) hbase hline) fun σ H Q ⟨G, O, a, q⟩ => ?_
  obtain ⟨s, hs, hso, hck, q1⟩ := q.chkd
  obtain ⟨p, ho, hv, hm, hp, c⟩ := q.1.own hs hso
  exact ⟨_, hv, hc O H p ho s hp c hck, q1.pureB.mt hr hv .nil⟩
end
/-! ### lists -/
def isL : Sl → Bool
  | .lst _ => true
  | _ => false
theorem isL_ok {K : KW} : ChkT K "list" isL := fun O H p ho s hp c hk => by
  cases s with
  | lst ds =>
    obtain ⟨vs, rfl, r⟩ := c.inv_lst
    exact .inl ⟨rfl, vs, SqL.of hp⟩
  | _ => cases hk
def gApp : List PyData → Sl → Option (PyData × Sl)
  | [d], .lst ds => if ds.length < lineN then some (.none, .lst (ds ++ [d])) else none
  | _, _ => none
theorem gApp_ok {K : KW} : MtG K rAppend gApp := by
  intro O H p ho s vs ds d s' Q th hp c rv h q
  unfold gApp at h
  split at h
  · rename_i d0 xs
    split at h
    · rename_i hl
      cases h
      obtain ⟨us, rfl, r⟩ := c.inv_lst
      cases rv with
      | cons r1 r2 =>
        cases r2
        exact ⟨p, us, _, rfl, rfl, hp, by rw [r.length, line_eq]; exact hl, q _ _ (show RAll _ _ _ _ from r.append (.cons r1 .nil)) .non⟩
    · cases h
  · cases h
def gPop : List PyData → Sl → Option (PyData × Sl)
  | [], .lst ds => (ds[ds.length - 1]?).map fun d => (d, .lst ds.dropLast)
  | _, _ => none
theorem RAll.dropLast {K : PySem.W.Frag} {H : Vw} {vs : List V} {ds : List PyData} (r : RAll K H vs ds) : RAll K H vs.dropLast ds.dropLast := by
  rw [List.dropLast_eq_take, List.dropLast_eq_take, r.length]
  exact r.take _
theorem gPop_ok {K : KW} : MtG K rPop gPop := by
  intro O H p ho s vs ds d s' Q th hp c rv h q
  unfold gPop at h
  split at h
  · rename_i xs
    obtain ⟨us, rfl, r⟩ := c.inv_lst
    cases hd : xs[xs.length - 1]? with
    | none => rw [hd] at h; cases h
    | some y =>
      rw [hd] at h
      cases h
      cases rv
      obtain ⟨v, hv, rd⟩ := r.get _ hd
      exact ⟨p, us, v, rfl, rfl, hp, by rw [r.length]; exact hv, q _ _ (show RAll _ _ _ _ from r.dropLast) rd⟩
  · cases h
def gPopAt : List PyData → Sl → Option (PyData × Sl)
  | [.int i], .lst ds => if decide (-(2 ^ 63) ≤ i) && decide (i < 2 ^ 63) then (match seqIndex? i ds.length with
    | none => none
    | some k => (ds[k]?).map fun d => (d, .lst (ds.eraseIdx k))) else none
  | _, _ => none
theorem gPopAt_ok {K : KW} : MtG K rPopAt gPopAt := by
  intro O H p ho s vs ds d s' Q th hp c rv h q
  unfold gPopAt at h
  split at h
  · rename_i i xs
    split at h
    · rename_i hb
      have hb' := Bool.and_eq_true_iff.mp hb
      obtain ⟨us, rfl, r⟩ := c.inv_lst
      cases hk : seqIndex? i xs.length with
      | none => rw [hk] at h; cases h
      | some k =>
        rw [hk] at h
        dsimp only at h
        cases hd : xs[k]? with
        | none => rw [hd] at h; cases h
        | some y =>
          rw [hd] at h
          cases h
          obtain ⟨v, hv, rd⟩ := r.get _ hd
          cases rv with
          | cons r1 r2 =>
            cases r2
            cases r1
            exact ⟨p, us, i, k, v, rfl, rfl, hp, of_decide_eq_true hb'.1, of_decide_eq_true hb'.2, by rw [r.length]; exact hk, hv, q _ _ (show RAll _ _ _ _ from r.erase k) rd⟩
    · cases h
  · cases h
def gRev : List PyData → Sl → Option (PyData × Sl)
  | [], .lst ds => some (.none, .lst ds.reverse)
  | _, _ => none
theorem gRev_ok {K : KW} : MtG K rReverse gRev := by
  intro O H p ho s vs ds d s' Q th hp c rv h q
  unfold gRev at h
  split at h
  · rename_i xs
    cases h
    obtain ⟨us, rfl, r⟩ := c.inv_lst
    cases rv
    exact ⟨p, us, rfl, rfl, hp, q _ _ (show RAll _ _ _ _ from r.reverse) .non⟩
  · cases h
/-! ### sets of ints -/
def isS : Sl → Bool
  | .st _ => true
  | _ => false
def gAdd1 (n : Int) (is : List Int) : List Int := if n ∈ is then is else is ++ [n]
theorem gAdd1_nodup {n : Int} {is : List Int} (h : is.Nodup) : (gAdd1 n is).Nodup := by
  unfold gAdd1
  split
  · exact h
  · rename_i hn
    refine List.nodup_append.mpr ⟨h, List.nodup_cons.mpr ⟨by simp, List.nodup_nil⟩, fun x hx y hy e => hn ?_⟩
    rw [List.mem_singleton.mp hy] at e
    rw [← e]
    exact hx
theorem gAdd1_mem {n j : Int} {is : List Int} : j ∈ gAdd1 n is ↔ j ∈ is ∨ j = n := by
  unfold gAdd1
  split
  · rename_i hn
    exact ⟨.inl, fun h => h.elim id fun e => e ▸ hn⟩
  · simp
theorem gAdd1_len {n : Int} {is : List Int} : (gAdd1 n is).length = if n ∈ is then is.length else is.length + 1 := by
  unfold gAdd1
  split <;> simp
def gSAdd : List PyData → Sl → Option (PyData × Sl)
  | [.int n], .st is => if is.length + 1 < 4096 then some (.none, .st (gAdd1 n is)) else none
  | _, _ => none
theorem gSAdd_ok {K : KW} : MtG K (rSAdd K.w) gSAdd := by
  intro O H p ho s vs ds d s' Q th hp c rv h q
  unfold gSAdd at h
  split at h
  · rename_i n is
    split at h
    · rename_i hl
      cases h
      obtain ⟨S, k, rfl, nd, rfl, hS⟩ := c.inv_st
      cases rv with
      | cons r1 r2 =>
        cases r2
        cases r1
        refine ⟨p, n, S, is.length, rfl, rfl, hp, (by unfold scanBound; omega), q _ _ ?_ .non⟩
        refine ⟨_, _, rfl, gAdd1_nodup nd, ?_, fun j => ?_⟩
        · rw [gAdd1_len, hS]
          simp only [decide_eq_true_eq]
        · rw [hS, ← Bool.decide_or]
          exact decide_eq_decide.mpr gAdd1_mem.symm
    · cases h
  · cases h
section
variable {X : Cx} {W : WB} {e : Expr} {es : List Expr} {x : Str} {m : M (List PyData)} {np apos cpos pos : Pos}
theorem pd_sadd (i : Nat) (ha : PDs X W (e :: es) m)
    (hN : X.N[i]? = some x := by rfl) (hv : Vis X.env.scope x := by first | exact Or.inl rfl | exact Or.inr (Or.inl rfl) | exact Or.inr (Or.inr rfl)) (hd : (x == ("__debug__" : Str)) = false := by decide)
    (hcd : (x == ("__classdict__" : Str)) = false := by decide)
    (hbase : attributeBase (.Name x np) "add" X.env (eval (.Name x np) X.env) = eval (.Name x np) X.env := by rfl)
    (hfew : ((backTo cpos (starEach (e :: es) X.env)).all (fun x => !x.1) && (backToKw cpos (keywordEach [] X.env)).all (fun x => x.1.isSome)
      && decide ((e :: es).length + ([] : List Keyword).length + (if ([] : List Keyword).isEmpty then 0 else 1) < 30)) = true := by rfl)
    (hline : (apos.endLine == cpos.line) = true := by rfl) (hs : starEach (e :: es) X.env = (false, eval e X.env) :: starEach es X.env := by rfl) (hplain : (backTo cpos (starEach es X.env)).any (·.1) = false := by rfl) :
    PD X W (.Call (.Attribute (.Name x np) "add" apos) (e :: es) [] cpos) (mMt i isS m gSAdd) := by
  refine PE.imp (pe_sadd (pe_var (i := i) hN hv hd hcd) ha hbase hfew hline hs hplain) fun σ H Q ⟨G, O, a, q⟩ => ?_
  obtain ⟨s, hs, hso, hck, q1⟩ := q.chkd
  obtain ⟨p, ho, hv, hm, hp, c⟩ := q.1.own hs hso
  refine ⟨_, hv, ?_, G, O, a, q1.bind (RR := RDs X.kw) fun O1 H1 a1 vs ds I1 e1 r1 q2 => q2.mt gSAdd_ok hv r1⟩
  cases s with
  | st is =>
    obtain ⟨S, k, rfl, nd, rfl, hS⟩ := c.inv_st
    exact ⟨p, S, _, rfl, hp⟩
  | _ => cases hck
/-- set() -/
theorem px_set0 {p : Pos} (hgl : Gl X "set") (hm : X.mg "set" = none) : PX X W (.Call (.Name "set" p) [] [] pos) (M.pure (.st [])) := by
  refine PE.imp (pe_callTy0 cr_set0 hgl hm PyProof.Rows.boot_set) fun σ H Q ⟨G, O, a, q⟩ => ?_
  refine ⟨rfl, fun p hp => (q.out (by intro z; cases z)).new (Ex.new hp) hp upd_same ?_⟩
  exact ⟨_, _, rfl, List.nodup_nil, rfl, fun j => by simp⟩
/-- k in s, s a slot -/
def mSIn (neg : Bool) (m : M PyData) (i : Nat) : M Bool := M.bind m fun d => fun a => match d, a[i]? with
  | .int k, some (.st is) => some (.ok (if neg then !decide (k ∈ is) else decide (k ∈ is)), a)
  | _, _ => none
theorem tM_sin {ν : Type} {RR : RRel ν Bool} {neg : Bool} {m : M PyData} {i : Nat} {σ : St} {H : Hp} {Q : ν → Hp → Prop} {T : V → Hp → Prop} (h : tM X.kw W RR (mSIn neg m i) σ H Q)
    (hb : ∀ G O a H b, At X.kw W RR (M.pure b) G O a σ H Q → T (.bl b) H) :
    tOp (if neg then rSNotIn X.w else rSIn X.w) (tM X.kw W (RD X.kw) m) (tVar i) σ H T := by
  obtain ⟨G, O, a, q⟩ := h
  refine ⟨G, O, a, q.bind (RR := RD X.kw) fun O1 H1 a1 v d I1 e1 r1 q1 => ?_⟩
  obtain ⟨I, op, y, ey, F⟩ := q1
  split at ey
  · rename_i k is hs
    cases ey
    obtain ⟨p, ho, hv, hm, hp, c⟩ := I.own hs rfl
    obtain ⟨S, n, rfl, nd, rfl, hS⟩ := c.inv_st
    cases r1
    refine ⟨_, hv, ?_⟩
    have fin := hb G O1 a1 H1 _ ⟨I, op, _, rfl, F⟩
    cases neg with
    | true => exact ⟨k, p, S, _, rfl, rfl, hp, by rw [hS]; exact fin⟩
    | false => exact ⟨k, p, S, _, rfl, rfl, hp, by rw [hS]; exact fin⟩
  · cases ey
end
/-! ### xs[i] = e, xs a slot -/
def gSetI (d : PyData) (i : PyData) : Sl → Option (Unit × Sl)
  | .lst ds => match i with
    | .int k => (ixN ds.length k).map fun n => ((), .lst (ds.set n d))
    | _ => none
  | _ => none
def mSetI (j : Nat) (me mi : M PyData) : M Fl := M.bind me fun d => M.bind (mChk j isL) fun _ => M.bind mi fun i => M.bind (mUp j (gSetI d i)) fun _ => M.pure .nx
section
variable {X : Cx} {W : WB} {e i : Expr} {x : Str} {me mi : M PyData} {np pos tpos : Pos}
theorem ms_seti (j : Nat) (he : PD X W e me) (hi : PD X W i mi)
    (hN : X.N[j]? = some x := by rfl) (hv : Vis X.env.scope x := by first | exact Or.inl rfl | exact Or.inr (Or.inl rfl) | exact Or.inr (Or.inr rfl)) (hd : (x == ("__debug__" : Str)) = false := by decide)
    (hcd : (x == ("__classdict__" : Str)) = false := by decide)
    (ha : ∀ v, assign (.Subscript (.Name x np) i tpos) X.env v = (do
      let ov ← holding [v] (eval (.Name x np) X.env)
      let iv ← holding [v, ov] (eval i X.env)
      standAt tpos
      holding [v, ov, iv] (setItem ov iv v)
      release [v, ov, iv] []) := by intro _; rfl)
    (hs : swapsWithSole [.Subscript (.Name x np) i tpos] e pos.line X.env = pure false := by rfl) (hw : swappedStores [.Subscript (.Name x np) i tpos] e X.env = pure none := by rfl)
    (h1 : (assignEach [.Subscript (.Name x np) i tpos] X.env).map (·.2) = [assign (.Subscript (.Name x np) i tpos) X.env] := by rfl) : PSM X W (.Assign [.Subscript (.Name x np) i tpos] e pos) (mSetI j me mi) := by
  refine PS.imp (ps_asg he (pg_sub (pe_var (i := j) hN hv hd hcd) hi set_list ha) hs hw h1) fun D σ H ⟨G, O, a, q⟩ => ?_
  refine q.bind (RR := RD X.kw) fun O1 H1 a1 v d I1 e1 r1 q1 => ?_
  obtain ⟨s, hs, hso, hck, q2⟩ := q1.chkd
  obtain ⟨p, ho, hv, hm, hp, c⟩ := I1.own hs hso
  refine ⟨_, hv, q2.bind (RR := RD X.kw) fun O2 H2 a2 w k I2 e2 r2 q3 => ?_⟩
  obtain ⟨I, op, y, ey, F⟩ := q3
  unfold M.bind at ey
  cases hu : mUp j (gSetI d k) a2 with
  | none => rw [hu] at ey; cases ey
  | some z =>
    rw [hu] at ey
    obtain ⟨s2, r, hs2, ho2, hg, rfl⟩ := mUp_some hu
    have ey' : some (Except.ok Fl.nx, a2.set j r.2) = some y := ey
    cases ey'
    obtain ⟨p2, hob, hv2, hm2, hp2, c2⟩ := I2.own hs2 ho2
    rw [hv] at hv2
    cases hv2
    unfold gSetI at hg
    split at hg
    · rename_i ds
      obtain ⟨vs, rfl, rr⟩ := c2.inv_lst
      split at hg
      · rename_i kk
        cases hx : ixN ds.length kk with
        | none => rw [hx] at hg; cases hg
        | some n =>
          rw [hx] at hg
          cases hg
          cases r2
          refine ⟨p, vs, kk, n, rfl, rfl, hp2, by rw [rr.length]; exact hx, ?_⟩
          refine F O2 σ _ (I2.mut hs2 rfl hv ex_upd upd_same ?_) (ext_but hm2 ex_upd)
          rw [hide_own hm2]
          exact rr.set (R.mono e2 _ _ r1) n
      · cases hg
    · cases hg
end
end Am

/-! Am8: defs and calls. As in HandS, but every def also knows that no repr runs around it. -/
namespace Am
open PySem L2 PySem.Spec
open PyProof.Rows (envOfC)

/-- a def's promise, where no repr runs around the call -/
structure FnG (P : Program) (w : World) (K : PySem.W.Frag) (mg : Str → Option Value) (base : Heap) (CX : CXT) (k : Nat) (f : Addr) (fd : FuncData) (ps : List Str) (sp : Sp) : Prop where
  len : ∀ vs H Q E, sp vs H Q E → vs.length = ps.length
  run : ∀ (A : Around) (fr : List Env) (s0 : Shared) (H : Hp) (ar : Args) (us : List Value) (vs : List V) (Q : VK) (E : XK), Room k A → A.guards = some [] → Env0 P w K mg base A fr s0 H →
    BindsTo s0 fd ar (ps.zip us) → Vals vs us → sp vs H Q E → codeAny (model P w) A (.call (.ref f) ar) (CR CX fr P w H s0 Q E) s0
theorem FnG.mono {P : Program} {w : World} {K : PySem.W.Frag} {mg : Str → Option Value} {base : Heap} {CX : CXT} {j k : Nat} {f : Addr} {fd : FuncData} {ps : List Str} {sp : Sp} (F : FnG P w K mg base CX j f fd ps sp) (h : j ≤ k) : FnG P w K mg base CX k f fd ps sp :=
  ⟨F.len, fun A fr s0 H ar us vs Q E hr => F.run A fr s0 H ar us vs Q E (hr.mono h)⟩
abbrev dfnEnv (qual : Str) (st : Stmt) (f : Addr) (cdv : Value) (s : Shared) : Env := envOfC qual (defScope st) s.heap.objs.size f cdv
section
variable {P : Program} {w : World} {K : PySem.W.Frag} {mg : Str → Option Value} {base : Heap} {CX : CXT} {k : Nat} {f : Addr} {fd : FuncData} {x qual : Str} {st : Stmt} {N ps : List Str} {sp : Sp}
theorem fnG_of (F : Fun K x qual st f fd) (S : FnScope N ps (defScope st)) (len : ∀ vs H Q E, sp vs H Q E → vs.length = ps.length)
    (hb : ∀ (cdv : Value) (A : Around) (fr : List Env) (s : Shared) (H : Hp) (vs : List V) (Q : VK) (E : XK), Room k (A.deeper (dfnEnv qual st f cdv s)) → A.guards = some [] → sp vs H Q E →
      ∃ t, PSs (cxOf CX P w K mg base N qual (defScope st) f cdv A fr s H E) (defBody st) t ∧ t { nx := fun _ H' => Q .non H', rt := Q } (start N vs) H) : FnG P w K mg base CX (k + 1) f fd ps sp := by
  obtain ⟨_, _, _, _, _, _, cdv, _, _, rfl, atf, cdk⟩ := F.ex
  refine ⟨len, fun A fr s0 H ar us vs Q E room gd env bd rel hsp => ?_⟩
  have stay : ∀ b o, base.get? b = some o → s0.heap.get? b = some o := fun b o e => (env.bs b o e).1
  have kin : K.In s0.heap := env.mod.kin.keeps stay
  have places : ∀ y ∈ ps.zip us, (defScope st).names.lookup y.1 = some .local ∨ ((defScope st).names.lookup y.1 = some .cell ∧ ((cellsFrom (s0.heap.objs.size + 1) (defScope st).names []).lookup y.1).isSome = true) := by
    rintro ⟨n, v⟩ hy
    exact (S.par n (List.of_mem_zip hy).1).imp id fun c => ⟨c, PySem.W.cellsFrom_some _ _ _ (.inl c)⟩
  refine codeAny_call_function room.depth (kin _ _ atf) rfl S.co S.gen rfl (PySem.W.codeRec_of kin cdk) (bd _ _ _ _ (wpAny_newFunctionEnv_cells S.kind places ?_))
  rintro env1 rfl s1 ic
  refine ⟨(env.mod.nolimit.keeps stay).keeps ic.toInCall.keep, codeAny_func ?_⟩
  obtain ⟨t, tr, rd⟩ := hb cdv A fr s0 H vs Q E (room.deeper _) gd hsp
  refine wpAny_mono (tr.run [] s1 (start N vs) H _ (inv_start S room.hd env (len _ _ _ _ hsp) rel ic) rd) ?_ fun _ _ z => z
  rintro (_ | _ | _ | u) s2 hs
  · obtain ⟨σ2, H2, J, q⟩ := hs
    exact ⟨.non, H2, J.os, J.bare, J.base, J.hok, rfl, q⟩
  · exact hs.elim fun _ z => z.elim fun _ z => z.2.elim
  · exact hs.elim fun _ z => z.elim fun _ z => z.2.elim
  · obtain ⟨v, σ2, H2, J, rv, q⟩ := hs
    exact ⟨v, H2, J.os, J.bare, J.base, J.hok, rv, q⟩
end
section
variable {X : Cx} {CX : CXT} {k : Nat} {f : Addr} {fd : FuncData} {ps : List Str} {sp : Sp} {E : St → XK} {x : Str} {p pos : Pos} {e : Expr} {es : List Expr} {t : TA}
theorem call_fnG {pins : List (Addr × Obj)} {σ : St} {H : Hp} {s : Shared} {Q : VK} {us : List Value} {vs : List V} (F : FnG X.prog X.w X.K X.mg X.base CX k f fd ps sp) (hr : Room k X.A) (gd : X.A.guards = some []) (hb : Binds X.K fd ps []) (hx : PassesAt CX X σ (E σ))
    (I : Inv X pins σ H s) (rel : Vals vs us) (h : sp vs H Q (E σ)) : wpAny (model X.prog X.w) X.A (call (.ref f) us) (EP X pins σ Q) X.xe s := by
  have hl : us.length = ps.length := rel.length.symm.trans (F.len _ _ _ _ h)
  have bd : BindsTo s fd ⟨us, []⟩ (ps.zip us) := by simpa using hb s us I.kIn (by simpa using hl)
  refine wpAny_call (codeAny_mono (F.run X.A X.stack s H _ us vs Q (E σ) hr gd I.env0 bd rel h) ?_)
  rintro (e | fl) s2 hq
  · exact hx pins H s e s2 I hq
  · cases fl with
    | ret u => exact I.after hq
    | _ => exact hq.elim
theorem pe_callG (F : FnG X.prog X.w X.K X.mg X.base CX k f fd ps sp) (hr : Room k X.A) (gd : X.A.guards = some []) (hg : Gl X x) (hm : X.mg x = some (.ref f)) (hk : PySem.W.keepIn X.K (.ref f) = true) (hb : Binds X.K fd ps []) (hx : ∀ σ, PassesAt CX X σ (E σ))
    (ha : PA X (e :: es) t) (hdb : (x == ("__debug__" : Str)) = false := by decide) (he : starEach (e :: es) X.env = (false, eval e X.env) :: starEach es X.env := by rfl) (hpl : (backTo pos (starEach es X.env)).any (·.1) = false := by rfl) :
    PE X (.Call (.Name x p) (e :: es) [] pos) (tCallS sp E t) :=
  ⟨fun pins s σ H Q I h => wpAny_Call_Name_kw (ld_glob I hg hm (PySem.W.callWith_K (h₀ := X.base) I.ok.mod.kin hk (thn (ha.run pos pins s σ H _ I h) fun us s1 ⟨vs, H1, I1, rel, q⟩ => ⟨I1.kIn, call_fnG F hr gd hb (hx σ) I1 rel q⟩) he hpl) hdb)⟩
end

/-! ### what a def's mirror gives -/
def startA (n : Nat) (ss : List Sl) : AEnv := ss ++ List.replicate (n - ss.length) .un
def resOf : Option (Except Exc Fl × AEnv) → Option (Except Exc Sl × AEnv)
  | some (.ok .nx, a) => some (.ok (.dat .none), a)
  | some (.ok (.ret s), a) => some (.ok s, a)
  | some (.error e, a) => some (.error e, a)
  | _ => none
/-- a def of data -/
abbrev FnD := List PyData → Option (Except Exc Sl)
/-- a def that changes its first parameter -/
abbrev FnI := Sl → List PyData → Option (Except Exc Sl × Sl)
/-- a def of data and the boxes -/
abbrev FnB := List PyData → List Sl → Option (Except Exc Sl × List Sl)
def fnD (n : Nat) (body : M Fl) : FnD := fun ds => (resOf (body (startA n (ds.map Sl.dat)))).map (·.1)
def fnI (n : Nat) (body : M Fl) : FnI := fun s0 ds => match resOf (body (startA n (s0 :: ds.map Sl.dat))) with
  | some (r, s1 :: _) => if s1.owned then some (r, s1) else none
  | _ => none
def fnB (n : Nat) (body : M Fl) : FnB := fun ds bs => match resOf (body (startA n (ds.map Sl.dat) ++ [.bxs bs])) with
  | some (r, a) => match a[n]? with
    | some (.bxs bs') => some (r, bs')
    | _ => none
  | none => none
/-! ### owned places, boxes: what is asked of them -/
structure OwnOk (O : Own) (H : Hp) : Prop where
  th : Thr O H
  sub : ∀ p ∈ O.r, p ∈ O.l
  nd : O.r.Nodup
theorem SR.ownOk {K : KW} {G : Gd} {O : Own} {σ : St} {H : Hp} {a : AEnv} (I : SR K G O σ H a) : OwnOk O H := ⟨I.th, I.rr.sub, I.rr.nd⟩
/-- more boxes -/
def Own.ext (O : Own) (rs : List Addr) : Own := ⟨rs ++ O.l, O.r ++ rs⟩
/-- from O, H to more boxes rs over H': boxes alone may have changed -/
structure Grow (K : KW) (O : Own) (H : Hp) (rs : List Addr) (H' : Hp) (bs' : List Sl) (O2 : Own) : Prop where
  ex : Ex (hid O.r H) H'
  new : ∀ p ∈ rs, H p = none ∧ ∃ o, H' p = some o
  nd : rs.Nodup
  bx : Bxs K O2 H' bs'
  there : ∀ p ∈ O.r, ∃ o, H' p = some o
section
variable {K : KW} {G : Gd} {O : Own} {σ : St} {H H' : Hp} {a : AEnv} {rs : List Addr} {bs bs' : List Sl}
theorem OwnOk.notr (ok : OwnOk O H) (new : ∀ p ∈ rs, H p = none) : ∀ p ∈ rs, p ∉ O.l := fun p hp z => by
  obtain ⟨o, q⟩ := ok.th p z
  rw [new p hp] at q
  cases q
theorem Grow.ext {O2 : Own} (g : Grow K O H rs H' bs' O2) (ok : OwnOk O H) : Ext O H (O.ext rs) H' := ⟨fun b o q => by
  obtain ⟨h1, h2⟩ := hide_some.mp q
  refine hide_some.mpr ⟨fun z => ?_, g.ex b o (hide_some.mpr ⟨fun z => h1 (ok.sub b z), h2⟩)⟩
  rcases List.mem_append.mp z with z | z
  · rw [(g.new b z).1] at h2
    cases h2
  · exact h1 z, List.prefix_append _ _⟩
theorem SR.boxes (I : SR K G O σ H a) (ho : G.opn = true) (g : Grow K O H rs H' bs' (O.ext rs)) : SR K G (O.ext rs) σ H' (a.set σ.length (.bxs bs')) := by
  have ok := I.ownOk
  have ex := g.ext ok
  obtain ⟨bs0, hb0, _⟩ := I.rr.bs ho
  have hlt : σ.length < a.length := (List.getElem?_eq_some_iff.mp hb0).1
  have keep : ∀ {p : Addr} {o : HO}, p ∉ O.r → H p = some o → H' p = some o := fun {p o} n q => g.ex p o (hide_some.mpr ⟨n, q⟩)
  have old : ∀ {j : Nat} {s : Sl}, s.owned = true → (a.set σ.length (.bxs bs'))[j]? = some s → a[j]? = some s := fun {j s} hs hj => by
    by_cases e : σ.length = j
    · subst e
      rw [List.getElem?_set_self hlt] at hj
      cases hj
      cases hs
    · rw [List.getElem?_set_ne e] at hj
      exact hj
  refine ⟨fun b o q => ?_, fun p hp => ⟨List.mem_append_right _ (I.xs p hp).1, (I.xs p hp).2⟩, fun p hp => ?_, by rw [List.length_set]; exact I.len, fun i s x h1 h2 => ?_, fun i j p s t hij h1 h2 hs ht e1 e2 => I.inj i j p s t hij (old hs h1) (old ht h2) hs ht e1 e2,
    fun p hp s h1 hs => I.anc p hp s (old hs h1) hs, fun i s p h1 hs h2 => I.fr i s p (old hs h1) hs h2, fun p s hp => ?_, I.ghn, ⟨fun p hp => ?_, ?_, fun i s p h1 hs h2 z => ?_, fun p s hp z => ?_, fun _ => ⟨bs', by rw [List.getElem?_set_self hlt], g.bx⟩, fun h p hp => ?_, fun z => absurd ho (by rw [z]; decide)⟩⟩
  · have nr : b ∉ O.r := fun z => by
      rw [I.rr.bB ho b z] at q
      cases q
    exact keep nr (I.ex b o q)
  · rcases List.mem_append.mp hp with z | z
    · exact (g.new p z).2
    · by_cases hr : p ∈ O.r
      · exact g.there p hr
      · exact (I.th p z).imp fun o q => keep hr q
  · by_cases e : σ.length = i
    · subst e
      rw [List.getElem?_eq_none (Nat.le_refl _)] at h2
      cases h2
    · rw [List.getElem?_set_ne e] at h1
      refine (I.sl i s x h1 h2).imp ex fun hs p ho' e1 m hp => ⟨List.mem_append_right _ m, keep ?_ hp⟩
      exact I.rr.sl i s p h1 hs (by rw [h2, e1])
  · obtain ⟨h1, ⟨ho', h2, h3⟩, h4⟩ := I.gh p s hp
    exact ⟨⟨List.mem_append_right _ h1.1, h1.2⟩, ⟨ho', keep (I.rr.gh p s hp) h2, h3.mono ex⟩, fun i t k1 kt => h4 i t (old kt k1) kt⟩
  · rcases List.mem_append.mp hp with z | z
    · exact List.mem_append_right _ (I.rr.sub p z)
    · exact List.mem_append_left _ z
  · refine List.nodup_append.mpr ⟨I.rr.nd, g.nd, fun p hp q hq e => ?_⟩
    exact ok.notr (fun p hp => (g.new p hp).1) q hq (e ▸ I.rr.sub p hp)
  · rcases List.mem_append.mp z with z | z
    · exact I.rr.sl i s p (old hs h1) hs h2 z
    · obtain ⟨q, ho', e1, m, _⟩ := I.own (old hs h1) hs
      rw [h2] at e1
      cases e1
      exact ok.notr (fun p hp => (g.new p hp).1) p z m
  · rcases List.mem_append.mp z with z | z
    · exact I.rr.gh p s hp z
    · exact ok.notr (fun p hp => (g.new p hp).1) p z (I.gh p s hp).1.1
  · rcases List.mem_append.mp hp with z | z
    · exact I.rr.bB ho p z
    · exact I.ex.free (g.new p z).1
end
def FinD (K : KW) (O : Own) (H : Hp) (r : Except Exc Sl) (Q : VK) (E : XK) : Prop := match r with
  | .ok (.dat d) => ∀ H' v, Ex H H' → R K (hide O H') v d → Q v H'
  | .ok (.exc e) => ∀ H' p, Ex H H' → ExAt K (hide O H') p e → Q (.ref p) H'
  | .ok s => ∀ H' p ho, Ex H H' → H p = none → H' p = some ho → Cont K (hide (O.put p) H') p ho s → Q (.ref p) H'
  | .error e => ∀ H' d, Ex H H' → ExcR K O H' d e → E (.ref (clsA K.k e.cls)) d H'
def FinI (K : KW) (O : Own) (H : Hp) (p : Addr) (r : Except Exc Sl × Sl) (Q : VK) (E : XK) : Prop := match r with
  | (.ok (.dat d), s1) => ∀ H' v ho, Ex (hid [p] H) H' → H' p = some ho → Cont K (hide O H') p ho s1 → R K (hide O H') v d → Q v H'
  | (.ok (.exc e), s1) => ∀ H' q ho, Ex (hid [p] H) H' → H' p = some ho → Cont K (hide O H') p ho s1 → ExAt K (hide O H') q e → Q (.ref q) H'
  | (.ok s, s1) => ∀ H' q ho ho2, Ex (hid [p] H) H' → H' p = some ho → Cont K (hide (O.put q) H') p ho s1 → H q = none → H' q = some ho2 → Cont K (hide (O.put q) H') q ho2 s → Q (.ref q) H'
  | (.error e, s1) => ∀ H' d ho, Ex (hid [p] H) H' → H' p = some ho → Cont K (hide O H') p ho s1 → ExcR K O H' d e → E (.ref (clsA K.k e.cls)) d H'
def FinB (K : KW) (O : Own) (H : Hp) (r : Except Exc Sl × List Sl) (Q : VK) (E : XK) : Prop := match r with
  | (.ok (.dat d), bs') => ∀ rs H' v, Grow K O H rs H' bs' (O.ext rs) → R K (hide (O.ext rs) H') v d → Q v H'
  | (.ok (.exc e), bs') => ∀ rs H' p, Grow K O H rs H' bs' (O.ext rs) → ExAt K (hide (O.ext rs) H') p e → Q (.ref p) H'
  | (.ok s, bs') => ∀ rs H' p ho, Grow K O H rs H' bs' ((O.ext rs).put p) → H p = none → p ∉ rs → H' p = some ho → Cont K (hide ((O.ext rs).put p) H') p ho s → Q (.ref p) H'
  | (.error e, bs') => ∀ rs H' d, Grow K O H rs H' bs' (O.ext rs) → ExcR K (O.ext rs) H' d e → E (.ref (clsA K.k e.cls)) d H'
def spD (K : KW) (F : FnD) (n : Nat) : Sp := fun vs H Q E => vs.length = n ∧ ∃ O ds r, OwnOk O H ∧ RAll K (hide O H) vs ds ∧ F ds = some r ∧ FinD K O H r Q E
def spI (K : KW) (F : FnI) (n : Nat) : Sp := fun vs H Q E => vs.length = n ∧ ∃ O p ws ds s0 ho r, vs = .ref p :: ws ∧ OwnOk O H ∧ p ∈ O.l ∧ p ∉ O.r ∧ H p = some ho ∧ s0.owned = true ∧ Cont K (hide O H) p ho s0 ∧ RAll K (hide O H) ws ds ∧ F s0 ds = some r ∧ FinI K O H p r Q E
def spB (K : KW) (F : FnB) (n : Nat) : Sp := fun vs H Q E => vs.length = n ∧ ∃ O ds bs r, OwnOk O H ∧ Bxs K O H bs ∧ RAll K (hide O H) vs ds ∧ F ds bs = some r ∧ FinB K O H r Q E

theorem start_get {n : Nat} {ds : List PyData} {i : Nat} {s : Sl} (h : (startA n (ds.map Sl.dat))[i]? = some s) : s = .un ∨ ∃ d, ds[i]? = some d ∧ s = .dat d := by
  unfold startA at h
  rcases Nat.lt_or_ge i (ds.map Sl.dat).length with hl | hl
  · rw [List.getElem?_append_left hl, List.getElem?_map] at h
    cases hd : ds[i]? with
    | none => rw [hd] at h; cases h
    | some d =>
      rw [hd] at h
      exact .inr ⟨d, rfl, (Option.some.inj h).symm⟩
  · rw [List.getElem?_append_right hl] at h
    exact .inl (List.eq_of_mem_replicate (List.mem_of_getElem? h))
theorem startV_get {N : List Str} {vs : List V} {i : Nat} {v : V} (h : vs[i]? = some v) : (start N vs)[i]? = some (some v) := by
  unfold L2.start
  have hl : i < (vs.map some).length := by
    rw [List.length_map]
    exact (List.getElem?_eq_some_iff.mp h).1
  rw [List.getElem?_append_left hl, List.getElem?_map, h]
  rfl
theorem startA_length {n : Nat} {ss : List Sl} (h : ss.length ≤ n) : (startA n ss).length = n := by
  unfold startA
  rw [List.length_append, List.length_replicate]
  omega
theorem startV_length {N : List Str} {vs : List V} (h : vs.length ≤ N.length) : (L2.start N vs).length = N.length := by
  unfold L2.start
  rw [List.length_append, List.length_map, List.length_replicate]
  omega
/-- what is seen from fewer owned places over the same heap -/
theorem hide_sub {O O' : Own} {H : Hp} (h : ∀ p ∈ O.l, p ∈ O'.l) (r : O'.r <+: O.r) : Vx (hide O' H) (hide O H) := ⟨fun b o q => by
  obtain ⟨h1, h2⟩ := hide_some.mp q
  exact hide_some.mpr ⟨fun z => h1 (h b z), h2⟩, r⟩
theorem ExcR.sub {K : KW} {O O' : Own} {H : Hp} {d : Option Addr} {e : Exc} (h : ∀ p ∈ O.l, p ∈ O'.l) (r : O'.r <+: O.r) (q : ExcR K O' H d e) : ExcR K O H d e := by
  rcases q with q | ⟨p, vs, h1, h0, h2, h3, h4⟩
  · exact .inl q
  · exact .inr ⟨p, vs, h1, fun z => h0 (h p z), h2, RK.mono (hide_sub h r) h3, h4⟩
section
variable {K : KW} {O : Own} {H : Hp} {N : List Str} {vs : List V} {ds : List PyData} {bs : List Sl}
theorem SR.start (ok : OwnOk O H) (ra : RAll K (hide O H) vs ds) (hn : vs.length ≤ N.length) : SR K { B := H, X := O.l, rc := O.r } O (L2.start N vs) H (startA N.length (ds.map Sl.dat)) := by
  have no : ∀ {i : Nat} {s : Sl}, (startA N.length (ds.map Sl.dat))[i]? = some s → s.owned = true → False := fun {i s} h hs => by
    rcases start_get h with rfl | ⟨d, _, rfl⟩ <;> cases hs
  refine ⟨Ex.refl _, fun p hp => ⟨hp, ok.th p hp⟩, ok.th, ?_, fun i s x h1 h2 => ?_, fun i j p s t _ h1 _ hs => (no h1 hs).elim, fun p hp => (nomatch hp), fun i s p h1 hs => (no h1 hs).elim, fun p s hp => (nomatch hp), List.nodup_nil,
    ⟨ok.sub, ok.nd, fun i s p h1 hs => (no h1 hs).elim, fun p s hp => (nomatch hp), fun z => (nomatch z), fun z => (nomatch z), fun _ => rfl⟩⟩
  · rw [startA_length (by rw [List.length_map, ← ra.length]; exact hn), startV_length hn]
    rfl
  · rcases start_get h1 with rfl | ⟨d, hd, rfl⟩
    · trivial
    · obtain ⟨v, hv, r⟩ := ra.get i hd
      rw [startV_get hv] at h2
      cases h2
      exact ⟨v, rfl, r⟩
theorem SR.startB (ok : OwnOk O H) (hb : Bxs K O H bs) (ra : RAll K (hide O H) vs ds) (hn : vs.length ≤ N.length) :
    SR K { B := hid O.r H, X := O.l.filter fun b => decide (b ∉ O.r), opn := true } O (L2.start N vs) H (startA N.length (ds.map Sl.dat) ++ [.bxs bs]) := by
  have hl : (startA N.length (ds.map Sl.dat)).length = N.length := startA_length (by rw [List.length_map, ← ra.length]; exact hn)
  have hv := startV_length hn
  have get : ∀ {i : Nat} {s : Sl}, (startA N.length (ds.map Sl.dat) ++ [.bxs bs])[i]? = some s → (startA N.length (ds.map Sl.dat))[i]? = some s ∨ (i = N.length ∧ s = .bxs bs) := fun {i s} h => by
    rcases Nat.lt_or_ge i N.length with z | z
    · rw [List.getElem?_append_left (by rw [hl]; exact z)] at h
      exact .inl h
    · rw [List.getElem?_append_right (by rw [hl]; exact z), hl] at h
      have e : i - N.length = 0 := by
        have := (List.getElem?_eq_some_iff.mp h).1
        simp at this
        omega
      rw [e] at h
      exact .inr ⟨by omega, (Option.some.inj h).symm⟩
  have no : ∀ {i : Nat} {s : Sl}, (startA N.length (ds.map Sl.dat) ++ [.bxs bs])[i]? = some s → s.owned = true → False := fun {i s} h hs => by
    rcases get h with h | ⟨_, rfl⟩
    · rcases start_get h with rfl | ⟨d, _, rfl⟩ <;> cases hs
    · cases hs
  refine ⟨hid_ex _ _, fun p hp => ?_, ok.th, ?_, fun i s x h1 h2 => ?_, fun i j p s t _ h1 _ hs => (no h1 hs).elim, fun p hp => (nomatch hp), fun i s p h1 hs => (no h1 hs).elim, fun p s hp => (nomatch hp), List.nodup_nil,
    ⟨ok.sub, ok.nd, fun i s p h1 hs => (no h1 hs).elim, fun p s hp => (nomatch hp), fun _ => ⟨bs, ?_, hb⟩, fun _ p hp => if_pos hp, fun z => (nomatch z)⟩⟩
  · obtain ⟨h1, h2⟩ := List.mem_filter.mp hp
    exact ⟨h1, (ok.th p h1).imp fun o q => hide_some.mpr ⟨of_decide_eq_true h2, q⟩⟩
  · rw [List.length_append, hl, hv]
    rfl
  · rcases get h1 with h1 | ⟨rfl, rfl⟩
    · rcases start_get h1 with rfl | ⟨d, hd, rfl⟩
      · trivial
      · obtain ⟨v, hv, r⟩ := ra.get i hd
        rw [startV_get hv] at h2
        cases h2
        exact ⟨v, rfl, r⟩
    · rw [List.getElem?_eq_none (by rw [hv]; exact Nat.le_refl _)] at h2
      cases h2
  · rw [hv, List.getElem?_append_right (by rw [hl]; exact Nat.le_refl _), hl, Nat.sub_self]
    rfl
theorem SR.startI {p : Addr} {ho : HO} {s0 : Sl} (ok : OwnOk O H) (hm : p ∈ O.l) (hr : p ∉ O.r) (hp : H p = some ho) (h0 : s0.owned = true) (c : Cont K (hide O H) p ho s0) (ra : RAll K (hide O H) vs ds) (hn : (V.ref p :: vs).length ≤ N.length) :
    SR K { B := hid [p] H, X := O.l.filter fun b => decide (b ≠ p), anc := some p, rc := O.r } O (L2.start N (.ref p :: vs)) H (startA N.length (s0 :: ds.map Sl.dat)) := by
  have e0 : (startA N.length (s0 :: ds.map Sl.dat))[0]? = some s0 := rfl
  have v0 : (L2.start N (.ref p :: vs))[0]? = some (some (.ref p)) := rfl
  have eS : ∀ {i : Nat} {s : Sl}, (startA N.length (s0 :: ds.map Sl.dat))[i + 1]? = some s → (startA (N.length - 1) (ds.map Sl.dat))[i]? = some s := fun {i s} h => by
    have q : startA N.length (s0 :: ds.map Sl.dat) = s0 :: startA (N.length - 1) (ds.map Sl.dat) := by
      unfold startA
      rw [List.length_cons, List.cons_append, Nat.sub_sub, Nat.add_comm 1]
    rw [q] at h
    exact h
  have only : ∀ {i : Nat} {s : Sl}, (startA N.length (s0 :: ds.map Sl.dat))[i]? = some s → s.owned = true → i = 0 ∧ s = s0 := fun {i s} h hs => by
    cases i with
    | zero => exact ⟨rfl, (Option.some.inj (e0.symm.trans h)).symm⟩
    | succ i =>
      rcases start_get (eS h) with rfl | ⟨d, _, rfl⟩ <;> cases hs
  have at0 : ∀ {i : Nat} {s : Sl} {b : Addr}, (startA N.length (s0 :: ds.map Sl.dat))[i]? = some s → s.owned = true → (L2.start N (.ref p :: vs))[i]? = some (some (.ref b)) → b = p := fun {i s b} h1 hs h2 => by
    obtain ⟨rfl, rfl⟩ := only h1 hs
    rw [v0] at h2
    cases h2
    rfl
  refine ⟨hid_ex _ _, fun b hb => ?_, ok.th, ?_, fun i s x h1 h2 => ?_, fun i j b s t hij h1 h2 hs ht => ?_, fun b hb s h1 hs => ?_, fun i s b h1 hs h2 => ?_, fun b s hb => (nomatch hb), List.nodup_nil,
    ⟨ok.sub, ok.nd, fun i s b h1 hs h2 => (by rw [at0 h1 hs h2]; exact hr), fun p s hp => (nomatch hp), fun z => (nomatch z), fun z => (nomatch z), fun _ => rfl⟩⟩
  · obtain ⟨h1, h2⟩ := List.mem_filter.mp hb
    exact ⟨h1, (ok.th b h1).elim fun o q => ⟨o, hide_some.mpr ⟨fun z => of_decide_eq_true h2 (List.mem_singleton.mp z), q⟩⟩⟩
  · rw [startA_length (by rw [List.length_cons, List.length_map, ← ra.length]; exact hn), startV_length hn]
    rfl
  · cases i with
    | zero =>
      rw [e0] at h1
      rw [v0] at h2
      cases h1
      cases h2
      exact (SlR.own h0).mpr ⟨p, ho, rfl, hm, hp, c⟩
    | succ i =>
      rcases start_get (eS h1) with rfl | ⟨d, hd, rfl⟩
      · trivial
      · obtain ⟨v, hv, r⟩ := ra.get i hd
        have hv' : (V.ref p :: vs)[i + 1]? = some v := hv
        rw [startV_get hv'] at h2
        cases h2
        exact ⟨v, rfl, r⟩
  · exact absurd ((only h1 hs).1.trans (only h2 ht).1.symm) hij
  · cases hb
    exact v0
  · rw [at0 h1 hs h2]
    exact if_pos List.mem_cons_self
end
/-! ### a def by its mirror -/
abbrev WXE (E : XK) : WB := ⟨fun c d _ H => E c d H, false⟩
abbrev WXO (E : XK) : WB := ⟨fun c d _ H => E c d H, true⟩
section
variable {P : Program} {w : World} {K : PySem.W.Frag} {mg : Str → Option Value} {base : Heap} {CX : CXT} {k : Nat} {f : Addr} {fd : FuncData} {x qual : Str} {st : Stmt} {N ps : List Str} {body : M Fl}
/-- the def's own context has no pins -/
theorem cx_kw {qual : Str} {sc : Scope} {cdv : Value} {A : Around} {fr : List Env} {s : Shared} {H : Hp} {E : XK} : (cxOf CX P w K mg base N qual sc f cdv A fr s H E).kw = ⟨K, w, []⟩ := rfl
theorem okD (F : Fun K x qual st f fd) (S : FnScope N ps (defScope st)) (hn : ps.length ≤ N.length)
    (hb : ∀ (cdv : Value) (A : Around) (fr : List Env) (s : Shared) (H : Hp) (E : XK), Room k (A.deeper (dfnEnv qual st f cdv s)) → A.guards = some [] →
      PSsM (cxOf CX P w K mg base N qual (defScope st) f cdv A fr s H E) (WXE E) (defBody st) body) : FnG P w K mg base CX (k + 1) f fd ps (spD ⟨K, w, []⟩ (fnD N.length body) ps.length) := by
  refine fnG_of F S (fun vs H Q E h => h.1) fun cdv A fr s H vs Q E hr gd h => ⟨_, hb cdv A fr s H E hr gd, ?_⟩
  obtain ⟨hl, O, ds, r, ok, ra, hF, fin⟩ := h
  have I := SR.start (K := ⟨K, w, []⟩) (N := N) ok ra (by rw [hl]; exact hn)
  refine ⟨_, O, _, I, fun z => (nomatch z), ?_⟩
  unfold fnD at hF
  cases hx : body (startA N.length (ds.map Sl.dat)) with
  | none => rw [hx] at hF; cases hF
  | some y =>
    rw [hx] at hF
    refine ⟨y, rfl, ?_⟩
    obtain ⟨y1, a1⟩ := y
    have sub : ∀ {O' : Own} {σ' : St} {H' : Hp}, SR ⟨K, w, []⟩ { B := H, X := O.l, rc := O.r } O' σ' H' a1 → (∀ p ∈ O.l, p ∈ O'.l) ∧ O'.r <+: O.r := fun {O' σ' H'} J => ⟨fun p hp => (J.xs p hp).1, by
      have z : O'.r = O.r := J.rr.rc rfl
      rw [z]
      exact List.prefix_refl _⟩
    cases y1 with
    | error e =>
      have hF' : some (Except.error e) = some r := hF
      cases hF'
      exact fun O' σ' H' d J ex q => fin H' d J.ex (q.sub (sub J).1 (sub J).2)
    | ok fl =>
      cases fl with
      | brk => cases hF
      | ct => cases hF
      | nx =>
        have hF' : some (Except.ok (Sl.dat .none)) = some r := hF
        cases hF'
        exact fun O' σ' H' J ex => fin H' .non J.ex .non
      | ret u =>
        have hF' : some (Except.ok u) = some r := hF
        cases hF'
        refine fun O' σ' H' v J ex q => ?_
        rcases q with ⟨d, rfl, rd⟩ | ⟨hs, p, ho, rfl, hm, hp, c, nb, ng, nB, nr⟩ | ⟨e, p, rfl, rfl, rx⟩
        · exact fin H' v J.ex (R.mono (hide_sub (sub J).1 (sub J).2) _ _ rd)
        · have c2 : Cont ⟨K, w, []⟩ (hide (O.put p) H') p ho u := c.mono (hide_sub (O := O.put p) (O' := O') (fun b hb => (List.mem_cons.mp hb).elim (fun e => e ▸ hm) ((sub J).1 b)) (sub J).2)
          have key : ∀ H' p ho, Ex H H' → H p = none → H' p = some ho → Cont ⟨K, w, []⟩ (hide (O.put p) H') p ho u → Q (.ref p) H' := by
            cases u with
            | dat d => cases hs
            | exc d => cases hs
            | _ => exact fin
          exact key H' p ho J.ex nB hp c2
        · exact fin H' p J.ex (rx.mono (hide_sub (sub J).1 (sub J).2))
theorem okB (F : Fun K x qual st f fd) (S : FnScope N ps (defScope st)) (hn : ps.length ≤ N.length)
    (hb : ∀ (cdv : Value) (A : Around) (fr : List Env) (s : Shared) (H : Hp) (E : XK), Room k (A.deeper (dfnEnv qual st f cdv s)) → A.guards = some [] →
      PSsM (cxOf CX P w K mg base N qual (defScope st) f cdv A fr s H E) (WXO E) (defBody st) body) : FnG P w K mg base CX (k + 1) f fd ps (spB ⟨K, w, []⟩ (fnB N.length body) ps.length) := by
  refine fnG_of F S (fun vs H Q E h => h.1) fun cdv A fr s H vs Q E hr gd h => ⟨_, hb cdv A fr s H E hr gd, ?_⟩
  obtain ⟨hl, O, ds, bs, r, ok, bx, ra, hF, fin⟩ := h
  have hnv : vs.length ≤ N.length := by rw [hl]; exact hn
  have I := SR.startB (K := ⟨K, w, []⟩) (N := N) ok bx ra hnv
  have hσ := startV_length hnv
  refine ⟨_, O, _, I, fun z => rfl, ?_⟩
  unfold fnB at hF
  cases hx : body (startA N.length (ds.map Sl.dat) ++ [.bxs bs]) with
  | none => rw [hx] at hF; cases hF
  | some y =>
    rw [hx] at hF
    refine ⟨y, rfl, ?_⟩
    obtain ⟨y1, a1⟩ := y
    -- the state at the end
    have last : ∀ {O' : Own} {σ' : St} {H' : Hp} {bs' : List Sl}, SR ⟨K, w, []⟩ { B := hid O.r H, X := O.l.filter fun b => decide (b ∉ O.r), opn := true } O' σ' H' a1 → Ext O H O' H' → σ'.length = N.length → a1[N.length]? = some (.bxs bs') →
        ∃ rs, (∀ O2, (∀ p ∈ O2.l, p ∈ O'.l) → O2.r = O'.r → Grow ⟨K, w, []⟩ O H rs H' bs' O2) ∧ (∀ p ∈ (O.ext rs).l, p ∈ O'.l) ∧ O'.r = (O.ext rs).r ∧ (∀ p, p ∉ O'.r → hid O.r H p = none → H p = none ∧ p ∉ rs) := fun {O' σ' H' bs'} J ex hσ' hbs => by
      obtain ⟨rs, hrs⟩ := ex.r
      have hr : O'.r = O.r ++ rs := hrs.symm
      obtain ⟨bs2, h1, h2⟩ := J.rr.bs rfl
      rw [hσ', hbs] at h1
      cases h1
      have nd := J.rr.nd
      rw [hr] at nd
      have nd' := List.nodup_append.mp nd
      have inr : ∀ p ∈ rs, p ∈ O'.r := fun p hp => by rw [hr]; exact List.mem_append_right _ hp
      have sub : ∀ p ∈ (O.ext rs).l, p ∈ O'.l := fun p hp => by
        rcases List.mem_append.mp hp with z | z
        · exact J.rr.sub p (inr p z)
        · by_cases q : p ∈ O.r
          · exact J.rr.sub p (by rw [hr]; exact List.mem_append_left _ q)
          · exact (J.xs p (List.mem_filter.mpr ⟨z, decide_eq_true q⟩)).1
      refine ⟨rs, fun O2 sub2 hr2 => ⟨J.ex, fun p hp => ⟨?_, J.th p (J.rr.sub p (inr p hp))⟩, nd'.2.1, ⟨by rw [h2.len, hr2], fun i p s hp hs => ?_⟩, fun p hp => J.th p (J.rr.sub p (by rw [hr]; exact List.mem_append_left _ hp))⟩, sub, hr, fun p hp hz => ⟨?_, fun z => hp (inr p z)⟩⟩
      · have z : hid O.r H p = none := J.rr.bB rfl p (inr p hp)
        unfold hid at z
        rwa [if_neg (fun q => nd'.2.2 p q p hp rfl)] at z
      · rw [hr2] at hp
        obtain ⟨ho, q1, q2⟩ := h2.at_ i p s hp hs
        exact ⟨ho, q1, q2.mono (hide_sub sub2 (by rw [hr2]; exact List.prefix_refl _))⟩
      · unfold hid at hz
        rwa [if_neg (fun q => hp (by rw [hr]; exact List.mem_append_left _ q))] at hz
    have lenJ : ∀ {O' : Own} {σ' : St} {H' : Hp}, SR ⟨K, w, []⟩ { B := hid O.r H, X := O.l.filter fun b => decide (b ∉ O.r), opn := true } O' σ' H' a1 → ∀ bs', a1[N.length]? = some (.bxs bs') → σ'.length = N.length := fun {O' σ' H'} J bs' h => by
      rcases Nat.lt_trichotomy N.length σ'.length with z | z | z
      · exact (J.sl N.length _ σ'[N.length] h (by simp [z])).elim
      · exact z.symm
      · have h1 := J.len
        rw [if_pos rfl] at h1
        have h2 := (List.getElem?_eq_some_iff.mp h).1
        omega
    cases y1 with
    | error e =>
      have hF' : (match a1[N.length]? with
        | some (.bxs bs') => some (Except.error e, bs')
        | _ => none) = some r := hF
      split at hF'
      · rename_i bs' hbs
        cases hF'
        refine fun O' σ' H' d J ex q => ?_
        obtain ⟨rs, g, sub, hr, _⟩ := last J ex (lenJ J _ hbs) hbs
        exact fin rs H' d (g _ sub hr.symm) (q.sub sub (by rw [hr]; exact List.prefix_refl _))
      · cases hF'
    | ok fl =>
      cases fl with
      | brk => cases hF
      | ct => cases hF
      | nx =>
        have hF' : (match a1[N.length]? with
          | some (.bxs bs') => some (Except.ok (Sl.dat .none), bs')
          | _ => none) = some r := hF
        split at hF'
        · rename_i bs' hbs
          cases hF'
          refine fun O' σ' H' J ex => ?_
          obtain ⟨rs, g, sub, hr, _⟩ := last J ex (lenJ J _ hbs) hbs
          exact fin rs H' .non (g _ sub hr.symm) .non
        · cases hF'
      | ret u =>
        have hF' : (match a1[N.length]? with
          | some (.bxs bs') => some (Except.ok u, bs')
          | _ => none) = some r := hF
        split at hF'
        · rename_i bs' hbs
          cases hF'
          refine fun O' σ' H' v J ex q => ?_
          obtain ⟨rs, g, sub, hr, fresh⟩ := last J ex (lenJ J _ hbs) hbs
          have pr : O'.r <+: (O.ext rs).r := by rw [hr]; exact List.prefix_refl _
          rcases q with ⟨d, rfl, rd⟩ | ⟨hs, p, ho, rfl, hm, hp, c, nb, ng, nB, nr⟩ | ⟨e, p, rfl, rfl, rx⟩
          · exact fin rs H' v (g _ sub hr.symm) (R.mono (hide_sub sub pr) _ _ rd)
          · have c2 : Cont ⟨K, w, []⟩ (hide ((O.ext rs).put p) H') p ho u := c.mono (hide_sub (O := (O.ext rs).put p) (O' := O') (fun b hb => (List.mem_cons.mp hb).elim (fun e => e ▸ hm) (sub b)) pr)
            have key : ∀ rs H' p ho, Grow ⟨K, w, []⟩ O H rs H' bs' ((O.ext rs).put p) → H p = none → p ∉ rs → H' p = some ho → Cont ⟨K, w, []⟩ (hide ((O.ext rs).put p) H') p ho u → Q (.ref p) H' := by
              cases u with
              | dat d => cases hs
              | exc d => cases hs
              | _ => exact fin
            obtain ⟨f1, f2⟩ := fresh p nr nB
            exact key rs H' p ho (g _ (fun b hb => (List.mem_cons.mp hb).elim (fun e => e ▸ hm) (sub b)) hr.symm) f1 f2 hp c2
          · exact fin rs H' p (g _ sub hr.symm) (rx.mono (hide_sub sub pr))
        · cases hF'
theorem okI (F : Fun K x qual st f fd) (S : FnScope N ps (defScope st)) (hn : ps.length ≤ N.length)
    (hb : ∀ (cdv : Value) (A : Around) (fr : List Env) (s : Shared) (H : Hp) (E : XK), Room k (A.deeper (dfnEnv qual st f cdv s)) → A.guards = some [] →
      PSsM (cxOf CX P w K mg base N qual (defScope st) f cdv A fr s H E) (WXE E) (defBody st) body) : FnG P w K mg base CX (k + 1) f fd ps (spI ⟨K, w, []⟩ (fnI N.length body) ps.length) := by
  refine fnG_of F S (fun vs H Q E h => h.1) fun cdv A fr s H vs Q E hr gd h => ⟨_, hb cdv A fr s H E hr gd, ?_⟩
  obtain ⟨hl, O, p, ws, ds, s0, ho, r, rfl, ok, hm, hpr, hp, h0, c, ra, hF, fin⟩ := h
  have I := SR.startI (K := ⟨K, w, []⟩) (N := N) ok hm hpr hp h0 c ra (by rw [hl]; exact hn)
  refine ⟨_, O, _, I, fun z => (nomatch z), ?_⟩
  unfold fnI at hF
  cases hx : body (startA N.length (s0 :: ds.map Sl.dat)) with
  | none => rw [hx] at hF; cases hF
  | some y =>
    rw [hx] at hF
    refine ⟨y, rfl, ?_⟩
    obtain ⟨y1, a1⟩ := y
    -- the state at the end
    have last : ∀ {O' : Own} {σ' : St} {H' : Hp} {s1 : Sl} {ar : AEnv}, SR ⟨K, w, []⟩ { B := hid [p] H, X := O.l.filter fun b => decide (b ≠ p), anc := some p, rc := O.r } O' σ' H' a1 → a1 = s1 :: ar → s1.owned = true →
        (∀ b ∈ O.l, b ∈ O'.l) ∧ O'.r <+: O.r ∧ σ'[0]? = some (some (.ref p)) ∧ ∃ ho', H' p = some ho' ∧ Cont ⟨K, w, []⟩ (hide O' H') p ho' s1 := fun {O' σ' H' s1 ar} J e hs => by
      have q0 : a1[0]? = some s1 := by rw [e] <;> rfl
      have v0 := J.anc p rfl s1 q0 hs
      obtain ⟨p', ho', hv, hm', hp', c'⟩ := J.own q0 hs
      rw [v0] at hv
      cases hv
      have z : O'.r = O.r := J.rr.rc rfl
      exact ⟨fun b hb => if z : b = p then z ▸ hm' else (J.xs b (List.mem_filter.mpr ⟨hb, decide_eq_true z⟩)).1, by rw [z]; exact List.prefix_refl _, v0, ho', hp', c'⟩
    cases y1 with
    | error e =>
      cases a1 with
      | nil => cases hF
      | cons s1 ar =>
        have hF' : (if s1.owned then some (Except.error e, s1) else none) = some r := hF
        split at hF'
        · rename_i hs
          cases hF'
          refine fun O' σ' H' d J ex q => ?_
          obtain ⟨sub, pr, _, ho', h1, h2⟩ := last J rfl hs
          exact fin H' d ho' J.ex h1 (h2.mono (hide_sub sub pr)) (q.sub sub pr)
        · cases hF'
    | ok fl =>
      cases fl with
      | brk => cases hF
      | ct => cases hF
      | nx =>
        cases a1 with
        | nil => cases hF
        | cons s1 ar =>
          have hF' : (if s1.owned then some (Except.ok (Sl.dat .none), s1) else none) = some r := hF
          split at hF'
          · rename_i hs
            cases hF'
            refine fun O' σ' H' J ex => ?_
            obtain ⟨sub, pr, _, ho', h1, h2⟩ := last J rfl hs
            exact fin H' .non ho' J.ex h1 (h2.mono (hide_sub sub pr)) .non
          · cases hF'
      | ret u =>
        cases a1 with
        | nil => cases hF
        | cons s1 ar =>
          have hF' : (if s1.owned then some (Except.ok u, s1) else none) = some r := hF
          split at hF'
          · rename_i hs1
            cases hF'
            refine fun O' σ' H' v J ex q => ?_
            obtain ⟨sub, pr, v0, ho', h1, h2⟩ := last J rfl hs1
            rcases q with ⟨d, rfl, rd⟩ | ⟨hs, b, ho2, rfl, hm2, hp2, c2, nb, ng, nB, nr⟩ | ⟨e, q, rfl, rfl, rx⟩
            · exact fin H' v ho' J.ex h1 (h2.mono (hide_sub sub pr)) (R.mono (hide_sub sub pr) _ _ rd)
            · have sub2 : ∀ a ∈ (O.put b).l, a ∈ O'.l := fun a ha => (List.mem_cons.mp ha).elim (fun e => e ▸ hm2) (sub a)
              have nbp : b ≠ p := fun e => nb 0 s1 rfl hs1 (by rw [v0, e])
              have hb0 : H b = none := by
                cases q : H b with
                | none => rfl
                | some o =>
                  have z := hide_some (O := [p]).mpr ⟨fun z => nbp (List.mem_singleton.mp z), q⟩
                  have nB' : hid [p] H b = none := nB
                  rw [nB'] at z
                  cases z
              have key : ∀ H' q ho ho2, Ex (hid [p] H) H' → H' p = some ho → Cont ⟨K, w, []⟩ (hide (O.put q) H') p ho s1 → H q = none → H' q = some ho2 → Cont ⟨K, w, []⟩ (hide (O.put q) H') q ho2 u → Q (.ref q) H' := by
                cases u with
                | dat d => cases hs
                | exc d => cases hs
                | _ => exact fin
              exact key H' b ho' ho2 J.ex h1 (h2.mono (hide_sub sub2 pr)) hb0 hp2 (c2.mono (hide_sub sub2 pr))
            · exact fin H' q ho' J.ex h1 (h2.mono (hide_sub sub pr)) (rx.mono (hide_sub sub pr))
          · cases hF'
end
/-! ### calls -/
def mFn (m : M (List PyData)) (F : FnD) : M Sl := M.bind m fun ds => fun a => match F ds with
  | some (.ok .un) => none
  | some (.ok s) => some (.ok s, a)
  | some (.error e) => some (.error e, a)
  | none => none
def mFnI (i : Nat) (m : M (List PyData)) (F : FnI) : M Sl := M.bind (mChk i fun _ => true) fun _ => M.bind m fun ds => fun a => match a[i]? with
  | none => none
  | some s0 => if s0.owned then (match F s0 ds with
    | some (.ok .un, _) => none
    | some (.ok s, s1) => some (.ok s, a.set i s1)
    | some (.error e, s1) => some (.error e, a.set i s1)
    | none => none) else none
/-- n: the number of slots -/
def mFnB (n : Nat) (m : M (List PyData)) (F : FnB) : M Sl := M.bind m fun ds => fun a => match a[n]? with
  | some (.bxs bs) => (match F ds bs with
    | some (.ok .un, _) => none
    | some (.ok s, bs') => some (.ok s, a.set n (.bxs bs'))
    | some (.error e, bs') => some (.error e, a.set n (.bxs bs'))
    | none => none)
  | _ => none
theorem SR.bxs_at {K : KW} {G : Gd} {O : Own} {σ : St} {H : Hp} {a : AEnv} (I : SR K G O σ H a) {n : Nat} {bs : List Sl} (h : a[n]? = some (.bxs bs)) : n = σ.length ∧ G.opn = true := by
  have hl := I.len
  have hn := (List.getElem?_eq_some_iff.mp h).1
  have hσ : ¬ n < σ.length := fun z => (I.sl n _ σ[n] h (by simp [z])).elim
  by_cases ho : G.opn = true
  · rw [if_pos ho] at hl
    exact ⟨by omega, ho⟩
  · rw [if_neg ho] at hl
    omega
section
variable {X : Cx} {W : WB} {CX : CXT} {k : Nat} {f : Addr} {fd : FuncData} {ps : List Str} {x y : Str} {p pos np : Pos} {e : Expr} {es : List Expr} {m : M (List PyData)}
theorem At.fn {m : M (List PyData)} {F : FnD} {n : Nat} {σ : St} {H : Hp} {Q : VK} (hlen : ∀ a ds a', m a = some (.ok ds, a') → ds.length = n) (h : tM X.kw W (RS X.kw) (mFn m F) σ H Q) :
    tM X.kw W (RDs X.kw) m σ H fun vs H' => spD X.kw F n vs H' Q (WE W.f σ) := by
  obtain ⟨G, O, a, q⟩ := h
  refine ⟨G, O, a, q.bindE (RR := RDs X.kw) fun O1 H1 a1 vs ds em I1 e1 r1 q1 => ?_⟩
  obtain ⟨_, op, z, ez, F1⟩ := q1
  refine ⟨r1.length.trans (hlen _ _ _ em), O1, ds, ?_⟩
  cases hF : F ds with
  | none => rw [hF] at ez; cases ez
  | some r =>
    rw [hF] at ez
    refine ⟨r, I1.ownOk, r1, rfl, ?_⟩
    cases r with
    | error er =>
      cases ez
      exact fun H' d ex q => F1 O1 H' d (I1.grow ex) (ext_grow ex) q
    | ok s =>
      have new : ∀ {s : Sl}, (∀ (O' : Own) (H' : Hp) (v : V), SR X.kw G O' σ H' a1 → Ext O1 H1 O' H' → RS X.kw G O' σ H' a1 v s → Q v H') → ∀ H' p ho, Ex H1 H' → H1 p = none → H' p = some ho → Cont X.kw (hide (O1.put p) H') p ho s → Q (.ref p) H' := fun {s} F1 H' p ho ex np hp c =>
        F1 (O1.put p) H' (.ref p) (I1.take ex np hp) (ext_take I1.th ex np) (.inr (.inl (I1.isNew ex np hp c)))
      cases s with
      | un => cases ez
      | dat d =>
        cases ez
        exact fun H' v ex rd => F1 O1 H' v (I1.grow ex) (ext_grow ex) (.inl ⟨d, rfl, rd⟩)
      | exc d =>
        cases ez
        exact fun H' v ex rd => F1 O1 H' (.ref v) (I1.grow ex) (ext_grow ex) (.inr (.inr ⟨d, v, rfl, rfl, rd⟩))
      | _ => cases ez; exact new F1
theorem At.fnB {m : M (List PyData)} {F : FnB} {n k : Nat} {σ : St} {H : Hp} {Q : VK} (hlen : ∀ a ds a', m a = some (.ok ds, a') → ds.length = k) (h : tM X.kw W (RS X.kw) (mFnB n m F) σ H Q) :
    tM X.kw W (RDs X.kw) m σ H fun vs H' => spB X.kw F k vs H' Q (WE W.f σ) := by
  obtain ⟨G, O, a, q⟩ := h
  refine ⟨G, O, a, q.bindE (RR := RDs X.kw) fun O1 H1 a1 vs ds em I1 e1 r1 q1 => ?_⟩
  obtain ⟨_, op, z, ez, F1⟩ := q1
  refine ⟨r1.length.trans (hlen _ _ _ em), O1, ds, ?_⟩
  split at ez
  · rename_i bs hbs
    obtain ⟨rfl, ho⟩ := I1.bxs_at hbs
    obtain ⟨bs2, h1, h2⟩ := I1.rr.bs ho
    rw [hbs] at h1
    cases h1
    cases hF : F ds bs with
    | none => rw [hF] at ez; cases ez
    | some r =>
      rw [hF] at ez
      refine ⟨bs, r, I1.ownOk, h2, r1, hF, ?_⟩
      obtain ⟨r, bs'⟩ := r
      cases r with
      | error er =>
        cases ez
        exact fun rs H' d g q => F1 _ H' d (I1.boxes ho g) (g.ext I1.ownOk) q
      | ok s =>
        have new : ∀ {s : Sl}, (∀ (O' : Own) (H' : Hp) (v : V), SR X.kw G O' σ H' (a1.set σ.length (.bxs bs')) → Ext O1 H1 O' H' → RS X.kw G O' σ H' (a1.set σ.length (.bxs bs')) v s → Q v H') → ∀ rs H' p ho, Grow X.kw O1 H1 rs H' bs' ((O1.ext rs).put p) → H1 p = none → p ∉ rs → H' p = some ho → Cont X.kw (hide ((O1.ext rs).put p) H') p ho s → Q (.ref p) H' := fun {s} F1 rs H' p ho2 g np nrs hp c => by
          have nO : p ∉ (O1.ext rs).l := fun z => (List.mem_append.mp z).elim nrs (I1.notin np)
          have keep : ∀ {b : Addr} {o : HO}, b ≠ p → H' b = some o → hid [p] H' b = some o := fun {b o} n q => hide_some.mpr ⟨fun z => n (List.mem_singleton.mp z), q⟩
          have hh : hide (O1.ext rs) (hid [p] H') = hide ((O1.ext rs).put p) H' := by
            unfold hide
            congr 1
            funext d
            show (if d ∈ (O1.ext rs).l then none else if d ∈ [p] then none else H' d) = if d ∈ p :: (O1.ext rs).l then none else H' d
            by_cases h1 : d = p
            · subst h1
              rw [if_pos (List.mem_singleton.mpr rfl), if_pos List.mem_cons_self, ite_self]
            · by_cases h2 : d ∈ (O1.ext rs).l
              · rw [if_pos h2, if_pos (List.mem_cons_of_mem _ h2)]
              · rw [if_neg h2, if_neg (fun z => h1 (List.mem_singleton.mp z)), if_neg (fun z => (List.mem_cons.mp z).elim h1 h2)]
          -- first without p
          have g' : Grow X.kw O1 H1 rs (hid [p] H') bs' (O1.ext rs) := by
            refine ⟨fun b o q => keep (fun e => ?_) (g.ex b o q), fun q hq => ⟨(g.new q hq).1, (g.new q hq).2.imp fun o z => keep (fun e => nrs (e ▸ hq)) z⟩, g.nd, ⟨g.bx.len, fun i q s hq hs => ?_⟩, fun q hq => (g.there q hq).imp fun o z => keep (fun e => ?_) z⟩
            · rw [e] at q
              have z := (hide_some.mp q).2
              rw [np] at z
              cases z
            · obtain ⟨ho3, z1, z2⟩ := g.bx.at_ i q s hq hs
              have qm : q ∈ (O1.ext rs).l := by
                rcases List.mem_append.mp (List.mem_of_getElem? hq) with z | z
                · exact List.mem_append_right _ (I1.rr.sub q z)
                · exact List.mem_append_left _ z
              exact ⟨ho3, keep (fun e => nO (e ▸ qm)) z1, by rw [hh]; exact z2⟩
            · exact I1.notin np (e ▸ I1.rr.sub q hq)
          have J := I1.boxes ho g'
          have nq : hid [p] H' p = none := if_pos List.mem_cons_self
          exact F1 _ H' (.ref p) (J.take (hid_ex _ _) nq hp) ((g'.ext I1.ownOk).trans (ext_take J.th (hid_ex _ _) nq)) (.inr (.inl (J.isNew (hid_ex _ _) nq hp c)))
        cases s with
        | un => cases ez
        | dat d =>
          cases ez
          exact fun rs H' v g rd => F1 _ H' v (I1.boxes ho g) (g.ext I1.ownOk) (.inl ⟨d, rfl, rd⟩)
        | exc d =>
          cases ez
          exact fun rs H' v g rd => F1 _ H' (.ref v) (I1.boxes ho g) (g.ext I1.ownOk) (.inr (.inr ⟨d, v, rfl, rfl, rd⟩))
        | _ => cases ez; exact new F1
  · cases ez
theorem px_fn {F : FnD} {n : Nat} (G : FnG X.prog X.w X.K X.mg X.base CX k f fd ps (spD X.kw F n)) (hr : Room k X.A) (gd : X.A.guards = some []) (hg : Gl X x) (hm : X.mg x = some (.ref f)) (hk : PySem.W.keepIn X.K (.ref f) = true) (hb : Binds X.K fd ps []) (hn : (e :: es).length = n)
    (hx : ∀ σ, PassesAt CX X σ (WE W.f σ)) (hlen : ∀ a ds a', m a = some (.ok ds, a') → ds.length = n) (ha : PDs X W (e :: es) m) (hdb : (x == ("__debug__" : Str)) = false := by decide) (he : starEach (e :: es) X.env = (false, eval e X.env) :: starEach es X.env := by rfl)
    (hpl : (backTo pos (starEach es X.env)).any (·.1) = false := by rfl) : PX X W (.Call (.Name x p) (e :: es) [] pos) (mFn m F) :=
  PE.imp (pe_callG G hr gd hg hm hk hb hx ha hdb he hpl) fun σ H Q h => At.fn hlen h
theorem px_fnB {F : FnB} {n : Nat} (i : Nat) (G : FnG X.prog X.w X.K X.mg X.base CX k f fd ps (spB X.kw F n)) (hr : Room k X.A) (gd : X.A.guards = some []) (hg : Gl X x) (hm : X.mg x = some (.ref f)) (hk : PySem.W.keepIn X.K (.ref f) = true) (hb : Binds X.K fd ps []) (hn : (e :: es).length = n)
    (hx : ∀ σ, PassesAt CX X σ (WE W.f σ)) (hlen : ∀ a ds a', m a = some (.ok ds, a') → ds.length = n) (ha : PDs X W (e :: es) m) (hdb : (x == ("__debug__" : Str)) = false := by decide) (he : starEach (e :: es) X.env = (false, eval e X.env) :: starEach es X.env := by rfl)
    (hpl : (backTo pos (starEach es X.env)).any (·.1) = false := by rfl) : PX X W (.Call (.Name x p) (e :: es) [] pos) (mFnB i m F) :=
  PE.imp (pe_callG G hr gd hg hm hk hb hx ha hdb he hpl) fun σ H Q h => At.fnB hlen h
theorem px_fnI {F : FnI} {n : Nat} (i : Nat) (G : FnG X.prog X.w X.K X.mg X.base CX k f fd ps (spI X.kw F n)) (hr : Room k X.A) (gd : X.A.guards = some []) (hg : Gl X x) (hm : X.mg x = some (.ref f)) (hk : PySem.W.keepIn X.K (.ref f) = true) (hb : Binds X.K fd ps [])
    (hx : ∀ σ, PassesAt CX X σ (WE W.f σ)) (hlen : ∀ a ds a', m a = some (.ok ds, a') → ds.length + 1 = n) (ha : PDs X W es m)
    (hN : X.N[i]? = some y := by rfl) (hv : Vis X.env.scope y := by first | exact Or.inl rfl | exact Or.inr (Or.inl rfl) | exact Or.inr (Or.inr rfl)) (hd : (y == ("__debug__" : Str)) = false := by decide)
    (hcd : (y == ("__classdict__" : Str)) = false := by decide)
    (hdb : (x == ("__debug__" : Str)) = false := by decide) (he : starEach (.Name y np :: es) X.env = (false, eval (.Name y np) X.env) :: starEach es X.env := by rfl)
    (hpl : (backTo pos (starEach es X.env)).any (·.1) = false := by rfl) : PX X W (.Call (.Name x p) (.Name y np :: es) [] pos) (mFnI i m F) := by
  refine PE.imp (pe_callG G hr gd hg hm hk hb hx (pa_cons (pe_var (i := i) hN hv hd hcd) ha he) hdb he hpl) fun σ H Q ⟨G, O, a, q⟩ => ?_
  obtain ⟨s, hs, hso, _, q0⟩ := q.chkd
  obtain ⟨b, hob, hvb, _, _, _⟩ := q.1.own hs hso
  refine ⟨_, hvb, G, O, a, q0.bindE (RR := RDs X.kw) fun O1 H1 a1 vs ds em I1 e1 r1 q1 => ?_⟩
  obtain ⟨_, op, z, ez, F1⟩ := q1
  cases hs1 : a1[i]? with
  | none => rw [hs1] at ez; cases ez
  | some s0 =>
    rw [hs1] at ez
    dsimp only at ez
    by_cases h0 : s0.owned = true
    · rw [if_pos h0] at ez
      obtain ⟨b', ho, hvb', hm1, hp1, c1⟩ := I1.own hs1 h0
      rw [hvb] at hvb'
      cases hvb'
      refine ⟨by rw [List.length_cons, r1.length]; exact hlen _ _ _ em, O1, b, vs, ds, s0, ho, ?_⟩
      cases hF : F s0 ds with
      | none => rw [hF] at ez; cases ez
      | some r =>
        rw [hF] at ez
        refine ⟨r, rfl, I1.ownOk, hm1, I1.rr.sl i s0 b hs1 h0 hvb, hp1, h0, c1, r1, rfl, ?_⟩
        obtain ⟨r, s1⟩ := r
        cases r with
        | error er =>
          cases ez
          exact fun H' d ho' ex hp c q => F1 O1 H' d (I1.mut hs1 h0 hvb ex hp c) (ext_but hm1 ex) q
        | ok s =>
          have new : ∀ {s : Sl}, (∀ (O' : Own) (H' : Hp) (v : V), SR X.kw G O' σ H' (a1.set i s1) → Ext O1 H1 O' H' → RS X.kw G O' σ H' (a1.set i s1) v s → Q v H') → ∀ H' q ho ho2, Ex (hid [b] H1) H' → H' b = some ho → Cont X.kw (hide (O1.put q) H') b ho s1 → H1 q = none → H' q = some ho2 → Cont X.kw (hide (O1.put q) H') q ho2 s → Q (.ref q) H' := fun {s} F1 H' q ho' ho2 ex hp c np hq c2 => by
            -- first without q
            have nqb : b ≠ q := fun e => by rw [e, np] at hp1; cases hp1
            have ex' : Ex (hid [b] H1) (hid [q] H') := fun d o h => by
              refine hide_some.mpr ⟨fun z => ?_, ex _ _ h⟩
              rw [List.mem_singleton.mp z] at h
              have z2 := (hide_some.mp h).2
              rw [np] at z2
              cases z2
            have hh : hide O1 (hid [q] H') = hide (O1.put q) H' := by
              unfold hide
              congr 1
              funext d
              show (if d ∈ O1.l then none else if d ∈ [q] then none else H' d) = if d ∈ q :: O1.l then none else H' d
              by_cases h1 : d = q
              · subst h1
                rw [if_pos (List.mem_singleton.mpr rfl), if_pos List.mem_cons_self, ite_self]
              · by_cases h2 : d ∈ O1.l
                · rw [if_pos h2, if_pos (List.mem_cons_of_mem _ h2)]
                · rw [if_neg h2, if_neg (fun z => h1 (List.mem_singleton.mp z)), if_neg (fun z => (List.mem_cons.mp z).elim h1 h2)]
            have J := I1.mut (H' := hid [q] H') hs1 h0 hvb ex' (hide_some.mpr ⟨fun z => nqb (List.mem_singleton.mp z), hp⟩) (by rw [hh]; exact c)
            have nq : hid [q] H' q = none := if_pos List.mem_cons_self
            exact F1 (O1.put q) H' (.ref q) (J.take (hid_ex _ _) nq hq) ((ext_but hm1 ex').trans (ext_take J.th (hid_ex _ _) nq)) (.inr (.inl (J.isNew (hid_ex _ _) nq hq c2)))
          cases s with
          | un => cases ez
          | dat d =>
            cases ez
            exact fun H' v ho' ex hp c rd => F1 O1 H' v (I1.mut hs1 h0 hvb ex hp c) (ext_but hm1 ex) (.inl ⟨d, rfl, rd⟩)
          | exc d =>
            cases ez
            exact fun H' v ho' ex hp c rd => F1 O1 H' (.ref v) (I1.mut hs1 h0 hvb ex hp c) (ext_but hm1 ex) (.inr (.inr ⟨d, v, rfl, rfl, rd⟩))
          | _ => cases ez; exact new F1
    · rw [if_neg h0] at ez
      cases ez
end
end Am

/-! Am9: enumerate of lists and tuples, divmod, max and min. -/
namespace Am
open PySem L2 PySem.Spec

set_option maxHeartbeats 1000000 in
theorem meets_enum1 {v : Value} {o : Obj} {B : Heap → Prop} (bg : Begins v o B) : Meets (Builtin.«enumerate.__new__» ⟨[.type "enumerate", v], []⟩) (fun _ R s => B s.heap ∧
    R (.ok (.ret (.ref (s.heap.push o).objs.size))) { s with heap := (s.heap.push o).push { cls := .type "enumerate", data := .fields #[.none, .bool false, .ref s.heap.objs.size, rawInt 0, .none, .none] } }) := by
  refine .of_wp fun prog w A R s hs => ?_
  obtain ⟨hp, gens, drawn, tk, os⟩ := s
  obtain ⟨hB, fin⟩ := hs
  have isSub := sub_enumerate
  have starts : ∀ {A' : Around} {E : Value → Shared → Prop} {Q : Value → Shared → Prop}, Q (.ref hp.objs.size) ⟨hp.push o, gens, drawn, tk, os⟩ → wpAny (model prog w) A' (pyIter v) Q E ⟨hp, gens, drawn, tk, os⟩ := fun q => bg.iter prog w _ _ _ _ hB q
  wp_walk using starts
  refine wpAny_stack_any fun st => wpAny_pure ?_
  split
  · rename_i c _ _ _ _ _
    cases (c == Value.type "enumerate") <;> (wp_walk using starts; exact ⟨_, rfl, fin⟩)
  · wp_walk using starts
    exact ⟨_, rfl, fin⟩
theorem call_enum1 {prog : Program} {w : World} {A : Around} {E : Value → Shared → Prop} {s : Shared} {v : Value} {o : Obj} {B : Heap → Prop} {Q : Value → Shared → Prop} (bg : Begins v o B) (hB : B s.heap)
    (h : ∀ h', IsEnum h' (s.heap.objs.size + 1) s.heap.objs.size 0 .none → h'.get? s.heap.objs.size = some o → (∀ b u, s.heap.get? b = some u → h'.get? b = some u) → Q (.ref (s.heap.objs.size + 1)) { s with heap := h' }) :
    wpAny (model prog w) A (call (.type "enumerate") [v]) Q E s := by
  have sz : (s.heap.push o).objs.size = s.heap.objs.size + 1 := Heap.size_push ..
  have at1 : IsEnum ((s.heap.push o).push { cls := .type "enumerate", data := .fields #[.none, .bool false, .ref s.heap.objs.size, rawInt 0, .none, .none] }) (s.heap.objs.size + 1) s.heap.objs.size 0 .none := by
    have z := Heap.get?_push_size (s.heap.push o) (o := { cls := .type "enumerate", data := .fields #[.none, .bool false, .ref s.heap.objs.size, rawInt 0, .none, .none] }) rfl
    rwa [sz] at z
  refine callType_new F.called_enumerate (by decide) (F.typeCall_enumerate_1 _) (F.newCall_enumerate_1 _) (fun obj => F.args_object_init_2 obj _) F.entry_enumerate_new (meets_enum1 bg) ⟨hB, ?_⟩
  show _ ∧ _
  rw [sz]
  exact ⟨⟨_, at1, rfl⟩, h _ at1 (Heap.get?_push_of_some _ (Heap.get?_push_size _ bg.free)) fun b u e => Heap.get?_push_of_some _ (Heap.get?_push_of_some _ e)⟩

/-- the tuple at a, each item in a new pair with its place -/
def ItU (K : PySem.W.Frag) (a : Addr) : It where
  go := fun i H => ∃ (xs : List V) (x : V), SqT K H a xs ∧ xs[i]? = some x
  yld := fun i H v H' => ∃ T x, v = .ref T ∧ H T = none ∧ H' = upd H T (.tup [.int (i : Nat), x]) ∧ ∀ xs, SqT K H a xs → xs[i]? = some x
  stop := fun i H => ∃ xs : List V, SqT K H a xs ∧ xs.length ≤ i
theorem turn_enumT {P : Program} {w : World} {K : PySem.W.Frag} {elts : List Expr} {kk : Nat} {tpos : Pos} (a e it : Addr) :
    Turn P w K (.Tuple elts kk tpos) (ItU K a) [e, it] e (fun i h => (∃ old, IsEnum h e it ((i : Nat) : Int) old) ∧ h.IsTupleIter it a i ∧ e ≠ it ∧ a ≠ it ∧ a ≠ e) where
  mem := List.mem_cons_self
  obj := fun i h ⟨⟨_, he⟩, ⟨o, ho, _, hd⟩, _⟩ b hb => by
    rcases List.mem_cons.mp hb with rfl | hb
    · exact ⟨_, he, fun _ q => nomatch q⟩
    · rw [List.mem_singleton.mp hb]
      exact ⟨o, ho, fun v q => by rw [hd] at q; cases q⟩
  keep := fun i h h' ⟨⟨old, he⟩, hi, ne⟩ k => ⟨⟨old, k e List.mem_cons_self _ he⟩, hi.at fun o q => k it (List.mem_cons_of_mem _ List.mem_cons_self) o q, ne⟩
  item := by
    intro X hP hw hK calm i pins s σ H E I free st go
    subst hP hw hK
    obtain ⟨⟨old, he⟩, hit, ne, nai, nae⟩ := st
    obtain ⟨xs, x, hq, hx⟩ := go
    obtain ⟨its, rv, isT, _⟩ := I.tuple hq
    obtain ⟨u, hu, ru⟩ := rv.get hx
    have lte : e < s.heap.objs.size := Heap.lt_size he
    have hi : i < its.toArray.size := by
      have z := (List.getElem?_eq_some_iff.mp hu).1
      simpa using z
    have D := Draws.tuple (prog := X.prog) (w := X.w) (A := X.A.in1) (I.ok.hd calm) it a nai its.toArray
    refine wpAny_pyNext_enum_itemD D he ⟨hit, isT⟩ hi ne (fun z => (List.mem_cons.mp z).elim ne fun z => nae (List.mem_singleton.mp z).symm) fun y h' tk hy ho st' hT hsz hk => ?_
    have eu : y = u := by
      have z : its.toArray[i]? = some u := by simpa using hu
      rw [hy] at z
      exact Option.some.inj z
    subst eu
    refine ⟨_, rfl, wpAny_letOwnedTupleGo_enum (s := { s with heap := h', toks := tk + 1 }) ho fun h2 he2 sb => ?_⟩
    have hT2 : h2.get? s.heap.objs.size = some { cls := .type "tuple", data := .seq #[.int i tk, y] } := (sb.2 _ (Nat.ne_of_gt lte)).trans hT
    have lti : it < s.heap.objs.size := by
      obtain ⟨o, q, _⟩ := hit
      exact Heap.lt_size q
    have ok : ObjOk X.prog X.w (upd H s.heap.objs.size (.tup [.int (i : Nat), x])) h2 s.heap.objs.size (.tup [.int (i : Nat), x]) :=
      ⟨by show 2 ≤ sizeLine; decide, [.int i tk, y], .cons ⟨_, rfl⟩ (.cons ru .nil), ⟨_, hT2, rfl, _, rfl⟩⟩
    have others : ∀ b ob, b ∉ [e, it] → s.heap.get? b = some ob → h2.get? b = some ob := fun b ob nb q => (sb.2 b fun z => nb (by rw [z]; exact List.mem_cons_self)).trans (hk b ob (fun z => nb (by rw [z]; exact List.mem_cons_self)) (fun z => nb (by rw [z]; exact List.mem_cons_of_mem _ List.mem_cons_self)) q)
    have I2 : Inv X pins σ (upd H s.heap.objs.size (.tup [.int (i : Nat), x])) { s with heap := h2, toks := tk + 1 } := I.turnedNew (ch := [e, it]) others free (Nat.le_refl _) ok
    refine ⟨.ref s.heap.objs.size, _, I2, rfl, ⟨_, x, rfl, I.hok.fresh (Nat.le_refl _), rfl, fun ys hy => by rw [I.tuple_inj hy hq]; exact hx⟩, ⟨⟨y, ?_⟩, st'.1.at fun o q => (sb.2 it (Ne.symm ne)).trans q, ne, nai, nae⟩, fun b hb => ?_⟩
    · rw [show ((i + 1 : Nat) : Int) = (i : Int) + 1 by omega]
      exact he2
    · have lb : b < s.heap.objs.size := by
        rcases List.mem_cons.mp hb with rfl | hb
        · exact lte
        · rw [List.mem_singleton.mp hb]; exact lti
      rw [upd_ne (Nat.ne_of_lt lb)]
      exact (free b hb).1
  done := by
    intro X hP hw hK calm i pins s σ H E I free st stop
    subst hP hw hK
    obtain ⟨⟨old, he⟩, hit, ne, nai, nae⟩ := st
    obtain ⟨xs, hq, hx⟩ := stop
    obtain ⟨its, rv, isT, _⟩ := I.tuple hq
    obtain ⟨f0, f1, f2, f3, f4, f5⟩ := free it (List.mem_cons_of_mem _ List.mem_cons_self)
    have hn : its.toArray[i]? = none := by
      have z : its[i]? = none := List.getElem?_eq_none (by rw [← rv.length]; exact hx)
      simpa using z
    -- behind the end: a way to draw nothing more
    have D : Draws X.prog X.w X.A.in1 it [it, a] i (fun _ _ => False) (fun j h => j = i ∧ h.IsTupleIter it a i ∧ h.IsTuple a its.toArray) := by
      refine ⟨fun j h q => let ⟨o, ho, _⟩ := q.2.1; ⟨o, ho⟩, fun j h h' q k => ⟨q.1, q.2.1.at fun o z => k it List.mem_cons_self o z, q.2.2.at fun o z => k a (List.mem_cons_of_mem _ List.mem_cons_self) o z⟩, fun j s Q E hj q _ => absurd q.1 (Nat.ne_of_lt hj), fun s Q E q hE => ?_⟩
      exact wpAny_nextOf_tuple_end (I.ok.hd calm) q.2.1 q.2.2 hn hE
    exact wpAny_pyNext_enum_endD D he ⟨rfl, hit, isT⟩ fun h' eb => ⟨rfl, I.turned (t' := s.toks) (fun b o hb q => eb b o hb q) f0 f1 f3 f4 f5⟩
  self := fun A i s Q E st h => let ⟨⟨_, he⟩, _⟩ := st; wpAny_pyIter_enum he h
def iEnumT (K : PySem.W.Frag) (ta : TA) : TI := fun σ H R => ta σ H fun vs H1 => ∃ a xs, vs = [.ref a] ∧ SqT K H1 a xs ∧ R (ItU K a) H1
theorem pi_enumT {X : Cx} {e : Expr} {ta : TA} {p pos tpos : Pos} {elts : List Expr} {kk : Nat} (hg : Gl X "enumerate") (hm : X.mg "enumerate" = none) (ha : PA X [e] ta) (hs : starEach [e] X.env = [(false, eval e X.env)] := by rfl) :
    PI X (.Tuple elts kk tpos) (.Call (.Name "enumerate" p) [e] [] pos) (iEnumT X.K ta) := by
  refine ⟨fun pins s σ H R I h => PyProof.Rows.Call_ (ld_blt I hg hm PyProof.Rows.boot_enumerate (PyProof.Rows.callWith_type1 (thn (ha.run pos pins s σ H _ I h) fun us s1 ⟨vs, H1, I1, r1, q1⟩ => ?_) hs rfl))⟩
  obtain ⟨a, xs, rfl, hq, q⟩ := q1
  obtain ⟨u, rfl, rx⟩ := vals1 r1
  cases rx
  obtain ⟨its, rv, isT, _⟩ := I1.tuple hq
  have lta : a < s1.heap.objs.size := by
    obtain ⟨o, ho, _⟩ := isT
    exact Heap.lt_size ho
  refine call_enum1 (begins_tuple a its.toArray) isT fun h' he hit hk => wpAny_pyIter_enum he ?_
  have I2 : Inv X pins σ H1 { s1 with heap := h' } := I1.kept (t' := s1.toks) hk
  refine ⟨s1.heap.objs.size + 1, [s1.heap.objs.size + 1, s1.heap.objs.size], _, _, H1, rfl, I2, turn_enumT a (s1.heap.objs.size + 1) s1.heap.objs.size,
    ⟨⟨.none, he⟩, ⟨_, hit, rfl, rfl⟩, Nat.succ_ne_self _, Nat.ne_of_lt lta, Nat.ne_of_lt (Nat.lt_succ_of_lt lta)⟩, fun b hb => ?_, q⟩
  have le : s1.heap.objs.size ≤ b := by
    rcases List.mem_cons.mp hb with rfl | hb
    · exact Nat.le_succ _
    · rw [List.mem_singleton.mp hb]
      exact Nat.le_refl _
  exact I1.fpOk le (I1.hok.fresh le)

/-! ### the mirror's enumerate -/
def enumD (k : Nat) : List PyData → List PyData
  | [] => []
  | d :: ds => .tuple [.int (k : Nat), d] :: enumD (k + 1) ds
theorem enumD_length : ∀ (ds : List PyData) (k : Nat), (enumD k ds).length = ds.length
  | [], _ => rfl
  | d :: ds, k => by rw [enumD, List.length_cons, List.length_cons, enumD_length ds]
theorem enumD_get : ∀ (ds : List PyData) (k i : Nat), (enumD k ds)[i]? = (ds[i]?).map fun d => .tuple [.int ((k + i : Nat) : Int), d]
  | [], _, _ => by simp [enumD]
  | d :: ds, k, 0 => by simp [enumD]
  | d :: ds, k, i + 1 => by
    rw [enumD, List.getElem?_cons_succ, enumD_get ds (k + 1) i, List.getElem?_cons_succ]
    rw [show k + 1 + i = k + (i + 1) by omega]
section
variable {K : KW} {O1 : Own} {H1 : Hp} {a : Addr} {vs : List V} {ds : List PyData}
theorem yld_pair {O : Own} {H : Hp} {T : Addr} {x : V} {d : PyData} {i : Nat} (th : Thr O H) (hT : H T = none) (rd : R K (hide O H) x d) : Ex H (upd H T (.tup [.int (i : Nat), x])) ∧ R K (hide O (upd H T (.tup [.int (i : Nat), x]))) (.ref T) (.tuple [.int (i : Nat), d]) := by
  have nT : T ∉ O.l := fun z => by
    obtain ⟨o, ho⟩ := th T z
    rw [hT] at ho
    cases ho
  have ex : Ex H (upd H T (.tup [.int (i : Nat), x])) := Ex.new hT
  exact ⟨ex, .tup (hide_some.mpr ⟨nT, upd_same⟩) (.cons (.int _) (.cons (R.mono (ext_grow ex) _ _ rd) .nil))⟩
theorem wk_enumL (h : SqL K (hide O1 H1).h a vs) (r : RAll K (hide O1 H1) vs ds) : Wk K O1 H1 (Ite K a) (enumD 0 ds) := by
  have len : (enumD 0 ds).length = vs.length := by rw [enumD_length, r.length]
  refine ⟨fun O H i e hi => ?_, fun O H e => ⟨vs, (e.trans (hide_ex O H)).h.l h, Nat.le_of_eq len.symm⟩, fun O H i x H' th e hi y => ?_⟩
  · rw [len] at hi
    exact ⟨vs, vs[i], (e.trans (hide_ex O H)).h.l h, by simp [hi]⟩
  · obtain ⟨T, x, rfl, hT, rfl, hx⟩ := y
    obtain ⟨d, hd, rd⟩ := r.getV i (hx vs ((e.trans (hide_ex O _)).h.l h))
    obtain ⟨h1, h2⟩ := yld_pair (i := i) th hT (R.mono e _ _ rd)
    exact ⟨h1, _, by rw [enumD_get, hd, Nat.zero_add] <;> rfl, h2⟩
theorem wk_enumT (h : (hide O1 H1).h a = some (.tup vs)) (r : RAll K (hide O1 H1) vs ds) : Wk K O1 H1 (ItU K a) (enumD 0 ds) := by
  have len : (enumD 0 ds).length = vs.length := by rw [enumD_length, r.length]
  refine ⟨fun O H i e hi => ?_, fun O H e => ⟨vs, SqT.of ((e.trans (hide_ex O H)).h _ _ h), Nat.le_of_eq len.symm⟩, fun O H i x H' th e hi y => ?_⟩
  · rw [len] at hi
    exact ⟨vs, vs[i], SqT.of ((e.trans (hide_ex O H)).h _ _ h), by simp [hi]⟩
  · obtain ⟨T, x, rfl, hT, rfl, hx⟩ := y
    obtain ⟨d, hd, rd⟩ := r.getV i (hx vs (SqT.of ((e.trans (hide_ex O _)).h _ _ h)))
    obtain ⟨h1, h2⟩ := yld_pair (i := i) th hT (R.mono e _ _ rd)
    exact ⟨h1, _, by rw [enumD_get, hd, Nat.zero_add] <;> rfl, h2⟩
end
def mEnum (m : M PyData) : M (List PyData) := M.bind m fun d => M.bind (M.of (seqItems d)) fun ds => M.pure (enumD 0 ds)
section
variable {X : Cx} {W : WB} {e : Expr} {m : M PyData} {p pos tpos : Pos} {elts : List Expr} {kk : Nat}
theorem pim_enum (hg : Gl X "enumerate") (hm : X.mg "enumerate" = none) (h : PD X W e m) (hs : starEach [e] X.env = [(false, eval e X.env)] := by rfl) : PIM X W (.Tuple elts kk tpos) (.Call (.Name "enumerate" p) [e] [] pos) (mEnum m) := by
  refine ⟨fun pins s σ H R I ⟨G, O, a, q⟩ => ?_⟩
  by_cases hl : ∃ ds a1, m a = some (.ok (.list ds), a1)
  · obtain ⟨ds, a1, hma⟩ := hl
    refine (pi_enum hg hm (pa_cons h pa_nil hs) hs).run pins s σ H R I ⟨G, O, a, q.bindE (RR := RD X.kw) fun O1 H1 a2 v d ed I1 e1 r1 q1 => ?_⟩
    rw [hma] at ed
    cases ed
    obtain ⟨items, hi, q2⟩ := q1.ofB
    cases hi
    cases r1 with
    | lst h1 h2 => exact ⟨_, _, rfl, (hide_ex _ _).h.l h1, q2.pure (wk_enumL h1 h2)⟩
  · refine (pi_enumT hg hm (pa_cons h pa_nil hs) hs).run pins s σ H R I ⟨G, O, a, q.bindE (RR := RD X.kw) fun O1 H1 a2 v d ed I1 e1 r1 q1 => ?_⟩
    obtain ⟨items, hi, q2⟩ := q1.ofB
    cases d with
    | list ds => exact absurd ⟨ds, a2, ed⟩ hl
    | tuple ds =>
      cases hi
      cases r1 with
      | tup h1 h2 => exact ⟨_, _, rfl, SqT.of ((hide_ex _ _).h _ _ h1), q2.pure (wk_enumT h1 h2)⟩
    | _ => cases hi
end

/-! ### divmod, max, min of two -/
def gDivmod : List PyData → Option PyData
  | [.int i, .int j] => if decide (0 < j) && decide (j.natAbs.log2 < 9000) then some (.tuple [.int (i / j), .int (i % j)]) else none
  | _ => none
section
variable {K : KW}
theorem gDivmod_ok : CD_ K (fun xs H Q => ∃ i j, xs = [.int i, .int j] ∧ CDivP i j ∧ ∀ p, H p = none → Q (.ref p) (upd H p (.tup [.int (i / j), .int (i % j)]))) gDivmod := by
  intro O H vs ds d Q th rp h q
  unfold gDivmod at h
  split at h
  · rename_i i j
    split at h
    · rename_i hc
      cases h
      obtain ⟨v, w, rfl, r1, r2⟩ := rp.two
      rw [r1.int, r2.int]
      have hc' := Bool.and_eq_true_iff.mp hc
      refine ⟨i, j, rfl, ?_, fun p hp => ?_⟩
      · exact ⟨of_decide_eq_true hc'.1, PyProof.noPylong_of_log2 (of_decide_eq_true hc'.2)⟩
      · have ex : Ex H (upd H p (.tup [.int (i / j), .int (i % j)])) := Ex.new hp
        refine q _ _ ex (.tup (hide_some.mpr ⟨fun z => ?_, upd_same⟩) (.cons (.int _) (.cons (.int _) .nil)))
        obtain ⟨o, ho⟩ := th p z
        rw [hp] at ho
        cases ho
    · cases h
  · cases h
end
end Am

/-! Am10: max and min with a default. -/
namespace Am
open PySem L2 PySem.Spec
/-- a built-in that goes on as another code, called with keywords -/
theorem call_tree_kw {prog : Program} {w : World} {A : Around} {E : Value → Shared → Prop} {s : Shared} {id : String} {b : Builtin} {us : List Value} {kw : List (Str × Value)} {Q : Value → Shared → Prop} (kind : builtinKind id = none) (pl : plainId id = true)
    (en : entryFor table id = some b) (ok : argsOk id ⟨us, kw⟩)
    (h : wpAny (model prog w) A.in1 (b ⟨us, kw⟩) (fun fin s' => match fin with
      | .done f => (match (Except.ok f : Result) with | .ok (.ret v) => Q v s' | .ok _ => False | .error e => E e s')
      | .again c' => c'.quiet = true ∧ codeAny (model prog w) A c' (fun r s' => match r with | .ok (.ret v) => Q v s' | .ok _ => False | .error e => E e s') s') E s) : wpAny (model prog w) A (call (.builtin id) us kw) Q E s := by
  refine wpAny_call (codeAny_call_builtin pl en ?_)
  simp only [checkBuiltinCall, kind]
  cases sg : Manifest.signature? id with
  | none => exact wpAny_pure h
  | some sig =>
    have eq1 : Bind.checkArgs id sig ⟨us, kw⟩ = pure () := by simpa only [argsOk, sg] using ok
    exact wpAny_of_eq eq1 h

section
variable {prog : Program} {w : World} {A : Around} {R : Result → Shared → Prop} {I : Addr} {fp wr : List Addr} {n : Nat} {P : Nat → Value → Prop} {St : Nat → Heap → Prop}
theorem plain_kw_max (as : Args) : A.under (.builtin "max.loop" as) = A.in1 := Around.under_plainId (A := A) F.plain_max_loop as
/-- the loop of max(.., default=d) -/
theorem dflt_max_loop (W : Walks prog w A.in1 I fp wr n P St) (bt : Nat → Nat → Bool) (cmp : CmpOf prog w A.in1 .Gt P bt) (S : Addr) (nS : S ∉ fp) (d : Value) :
    ∀ (k j : Nat) (s : Shared) (old : Array Value) (c : Nat), n - j = k → j ≤ n → St j s.heap → ((j = 0 ∧ old = #[]) ∨ ∃ vb, 0 < j ∧ old = #[vb, vb] ∧ P (argBest bt (j - 1)) vb) →
    s.heap.get? S = some { cls := .type "list", dict := none, data := .seq old c, slots := #[] } →
    (∀ v h' tk, ((n = 0 ∧ v = d) ∨ (0 < n ∧ P (argBest bt (n - 1)) v)) → (∀ b o, b ∉ wr → b ≠ S → s.heap.get? b = some o → h'.get? b = some o) → R (.ok (.ret v)) { s with heap := h', toks := tk }) →
    codeAny (model prog w) A (.builtin "max.loop" ⟨[.ref I, .none, .ref S], [(Str.ofString "default", d)]⟩) R s := by
  have wS : S ∉ wr := fun z => nS (W.sub _ z)
  have nm : (toString "max" ++ toString ".loop" : String) = "max.loop" := by decide
  intro k
  induction k with
  | zero =>
    intro j s old c hk hj st inv at_S fin
    obtain rfl : j = n := by omega
    refine codeAny_builtin F.entry_max_loop ?_
    rw [plain_kw_max]
    show wpAny _ A.in1 (bind (seqItems? (.ref S)) _) _ _ s
    refine wpAny_bind (wpAny_seqItems at_S rfl ?_)
    show wpAny _ A.in1 (bind (tryCatch (pyNext (.ref I)) _) _) _ _ s
    refine wpAny_bind (wpAny_tryCatch (W.done s _ _ st fun h1 tk keep => ?_))
    rcases inv with ⟨rfl, rfl⟩ | ⟨vb, pos, rfl, hP⟩
    · exact wpAny_bind (wpAny_rule (wpAny_pure (fin d h1 tk (.inl ⟨rfl, rfl⟩) fun b o nw _ e => keep b o nw e)))
    · have at1 := keep S _ wS at_S
      show wpAny _ A.in1 (bind (updateSeq S fun _ => #[]) _) _ _ _
      refine wpAny_bind (wpAny_updateSeq at1 rfl (wpAny_bind (wpAny_letGo (wpAny_pure ?_))))
      exact fin vb _ tk (.inr ⟨pos, hP⟩) fun b o nw nbS e => (Heap.get?_update_other _ _ (Ne.symm nbS)).trans (keep b o nw e)
  | succ k ih =>
    intro j s old c hk hj st inv at_S fin
    have lt : j < n := by omega
    refine codeAny_builtin F.entry_max_loop ?_
    rw [plain_kw_max]
    show wpAny _ A.in1 (bind (seqItems? (.ref S)) _) _ _ s
    refine wpAny_bind (wpAny_seqItems at_S rfl ?_)
    show wpAny _ A.in1 (bind (tryCatch (pyNext (.ref I)) _) _) _ _ s
    refine wpAny_bind (wpAny_tryCatch (W.item j s _ _ lt st fun v h1 tk hv st1 keep => ?_))
    have at1 := keep S _ wS at_S
    have stay : ∀ {arr : Array Value} (b : Addr) (o : Obj), b ≠ S → h1.get? b = some o → (h1.update S (Obj.mapSeq fun _ => arr)).get? b = some o := fun b o q e => (Heap.get?_update_other _ _ (Ne.symm q)).trans e
    have stU : ∀ {arr : Array Value}, St (j + 1) (h1.update S (Obj.mapSeq fun _ => arr)) := fun {arr} => W.frame _ _ _ st1 fun b hb o e => stay b o (fun z => nS (z ▸ hb)) e
    have next : ∀ {h2 : Heap} {tk2 : Nat} {v2 : Value} {c2 : Nat}, St (j + 1) h2 → P (argBest bt j) v2 → h2.get? S = some { cls := .type "list", dict := none, data := .seq #[v2, v2] c2, slots := #[] } → (∀ b o, b ∉ wr → b ≠ S → s.heap.get? b = some o → h2.get? b = some o) →
        codeAny (model prog w) A (.builtin "max.loop" ⟨[.ref I, .none, .ref S], [(Str.ofString "default", d)]⟩) R { s with heap := h2, toks := tk2 } := fun {h2 tk2 v2 c2} q1 q2 q3 q4 =>
      ih (j + 1) _ _ c2 (by omega) lt q1 (.inr ⟨v2, Nat.succ_pos j, rfl, q2⟩) q3 fun v h' tk' z kp => fin v h' tk' z fun b o nw nbS e => kp b o nw nbS (q4 b o nw nbS e)
    rcases inv with ⟨rfl, rfl⟩ | ⟨vb, pos, rfl, hP⟩
    · show wpAny _ A.in1 (bind (updateSeq S fun _ => #[v, v]) _) _ _ _
      refine wpAny_bind (wpAny_updateSeq at1 rfl ?_)
      rw [nm]
      exact wpAny_pure ⟨plainId_quiet F.plain_max_loop _, next stU hv (Heap.get?_update_self _ at1 rfl) fun b o nw nbS e => stay b o nbS (keep b o nw e)⟩
    · show wpAny _ A.in1 (bind (tryCatch (holding [v, v] (bind (richCompare .Gt v vb) _)) _) _) _ _ _
      refine wpAny_bind (wpAny_tryCatch (wpAny_holding (wpAny_bind (cmp j (argBest bt (j - 1)) v vb _ _ _ hv hP (wpAny_bind (wpAny_holding (wpAny_truthy_bool (wpAny_bind (wpAny_letGo (wpAny_pure ?_))))))))))
      obtain ⟨i, rfl⟩ : ∃ i, j = i + 1 := ⟨j - 1, by omega⟩
      rw [Nat.add_sub_cancel] at hP ⊢
      cases hb : bt (i + 1) (argBest bt i) with
      | true =>
        simp only [if_true]
        refine wpAny_bind (wpAny_updateSeq at1 rfl (wpAny_bind (wpAny_letGo ?_)))
        rw [nm]
        exact wpAny_pure ⟨plainId_quiet F.plain_max_loop _, next stU (by rw [argBest, if_pos hb]; exact hv) (Heap.get?_update_self _ at1 rfl) fun b o nw nbS e => stay b o nbS (keep b o nw e)⟩
      | false =>
        simp only [Bool.false_eq_true, if_false]
        refine wpAny_bind (wpAny_letGo ?_)
        rw [nm]
        exact wpAny_pure ⟨plainId_quiet F.plain_max_loop _, next st1 (by rw [argBest, if_neg (by rw [hb]; decide)]; exact hP) at1 fun b o nw nbS e => keep b o nw e⟩
end
theorem args_max_dflt (a d : Value) : argsOk "max" ⟨[a], [(Str.ofString "default", d)]⟩ := by unfold argsOk; kernel_rfl
theorem params_max (d : Value) : Builtin.Builtins.bindParams "max" ["key", "default"] 0 ⟨[], [(Str.ofString "default", d)]⟩ = pure [none, some d] := by kernel_rfl
theorem max_dflt_ints {prog : Program} {w : World} {A : Around} {E : Value → Shared → Prop} {s : Shared} {l : Addr} {xs : Array (Int × Tok)} {d : Value} {Q : Value → Shared → Prop} (hh : A.handled = none) (hl : s.heap.IsList l (intItems xs))
    (h : ∀ v h' tk, ((xs.size = 0 ∧ v = d) ∨ (0 < xs.size ∧ (intItems xs)[argBest (fun i j => decide (numAt xs i > numAt xs j)) (xs.size - 1)]? = some v)) → (∀ b o, s.heap.get? b = some o → h'.get? b = some o) → Q v { s with heap := h', toks := tk }) :
    wpAny (model prog w) A (call (.builtin "max") [.ref l] [(Str.ofString "default", d)]) Q E s := by
  have nm : (toString "max" ++ toString ".loop" : String) = "max.loop" := by decide
  refine call_tree_kw F.kind_max F.plain_max F.entry_max (args_max_dflt _ _) ?_
  show wpAny _ A.in1 (bind (Builtin.Builtins.bindParams "max" ["key", "default"] 0 ⟨[], [(Str.ofString "default", d)]⟩) _) _ _ s
  refine wpAny_bind (wpAny_of_eq (params_max d) ?_)
  refine wpAny_bind (wpAny_pure (wpAny_bind (iter_intList hl fun s2 es st below ne => ?_)))
  subst es
  refine wpAny_bind (wpAny_newObj_type ?_)
  rw [nm]
  have sz : (intItems xs).size = xs.size := by simp [intItems]
  have W := Walks.list (prog := prog) (w := w) (A := A.in1) hh _ l ne (intItems xs)
  refine wpAny_pure ⟨plainId_quiet F.plain_max_loop _, dflt_max_loop W _ (CmpOf.ints_gt (numAt xs) fun _ _ => intItems_at) _ (fun z => Nat.lt_irrefl _ (below _ z)) d _ 0 _ _ _ rfl (Nat.zero_le _) (W.frame _ _ _ st fun b _ o e => Heap.get?_push_of_some _ e) (.inl ⟨rfl, rfl⟩) (Heap.get?_push_size _ rfl) fun v h' tk z kp => ?_⟩
  refine h v h' tk (by rw [sz] at z; exact z) (old_kept fun b o nb e => kp b o nb (Nat.ne_of_lt (Heap.lt_size e)) (Heap.get?_push_of_some _ e))

section
variable {prog : Program} {w : World} {A : Around} {R : Result → Shared → Prop} {I : Addr} {fp wr : List Addr} {n : Nat} {P : Nat → Value → Prop} {St : Nat → Heap → Prop}
theorem plain_kw_min (as : Args) : A.under (.builtin "min.loop" as) = A.in1 := Around.under_plainId (A := A) F.plain_min_loop as
/-- the loop of min(.., default=d) -/
theorem dflt_min_loop (W : Walks prog w A.in1 I fp wr n P St) (bt : Nat → Nat → Bool) (cmp : CmpOf prog w A.in1 .Lt P bt) (S : Addr) (nS : S ∉ fp) (d : Value) :
    ∀ (k j : Nat) (s : Shared) (old : Array Value) (c : Nat), n - j = k → j ≤ n → St j s.heap → ((j = 0 ∧ old = #[]) ∨ ∃ vb, 0 < j ∧ old = #[vb, vb] ∧ P (argBest bt (j - 1)) vb) →
    s.heap.get? S = some { cls := .type "list", dict := none, data := .seq old c, slots := #[] } →
    (∀ v h' tk, ((n = 0 ∧ v = d) ∨ (0 < n ∧ P (argBest bt (n - 1)) v)) → (∀ b o, b ∉ wr → b ≠ S → s.heap.get? b = some o → h'.get? b = some o) → R (.ok (.ret v)) { s with heap := h', toks := tk }) →
    codeAny (model prog w) A (.builtin "min.loop" ⟨[.ref I, .none, .ref S], [(Str.ofString "default", d)]⟩) R s := by
  have wS : S ∉ wr := fun z => nS (W.sub _ z)
  have nm : (toString "min" ++ toString ".loop" : String) = "min.loop" := by decide
  intro k
  induction k with
  | zero =>
    intro j s old c hk hj st inv at_S fin
    obtain rfl : j = n := by omega
    refine codeAny_builtin F.entry_min_loop ?_
    rw [plain_kw_min]
    show wpAny _ A.in1 (bind (seqItems? (.ref S)) _) _ _ s
    refine wpAny_bind (wpAny_seqItems at_S rfl ?_)
    show wpAny _ A.in1 (bind (tryCatch (pyNext (.ref I)) _) _) _ _ s
    refine wpAny_bind (wpAny_tryCatch (W.done s _ _ st fun h1 tk keep => ?_))
    rcases inv with ⟨rfl, rfl⟩ | ⟨vb, pos, rfl, hP⟩
    · exact wpAny_bind (wpAny_rule (wpAny_pure (fin d h1 tk (.inl ⟨rfl, rfl⟩) fun b o nw _ e => keep b o nw e)))
    · have at1 := keep S _ wS at_S
      show wpAny _ A.in1 (bind (updateSeq S fun _ => #[]) _) _ _ _
      refine wpAny_bind (wpAny_updateSeq at1 rfl (wpAny_bind (wpAny_letGo (wpAny_pure ?_))))
      exact fin vb _ tk (.inr ⟨pos, hP⟩) fun b o nw nbS e => (Heap.get?_update_other _ _ (Ne.symm nbS)).trans (keep b o nw e)
  | succ k ih =>
    intro j s old c hk hj st inv at_S fin
    have lt : j < n := by omega
    refine codeAny_builtin F.entry_min_loop ?_
    rw [plain_kw_min]
    show wpAny _ A.in1 (bind (seqItems? (.ref S)) _) _ _ s
    refine wpAny_bind (wpAny_seqItems at_S rfl ?_)
    show wpAny _ A.in1 (bind (tryCatch (pyNext (.ref I)) _) _) _ _ s
    refine wpAny_bind (wpAny_tryCatch (W.item j s _ _ lt st fun v h1 tk hv st1 keep => ?_))
    have at1 := keep S _ wS at_S
    have stay : ∀ {arr : Array Value} (b : Addr) (o : Obj), b ≠ S → h1.get? b = some o → (h1.update S (Obj.mapSeq fun _ => arr)).get? b = some o := fun b o q e => (Heap.get?_update_other _ _ (Ne.symm q)).trans e
    have stU : ∀ {arr : Array Value}, St (j + 1) (h1.update S (Obj.mapSeq fun _ => arr)) := fun {arr} => W.frame _ _ _ st1 fun b hb o e => stay b o (fun z => nS (z ▸ hb)) e
    have next : ∀ {h2 : Heap} {tk2 : Nat} {v2 : Value} {c2 : Nat}, St (j + 1) h2 → P (argBest bt j) v2 → h2.get? S = some { cls := .type "list", dict := none, data := .seq #[v2, v2] c2, slots := #[] } → (∀ b o, b ∉ wr → b ≠ S → s.heap.get? b = some o → h2.get? b = some o) →
        codeAny (model prog w) A (.builtin "min.loop" ⟨[.ref I, .none, .ref S], [(Str.ofString "default", d)]⟩) R { s with heap := h2, toks := tk2 } := fun {h2 tk2 v2 c2} q1 q2 q3 q4 =>
      ih (j + 1) _ _ c2 (by omega) lt q1 (.inr ⟨v2, Nat.succ_pos j, rfl, q2⟩) q3 fun v h' tk' z kp => fin v h' tk' z fun b o nw nbS e => kp b o nw nbS (q4 b o nw nbS e)
    rcases inv with ⟨rfl, rfl⟩ | ⟨vb, pos, rfl, hP⟩
    · show wpAny _ A.in1 (bind (updateSeq S fun _ => #[v, v]) _) _ _ _
      refine wpAny_bind (wpAny_updateSeq at1 rfl ?_)
      rw [nm]
      exact wpAny_pure ⟨plainId_quiet F.plain_min_loop _, next stU hv (Heap.get?_update_self _ at1 rfl) fun b o nw nbS e => stay b o nbS (keep b o nw e)⟩
    · show wpAny _ A.in1 (bind (tryCatch (holding [v, v] (bind (richCompare .Lt v vb) _)) _) _) _ _ _
      refine wpAny_bind (wpAny_tryCatch (wpAny_holding (wpAny_bind (cmp j (argBest bt (j - 1)) v vb _ _ _ hv hP (wpAny_bind (wpAny_holding (wpAny_truthy_bool (wpAny_bind (wpAny_letGo (wpAny_pure ?_))))))))))
      obtain ⟨i, rfl⟩ : ∃ i, j = i + 1 := ⟨j - 1, by omega⟩
      rw [Nat.add_sub_cancel] at hP ⊢
      cases hb : bt (i + 1) (argBest bt i) with
      | true =>
        simp only [if_true]
        refine wpAny_bind (wpAny_updateSeq at1 rfl (wpAny_bind (wpAny_letGo ?_)))
        rw [nm]
        exact wpAny_pure ⟨plainId_quiet F.plain_min_loop _, next stU (by rw [argBest, if_pos hb]; exact hv) (Heap.get?_update_self _ at1 rfl) fun b o nw nbS e => stay b o nbS (keep b o nw e)⟩
      | false =>
        simp only [Bool.false_eq_true, if_false]
        refine wpAny_bind (wpAny_letGo ?_)
        rw [nm]
        exact wpAny_pure ⟨plainId_quiet F.plain_min_loop _, next st1 (by rw [argBest, if_neg (by rw [hb]; decide)]; exact hP) at1 fun b o nw nbS e => keep b o nw e⟩
end
theorem args_min_dflt (a d : Value) : argsOk "min" ⟨[a], [(Str.ofString "default", d)]⟩ := by unfold argsOk; kernel_rfl
theorem params_min (d : Value) : Builtin.Builtins.bindParams "min" ["key", "default"] 0 ⟨[], [(Str.ofString "default", d)]⟩ = pure [none, some d] := by kernel_rfl
theorem min_dflt_ints {prog : Program} {w : World} {A : Around} {E : Value → Shared → Prop} {s : Shared} {l : Addr} {xs : Array (Int × Tok)} {d : Value} {Q : Value → Shared → Prop} (hh : A.handled = none) (hl : s.heap.IsList l (intItems xs))
    (h : ∀ v h' tk, ((xs.size = 0 ∧ v = d) ∨ (0 < xs.size ∧ (intItems xs)[argBest (fun i j => decide (numAt xs i < numAt xs j)) (xs.size - 1)]? = some v)) → (∀ b o, s.heap.get? b = some o → h'.get? b = some o) → Q v { s with heap := h', toks := tk }) :
    wpAny (model prog w) A (call (.builtin "min") [.ref l] [(Str.ofString "default", d)]) Q E s := by
  have nm : (toString "min" ++ toString ".loop" : String) = "min.loop" := by decide
  refine call_tree_kw F.kind_min F.plain_min F.entry_min (args_min_dflt _ _) ?_
  show wpAny _ A.in1 (bind (Builtin.Builtins.bindParams "min" ["key", "default"] 0 ⟨[], [(Str.ofString "default", d)]⟩) _) _ _ s
  refine wpAny_bind (wpAny_of_eq (params_min d) ?_)
  refine wpAny_bind (wpAny_pure (wpAny_bind (iter_intList hl fun s2 es st below ne => ?_)))
  subst es
  refine wpAny_bind (wpAny_newObj_type ?_)
  rw [nm]
  have sz : (intItems xs).size = xs.size := by simp [intItems]
  have W := Walks.list (prog := prog) (w := w) (A := A.in1) hh _ l ne (intItems xs)
  refine wpAny_pure ⟨plainId_quiet F.plain_min_loop _, dflt_min_loop W _ (CmpOf.ints_lt (numAt xs) fun _ _ => intItems_at) _ (fun z => Nat.lt_irrefl _ (below _ z)) d _ 0 _ _ _ rfl (Nat.zero_le _) (W.frame _ _ _ st fun b _ o e => Heap.get?_push_of_some _ e) (.inl ⟨rfl, rfl⟩) (Heap.get?_push_size _ rfl) fun v h' tk z kp => ?_⟩
  refine h v h' tk (by rw [sz] at z; exact z) (old_kept fun b o nb e => kp b o nb (Nat.ne_of_lt (Heap.lt_size e)) (Heap.get?_push_of_some _ e))

/-! ### by values -/
def rMxD (f : List Int → Option Int) (K : PySem.W.Frag) : List V → List V → Hp → VK → Prop := fun xs zs H Q => ∃ (a : Addr) (ns : List Int) (d : Int), xs = [.ref a] ∧ zs = [.int d] ∧ SqL K H a (ns.map V.int) ∧ Q (.int ((f ns).getD d)) H
section
variable {X : Cx}
theorem its_of {its : List Value} {ns : List Int} (hi : PyProof.Rows.IntsAre its ns) : ∃ xs : Array (Int × Tok), its.toArray = intItems xs ∧ xs.size = ns.length ∧ ∀ i, i < xs.size → ns[i]? = some (numAt xs i) := by
  obtain ⟨xs, e⟩ := hi.allInts.items
  refine ⟨xs, e, ?_, fun i hlt => ?_⟩
  · have h1 := congrArg Array.size e
    rw [List.size_toArray, hi.length] at h1
    simpa [intItems] using h1.symm
  · have h1 : its[i]? = some (.int (xs[i]).1 (xs[i]).2) := by
      have z := congrArg (fun (a : Array Value) => a[i]?) e
      simpa [intItems, hlt] using z
    have key : ∀ {is : List Value} {ms : List Int}, PyProof.Rows.IntsAre is ms → ∀ (j : Nat) (x : Int) (t : Tok), is[j]? = some (.int x t) → ms[j]? = some x := by
      intro is ms h
      induction h with
      | nil => intro j x t q; simp at q
      | cons n t h ih =>
        intro j x u q
        cases j with
        | zero =>
          have q' := Option.some.inj q
          injection q' with q1 q2
          rw [q1] <;> rfl
        | succ j => exact ih j x u (by simpa using q)
    rw [key hi i _ _ h1]
    simp [numAt, hlt]

theorem maxI_ne : ∀ (a : Int) (r : List Int), ∃ m, maxI (a :: r) = some m
  | a, [] => ⟨a, rfl⟩
  | a, b :: r => by
    obtain ⟨m, h⟩ := maxI_ne b r
    exact ⟨if m > a then m else a, by rw [maxI, h] <;> simp⟩
theorem best_max (f : Nat → Int) : ∀ n : Nat, argBest (fun i j => decide (f i > f j)) n ≤ n ∧ ∀ i, i ≤ n → f i ≤ f (argBest (fun i j => decide (f i > f j)) n)
  | 0 => ⟨Nat.le_refl _, fun i hi => by obtain rfl : i = 0 := by omega
                                        exact Int.le_refl _⟩
  | n + 1 => by
    obtain ⟨h1, h2⟩ := best_max f n
    unfold argBest
    by_cases hb : f (n + 1) > f (argBest (fun i j => decide (f i > f j)) n)
    · rw [if_pos (decide_eq_true hb)]
      refine ⟨Nat.le_refl _, fun i hi => ?_⟩
      rcases Nat.lt_or_ge i (n + 1) with q | q
      · have z := h2 i (by omega)
        omega
      · obtain rfl : i = n + 1 := by omega
        exact Int.le_refl _
    · rw [if_neg (by simpa using hb)]
      refine ⟨by omega, fun i hi => ?_⟩
      rcases Nat.lt_or_ge i (n + 1) with q | q
      · exact h2 i (by omega)
      · obtain rfl : i = n + 1 := by omega
        omega
theorem cr_maxD (hc : X.calm = true) : CallRK X (.builtin "max") [Str.ofString "default"] (rMxD maxI X.K) := by
  intro pins s σ H xs zs us ws Q I r1 r2 h
  obtain ⟨a, ns, d, rfl, rfl, hq, q⟩ := h
  obtain ⟨its, rv, hl, hz⟩ := I.list hq
  obtain ⟨u, rfl, ru⟩ := vals1 r1
  cases ru
  obtain ⟨u2, rfl, td, rfl⟩ := vals1 r2
  obtain ⟨ys, e, esz, get⟩ := its_of rv.ints
  have hl' := hl.isList
  rw [e] at hl'
  refine max_dflt_ints (I.ok.hd hc) hl' fun v h' tk z kp => ?_
  have I2 : Inv X pins σ H { s with heap := h', toks := tk } := I.kept kp
  rcases z with ⟨z0, rfl⟩ | ⟨z0, hv⟩
  · obtain rfl : ns = [] := List.length_eq_zero_iff.mp (by rw [← esz]; exact z0)
    exact ⟨.int d, H, I2, ⟨_, rfl⟩, q⟩
  · obtain ⟨t, rfl⟩ := intItems_at hv
    obtain ⟨b1, b2⟩ := best_max (numAt ys) (ys.size - 1)
    have hm : maxI ns = some (numAt ys (argBest (fun i j => decide (numAt ys i > numAt ys j)) (ys.size - 1))) := by
      have at1 := get _ (show argBest (fun i j => decide (numAt ys i > numAt ys j)) (ys.size - 1) < ys.size by omega)
      have mem := List.mem_of_getElem? at1
      cases em : maxI ns with
      | none =>
        cases ns with
        | nil => simp at mem
        | cons n0 ns0 =>
          obtain ⟨z, ez⟩ := maxI_ne n0 ns0
          rw [ez] at em
          cases em
      | some m =>
        obtain ⟨s1, s2⟩ := maxI_spec em
        have s3 := s2 _ mem
        obtain ⟨j, hj, ej⟩ := List.getElem_of_mem s1
        have hj' : j < ys.size := by omega
        have at2 := get j hj'
        rw [List.getElem?_eq_getElem hj, ej] at at2
        have s4 := b2 j (by omega)
        rw [← Option.some.inj at2] at s4
        congr 1
        omega
    rw [hm] at q
    exact ⟨.int _, H, I2, ⟨t, rfl⟩, q⟩

theorem minI_ne : ∀ (a : Int) (r : List Int), ∃ m, minI (a :: r) = some m
  | a, [] => ⟨a, rfl⟩
  | a, b :: r => by
    obtain ⟨m, h⟩ := minI_ne b r
    exact ⟨if m < a then m else a, by rw [minI, h] <;> simp⟩
theorem best_min (f : Nat → Int) : ∀ n : Nat, argBest (fun i j => decide (f i < f j)) n ≤ n ∧ ∀ i, i ≤ n → f (argBest (fun i j => decide (f i < f j)) n) ≤ f i
  | 0 => ⟨Nat.le_refl _, fun i hi => by obtain rfl : i = 0 := by omega
                                        exact Int.le_refl _⟩
  | n + 1 => by
    obtain ⟨h1, h2⟩ := best_min f n
    unfold argBest
    by_cases hb : f (n + 1) < f (argBest (fun i j => decide (f i < f j)) n)
    · rw [if_pos (decide_eq_true hb)]
      refine ⟨Nat.le_refl _, fun i hi => ?_⟩
      rcases Nat.lt_or_ge i (n + 1) with q | q
      · have z := h2 i (by omega)
        omega
      · obtain rfl : i = n + 1 := by omega
        exact Int.le_refl _
    · rw [if_neg (by simpa using hb)]
      refine ⟨by omega, fun i hi => ?_⟩
      rcases Nat.lt_or_ge i (n + 1) with q | q
      · exact h2 i (by omega)
      · obtain rfl : i = n + 1 := by omega
        omega
theorem cr_minD (hc : X.calm = true) : CallRK X (.builtin "min") [Str.ofString "default"] (rMxD minI X.K) := by
  intro pins s σ H xs zs us ws Q I r1 r2 h
  obtain ⟨a, ns, d, rfl, rfl, hq, q⟩ := h
  obtain ⟨its, rv, hl, hz⟩ := I.list hq
  obtain ⟨u, rfl, ru⟩ := vals1 r1
  cases ru
  obtain ⟨u2, rfl, td, rfl⟩ := vals1 r2
  obtain ⟨ys, e, esz, get⟩ := its_of rv.ints
  have hl' := hl.isList
  rw [e] at hl'
  refine min_dflt_ints (I.ok.hd hc) hl' fun v h' tk z kp => ?_
  have I2 : Inv X pins σ H { s with heap := h', toks := tk } := I.kept kp
  rcases z with ⟨z0, rfl⟩ | ⟨z0, hv⟩
  · obtain rfl : ns = [] := List.length_eq_zero_iff.mp (by rw [← esz]; exact z0)
    exact ⟨.int d, H, I2, ⟨_, rfl⟩, q⟩
  · obtain ⟨t, rfl⟩ := intItems_at hv
    obtain ⟨b1, b2⟩ := best_min (numAt ys) (ys.size - 1)
    have hm : minI ns = some (numAt ys (argBest (fun i j => decide (numAt ys i < numAt ys j)) (ys.size - 1))) := by
      have at1 := get _ (show argBest (fun i j => decide (numAt ys i < numAt ys j)) (ys.size - 1) < ys.size by omega)
      have mem := List.mem_of_getElem? at1
      cases em : minI ns with
      | none =>
        cases ns with
        | nil => simp at mem
        | cons n0 ns0 =>
          obtain ⟨z, ez⟩ := minI_ne n0 ns0
          rw [ez] at em
          cases em
      | some m =>
        obtain ⟨s1, s2⟩ := minI_spec em
        have s3 := s2 _ mem
        obtain ⟨j, hj, ej⟩ := List.getElem_of_mem s1
        have hj' : j < ys.size := by omega
        have at2 := get j hj'
        rw [List.getElem?_eq_getElem hj, ej] at at2
        have s4 := b2 j (by omega)
        rw [← Option.some.inj at2] at s4
        congr 1
        omega
    rw [hm] at q
    exact ⟨.int _, H, I2, ⟨t, rfl⟩, q⟩

end
def gMxD (f : List Int → Option Int) : List PyData → PyData → Option PyData
  | [.list xs], .int k => (intsD xs).map fun ns => .int ((f ns).getD k)
  | _, _ => none
def mMxD (f : List Int → Option Int) (m : M (List PyData)) (md : M PyData) : M PyData := M.bind m fun ds => M.bind md fun z => M.of (gMxD f ds z)
section
variable {X : Cx} {W : WB} {x : Str} {id : String} {e de : Expr} {m : M (List PyData)} {md : M PyData} {p pos kpos : Pos} {f : List Int → Option Int}
theorem pd_mxD (hc : CallRK X (.builtin id) [Str.ofString "default"] (rMxD f X.K)) (hg : Gl X x) (hm : X.mg x = none) (hv : bootBuiltins x = some (.builtin id)) (ha : PDs X W [e] m) (hd : PD X W de md) (hn : x ≠ "__name__" := by decide) (hdb : (x == ("__debug__" : Str)) = false := by decide)
    (he : backTo pos (starEach [e] X.env) = (false, eval e X.env) :: backTo pos (starEach [] X.env) := by rfl) (hpl : (backTo pos (starEach [e] X.env)).any (·.1) = false := by rfl)
    (hall : (backToKw pos (keywordEach [⟨some (Str.ofString "default"), de, kpos⟩] X.env)).all (·.1.isSome) = true := by rfl) (hnone : (backToKw pos (keywordEach [⟨some (Str.ofString "default"), de, kpos⟩] X.env)).any (·.1.isNone) = false := by rfl) (hks : (backToKw pos (keywordEach [⟨some (Str.ofString "default"), de, kpos⟩] X.env)).filterMap (·.1) = [Str.ofString "default"] := by rfl) :
    PD X W (.Call (.Name x p) [e] [⟨some (Str.ofString "default"), de, kpos⟩] pos) (mMxD f m md) := by
  refine PE.imp (pe_callBK hc hg hm hv ha (pk_cons hd pk_nil) hn hdb he hpl hall hnone hks) fun σ H Q ⟨G, O, a, q⟩ => ?_
  refine ⟨G, O, a, q.bind (RR := RDs X.kw) fun O1 H1 a1 vs ds I1 e1 r1 q1 => ?_⟩
  refine ⟨G, O1, a1, q1.bind (RR := RD X.kw) fun O2 H2 a2 v z I2 e2 r2 q2 => ?_⟩
  obtain ⟨d, hd, q3⟩ := q2.of
  unfold gMxD at hd
  split at hd
  · rename_i xs k
    cases hx : intsD xs with
    | none => rw [hx] at hd; cases hd
    | some ns =>
      rw [hx] at hd
      cases hd
      cases r2
      obtain rfl := intsD_some hx
      have r1' := RAll.mono e2 _ _ r1
      cases r1' with
      | cons r3 r4 =>
        cases r4
        cases r3 with
        | lst h1 h2 =>
          have h2' := h2.ints
          subst h2'
          exact ⟨_, ns, k, rfl, rfl, (hide_ex _ _).h.l h1, q3.pure (.int _)⟩
  · cases hd
variable {K : KW}
theorem gMax2_ok : CD_ K (fun xs H Q => ∃ i j, xs = [.int i, .int j] ∧ Q (.int (if j > i then j else i)) H) gMax2 := by
  intro O H vs ds d Q th rp h q
  unfold gMax2 at h
  split at h
  · cases h
    obtain ⟨v, w, rfl, r1, r2⟩ := rp.two
    rw [r1.int, r2.int]
    exact ⟨_, _, rfl, q _ _ (Ex.refl _) (.int _)⟩
  · cases h
theorem gMin2_ok : CD_ K (fun xs H Q => ∃ i j, xs = [.int i, .int j] ∧ Q (.int (if j < i then j else i)) H) gMin2 := by
  intro O H vs ds d Q th rp h q
  unfold gMin2 at h
  split at h
  · cases h
    obtain ⟨v, w, rfl, r1, r2⟩ := rp.two
    rw [r1.int, r2.int]
    exact ⟨_, _, rfl, q _ _ (Ex.refl _) (.int _)⟩
  · cases h
end
end Am

/-! Am11: sorted, of ints and of tuples of ints, any number of them. -/
namespace Am
open PySem L2 PySem.Spec

/-! ### the order, insertion sort -/
def lexL : List Int → List Int → Bool
  | [], [] => false
  | [], _ :: _ => true
  | _ :: _, [] => false
  | x :: xs, y :: ys => if x = y then lexL xs ys else decide (x < y)
theorem lexL_asym : ∀ {a b : List Int}, lexL a b = true → lexL b a = false
  | [], [], h => by cases h
  | [], _ :: _, _ => rfl
  | _ :: _, [], h => by cases h
  | x :: xs, y :: ys, h => by
    unfold lexL at h ⊢
    by_cases e : x = y
    · rw [if_pos e] at h
      rw [if_pos e.symm]
      exact lexL_asym h
    · rw [if_neg e] at h
      rw [if_neg (Ne.symm e)]
      have := of_decide_eq_true h
      exact decide_eq_false (by omega)
theorem lexL_tr : ∀ {a b c : List Int}, lexL b a = false → lexL c b = false → lexL c a = false
  | [], _, [], _, _ => rfl
  | [], _, _ :: _, _, _ => rfl
  | x :: xs, [], c, h1, _ => by cases h1
  | x :: xs, y :: ys, [], h1, h2 => by cases h2
  | x :: xs, y :: ys, z :: zs, h1, h2 => by
    unfold lexL at h1 h2 ⊢
    by_cases e1 : y = x
    · rw [if_pos e1] at h1
      by_cases e2 : z = y
      · rw [if_pos e2] at h2
        rw [if_pos (e2.trans e1)]
        exact lexL_tr h1 h2
      · rw [if_neg e2] at h2
        rw [if_neg (fun e => e2 (e.trans e1.symm))]
        have := of_decide_eq_false h2
        exact decide_eq_false (by omega)
    · rw [if_neg e1] at h1
      have k1 := of_decide_eq_false h1
      by_cases e2 : z = y
      · rw [if_neg (fun e => e1 (e2.symm.trans e))]
        exact decide_eq_false (by omega)
      · rw [if_neg e2] at h2
        have k2 := of_decide_eq_false h2
        rw [if_neg (by omega)]
        exact decide_eq_false (by omega)
theorem lexL_anti : ∀ {a b : List Int}, lexL a b = false → lexL b a = false → a = b
  | [], [], _, _ => rfl
  | [], _ :: _, h, _ => by cases h
  | _ :: _, [], _, h => by cases h
  | x :: xs, y :: ys, h1, h2 => by
    unfold lexL at h1 h2
    by_cases e : x = y
    · rw [if_pos e] at h1
      rw [if_pos e.symm] at h2
      rw [e, lexL_anti h1 h2]
    · rw [if_neg e] at h1
      rw [if_neg (Ne.symm e)] at h2
      have k1 := of_decide_eq_false h1
      have k2 := of_decide_eq_false h2
      omega
theorem lexL_irr (a : List Int) : lexL a a = false := by
  cases h : lexL a a with
  | false => rfl
  | true => rw [lexL_asym h] at h; cases h
section
variable {α : Type}
def ins (lt : α → α → Bool) (x : α) : List α → List α
  | [] => [x]
  | y :: ys => if lt y x then y :: ins lt x ys else x :: y :: ys
def isort (lt : α → α → Bool) : List α → List α
  | [] => []
  | x :: xs => ins lt x (isort lt xs)
theorem ins_perm (lt : α → α → Bool) (x : α) : ∀ l : List α, (ins lt x l).Perm (x :: l)
  | [] => List.Perm.refl _
  | y :: ys => by
    unfold ins
    split
    · exact ((ins_perm lt x ys).cons y).trans (List.Perm.swap x y ys)
    · exact List.Perm.refl _
theorem isort_perm (lt : α → α → Bool) : ∀ l : List α, (isort lt l).Perm l
  | [] => List.Perm.refl _
  | x :: xs => (ins_perm lt x _).trans ((isort_perm lt xs).cons x)
/-- nothing stands behind a greater one -/
def Asc (lt : α → α → Bool) (l : List α) : Prop := l.Pairwise fun x y => lt y x = false
theorem ins_asc {lt : α → α → Bool} (asym : ∀ x y, lt x y = true → lt y x = false) (tr : ∀ x y z, lt y x = false → lt z y = false → lt z x = false) (x : α) : ∀ {l : List α}, Asc lt l → Asc lt (ins lt x l)
  | [], _ => List.pairwise_singleton _ _
  | y :: ys, h => by
    obtain ⟨h1, h2⟩ := List.pairwise_cons.mp h
    unfold ins
    split
    · rename_i c
      refine List.pairwise_cons.mpr ⟨fun z hz => ?_, ins_asc asym tr x h2⟩
      rcases List.mem_cons.mp ((ins_perm lt x ys).mem_iff.mp hz) with rfl | hz
      · exact asym _ _ c
      · exact h1 z hz
    · rename_i c
      have c' : lt y x = false := by simpa using c
      refine List.pairwise_cons.mpr ⟨fun z hz => ?_, h⟩
      rcases List.mem_cons.mp hz with rfl | hz
      · exact c'
      · exact tr _ _ _ c' (h1 z hz)
theorem isort_asc {lt : α → α → Bool} (asym : ∀ x y, lt x y = true → lt y x = false) (tr : ∀ x y z, lt y x = false → lt z y = false → lt z x = false) : ∀ l : List α, Asc lt (isort lt l)
  | [] => List.Pairwise.nil
  | x :: xs => ins_asc asym tr x (isort_asc asym tr xs)
theorem asc_unique {R : α → α → Prop} (anti : ∀ a b, R a b → R b a → a = b) : ∀ {l m : List α}, l.Pairwise R → m.Pairwise R → l.Perm m → l = m
  | [], m, _, _, p => p.nil_eq
  | a :: l, m, h1, h2, p => by
    cases m with
    | nil => exact absurd p.symm.nil_eq (by simp)
    | cons b m =>
      obtain ⟨k1, k2⟩ := List.pairwise_cons.mp h1
      obtain ⟨k3, k4⟩ := List.pairwise_cons.mp h2
      have e : a = b := by
        rcases List.mem_cons.mp (p.mem_iff.mp List.mem_cons_self) with e | ha
        · exact e
        · rcases List.mem_cons.mp (p.mem_iff.mpr List.mem_cons_self) with e | hb
          · exact e.symm
          · exact anti a b (k1 b hb) (k3 a ha)
      subst e
      rw [asc_unique anti k2 k4 p.cons_inv]
end
abbrev srtL : List (List Int) → List (List Int) := isort lexL
theorem srtL_eq {l m : List (List Int)} (p : l.Perm m) (h : Asc lexL l) : l = srtL m :=
  asc_unique (R := fun x y => lexL y x = false) (fun a b h1 h2 => lexL_anti h2 h1) h (isort_asc (lt := lexL) (fun _ _ => lexL_asym) (fun _ _ _ => lexL_tr) m) (p.trans (isort_perm lexL m).symm)
abbrev ltI (i j : Int) : Bool := decide (i < j)
abbrev srtI : List Int → List Int := isort ltI
theorem srtI_eq {l m : List Int} (p : l.Perm m) (h : l.Pairwise (· ≤ ·)) : l = srtI m := by
  refine asc_unique (R := fun x y => ltI y x = false) (fun a b h1 h2 => ?_) (h.imp fun {a b} q => decide_eq_false (by omega)) (isort_asc (fun a b q => ?_) (fun a b c q1 q2 => ?_) m) (p.trans (isort_perm ltI m).symm)
  · have := of_decide_eq_false h1
    have := of_decide_eq_false h2
    omega
  · have := of_decide_eq_true q
    exact decide_eq_false (by omega)
  · have := of_decide_eq_false q1
    have := of_decide_eq_false q2
    exact decide_eq_false (by omega)

/-! ### tuples of ints as the model sorts them -/
section
open PyProof.Rows (IntsAre IsTup keyLt' tuples' SortKind)
open TS
variable {prog : Program} {w : World} {A : Around} {s : Shared} {Q : Bool → Shared → Prop}
theorem kat_ints : ∀ {xs ys : List Value} {ns ms : List Int}, IntsAre xs ns → IntsAre ys ms → ∀ (i : Nat) (fin : Bool), fin = decide (ns.length < ms.length) → Q (lexL ns ms) s → PySem.W.KatLex prog w A true fin Q (xs.zip ys) i s
  | _, _, _, _, .nil, .nil, i, fin, e, q => by subst e; exact PySem.W.kat_nil q
  | _, _, _, _, .nil, .cons m u t, i, fin, e, q => by
    have e' : fin = true := by rw [e]; exact decide_eq_true (Nat.succ_pos _)
    subst e'
    exact PySem.W.kat_nil q
  | _, _, _, _, .cons n t h, .nil, i, fin, e, q => by
    have e' : fin = false := by rw [e]; exact decide_eq_false (Nat.not_lt_zero _)
    subst e'
    exact PySem.W.kat_nil q
  | _, _, _, _, .cons n t h, .cons m u h', i, fin, e, q => by
    refine PySem.W.kat_cons (SeqAt.EqAt.int_int n t m u prog w _ _ (PySem.W.kat_go (fun e1 => ?_) fun e1 => ?_))
    · have en : n = m := by simpa using e1
      refine PySem.W.kat_yes (kat_ints h h' (i + 1) fin ?_ ?_)
      · rw [e, List.length_cons, List.length_cons]
        exact decide_eq_decide.mpr (by omega)
      · have q' : Q (if n = m then lexL _ _ else decide (n < m)) s := q
        rw [if_pos en] at q'
        exact q'
    · have en : ¬ n = m := by simpa using e1
      have q' : Q (if n = m then lexL _ _ else decide (n < m)) s := q
      rw [if_neg en] at q'
      refine PySem.W.kat_no ?_
      cases hb : (true && i == 0) with
      | true => exact PyProof.Rows.oneLt_int q'
      | false => exact PySem.W.kat_one _ _ (PyProof.Rows.lt_int q')
/-- tuples of at least one int each -/
def TupsNe (h : Heap) (vs : List Value) : Prop := ∀ v ∈ vs, ∃ n ns, TupInts h v (n :: ns)
theorem TupsNe.keeps {h h' : Heap} {vs : List Value} (x : TupsNe h vs) (k : ∀ b o, h.get? b = some o → o.cls = .type "tuple" → h'.get? b = some o) : TupsNe h' vs := fun v hv => by
  obtain ⟨n, ns, t⟩ := x v hv
  exact ⟨n, ns, t.keeps k⟩
theorem firsts_ne {h : Heap} : ∀ vs : List Value, TupsNe h vs → ∃ fs, PySem.W.KatTups h vs fs ∧ fs.length = vs.length ∧ ∀ f ∈ fs, ∃ n t, f = Value.int n t
  | [], _ => ⟨[], .nil, rfl, fun _ z => by cases z⟩
  | v :: vs, x => by
    obtain ⟨fs, k, hl, hi⟩ := firsts_ne vs fun u hu => x u (List.mem_cons_of_mem _ hu)
    obtain ⟨n, ns, a, xs, rfl, ⟨o, ho, hc, ep, hdt⟩, i⟩ := x v List.mem_cons_self
    obtain ⟨y, ys, e⟩ : ∃ y ys, xs.toList = y :: ys := by
      cases q : xs.toList with
      | nil => rw [q] at i; cases i
      | cons y ys => exact ⟨y, ys, rfl⟩
    obtain ⟨m, t, hy⟩ := i.all y (by rw [e]; exact List.mem_cons_self)
    refine ⟨y :: fs, .cons ho hc hdt ?_ k, by simp [hl], fun f hf => ?_⟩
    · have z := congrArg (fun l : List Value => l[0]?) e
      simpa using z
    · rcases List.mem_cons.mp hf with rfl | hf
      · exact ⟨m, t, hy⟩
      · exact hi f hf
theorem tups_sortable {a : Addr} {vs : List Value} (h2 : 2 ≤ vs.length) (x : TupsNe s.heap vs) (ha : ∀ o, s.heap.get? a = some o → o.cls ≠ .type "tuple") (k : Value → List Int) (hk : ∀ v ∈ vs, ∀ ns, TupInts s.heap v ns → k v = ns) :
    SrtO.SortableO prog w A s a vs fun u v => lexL (k u) (k v) := by
  intro h' keep
  have kp : ∀ b o, s.heap.get? b = some o → o.cls = .type "tuple" → h'.get? b = some o := fun b o e c => keep b o (fun z => by subst z; exact ha o e c) e
  obtain ⟨fs, h1, h3, h4⟩ := firsts_ne vs (x.keeps kp)
  refine ⟨tuples' true, fun Q E hq => ?_, fun p q hm hm' => ?_⟩
  · refine PySem.W.kat_kind (T := .type "int") h1 (by omega) (fun f hf => ?_) (by rfl) ?_
    · obtain ⟨n, t, rfl⟩ := h4 f hf
      exact PySem.W.Looks.now
    · have e : (Value.type "int" != Value.type "tuple") = true := by first | decide +kernel | rfl
      rw [e]
      exact hq
  · obtain ⟨n, ns, t1⟩ := x _ hm
    obtain ⟨m, ms, t2⟩ := x _ hm'
    have e1 := hk _ hm _ t1
    have e2 := hk _ hm' _ t2
    obtain ⟨b, xs, eb, ⟨o, ho, _, _, hd⟩, i1⟩ := t1.keeps kp
    obtain ⟨c, ys, ec, ⟨o', ho', _, _, hd'⟩, i2⟩ := t2.keeps kp
    show wpAny _ _ (keyLt' (tuples' true) p.1 q.1) (fun r s' => s' = _ ∧ r = lexL (k p.1) (k q.1)) _ _
    rw [e1, e2, eb, ec]
    refine PySem.W.kat_lt ho hd ho' hd' (kat_ints i1 i2 0 _ ?_ ⟨rfl, rfl⟩)
    have l1 := i1.length
    have l2 := i2.length
    rw [Array.length_toList] at l1 l2
    rw [l1, l2]
end
/-- sorted(xs), xs a list of tuples of ints -/
def rSortedN (K : PySem.W.Frag) : List V → Hp → VK → Prop := fun vs H Q => ∃ (a : Addr) (xs : List V), vs = [V.ref a] ∧ SqL K H a xs ∧ (∀ x ∈ xs, ∃ n ns, TupI K H x (n :: ns)) ∧
  ∀ (ys : List V) (p : Addr), ys.Perm xs → ys.Pairwise (fun x y => ∀ n m, TupI K H x n → TupI K H y m → lexL m n = false) → H p = none → Q (.ref p) (upd H p (.lst ys))
section
variable {X : Cx}
theorem cr_sortedN : CallR X (.builtin "sorted") (rSortedN X.K) := by
  intro pins s σ H vs us Q I r h
  obtain ⟨a, xs, rfl, hs, hx, q⟩ := h
  obtain ⟨its, rv, hl, hz⟩ := I.list hs
  rw [Vals.ref1 r]
  obtain ⟨e1, e2⟩ := bkV_refs rv fun x m => by
    obtain ⟨n, ns, ⟨t, e, _⟩⟩ := hx x m
    exact ⟨t, e⟩
  have tups : TupsNe s.heap its := fun v hv => by
    obtain ⟨t, rfl⟩ := e2 v hv
    obtain ⟨n, ns, ⟨t', e, ht⟩⟩ := hx (.ref t) (by rw [e1]; exact List.mem_map.mpr ⟨_, hv, rfl⟩)
    cases e
    exact ⟨n, ns, tupI_raw I ht⟩
  refine SrtO.sorted_ord (ltv := fun u v => lexL (TS.intsOf s.heap u) (TS.intsOf s.heap v)) ⟨fun _ _ => lexL_asym, fun _ _ _ => lexL_tr⟩ hl.isList (by rw [← rv.length]; exact hz) (fun h2 h1 a' ha' kk => ?_) fun out o1 o2 => ?_
  · refine tups_sortable (s := { s with heap := h1 }) h2 (tups.keeps fun b o e _ => (kk b o e).2) (fun o e => ?_) _ fun v hv ns t => ?_
    · have e' : some o = some (PyProof.Rows.seqObj "list" its.toArray 0) := e.symm.trans ha'
      cases e'
      exact fun c => absurd (Value.type.inj c) (by decide)
    · obtain ⟨m, ms, t0⟩ := tups v hv
      rw [t0.ints]
      exact ((t0.keeps fun b o e _ => (kk b o e).2).ints).symm.trans t.ints
  · obtain ⟨ep, he'⟩ := PyProof.Rows.sortedAll_at s.heap its out.toArray
    have h3 : ∀ u ∈ out, ∃ a, u = Value.ref a := fun u hu => e2 u (o2.perm.mem_iff.mp hu)
    have hp : (out.map bkV).Perm xs := by
      rw [e1]
      exact o2.perm.map bkV
    have hlen : (out.map bkV).length ≤ sizeLine := by
      rw [hp.length_eq]
      exact hz
    refine ⟨.ref _, upd H (s.heap.objs.size + 1) (.lst (out.map bkV)), I.laid (t' := s.toks) (fun _ _ => PyProof.Rows.sortedAll_old) (Nat.le_succ _) ⟨hlen, out, ep, bkV_vals h3, he'⟩, rfl, q _ _ hp ?_ (I.hok.fresh (Nat.le_succ _))⟩
    rw [List.pairwise_map]
    refine List.Pairwise.imp (fun {u v} huv n m hn hm => ?_) o1
    obtain ⟨t, et, ht⟩ := hn
    obtain ⟨t', et', ht'⟩ := hm
    have eu := bkV_ref et
    have ev := bkV_ref et'
    have i1 : TS.intsOf s.heap u = n := by rw [eu]; exact (tupI_raw I ht).ints
    have i2 : TS.intsOf s.heap v = m := by rw [ev]; exact (tupI_raw I ht').ints
    rw [← i1, ← i2]
    exact huv
end
/-! ### the mirror's sorted -/
def tupInts : PyData → Option (List Int)
  | .tuple ds => match intsD ds with
    | some (n :: ns) => some (n :: ns)
    | _ => none
  | _ => none
def tupsInts : List PyData → Option (List (List Int))
  | [] => some []
  | d :: ds => match tupInts d, tupsInts ds with
    | some n, some ns => some (n :: ns)
    | _, _ => none
def tupOf (ns : List Int) : PyData := .tuple (ns.map PyData.int)
theorem tupInts_some {d : PyData} {ns : List Int} (h : tupInts d = some ns) : d = tupOf ns ∧ ∃ n r, ns = n :: r := by
  unfold tupInts at h
  split at h
  · rename_i ds
    split at h
    · rename_i n r e
      cases h
      exact ⟨by rw [intsD_some e] <;> rfl, n, r, rfl⟩
    · cases h
  · cases h
theorem tupsInts_some : ∀ {ds : List PyData} {ns : List (List Int)}, tupsInts ds = some ns → ds = ns.map tupOf ∧ ∀ n ∈ ns, ∃ m r, n = m :: r
  | [], ns, h => by
    cases h
    exact ⟨rfl, fun _ z => by cases z⟩
  | d :: ds, ns, h => by
    unfold tupsInts at h
    cases h1 : tupInts d with
    | none => rw [h1] at h; cases h
    | some n =>
      cases h2 : tupsInts ds with
      | none => rw [h1, h2] at h; cases h
      | some r =>
        rw [h1, h2] at h
        cases h
        obtain ⟨e1, e2⟩ := tupInts_some h1
        obtain ⟨e3, e4⟩ := tupsInts_some h2
        refine ⟨by rw [List.map_cons, ← e1, ← e3], fun m hm => ?_⟩
        rcases List.mem_cons.mp hm with rfl | hm
        · exact e2
        · exact e4 m hm
theorem tupsInts_map : ∀ {ns : List (List Int)}, (∀ n ∈ ns, n ≠ []) → tupsInts (ns.map tupOf) = some ns
  | [], _ => rfl
  | n :: ns, h => by
    have h1 : tupInts (tupOf n) = some n := by
      unfold tupInts tupOf
      dsimp only
      rw [intsD_map]
      cases n with
      | nil => exact absurd rfl (h [] List.mem_cons_self)
      | cons _ _ => rfl
    rw [List.map_cons, tupsInts, h1, tupsInts_map fun m hm => h m (List.mem_cons_of_mem _ hm)]
/-- a list of ints, or a list of tuples of ints -/
def gSorted : List PyData → Option Sl
  | [.list ds] => match intsD ds with
    | some ns => some (.lst ((srtI ns).map PyData.int))
    | none => (tupsInts ds).map fun ns => .lst ((srtL ns).map tupOf)
  | _ => none
section
variable {K : KW}
theorem RAll.perm {H : Vw} : ∀ {ys xs : List V}, ys.Perm xs → ∀ {ds : List PyData}, RAll K H xs ds → ∃ es, es.Perm ds ∧ RAll K H ys es := by
  intro ys xs p
  induction p with
  | nil => exact fun {ds} r => ⟨ds, List.Perm.refl _, r⟩
  | cons x p ih =>
    intro ds r
    cases r with
    | cons r1 r2 =>
      obtain ⟨es, p1, r3⟩ := ih r2
      exact ⟨_ :: es, p1.cons _, .cons r1 r3⟩
  | swap x y l =>
    intro ds r
    cases r with
    | cons r1 r2 =>
      cases r2 with
      | cons r2 r3 => exact ⟨_, List.Perm.swap _ _ _, .cons r2 (.cons r1 r3)⟩
  | trans p1 p2 ih1 ih2 =>
    intro ds r
    obtain ⟨es, q1, r1⟩ := ih2 r
    obtain ⟨fs, q2, r2⟩ := ih1 r1
    exact ⟨fs, q2.trans q1, r2⟩
theorem R.tupI {H : Vw} {x : V} {ns : List Int} (r : R K H x (tupOf ns)) : TupI K H.h x ns := by
  unfold tupOf at r
  cases r with
  | tup h1 h2 => exact ⟨_, rfl, by rw [← h2.ints]; exact SqT.of h1⟩
theorem RAll.tupIs {H : Vw} : ∀ {xs : List V} {ns : List (List Int)}, RAll K H xs (ns.map tupOf) → ∀ x ∈ xs, ∃ n ∈ ns, TupI K H.h x n
  | _, [], r, x, hx => by cases r; cases hx
  | _, n :: ns, r, x, hx => by
    cases r with
    | cons r1 r2 =>
      rcases List.mem_cons.mp hx with rfl | hx
      · exact ⟨n, List.mem_cons_self, r1.tupI⟩
      · obtain ⟨m, hm, t⟩ := RAll.tupIs r2 x hx
        exact ⟨m, List.mem_cons_of_mem _ hm, t⟩
theorem RAll.asc {H : Vw} : ∀ {ys : List V} {ns : List (List Int)}, RAll K H ys (ns.map tupOf) → ys.Pairwise (fun x y => ∀ n m, TupI K H.h x n → TupI K H.h y m → lexL m n = false) → Asc lexL ns
  | _, [], r, _ => List.Pairwise.nil
  | _, n :: ns, r, p => by
    cases r with
    | cons r1 r2 =>
      obtain ⟨p1, p2⟩ := List.pairwise_cons.mp p
      refine List.pairwise_cons.mpr ⟨fun m hm => ?_, RAll.asc r2 p2⟩
      obtain ⟨j, hj, e⟩ := List.getElem_of_mem hm
      obtain ⟨v, hv, rv⟩ := r2.get j (d := tupOf m) (by rw [List.getElem?_map, List.getElem?_eq_getElem hj, e] <;> rfl)
      exact p1 v (List.mem_of_getElem? hv) n m r1.tupI rv.tupI
theorem perm_of_map {α β : Type} {f : α → β} : ∀ {es : List β} {ns : List α}, es.Perm (ns.map f) → ∃ ns' : List α, ns'.Perm ns ∧ es = ns'.map f := by
  intro es ns p
  generalize hm : ns.map f = ms at p
  induction p generalizing ns with
  | nil =>
    cases ns with
    | nil => exact ⟨[], List.Perm.refl _, rfl⟩
    | cons _ _ => cases hm
  | cons x p ih =>
    cases ns with
    | nil => cases hm
    | cons n ns =>
      rw [List.map_cons] at hm
      injection hm with h1 h2
      obtain ⟨r, q, e⟩ := ih h2
      exact ⟨n :: r, q.cons n, by rw [List.map_cons, h1, e]⟩
  | swap x y l =>
    match ns, hm with
    | n :: m :: ns, hm =>
      rw [List.map_cons, List.map_cons] at hm
      injection hm with h1 h2
      injection h2 with h2 h3
      exact ⟨m :: n :: ns, List.Perm.swap _ _ _, by rw [List.map_cons, List.map_cons, h1, h2, h3]⟩
  | trans p1 p2 ih1 ih2 =>
    obtain ⟨r, q, e⟩ := ih2 hm
    obtain ⟨t, q2, e2⟩ := ih1 e.symm
    exact ⟨t, q2.trans q, e2⟩
theorem TupI.up {O : Own} {H : Hp} {x : V} {n : List Int} (h : TupI K (hide O H).h x n) : TupI K H x n := by
  obtain ⟨t, e, q⟩ := h
  exact ⟨t, e, (hide_ex O H).h.t q⟩
def rSortedA (K : PySem.W.Frag) : List V → Hp → VK → Prop := fun vs H Q => rSortedI K vs H Q ∨ rSortedN K vs H Q
theorem cr_sortedA {X : Cx} : CallR X (.builtin "sorted") (rSortedA X.K) := CallR.or cr_sortedI cr_sortedN
theorem gSorted_ok : CX_ K (rSortedA K) gSorted := by
  intro O H vs ds s Q th rp h q
  unfold gSorted at h
  split at h
  · rename_i ds0
    obtain ⟨v, rfl, r⟩ := rp.one
    obtain ⟨p, us, rfl, h1, h2⟩ := r.lst
    cases hi : intsD ds0 with
    | some ns =>
      rw [hi] at h
      cases h
      obtain rfl := intsD_some hi
      have e := h2.ints
      subst e
      refine .inl ⟨p, ns, rfl, h1, fun ns' b pm asc hb => ?_⟩
      rw [srtI_eq pm asc]
      exact q _ b _ (Ex.new hb) hb upd_same (show RAll _ _ _ _ from RAll.ofInts _)
    | none =>
      rw [hi] at h
      cases hn : tupsInts ds0 with
      | none => rw [hn] at h; cases h
      | some ns =>
        rw [hn] at h
        cases h
        obtain ⟨rfl, ne⟩ := tupsInts_some hn
        refine .inr ⟨p, us, rfl, h1, fun x hx => ?_, fun ys b pm asc hb => ?_⟩
        · obtain ⟨n, hm, t⟩ := RAll.tupIs h2 x hx
          obtain ⟨m, r, rfl⟩ := ne n hm
          exact ⟨m, r, TupI.up t⟩
        · obtain ⟨es, p1, r1⟩ := RAll.perm pm h2
          obtain ⟨ns', p2, rfl⟩ := perm_of_map p1
          have a1 : Asc lexL ns' := RAll.asc r1 (asc.imp fun {x y} k n m t1 t2 => k n m (TupI.up t1) (TupI.up t2))
          rw [srtL_eq p2 a1] at r1
          exact q _ b _ (Ex.new hb) hb upd_same (show RAll _ _ _ _ from r1)
  · cases h
end
end Am

/-! Am12: repr; the law's head. -/
namespace Am
open PySem L2 PySem.Spec

/-! ### repr -/
section
variable {X : Cx} {pins : List (Addr × Obj)} {σ : St} {H : Hp} {s : Shared}
theorem shown_dict0 : dictText [] = ("{}" : Str) := by decide +kernel
theorem dic0_at (I : Inv X pins σ H s) {a : Addr} (h : H a = some (.dK [])) : ∃ o es n, s.heap.get? a = some o ∧ o.cls = .type "dict" ∧ o.data = .dict es n ∧ es.toList = [] ∧ (a == sysModules) = false := by
  obtain ⟨_, hs, vs, r, o, es, ep, e, c, hd, _, hp, _⟩ := dk_of I.hok h
  cases r
  refine ⟨o, es, ep, e, c.1, hd, ?_, hs⟩
  cases q : es.toList with
  | nil => rfl
  | cons x xs =>
    rw [q] at hp
    cases hp
/-- the datum at u, its shape in the heap, and its text -/
def ShowsD (X : Cx) (s : Shared) (u : Value) (d : PyData) : Prop := ∃ as bs, Reads s.heap u d as ∧ ReadAtMost s.heap d.depth bs ∧ ReprK X.prog X.w bs s.heap d.depth u d.shown
def ShowsAll (X : Cx) (s : Shared) (us : List Value) (ds : List PyData) : Prop := ∃ as bs, ReadsAll s.heap us ds as ∧ ReadAtMost s.heap (PyData.depthAll ds) bs ∧ ReprAllK X.prog X.w bs s.heap (PyData.depthAll ds) us (PyData.shownAll ds)
mutual
theorem R.shows {VV : Vw} (I : Inv X pins σ VV.h s) : ∀ (d : PyData) {v : V} {u : Value}, d.showable = true → d.shown.length ≤ sizeLine → R X.K VV v d → RelV v u → ShowsD X s u d
  | .none, v, u, _, _, r, e => by
    cases r
    cases e
    exact ⟨[], [], .none, (fun _ h => nomatch h), by simp only [PyData.shown]; exact .of_is ReprIs.none _ _ _⟩
  | .bool b, v, u, _, _, r, e => by
    cases r
    cases e
    exact ⟨[], [], .bool b, (fun _ h => nomatch h), by simp only [PyData.shown]; exact .of_is (ReprIs.bool b) _ _ _⟩
  | .int i, v, u, hs, _, r, e => by
    cases r
    obtain ⟨t, rfl⟩ := e
    exact ⟨[], [], .int i t, (fun _ h => nomatch h), by simp only [PyData.shown]; exact .of_is (ReprIs.int t (by simpa [PyData.showable] using hs)) _ _ _⟩
  | .str x, v, u, _, hz, r, e => by
    cases r
    obtain ⟨t, rfl⟩ := e
    exact ⟨[], [], .str x t, (fun _ h => nomatch h), by simp only [PyData.shown]; exact .of_is (ReprIs.str x t (by simpa only [PyData.shown] using hz)) _ _ _⟩
  | .list ds, v, u, hs, hz, r, e => by
    have hz' : (listText (PyData.shownAll ds)).length ≤ sizeLine := by simpa only [PyData.shown] using hz
    cases r with
    | lst h1 h2 =>
      cases e
      rename_i a vs
      obtain ⟨its, rv, pl, _⟩ := I.list h1
      obtain ⟨o, ho, hc, n, hdt⟩ := pl.isList
      obtain ⟨as, bs, q1, q2, q3⟩ := RAll.shows I ds (by simpa [PyData.showable] using hs) (fun t ht => Nat.le_trans (listText_mem_le ht) hz') h2 rv
      have rd : Reads s.heap (.ref a) (.list ds) (a :: as) := .list ho hc hdt (by simpa using q1)
      have hna : a ∉ bs := not_mem_of_deeper rd (by simp only [PyData.depth]; omega) q2
      refine ⟨_, a :: bs, rd, ReadAtMost.cons rd (by simp only [PyData.depth]; omega) q2, ?_⟩
      simp only [PyData.depth, PyData.shown]
      cases ds with
      | nil =>
        cases h2
        cases rv
        simp only [PyData.shownAll, listText_nil]
        exact ReprK.listEmpty ho hc hdt
      | cons d ds =>
        cases h2
        cases rv
        exact ReprK.list ho hc hdt hna (by simpa using q3.length_eq) (fun i y e => q3.item i y (by simpa using e))
  | .tuple ds, v, u, hs, hz, r, e => by
    have hz' : (tupleText (PyData.shownAll ds)).length ≤ sizeLine := by simpa only [PyData.shown] using hz
    cases r with
    | tup h1 h2 =>
      cases e
      rename_i a vs
      obtain ⟨its, rv, ⟨o, ho, hc, n, hdt⟩, _⟩ := I.tuple (SqT.of h1)
      obtain ⟨as, bs, q1, q2, q3⟩ := RAll.shows I ds (by simpa [PyData.showable] using hs) (fun t ht => Nat.le_trans (tupleText_mem_le ht) hz') h2 rv
      have rd : Reads s.heap (.ref a) (.tuple ds) as := .tuple ho hc hdt (by simpa using q1)
      have hna : a ∉ bs := not_mem_of_deeper rd (by simp only [PyData.depth]; omega) q2
      refine ⟨_, a :: bs, rd, ReadAtMost.cons rd (by simp only [PyData.depth]; omega) q2, ?_⟩
      simp only [PyData.depth, PyData.shown]
      exact ReprK.tuple ho hc hdt hna (by simpa using q3)
  | .dict kv, v, u, hs, _, r, e => by
    cases r with
    | bx _ => exact absurd (by simpa [PyData.showable, PyData.showableKv] using hs) (bigB_log _)
    | @dic0 a h1 =>
      cases e
      obtain ⟨o, es, n, ho, hc, hdt, he, hsys⟩ := dic0_at I h1
      have rd : Reads s.heap (.ref a) (.dict []) (a :: ([] : List Addr) ++ ([] : List Addr)) := .dict ho hc hdt (by rw [he]; exact ReadsAll.nil) (by rw [he]; exact ReadsAll.nil)
      refine ⟨_, [a], rd, ReadAtMost.cons rd (n := 0) (Nat.zero_le _) (fun _ h => nomatch h), ?_⟩
      simp only [PyData.depth, PyData.shown, PyData.shownKv]
      exact ReprK.dict ho hc hdt hsys (fun h => nomatch h) (by rw [he]; exact .nil)
theorem RAll.shows {VV : Vw} (I : Inv X pins σ VV.h s) : ∀ (ds : List PyData) {vs : List V} {us : List Value}, PyData.showableAll ds = true → (∀ t ∈ PyData.shownAll ds, t.length ≤ sizeLine) → RAll X.K VV vs ds → Vals vs us → ShowsAll X s us ds
  | [], vs, us, _, _, r, e => by
    cases r
    cases e
    exact ⟨[], [], .nil, (fun _ h => nomatch h), by simp only [PyData.shownAll]; exact .nil⟩
  | d :: ds, vs, us, hs, hz, r, e => by
    have hs' : d.showable = true ∧ PyData.showableAll ds = true := by simpa [PyData.showableAll] using hs
    cases r with
    | cons r1 r2 =>
      cases e with
      | cons e1 e2 =>
        obtain ⟨a1, b1, q1, q2, q3⟩ := R.shows I d hs'.1 (hz _ (by simp only [PyData.shownAll]; exact List.mem_cons_self ..)) r1 e1
        obtain ⟨a2, b2, p1, p2, p3⟩ := RAll.shows I ds hs'.2 (fun t ht => hz t (by simp only [PyData.shownAll]; exact List.mem_cons_of_mem _ ht)) r2 e2
        refine ⟨_, b1 ++ b2, .cons q1 p1, ?_, ?_⟩
        · simp only [PyData.depthAll]
          exact (q2.mono (Nat.le_max_left _ _)).append (p2.mono (Nat.le_max_right _ _))
        · simp only [PyData.depthAll, PyData.shownAll]
          exact .cons ((q3.more fun b hb => List.mem_append_left _ hb).level_le (Nat.le_max_left _ _)) (p3.more_le (fun b hb => List.mem_append_right _ hb) (Nat.le_max_right _ _))
end
end
def canRepr (d : PyData) : Bool := d.showable && decide (d.depth ≤ 60) && decide (d.shown.length ≤ lineN)
def gRepr : List PyData → Option PyData
  | [d] => if canRepr d then some (.str d.shown) else none
  | _ => none
def rRepr (K : PySem.W.Frag) : List V → Hp → VK → Prop := fun vs H Q => ∃ v d, vs = [v] ∧ (∃ r, R K ⟨H, r⟩ v d) ∧ canRepr d = true ∧ Q (.str d.shown) H
theorem shown_boolS (b : Bool) : PyData.shown (.bool b) = (if b then ("True" : Str) else "False") := by cases b <;> rfl
section
variable {X : Cx}
theorem call_repr {k : Nat} (hr : Room k X.A) (gd : X.A.guards = some []) : CallR X (.builtin "repr") (rRepr X.K) := by
  intro pins s σ H vs us Q I rel h
  obtain ⟨v, d, rfl, ⟨r0, r⟩, ok, q⟩ := h
  have I0 : Inv X pins σ (Vw.mk H r0).h s := I
  obtain ⟨u, rfl, ru⟩ := vals1 rel
  simp only [canRepr, Bool.and_eq_true, decide_eq_true_eq] at ok
  obtain ⟨⟨k1, k3⟩, k4⟩ := ok
  have k4' : d.shown.length ≤ sizeLine := by rw [line_eq]; exact k4
  have un := hr.units
  cases r with
  | non =>
    cases ru
    exact P.repr_of_none ⟨.str _, H, I.tok _, ⟨_, rfl⟩, q⟩
  | bl b =>
    cases ru
    exact P.repr_of_bool (b := b) ⟨.str _, H, I.tok _, ⟨_, rfl⟩, by rw [← shown_boolS]; exact q⟩
  | int i =>
    obtain ⟨t, rfl⟩ := ru
    exact P.repr_of_int (by simpa [PyData.showable] using k1) ⟨.str _, H, I.tok _, ⟨_, rfl⟩, q⟩
  | str x =>
    obtain ⟨t, rfl⟩ := ru
    exact P.repr_of_str ⟨.str _, H, I.tok _, ⟨_, rfl⟩, q⟩ k4'
  | lst h1 h2 =>
    cases ru
    rename_i a vs ds
    have hz' : (listText (PyData.shownAll ds)).length ≤ sizeLine := by simpa only [PyData.shown] using k4'
    obtain ⟨its, rv, pl, _⟩ := I.list h1
    obtain ⟨o, ho, hc, n, hdt⟩ := pl.isList
    obtain ⟨as, bs, q1, q2, q3⟩ := RAll.shows I0 ds (by simpa [PyData.showable] using k1) (fun t ht => Nat.le_trans (listText_mem_le ht) hz') h2 rv
    have rd : Reads s.heap (.ref a) (.list ds) (a :: as) := .list ho hc hdt (by simpa using q1)
    have hna : a ∉ bs := not_mem_of_deeper rd (by simp only [PyData.depth]; omega) q2
    simp only [PyData.depth] at k3
    refine call_repr_slot (by omega) ⟨o, ho, hc⟩ F.slot_list_repr.toG ?_
    cases ds with
    | nil =>
      cases h2
      cases rv
      simp only [PyData.shown, PyData.shownAll, listText_nil] at q
      exact call_list_repr_empty ⟨o, ho, hc⟩ ho hdt ⟨_, _, rfl, .str _, H, I.tok _, ⟨_, rfl⟩, q⟩
    | cons d ds =>
      cases h2
      cases rv
      simp only [PyData.shown] at q
      exact call_list_reprK ho hc hdt hna (by simpa using q3.length_eq) (fun i y e => q3.item i y (by simpa using e)) gd (fun b _ => Clear.nil b) (by show X.A.units + 1 + _ < cLine; omega) (fun _ _ e => e) (fun h' t tk kp => ⟨_, _, rfl, .str _, H, I.kept kp, ⟨t, rfl⟩, q⟩) hz'
  | tup h1 h2 =>
    cases ru
    rename_i a vs ds
    have hz' : (tupleText (PyData.shownAll ds)).length ≤ sizeLine := by simpa only [PyData.shown] using k4'
    obtain ⟨its, rv, ⟨o, ho, hc, n, hdt⟩, _⟩ := I.tuple (SqT.of h1)
    obtain ⟨as, bs, q1, q2, q3⟩ := RAll.shows I0 ds (by simpa [PyData.showable] using k1) (fun t ht => Nat.le_trans (tupleText_mem_le ht) hz') h2 rv
    have rd : Reads s.heap (.ref a) (.tuple ds) as := .tuple ho hc hdt (by simpa using q1)
    have hna : a ∉ bs := not_mem_of_deeper rd (by simp only [PyData.depth]; omega) q2
    simp only [PyData.depth] at k3
    refine call_repr_slot (by omega) ⟨o, ho, hc⟩ F.slot_tuple_repr ?_
    simp only [PyData.shown] at q
    exact call_tuple_reprK ho hc hdt hna (by simpa using q3) gd (fun b _ => Clear.nil b) (by show X.A.units + 1 + _ < cLine; omega) (fun _ _ e => e) (fun h' t tk kp => ⟨_, _, rfl, .str _, H, I.kept kp, ⟨t, rfl⟩, q⟩) hz'
  | bx _ => exact absurd (by simpa [PyData.showable, PyData.showableKv] using k1) (bigB_log _)
  | dic0 h1 =>
    cases ru
    rename_i a
    obtain ⟨o, es, n, ho, hc, hdt, he, hsys⟩ := dic0_at I h1
    refine call_repr_slot (by omega) ⟨o, ho, hc⟩ F.slot_dict_repr ?_
    simp only [PyData.shown, PyData.shownKv] at q
    exact call_dict_reprK (as := []) (d := 0) (ps := []) ho hc hdt hsys (fun h => nomatch h) (by rw [he]; exact .nil) gd (fun b _ => Clear.nil b) (by show X.A.units + 1 + _ < cLine; omega) (fun _ _ e => e) (fun h' t tk kp => ⟨_, _, rfl, .str _, H, I.kept kp, ⟨t, rfl⟩, q⟩) (by decide +kernel)
end
theorem gRepr_ok {K : KW} : CD_ K (rRepr K) gRepr := by
  intro O H vs ds d Q th rp h q
  unfold gRepr at h
  split at h
  · rename_i d0
    split at h
    · rename_i ok
      cases h
      obtain ⟨v, rfl, r⟩ := rp.one
      exact ⟨v, d0, rfl, ⟨_, r.full⟩, ok, q _ _ (Ex.refl _) (.str _)⟩
    · cases h
  · cases h

/-! ### the law's head -/
section
open PySem.W
open PyProof.Rows (AllBare)
variable {P : Program} {w : World} {K : PySem.W.Frag} {mg mb : Str → Option Value} {CX : CXT} {k : Nat} {fa a : Addr} {fd : FuncData} {x : Str} {sp : Sp} {s1 : Shared} {vs : List Value} {ns : List Int}
theorem law_callG (kin : K.In s1.heap) (gs : s1.heap.Ns mainGlobals mg) (bs : s1.heap.Ns builtinsNs mb) (boot : ∀ y : Str, y ≠ "__name__" → mb y = bootBuiltins y) (lim : s1.heap.NoLimit) (gens : s1.gens = #[])
    (at_a : s1.heap.get? a = some { cls := .type "list", data := .seq vs.toArray }) (areInts : PyProof.Rows.IntsAre vs ns) (short : ns.length ≤ sizeLine) (room : Room k callerA)
    (F : ∀ base : Heap, K.In base → base.Ns mainGlobals mg → FnG P w K mg base CX k fa fd [x] sp) (bd : ∀ (s : Shared) (u : Value), BindsTo s fd ⟨[u], []⟩ [(x, u)])
    (go : ∀ H : Hp, Only H → SqL K H a (ns.map V.int) → sp [.ref a] H (fun v _ => v = .bl true) fun _ _ _ => False) (never : ∀ H e s', CX [] H s1 (fun _ _ _ => False) e s' → False) :
    codeAny (model P w) callerA (.call (.ref fa) ⟨[.ref a], []⟩) (fun r s' => r = .ok (.ret (.bool true)) ∧ OldK s1.heap s'.heap ∧ s'.os = s1.os ∧ AllBare s'.gens) s1 := by
  have rv := vals_ints areInts
  -- the heap that is told: the script alone, where the top has not written it
  have run : ∀ H : Hp, Only H → SqL K H a (ns.map V.int) → HOk P w H s1.heap → (∀ b, H b ≠ none → b = a ∧ K.lookup a = none) →
      codeAny (model P w) callerA (.call (.ref fa) ⟨[.ref a], []⟩) (fun r s' => r = .ok (.ret (.bool true)) ∧ OldK s1.heap s'.heap ∧ s'.os = s1.os ∧ AllBare s'.gens) s1 := by
    intro H only sq hok lone
    have toBase : ∀ {b : Addr} {o : Obj}, s1.heap.get? b = some o → H b = none → (hidT s1.heap H).get? b = some o := fun e n => hidT_get e n
    have untold : ∀ {b : Addr} {o : Obj}, s1.heap.get? b = some o → (∀ q, o.data ≠ .seq vs.toArray q) → H b = none := fun {b o} e nd => by
      cases q : H b with
      | none => rfl
      | some u =>
        obtain ⟨rfl, _⟩ := lone b (by rw [q]; exact fun z => nomatch z)
        rw [at_a] at e
        cases e
        exact absurd rfl (nd _)
    have ns1 : ∀ {b : Addr} {m : Str → Option Value}, s1.heap.Ns b m → (hidT s1.heap H).Ns b m := fun {b m} ⟨o, es, ep, e, d, r⟩ => ⟨o, es, ep, toBase e (untold e fun q z => by rw [d] at z; cases z), d, r⟩
    have kin1 : K.In (hidT s1.heap H) := fun b o e => toBase (kin b o e) (by
      cases q : H b with
      | none => rfl
      | some u =>
        obtain ⟨rfl, z⟩ := lone b (by rw [q]; exact fun z => nomatch z)
        rw [z] at e
        cases e)
    have env : Env0 P w K mg (hidT s1.heap H) callerA [] s1 H := by
      refine ⟨rfl, ⟨kin1, ns1 gs, ⟨mb, ns1 bs, boot⟩, ?_⟩, fun b o e => of_hidT e, Nat.le_of_eq (hidT_size _ _), trivial, (fun b hb => by cases hb), hok, .of_eq gens⟩
      obtain ⟨mc, l1, l2⟩ := lim
      exact ⟨mc, ns1 l1, l2⟩
    refine codeAny_mono ((F _ kin1 (ns1 gs)).run callerA [] s1 H _ [.ref a] [.ref a] _ _ room rfl env (bd s1 (.ref a)) (.cons rfl .nil) (go H only sq)) ?_
    rintro (e | fl) s2 hq
    · exact (never H e s2 hq).elim
    · cases fl with
      | ret u =>
        obtain ⟨v, H2, os, bare, un, hok2, rel, rfl⟩ := hq
        cases rel
        refine ⟨rfl, OldK.of_keep fun b o e => ?_, os, bare⟩
        rcases only b with n | ⟨ob, xs, t⟩
        · exact un.keep b o e n (fun z => nomatch z) fun z => nomatch z
        · obtain ⟨e1, _⟩ := hok b _ t
          obtain ⟨e2, _⟩ := hok2 b _ (un.frzs b ob _ t)
          rw [e] at e1
          cases e1
          exact e2
      | _ => exact hq.elim
  have hz : (ns.map V.int).length ≤ sizeLine := by rw [List.length_map]; exact short
  cases hk : K.lookup a with
  | some o =>
    have e := kin a o hk
    rw [at_a] at e
    cases e
    exact run (fun _ => none) (fun _ => .inl rfl) (.inr ⟨_, vs.toArray, _, hk, rfl, rfl, rfl, by rw [List.size_toArray, areInts.length]; exact short, by simpa using rv⟩) (fun b u z => nomatch z) fun b z => absurd rfl z
  | none =>
    have ne : ∀ {b : Addr} {u : HO}, (if b = a then some (HO.frz { cls := .type "list", data := .seq vs.toArray } (.lst (ns.map V.int))) else none) = some u → b = a ∧ u = .frz { cls := .type "list", data := .seq vs.toArray } (.lst (ns.map V.int)) := fun {b u} z => by
      split at z
      · cases z
        exact ⟨by assumption, rfl⟩
      · cases z
    refine run (fun b => if b = a then some (HO.frz { cls := .type "list", data := .seq vs.toArray } (.lst (ns.map V.int))) else none) (fun b => ?_) (.inl (.inr ⟨_, if_pos rfl⟩)) (fun b u z => ?_) fun b z => ?_
    · by_cases hb : b = a
      · exact .inr ⟨_, _, if_pos hb⟩
      · exact .inl (if_neg hb)
    · obtain ⟨rfl, rfl⟩ := ne z
      exact ⟨at_a, hz, vs, _, rv, at_a⟩
    · by_cases hb : b = a
      · exact ⟨hb, hk⟩
      · exact absurd (if_neg hb) z
end
/-- a law's def: it takes a list of ints; its mirror gives True -/
def spLaw (K : KW) (body : M Fl) (n : Nat) : Sp := fun vs H Q _ => ∃ (a : Addr) (ns : List Int), vs = [.ref a] ∧ SqL K.k H a (ns.map V.int) ∧ Only H ∧ fnD n body [.list (ns.map PyData.int)] = some (.ok (.dat (.bool true))) ∧ ∀ H', Q (.bl true) H'
theorem spLaw_D {K : KW} {body : M Fl} {n : Nat} {vs : List V} {H : Hp} {Q : VK} {E : XK} (h : spLaw K body n vs H Q E) : spD K (fnD n body) 1 vs H Q E := by
  obtain ⟨a, ns, rfl, hS, only, hb, k⟩ := h
  have hh : hid [] H = H := by
    funext b
    unfold hid
    rw [if_neg (by simp)]
  have r0 : R K.k (hide ⟨[], []⟩ H) (.ref a) (.list (ns.map PyData.int)) := .lst (by show SqL K.k (hid [] H) a _; rw [hh]; exact hS) (RAll.ofInts ns)
  refine ⟨rfl, ⟨[], []⟩, _, _, ⟨fun p hp => (nomatch hp), fun p hp => (nomatch hp), List.nodup_nil⟩, RAll.cons r0 RAll.nil, hb, fun H' v ex r => ?_⟩
  cases r
  exact k H'
theorem FnG.imp {P : Program} {w : World} {K : PySem.W.Frag} {mg : Str → Option Value} {base : Heap} {CX : CXT} {k : Nat} {f : Addr} {fd : FuncData} {ps : List Str} {sp sp' : Sp} (F : FnG P w K mg base CX k f fd ps sp)
    (h : ∀ vs H Q E, sp' vs H Q E → sp vs H Q E) : FnG P w K mg base CX k f fd ps sp' :=
  ⟨fun vs H Q E q => F.len vs H Q E (h _ _ _ _ q), fun A fr s0 H ar us vs Q E hr gd e0 hb hv hs => F.run A fr s0 H ar us vs Q E hr gd e0 hb hv (h _ _ _ _ hs)⟩
theorem walkG {l : PySem.W.OpenLaw} {n k : Nat} {q : Program} {loose : List Str} {XP : (Str → Option Value) → Heap → Prop} {YP : World → Heap → Prop} {d : DefRec} {K : Params → PySem.W.Frag} {CX : World → CXT} {body : M Fl} {sn : Nat} {x : Str}
    (most : l.most = some n) (fits : n ≤ sizeLine) (nodef : d.params.defaults = []) (room : Room k callerA) (inK : ∀ (w : World) (h : Heap), YP w h → (K w.params).In h)
    (F : ∀ (w : World) (mg : Str → Option Value) (fa : Addr) (h : Heap), (K w.params).In h → h.Ns mainGlobals mg → mg d.name = some (.ref fa) →
      ∃ fd : FuncData, (∀ (s : Shared) (u : Value), BindsTo s fd ⟨[u], []⟩ [(x, u)]) ∧
        ∀ base : Heap, (K w.params).In base → base.Ns mainGlobals mg → FnG l.prog w (K w.params) mg base (CX w) k fa fd [x] (spD ⟨K w.params, w, []⟩ (fnD sn body) 1))
    (law : ∀ ns : List Int, ns.length ≤ n → fnD sn body [.list (ns.map PyData.int)] = some (.ok (.dat (.bool true)))) (never : ∀ (w : World) (H : Hp) (s : Shared) (e : Value) (s' : Shared), CX w [] H s (fun _ _ _ => False) e s' → False) :
    PySem.W.WalkO q loose XP YP l.row.toRowW d [] (fun f vs => PySem.call f vs) := by
  refine Att.attach_call most nodef fun w s0 s1 mg mb fa o pm cd doc a vs ns G Y ho hd hcd hmg hobj hints hlen hg => ?_
  have kin := inK w _ Y
  obtain ⟨fd, bd, hF⟩ := F w mg fa _ kin G.T.g hmg
  exact law_callG (sp := spLaw ⟨K w.params, w, []⟩ body sn) kin G.T.g G.T.b G.T.builtins G.T.nolimit hg hobj hints (Nat.le_trans hlen fits) room (fun base b1 b2 => (hF base b1 b2).imp fun _ _ _ _ => spLaw_D) bd
    (fun H only sq => ⟨a, ns, rfl, sq, only, law ns hlen, fun _ => rfl⟩) fun H e s' => never w H s1 e s'
end Am

/-! Am13: what the printed walks use besides. -/
namespace Am
open PySem L2 PySem.Spec

section
variable {X : Cx} {W : WB}
/-- + of any kind -/
def gPlus : G2 := fun d e => match d, e with
  | .list xs, .list ys => gCat (.list xs) (.list ys)
  | d, e => (gAdd d e).map Sl.dat
def rPlus (K : KW) : R2 := fun x y H Q => rAddA K x y H Q ∨ (∃ l b xs zs, x = .ref l ∧ y = .ref b ∧ SqL K H l xs ∧ SqL K H b zs ∧ xs.length + zs.length ≤ sizeLine ∧ ∀ p, H p = none → Q (.ref p) (upd H p (.lst (xs ++ zs))))
theorem op_plus : OpR X (binaryOp .Add) (rPlus X.kw) := OpR.or op_addA op_catS
theorem gPlus_ok {K : KW} : OpX K (rPlus K) gPlus := by
  intro O H x y d e s Q th rx ry hg q
  unfold gPlus at hg
  split at hg
  · exact .inr (gCat_ok O H x y _ _ s Q th rx ry hg q)
  · cases hd : gAdd d e with
    | none => rw [hd] at hg; cases hg
    | some z =>
      rw [hd] at hg
      cases hg
      exact .inl (gAdd_ok O H x y d e z Q th rx ry hd q)
/-- nothing is said of it: the mirror does not come here -/
theorem ms_no {st : Stmt} : PSM X W st M.fail := ⟨fun pins s σ H D I ⟨G, O, a, _, _, x, e, _⟩ => by cases e⟩
theorem ms_noS {st : List Stmt} : PSsM X W st M.fail := ⟨fun pins s σ H D I ⟨G, O, a, _, _, x, e, _⟩ => by cases e⟩
theorem pv0 {E : St → XK} : ∀ σ, PassesAt CX0 X σ (E σ) := fun _ _ _ _ _ _ _ h => h.elim
end
/-! ### how many arguments -/
def Ln {γ : Type} (n : Nat) (m : M (List γ)) : Prop := ∀ a ds a', m a = some (.ok ds, a') → ds.length = n
theorem ln_nil : Ln 0 (M.pure ([] : List PyData)) := fun a ds a' h => by
  cases h
  rfl
theorem ln_cons {n : Nat} {m : M PyData} {r : M (List PyData)} (h : Ln n r) : Ln (n + 1) (mDs m r) := fun a ds a' e => by
  unfold mDs M.bind at e
  cases h1 : m a with
  | none => rw [h1] at e; cases e
  | some x =>
    obtain ⟨x1, a1⟩ := x
    rw [h1] at e
    cases x1 with
    | error er => cases e
    | ok d =>
      dsimp only at e
      cases h2 : r a1 with
      | none => rw [h2] at e; cases e
      | some y =>
        obtain ⟨y1, a2⟩ := y
        rw [h2] at e
        cases y1 with
        | error er => cases e
        | ok es =>
          cases e
          rw [List.length_cons, h _ _ _ h2]
theorem ln_io {n : Nat} {m : M (List PyData)} (h : Ln n m) : ∀ a ds a', m a = some (.ok ds, a') → ds.length + 1 = n + 1 := fun a ds a' e => by rw [h a ds a' e]
/-- x += e, x an int -/
abbrev gAddI : D2 := gI0 fun i j => i + j
section
variable {K : KW}
theorem gIn_addI : OpD K (ipI fun i j => i + j) gAddI := by
  intro O H x y d e s Q th rx ry hg q
  unfold gAddI gI0 at hg
  split at hg
  · cases hg
    rw [rx.int, ry.int]
    exact ⟨_, _, rfl, rfl, out_same q (.int _)⟩
  · cases hg
theorem gIn_subI : OpD K (ipI fun i j => i - j) gSub := by
  intro O H x y d e s Q th rx ry hg q
  unfold gSub gI0 at hg
  split at hg
  · cases hg
    rw [rx.int, ry.int]
    exact ⟨_, _, rfl, rfl, out_same q (.int _)⟩
  · cases hg
end
/-! ### == of texts and of data -/
def gEqA : B2 := fun d e => match d, e with
  | .str x, .str y => some (decide (x = y))
  | d, e => gEq d e
def gNeA : B2 := fun d e => (gEqA d e).map not
section
variable {X : Cx} {K : KW}
def rEqA (K : PySem.W.Frag) : R2 := fun x y H Q => rEq x y H Q ∨ rEqD K x y H Q
def rNeA (K : PySem.W.Frag) : R2 := fun x y H Q => rNe x y H Q ∨ rNeD K x y H Q
theorem op_eqA (hu : X.A.units + 64 < cLine) : OpR X (compareOp .Eq) (rEqA X.K) := OpR.or op_eq (op_eqD hu)
theorem op_neA (hu : X.A.units + 64 < cLine) : OpR X (compareOp .NotEq) (rNeA X.K) := OpR.or op_ne (op_neD hu)
theorem dec_strV (x y : Str) : decide (V.str x = V.str y) = decide (x = y) := decide_eq_decide.mpr ⟨fun e => (V.str.inj e), fun e => by rw [e]⟩
theorem gEqA_ok : OpB K (rEqA K) gEqA := by
  intro O H x y d e s Q th rx ry hg q
  unfold gEqA at hg
  split at hg
  · cases hg
    rw [rx.str, ry.str]
    exact .inl ⟨rfl, by rw [dec_strV]; exact q H (Ex.refl _)⟩
  · exact .inr (gEq_ok O H x y d e s Q th rx ry hg q)
theorem gNeA_ok : OpB K (rNeA K) gNeA := by
  intro O H x y d e s Q th rx ry hg q
  unfold gNeA gEqA at hg
  split at hg
  · cases hg
    rw [rx.str, ry.str]
    exact .inl ⟨rfl, by rw [dec_strV]; exact q H (Ex.refl _)⟩
  · exact .inr (gNe_ok O H x y d e s Q th rx ry hg q)
end
end Am

/-! Am14: defs that let no exception out; global constants. -/
namespace Am
open PySem L2 PySem.Spec
open PyProof.Rows (envOfC)

section
variable {P : Program} {w : World} {K : PySem.W.Frag} {mg : Str → Option Value} {base : Heap} {CX : CXT} {k : Nat} {f : Addr} {fd : FuncData} {x qual : Str} {st : Stmt} {N ps : List Str} {body : M Fl}
theorem okD0 (F : Fun K x qual st f fd) (S : FnScope N ps (defScope st)) (hn : ps.length ≤ N.length)
    (hb : ∀ (cdv : Value) (A : Around) (fr : List Env) (s : Shared) (H : Hp) (E : XK), Room k (A.deeper (dfnEnv qual st f cdv s)) → A.guards = some [] →
      PSsM (cxOf CX P w K mg base N qual (defScope st) f cdv A fr s H E).nox (WXE E) (defBody st) body) : FnG P w K mg base CX (k + 1) f fd ps (spD ⟨K, w, []⟩ (fnD N.length body) ps.length) :=
  okD F S hn fun cdv A fr s H E hr gd => PSs.nox (hb cdv A fr s H E hr gd)
theorem okI0 (F : Fun K x qual st f fd) (S : FnScope N ps (defScope st)) (hn : ps.length ≤ N.length)
    (hb : ∀ (cdv : Value) (A : Around) (fr : List Env) (s : Shared) (H : Hp) (E : XK), Room k (A.deeper (dfnEnv qual st f cdv s)) → A.guards = some [] →
      PSsM (cxOf CX P w K mg base N qual (defScope st) f cdv A fr s H E).nox (WXE E) (defBody st) body) : FnG P w K mg base CX (k + 1) f fd ps (spI ⟨K, w, []⟩ (fnI N.length body) ps.length) :=
  okI F S hn fun cdv A fr s H E hr gd => PSs.nox (hb cdv A fr s H E hr gd)
end
section
variable {X : Cx} {W : WB} {x : Str} {pos : Pos}
theorem pd_gint {n : Int} (hg : Gl X x) (h : ∃ t, X.mg x = some (.int n t)) (hd : (x == ("__debug__" : Str)) = false := by decide) : PD X W (.Name x pos) (M.pure (.int n)) := by
  obtain ⟨t, ht⟩ := h
  exact pd_glob (v := .int n) hg ht ⟨t, rfl⟩ (fun _ => .int n) hd
theorem pd_gstr {n : Str} (hg : Gl X x) (h : ∃ t, X.mg x = some (.str n t)) (hd : (x == ("__debug__" : Str)) = false := by decide) : PD X W (.Name x pos) (M.pure (.str n)) := by
  obtain ⟨t, ht⟩ := h
  exact pd_glob (v := .str n) hg ht ⟨t, rfl⟩ (fun _ => .str n) hd
end
/-- the turns that a while may take here -/
def fuel : Nat := 100000
end Am

/-! Am16: a set of a list of ints, sorted; tuple * int; [::-1]; recursion. -/
namespace Am
open PySem L2 PySem.Spec PyProof.Rows
section
variable {P : Program} {w : World} {A : Around} {E : Value → Shared → Prop} {s : Shared}
abbrev set0O (w : World) : Obj := { cls := .type "set", dict := none, data := .set #[] 0 (.fresh 0 0 (!w.params.followText "set-order")) }
theorem call_setL {l : Addr} {items : Array Value} (ns : List Int) {Q : Value → Shared → Prop} (hh : A.handled = none) (hl : s.heap.IsList l items) (hit : IntsAre items.toList ns) (hb : ns.length + 1 < scanBound)
    (h : ∀ (h' : Heap) (tk c : Nat), SetR w h' s.heap.objs.size (fun j => decide (j ∈ ns)) c → c ≤ ns.length → (∀ b o, s.heap.get? b = some o → h'.get? b = some o) → Q (.ref s.heap.objs.size) { s with heap := h', toks := tk }) :
    wpAny (model P w) A (call (.type "set") [.ref l]) Q E s := by
  have hisz : items.size = ns.length := by
    have q := IntsAre.length hit
    rw [Array.length_toList] at q
    exact q
  obtain ⟨c, tl, hmro⟩ := F.called_set.mro
  have hmade := F.called_set.made
  have hsub := F.called_set.sub
  refine wpAny_call (codeAny_of_tree ?_)
  show wpAny _ _ (callAny (.type "set") _) _ _ _
  refine wpAny_pure ⟨Code.quiet_builtin _ (by decide +kernel), codeAny_builtin F.entry_type_call ?_⟩
  rw [Around.under_plain (weight_type_call_type "set" [.ref l] []) rfl]
  have h1 := F.called_set.notType
  have h2 := F.called_set.canCreate
  have hct := F.typeCall_set_1 (.ref l)
  repeat (any_goals (first | assumption | wp_step))
  refine codeAny_mono (code_set_led1 (.ref l) (E := E) (Q₁ := fun obj s₁ => obj = .ref s.heap.objs.size ∧ s₁ = { s with heap := s.heap.push (set0O w) }) ⟨rfl, rfl⟩) fun r s₁ hr => ?_
  cases r with
  | error e => exact hr
  | ok fl =>
    cases fl with
    | ret obj =>
      obtain ⟨rfl, rfl⟩ := hr
      have hS : (s.heap.push (set0O w)).get? s.heap.objs.size = some (set0O w) := Heap.get?_push_size _ rfl
      have hT : Shared.TypeIs { s with heap := s.heap.push (set0O w) } (.ref s.heap.objs.size) "set" := ⟨_, hS, rfl⟩
      have hli := F.called_set.init.lookup
      have hbi := F.called_set.init.bind (.ref s.heap.objs.size)
      repeat (any_goals (first | assumption | wp_step))
      refine codeAny_mono (codeAny_call_builtin (R := wants (fun r s₂ => r = .none ∧ ∃ h' tk c, s₂ = { s with heap := h', toks := tk } ∧ SetR w h' s.heap.objs.size (fun j => decide (j ∈ ns)) c ∧ c ≤ ns.length ∧
          (∀ b o, s.heap.get? b = some o → h'.get? b = some o)) E) F.called_set.init.plain F.entry_set_init (check_set_init_1 hT ?_)) fun r₂ s₂ hr₂ => ?_
      · obtain ⟨ol, hol, hcl, nl, hdl⟩ := hl
        obtain ⟨ocls, odict, odata, oslots⟩ := ol
        simp only at hcl hdl
        subst hcl; subst hdl
        have hol' : (s.heap.push (set0O w)).get? l = some { cls := .type "list", dict := odict, data := .seq items nl, slots := oslots } := Heap.get?_push_of_some _ hol
        have hsls := F.sub_list_set
        have hslf := F.sub_list_frozenset
        have hne : (Value.type "list" == Value.type "dict") = false := by decide
        have hl1 : (s.heap.push (set0O w)).IsList l items := ⟨_, hol', rfl, nl, rfl⟩
        unfold Builtin.«set.__init__» noKeywords Builtin.Frozenset.updateFrom
        generalize hPI : pyIter = PI
        wp_walk
        subst hPI
        refine wpAny_pyIter_list hl1 ?_
        refine wpAny_bind (wpAny_runValue ?_)
        have hlS : l < s.heap.objs.size := Heap.lt_size hol
        have hh3 : A.in1.in1.in1.handled = none := by simp [hh]
        have hz1 : (s.heap.push (set0O w)).objs.size = s.heap.objs.size + 1 := Heap.size_push ..
        have hneI : l ≠ (s.heap.push (set0O w)).objs.size := by
          rw [hz1]; exact Nat.ne_of_lt (Nat.lt_succ_of_lt hlS)
        have hSf : s.heap.objs.size ∉ [(s.heap.push (set0O w)).objs.size, l] := by
          rw [hz1]; simp only [List.mem_cons, List.mem_singleton, List.not_mem_nil, or_false, not_or]
          exact ⟨Nat.ne_of_lt (Nat.lt_succ_self _), Nat.ne_of_gt hlS⟩
        have hval : ∀ (i : Nat) (v : Value), items[i]? = some v → ∃ k t, ns[i]? = some k ∧ v = .int k t := fun i v hv => by
          have hi : i < ns.length := by rw [← hisz]; exact (Array.getElem?_eq_some_iff.mp hv).1
          obtain ⟨t, e⟩ := PyProof.Rows.IntsAre.int_at hit i v (by rw [Array.getElem?_toList]; exact hv)
          refine ⟨ns[i], t, List.getElem?_eq_getElem hi, ?_⟩
          rw [e, List.getD_eq_getElem?_getD, List.getElem?_eq_getElem hi] <;> rfl
        refine set_update_ints ((Walks.list hh3 _ l hneI items).toS) s.heap.objs.size
          hSf ns hisz hb hval (items.size - 0) 0 _ (by omega) (Nat.zero_le _)
          ⟨⟨_, Heap.get?_push_size _ rfl, rfl, rfl⟩, (hl1.push _)⟩ ?hS0 ?hR
        case hS0 =>
          exact ⟨0, Nat.le_refl 0, setR_new_at (Heap.get?_push_of_some _ hS)⟩
        case hR =>
          intro s' c' hm hc' hS'
          obtain ⟨h', g2, d', tk', os'⟩ := s'
          have eg : g2 = s.gens := hm.gens
          have ed : d' = s.drawn := hm.drawn
          have eo : os' = s.os := hm.os
          subst eg; subst ed; subst eo
          show wpAny _ _ _ _ _ _
          refine wpAny_pure ?_
          show wpAny _ _ (ret Value.none) _ _ _
          rw [hisz] at hc'
          refine wpAny_pure ⟨rfl, h', tk', c', rfl, hS', hc', fun b o e => ?_⟩
          have hb0 : b < s.heap.objs.size := Heap.lt_size e
          have hb1 : b ≠ s.heap.objs.size := Nat.ne_of_lt hb0
          have hb2 : b ≠ (s.heap.push (set0O w)).objs.size := by
            rw [hz1]; exact Nat.ne_of_lt (Nat.lt_succ_of_lt hb0)
          exact hm.heap b o (by simp only [List.mem_cons, List.mem_singleton, List.not_mem_nil, or_false, not_or]; exact ⟨hb1, hb2⟩) (Heap.get?_push_of_some _ (Heap.get?_push_of_some _ e))
      · cases r₂ with
        | error e => exact hr₂
        | ok fl₂ =>
          cases fl₂ with
          | ret r =>
            obtain ⟨rfl, h', tk, c', rfl, hS', hc', hk'⟩ := hr₂
            repeat (any_goals (first | assumption | wp_step))
            exact h _ _ _ hS' hc' hk'
          | _ => exact hr₂.elim
    | _ => exact hr.elim
end
end Am

/-! Am17: sorted(set(list of ints)). -/
namespace Am
open PySem L2 PySem.Spec PyProof.Rows
section
variable {X : Cx}
def rSetL (K : PySem.W.Frag) (w : World) : List V → Hp → VK → Prop := fun vs H Q => ∃ (l : Addr) (ns : List Int), vs = [.ref l] ∧ SqL K H l (ns.map V.int) ∧ ns.length ≤ 60 ∧
  ∀ (p : Addr) (c : Nat), H p = none → c ≤ ns.length → Q (.ref p) (upd H p (SetO w p (fun j => decide (j ∈ ns)) c))
theorem cr_setL (hc : X.calm = true) : CallR X (.type "set") (rSetL X.K X.w) := by
  intro pins s σ H vs us Q I r h
  obtain ⟨l, ns, rfl, hl, hn, q⟩ := h
  rw [Vals.ref1 r]
  obtain ⟨its, rv, pl, _⟩ := I.list hl
  refine call_setL ns (I.ok.hd hc) pl.isList (by simpa using RZ.intsAre_vals rv) (by unfold scanBound; omega) fun h' tk c R hcn hk => ?_
  exact ⟨.ref _, upd H s.heap.objs.size (SetO X.w s.heap.objs.size (fun j => decide (j ∈ ns)) c), I.laid (t' := tk) hk (Nat.le_refl _) (setO_new R), rfl, q _ _ (I.hok.fresh (Nat.le_refl _)) hcn⟩
/-- ascending, each once -/
def insU (n : Int) : List Int → List Int
  | [] => [n]
  | m :: r => if n < m then n :: m :: r else if n = m then m :: r else m :: insU n r
def sortU : List Int → List Int
  | [] => []
  | n :: r => insU n (sortU r)
theorem mem_insU {n k : Int} : ∀ {l : List Int}, k ∈ insU n l ↔ k = n ∨ k ∈ l
  | [] => by simp [insU]
  | m :: r => by
    unfold insU
    split
    · simp
    · split
      · rename_i h
        subst h
        simp
      · simp only [List.mem_cons, mem_insU (l := r)]
        constructor
        · rintro (h | h | h)
          · exact .inr (.inl h)
          · exact .inl h
          · exact .inr (.inr h)
        · rintro (h | h | h)
          · exact .inr (.inl h)
          · exact .inl h
          · exact .inr (.inr h)
theorem mem_sortU {k : Int} : ∀ {l : List Int}, k ∈ sortU l ↔ k ∈ l
  | [] => by simp [sortU]
  | n :: r => by simp [sortU, mem_insU, mem_sortU (l := r)]
theorem insU_up {n : Int} : ∀ {l : List Int}, l.Pairwise (· < ·) → (insU n l).Pairwise (· < ·)
  | [], _ => by simp [insU]
  | m :: r, h => by
    have h' := List.pairwise_cons.mp h
    unfold insU
    split
    · rename_i hn
      refine List.pairwise_cons.mpr ⟨fun k hk => ?_, h⟩
      rcases List.mem_cons.mp hk with rfl | hk
      · exact hn
      · have := h'.1 k hk
        omega
    · split
      · exact h
      · refine List.pairwise_cons.mpr ⟨fun k hk => ?_, insU_up h'.2⟩
        rcases mem_insU.mp hk with rfl | hk
        · omega
        · exact h'.1 k hk
theorem sortU_up : ∀ (l : List Int), (sortU l).Pairwise (· < ·)
  | [] => by simp [sortU]
  | n :: r => insU_up (sortU_up r)
theorem up_unique : ∀ {a b : List Int}, a.Pairwise (· < ·) → b.Pairwise (· < ·) → (∀ k, k ∈ a ↔ k ∈ b) → a = b
  | [], [], _, _, _ => rfl
  | [], y :: b, _, _, h => absurd ((h y).mpr List.mem_cons_self) (by simp)
  | x :: a, [], _, _, h => absurd ((h x).mp List.mem_cons_self) (by simp)
  | x :: a, y :: b, ha, hb, h => by
    have ha' := List.pairwise_cons.mp ha
    have hb' := List.pairwise_cons.mp hb
    have exy : x = y := by
      rcases List.mem_cons.mp ((h x).mp List.mem_cons_self) with e | e
      · exact e
      · rcases List.mem_cons.mp ((h y).mpr List.mem_cons_self) with e2 | e2
        · exact e2.symm
        · have := ha'.1 y e2
          have := hb'.1 x e
          omega
    subst exy
    rw [up_unique ha'.2 hb'.2 fun k => ?_]
    constructor
    · intro hk
      rcases List.mem_cons.mp ((h k).mp (List.mem_cons_of_mem _ hk)) with e | e
      · have := ha'.1 k hk
        omega
      · exact e
    · intro hk
      rcases List.mem_cons.mp ((h k).mpr (List.mem_cons_of_mem _ hk)) with e | e
      · have := hb'.1 k hk
        omega
      · exact e
def gSortSet : List PyData → Option Sl
  | [.list ds] => match intsD ds with
    | some ns => if ns.length ≤ 60 then some (.lst ((sortU ns).map PyData.int)) else none
    | none => none
  | _ => none
def rSortSet (K : PySem.W.Frag) (w : World) : List V → Hp → VK → Prop := fun vs H Q => rSetL K w vs H fun v H1 => rSortedSet w [v] H1 Q
theorem gSortSet_ok {K : KW} : CX_ K (rSortSet K.k K.w) gSortSet := by
  intro O H vs ds s Q th rp h q
  unfold gSortSet at h
  split at h
  · rename_i ds
    split at h
    · rename_i ns hns
      split at h
      · rename_i hl
        cases h
        obtain ⟨v, rfl, r⟩ := rp.one
        obtain ⟨p, xs, rfl, h1, h2⟩ := r.lst
        have e := intsD_some hns
        subst e
        have e2 := h2.ints
        subst e2
        refine ⟨p, ns, rfl, h1, hl, fun a c na hc => ?_⟩
        refine ⟨a, _, c, rfl, if_pos rfl, by omega, fun ns' b up mem hn nb => ?_⟩
        have e3 : ns' = sortU ns := up_unique up (sortU_up ns) fun k => by rw [mem_sortU, mem]; simp
        subst e3
        have ab : H b = none := by
          by_cases e : b = a
          · rw [e]; exact na
          · rw [upd_ne e] at nb; exact nb
        exact q.new (ho := .lst ((sortU ns).map V.int)) ((Ex.new na).trans (Ex.new nb)) ab (if_pos rfl) (RAll.ofInts _)
      · cases h
    · cases h
  · cases h
theorem px_sortedSet {W : WB} {e : Expr} {m : M Hn} {p p2 q pos : Pos} (hc : X.calm = true) (hg : Gl X "sorted") (hm : X.mg "sorted" = none) (hg2 : Gl X "set") (hm2 : X.mg "set" = none) (ha : PH X W e m)
    (he : starEach [e] X.env = (false, eval e X.env) :: starEach [] X.env := by rfl) (he2 : starEach [.Call (.Name "set" p2) [e] [] q] X.env = (false, eval (.Call (.Name "set" p2) [e] [] q) X.env) :: starEach [] X.env := by rfl)
    (hpl : (backTo q (starEach [] X.env)).any (·.1) = false := by rfl) (hpl2 : (backTo pos (starEach [] X.env)).any (·.1) = false := by rfl) :
    PX X W (.Call (.Name "sorted" p) [.Call (.Name "set" p2) [e] [] q] [] pos) (mCall (mHs m (M.pure [])) fun ds => nU (gSortSet ds)) :=
  PE.imp (pe_callB (cr_sortedSet hc) hg hm PyProof.Rows.boot_sorted (pa_cons (pe_callTy (cr_setL hc) hg2 hm2 PyProof.Rows.boot_set (phs_cons ha phs_nil he) (he := he) (hpl := hpl)) pa_nil he2) (he := he2) (hpl := hpl2)) fun σ H Q h =>
    tM_call (r := rSortSet X.K X.w) (fun G O a H vs ds s I rs hs q => gSortSet_ok O H vs ds s Q I.th rs (nU_some hs).1 (q.out (nU_some hs).2)) h
end
end Am

/-! Am18: xs[::-1] of lists and tuples; tuple * int, list * int. -/
namespace Am
open PySem L2 PySem.Spec PyProof.Rows HT
section
variable {prog : Program} {w : World} {A : Around} {E : Value → Shared → Prop} {s : Shared}
theorem fm_congr {α β : Type} {f g : α → Option β} : ∀ {l : List α}, (∀ x ∈ l, f x = g x) → l.filterMap f = l.filterMap g
  | [], _ => rfl
  | x :: l, h => by
    rw [List.filterMap_cons, List.filterMap_cons, h x List.mem_cons_self, fm_congr fun y hy => h y (List.mem_cons_of_mem _ hy)]
theorem pick_rev (xs : Array Value) : ((List.range xs.size).filterMap fun (m : Nat) => xs[(((xs.size : Int) - 1) + (m : Int) * (-1)).toNat]?).toArray = xs.toList.reverse.toArray := by
  have e : (List.range xs.size).filterMap (fun (m : Nat) => xs[(((xs.size : Int) - 1) + (m : Int) * (-1)).toNat]?) = (((List.range xs.size).map fun k => xs.size - 1 - k).filterMap (xs[·]?)) := by
    rw [List.filterMap_map]
    refine fm_congr ?_
    intro k hk
    have := List.mem_range.mp hk
    show xs[(((xs.size : Int) - 1) + (k : Int) * (-1)).toNat]? = xs[xs.size - 1 - k]?
    rw [show (((xs.size : Int) - 1) + (k : Int) * (-1)).toNat = xs.size - 1 - k from by omega]
  rw [e, PySem.W.krv_range, List.filterMap_reverse, PySem.W.krv_all]
theorem sliceApplied_rev {sl : Addr} {t : Tok} {n : Nat} {Q : Int × Int × Nat → Shared → Prop} (hs : s.heap.IsSliceOf sl .none .none (.int (-1) t))
    (h : Q ((n : Int) - 1, -1, n) s) : wpAny (model prog w) A (Builtin.Slice.sliceApplied (.ref sl) (pure (n : Int))) Q E s := by
  obtain ⟨os, hos, hcs, hds⟩ := id hs
  unfold Builtin.Slice.sliceApplied Builtin.Slice.sliceFields
  refine wpAny_bind (wpAny_bind (wpAny_field hos hds (x := .none) rfl (wpAny_bind (wpAny_field hos hds (x := .none) rfl (wpAny_bind (wpAny_field hos hds (x := .int (-1) t) rfl (wpAny_pure ?_)))))))
  refine wpAny_bind (slicePart_int ?_)
  show wpAny _ _ (if ((-1 : Int) == 0) = true then _ else _) _ _ s
  rw [if_neg (by decide)]
  refine wpAny_bind (slicePart_none (wpAny_bind (slicePart_none (wpAny_bind (wpAny_pure ?_)))))
  have e1 : Builtin.Slice.sliceAdjust none none (-1) (n : Int) = ((n : Int) - 1, -1) := by
    unfold Builtin.Slice.sliceAdjust
    simp
  have e2 : Builtin.Slice.slicePlaces ((n : Int) - 1) (-1) (-1) = n := by
    unfold Builtin.Slice.slicePlaces
    simp
    split <;> omega
  show wpAny _ _ (match Builtin.Slice.sliceAdjust none none (-1) (n : Int) with | (lo, hi) => pure (lo, (-1 : Int), Builtin.Slice.slicePlaces lo hi (-1))) _ _ s
  rw [e1]
  show wpAny _ _ (pure ((n : Int) - 1, (-1 : Int), Builtin.Slice.slicePlaces ((n : Int) - 1) (-1) (-1))) _ _ s
  rw [e2]
  exact wpAny_pure h
theorem getItem_tuple_rev {t sl : Addr} {items : Array Value} {tk : Tok} {Q : Value → Shared → Prop} (ht : IsTup s.heap t items) (hs : s.heap.IsSliceOf sl .none .none (.int (-1) tk))
    (h : Q (.ref s.heap.objs.size) { s with heap := s.heap.push { cls := .type "tuple", data := .seq items.toList.reverse.toArray } }) (hsz : items.size ≤ sizeLine) : wpAny (model prog w) A (getItem (.ref t) (.ref sl)) Q E s := by
  have hz : sizeOk (.seq items.toList.reverse.toArray) := by
    show items.toList.reverse.toArray.size ≤ sizeLine
    rw [List.size_toArray, List.length_reverse, Array.length_toList]
    exact hsz
  obtain ⟨os, hos, hcs, hds⟩ := id hs
  have hTs : s.TypeIs (.ref sl) "slice" := ⟨os, hos, hcs⟩
  unfold getItem
  try with_reducible refine wpAny_holding ?_
  first | refine wpAny_bind (wpAny_pure ?_) | skip
  refine wpAny_bind (wpAny_sequenceKey ht.typeIs (by decide) ?_)
  refine wpAny_bind (wpAny_callSpecial?_slot (name := Str.ofString "__getitem__") ht.typeIs PyProof.Rows.slot_tuple_getitem
    (wpAny_call_entry PyProof.Rows.slot_tuple_getitem ht.typeIs entry_tuple_getitem ?_ (args_tuple_getitem _ _)))
  show wpAny _ _ (Builtin.Tuple.tupleItemsOf (.ref t) >>= _) _ _ s
  refine wpAny_bind (tupleItemsOf_ ht ?_)
  refine wpAny_bind (wpAny_typeOf hTs ?_)
  rw [if_pos (by decide)]
  refine wpAny_bind (sliceApplied_rev hs ?_)
  have hno : ¬ ((((items.size : Int) - 1 == 0) && ((-1 : Int) == 1) && (items.size == items.size)) = true) := by
    intro q
    rw [Bool.and_eq_true, Bool.and_eq_true] at q
    exact absurd q.1.2 (by decide)
  show wpAny _ _ (if (((items.size : Int) - 1 == 0) && ((-1 : Int) == 1) && (items.size == items.size)) = true then _ else _) _ _ s
  rw [if_neg hno, pick_rev]
  first
    | exact wpAny_bind (m := Builtin.Tuple.tupleExact _) (wpAny_newObj_type (wpAny_pure ⟨_, rfl, wpAny_pure h⟩) hz)
    | exact wpAny_bind (m := Builtin.Tuple.tupleExact _) (wpAny_newObj_type (wpAny_bind (wpAny_pure (wpAny_pure ⟨_, rfl, wpAny_pure h⟩))) hz)
    | exact wpAny_bind (wpAny_bind (m := Builtin.Tuple.tupleExact _) (wpAny_newObj_type (wpAny_pure (wpAny_pure ⟨_, rfl, wpAny_pure h⟩)) hz))
    | exact wpAny_bind (wpAny_bind (m := Builtin.Tuple.tupleExact _) (wpAny_newObj_type (wpAny_pure ⟨_, rfl, wpAny_pure h⟩) hz))
end
section
variable {X : Cx} {W : WB}
def revD : PyData → Option Sl
  | .list ds => if ds.length ≤ lineN then some (.lst ds.reverse) else none
  | .tuple ds => if ds.length ≤ lineN then some (.dat (.tuple ds.reverse)) else none
  | _ => none
def mRev (m : M Hn) : M Sl := M.bind m fun h => M.bind M.get fun a => M.bind (M.of (h a)) fun d => M.of (revD d)
theorem pe_revA {e : Expr} {te : TE} {k : Nat} {p1 p2 p3 pos : Pos} (he : PE X e te) : PE X (.Subscript e (.Slice none none (some (.UnaryOp .USub (.Constant (.int 1) k p1) p2)) p3) pos)
    (fun σ H Q => te σ H fun x H1 => ∃ a xs, x = .ref a ∧ ((SqL X.K H1 a xs ∧ ∀ p, H1 p = none → Q (.ref p) (upd H1 p (.lst xs.reverse))) ∨ (SqT X.K H1 a xs ∧ ∀ p, H1 p = none → Q (.ref p) (upd H1 p (.tup xs.reverse))))) := by
  refine ⟨fun pins s σ H Q I h => ?_⟩
  refine Subscript_ (thn (he.run pins s σ H _ I h) fun v s1 ⟨x, H1, I1, r1, q1⟩ => ?_)
  obtain ⟨a, xs, ex, hx⟩ := q1
  subst ex
  cases r1
  have hst : PO X (some (.UnaryOp .USub (.Constant (.int 1) k p1) p2)) (tPart (tUn (rU fun i => .int (-i)) (tC (.int 1)))) := po_some (pe_un un_neg pe_int)
  refine wpAny_Slice (thn (po_none.run pins s1 σ H1 (fun o H2 => o = none ∧ H2 = H1) I1 ⟨rfl, rfl⟩) fun vl s2 ⟨l, H2, I2, pl, el, e2⟩ => ?_)
  subst el e2
  refine thn (po_none.run pins s2 σ H2 (fun o H3 => o = none ∧ H3 = H2) I2 ⟨rfl, rfl⟩) fun vu s3 ⟨u, H3, I3, pu, eu, e3⟩ => ?_
  subst eu e3
  refine thn (hst.run pins s3 σ H3 (fun o H4 => o = some (-1) ∧ H4 = H3) I3 ⟨1, rfl, -1, rfl, rfl, rfl⟩) fun vs s4 ⟨o, H4, I4, ps, eo, e4⟩ => ?_
  subst eo e4
  have I5 : Inv X pins σ H4 { s4 with heap := s4.heap.push { cls := .type "slice", data := .fields #[vl, vu, vs] } } := I4.kept (t' := s4.toks) fun b ob q => Heap.get?_push_of_some _ q
  show wpAny (model X.prog X.w) X.A (subscriptTail e (.Slice none none (some (.UnaryOp .USub (.Constant (.int 1) k p1) p2)) p3) (.ref a) (.ref s4.heap.objs.size)) (EP X pins σ Q) X.xe { s4 with heap := s4.heap.push { cls := .type "slice", data := .fields #[vl, vu, vs] } }
  rcases hx with ⟨hx, q⟩ | ⟨hx, q⟩
  · obtain ⟨its, r, ht, hz⟩ := I5.list hx
    have hlen := r.length
    refine tail_any (ops := [.ref a, .ref s4.heap.objs.size]) ht.isList.typeIs (PySem.slot_list_getitem.lookup) ?_ (by with_unfolding_all rfl)
    refine wpAny_getItem_list_slice ht.isList (Heap.IsSliceOf.new _ vl vu vs) pl pu ps (by decide) ?_ (by rw [List.size_toArray]; omega)
    rw [PySem.W.krv_pick]
    refine ⟨.ref _, _, I5.laid (t' := s4.toks) (o := .lst xs.reverse) (fun b ob q => Heap.get?_push_of_some _ q) (Nat.le_refl _) ?_, rfl, q _ (I5.hok.fresh (Nat.le_refl _))⟩
    exact ⟨by rw [List.length_reverse]; exact hz, _, 0, r.reverse, Heap.get?_push_size _ rfl⟩
  · obtain ⟨its, r, ht, hz⟩ := I5.tuple hx
    have hlen := r.length
    cases pl
    cases pu
    cases ps
    rename_i tk
    refine tail_any (ops := [.ref a, .ref s4.heap.objs.size]) ht.typeIs (PyProof.Rows.slot_tuple_getitem.lookup) ?_ (by with_unfolding_all rfl)
    refine getItem_tuple_rev ht (Heap.IsSliceOf.new _ _ _ _) ?_ (by rw [List.size_toArray]; omega)
    refine ⟨.ref _, _, I5.laid (t' := s4.toks) (o := .tup xs.reverse) (fun b ob q => Heap.get?_push_of_some _ q) (Nat.le_refl _) ?_, rfl, q _ (I5.hok.fresh (Nat.le_refl _))⟩
    exact ⟨by rw [List.length_reverse]; exact hz, _, r.reverse, IsTup.new _ _⟩
theorem px_rev {e : Expr} {m : M Hn} {k : Nat} {p1 p2 p3 pos : Pos} (he : PH X W e m) : PX X W (.Subscript e (.Slice none none (some (.UnaryOp .USub (.Constant (.int 1) k p1) p2)) p3) pos) (mRev m) :=
  PE.imp (pe_revA he) fun σ H Q ⟨G, O, a, q⟩ => ⟨G, O, a, q.bind (RR := RH X.kw) fun O1 H1 a1 v h I1 e1 r1 q1 => by
    obtain ⟨d, hd, q2⟩ := (At.getB q1).ofB
    have rp := r1 O1 H1 a1 d I1 (Ext.refl _ _) hd
    obtain ⟨s, hs, q3⟩ := q2.of
    unfold revD at hs
    split at hs
    · split at hs
      · rename_i ds hl
        cases hs
        obtain ⟨p, xs, rfl, h1, h2⟩ := rp.lst
        exact ⟨p, xs, rfl, .inl ⟨h1, fun b nb => out_lst (q3.out (by simp)) nb h2.reverse⟩⟩
      · cases hs
    · split at hs
      · rename_i ds hl
        cases hs
        obtain ⟨p, xs, rfl, h1, h2⟩ := rp.tup
        refine ⟨p, xs, rfl, .inr ⟨h1, fun b nb => ?_⟩⟩
        have := q3.out (by simp)
        exact out_tup this I1.th nb h2.reverse
      · cases hs
    · cases hs⟩
/-- int * int, tuple * int -/
def gMulA : D2
  | .tuple ds, .int k => if ds ≠ [] ∧ 2 ≤ k ∧ k ≤ 1000 ∧ ds.length ≤ 1000 then some (.tuple (List.replicate k.toNat ds).flatten) else none
  | d, e => gMul d e
theorem RAll.repN {K : PySem.W.Frag} {H : Vw} {vs : List V} {ds : List PyData} (r : RAll K H vs ds) : ∀ n : Nat, RAll K H (List.replicate n vs).flatten (List.replicate n ds).flatten
  | 0 => .nil
  | n + 1 => by
    rw [List.replicate_succ, List.replicate_succ, List.flatten_cons, List.flatten_cons]
    exact r.append (r.repN n)
theorem gMulA_ok {K : KW} : OpD K (fun x y H Q => rI CMulW (fun i j => .int (i * j)) x y H Q ∨ rRepT K.k x y H Q) gMulA := by
  intro O H x y d e s Q th rx ry hg q
  unfold gMulA at hg
  split at hg
  · split at hg
    · rename_i ds k hc
      cases hg
      obtain ⟨p, xs, rfl, h1, h2⟩ := rx.tup
      cases ry.int
      refine .inr ⟨p, k, xs, rfl, rfl, h1, fun e => hc.1 ?_, hc.2.1, hc.2.2.1, by rw [h2.length]; exact hc.2.2.2, fun b nb => out_tup q th nb (h2.repN _)⟩
      have := h2.length
      rw [e] at this
      exact List.length_eq_zero_iff.mp this.symm
    · cases hg
  · exact .inl (gMul_ok O H x y d e s Q th rx ry hg q)
theorem op_mulA : OpR X (binaryOp .Mult) (fun x y H Q => rI CMulW (fun i j => .int (i * j)) x y H Q ∨ rRepT X.kw.k x y H Q) := OpR.or op_mulW op_repT
end
/-! ### a def that calls itself: by the number of calls one within the other -/
section
variable {P : Program} {w : World} {K : PySem.W.Frag} {mg : Str → Option Value} {base : Heap} {CX : CXT} {k : Nat} {f : Addr} {fd : FuncData} {ps : List Str}
theorem fnG_noI {n m : Nat} : FnG P w K mg base CX k f fd ps (spI ⟨K, w, []⟩ (fnI n M.fail) m) := by
  have no : ∀ {vs H Q E}, spI ⟨K, w, []⟩ (fnI n M.fail) m vs H Q E → False := fun {vs H Q E} h => by
    obtain ⟨_, O, p, ws, ds, s0, ho, r, _, _, _, _, _, _, _, _, hF, _⟩ := h
    cases hF
  exact ⟨fun vs H Q E h => (no h).elim, fun A fr s0 H ar us vs Q E _ _ _ _ _ h => (no h).elim⟩
theorem fnG_noD {n m : Nat} : FnG P w K mg base CX k f fd ps (spD ⟨K, w, []⟩ (fnD n M.fail) m) := by
  have no : ∀ {vs H Q E}, spD ⟨K, w, []⟩ (fnD n M.fail) m vs H Q E → False := fun {vs H Q E} h => by
    obtain ⟨_, O, ds, r, _, _, hF, _⟩ := h
    cases hF
  exact ⟨fun vs H Q E h => (no h).elim, fun A fr s0 H ar us vs Q E _ _ _ _ _ h => (no h).elim⟩
end
end Am

/-! Am15: running mirrors, in plain Lean. -/
namespace Am
open PySem L2

abbrev Rs (α : Type) := Option (Except Exc α × AEnv)
def nxt {α β : Type} (o : Rs α) (f : α → M β) : Rs β := match o with
  | none => none
  | some (.error e, a) => some (.error e, a)
  | some (.ok r, a) => f r a
def ofO {γ : Type} (a : AEnv) (o : Option γ) : Rs γ := o.map fun r => (.ok r, a)
section
variable {α β γ : Type} {a : AEnv}
@[simp] theorem nxt_ok (r : α) (f : α → M β) : nxt (some (.ok r, a)) f = f r a := Eq.trans rfl rfl
@[simp] theorem nxt_none (f : α → M β) : nxt none f = none := rfl
@[simp] theorem nxt_err (e : Exc) (f : α → M β) : nxt (some (.error e, a)) f = some (.error e, a) := rfl
@[simp] theorem ofO_some (r : γ) : ofO a (some r) = some (.ok r, a) := rfl
@[simp] theorem ofO_none : ofO a (none : Option γ) = none := rfl
@[simp] theorem bind_app (m : M α) (f : α → M β) : M.bind m f a = nxt (m a) f := by
  unfold M.bind nxt
  cases m a with
  | none => rfl
  | some x =>
    obtain ⟨x1, a1⟩ := x
    cases x1 <;> rfl
@[simp] theorem pure_app (r : α) : M.pure r a = some (.ok r, a) := rfl
@[simp] theorem fail_app : (M.fail : M α) a = none := rfl
@[simp] theorem of_app (o : Option α) : M.of o a = ofO a o := by cases o <;> rfl
@[simp] theorem get_app : M.get a = some (.ok a, a) := rfl
@[simp] theorem map_app (f : α → β) (m : M α) : M.map f m a = nxt (m a) fun x => M.pure (f x) := by rw [M.map, bind_app]
@[simp] theorem mFrz_app (m : M Sl) : mFrz m a = nxt (m a) fun s => M.of (frz s) := by rw [mFrz, bind_app]
@[simp] theorem mX_app (m : M PyData) : mX m a = nxt (m a) fun d => M.pure (.dat d) := by rw [mX, map_app]
@[simp] theorem mH_app (m : M PyData) : mH m a = nxt (m a) fun d => M.pure fun _ => some d := by rw [mH, map_app]
@[simp] theorem frz_dat (d : PyData) : frz (.dat d) = some d := rfl
@[simp] theorem frz_lst (d : List PyData) : frz (.lst d) = some (.list d) := rfl
@[simp] theorem frz_dk0 : frz (.dk []) = some (.dict []) := rfl
@[simp] theorem cont_dat (d : PyData) : cont (.dat d) = some d := rfl
@[simp] theorem cont_lst (d : List PyData) : cont (.lst d) = some (.list d) := rfl
@[simp] theorem hV_app (i : Nat) : hV i a = (a[i]?).bind cont := rfl
@[simp] theorem mV_app (i : Nat) : mV i a = ((a[i]?).bind cont).map fun _ => (.ok (hV i), a) := by
  unfold mV
  cases (a[i]?).bind cont <;> rfl
def vdO (i : Nat) (a : AEnv) : Option Sl → Rs PyData
  | some (.dat d) => some (.ok d, a)
  | some (.lst ds) => some (.ok (.list ds), a.set i (.dat (.list ds)))
  | _ => none
@[simp] theorem mVD_app (i : Nat) : mVD i a = vdO i a a[i]? := by
  unfold mVD vdO
  rfl
@[simp] theorem vdO_dat (i : Nat) (d : PyData) : vdO i a (some (.dat d)) = some (.ok d, a) := rfl
@[simp] theorem vdO_lst (i : Nat) (ds : List PyData) : vdO i a (some (.lst ds)) = some (.ok (.list ds), a.set i (.dat (.list ds))) := rfl
def vxO (i : Nat) (a : AEnv) : Option Sl → Rs Sl
  | some .un => none
  | some (.bxs _) => none
  | some (.dat d) => some (.ok (.dat d), a)
  | some (.exc e) => some (.ok (.exc e), a)
  | some s => some (.ok s, a.set i .un)
  | none => none
@[simp] theorem mVX_app (i : Nat) : mVX i a = vxO i a a[i]? := by
  unfold mVX vxO
  rfl
@[simp] theorem vxO_dat (i : Nat) (d : PyData) : vxO i a (some (.dat d)) = some (.ok (.dat d), a) := rfl
@[simp] theorem vxO_lst (i : Nat) (ds : List PyData) : vxO i a (some (.lst ds)) = some (.ok (.lst ds), a.set i .un) := rfl
@[simp] theorem mB_app (ma mb : M Hn) (g : PyData → PyData → Option γ) : mB ma mb g a = nxt (ma a) fun h1 a1 => nxt (mb a1) fun h2 a2 => ofO a2 ((h1 a2).bind fun d1 => (h2 a2).bind fun d2 => g d1 d2) := by
  rw [mB, bind_app]
  congr 1
  funext h1 a1
  rw [bind_app]
  congr 1
  funext h2 a2
  rw [bind_app, get_app, nxt_ok, bind_app, of_app]
  cases h1 a2 with
  | none => rfl
  | some d1 =>
    rw [ofO_some, nxt_ok, bind_app, of_app]
    cases h2 a2 <;> simp
@[simp] theorem mOp_app (ma mb : M Hn) (g : G2) : mOp g ma mb a = nxt (ma a) fun h1 a1 => nxt (mb a1) fun h2 a2 => ofO a2 ((h1 a2).bind fun d1 => (h2 a2).bind fun d2 => nU (g d1 d2)) := by rw [mOp, mB_app]
@[simp] theorem mU_app (ma : M Hn) (g : PyData → Option γ) : mU ma g a = nxt (ma a) fun h1 a1 => ofO a1 ((h1 a1).bind g) := by
  rw [mU, bind_app]
  congr 1
  funext h1 a1
  rw [bind_app, get_app, nxt_ok, bind_app, of_app]
  cases h1 a1 <;> simp
@[simp] theorem nU_dat (d : PyData) : nU (some (.dat d)) = some (.dat d) := rfl
@[simp] theorem nU_lst (d : List PyData) : nU (some (.lst d)) = some (.lst d) := rfl
@[simp] theorem nU_none : nU none = none := rfl
@[simp] theorem mTru_app (m : M PyData) : mTru m a = nxt (m a) fun d => M.of (gTru d) := by rw [mTru, bind_app]
@[simp] theorem gTru_b (b : Bool) : gTru (.bool b) = some b := rfl
@[simp] theorem mAnd_app (k l : M Bool) : mAnd k l a = nxt (k a) fun b => if b = true then l else M.pure false := by rw [mAnd, bind_app]
@[simp] theorem mOr_app (k l : M Bool) : mOr k l a = nxt (k a) fun b => if b = true then M.pure true else l := by rw [mOr, bind_app]
@[simp] theorem mNot_app (k : M Bool) : mNot k a = nxt (k a) fun b => M.pure (!b) := by rw [mNot, map_app]
@[simp] theorem mAndV_app (k l : M PyData) : mAndV k l a = nxt (k a) fun d => M.bind (M.of (gTru d)) fun b => if b = true then l else M.pure (.bool false) := by rw [mAndV, bind_app]
@[simp] theorem mOrV_app (k l : M PyData) : mOrV k l a = nxt (k a) fun d => M.bind (M.of (gTru d)) fun b => if b = true then M.pure (.bool true) else l := by rw [mOrV, bind_app]
@[simp] theorem mNotV_app (k : M PyData) : mNotV k a = nxt (k a) fun d => M.bind (M.of (gTru d)) fun b => M.pure (.bool (!b)) := by rw [mNotV, bind_app]
@[simp] theorem mIf_app (k : M Bool) (x y : M γ) : mIf k x y a = nxt (k a) fun b => if b = true then x else y := by rw [mIf, bind_app]
@[simp] theorem mChain_app (g g' : B2) (x y z : M Hn) : mChain g g' x y z a = nxt (x a) fun h1 a1 => nxt (y a1) fun h2 a2 => nxt (ofO a2 ((h1 a2).bind fun d1 => (h2 a2).bind fun d2 => g d1 d2)) fun k => if k = true then (fun a3 => nxt (z a3) fun h3 a4 => ofO a4 ((h2 a4).bind fun d2 => (h3 a4).bind fun d3 => g' d2 d3)) else M.pure false := by
  rw [mChain, bind_app]
  congr 1
  funext h1 a1
  rw [bind_app]
  congr 1
  funext h2 a2
  rw [bind_app, get_app, nxt_ok, bind_app, of_app]
  cases h1 a2 with
  | none => rfl
  | some d1 =>
    rw [ofO_some, nxt_ok, bind_app, of_app]
    cases h2 a2 with
    | none => rfl
    | some d2 =>
      rw [ofO_some, nxt_ok, bind_app, of_app]
      show nxt (ofO a2 (g d1 d2)) _ = nxt (ofO a2 (g d1 d2)) _
      congr 1
      funext k
      cases k with
      | false => rfl
      | true =>
        funext a3
        simp only [if_true, bind_app]
        congr 1
        funext h3 a4
        rw [bind_app, get_app, nxt_ok, bind_app, of_app]
        cases h2 a4 with
        | none => rfl
        | some d2' =>
          rw [ofO_some, nxt_ok, bind_app, of_app]
          cases h3 a4 <;> simp
def seqO (o : Rs Fl) (r : M Fl) : Rs Fl := match o with
  | some (.ok .nx, a) => r a
  | o => o
@[simp] theorem mSeq_app (m r : M Fl) : mSeq m r a = seqO (m a) r := by
  unfold mSeq M.bind seqO
  cases m a with
  | none => rfl
  | some x =>
    obtain ⟨x1, a1⟩ := x
    cases x1 with
    | error e => rfl
    | ok f => cases f <;> rfl
@[simp] theorem seqO_nx (r : M Fl) : seqO (some (.ok .nx, a)) r = r a := Eq.trans rfl rfl
@[simp] theorem seqO_ret (s : Sl) (r : M Fl) : seqO (some (.ok (.ret s), a)) r = some (.ok (.ret s), a) := rfl
@[simp] theorem seqO_brk (r : M Fl) : seqO (some (.ok .brk, a)) r = some (.ok .brk, a) := rfl
@[simp] theorem seqO_ct (r : M Fl) : seqO (some (.ok .ct, a)) r = some (.ok .ct, a) := rfl
@[simp] theorem seqO_none (r : M Fl) : seqO none r = none := rfl
@[simp] theorem seqO_err (e : Exc) (r : M Fl) : seqO (some (.error e, a)) r = some (.error e, a) := rfl
@[simp] theorem mDrop_app (m : M γ) : mDrop m a = nxt (m a) fun _ => M.pure .nx := by rw [mDrop, bind_app]
@[simp] theorem mRet_app (m : M Sl) : mRet m a = nxt (m a) fun s => M.pure (.ret s) := by rw [mRet, bind_app]
@[simp] theorem mIfS_app (c : M Bool) (m r : M Fl) : mIfS c m r a = nxt (c a) fun b => if b = true then m else r := by rw [mIfS, bind_app]
@[simp] theorem mPut_app (f : AEnv → Option AEnv) : mPut f a = (f a).map fun a' => (.ok .nx, a') := rfl
@[simp] theorem putS_app (i : Nat) (s : Sl) : putS i s a = if s.owned = true ∧ i = 0 then none else if i < a.length then some (a.set i s) else none := rfl
@[simp] theorem owned_dat (d : PyData) : (Sl.dat d).owned = false := rfl
@[simp] theorem owned_lst (d : List PyData) : (Sl.lst d).owned = true := rfl
@[simp] theorem owned_un : Sl.un.owned = false := rfl
@[simp] theorem owned_st (d : List Int) : (Sl.st d).owned = true := rfl
@[simp] theorem owned_dk (d : List (Key × PyData)) : (Sl.dk d).owned = true := rfl
@[simp] theorem mAsg_app (i : Nat) (m : M Sl) : mAsg i m a = nxt (m a) fun s => mPut (putS i s) := by rw [mAsg, bind_app]
@[simp] theorem mAsgT_app (t : Tgt) (m : M PyData) : mAsgT t m a = nxt (m a) fun d => mPut (t.put d) := by rw [mAsgT, bind_app]
@[simp] theorem put_nm (i : Nat) (d : PyData) : (Tgt.nm i).put d a = putS i (.dat d) a := by rw [Tgt.put]
@[simp] theorem put_tp (ts : List Tgt) (ds : List PyData) : (Tgt.tp ts).put (.tuple ds) a = Tgt.puts ts ds a := by rw [Tgt.put]
@[simp] theorem puts_nil : Tgt.puts [] [] a = some a := by rw [Tgt.puts]
@[simp] theorem puts_cons (t : Tgt) (ts : List Tgt) (d : PyData) (ds : List PyData) : Tgt.puts (t :: ts) (d :: ds) a = (t.put d a).bind (Tgt.puts ts ds) := by
  rw [Tgt.puts]
  cases t.put d a <;> rfl
def augO (i : Nat) (m : M PyData) (g : D2) (a : AEnv) : Option Sl → Rs Fl
  | some (.dat d) => nxt (m a) fun e a1 => nxt (ofO a1 (g d e)) fun z => mPut (putS i (.dat z))
  | _ => none
@[simp] theorem mAug_app (i : Nat) (m : M PyData) (g : D2) : mAug i m g a = augO i m g a a[i]? := by
  unfold mAug augO
  cases a[i]? with
  | none => rfl
  | some s =>
    cases s with
    | dat d =>
      dsimp only
      rw [bind_app]
      congr 1
      funext e a1
      rw [bind_app, of_app]
    | _ => rfl
@[simp] theorem augO_dat (i : Nat) (m : M PyData) (g : D2) (d : PyData) : augO i m g a (some (.dat d)) = nxt (m a) fun e a1 => nxt (ofO a1 (g d e)) fun z => mPut (putS i (.dat z)) := rfl
@[simp] theorem mDs_app (m : M PyData) (r : M (List PyData)) : mDs m r a = nxt (m a) fun d => M.bind r fun ds => M.pure (d :: ds) := by rw [mDs, bind_app]
@[simp] theorem mHs_app (m : M Hn) (r : M (List Hn)) : mHs m r a = nxt (m a) fun d => M.bind r fun ds => M.pure (d :: ds) := by rw [mHs, bind_app]
@[simp] theorem mSs_app (m : M Sl) (r : M (List Sl)) : mSs m r a = nxt (m a) fun d => M.bind r fun ds => M.pure (d :: ds) := by rw [mSs, bind_app]
@[simp] theorem mTup_app (m : M (List PyData)) : mTup m a = nxt (m a) fun ds => M.of (if ds.length ≤ lineN then some (.tuple ds) else none) := by rw [mTup, bind_app]
@[simp] theorem mLst_app (m : M (List PyData)) : mLst m a = nxt (m a) fun ds => M.of (if ds.length ≤ lineN then some (.lst ds) else none) := by rw [mLst, bind_app]
def parS (i j : Nat) : List Sl → M Fl
  | [s, t] => mPut (put2 i j s t)
  | _ => M.fail
@[simp] theorem parS_two (i j : Nat) (s t : Sl) : parS i j [s, t] = mPut (put2 i j s t) := rfl
@[simp] theorem mPar_app (i j : Nat) (m : M (List Sl)) : mPar i j m a = nxt (m a) (parS i j) := by
  rw [mPar, bind_app]
  rfl
@[simp] theorem mCall_app (m : M (List Hn)) (g : List PyData → Option γ) : mCall m g a = nxt (m a) fun hs a1 => ofO a1 ((rdAll a1 hs).bind g) := by
  rw [mCall, bind_app]
  congr 1
  funext hs a1
  rw [bind_app, get_app, nxt_ok, bind_app, of_app]
  cases rdAll a1 hs <;> simp
@[simp] theorem rdAll_nil : rdAll a [] = some [] := rfl
@[simp] theorem rdAll_cons (h : Hn) (hs : List Hn) : rdAll a (h :: hs) = (h a).bind fun d => (rdAll a hs).map fun ds => d :: ds := by
  rw [rdAll]
  cases h a with
  | none => rfl
  | some d =>
    cases rdAll a hs <;> rfl
@[simp] theorem mIter_app (m : M PyData) : mIter m a = nxt (m a) fun d => M.of (seqItems d) := by rw [mIter, bind_app]
@[simp] theorem mRng_app (m : M (List PyData)) (g : List PyData → Option (List PyData)) : mRng m g a = nxt (m a) fun d => M.of (g d) := by rw [mRng, bind_app]
@[simp] theorem mEnum_app (m : M PyData) : mEnum m a = nxt (m a) fun d => M.bind (M.of (seqItems d)) fun ds => M.pure (enumD 0 ds) := by rw [mEnum, bind_app]
@[simp] theorem seqItems_l (ds : List PyData) : seqItems (.list ds) = some ds := rfl
@[simp] theorem seqItems_t (ds : List PyData) : seqItems (.tuple ds) = some ds := rfl
@[simp] theorem mFor_app (mi : M (List PyData)) (t : Tgt) (b : M Fl) : mFor mi t b a = nxt (mi a) fun items => forL t b items := by rw [mFor, bind_app]
@[simp] theorem mSl_app (m : M Hn) (l h : M (Option Int)) : mSl m l h a = nxt (m a) fun h1 => M.bind l fun lo => M.bind h fun hi => M.bind M.get fun a => M.bind (M.of (h1 a)) fun d1 => M.of (nU (gSl d1 lo hi)) := by rw [mSl, bind_app]
@[simp] theorem mMxD_app (f : List Int → Option Int) (m : M (List PyData)) (md : M PyData) : mMxD f m md a = nxt (m a) fun ds => M.bind md fun z => M.of (gMxD f ds z) := by rw [mMxD, bind_app]
def upO {γ : Type} (i : Nat) (g : Sl → Option (γ × Sl)) (a : AEnv) : Option Sl → Rs γ
  | some s => if s.owned then (g s).map fun r => (.ok r.1, a.set i r.2) else none
  | none => none
@[simp] theorem mUp_app (i : Nat) (g : Sl → Option (γ × Sl)) : mUp i g a = upO i g a a[i]? := by
  unfold mUp upO
  cases a[i]? <;> rfl
@[simp] theorem upO_lst (i : Nat) (g : Sl → Option (γ × Sl)) (ds : List PyData) : upO i g a (some (.lst ds)) = (g (.lst ds)).map fun r => (.ok r.1, a.set i r.2) := rfl
@[simp] theorem upO_st (i : Nat) (g : Sl → Option (γ × Sl)) (ds : List Int) : upO i g a (some (.st ds)) = (g (.st ds)).map fun r => (.ok r.1, a.set i r.2) := rfl
def chkO (chk : Sl → Bool) (a : AEnv) : Option Sl → Rs Unit
  | some s => if s.owned && chk s then some (.ok (), a) else none
  | none => none
@[simp] theorem mChk_app (i : Nat) (chk : Sl → Bool) : mChk i chk a = chkO chk a a[i]? := by
  unfold mChk chkO
  cases a[i]? <;> rfl
@[simp] theorem chkO_some (chk : Sl → Bool) (s : Sl) : chkO chk a (some s) = if s.owned && chk s then some (.ok (), a) else none := rfl
@[simp] theorem isL_lst (ds : List PyData) : isL (.lst ds) = true := rfl
@[simp] theorem mMt_app (i : Nat) (chk : Sl → Bool) (m : M (List PyData)) (g : List PyData → Sl → Option (PyData × Sl)) : mMt i chk m g a = nxt (mChk i chk a) fun _ => M.bind m fun ds => mUp i (g ds) := by rw [mMt, bind_app]
@[simp] theorem mSetI_app (j : Nat) (me mi : M PyData) : mSetI j me mi a = nxt (me a) fun d => M.bind (mChk j isL) fun _ => M.bind mi fun i => M.bind (mUp j (gSetI d i)) fun _ => M.pure .nx := by rw [mSetI, bind_app]
@[simp] theorem gApp_l (d : PyData) (ds : List PyData) : gApp [d] (.lst ds) = if ds.length < lineN then some (.none, .lst (ds ++ [d])) else none := rfl
def fnO (a : AEnv) : Option (Except Exc Sl) → Rs Sl
  | some (.ok .un) => none
  | some (.ok s) => some (.ok s, a)
  | some (.error e) => some (.error e, a)
  | none => none
@[simp] theorem mFn_app (m : M (List PyData)) (F : FnD) : mFn m F a = nxt (m a) fun ds a1 => fnO a1 (F ds) := by
  rw [mFn, bind_app]
  rfl
@[simp] theorem fnO_dat (d : PyData) : fnO a (some (.ok (.dat d))) = some (.ok (.dat d), a) := rfl
@[simp] theorem fnO_lst (d : List PyData) : fnO a (some (.ok (.lst d))) = some (.ok (.lst d), a) := rfl
@[simp] theorem fnO_none : fnO a none = none := rfl
def fiO (i : Nat) (a : AEnv) : Option (Except Exc Sl × Sl) → Rs Sl
  | some (.ok .un, _) => none
  | some (.ok s, s1) => some (.ok s, a.set i s1)
  | some (.error e, s1) => some (.error e, a.set i s1)
  | none => none
def fiS (i : Nat) (a : AEnv) (F : FnI) (ds : List PyData) : Option Sl → Rs Sl
  | some s0 => if s0.owned then fiO i a (F s0 ds) else none
  | none => none
@[simp] theorem mFnI_app (i : Nat) (m : M (List PyData)) (F : FnI) : mFnI i m F a = nxt (mChk i (fun _ => true) a) fun _ => M.bind m fun ds a1 => fiS i a1 F ds a1[i]? := by
  rw [mFnI, bind_app]
  congr 1
  funext _ a0
  rw [bind_app, bind_app]
  congr 1
  funext ds a1
  unfold fiS fiO
  cases a1[i]? with
  | none => rfl
  | some s0 => rfl
@[simp] theorem fiS_lst (i : Nat) (F : FnI) (ds xs : List PyData) : fiS i a F ds (some (.lst xs)) = fiO i a (F (.lst xs) ds) := rfl
@[simp] theorem fiO_dat (i : Nat) (d : PyData) (s : Sl) : fiO i a (some (.ok (.dat d), s)) = some (.ok (.dat d), a.set i s) := rfl
@[simp] theorem fiO_lst (i : Nat) (d : List PyData) (s : Sl) : fiO i a (some (.ok (.lst d), s)) = some (.ok (.lst d), a.set i s) := rfl
@[simp] theorem resOf_nx : resOf (some (.ok .nx, a)) = some (.ok (.dat .none), a) := rfl
@[simp] theorem resOf_ret (s : Sl) : resOf (some (.ok (.ret s), a)) = some (.ok s, a) := rfl
end
/-! ### loops -/
section
variable {α : Type}
/-- a for without break and return -/
theorem forL_inv {t : Tgt} {body : M Fl} (enc : α → PyData) (Inv : List α → AEnv → Prop) : ∀ (xs pre : List α) (a : AEnv), Inv pre a →
    (∀ p x q b, pre ++ xs = p ++ x :: q → Inv p b → ∃ b1 b2, t.put (enc x) b = some b1 ∧ (body b1 = some (.ok .nx, b2) ∨ body b1 = some (.ok .ct, b2)) ∧ Inv (p ++ [x]) b2) →
    ∃ a', forL t body (xs.map enc) a = some (.ok .nx, a') ∧ Inv (pre ++ xs) a'
  | [], pre, a, h0, h => ⟨a, rfl, by simpa using h0⟩
  | x :: xs, pre, a, h0, h => by
    obtain ⟨b1, b2, e1, e2, h2⟩ := h pre x xs a rfl h0
    obtain ⟨a', e3, h3⟩ := forL_inv enc Inv xs (pre ++ [x]) b2 h2 fun p y q b e hb => h p y q b (by rw [← e]; simp) hb
    refine ⟨a', ?_, by simpa using h3⟩
    rw [List.map_cons]
    unfold forL
    simp only [e1]
    rcases e2 with e2 | e2
    · simp only [e2]
      exact e3
    · simp only [e2]
      exact e3
/-- a list comprehension without a condition -/
theorem lcL_inv {t : Tgt} {m : M PyData} {vs : List Nat} (enc : α → PyData) (Inv : List α → List PyData → AEnv → Prop) : ∀ (xs pre : List α) (acc : List PyData) (a : AEnv), Inv pre acc a → acc.length + xs.length ≤ lineN → acc.length = pre.length →
    (∀ p x q acc b, pre ++ xs = p ++ x :: q → Inv p acc b → ∃ b1 b2 y, t.put (enc x) b = some b1 ∧ m b1 = some (.ok y, b2) ∧ Inv (p ++ [x]) (acc ++ [y]) (wipeA b2 vs)) →
    ∃ ys a', lcL t (M.pure true) m vs (xs.map enc) acc a = some (ys, a') ∧ Inv (pre ++ xs) ys a' ∧ ys.length = (pre ++ xs).length
  | [], pre, acc, a, h0, _, hl, h => ⟨acc, a, rfl, by simpa using h0, by simpa using hl⟩
  | x :: xs, pre, acc, a, h0, hz, hl, h => by
    obtain ⟨b1, b2, y, e1, e2, h2⟩ := h pre x xs acc a rfl h0
    have hz' : acc.length + (xs.length + 1) ≤ lineN := hz
    obtain ⟨ys, a', e3, h3, h4⟩ := lcL_inv enc Inv xs (pre ++ [x]) (acc ++ [y]) (wipeA b2 vs) h2 (by simp; omega) (by simp [hl]) fun p z q acc b e hb => h p z q acc b (by rw [← e]; simp) hb
    refine ⟨ys, a', ?_, by simpa using h3, by simpa using h4⟩
    rw [List.map_cons, lcL, e1]
    simp only [pure_app, e2]
    rw [if_pos (by omega)]
    exact e3
/-- the same, where each turn gives what f says and leaves the state as it is -/
theorem lcL_map {t : Tgt} {m : M PyData} {vs : List Nat} (enc f : α → PyData) (a : AEnv) : ∀ (xs : List α) (acc : List PyData), acc.length + xs.length ≤ lineN →
    (∀ x ∈ xs, ∃ b1 b2, t.put (enc x) a = some b1 ∧ m b1 = some (.ok (f x), b2) ∧ wipeA b2 vs = a) → lcL t (M.pure true) m vs (xs.map enc) acc a = some (acc ++ xs.map f, a)
  | [], acc, _, _ => by simp [lcL]
  | x :: xs, acc, hz, h => by
    obtain ⟨b1, b2, e1, e2, e3⟩ := h x List.mem_cons_self
    have hz' : acc.length + (xs.length + 1) ≤ lineN := hz
    rw [List.map_cons, lcL, e1]
    simp only [pure_app, e2]
    rw [if_pos (by omega), e3, lcL_map enc f a xs (acc ++ [f x]) (by simp; omega) fun y hy => h y (List.mem_cons_of_mem _ hy)]
    simp
theorem mLc_app {a : AEnv} (mi : M (List PyData)) (t : Tgt) (c : M Bool) (m : M PyData) (vs : List Nat) : mLc mi t c m vs a = nxt (mi a) fun items a1 => (lcL t c m vs items [] (wipeA a1 vs)).map fun r => (.ok (.lst r.1), wipeA r.2 vs) := by rw [mLc, bind_app]
/-- a while: k turns, each from one state to the next -/
theorem mWhile_run {c : M Bool} {body : M Fl} (A : Nat → AEnv) : ∀ (k i n : Nat), k < n → (∀ j, i ≤ j → j < i + k → ∃ b, c (A j) = some (.ok true, b) ∧ body b = some (.ok .nx, A (j + 1))) → (∃ b, c (A (i + k)) = some (.ok false, b) ∧ b = A (i + k)) →
    mWhile c body n (A i) = some (.ok .nx, A (i + k))
  | 0, i, n + 1, _, _, h2 => by
    obtain ⟨b, e, rfl⟩ := h2
    rw [mWhile, bind_app]
    rw [Nat.add_zero] at e ⊢
    simp [e]
  | k + 1, i, n + 1, hk, h1, h2 => by
    obtain ⟨b, e1, e2⟩ := h1 i (Nat.le_refl _) (by omega)
    rw [mWhile, bind_app, e1, nxt_ok, if_pos rfl]
    simp only [e2]
    have q := mWhile_run A k (i + 1) n (by omega) (fun j hj1 hj2 => h1 j (by omega) (by omega)) (by rw [show i + 1 + k = i + (k + 1) by omega]; exact h2)
    rw [show i + 1 + k = i + (k + 1) by omega] at q
    exact q
end
end Am

/-! Am19: set comprehensions of ints. -/
namespace Am
open PySem L2 PySem.Spec PyProof.Rows

section
variable {X : Cx}
/-- {elt for tg in iter if ..}: D the new set of ints -/
def tSc (wi : TI) (g : TG) (tt : TT) (te : TE) (vs : List Nat) : TE := fun σ H Q => wi σ H fun J Ha => ∀ D, Ha D = none → ∃ Wm : Nat → Nat → Hp → Prop, (∃ m, Wm 0 m (upd Ha D (SetO X.w D (fun _ => false) 0))) ∧ ∀ j m Hb, Wm j m Hb →
  (J.stop j Hb ∧ Q (.ref D) Hb) ∨ (J.go j Hb ∧ ∃ Nxt : Hp → Prop, (∀ Hc, Nxt Hc → ∃ m', m' < m ∧ Wm (j + 1) m' Hc) ∧ ∀ x Hc, J.yld j Hb x Hc → g x (wipe σ vs) Hc fun σc Hd => wipe σc vs = wipe σ vs ∧ tt σc Hd fun b He =>
    if b = true then te σc He fun y Hf => ∃ (k : Int) (S : Int → Bool) (n : Nat), y = .int k ∧ Hf D = some (SetO X.w D S n) ∧ n + 1 < scanBound ∧ Nxt (upd Hf D (SetO X.w D (fun j => S j || decide (j = k)) (if S k = true then n else n + 1))) else Nxt He)
variable {elt tg iter : Expr} {ifs : List Expr} {scope : Scope} {own : List (Str × Nat)} {pos : Pos} {wi : TI} {g : TG} {tt : TT} {te : TE}
theorem sc_core {pins : List (Addr × Obj)} {s : Shared} {σ : L2.St} {H : Hp} {Q : VK} {pos' : Pos} {use : Option (Value → Sem Unit)} {Qf : Value → Shared → Prop} (hc : X.calm = true) (hN : X.N.Nodup) (I : Inv X pins σ H s) (hi : PI X tg iter wi) (ok : BlkOk X.N X.env.scope scope own)
    (hg : ∀ (s : Shared) (H : Hp) (C : Addr) (cl : List (Str × Addr)) (fp : List Addr), PG (X.blk s H scope (compEnvC scope cl C X.env) fp) tg g) (ht : ∀ (s : Shared) (H : Hp) (C : Addr) (cl : List (Str × Addr)) (fp : List Addr), PTs (X.blk s H scope (compEnvC scope cl C X.env) fp) ifs tt)
    (he : ∀ (s : Shared) (H : Hp) (C : Addr) (cl : List (Str × Addr)) (fp : List Addr), PE (X.blk s H scope (compEnvC scope cl C X.env) fp) elt te) (hs : ∀ x, foldedSetIterable iter X.env x = Pure.pure x)
    (h : tSc (X := X) wi g tt te (own.map (·.2)) σ H Q)
    (hRR : ∀ D C s' m H', Inv X pins σ H' s' → Q (.ref D) H' → s'.heap.Ns C m → FpOk X pins H' C → compPost (model X.prog X.w) X.A X.xe use Qf (.ref D) C (.ok .next) s') :
    wpAny (model X.prog X.w) X.A (comprehension (.SetComp elt [⟨tg, iter, ifs, 0⟩] scope pos) scope X.env pos' (newSet (.type "set")) false (eval iter X.env) use) Qf X.xe s := by
  have cells : ∀ y ∈ scope.names, y.2 = .free → ∃ c, X.env.cells.lookup y.1 = some c := fun y hy e => (ok.free y hy e).elim (fun k => I.ok.has _ (.inl k)) fun k => I.ok.has _ (.inr k)
  refine wpAny_comprehension_free (use := use) rfl hs (closure_ok cells) ok.kind (fun y hy e => by rw [ok.uniq y hy, e]) (thn (hi.run pins s σ H _ I h) fun xv sa hx => thn hx fun itv sb hb => ?_)
  obtain ⟨it, fp, tn, J, Hb, rfl, Ib, T, stb, fpb, q⟩ := hb
  refine wpAny_newSet_raw fun led hled => newEnv_comp ?_
  subst hled
  have hD0 : Hb sb.heap.objs.size = none := Ib.hok.fresh (Nat.le_refl _)
  generalize hD : sb.heap.objs.size = D at hD0
  obtain ⟨Wm, ⟨m0, w0⟩, turn⟩ := q D hD0
  generalize hO : ({ cls := .type "set", dict := none, data := .set #[] 0 (.fresh 0 0 (!(X.w.params.followText "set-order"))) } : Obj) = newO
  generalize hsc : ({ sb with heap := sb.heap.push newO } : Shared) = sc
  have hheap : sc.heap = sb.heap.push newO := by rw [← hsc]
  -- the set is laid
  have Ic : Inv X pins σ (upd Hb D (SetO X.w D (fun _ => false) 0)) sc := by
    rw [← hsc, ← hD, ← hO]
    exact Ib.laid (t' := sb.toks) (fun b o e => Heap.get?_push_of_some _ e) (Nat.le_refl _) (setO_new (setR_fresh X.w))
  have fpc : ∀ b ∈ fp, FpOk X pins (upd Hb D (SetO X.w D (fun _ => false) 0)) b ∧ b < sc.heap.objs.size := fun b hb => by
    obtain ⟨o, e, _⟩ := T.obj _ _ stb b hb
    have hlt := Heap.lt_size e
    have hne : b ≠ D := by rw [← hD]; exact Nat.ne_of_lt hlt
    exact ⟨⟨by rw [upd_ne hne]; exact (fpb b hb).1, (fpb b hb).2⟩, by rw [hheap, Heap.size_push]; exact Nat.lt_succ_of_lt hlt⟩
  have stc : tn 0 sc.heap := T.keep _ _ _ stb fun b _ o e => by rw [hheap]; exact Heap.get?_push_of_some _ e
  have Id := block_start Ic ok hN fpc
  have pg := hg sc (upd Hb D (SetO X.w D (fun _ => false) 0)) sc.heap.objs.size (cellsFrom (sc.heap.objs.size + 1) scope.names (cloFrom X.env.cells scope.names [])) fp
  have pt := ht sc (upd Hb D (SetO X.w D (fun _ => false) 0)) sc.heap.objs.size (cellsFrom (sc.heap.objs.size + 1) scope.names (cloFrom X.env.cells scope.names [])) fp
  have pe := he sc (upd Hb D (SetO X.w D (fun _ => false) 0)) sc.heap.objs.size (cellsFrom (sc.heap.objs.size + 1) scope.names (cloFrom X.env.cells scope.names [])) fp
  have goal : codeAny (model X.prog X.w) X.A (.compStart (.SetComp elt [⟨tg, iter, ifs, 0⟩] scope pos) 0 (.ref it) (.ref D) (compEnvC scope (cellsFrom (sc.heap.objs.size + 1) scope.names (cloFrom X.env.cells scope.names [])) sc.heap.objs.size X.env))
      (compPost (model X.prog X.w) X.A X.xe use Qf (.ref D) sc.heap.objs.size) { sc with heap := pushCells (sc.heap.push { cls := .type "dict", data := .dict #[] }) scope.names } := by
    have nfp : ∀ b ∈ fp, (upd Hb D (SetO X.w D (fun _ => false) 0)) b = none := fun b hb => (fpc b hb).1.1
    generalize hce : compEnvC scope (cellsFrom (sc.heap.objs.size + 1) scope.names (cloFrom X.env.cells scope.names [])) sc.heap.objs.size X.env = ce at Id pg pt pe ⊢
    have hCL : ce.locals = sc.heap.objs.size := by subst hce; rfl
    generalize hHc : upd Hb D (SetO X.w D (fun _ => false) 0) = Hc at Ic Id pg pt pe w0 nfp fpc
    generalize hsd : ({ sc with heap := pushCells (sc.heap.push { cls := .type "dict", data := .dict #[] }) scope.names } : Shared) = sd at Id ⊢
    have std : tn 0 sd.heap := T.keep _ _ _ stc fun b _ o e => by rw [← hsd]; exact pushCells_keeps _ _ _ _ (Heap.get?_push_of_some _ e)
    have fits : ∀ {σ' : L2.St} {H' : Hp} {s' : Shared}, Inv (X.blk sc Hc scope ce fp) [] σ' H' s' → (∀ b ∈ fp, H' b = none) → ∀ b ∈ fp, FpOk (X.blk sc Hc scope ce fp) [] H' b := fun {σ' H' s'} I' hn b hb =>
      ⟨hn b hb, (I'.ok.exf b hb).1, I'.ok.exfs b hb, .inl hb, fun x c e => (I'.ok.exf b hb).2 x c e, fun p hp => nomatch (show p ∈ ([] : List (Addr × Obj)) from hp)⟩
    have loop : codeAny (model X.prog X.w) X.A (.compLoop (.SetComp elt [⟨tg, iter, ifs, 0⟩] scope pos) 0 (.ref it) (.ref D) ce) (compPost (model X.prog X.w) X.A X.xe use Qf (.ref D) sc.heap.objs.size) sd := by
      refine compLoop_set_any (fun n s' => ∃ j H', Inv (X.blk sc Hc scope ce fp) [] (wipe σ (own.map (·.2))) H' s' ∧ tn j s'.heap ∧ (∀ b ∈ fp, H' b = none) ∧ Wm j n H') (fun n se => ?_) m0 ⟨0, Hc, Id, std, nfp, w0⟩
      rintro ⟨j, He, Ie, ste, ne, we⟩
      rcases turn j n He we with ⟨stop, fin⟩ | ⟨go, Nxt, hNx, step⟩
      · refine thnF (T.done (X.blk sc Hc scope ce fp) rfl rfl rfl hc j [] se _ He (fun _ _ => False) Ie (fits Ie ne) ste stop) fun r sf hf => ?_
        obtain ⟨rfl, If⟩ := hf
        have Ig : Inv X pins σ He sf := Ic.call' (ch := fp) If.os If.base If.hok If.bare fun b hb => ⟨(fpc b hb).1.2.2.2.1, (fpc b hb).1.2.1, (fpc b hb).1.2.2.2.2.1, (fpc b hb).1.2.2.2.2.2⟩
        have hCn : He sc.heap.objs.size = none := hCL ▸ If.free
        obtain ⟨m, hns, _⟩ := If.loc
        have hns' : sf.heap.Ns sc.heap.objs.size m := hCL ▸ hns
        exact hRR D sc.heap.objs.size sf m He Ig fin hns' (Ic.fpOk (Nat.le_refl _) hCn)
      · refine thnF (T.item (X.blk sc Hc scope ce fp) rfl rfl rfl hc j [] se _ He (fun _ _ => False) Ie (fits Ie ne) ste go) fun r sf hf => ?_
        obtain ⟨u, rfl, hf⟩ := hf
        refine thnF hf fun _ sg hg => ?_
        obtain ⟨x, Hg, Ig, rg, yg, stg, ng⟩ := hg
        have Ip := Ig.pinned (fits Ig ng) (T.obj _ _ stg)
        refine thnF (pg.run _ sg _ Hg x u _ Ip rg (step x Hg yg)) fun _ sh hh => ?_
        obtain ⟨σh, Hh, Ih, hw, qh⟩ := hh
        have back : ∀ {s' : Shared} {H' : Hp}, Inv (X.blk sc Hc scope ce fp) ([] ++ pinsAt fp sg.heap) σh H' s' → Nxt H' → ∃ m, m < n ∧ ∃ j H', Inv (X.blk sc Hc scope ce fp) [] (wipe σ (own.map (·.2))) H' s' ∧ tn j s'.heap ∧ (∀ b ∈ fp, H' b = none) ∧ Wm j m H' := fun {s' H'} I' nx => by
          obtain ⟨m', hm, w'⟩ := hNx H' nx
          have held : ∀ b ∈ fp, ∀ o, sg.heap.get? b = some o → s'.heap.get? b = some o ∧ H' b = none := fun b hb o e =>
            let z := I'.pin (b, o) (List.mem_append_right _ (List.mem_append_right _ (mem_pinsAt hb e)))
            ⟨z.1, z.2.1⟩
          refine ⟨m', hm, j + 1, H', (I'.unpinned (pins := [])).weak (by rw [← hw, wipe_length]) (fun i v e => ?_), T.keep _ _ _ stg fun b hb o e => (held b hb o e).1, fun b hb => ?_, w'⟩
          · rw [← hw] at e
            exact (wipe_some e).1
          · obtain ⟨o, e, _⟩ := T.obj _ _ stg b hb
            exact (held b hb o e).2
        refine thnF (pt.run _ sh σh Hh _ Ih qh) fun b si hi => ?_
        obtain ⟨Hi, Ii, qi⟩ := hi
        cases b with
        | false =>
          simp only [Bool.false_eq_true, if_false] at qi ⊢
          exact back Ii qi
        | true =>
          simp only [if_true] at qi ⊢
          refine thnF (pe.run _ si σh Hi _ Ii qi) fun z sj hj => ?_
          obtain ⟨y, Hj, Ij, rj, k, S, c, rfl, hDj, hz, nx⟩ := hj
          have Z := setO_get (X := X.blk sc Hc scope ce fp) Ij hDj
          obtain ⟨tk, rfl⟩ := rj
          refine setR_add Z hz fun h' sbut new => ?_
          have live : ∃ u, h'.get? D = some u := by
            obtain ⟨o, _, _, _, ho, _⟩ := new
            exact ⟨o, ho⟩
          exact back (Ij.write (e := D) (t' := sj.toks + 1) (by rw [hDj]; trivial) (.inl rfl) (fun b u hb hu => (sbut.2 b hb).trans hu) live (setO_new new)) nx
    exact codeAny_compStart_set loop (T.self X.A 0 _ _ _ std loop)
  exact goal
theorem pe_sc (hc : X.calm = true) (hN : X.N.Nodup) (hi : PI X tg iter wi) (ok : BlkOk X.N X.env.scope scope own)
    (hg : ∀ (s : Shared) (H : Hp) (C : Addr) (cl : List (Str × Addr)) (fp : List Addr), PG (X.blk s H scope (compEnvC scope cl C X.env) fp) tg g) (ht : ∀ (s : Shared) (H : Hp) (C : Addr) (cl : List (Str × Addr)) (fp : List Addr), PTs (X.blk s H scope (compEnvC scope cl C X.env) fp) ifs tt)
    (he : ∀ (s : Shared) (H : Hp) (C : Addr) (cl : List (Str × Addr)) (fp : List Addr), PE (X.blk s H scope (compEnvC scope cl C X.env) fp) elt te) (hs : ∀ x, foldedSetIterable iter X.env x = Pure.pure x := by intro _; rfl) :
    PE X (.SetComp elt [⟨tg, iter, ifs, 0⟩] scope pos) (tSc (X := X) wi g tt te (own.map (·.2))) := by
  refine ⟨fun pins s σ H Q I h => ?_⟩
  rw [arm_eval_SetComp]
  refine sc_core hc hN I hi ok hg ht he hs h fun D C s' m H' I' q hn f => ⟨m, hn, fun h'' sb => ?_⟩
  obtain ⟨f0, f1, f2, f3, f4, f5⟩ := f
  exact ⟨.ref D, H', I'.turned (t' := s'.toks) (fun b o hb e => (sb.2 b hb).trans e) f0 f1 f3 f4 f5, rfl, q⟩
end
/-! ### the mirror -/
def scL (t : Tgt) (c : M Bool) (m : M PyData) (vs : List Nat) : List PyData → List Int → AEnv → Option (List Int × AEnv)
  | [], acc, a => some (acc, a)
  | d :: ds, acc, a => match t.put d a with
    | none => none
    | some a1 => match c a1 with
      | some (.ok true, a2) => match m a2 with
        | some (.ok (.int y), a3) => if acc.length + 1 < scanBound then scL t c m vs ds (gAdd1 y acc) (wipeA a3 vs) else none
        | _ => none
      | some (.ok false, a2) => scL t c m vs ds acc (wipeA a2 vs)
      | _ => none
def mSc (mi : M (List PyData)) (t : Tgt) (c : M Bool) (m : M PyData) (vs : List Nat) : M Sl := M.bind mi fun items => fun a => (scL t c m vs items [] (wipeA a vs)).map fun r => (.ok (.st r.1), wipeA r.2 vs)
theorem cont_add {K : KW} {V : Vw} {D : Addr} {acc : List Int} {k : Int} {S : Int → Bool} {n : Nat} (nd : acc.Nodup) (hn : n = acc.length) (hS : ∀ i, S i = decide (i ∈ acc)) :
    Cont K V D (SetO K.w D (fun j => S j || decide (j = k)) (if S k = true then n else n + 1)) (.st (gAdd1 k acc)) := by
  refine ⟨_, _, rfl, gAdd1_nodup nd, ?_, fun i => ?_⟩
  · rw [gAdd1_len, hS, hn]
    by_cases h : k ∈ acc <;> simp [h]
  · rw [hS, Bool.eq_iff_iff]
    simp [gAdd1_mem]
section
variable {X : Cx} {W : WB}
theorem tM_sc {mi : M (List PyData)} {t : Tgt} {c : M Bool} {m : M PyData} {vs : List Nat} (ht : ∀ i ∈ t.slots, i ∈ vs) {σ : L2.St} {H : Hp} {Q : VK} (hv : ∀ i ∈ vs, i < σ.length) (h : tM X.kw W (RS X.kw) (mSc mi t c m vs) σ H Q) :
    tSc (X := X) (tI X.kw W mi) (t.rd X.kw) (tM X.kw (W0 W) RB c) (tM X.kw (W0 W) (RD X.kw) m) vs σ H Q := by
  obtain ⟨G, O, a, q⟩ := h
  refine ⟨G, O, a, q.bind (RR := fun _ O _ H _ J items => Wk X.kw O H J items) fun O1 H1 a1 J items I1 e1 w q1 => ?_⟩
  intro D hD
  obtain ⟨_, op, x, ex, F⟩ := q1
  cases hr : scL t c m vs items [] (wipeA a1 vs) with
  | none => rw [hr] at ex; cases ex
  | some r =>
    rw [hr] at ex
    have ex' : (Except.ok (Sl.st r.1), wipeA r.2 vs) = x := Option.some.inj ex
    subst ex'
    have I2 : SR X.kw G (O1.put D) σ (upd H1 D (SetO X.w D (fun _ => false) 0)) a1 := I1.take (Ex.new hD) hD upd_same
    have rn : RN X.kw G (O1.put D) σ (upd H1 D (SetO X.w D (fun _ => false) 0)) a1 (.ref D) (.st []) := I1.isNew (Ex.new hD) hD upd_same ⟨_, _, rfl, List.nodup_nil, rfl, fun i => by simp⟩
    have I3 : SR X.kw (G.push D (.st [])) (O1.put D) (wipe σ vs) (upd H1 D (SetO X.w D (fun _ => false) 0)) (wipeA a1 vs) :=
      (I2.push rn).forget hv (wipe_length σ vs) fun i hi => by rw [wipe_get, if_neg hi]
    refine ⟨fun i n H' => n = items.length - i ∧ i ≤ items.length ∧ ∃ O' a' acc, Ext O1 H1 O' H' ∧ SR X.kw (G.push D (.st acc)) O' (wipe σ vs) H' a' ∧ scL t c m vs (items.drop i) acc a' = some r,
      ⟨items.length, by simp, Nat.zero_le _, O1.put D, wipeA a1 vs, [], ext_take I1.th (Ex.new hD) hD, I3, by simpa using hr⟩, ?_⟩
    rintro i n H' ⟨rfl, hi, O', a', acc, e2, J', hl⟩
    by_cases hlt : i < items.length
    · refine .inr ⟨w.go O' H' i e2 hlt, fun H' => ∃ O' a' acc, Ext O1 H1 O' H' ∧ SR X.kw (G.push D (.st acc)) O' (wipe σ vs) H' a' ∧ scL t c m vs (items.drop (i + 1)) acc a' = some r,
        fun H2 q2 => ⟨items.length - (i + 1), by omega, rfl, hlt, q2⟩, fun x H2 y => ?_⟩
      obtain ⟨ex2, d, hd, rd⟩ := w.yld O' H' i x H2 J'.th e2 hlt y
      have hdr : items.drop i = d :: items.drop (i + 1) := by
        rw [List.drop_eq_getElem_cons hlt]
        have : items[i] = d := by
          have h2 : items[i]? = some items[i] := by simp [hlt]
          rw [h2] at hd
          exact Option.some.inj hd
        rw [this]
      rw [hdr] at hl
      unfold scL at hl
      cases h1 : t.put d a' with
      | none => rw [h1] at hl; cases hl
      | some a2 =>
        rw [h1] at hl
        dsimp only at hl
        refine t.run (J'.grow ex2) rd h1 fun σ2 J2 al => ?_
        have hlen : σ2.length = σ.length := by
          have z1 := J2.len
          have z2 := J'.len
          rw [wipe_length] at z2
          rw [Tgt.put_length t h1] at z1
          omega
        have hw : wipe σ2 vs = wipe σ vs := wipe_alike hlen al ht
        refine ⟨hw, ?_⟩
        have e3 : Ext O1 H1 O' H2 := e2.trans (ext_grow ex2)
        cases hc : c a2 with
        | none => rw [hc] at hl; cases hl
        | some z =>
          obtain ⟨z1, a3⟩ := z
          rw [hc] at hl
          cases z1 with
          | error er => cases hl
          | ok b =>
            refine ⟨_, O', a2, J2, op, _, hc, fun O3 H3 v J3 e4 rb => ?_⟩
            cases (show v = b from rb)
            have back : ∀ {O4 H4 a4 acc'}, SR X.kw (G.push D (.st acc')) O4 σ2 H4 a4 → SR X.kw (G.push D (.st acc')) O4 (wipe σ vs) H4 (wipeA a4 vs) := fun {O4 H4 a4 acc'} J4 =>
              J4.forget (by rw [hlen]; exact hv) (by rw [wipe_length, hlen]) fun i hi => by rw [← hw, wipe_get, if_neg hi]
            cases b with
            | false => exact ⟨O3, wipeA a3 vs, acc, e3.trans e4, back J3, hl⟩
            | true =>
              dsimp only at hl
              cases hm : m a3 with
              | none => rw [hm] at hl; cases hl
              | some z =>
                obtain ⟨z1, a4⟩ := z
                rw [hm] at hl
                cases z1 with
                | error er => cases hl
                | ok y =>
                  cases y with
                  | int y =>
                    have hl' : (if acc.length + 1 < scanBound then scL t c m vs (items.drop (i + 1)) (gAdd1 y acc) (wipeA a4 vs) else none) = some r := hl
                    split at hl'
                    · rename_i hz
                      refine ⟨_, O3, a3, J3, op, _, hm, fun O4 H4 v J4 e5 rv => ?_⟩
                      obtain ⟨⟨hmD, _⟩, ⟨ho, hpD, cD⟩, _⟩ := J4.gh D (.st acc) List.mem_cons_self
                      obtain ⟨S, n, rfl, nd, hn, hS⟩ := cD.inv_st
                      cases rv
                      exact ⟨y, S, n, rfl, hpD, by rw [hn]; exact hz, O4, wipeA a4 vs, gAdd1 y acc, ((e3.trans e4).trans e5).trans (ext_own hmD), back (J4.ghSet (cont_add nd hn hS)), hl'⟩
                    · cases hl'
                  | _ => cases hl
    · have e : i = items.length := by omega
      subst e
      rw [List.drop_length] at hl
      have hl' : some (acc, a') = some r := hl
      cases hl'
      refine .inl ⟨w.stop O' H' e2, ?_⟩
      obtain ⟨J4, rn4⟩ := J'.pop rfl
      have J5 : SR X.kw G O' σ H' (wipeA a' vs) := J4.forget (by rw [wipe_length]; exact hv) (wipe_length σ vs).symm fun i hi => by rw [wipe_get, if_neg hi]
      refine F O' H' (.ref D) J5 e2 (.inr (.inl ?_))
      obtain ⟨h1, p, ho, h2, h3, h4, h5, h6, h7, h8⟩ := rn4
      refine ⟨h1, p, ho, h2, h3, h4, h5, fun j u k1 k2 k3 => ?_, h7, h8⟩
      rcases wipeA_own k1 with ⟨n1, k1⟩ | k1
      · exact h6 j u k1 k2 (by rw [wipe_get, if_neg n1]; exact k3)
      · subst k1; cases k2
variable {elt tg iter : Expr} {ifs : List Expr} {scope : Scope} {own : List (Str × Nat)} {pos : Pos}
theorem px_sc {mi : M (List PyData)} {t : Tgt} {c : M Bool} {m : M PyData} (hc : X.calm = true) (hN : X.N.Nodup) (hi : PIM X W tg iter mi) (ok : BlkOk X.N X.env.scope scope own) (hs' : ∀ i ∈ t.slots, i ∈ own.map (·.2))
    (hg : ∀ (s : Shared) (H : Hp) (C : Addr) (cl : List (Str × Addr)) (fp : List Addr), PG (X.blk s H scope (compEnvC scope cl C X.env) fp) tg (t.rd X.kw)) (ht : ∀ (s : Shared) (H : Hp) (C : Addr) (cl : List (Str × Addr)) (fp : List Addr), PBs (X.blk s H scope (compEnvC scope cl C X.env) fp) (W0 W) ifs c)
    (he : ∀ (s : Shared) (H : Hp) (C : Addr) (cl : List (Str × Addr)) (fp : List Addr), PD (X.blk s H scope (compEnvC scope cl C X.env) fp) (W0 W) elt m) (hs : ∀ x, foldedSetIterable iter X.env x = Pure.pure x := by intro _; rfl) :
    PX X W (.SetComp elt [⟨tg, iter, ifs, 0⟩] scope pos) (mSc mi t c m (own.map (·.2))) := by
  have ht' : ∀ (s : Shared) (H : Hp) (C : Addr) (cl : List (Str × Addr)) (fp : List Addr), PTs (X.blk s H scope (compEnvC scope cl C X.env) fp) ifs (tM X.kw (W0 W) RB c) := fun s H C cl fp => blk_kw (X := X) hc ▸ ht s H C cl fp
  have he' : ∀ (s : Shared) (H : Hp) (C : Addr) (cl : List (Str × Addr)) (fp : List Addr), PE (X.blk s H scope (compEnvC scope cl C X.env) fp) elt (tM X.kw (W0 W) (RD X.kw) m) := fun s H C cl fp => blk_kw (X := X) hc ▸ he s H C cl fp
  exact ⟨fun pins s σ H Q I h => (pe_sc hc hN hi ok hg ht' he' hs).run pins s σ H Q I (tM_sc hs' (by rw [I.len]; exact own_lt ok) h)⟩
end
end Am

/-! Am20: len of what is new, list(range), zip, methods that only look, remove, *=, int(..), str(..). -/
namespace Am
open PySem L2

/-! ### len of a set, a dict -/
section
variable {X : Cx} {W : WB} {e : Expr} {p pos : Pos}
def rLenX (w : World) : List V → Hp → VK → Prop := fun xs H Q => ∃ a, xs = [.ref a] ∧ ((∃ S n, H a = some (SetO w a S n) ∧ Q (.int (n : Nat)) H) ∨ ∃ kvs, H a = some (.dK kvs) ∧ Q (.int kvs.length) H)
theorem call_lenX : CallR X (.builtin "len") (rLenX X.w) := by
  intro pins s σ H xs us Q I r h
  obtain ⟨a, rfl, h⟩ := h
  obtain ⟨u, rfl, ru⟩ := vals1 r
  cases ru
  rcases h with ⟨S, n, ha, q⟩ | ⟨kvs, ha, q⟩
  · obtain ⟨o, es, ep, t, ho, hex, hd, _, _, _, hb, hf, hn, _⟩ := setO_get I ha
    have hb' : es.size < 4096 := hb
    exact call_len_set ho hex hd hf (by omega) ⟨.int (n : Nat), H, I.tok _, ⟨_, by rw [hn]⟩, q⟩
  · exact d_len I (.inl ha) fun t s' I' => ⟨.int kvs.length, H, I', ⟨t, rfl⟩, q⟩
def lenS : Sl → Option Int
  | .st is => some (is.length : Nat)
  | .dk kvs => some (kvs.length : Nat)
  | _ => none
def mLenX (m : M Sl) : M PyData := M.bind m fun s => M.bind (M.of (lenS s)) fun n => M.pure (.int n)
theorem pd_lenX {m : M Sl} (hg : Gl X "len") (hm : X.mg "len" = none) (h : PX X W e m) (he : starEach [e] X.env = (false, eval e X.env) :: starEach [] X.env := by rfl) (hpl : (backTo pos (starEach [] X.env)).any (·.1) = false := by rfl) :
    PD X W (.Call (.Name "len" p) [e] [] pos) (mLenX m) := by
  refine PE.imp (pe_callB call_lenX hg hm PySem.boot_len (pa_cons h pa_nil he) (he := he) (hpl := hpl)) fun σ H Q ⟨G, O, a, q⟩ => ⟨G, O, a, q.bind (RR := RS X.kw) fun O1 H1 a1 v s I1 e1 r1 q1 => ?_⟩
  obtain ⟨n, hn, q2⟩ := q1.ofB
  rcases r1 with ⟨d, rfl, r⟩ | ⟨hs, b, ho, rfl, hm, hp, c, _⟩ | ⟨d, b, rfl, rfl, r⟩
  · cases hn
  · cases s with
    | st is =>
      obtain ⟨S, k, rfl, nd, rfl, hS⟩ := c.inv_st
      cases hn
      exact ⟨b, rfl, .inl ⟨S, _, hp, q2.pure (v := .int _) (.int _)⟩⟩
    | dk kvs =>
      obtain ⟨vs, rfl, r⟩ := c.inv_dk
      cases hn
      refine ⟨b, rfl, .inr ⟨vs, hp, ?_⟩⟩
      have hl : vs.length = kvs.length := Paired.length r
      rw [hl]
      exact q2.pure (v := .int _) (.int _)
    | _ => cases hn
  · cases hn
/-! ### list(range(..)) -/
def gRgL (lo hi : PyData) : Option Sl := match lo, hi with
  | .int a, .int b => if decide (-(2 ^ 62) ≤ a) && decide (a < 2 ^ 62) && decide (-(2 ^ 62) ≤ b) && decide (b < 2 ^ 62) && decide ((b - a).toNat ≤ 16777216) then some (.lst (rangeD a (b - a).toNat)) else none
  | _, _ => none
theorem gRgL_some {lo hi : PyData} {s : Sl} (h : gRgL lo hi = some s) : ∃ a b, lo = .int a ∧ hi = .int b ∧ RgOk a b ∧ s = .lst (rangeD a (b - a).toNat) := by
  unfold gRgL at h
  split at h
  · rename_i a b
    split at h
    · rename_i hc
      simp only [Bool.and_eq_true, decide_eq_true_eq] at hc
      cases h
      exact ⟨a, b, rfl, rfl, ⟨hc.1.1.1.1, hc.1.1.1.2, hc.1.1.2, hc.1.2, hc.2⟩, rfl⟩
    · cases h
  · cases h
theorem rgV_all {K : PySem.W.Frag} {V : Vw} (a b : Int) : RAll K V (rgV a b) (rangeD a (b - a).toNat) := by
  unfold rgV rangeD
  generalize (List.range (b - a).toNat) = l
  induction l with
  | nil => exact .nil
  | cons x r ih => exact .cons (.int _) ih
def mRgL1 (m : M PyData) : M Sl := M.bind m fun d => M.of (gRgL (.int 0) d)
def mRgL2 (m k : M PyData) : M Sl := M.bind m fun d => M.bind k fun e => M.of (gRgL d e)
variable {x y : Expr} {p2 q2 : Pos}
theorem px_listRg1 {m : M PyData} (hc : X.calm = true) (hg : Gl X "list") (hm : X.mg "list" = none) (hg2 : Gl X "range") (hm2 : X.mg "range" = none) (h : PD X W x m) (na : starEach [x] X.env = (false, eval x X.env) :: starEach [] X.env := by rfl)
    (na2 : starEach [.Call (.Name "range" p2) [x] [] q2] X.env = (false, eval (.Call (.Name "range" p2) [x] [] q2) X.env) :: starEach [] X.env := by rfl) : PX X W (.Call (.Name "list" p) [.Call (.Name "range" p2) [x] [] q2] [] pos) (mRgL1 m) := by
  refine PE.imp (pe_listRg hc hg hm (prg_1 hg2 hm2 h na) na2) fun σ H Q ⟨G, O, a, q⟩ => ⟨G, O, a, q.bind (RR := RD X.kw) fun O1 H1 a1 v d I1 e1 r1 q1 => ?_⟩
  obtain ⟨s, hs, q2⟩ := q1.of
  obtain ⟨lo, hi, e1, rfl, ok, rfl⟩ := gRgL_some hs
  cases e1
  cases r1
  exact ⟨hi, rfl, ok, fun l hl => out_lst (q2.out (fun z => nomatch z)) hl (rgV_all 0 hi)⟩
theorem px_listRg2 {m k : M PyData} (hc : X.calm = true) (hg : Gl X "list") (hm : X.mg "list" = none) (hg2 : Gl X "range") (hm2 : X.mg "range" = none) (h : PD X W x m) (h' : PD X W y k) (na : starEach [x, y] X.env = (false, eval x X.env) :: starEach [y] X.env := by rfl) (na1 : starEach [y] X.env = (false, eval y X.env) :: starEach [] X.env := by rfl) (hpl : (backTo q2 (starEach [y] X.env)).any (·.1) = false := by rfl)
    (na2 : starEach [.Call (.Name "range" p2) [x, y] [] q2] X.env = (false, eval (.Call (.Name "range" p2) [x, y] [] q2) X.env) :: starEach [] X.env := by rfl) : PX X W (.Call (.Name "list" p) [.Call (.Name "range" p2) [x, y] [] q2] [] pos) (mRgL2 m k) := by
  refine PE.imp (pe_listRg hc hg hm (prg_2 hg2 hm2 h h' na na1 (hp := hpl)) na2) fun σ H Q ⟨G, O, a, q⟩ => ⟨G, O, a, q.bind (RR := RD X.kw) fun O1 H1 a1 v d I1 e1 r1 q1 => ?_⟩
  refine ⟨G, O1, a1, q1.bind (RR := RD X.kw) fun O2 H2 a2 w e I2 e2 r2 q2 => ?_⟩
  obtain ⟨s, hs, q3⟩ := q2.of
  obtain ⟨lo, hi, rfl, rfl, ok, rfl⟩ := gRgL_some hs
  cases r1
  cases r2
  exact ⟨lo, hi, rfl, rfl, ok, fun l hl => out_lst (q3.out (fun z => nomatch z)) hl (rgV_all lo hi)⟩
end
/-! ### zip of two lists, of two tuples -/
def zipD (xs ys : List PyData) : List PyData := List.zipWith (fun x y => .tuple [x, y]) xs ys
theorem zipD_get (xs ys : List PyData) {i : Nat} {x y : PyData} (h1 : xs[i]? = some x) (h2 : ys[i]? = some y) : (zipD xs ys)[i]? = some (.tuple [x, y]) := by
  unfold zipD
  rw [List.getElem?_zipWith, h1, h2]
theorem zipD_length (xs ys : List PyData) : (zipD xs ys).length = min xs.length ys.length := by simp [zipD]
section
variable {K : KW} {O1 : Own} {H1 : Hp} {a b : Addr} {vs us : List V} {ds es : List PyData}
theorem yld_two {O : Own} {H : Hp} {T : Addr} {x y : V} {d e : PyData} (th : Thr O H) (hT : H T = none) (rd : R K (hide O H) x d) (re : R K (hide O H) y e) : Ex H (upd H T (.tup [x, y])) ∧ R K (hide O (upd H T (.tup [x, y]))) (.ref T) (.tuple [d, e]) := by
  have nT : T ∉ O.l := fun z => by
    obtain ⟨o, ho⟩ := th T z
    rw [hT] at ho
    cases ho
  have ex : Ex H (upd H T (.tup [x, y])) := Ex.new hT
  exact ⟨ex, .tup (hide_some.mpr ⟨nT, upd_same⟩) (.cons (R.mono (ext_grow ex) _ _ rd) (.cons (R.mono (ext_grow ex) _ _ re) .nil))⟩
theorem wk_zipL (h : SqL K (hide O1 H1).h a vs) (r : RAll K (hide O1 H1) vs ds) (h' : SqL K (hide O1 H1).h b us) (r' : RAll K (hide O1 H1) us es) : Wk K O1 H1 (Itz K a b) (zipD ds es) := by
  have l1 := r.length
  have l2 := r'.length
  refine ⟨fun O H i e hi => ?_, fun O H e => ⟨vs, us, (e.trans (hide_ex O H)).h.l h, (e.trans (hide_ex O H)).h.l h', ?_⟩, fun O H i x H' th e hi y => ?_⟩
  · rw [zipD_length] at hi
    have i1 : i < vs.length := by omega
    have i2 : i < us.length := by omega
    exact ⟨vs, us, vs[i], us[i], (e.trans (hide_ex O H)).h.l h, (e.trans (hide_ex O H)).h.l h', by simp [i1], by simp [i2]⟩
  · rw [zipD_length]
    omega
  · obtain ⟨T, x, y, rfl, hT, rfl, hx, hy⟩ := y
    obtain ⟨d, hd, rd⟩ := r.getV i (hx vs ((e.trans (hide_ex O _)).h.l h))
    obtain ⟨d', hd', rd'⟩ := r'.getV i (hy us ((e.trans (hide_ex O _)).h.l h'))
    obtain ⟨k1, k2⟩ := yld_two th hT (R.mono e _ _ rd) (R.mono e _ _ rd')
    exact ⟨k1, _, zipD_get _ _ hd hd', k2⟩
theorem wk_zipT (h : (hide O1 H1).h a = some (.tup vs)) (r : RAll K (hide O1 H1) vs ds) (h' : (hide O1 H1).h b = some (.tup us)) (r' : RAll K (hide O1 H1) us es) : Wk K O1 H1 (RZ.ItzT K a b) (zipD ds es) := by
  have l1 := r.length
  have l2 := r'.length
  have s1 : ∀ {O H}, Ext O1 H1 O H → SqT K H a vs := fun {O H} e => SqT.of ((e.trans (hide_ex O H)).h _ _ h)
  have s2 : ∀ {O H}, Ext O1 H1 O H → SqT K H b us := fun {O H} e => SqT.of ((e.trans (hide_ex O H)).h _ _ h')
  refine ⟨fun O H i e hi => ?_, fun O H e => ⟨vs, us, s1 e, s2 e, ?_⟩, fun O H i x H' th e hi y => ?_⟩
  · rw [zipD_length] at hi
    have i1 : i < vs.length := by omega
    have i2 : i < us.length := by omega
    exact ⟨vs, us, vs[i], us[i], s1 e, s2 e, by simp [i1], by simp [i2]⟩
  · rw [zipD_length]
    omega
  · obtain ⟨T, x, y, rfl, hT, rfl, hx, hy⟩ := y
    obtain ⟨d, hd, rd⟩ := r.getV i (hx vs (s1 e))
    obtain ⟨d', hd', rd'⟩ := r'.getV i (hy us (s2 e))
    obtain ⟨k1, k2⟩ := yld_two th hT (R.mono e _ _ rd) (R.mono e _ _ rd')
    exact ⟨k1, _, zipD_get _ _ hd hd', k2⟩
end
def gZip : PyData → PyData → Option (List PyData)
  | .list xs, .list ys => some (zipD xs ys)
  | .tuple xs, .tuple ys => some (zipD xs ys)
  | _, _ => none
def mZip (m k : M PyData) : M (List PyData) := M.bind m fun d => M.bind k fun e => M.of (gZip d e)
section
variable {X : Cx} {W : WB} {e e2 : Expr} {m k : M PyData} {p pos tpos : Pos} {elts : List Expr} {kk : Nat}
theorem pim_zip (hg : Gl X "zip") (hm : X.mg "zip" = none) (h : PD X W e m) (h2 : PD X W e2 k) (hs : starEach [e, e2] X.env = (false, eval e X.env) :: starEach [e2] X.env := by rfl) (hs2 : starEach [e2] X.env = (false, eval e2 X.env) :: starEach [] X.env := by rfl)
    (hpl : (backTo pos (starEach [e2] X.env)).any (·.1) = false := by rfl) : PIM X W (.Tuple elts kk tpos) (.Call (.Name "zip" p) [e, e2] [] pos) (mZip m k) := by
  refine PI.imp (RZ.pi_zipA hg hm (pa_cons h (pa_cons h2 pa_nil hs2) hs) hs hpl) fun σ H RR0 ⟨G, O, a, q⟩ => ⟨G, O, a, q.bind (RR := RD X.kw) fun O1 H1 a1 v d I1 e1 r1 q1 => ?_⟩
  refine ⟨G, O1, a1, q1.bind (RR := RD X.kw) fun O2 H2 a2 w e I2 e2 r2 q2 => ?_⟩
  obtain ⟨items, hi, q3⟩ := q2.of
  have r1' : R X.K (hide O2 H2) v d := R.mono e2 _ _ r1
  unfold gZip at hi
  split at hi
  · cases hi
    cases r1' with
    | lst h1 k1 =>
      cases r2 with
      | lst h2 k2 => exact ⟨_, _, _, _, rfl, .inl ⟨(hide_ex _ _).h.l h1, (hide_ex _ _).h.l h2, q3.pure (wk_zipL h1 k1 h2 k2)⟩⟩
  · cases hi
    cases r1' with
    | tup h1 k1 =>
      cases r2 with
      | tup h2 k2 => exact ⟨_, _, _, _, rfl, .inr ⟨SqT.of ((hide_ex _ _).h _ _ h1), SqT.of ((hide_ex _ _).h _ _ h2), q3.pure (wk_zipT h1 k1 h2 k2)⟩⟩
  · cases hi
end
/-! ### methods that only look -/
/-- what a method does, data and a handle in, data out -/
def MhG (K : KW) (T : String) (r : V → List V → Hp → VK → Prop) (g : PyData → List PyData → Option PyData) : Prop := ∀ (O : Own) H x d vs ds s Q, Thr O H → RP K O H x d → RAll K (hide O H) vs ds → g d ds = some s → (∀ H' v, Ex H H' → R K (hide O H') v s → Q v H') → r x vs H Q
def TyG (K : KW) (T : String) (chk : PyData → Bool) : Prop := ∀ (O : Own) H x d, RP K O H x d → chk d = true → tyV K T x H
def mMh (mo : M Hn) (chk : PyData → Bool) (m : M (List PyData)) (g : PyData → List PyData → Option PyData) : M PyData := M.bind mo fun h => M.bind M.get fun a => M.bind (M.of (h a)) fun d0 => M.bind (M.of (if chk d0 then some () else none)) fun _ => M.bind m fun ds => M.bind M.get fun a => M.bind (M.of (h a)) fun d => M.of (g d ds)
section
variable {X : Cx} {W : WB} {o e : Expr} {es : List Expr} {x name : Str} {T id : String} {r : V → List V → Hp → VK → Prop} {chk : PyData → Bool} {g : PyData → List PyData → Option PyData} {mo : M Hn} {m : M (List PyData)} {np apos cpos : Pos}
theorem pd_mh (pa : PlainAttrs T) (slot : Slot T name id) (hty : typeOf (.builtin id) = pure (.type "method_descriptor")) (hm : MtR X id r) (hc : TyG X.kw T chk) (hr : MhG X.kw T r g) (ho : PH X W o mo) (ha : PDs X W (e :: es) m)
    (hbase : attributeBase o name X.env (eval o X.env) = eval o X.env := by rfl)
    (hfew : ((backTo cpos (starEach (e :: es) X.env)).all (fun x => !x.1) && (backToKw cpos (keywordEach [] X.env)).all (fun x => x.1.isSome)
      && decide ((e :: es).length + ([] : List Keyword).length + (if ([] : List Keyword).isEmpty then 0 else 1) < 30)) = true := by rfl)
    (hline : (apos.endLine == cpos.line) = true := by rfl) (hs : starEach (e :: es) X.env = (false, eval e X.env) :: starEach es X.env := by rfl) (hplain : (backTo cpos (starEach es X.env)).any (·.1) = false := by rfl) :
    PD X W (.Call (.Attribute o name apos) (e :: es) [] cpos) (mMh mo chk m g) := by
  refine PE.imp (pe_bm pa slot hty hm ho ha hbase hfew hline hs hplain) fun σ H Q ⟨G, O, a, q⟩ => ⟨G, O, a, q.bind (RR := RH X.kw) fun O1 H1 a1 v h I1 e1 r1 q1 => ?_⟩
  obtain ⟨d0, hd0, q2⟩ := (At.getB q1).ofB
  obtain ⟨_, hck, q3⟩ := q2.ofB
  have hck' : chk d0 = true := by
    by_cases z : chk d0 = true
    · exact z
    · rw [if_neg z] at hck; cases hck
  refine ⟨hc O1 H1 v d0 (r1 O1 H1 a1 d0 I1 (Ext.refl _ _) hd0) hck', G, O1, a1, q3.bind (RR := RDs X.kw) fun O2 H2 a2 vs ds I2 e2 r2 q4 => ?_⟩
  obtain ⟨d, hd, q5⟩ := (At.getB q4).ofB
  obtain ⟨s, hs, q6⟩ := q5.of
  exact hr O2 H2 v d vs ds s Q I2.th (r1 O2 H2 a2 d I2 e2 hd) r2 hs q6.outD
end
def isLD : PyData → Bool
  | .list _ => true
  | _ => false
theorem isLD_ok {K : KW} : TyG K "list" isLD := fun O H x d r h => by
  cases d with
  | list ds =>
    obtain ⟨p, vs, rfl, h1, _⟩ := r.lst
    exact .inl ⟨rfl, vs, h1⟩
  | _ => cases h
/-- xs.index(y), flat things -/
def idxD (y : PyData) (xs : List PyData) : Option Nat := xs.findIdx? fun z => PyData.eqv z y
def gIndex : PyData → List PyData → Option PyData
  | .list xs, [y] => if flatD y && xs.all flatD then (idxD y xs).map fun j => .int (j : Nat) else none
  | _, _ => none
theorem gIndex_ok {K : KW} : MhG K "list" (rIndex K) gIndex := by
  intro O H x d vs ds s Q th rx rv h q
  unfold gIndex at h
  split at h
  · rename_i xs y
    split at h
    · rename_i hf
      have hf' := Bool.and_eq_true_iff.mp hf
      cases hj : idxD y xs with
      | none => rw [hj] at h; cases h
      | some j =>
        rw [hj] at h
        cases h
        obtain ⟨p, ws, rfl, h1, r1⟩ := rx.lst
        cases rv with
        | cons ry rn =>
          cases rn
          rename_i v
          obtain ⟨hlt, hz, hno⟩ := List.findIdx?_eq_some_iff_getElem.mp hj
          obtain ⟨w, hw, rw'⟩ := r1.get j (d := xs[j]) (by simp [hlt])
          have fl : ∀ k, (hk : k < xs.length) → flatD xs[k] = true := fun k hk => List.all_eq_true.mp hf'.2 _ (List.getElem_mem hk)
          refine ⟨p, ws, v, j, w, rfl, rfl, h1, by rw [ry.flat]; exact hf'.1, by rw [r1.flat]; exact hf'.2, hw, by rw [R.eqV rw' ry (fl j hlt) hf'.1]; exact hz, fun m z hm hz' => ?_, q _ _ (Ex.refl _) (.int _)⟩
          have hm' : m < xs.length := Nat.lt_trans hm hlt
          obtain ⟨d2, hd2, r2⟩ := r1.getV m hz'
          have e2 : d2 = xs[m] := by
            have z2 : xs[m]? = some xs[m] := by simp [hm']
            rw [z2] at hd2
            exact (Option.some.inj hd2).symm
          subst e2
          rw [R.eqV r2 ry (fl m hm') hf'.1]
          simpa using hno m hm
    · cases h
  · cases h
/-- xs.count(n), ints -/
def gCount : PyData → List PyData → Option PyData
  | .list xs, [.int k] => (intsD xs).map fun ns => .int (ns.count k : Nat)
  | _, _ => none
theorem gCount_ok {K : KW} : MhG K "list" (rCntI K) gCount := by
  intro O H x d vs ds s Q th rx rv h q
  unfold gCount at h
  split at h
  · rename_i xs k
    cases hn : intsD xs with
    | none => rw [hn] at h; cases h
    | some ns =>
      rw [hn] at h
      cases h
      obtain ⟨p, ws, rfl, h1, r1⟩ := rx.lst
      have e := intsD_some hn
      subst e
      have e2 := r1.ints
      subst e2
      cases rv with
      | cons ry rn =>
        cases rn
        cases ry
        exact ⟨p, ns, k, rfl, rfl, h1, q _ _ (Ex.refl _) (.int _)⟩
  · cases h
/-! ### remove -/
def gRemove : List PyData → Sl → Option (PyData × Sl)
  | [.int k], .lst ds => match intsD ds with
    | some ns => (ns.findIdx? fun z => decide (z = k)).map fun j => (.none, .lst ((ns.eraseIdx j).map PyData.int))
    | none => none
  | _, _ => none
theorem gRemove_ok {K : KW} : MtG K rRemI gRemove := by
  intro O H p ho s vs ds d s' Q th hp c rv h q
  unfold gRemove at h
  split at h
  · rename_i k ds
    split at h
    · rename_i ns hns
      cases hj : ns.findIdx? fun z => decide (z = k) with
      | none => rw [hj] at h; cases h
      | some j =>
        rw [hj] at h
        cases h
        have e := intsD_some hns
        subst e
        obtain ⟨ws, rfl, r1⟩ := c.inv_lst
        have e2 := r1.ints
        subst e2
        cases rv with
        | cons ry rn =>
          cases rn
          cases ry
          obtain ⟨hlt, hz, hno⟩ := List.findIdx?_eq_some_iff_getElem.mp hj
          refine ⟨p, ns, k, j, rfl, rfl, hp, ?_, fun m hm hm2 => ?_, q _ _ (RAll.ofInts _) .non⟩
          · rw [List.getElem?_eq_getElem hlt]
            exact congrArg some (of_decide_eq_true hz)
          · obtain ⟨h1, h2⟩ := List.getElem?_eq_some_iff.mp hm2
            have := hno m hm
            rw [h2] at this
            simp at this
    · cases h
  · cases h
/-! ### x *= e -/
section
variable {X : Cx}
theorem ip_mulW : PIp X .Mult (rI CMulW fun i j => .int (i * j)) := by
  intro pins s σ H x y v u Q I r1 r2 h
  obtain ⟨i, j, e1, e2, hc, q⟩ := h
  subst e1; subst e2
  obtain ⟨t, rfl⟩ := r1
  obtain ⟨t', rfl⟩ := r2
  exact PyProof.Rows.imul_int ⟨.int _, H, I.tok _, ⟨_, rfl⟩, q⟩ hc.ok
end
/-! ### int(..), str(..) -/
def gInt1 : List PyData → Option PyData
  | [.int i] => some (.int i)
  | [.bool b] => some (.int (if b then 1 else 0))
  | _ => none
theorem gInt1_ok {K : KW} : CD_ K (fun xs H Q => (∃ i, xs = [.int i] ∧ Q (.int i) H) ∨ ∃ k, xs = [.bl k] ∧ Q (.int (if k then 1 else 0)) H) gInt1 := by
  intro O H vs ds s Q th rs hg q
  unfold gInt1 at hg
  split at hg
  · cases hg
    obtain ⟨v, rfl, r⟩ := rs.one
    cases r.int
    exact .inl ⟨_, rfl, q _ _ (Ex.refl _) (.int _)⟩
  · cases hg
    obtain ⟨v, rfl, r⟩ := rs.one
    cases r.bl
    exact .inr ⟨_, rfl, q _ _ (Ex.refl _) (.int _)⟩
  · cases hg
def gStr1 : List PyData → Option PyData
  | [.int i] => if i.natAbs.log2 < 1920 then some (.str (toString i)) else none
  | _ => none
theorem gStr1_ok {K : KW} : CD_ K (fun xs H Q => ∃ i, xs = [.int i] ∧ i.natAbs.log2 < 1920 ∧ Q (.str (toString i)) H) gStr1 := by
  intro O H vs ds s Q th rs hg q
  unfold gStr1 at hg
  split at hg
  · split at hg
    · rename_i hz
      cases hg
      obtain ⟨v, rfl, r⟩ := rs.one
      cases r.int
      exact ⟨_, rfl, hz, q _ _ (Ex.refl _) (.str _)⟩
    · cases hg
  · cases hg
end Am

/-! Am21: places (a slot's own thing, a box); dicts. -/
namespace Am
open PySem L2

/-! ### places -/
inductive Pl where
  | sl (i : Nat)
  | bx (n j : Nat)
def bxAt (j : Nat) : Option Sl → Option Sl
  | some (.bxs bs) => bs[j]?
  | _ => none
def bxSet (j : Nat) (s : Sl) : Option Sl → Sl
  | some (.bxs bs) => .bxs (bs.set j s)
  | _ => .un
def plGet : Pl → AEnv → Option Sl
  | .sl i, a => a[i]?
  | .bx n j, a => bxAt j a[n]?
def plSet : Pl → Sl → AEnv → AEnv
  | .sl i, s, a => a.set i s
  | .bx n j, s, a => a.set n (bxSet j s a[n]?)
/-- v is the place's address -/
def RPl : RRel V Pl := fun G O σ _ _ v pl => match pl with
  | .sl i => ∃ p, v = .ref p ∧ σ[i]? = some (some (.ref p))
  | .bx n j => n = σ.length ∧ G.opn = true ∧ ∃ p, v = .ref p ∧ O.r[j]? = some p
theorem RPl.mono {G : Gd} {O O' : Own} {σ : St} {H H' : Hp} {a a' : AEnv} {v : V} {pl : Pl} (e : Ext O H O' H') (r : RPl G O σ H a v pl) : RPl G O' σ H' a' v pl := by
  cases pl with
  | sl i => exact r
  | bx n j =>
    obtain ⟨h1, h2, p, h3, h4⟩ := r
    exact ⟨h1, h2, p, h3, e.at h4⟩
theorem nodup_at : ∀ {l : List Addr} {i j : Nat} {p : Addr}, l.Nodup → l[i]? = some p → l[j]? = some p → i = j
  | [], _, _, _, _, h, _ => by simp at h
  | q :: l, i, j, p, n, h1, h2 => by
    obtain ⟨n1, n2⟩ := List.nodup_cons.mp n
    cases i with
    | zero =>
      cases j with
      | zero => rfl
      | succ j =>
        cases h1
        exact absurd (List.mem_of_getElem? (by simpa using h2)) n1
    | succ i =>
      cases j with
      | zero =>
        cases h2
        exact absurd (List.mem_of_getElem? (by simpa using h1)) n1
      | succ j => exact congrArg (· + 1) (nodup_at n2 (by simpa using h1) (by simpa using h2))
theorem SR.pl {K : KW} {G : Gd} {O : Own} {σ : St} {H : Hp} {a : AEnv} (I : SR K G O σ H a) {v : V} {pl : Pl} (r : RPl G O σ H a v pl) {s : Sl} (h : plGet pl a = some s) (hs : s.owned = true) :
    ∃ p ho, v = .ref p ∧ p ∈ O.l ∧ H p = some ho ∧ Cont K (hide O H) p ho s ∧ ∀ H' ho' s', Ex (hid [p] H) H' → H' p = some ho' → Cont K (hide O H') p ho' s' → SR K G O σ H' (plSet pl s' a) := by
  cases pl with
  | sl i =>
    obtain ⟨p, rfl, hp⟩ := r
    have h' : a[i]? = some s := h
    obtain ⟨p', ho, hv, hm, hq, c⟩ := I.own h' hs
    rw [hp] at hv
    cases hv
    exact ⟨p, ho, rfl, hm, hq, c, fun H' ho' s' e hp' c' => I.mut h' hs hp e hp' c'⟩
  | bx n j =>
    obtain ⟨rfl, ho, p, rfl, hp⟩ := r
    obtain ⟨bs, hb, B⟩ := I.rr.bs ho
    have h' : bs[j]? = some s := by
      have z : bxAt j a[σ.length]? = some s := h
      rw [hb] at z
      exact z
    obtain ⟨ho', hq, c⟩ := B.at_ j p s hp h'
    have pr : p ∈ O.r := List.mem_of_getElem? hp
    have pl : p ∈ O.l := I.rr.sub p pr
    refine ⟨p, ho', rfl, pl, hq, c, fun H' ho2 s' e hp' c' => ?_⟩
    have eh : Ext O H O H' := ext_but pl e
    have keep : ∀ {b : Addr} {o : HO}, b ≠ p → H b = some o → H' b = some o := fun {b o} n q => e _ _ (hide_some.mpr ⟨fun z => n (List.mem_singleton.mp z), q⟩)
    have eO : O.ext [] = O := by
      cases O
      simp [Own.ext]
    have g : Grow K O H [] H' (bs.set j s') (O.ext []) := by
      refine ⟨fun b o q => ?_, fun q hq => (nomatch hq), List.nodup_nil, ?_, fun q hq => ?_⟩
      · obtain ⟨n, q⟩ := hide_some.mp q
        exact keep (fun z => n (z ▸ pr)) q
      · rw [eO]
        refine ⟨by rw [List.length_set]; exact B.len, fun i q t hq2 ht => ?_⟩
        by_cases e1 : j = i
        · subst e1
          rw [hp] at hq2
          cases hq2
          rw [List.getElem?_set_self (List.getElem?_eq_some_iff.mp h').1] at ht
          cases ht
          exact ⟨ho2, hp', c'⟩
        · rw [List.getElem?_set_ne e1] at ht
          obtain ⟨ho3, z1, z2⟩ := B.at_ i q t hq2 ht
          refine ⟨ho3, keep (fun z => e1 ?_) z1, z2.mono eh⟩
          rw [z] at hq2
          exact nodup_at I.rr.nd hp hq2
      · by_cases e1 : q = p
        · exact ⟨ho2, e1 ▸ hp'⟩
        · exact (I.th q (I.rr.sub q hq)).imp fun o z => keep e1 z
    have J := I.boxes ho g
    rw [eO] at J
    show SR K G O σ H' (a.set σ.length (bxSet j s' a[σ.length]?))
    rw [hb]
    exact J
def mPlS (i : Nat) : M Pl := fun a => match a[i]? with
  | some s => if s.owned = true then some (.ok (.sl i), a) else none
  | none => none
/-- which box data is -/
def unbx : PyData → Option Nat
  | .dict [(.none, .int k)] => if bigB ≤ k then some (k - bigB).toNat else none
  | _ => none
theorem unbx_bxD (j : Nat) : unbx (bxD j) = some j := by
  show (if bigB ≤ bigB + (j:Int) then some (bigB + (j:Int) - bigB).toNat else none) = some j
  rw [if_pos (by omega)]
  congr 1
  omega
def hasB (n : Nat) (a : AEnv) : Bool := match a[n]? with
  | some (.bxs _) => true
  | _ => false
def mPlB (n : Nat) (m : M PyData) : M Pl := M.bind m fun d => M.bind (M.of (unbx d)) fun j => fun a => if hasB n a = true then some (.ok (.bx n j), a) else none
section
variable {X : Cx} {W : WB} {x : Str} {e : Expr} {pos : Pos}
abbrev PPl (X : Cx) (W : WB) (e : Expr) (m : M Pl) : Prop := PE X e (tM X.kw W RPl m)
theorem pp_sl (i : Nat) (hN : X.N[i]? = some x := by rfl) (hv : Vis X.env.scope x := by first | exact Or.inl rfl | exact Or.inr (Or.inl rfl) | exact Or.inr (Or.inr rfl)) (hd : (x == ("__debug__" : Str)) = false := by decide)
    (hcd : (x == ("__classdict__" : Str)) = false := by decide) : PPl X W (.Name x pos) (mPlS i) := by
  refine PE.imp (pe_var (i := i) hN hv hd hcd) fun σ H Q ⟨G, O, a, I, op, y, ey, F⟩ => ?_
  unfold mPlS at ey
  split at ey
  · rename_i s hs
    split at ey
    · rename_i ho
      cases ey
      obtain ⟨p, _, hv, _⟩ := I.own hs ho
      exact ⟨.ref p, hv, F O H (.ref p) I (Ext.refl _ _) ⟨p, rfl, hv⟩⟩
    · cases ey
  · cases ey
theorem pp_bx (n : Nat) {m : M PyData} (h : PD X W e m) : PPl X W e (mPlB n m) := by
  refine PE.imp h fun σ H Q ⟨G, O, a, q⟩ => ⟨G, O, a, q.bind (RR := RD X.kw) fun O1 H1 a1 v d I1 e1 r1 q1 => ?_⟩
  obtain ⟨j, hj, q2⟩ := q1.ofB
  obtain ⟨_, op, y, ey, F⟩ := q2
  by_cases hb : hasB n a1 = true
  · rw [if_pos hb] at ey
    unfold hasB at hb
    split at hb
    · rename_i bs hbs
      obtain ⟨rfl, ho⟩ := I1.bxs_at hbs
      cases ey
      unfold unbx at hj
      split at hj
      · rename_i k
        split at hj
        · cases hj
          cases r1 with
          | @bx p i hp =>
            have e : (bigB + (i : Int) - bigB).toNat = i := by omega
            rw [e] at F
            exact F O1 H1 (.ref p) I1 (Ext.refl _ _) ⟨rfl, ho, p, rfl, hp⟩
        · cases hj
      · cases hj
    · cases hb
  · rw [if_neg hb] at ey
    cases ey
end
/-! ### what is done at a place -/
def mChkP (pl : Pl) (chk : Sl → Bool) : M Unit := fun a => match plGet pl a with
  | none => none
  | some s => if s.owned && chk s then some (.ok (), a) else none
def mRdP {γ : Type} (pl : Pl) (g : Sl → Option γ) : M γ := fun a => match plGet pl a with
  | none => none
  | some s => if s.owned then (g s).map fun r => (.ok r, a) else none
def mUpP {γ : Type} (pl : Pl) (g : Sl → Option (γ × Sl)) : M γ := fun a => match plGet pl a with
  | none => none
  | some s => if s.owned then (g s).map fun r => (.ok r.1, plSet pl r.2 a) else none
section
variable {K : KW} {W : WB} {G : Gd} {O : Own} {a : AEnv} {σ : St} {H : Hp} {ν γ : Type} {RR : RRel ν γ} {Q : ν → Hp → Prop} {chk : Sl → Bool} {f : Unit → M γ} {pl : Pl} {v : V}
theorem At.chkP (h : At K W RR (M.bind (mChkP pl chk) f) G O a σ H Q) : ∃ s, plGet pl a = some s ∧ s.owned = true ∧ chk s = true ∧ At K W RR (f ()) G O a σ H Q := by
  obtain ⟨I, op, x, e, F⟩ := h
  unfold M.bind mChkP at e
  cases hs : plGet pl a with
  | none => rw [hs] at e; cases e
  | some s =>
    rw [hs] at e
    dsimp only at e
    by_cases hc : (s.owned && chk s) = true
    · rw [if_pos hc] at e
      have hc' := Bool.and_eq_true_iff.mp hc
      exact ⟨s, rfl, hc'.1, hc'.2, I, op, x, e, F⟩
    · rw [if_neg hc] at e
      cases e
theorem mRdP_some {g : Sl → Option γ} {x : Except Exc γ × AEnv} (h : mRdP pl g a = some x) : ∃ s r, plGet pl a = some s ∧ s.owned = true ∧ g s = some r ∧ x = (.ok r, a) := by
  unfold mRdP at h
  split at h
  · cases h
  · rename_i s hs
    split at h
    · rename_i ho
      cases hg : g s with
      | none => rw [hg] at h; cases h
      | some r =>
        rw [hg] at h
        cases h
        exact ⟨s, r, hs, ho, hg, rfl⟩
    · cases h
theorem mUpP_some {g : Sl → Option (γ × Sl)} {x : Except Exc γ × AEnv} (h : mUpP pl g a = some x) : ∃ s r, plGet pl a = some s ∧ s.owned = true ∧ g s = some r ∧ x = (.ok r.1, plSet pl r.2 a) := by
  unfold mUpP at h
  split at h
  · cases h
  · rename_i s hs
    split at h
    · rename_i ho
      cases hg : g s with
      | none => rw [hg] at h; cases h
      | some r =>
        rw [hg] at h
        cases h
        exact ⟨s, r, hs, ho, hg, rfl⟩
    · cases h
theorem At.rdP {g : Sl → Option γ} (h : At K W RR (mRdP pl g) G O a σ H Q) (r : RPl G O σ H a v pl) : ∃ s z p ho, g s = some z ∧ v = .ref p ∧ p ∈ O.l ∧ H p = some ho ∧ Cont K (hide O H) p ho s ∧ At K W RR (M.pure z) G O a σ H Q := by
  obtain ⟨I, op, x, e, F⟩ := h
  obtain ⟨s, z, hs, ho, hg, rfl⟩ := mRdP_some e
  obtain ⟨p, ho', e1, hm, hp, c, _⟩ := I.pl r hs ho
  exact ⟨s, z, p, ho', hg, e1, hm, hp, c, I, op, _, rfl, F⟩
theorem At.upP {g : Sl → Option (γ × Sl)} (h : At K W RR (mUpP pl g) G O a σ H Q) (r : RPl G O σ H a v pl) : ∃ s z p ho, g s = some z ∧ v = .ref p ∧ p ∈ O.l ∧ H p = some ho ∧ Cont K (hide O H) p ho s ∧
    ∀ H' ho' w, Ex (hid [p] H) H' → H' p = some ho' → Cont K (hide O H') p ho' z.2 → RR G O σ H' (plSet pl z.2 a) w z.1 → Q w H' := by
  obtain ⟨I, op, x, e, F⟩ := h
  obtain ⟨s, z, hs, ho, hg, rfl⟩ := mUpP_some e
  obtain ⟨p, ho', e1, hm, hp, c, k⟩ := I.pl r hs ho
  exact ⟨s, z, p, ho', hg, e1, hm, hp, c, fun H' ho2 w ex hp2 c2 rr => F O H' w (k H' ho2 z.2 ex hp2 c2) (ext_but hm ex) rr⟩
end
/-- methods that change what is owned -/
def mMtP (mp : M Pl) (chk : Sl → Bool) (m : M (List PyData)) (g : List PyData → Sl → Option (PyData × Sl)) : M PyData := M.bind mp fun pl => M.bind (mChkP pl chk) fun _ => M.bind m fun ds => mUpP pl (g ds)
section
variable {X : Cx} {W : WB} {o e : Expr} {es : List Expr} {x name : Str} {T id : String} {r : V → List V → Hp → VK → Prop} {chk : Sl → Bool} {g : List PyData → Sl → Option (PyData × Sl)} {mp : M Pl} {m : M (List PyData)} {np apos cpos : Pos}
theorem At.mtP {G : Gd} {O : Own} {a : AEnv} {σ : St} {H : Hp} {Q : VK} {ds : List PyData} {vs : List V} {v : V} {pl : Pl} (hr : MtG X.kw r g) (h : At X.kw W (RD X.kw) (mUpP pl (g ds)) G O a σ H Q) (hv : RPl G O σ H a v pl) (rv : RAll X.K (hide O H) vs ds) : r v vs H Q := by
  have th := h.1.th
  obtain ⟨s, z, p, ho, hg, rfl, hm, hp, c, k⟩ := h.upP hv
  exact hr O H p ho s vs ds z.1 z.2 Q th hp c rv hg fun ho' v c2 rd => k _ ho' v ex_upd upd_same (by rw [hide_own hm]; exact c2) (show R X.kw (hide O (upd H p ho')) v z.1 by rw [hide_own hm]; exact rd)
theorem pd_mtP (pa : PlainAttrs T) (slot : Slot T name id) (hty : typeOf (.builtin id) = pure (.type "method_descriptor")) (hm : MtR X id r) (hc : ChkT X.kw T chk) (hr : MtG X.kw r g) (hp : PPl X W o mp) (ha : PDs X W (e :: es) m)
    (hbase : attributeBase o name X.env (eval o X.env) = eval o X.env := by rfl)
    (hfew : ((backTo cpos (starEach (e :: es) X.env)).all (fun x => !x.1) && (backToKw cpos (keywordEach [] X.env)).all (fun x => x.1.isSome)
      && decide ((e :: es).length + ([] : List Keyword).length + (if ([] : List Keyword).isEmpty then 0 else 1) < 30)) = true := by rfl)
    (hline : (apos.endLine == cpos.line) = true := by rfl) (hs : starEach (e :: es) X.env = (false, eval e X.env) :: starEach es X.env := by rfl) (hplain : (backTo cpos (starEach es X.env)).any (·.1) = false := by rfl) :
    PD X W (.Call (.Attribute o name apos) (e :: es) [] cpos) (mMtP mp chk m g) := by
  refine PE.imp (pe_bm pa slot hty hm hp ha hbase hfew hline hs hplain) fun σ H Q ⟨G, O, a, q⟩ => ⟨G, O, a, q.bind (RR := RPl) fun O1 H1 a1 v pl I1 e1 r1 q1 => ?_⟩
  obtain ⟨s, hs, hso, hck, q2⟩ := q1.chkP
  obtain ⟨p, ho, rfl, hm, hp, c, _⟩ := I1.pl r1 hs hso
  exact ⟨hc O1 H1 p ho s hp c hck, G, O1, a1, q2.bind (RR := RDs X.kw) fun O2 H2 a2 vs ds I2 e2 r2 q3 => q3.mtP hr (r1.mono e2) r2⟩
theorem pd_mtP0 (pa : PlainAttrs T) (slot : Slot T name id) (hty : typeOf (.builtin id) = pure (.type "method_descriptor")) (hm : MtR X id r) (hc : ChkT X.kw T chk) (hr : MtG X.kw r g) (hp : PPl X W o mp)
    (hbase : attributeBase o name X.env (eval o X.env) = eval o X.env := by rfl) (hline : (apos.endLine == cpos.line) = true := by rfl) :
    PD X W (.Call (.Attribute o name apos) [] [] cpos) (mMtP mp chk (M.pure []) g) := by
  refine PE.imp (pe_bm0 pa slot hty hm hp hbase hline) fun σ H Q ⟨G, O, a, q⟩ => ⟨G, O, a, q.bind (RR := RPl) fun O1 H1 a1 v pl I1 e1 r1 q1 => ?_⟩
  obtain ⟨s, hs, hso, hck, q2⟩ := q1.chkP
  obtain ⟨p, ho, rfl, hm, hp, c, _⟩ := I1.pl r1 hs hso
  exact ⟨hc O1 H1 p ho s hp c hck, q2.pureB.mtP hr r1 .nil⟩
end
end Am

/-! Am22: dicts at places. -/
namespace Am
open PySem L2

/-! ### tables of data -/
section
variable {κ : Type} [DecidableEq κ]
def valP (kvs : List (κ × PyData)) (k : κ) : Option PyData := (kvs.find? fun kv => decide (kv.1 = k)).map (·.2)
def putP (kvs : List (κ × PyData)) (k : κ) (v : PyData) : List (κ × PyData) := if (valP kvs k).isSome = true then kvs.map (fun kv => if kv.1 = k then (kv.1, v) else kv) else kvs ++ [(k, v)]
def dropP (kvs : List (κ × PyData)) (k : κ) : List (κ × PyData) := kvs.filter fun kv => decide (kv.1 ≠ k)
theorem valP_pos {p : κ × PyData} {r : List (κ × PyData)} {k : κ} (e : p.1 = k) : valP (p :: r) k = some p.2 := by simp [valP, List.find?_cons, e]
theorem valP_neg {p : κ × PyData} {r : List (κ × PyData)} {k : κ} (e : ¬ p.1 = k) : valP (p :: r) k = valP r k := by simp [valP, List.find?_cons, e]
theorem valP_map (k j : κ) (y : PyData) : ∀ kvs : List (κ × PyData), valP (kvs.map fun kv => if kv.1 = k then (kv.1, y) else kv) j = (valP kvs j).map fun x => if j = k then y else x
  | [] => rfl
  | p :: r => by
    have ih := valP_map k j y r
    rw [List.map_cons]
    by_cases h : p.1 = k
    · rw [if_pos h]
      by_cases e : p.1 = j
      · rw [valP_pos (p := (p.1, y)) e, valP_pos e, Option.map_some, if_pos (e.symm.trans h)]
      · rw [valP_neg (p := (p.1, y)) e, valP_neg e, ih]
    · rw [if_neg h]
      by_cases e : p.1 = j
      · rw [valP_pos (p := p) e, valP_pos e, Option.map_some, if_neg (fun z => h (e.trans z))]
      · rw [valP_neg (p := p) e, valP_neg e, ih]
theorem valP_snoc (k j : κ) (y : PyData) : ∀ kvs : List (κ × PyData), valP kvs k = none → valP (kvs ++ [(k, y)]) j = if j = k then some y else valP kvs j
  | [], _ => by
    by_cases e : k = j
    · rw [if_pos e.symm]; exact valP_pos (p := (k, y)) e
    · rw [if_neg (fun z => e z.symm)]; exact valP_neg (p := (k, y)) e
  | p :: r, hn => by
    rw [List.cons_append]
    have hk : ¬ p.1 = k := fun z => by rw [valP_pos z] at hn; cases hn
    rw [valP_neg hk] at hn
    have ih := valP_snoc k j y r hn
    by_cases e : p.1 = j
    · rw [valP_pos e, valP_pos e, if_neg (fun z => hk (e.trans z))]
    · rw [valP_neg e, valP_neg e, ih]
theorem valP_put (kvs : List (κ × PyData)) (k j : κ) (y : PyData) : valP (putP kvs k y) j = if j = k then some y else valP kvs j := by
  unfold putP
  by_cases a : (valP kvs k).isSome = true
  · rw [if_pos a, valP_map]
    by_cases e : j = k
    · obtain ⟨x, hx⟩ := Option.isSome_iff_exists.mp a
      rw [if_pos e, e, hx, Option.map_some, if_pos rfl]
    · rw [if_neg e]
      cases valP kvs j with
      | none => rfl
      | some x => rw [Option.map_some, if_neg e]
  · rw [if_neg a]
    refine valP_snoc k j y kvs ?_
    cases q : valP kvs k with
    | none => rfl
    | some x => rw [q] at a; exact (a rfl).elim
theorem putP_len (kvs : List (κ × PyData)) (k : κ) (y : PyData) : (putP kvs k y).length = if (valP kvs k).isSome = true then kvs.length else kvs.length + 1 := by
  unfold putP
  split <;> simp
theorem putP_new {kvs : List (κ × PyData)} {k : κ} (y : PyData) (h : valP kvs k = none) : putP kvs k y = kvs ++ [(k, y)] := by
  unfold putP
  rw [h]
  exact if_neg (by decide)
variable {K : PySem.W.Frag} {H : Vw} {kvs : List (κ × V)} {ds : List (κ × PyData)}
theorem RK.val (r : RK K H kvs ds) (k : κ) : (valV kvs k = none ∧ valP ds k = none) ∨ ∃ v d, valV kvs k = some v ∧ valP ds k = some d ∧ R K H v d := by
  induction r with
  | nil => exact .inl ⟨rfl, rfl⟩
  | @cons p q ps qs h t ih =>
    obtain ⟨h1, h2⟩ := h
    by_cases e : p.1 = k
    · exact .inr ⟨p.2, q.2, valV_pos e, valP_pos (h1.symm.trans e), h2⟩
    · have e' : ¬ q.1 = k := fun z => e (h1.trans z)
      rw [valV_neg e, valP_neg e']
      exact ih
theorem RK.val_some (r : RK K H kvs ds) {k : κ} {d : PyData} (h : valP ds k = some d) : ∃ v, valV kvs k = some v ∧ R K H v d := by
  rcases r.val k with ⟨_, e⟩ | ⟨v, d', e1, e2, q⟩
  · rw [h] at e; cases e
  · rw [h] at e2; cases e2; exact ⟨v, e1, q⟩
theorem RK.val_none (r : RK K H kvs ds) {k : κ} (h : valP ds k = none) : valV kvs k = none := by
  rcases r.val k with ⟨e, _⟩ | ⟨v, d', e1, e2, q⟩
  · exact e
  · rw [h] at e2; cases e2
theorem RK.val_is (r : RK K H kvs ds) (k : κ) : (valV kvs k).isSome = (valP ds k).isSome := by
  rcases r.val k with ⟨e1, e2⟩ | ⟨v, d, e1, e2, _⟩ <;> rw [e1, e2] <;> rfl
theorem RK.repl (r : RK K H kvs ds) (k : κ) {v : V} {d : PyData} (q : R K H v d) : RK K H (kvs.map fun kv => if kv.1 = k then (kv.1, v) else kv) (ds.map fun kv => if kv.1 = k then (kv.1, d) else kv) := by
  induction r with
  | nil => exact .nil
  | @cons p q ps qs h t ih =>
    obtain ⟨h1, h2⟩ := h
    refine .cons ?_ ih
    by_cases e : p.1 = k
    · show (if p.1 = k then (p.1, v) else p).1 = (if q.1 = k then (q.1, d) else q).1 ∧ R K H (if p.1 = k then (p.1, v) else p).2 (if q.1 = k then (q.1, d) else q).2
      rw [if_pos e, if_pos (h1.symm.trans e)]
      exact ⟨h1, ‹R K H v d›⟩
    · show (if p.1 = k then (p.1, v) else p).1 = (if q.1 = k then (q.1, d) else q).1 ∧ R K H (if p.1 = k then (p.1, v) else p).2 (if q.1 = k then (q.1, d) else q).2
      rw [if_neg e, if_neg (fun z => e (h1.trans z))]
      exact ⟨h1, h2⟩
theorem RK.put (r : RK K H kvs ds) (k : κ) {v : V} {d : PyData} (q : R K H v d) : RK K H (putK kvs k v) (putP ds k d) := by
  unfold putK putP
  rw [valV_any, r.val_is k]
  split
  · exact r.repl k q
  · exact Paired.snoc r ⟨rfl, q⟩
theorem RK.drop (r : RK K H kvs ds) (k : κ) : RK K H (dropK kvs k) (dropP ds k) := by
  unfold dropK dropP
  induction r with
  | nil => exact .nil
  | @cons p q ps qs h t ih =>
    obtain ⟨h1, h2⟩ := h
    rw [List.filter_cons, List.filter_cons]
    by_cases e : p.1 = k
    · rw [if_neg (by simp [e]), if_neg (by simp [h1.symm.trans e])]
      exact ih
    · have e' : ¬ q.1 = k := fun z => e (h1.trans z)
      rw [if_pos (by simp [e]), if_pos (by simp [e'])]
      exact .cons ⟨h1, h2⟩ ih
theorem RK.length (r : RK K H kvs ds) : kvs.length = ds.length := Paired.length r
end

/-! ### keys -/
def keyD : PyData → Option Key
  | .int i => some (.inl i)
  | .str x => some (.inr x)
  | _ => none
def keysD : List PyData → Option (List Key)
  | [] => some []
  | d :: ds => match keyD d, keysD ds with
    | some k, some ks => some (k :: ks)
    | _, _ => none
def keyT : PyData → Option (List Key)
  | .tuple ds => keysD ds
  | _ => none
theorem keyD_R {K : PySem.W.Frag} {H : Vw} {y : V} {d : PyData} {k : Key} (r : R K H y d) (h : keyD d = some k) : y = kV k := by
  unfold keyD at h
  split at h
  · cases h; cases r; rfl
  · cases h; cases r; rfl
  · cases h
theorem keysD_R {K : PySem.W.Frag} {H : Vw} : ∀ {ys : List V} {ds : List PyData} {ks : List Key}, RAll K H ys ds → keysD ds = some ks → ys = ks.map kV
  | _, [], ks, r, h => by cases h; cases r; rfl
  | _, d :: ds, ks, r, h => by
    cases r with
    | cons r rs =>
      unfold keysD at h
      split at h
      · rename_i k ks' h1 h2
        cases h
        rw [keyD_R r h1, keysD_R rs h2]
        rfl
      · cases h
theorem keyT_R {K : PySem.W.Frag} {H : Vw} {y : V} {d : PyData} {k : List Key} (r : R K H y d) (h : keyT d = some k) : ∃ b, y = .ref b ∧ H.h b = some (.tup (k.map kV)) := by
  unfold keyT at h
  split at h
  · cases r with
    | tup h1 r1 => rw [keysD_R r1 h] at h1; exact ⟨_, rfl, h1⟩
  · cases h
/-! ### what a dict holds, what it becomes -/
def dGet (s : Sl) (d : PyData) : Option (Option PyData) := match s with
  | .dk kvs => (keyD d).map (valP kvs)
  | .dt kvs => (keyT d).map (valP kvs)
  | _ => none
def dPut (s : Sl) (d v : PyData) : Option Sl := match s with
  | .dk kvs => if decide (kvs.length < sizeLine) then (keyD d).map fun k => .dk (putP kvs k v) else none
  | .dt kvs => if decide (kvs.length < sizeLine) then (keyT d).map fun k => .dt (putP kvs k v) else none
  | _ => none
def isDD : Sl → Bool
  | .dk _ => true
  | .dt _ => true
  | _ => false
def oR (K : PySem.W.Frag) (H : Vw) (x : Option V) (y : Option PyData) : Prop := (x = none ∧ y = none) ∨ ∃ v d, x = some v ∧ y = some d ∧ R K H v d
theorem dGet_ok {K : KW} {O : Own} {H : Hp} {p : Addr} {ho : HO} {s : Sl} {y : V} {d : PyData} {z : Option PyData} (hp : H p = some ho) (c : Cont K (hide O H) p ho s) (r : R K (hide O H) y d) (h : dGet s d = some z) : ∃ o, DGet H p y o ∧ oR K (hide O H) o z := by
  unfold dGet at h
  split at h
  · rename_i kvs
    obtain ⟨vs, rfl, q⟩ := c.inv_dk
    cases hk : keyD d with
    | none => rw [hk] at h; cases h
    | some k =>
      rw [hk] at h
      cases h
      rw [keyD_R r hk]
      exact ⟨_, DGet.k hp, q.val k⟩
  · rename_i kvs
    obtain ⟨vs, rfl, q⟩ := c.inv_dt
    cases hk : keyT d with
    | none => rw [hk] at h; cases h
    | some k =>
      rw [hk] at h
      cases h
      obtain ⟨b, rfl, hb⟩ := keyT_R r hk
      exact ⟨_, DGet.t hp (hide_ex _ _ |>.h _ _ hb), q.val k⟩
  · cases h
theorem dPut_ok {K : KW} {O : Own} {H : Hp} {p : Addr} {ho : HO} {s s' : Sl} {y v : V} {d e : PyData} (hp : H p = some ho) (c : Cont K (hide O H) p ho s) (r : R K (hide O H) y d) (rv : R K (hide O H) v e) (h : dPut s d e = some s') :
    ∃ ho', DPut H p y v (upd H p ho') ∧ Cont K (hide O H) p ho' s' := by
  unfold dPut at h
  split at h
  · rename_i kvs
    obtain ⟨vs, rfl, q⟩ := c.inv_dk
    split at h
    · rename_i hl
      cases hk : keyD d with
      | none => rw [hk] at h; cases h
      | some k =>
        rw [hk] at h
        cases h
        rw [keyD_R r hk]
        exact ⟨_, DPut.k hp (by rw [q.length]; exact of_decide_eq_true hl), q.put k rv⟩
    · cases h
  · rename_i kvs
    obtain ⟨vs, rfl, q⟩ := c.inv_dt
    split at h
    · rename_i hl
      cases hk : keyT d with
      | none => rw [hk] at h; cases h
      | some k =>
        rw [hk] at h
        cases h
        obtain ⟨b, rfl, hb⟩ := keyT_R r hk
        exact ⟨_, DPut.t hp (hide_ex _ _ |>.h _ _ hb) (by rw [q.length]; exact of_decide_eq_true hl), q.put k rv⟩
    · cases h
  · cases h
theorem isDD_ok {K : KW} {O : Own} {H : Hp} {p : Addr} {ho : HO} {s : Sl} (hp : H p = some ho) (c : Cont K (hide O H) p ho s) (h : isDD s = true) : IsD H p := by
  cases s with
  | dk kvs => obtain ⟨vs, rfl, q⟩ := c.inv_dk; exact .inl ⟨_, .inl hp⟩
  | dt kvs => obtain ⟨vs, rfl, q⟩ := c.inv_dt; exact .inr ⟨_, .inl hp⟩
  | _ => cases h
/-! ### d[y], y in d -/
def mDGet (mp : M Pl) (my : M PyData) : M PyData := M.bind mp fun pl => M.bind my fun d => mRdP pl fun s => (dGet s d).bind id
def mDIn (my : M PyData) (mp : M Pl) : M Bool := M.bind my fun d => M.bind mp fun pl => mRdP pl fun s => (dGet s d).map Option.isSome
def mDNotIn (my : M PyData) (mp : M Pl) : M Bool := M.bind my fun d => M.bind mp fun pl => mRdP pl fun s => (dGet s d).map fun o => !o.isSome
def mDPut (mv : M PyData) (mp : M Pl) (my : M PyData) : M Fl := M.bind mv fun e => M.bind mp fun pl => M.bind my fun d => M.bind (mUpP pl fun s => (dPut s d e).map fun s' => ((), s')) fun _ => M.pure .nx
section
variable {X : Cx} {W : WB} {o i e : Expr} {mp : M Pl} {my mv : M PyData} {pos pos' : Pos}
theorem pd_dget (hu : X.A.units + 64 < cLine) (hp : PPl X W o mp) (hy : PD X W i my) (hs : NoSl i := by exact fun _ _ => rfl) : PD X W (.Subscript o i pos) (mDGet mp my) := by
  refine PE.imp (pe_dget (by omega) hp hy hs) fun σ H Q ⟨G, O, a, q⟩ => ⟨G, O, a, q.bind (RR := RPl) fun O1 H1 a1 v pl I1 e1 r1 q1 => ?_⟩
  refine ⟨G, O1, a1, q1.bind (RR := RD X.kw) fun O2 H2 a2 y d I2 e2 r2 q2 => ?_⟩
  obtain ⟨s, z, p, ho, hg, rfl, hm, hp', c, q3⟩ := q2.rdP (r1.mono e2)
  cases hd : dGet s d with
  | none => rw [hd] at hg; cases hg
  | some w =>
    rw [hd] at hg
    have hg' : w = some z := hg
    subst hg'
    obtain ⟨ov, g, ro⟩ := dGet_ok hp' c r2 hd
    rcases ro with ⟨_, h⟩ | ⟨v, d', rfl, h, rv⟩
    · cases h
    · cases h
      exact ⟨p, v, rfl, g, q3.pure rv⟩
theorem pb_din (hu : X.A.units + 64 < cLine) (hy : PD X W i my) (hp : PPl X W o mp) (h1 : behindInMarks .In o = false := by first | exact nomark _ | rfl | with_unfolding_all rfl) : PB X W (.Compare i [.In] [o] pos) (mDIn my mp) := by
  refine PT.imp (pt_cmp (pc_din (by omega) hy hp) h1) fun σ H Q h => ?_
  obtain ⟨G, O, a, q⟩ := h
  refine ⟨G, O, a, q.bind (RR := RD X.kw) fun O1 H1 a1 y d I1 e1 r1 q1 => ?_⟩
  refine ⟨G, O1, a1, q1.bind (RR := RPl) fun O2 H2 a2 v pl I2 e2 r2 q2 => ?_⟩
  obtain ⟨s, z, p, ho, hg, rfl, hm, hp', c, q3⟩ := q2.rdP r2
  cases hd : dGet s d with
  | none => rw [hd] at hg; cases hg
  | some w =>
    rw [hd] at hg
    cases hg
    obtain ⟨ov, g, ro⟩ := dGet_ok hp' c (R.mono e2 _ _ r1) hd
    have e : ov.isSome = w.isSome := by
      rcases ro with ⟨rfl, rfl⟩ | ⟨v, d', rfl, rfl, _⟩ <;> rfl
    refine ⟨p, ov, rfl, g, _, rfl, ?_⟩
    rw [e]
    exact q3.pureG (Ex.refl _) rfl
theorem pb_dnotin (hu : X.A.units + 64 < cLine) (hy : PD X W i my) (hp : PPl X W o mp) (h1 : behindInMarks .NotIn o = false := by first | exact nomark _ | rfl | with_unfolding_all rfl) : PB X W (.Compare i [.NotIn] [o] pos) (mDNotIn my mp) := by
  refine PT.imp (pt_cmp (pc_dnotin (by omega) hy hp) h1) fun σ H Q h => ?_
  obtain ⟨G, O, a, q⟩ := h
  refine ⟨G, O, a, q.bind (RR := RD X.kw) fun O1 H1 a1 y d I1 e1 r1 q1 => ?_⟩
  refine ⟨G, O1, a1, q1.bind (RR := RPl) fun O2 H2 a2 v pl I2 e2 r2 q2 => ?_⟩
  obtain ⟨s, z, p, ho, hg, rfl, hm, hp', c, q3⟩ := q2.rdP r2
  cases hd : dGet s d with
  | none => rw [hd] at hg; cases hg
  | some w =>
    rw [hd] at hg
    cases hg
    obtain ⟨ov, g, ro⟩ := dGet_ok hp' c (R.mono e2 _ _ r1) hd
    have e : ov.isSome = w.isSome := by
      rcases ro with ⟨rfl, rfl⟩ | ⟨v, d', rfl, rfl, _⟩ <;> rfl
    refine ⟨p, ov, rfl, g, _, rfl, ?_⟩
    rw [e]
    exact q3.pureG (Ex.refl _) rfl
theorem ms_dput (hu : X.A.units + 64 < cLine) (hv : PD X W e mv) (hp : PPl X W o mp) (hy : PD X W i my) (hs : swapsWith e (some (.Subscript o i pos')) pos.line X.env = pure false := by rfl) : PSM X W (.Assign [.Subscript o i pos'] e pos) (mDPut mv mp my) := by
  refine PS.imp (ps_dput (by omega) hp hy hv hs) fun D σ H ⟨G, O, a, q⟩ => ?_
  refine q.bind (RR := RD X.kw) fun O1 H1 a1 v e I1 e1 r1 q1 => ?_
  refine q1.bind (RR := RPl) fun O2 H2 a2 x pl I2 e2 r2 q2 => ?_
  refine q2.bind (RR := RD X.kw) fun O3 H3 a3 y d I3 e3 r3 q3 => ?_
  obtain ⟨I, op, z, ey, F⟩ := q3
  unfold M.bind at ey
  cases hu : mUpP pl (fun s => (dPut s d e).map fun s' => ((), s')) a3 with
  | none => rw [hu] at ey; cases ey
  | some z =>
    rw [hu] at ey
    obtain ⟨s, r, hs, ho, hg, rfl⟩ := mUpP_some hu
    have ey' : some (Except.ok Fl.nx, plSet pl r.2 a3) = some _ := ey
    cases ey'
    obtain ⟨p, ho', rfl, hm, hp, c, k⟩ := I3.pl (r2.mono e3) hs ho
    cases hd : dPut s d e with
    | none => rw [hd] at hg; cases hg
    | some s' =>
      rw [hd] at hg
      cases hg
      obtain ⟨ho2, dp, c2⟩ := dPut_ok hp c r3 (R.mono (e2.trans e3) _ _ r1) hd
      exact ⟨p, _, rfl, dp, F O3 σ _ (k _ ho2 s' ex_upd upd_same (by rw [hide_own hm]; exact c2)) (ext_but hm ex_upd)⟩
end
/-! ### get, pop -/
def mDGet1 (mp : M Pl) (my : M PyData) : M PyData := M.bind mp fun pl => M.bind (mChkP pl isDD) fun _ => M.bind my fun d => mRdP pl fun s => (dGet s d).map fun o => o.getD .none
def mDGet2 (mp : M Pl) (my mz : M PyData) : M PyData := M.bind mp fun pl => M.bind (mChkP pl isDD) fun _ => M.bind my fun d => M.bind mz fun z => mRdP pl fun s => (dGet s d).map fun o => o.getD z
/-- d.pop(k), keys ints and texts -/
def gDPop : List PyData → Sl → Option (PyData × Sl)
  | [d], .dk kvs => (keyD d).bind fun k => (valP kvs k).map fun v => (v, .dk (dropP kvs k))
  | _, _ => none
section
variable {X : Cx} {W : WB} {o e f : Expr} {mp : M Pl} {my mz : M PyData} {apos cpos : Pos}
theorem pd_dget1 (hu : X.A.units + 64 < cLine) (hp : PPl X W o mp) (hy : PD X W e my) (m : M1 X o "get" apos e cpos := by exact ⟨rfl, rfl, rfl, rfl⟩) : PD X W (.Call (.Attribute o "get" apos) [e] [] cpos) (mDGet1 mp my) := by
  refine PE.imp (pe_dget1 (by omega) hp hy m) fun σ H Q ⟨G, O, a, q⟩ => ⟨G, O, a, q.bind (RR := RPl) fun O1 H1 a1 v pl I1 e1 r1 q1 => ?_⟩
  obtain ⟨s0, hs0, ho0, hc0, q1⟩ := q1.chkP
  obtain ⟨p, ho, rfl, hm, hp, c, _⟩ := I1.pl r1 hs0 ho0
  refine ⟨p, rfl, isDD_ok hp c hc0, G, O1, a1, q1.bind (RR := RD X.kw) fun O2 H2 a2 y d I2 e2 r2 q2 => ?_⟩
  obtain ⟨s, z, p', ho, hg, hv, hm, hp', c, q3⟩ := q2.rdP (r1.mono e2)
  cases hv
  cases hd : dGet s d with
  | none => rw [hd] at hg; cases hg
  | some w =>
    rw [hd] at hg
    cases hg
    obtain ⟨ov, g, ro⟩ := dGet_ok hp' c r2 hd
    refine ⟨ov, g, q3.pure ?_⟩
    rcases ro with ⟨rfl, rfl⟩ | ⟨v, d', rfl, rfl, rv⟩
    · exact .non
    · exact rv
theorem pd_dget2 (hu : X.A.units + 64 < cLine) (hp : PPl X W o mp) (hy : PD X W e my) (hz : PD X W f mz) (m : M2 X o "get" apos e f cpos := by exact ⟨rfl, rfl, rfl, rfl⟩) : PD X W (.Call (.Attribute o "get" apos) [e, f] [] cpos) (mDGet2 mp my mz) := by
  refine PE.imp (pe_dget2 (by omega) hp hy hz m) fun σ H Q ⟨G, O, a, q⟩ => ⟨G, O, a, q.bind (RR := RPl) fun O1 H1 a1 v pl I1 e1 r1 q1 => ?_⟩
  obtain ⟨s0, hs0, ho0, hc0, q1⟩ := q1.chkP
  obtain ⟨p, ho, rfl, hm, hp, c, _⟩ := I1.pl r1 hs0 ho0
  refine ⟨p, rfl, isDD_ok hp c hc0, G, O1, a1, q1.bind (RR := RD X.kw) fun O2 H2 a2 y d I2 e2 r2 q2 => ?_⟩
  refine ⟨G, O2, a2, q2.bind (RR := RD X.kw) fun O3 H3 a3 zv zd I3 e3 r3 q2 => ?_⟩
  obtain ⟨s, z, p', ho, hg, hv, hm, hp', c, q3⟩ := q2.rdP (r1.mono (e2.trans e3))
  cases hv
  cases hd : dGet s d with
  | none => rw [hd] at hg; cases hg
  | some w =>
    rw [hd] at hg
    cases hg
    obtain ⟨ov, g, ro⟩ := dGet_ok hp' c (R.mono e3 _ _ r2) hd
    refine ⟨ov, g, q3.pure ?_⟩
    rcases ro with ⟨rfl, rfl⟩ | ⟨v, d', rfl, rfl, rv⟩
    · exact r3
    · exact rv
end
/-! ### a new dict -/
section
variable {X : Cx} {W : WB} {pos : Pos}
theorem px_dictK : PX X W (.Dict [] [] pos) (M.pure (.dk [])) := px_dict0
theorem px_dictT : PX X W (.Dict [] [] pos) (M.pure (.dt [])) :=
  PE.imp pe_dnewT fun σ H Q ⟨G, O, a, q⟩ => fun d hd => (q.out (by simp)).new (Ex.new hd) hd upd_same (show Cont X.kw (hide O H) d (.dT []) (.dt []) from Paired.nil)
end
end Am

/-! Am23: dict comprehensions, keys ints and texts. -/
namespace Am
open PySem L2 PySem.Spec PyProof.Rows

def dcL (t : Tgt) (c : M Bool) (mk m : M PyData) (vs : List Nat) : List PyData → List (Key × PyData) → AEnv → Option (List (Key × PyData) × AEnv)
  | [], acc, a => some (acc, a)
  | d :: ds, acc, a => match t.put d a with
    | none => none
    | some a1 => match c a1 with
      | some (.ok true, a2) => match mk a2 with
        | some (.ok x, a3) => match m a3 with
          | some (.ok y, a4) => match keyD x with
            | some k => if acc.length < sizeLine then dcL t c mk m vs ds (putP acc k y) (wipeA a4 vs) else none
            | none => none
          | _ => none
        | _ => none
      | some (.ok false, a2) => dcL t c mk m vs ds acc (wipeA a2 vs)
      | _ => none
def mDc (mi : M (List PyData)) (t : Tgt) (c : M Bool) (mk m : M PyData) (vs : List Nat) : M Sl := M.bind mi fun items => fun a => (dcL t c mk m vs items [] (wipeA a vs)).map fun r => (.ok (.dk r.1), wipeA r.2 vs)
section
variable {X : Cx} {W : WB}
theorem tM_dc {mi : M (List PyData)} {t : Tgt} {c : M Bool} {mk m : M PyData} {vs : List Nat} (ht : ∀ i ∈ t.slots, i ∈ vs) {σ : L2.St} {H : Hp} {Q : VK} (hv : ∀ i ∈ vs, i < σ.length) (h : tM X.kw W (RS X.kw) (mDc mi t c mk m vs) σ H Q) :
    tDc (tI X.kw W mi) (t.rd X.kw) (tM X.kw (W0 W) RB c) (tM X.kw (W0 W) (RD X.kw) mk) (tM X.kw (W0 W) (RD X.kw) m) vs σ H Q := by
  obtain ⟨G, O, a, q⟩ := h
  refine ⟨G, O, a, q.bind (RR := fun _ O _ H _ J items => Wk X.kw O H J items) fun O1 H1 a1 J items I1 e1 w q1 => ?_⟩
  intro D hD
  obtain ⟨_, op, x, ex, F⟩ := q1
  cases hr : dcL t c mk m vs items [] (wipeA a1 vs) with
  | none => rw [hr] at ex; cases ex
  | some r =>
    rw [hr] at ex
    have ex' : (Except.ok (Sl.dk r.1), wipeA r.2 vs) = x := Option.some.inj ex
    subst ex'
    have I2 : SR X.kw G (O1.put D) σ (upd H1 D (HO.dK [])) a1 := I1.take (Ex.new hD) hD upd_same
    have rn : RN X.kw G (O1.put D) σ (upd H1 D (HO.dK [])) a1 (.ref D) (.dk []) := I1.isNew (Ex.new hD) hD upd_same (show Cont X.kw _ D (.dK []) (.dk []) from Paired.nil)
    have I3 : SR X.kw (G.push D (.dk [])) (O1.put D) (wipe σ vs) (upd H1 D (HO.dK [])) (wipeA a1 vs) :=
      (I2.push rn).forget hv (wipe_length σ vs) fun i hi => by rw [wipe_get, if_neg hi]
    refine ⟨fun i n H' => n = items.length - i ∧ i ≤ items.length ∧ ∃ O' a' acc, Ext O1 H1 O' H' ∧ SR X.kw (G.push D (.dk acc)) O' (wipe σ vs) H' a' ∧ dcL t c mk m vs (items.drop i) acc a' = some r,
      ⟨items.length, by simp, Nat.zero_le _, O1.put D, wipeA a1 vs, [], ext_take I1.th (Ex.new hD) hD, I3, by simpa using hr⟩, ?_⟩
    rintro i n H' ⟨rfl, hi, O', a', acc, e2, J', hl⟩
    by_cases hlt : i < items.length
    · refine .inr ⟨w.go O' H' i e2 hlt, fun H' => ∃ O' a' acc, Ext O1 H1 O' H' ∧ SR X.kw (G.push D (.dk acc)) O' (wipe σ vs) H' a' ∧ dcL t c mk m vs (items.drop (i + 1)) acc a' = some r,
        fun H2 q2 => ⟨items.length - (i + 1), by omega, rfl, hlt, q2⟩, fun x H2 y => ?_⟩
      obtain ⟨ex2, d, hd, rd⟩ := w.yld O' H' i x H2 J'.th e2 hlt y
      have hdr : items.drop i = d :: items.drop (i + 1) := by
        rw [List.drop_eq_getElem_cons hlt]
        have : items[i] = d := by
          have h2 : items[i]? = some items[i] := by simp [hlt]
          rw [h2] at hd
          exact Option.some.inj hd
        rw [this]
      rw [hdr] at hl
      unfold dcL at hl
      cases h1 : t.put d a' with
      | none => rw [h1] at hl; cases hl
      | some a2 =>
        rw [h1] at hl
        dsimp only at hl
        refine t.run (J'.grow ex2) rd h1 fun σ2 J2 al => ?_
        have hlen : σ2.length = σ.length := by
          have z1 := J2.len
          have z2 := J'.len
          rw [wipe_length] at z2
          rw [Tgt.put_length t h1] at z1
          omega
        have hw : wipe σ2 vs = wipe σ vs := wipe_alike hlen al ht
        refine ⟨hw, ?_⟩
        have e3 : Ext O1 H1 O' H2 := e2.trans (ext_grow ex2)
        cases hc : c a2 with
        | none => rw [hc] at hl; cases hl
        | some z =>
          obtain ⟨z1, a3⟩ := z
          rw [hc] at hl
          cases z1 with
          | error er => cases hl
          | ok b =>
            refine ⟨_, O', a2, J2, op, _, hc, fun O3 H3 v J3 e4 rb => ?_⟩
            cases (show v = b from rb)
            have back : ∀ {O4 H4 a4 acc'}, SR X.kw (G.push D (.dk acc')) O4 σ2 H4 a4 → SR X.kw (G.push D (.dk acc')) O4 (wipe σ vs) H4 (wipeA a4 vs) := fun {O4 H4 a4 acc'} J4 =>
              J4.forget (by rw [hlen]; exact hv) (by rw [wipe_length, hlen]) fun i hi => by rw [← hw, wipe_get, if_neg hi]
            cases b with
            | false => exact ⟨O3, wipeA a3 vs, acc, e3.trans e4, back J3, hl⟩
            | true =>
              dsimp only at hl
              cases hk : mk a3 with
              | none => rw [hk] at hl; cases hl
              | some z =>
                obtain ⟨z1, a4⟩ := z
                rw [hk] at hl
                cases z1 with
                | error er => cases hl
                | ok x0 =>
                  dsimp only at hl
                  refine ⟨_, O3, a3, J3, op, _, hk, fun O4 H4 v J4 e5 rv => ?_⟩
                  cases hm : m a4 with
                  | none => rw [hm] at hl; cases hl
                  | some z =>
                    obtain ⟨z1, a5⟩ := z
                    rw [hm] at hl
                    cases z1 with
                    | error er => cases hl
                    | ok y =>
                      dsimp only at hl
                      refine ⟨_, O4, a4, J4, op, _, hm, fun O5 H5 v5 J5 e6 rv5 => ?_⟩
                      cases hkd : keyD x0 with
                      | none => rw [hkd] at hl; cases hl
                      | some k =>
                        rw [hkd] at hl
                        have hl' : (if acc.length < sizeLine then dcL t c mk m vs (items.drop (i + 1)) (putP acc k y) (wipeA a5 vs) else none) = some r := hl
                        split at hl'
                        · rename_i hz
                          obtain ⟨⟨hmD, _⟩, ⟨ho, hpD, cD⟩, _⟩ := J5.gh D (.dk acc) List.mem_cons_self
                          obtain ⟨kvs, rfl, q⟩ := cD.inv_dk
                          exact ⟨kvs, k, keyD_R rv hkd, hpD, by rw [q.length]; exact hz, O5, wipeA a5 vs, putP acc k y, (((e3.trans e4).trans e5).trans e6).trans (ext_own hmD), back (J5.ghSet (show Cont X.kw (hide O5 H5) D (.dK (putK kvs k v5)) (.dk (putP acc k y)) from q.put k rv5)), hl'⟩
                        · cases hl'
    · have e : i = items.length := by omega
      subst e
      rw [List.drop_length] at hl
      have hl' : some (acc, a') = some r := hl
      cases hl'
      refine .inl ⟨w.stop O' H' e2, ?_⟩
      obtain ⟨J4, rn4⟩ := J'.pop rfl
      have J5 : SR X.kw G O' σ H' (wipeA a' vs) := J4.forget (by rw [wipe_length]; exact hv) (wipe_length σ vs).symm fun i hi => by rw [wipe_get, if_neg hi]
      refine F O' H' (.ref D) J5 e2 (.inr (.inl ?_))
      obtain ⟨h1, p, ho, h2, h3, h4, h5, h6, h7, h8⟩ := rn4
      refine ⟨h1, p, ho, h2, h3, h4, h5, fun j u k1 k2 k3 => ?_, h7, h8⟩
      rcases wipeA_own k1 with ⟨n1, k1⟩ | k1
      · exact h6 j u k1 k2 (by rw [wipe_get, if_neg n1]; exact k3)
      · subst k1; cases k2
variable {kx vx tg iter : Expr} {ifs : List Expr} {scope : Scope} {own : List (Str × Nat)} {pos : Pos}
theorem px_dc {mi : M (List PyData)} {t : Tgt} {c : M Bool} {mk m : M PyData} (hc : X.calm = true) (hN : X.N.Nodup) (hi : PIM X W tg iter mi) (ok : BlkOk X.N X.env.scope scope own) (hs' : ∀ i ∈ t.slots, i ∈ own.map (·.2))
    (hg : ∀ (s : Shared) (H : Hp) (C : Addr) (cl : List (Str × Addr)) (fp : List Addr), PG (X.blk s H scope (compEnvC scope cl C X.env) fp) tg (t.rd X.kw)) (ht : ∀ (s : Shared) (H : Hp) (C : Addr) (cl : List (Str × Addr)) (fp : List Addr), PBs (X.blk s H scope (compEnvC scope cl C X.env) fp) (W0 W) ifs c)
    (hk : ∀ (s : Shared) (H : Hp) (C : Addr) (cl : List (Str × Addr)) (fp : List Addr), PD (X.blk s H scope (compEnvC scope cl C X.env) fp) (W0 W) kx mk)
    (he : ∀ (s : Shared) (H : Hp) (C : Addr) (cl : List (Str × Addr)) (fp : List Addr), PD (X.blk s H scope (compEnvC scope cl C X.env) fp) (W0 W) vx m) (hs : ∀ x, foldedSetIterable iter X.env x = Pure.pure x := by intro _; rfl) :
    PX X W (.DictComp kx vx [⟨tg, iter, ifs, 0⟩] scope pos) (mDc mi t c mk m (own.map (·.2))) := by
  have ht' : ∀ (s : Shared) (H : Hp) (C : Addr) (cl : List (Str × Addr)) (fp : List Addr), PTs (X.blk s H scope (compEnvC scope cl C X.env) fp) ifs (tM X.kw (W0 W) RB c) := fun s H C cl fp => blk_kw (X := X) hc ▸ ht s H C cl fp
  have hk' : ∀ (s : Shared) (H : Hp) (C : Addr) (cl : List (Str × Addr)) (fp : List Addr), PE (X.blk s H scope (compEnvC scope cl C X.env) fp) kx (tM X.kw (W0 W) (RD X.kw) mk) := fun s H C cl fp => blk_kw (X := X) hc ▸ hk s H C cl fp
  have he' : ∀ (s : Shared) (H : Hp) (C : Addr) (cl : List (Str × Addr)) (fp : List Addr), PE (X.blk s H scope (compEnvC scope cl C X.env) fp) vx (tM X.kw (W0 W) (RD X.kw) m) := fun s H C cl fp => blk_kw (X := X) hc ▸ he s H C cl fp
  exact ⟨fun pins s σ H Q I h => (pe_dc hc hN hi ok hg ht' hk' he' hs).run pins s σ H Q I (tM_dc hs' (by rw [I.len]; exact own_lt ok) h)⟩
end
end Am

/-! Am24: membership in sets, set(list), len of sets and dicts at places, d.pop, three names at once. -/
namespace Am
open PySem L2 PySem.Spec PyProof.Rows

/-! ### k in s, s a set at a place -/
def sHas (d : PyData) : Sl → Option Bool
  | .st is => match d with
    | .int k => some (decide (k ∈ is))
    | _ => none
  | _ => none
def mPIn (my : M PyData) (mp : M Pl) : M Bool := M.bind my fun d => M.bind mp fun pl => mRdP pl (sHas d)
def mPNotIn (my : M PyData) (mp : M Pl) : M Bool := M.bind my fun d => M.bind mp fun pl => mRdP pl fun s => (sHas d s).map not
theorem sHas_ok {K : KW} {O : Own} {H : Hp} {p : Addr} {ho : HO} {s : Sl} {y : V} {d : PyData} {b : Bool} (hp : H p = some ho) (c : Cont K (hide O H) p ho s) (r : R K (hide O H) y d) (h : sHas d s = some b) :
    ∃ k S n, y = V.int k ∧ H p = some (SetO K.w p S n) ∧ S k = b := by
  unfold sHas at h
  split at h
  · obtain ⟨S, n, rfl, nd, hn, hS⟩ := c.inv_st
    split at h
    · cases h
      cases r
      exact ⟨_, S, n, rfl, hp, hS _⟩
    · cases h
  · cases h
section
variable {X : Cx} {W : WB} {o i e : Expr} {mp : M Pl} {my mv : M PyData} {pos pos' : Pos}
theorem pb_pin (hy : PD X W i my) (hp : PPl X W o mp) (hm : behindInMarks .In o = false := by first | exact nomark _ | rfl | with_unfolding_all rfl) : PB X W (.Compare i [.In] [o] pos) (mPIn my mp) := by
  refine PT.imp (pt_cmpR or_sin hy hp hm) fun σ H Q ⟨G, O, a, q⟩ => ?_
  refine ⟨G, O, a, q.bind (RR := RD X.kw) fun O1 H1 a1 y d I1 e1 r1 q1 => ?_⟩
  refine ⟨G, O1, a1, q1.bind (RR := RPl) fun O2 H2 a2 v pl I2 e2 r2 q2 => ?_⟩
  obtain ⟨s, z, p, ho, hg, rfl, hm, hp', c, q3⟩ := q2.rdP r2
  obtain ⟨k, S, n, rfl, hS, rfl⟩ := sHas_ok hp' c (R.mono e2 _ _ r1) hg
  exact ⟨k, p, S, n, rfl, rfl, hS, _, rfl, q3.pureG (Ex.refl _) rfl⟩
theorem pb_pnotin (hy : PD X W i my) (hp : PPl X W o mp) (hm : behindInMarks .NotIn o = false := by first | exact nomark _ | rfl | with_unfolding_all rfl) : PB X W (.Compare i [.NotIn] [o] pos) (mPNotIn my mp) := by
  refine PT.imp (pt_cmpR or_snotin hy hp hm) fun σ H Q ⟨G, O, a, q⟩ => ?_
  refine ⟨G, O, a, q.bind (RR := RD X.kw) fun O1 H1 a1 y d I1 e1 r1 q1 => ?_⟩
  refine ⟨G, O1, a1, q1.bind (RR := RPl) fun O2 H2 a2 v pl I2 e2 r2 q2 => ?_⟩
  obtain ⟨s, z, p, ho, hg, rfl, hm, hp', c, q3⟩ := q2.rdP r2
  cases hb : sHas d s with
  | none => rw [hb] at hg; cases hg
  | some b =>
    rw [hb] at hg
    cases hg
    obtain ⟨k, S, n, rfl, hS, rfl⟩ := sHas_ok hp' c (R.mono e2 _ _ r1) hb
    exact ⟨k, p, S, n, rfl, rfl, hS, _, rfl, q3.pureG (Ex.refl _) rfl⟩
end
/-! ### set(list of ints) -/
theorem nodup_le : ∀ {l m : List Int}, l.Nodup → (∀ x ∈ l, x ∈ m) → l.length ≤ m.length
  | [], _, _, _ => Nat.zero_le _
  | x :: l, m, nd, h => by
    have nd' := List.nodup_cons.mp nd
    have hx := h x List.mem_cons_self
    have := nodup_le (l := l) (m := m.erase x) nd'.2 fun y hy => (List.mem_erase_of_ne (fun e => nd'.1 (by rw [← e]; exact hy))).mpr (h y (List.mem_cons_of_mem _ hy))
    rw [List.length_erase_of_mem hx] at this
    have hp : 0 < m.length := List.length_pos_of_mem hx
    rw [List.length_cons]
    omega
theorem sortU_nodup (l : List Int) : (sortU l).Nodup := (sortU_up l).imp fun h => by omega
theorem setR_len {w : World} {h : Heap} {a : Addr} {ns : List Int} {c : Nat} (R : SetR w h a (fun j => decide (j ∈ ns)) c) : c = (sortU ns).length := by
  obtain ⟨o, es, ep, t, ho, _, hd, _, nd, hS, _, _, hn, _⟩ := R
  have l1 : (es.toList.map keyOf).length = c := by rw [List.length_map, Array.length_toList, hn]
  have a1 := nodup_le (m := sortU ns) nd fun x hx => mem_sortU.mpr (of_decide_eq_true ((hS x).mpr hx))
  have a2 := nodup_le (l := sortU ns) (m := es.toList.map keyOf) (sortU_nodup ns) fun x hx => (hS x).mp (decide_eq_true (mem_sortU.mp hx))
  omega
def rSetL1 (K : PySem.W.Frag) (w : World) : List V → Hp → VK → Prop := fun vs H Q => ∃ (l : Addr) (ns : List Int), vs = [.ref l] ∧ SqL K H l (ns.map V.int) ∧ ns.length ≤ 60 ∧
  ∀ (p : Addr), H p = none → Q (.ref p) (upd H p (SetO w p (fun j => decide (j ∈ ns)) (sortU ns).length))
section
variable {X : Cx}
theorem cr_setL1 (hc : X.calm = true) : CallR X (.type "set") (rSetL1 X.K X.w) := by
  intro pins s σ H vs us Q I r h
  obtain ⟨l, ns, rfl, hl, hn, q⟩ := h
  rw [Vals.ref1 r]
  obtain ⟨its, rv, pl, _⟩ := I.list hl
  refine call_setL ns (I.ok.hd hc) pl.isList (by simpa using RZ.intsAre_vals rv) (by unfold scanBound; omega) fun h' tk c R hcn hk => ?_
  have e := setR_len R
  subst e
  exact ⟨.ref _, upd H s.heap.objs.size (SetO X.w s.heap.objs.size (fun j => decide (j ∈ ns)) _), I.laid (t' := tk) hk (Nat.le_refl _) (setO_new R), rfl, q _ (I.hok.fresh (Nat.le_refl _))⟩
end
def gSet1 : List PyData → Option Sl
  | [.list ds] => match intsD ds with
    | some ns => if ns.length ≤ 60 then some (.st (sortU ns)) else none
    | none => none
  | _ => none
theorem gSet1_ok {K : KW} : CX_ K (rSetL1 K.k K.w) gSet1 := by
  intro O H vs ds s Q th rp h q
  unfold gSet1 at h
  split at h
  · rename_i ds
    split at h
    · rename_i ns hns
      split at h
      · rename_i hl
        cases h
        obtain ⟨v, rfl, r⟩ := rp.one
        obtain ⟨p, xs, rfl, h1, h2⟩ := r.lst
        have e := intsD_some hns
        subst e
        have e2 := h2.ints
        subst e2
        exact ⟨p, ns, rfl, h1, hl, fun a na => q.new (Ex.new na) na (if_pos rfl) (show Cont K _ a (SetO K.w a _ _) (.st (sortU ns)) from ⟨_, _, rfl, sortU_nodup ns, rfl, fun i => by simp [mem_sortU]⟩)⟩
      · cases h
    · cases h
  · cases h
section
variable {X : Cx} {W : WB} {e : Expr} {p pos : Pos}
def mSet1 (m : M Hn) : M Sl := mCall (mHs m (M.pure [])) fun ds => nU (gSet1 ds)
theorem px_set1 {m : M Hn} (hc : X.calm = true) (hg : Gl X "set") (hm : X.mg "set" = none) (ha : PH X W e m) (he : starEach [e] X.env = (false, eval e X.env) :: starEach [] X.env := by rfl) (hpl : (backTo pos (starEach [] X.env)).any (·.1) = false := by rfl) :
    PX X W (.Call (.Name "set" p) [e] [] pos) (mSet1 m) :=
  PE.imp (pe_callTy (cr_setL1 hc) hg hm PyProof.Rows.boot_set (phs_cons ha phs_nil he) (he := he) (hpl := hpl)) fun σ H Q h =>
    tM_call (r := rSetL1 X.K X.w) (fun G O a H vs ds s I rs hs q => gSet1_ok O H vs ds s Q I.th rs (nU_some hs).1 (q.out (nU_some hs).2)) h
/-! ### len of what a place holds -/
def lenP : Sl → Option Int
  | .st is => some (is.length : Nat)
  | .dk kvs => some (kvs.length : Nat)
  | _ => none
end
section
variable {X : Cx} {W : WB} {e : Expr} {p pos : Pos}
def mLenP (mp : M Pl) : M PyData := M.bind mp fun pl => M.bind (mRdP pl lenP) fun n => M.pure (.int n)
theorem pd_lenP {mp : M Pl} (hg : Gl X "len") (hm : X.mg "len" = none) (h : PPl X W e mp) (he : starEach [e] X.env = (false, eval e X.env) :: starEach [] X.env := by rfl) (hpl : (backTo pos (starEach [] X.env)).any (·.1) = false := by rfl) :
    PD X W (.Call (.Name "len" p) [e] [] pos) (mLenP mp) := by
  refine PE.imp (pe_callB call_lenX hg hm PySem.boot_len (pa_cons h pa_nil he) (he := he) (hpl := hpl)) fun σ H Q ⟨G, O, a, q⟩ => ⟨G, O, a, q.bind (RR := RPl) fun O1 H1 a1 v pl I1 e1 r1 q1 => ?_⟩
  obtain ⟨I, op, y, ey, F⟩ := q1
  unfold M.bind at ey
  cases hz : mRdP pl lenP a1 with
  | none => rw [hz] at ey; cases ey
  | some x =>
    rw [hz] at ey
    obtain ⟨s, n, hs, ho, hg, rfl⟩ := mRdP_some hz
    cases ey
    obtain ⟨p, ho', rfl, hm, hp, c, _⟩ := I1.pl r1 hs ho
    refine ⟨p, rfl, ?_⟩
    cases s with
    | st is =>
      obtain ⟨S, k, rfl, nd, rfl, hS⟩ := c.inv_st
      cases hg
      exact .inl ⟨S, _, hp, F O1 H1 (.int _) I1 (Ext.refl _ _) (.int _)⟩
    | dk kvs =>
      obtain ⟨vs, rfl, r⟩ := c.inv_dk
      cases hg
      refine .inr ⟨vs, hp, ?_⟩
      rw [RK.length r]
      exact F O1 H1 (.int _) I1 (Ext.refl _ _) (.int _)
    | _ => cases hg
end
/-! ### d.pop(k) -/
def rPop1 : V → List V → Hp → VK → Prop := fun x xs H Q => ∃ a y v, x = .ref a ∧ xs = [y] ∧ ((∃ (kvs : List (Key × V)) (k : Key), H a = some (.dK kvs) ∧ y = kV k ∧ valV kvs k = some v ∧ Q v (upd H a (.dK (dropK kvs k)))) ∨
  ∃ (kvs : List (List Key × V)) (k : List Key) (b : Addr), H a = some (.dT kvs) ∧ y = .ref b ∧ H b = some (.tup (k.map kV)) ∧ valV kvs k = some v ∧ Q v (upd H a (.dT (dropK kvs k))))
section
variable {X : Cx}
theorem KT_without {H : Hp} (k : List Key) {kvs : List (List Key × V)} {xs : List (List Key × Addr × Value)} (r : KT H kvs xs) : KT H (dropK kvs k) (withoutH xs k) := by
  unfold dropK withoutH
  induction r with
  | nil => exact .nil
  | @cons p q ps qs h t ih =>
    obtain ⟨h1, h2⟩ := h
    rw [List.filter_cons, List.filter_cons]
    by_cases e : p.1 = k
    · rw [if_neg (by simp [e]), if_neg (by simp [h1.symm.trans e])]
      exact ih
    · have e' : ¬ q.1 = k := fun z => e (h1.trans z)
      rw [if_pos (by simp [e]), if_pos (by simp [e'])]
      exact .cons ⟨h1, h2⟩ ih
theorem mt_pop1 (hu : X.A.units + 1 < cLine) : MtR X "dict.pop" rPop1 := by
  intro pins s σ H x xs v us Q I rx rxs h
  obtain ⟨a, y, d, rfl, rfl, h⟩ := h
  cases rx
  obtain ⟨u, rfl, ry⟩ := vals1 rxs
  rcases h with ⟨kvs, k, ha, rfl, hv, q⟩ | ⟨kvs, k, b, ha, rfl, hb, hv, q⟩
  · exact d_pop I ha ry hv (.inl rfl) fun w' s' I' rw' => ⟨d, _, I', rw', q⟩
  · cases ry
    obtain ⟨z, hd, xs', rel, dd⟩ := dt_of I.hok ha
    have hz : xs'.length ≤ sizeLine := by rw [← Paired.length rel]; exact z
    refine call_meetsIn PySem.F.slot_dict_pop dd.typeIs PySem.F.entry_dict_pop (PySem.F.args_dict_pop_2 _ _) (meetsH_dict_pop (tupleKind (mixKind X.prog X.w)) a b hd [] (.inl rfl))
      ⟨tupleKind_room_in1 hu, k, xs', key_of I.hok hb, dd, hz, fun p hp h' dd' hs => ?_, fun hn => ?_⟩
    · have r := rel.val k
      rw [hv, hp] at r
      obtain ⟨o, es, ep, hq, h2, h3, h4, _, h5⟩ := dd'
      have I2 := d_write (t' := s.toks + (tupleKind (mixKind X.prog X.w)).draws k) I (by rw [ha]; exact True.intro) hs ⟨o, hq⟩ (ob := .dT (dropK kvs k)) ⟨Nat.le_trans (dropK_le kvs k) z, hd, _, (KT_without k rel).keeps (fun c ys ec => (by rw [upd_ne (ne_of ec ha (fun z => nomatch z))]; exact ec)), o, es, ep, hq, h2, h3, h4, h5⟩
      exact ⟨d, _, I2, r, q⟩
    · have r := rel.val k
      rw [hv, hn] at r
      exact (show False from r).elim
end
def gPop1 : List PyData → Sl → Option (PyData × Sl)
  | [d], .dk kvs => (keyD d).bind fun k => (valP kvs k).map fun v => (v, .dk (dropP kvs k))
  | [d], .dt kvs => (keyT d).bind fun k => (valP kvs k).map fun v => (v, .dt (dropP kvs k))
  | _, _ => none
theorem isDD_ty {K : KW} : ChkT K "dict" isDD := fun O H p ho s hp c h => by
  cases s with
  | dk kvs => obtain ⟨vs, rfl, _⟩ := c.inv_dk; exact .inr (.inr (.inl ⟨rfl, .inl ⟨_, hp⟩⟩))
  | dt kvs => obtain ⟨vs, rfl, _⟩ := c.inv_dt; exact .inr (.inr (.inl ⟨rfl, .inr ⟨_, hp⟩⟩))
  | _ => cases h
theorem gPop1_ok {K : KW} : MtG K rPop1 gPop1 := by
  intro O H p ho s vs ds d s' Q th hp c rv h q
  unfold gPop1 at h
  split at h
  · rename_i y kvs
    cases hk : keyD y with
    | none => rw [hk] at h; cases h
    | some k =>
      rw [hk] at h
      have h' : ((valP kvs k).map fun v => (v, Sl.dk (dropP kvs k))) = some (d, s') := h
      cases hv : valP kvs k with
      | none => rw [hv] at h'; cases h'
      | some v0 =>
        rw [hv] at h'
        cases h'
        obtain ⟨vs', rfl, r⟩ := c.inv_dk
        cases rv with
        | cons ry rn =>
          cases rn
          obtain ⟨w, hw, rw'⟩ := r.val_some hv
          rw [keyD_R ry hk]
          exact ⟨p, _, w, rfl, rfl, .inl ⟨vs', k, hp, rfl, hw, q _ _ (r.drop k) rw'⟩⟩
  · rename_i y kvs
    cases hk : keyT y with
    | none => rw [hk] at h; cases h
    | some k =>
      rw [hk] at h
      have h' : ((valP kvs k).map fun v => (v, Sl.dt (dropP kvs k))) = some (d, s') := h
      cases hv : valP kvs k with
      | none => rw [hv] at h'; cases h'
      | some v0 =>
        rw [hv] at h'
        cases h'
        obtain ⟨vs', rfl, r⟩ := c.inv_dt
        cases rv with
        | cons ry rn =>
          cases rn
          obtain ⟨w, hw, rw'⟩ := r.val_some hv
          obtain ⟨b, rfl, hb⟩ := keyT_R ry hk
          exact ⟨p, _, w, rfl, rfl, .inr ⟨vs', k, b, hp, rfl, (hide_ex _ _).h _ _ hb, hw, q _ _ (r.drop k) rw'⟩⟩
  · cases h
/-! ### three names at once -/
section
variable {K : KW}
theorem RSs.step {O : Own} {σ : L2.St} {H : Hp} {a a' : AEnv} {i : Nat} {v : V} {s : Sl} (hi' : i < σ.length) (h : putS i s a = some a') : ∀ {ws : List V} {ts : List Sl} (G1 G2 : Gd),
    (∀ p, (∃ u, (p, u) ∈ G2.gh) → ∃ u, (p, u) ∈ G1.gh) → (s.owned = true → ∀ p, v = .ref p → ∃ u, (p, u) ∈ G1.gh) → G2.B = G1.B → RSs K G1 O σ H a ws ts → RSs K G2 O (σ.set i (some v)) H a' ws ts
  | [], [], _, _, _, _, _, _ => trivial
  | [], _ :: _, _, _, _, _, _, h => h.elim
  | _ :: _, [], _, _, _, _, _, h => h.elim
  | w :: ws, t :: ts, G1, G2, hG, hv, hB, r => by
    obtain ⟨_, hi, ea⟩ := putS_some h
    obtain ⟨r1, r2⟩ := r
    refine ⟨?_, ?_⟩
    · rcases r1 with ⟨d, rfl, r⟩ | ⟨hs, p, ho, rfl, hm, hp, c, nb, ng, nB, nr⟩ | r
      · exact .inl ⟨d, rfl, r⟩
      · refine .inr (.inl ⟨hs, p, ho, rfl, hm, hp, c, fun j u h1 hu h2 => ?_, fun u hu => (by obtain ⟨u', z⟩ := hG p ⟨u, hu⟩; exact ng u' z), by rw [hB]; exact nB, nr⟩)
        subst ea
        by_cases e : i = j
        · subst e
          rw [List.getElem?_set_self hi] at h1
          rw [List.getElem?_set_self hi'] at h2
          cases h1
          cases h2
          obtain ⟨u', z⟩ := hv hu p rfl
          exact ng u' z
        · rw [List.getElem?_set_ne e] at h1 h2
          exact nb j u h1 hu h2
      · exact .inr (.inr r)
    · by_cases hs : t.owned = true
      · rw [if_pos hs] at r2 ⊢
        obtain ⟨q, rfl, r2⟩ := r2
        refine ⟨q, rfl, RSs.step hi' h (G1.push q t) (G2.push q t) (fun p ⟨u, z⟩ => ?_) (fun so p e => ?_) hB r2⟩
        · rcases List.mem_cons.mp z with e | z
          · cases e; exact ⟨_, List.mem_cons_self⟩
          · obtain ⟨u', z'⟩ := hG p ⟨u, z⟩; exact ⟨u', List.mem_cons_of_mem _ z'⟩
        · obtain ⟨u', z'⟩ := hv so p e; exact ⟨u', List.mem_cons_of_mem _ z'⟩
      · rw [if_neg hs] at r2 ⊢
        exact RSs.step hi' h G1 G2 hG hv hB r2
theorem RSs.next {G : Gd} {O : Own} {σ : L2.St} {H : Hp} {a a' : AEnv} {i : Nat} {v : V} {s : Sl} {ws : List V} {ts : List Sl} (hi' : i < σ.length) (rs : RSs K G O σ H a (v :: ws) (s :: ts)) (h : putS i s a = some a') : RSs K G O (σ.set i (some v)) H a' ws ts := by
  obtain ⟨r1, r2⟩ := rs
  by_cases hs : s.owned = true
  · rw [if_pos hs] at r2
    obtain ⟨p, rfl, r2⟩ := r2
    exact RSs.step hi' h (G.push p s) G (fun q ⟨u, z⟩ => ⟨u, List.mem_cons_of_mem _ z⟩) (fun _ q e => by injection e with e; subst e; exact ⟨_, List.mem_cons_self⟩) rfl r2
  · rw [if_neg hs] at r2
    exact RSs.step hi' h G G (fun _ z => z) (fun z => absurd z hs) rfl r2
end
section
variable {X : Cx} {W : WB} {pos : Pos}
def put3 (i j l : Nat) (s t u : Sl) : AEnv → Option AEnv := fun a => (putS i s a).bind fun a => (putS j t a).bind (putS l u)
def mPar3 (i j l : Nat) (m : M (List Sl)) : M Fl := M.bind m fun ss => match ss with
  | [s, t, u] => mPut (put3 i j l s t u)
  | _ => M.fail
theorem ms_par3 {i j l : Nat} {x y z : Str} {a b c : Expr} {px py pz pt : Pos} {kt k2 pt2} {m : M (List Sl)} (hc : X.calm = true) (hN : X.N.Nodup) (hi : X.N[i]? = some x) (hj : X.N[j]? = some y) (hl : X.N[l]? = some z) (hij : i ≠ j) (hil : i ≠ l) (hjl : j ≠ l)
    (hx : X.env.scope.names.lookup x = some .local) (hy : X.env.scope.names.lookup y = some .local) (hz : X.env.scope.names.lookup z = some .local) (ha : PXs X W [a, b, c] m)
    (hw : swappedStores [.Tuple [.Name x px, .Name y py, .Name z pz] kt pt] (.Tuple [a, b, c] k2 pt2) X.env = pure (some [x, y, z]))
    (hs : swapsWithSole [.Tuple [.Name x px, .Name y py, .Name z pz] kt pt] (.Tuple [a, b, c] k2 pt2) pos.line X.env = pure false := by rfl) :
    PSM X W (.Assign [.Tuple [.Name x px, .Name y py, .Name z pz] kt pt] (.Tuple [a, b, c] k2 pt2) pos) (mPar3 i j l m) :=
  ⟨fun pins s0 σ H D I0 ⟨G, O, a, q⟩ => (ps_par3 hc hN hi hj hl hij hil hjl hx hy hz ha hw hs).run pins s0 σ H D I0 (q.bind (RR := RSs X.kw) fun O1 H1 a1 vs ss I1 e1 r1 q1 => by
    have hn := r1.length
    match ss, vs, hn, r1, q1 with
    | [], _, _, _, q1 => obtain ⟨_, _, _, z, _⟩ := q1; cases z
    | [_], _, _, _, q1 => obtain ⟨_, _, _, z, _⟩ := q1; cases z
    | [_, _], _, _, _, q1 => obtain ⟨_, _, _, z, _⟩ := q1; cases z
    | _ :: _ :: _ :: _ :: _, _, _, _, q1 => obtain ⟨_, _, _, z, _⟩ := q1; cases z
    | [s, t, u], [v, w, z], _, r1, q1 =>
      obtain ⟨a', h1, h2⟩ := StAt.put q1
      unfold put3 at h1
      cases h3 : putS i s a1 with
      | none => rw [h3] at h1; cases h1
      | some a2 =>
        rw [h3] at h1
        have h1 : (putS j t a2).bind (putS l u) = some a' := h1
        cases h4 : putS j t a2 with
        | none => rw [h4] at h1; cases h1
        | some a3 =>
          rw [h4] at h1
          have si := slot_ok I0 hi
          have sj : j < (σ.set i (some v)).length := by rw [List.length_set]; exact slot_ok I0 hj
          have r2 := RSs.next si r1 h3
          have r3 := RSs.next sj r2 h4
          have I2 := I1.put si r1.1 h3
          have I3 := I2.put sj r2.1 h4
          exact ⟨v, w, z, rfl, h2 O1 _ H1 (I3.put (by rw [List.length_set, List.length_set]; exact slot_ok I0 hl) r3.1 h1) (Ext.refl _ _)⟩)⟩
end
/-! ### a new list times an int -/
def gReps : Sl → PyData → Option Sl
  | .lst ds, .int k => if -(2 ^ 63) ≤ k ∧ k < 2 ^ 63 ∧ ds.length * k.toNat ≤ 1000000 then some (.lst (List.replicate k.toNat ds).flatten) else none
  | _, _ => none
def mRep (m : M Sl) (mk : M PyData) : M Sl := M.bind m fun s => M.bind mk fun d => M.of (gReps s d)
section
variable {X : Cx} {W : WB} {a b : Expr} {m : M Sl} {mk : M PyData} {pos : Pos}
theorem px_rep (h : PX X W a m) (hk : PD X W b mk) : PX X W (.BinOp a .Mult b pos) (mRep m mk) := by
  refine PE.imp (pe_op op_rep h hk) fun σ H Q ⟨G, O, a, q⟩ => ⟨G, O, a, q.bind (RR := RS X.kw) fun O1 H1 a1 v s I1 e1 r1 q1 => ?_⟩
  rcases r1 with ⟨d, rfl, r⟩ | r | ⟨d, p, rfl, rfl, r⟩
  · exact ⟨G, O1, a1, q1.bind (RR := RD X.kw) fun O2 H2 a2 w e I2 e2 r2 q2 => by
      obtain ⟨s, hs, _⟩ := q2.of
      cases hs⟩
  · obtain ⟨hs', p, ho, rfl, hm, hp, c, nb, ng, nB, nr⟩ := id r
    have IP := I1.push r
    have q1' : At X.kw W (RS X.kw) (M.bind mk fun d => M.of (gReps s d)) G O1 a1 σ H1 Q := q1
    obtain ⟨_, op, x, ex, F⟩ := q1'
    refine ⟨G.push p s, O1, a1, IP, op, ?_⟩
    unfold M.bind at ex
    cases er : mk a1 with
    | none => rw [er] at ex; cases ex
    | some y =>
      refine ⟨y, rfl, ?_⟩
      obtain ⟨y1, a2⟩ := y
      rw [er] at ex
      cases y1 with
      | error e =>
        have ex' : (Except.error e, a2) = x := Option.some.inj ex
        subst ex'
        exact fun O' H' d I' e' q => F O' H' d (I'.pop hs').1 e' q
      | ok d =>
        have ex' : M.of (gReps s d) a2 = some x := ex
        intro O' H' w I' e' r'
        obtain ⟨I2, rn⟩ := I'.pop hs'
        obtain ⟨_, p', ho', ep, _, hp', c', _⟩ := rn
        cases ep
        have A : At X.kw W (RS X.kw) (M.of (gReps s d)) G O' a2 σ H' Q := ⟨I2, op, x, ex', by
          obtain ⟨x1, x2⟩ := x
          cases x1 with
          | ok r => exact fun O3 H3 v I3 e3 r3 => F O3 H3 v I3 (e'.trans e3) r3
          | error e => exact fun O3 H3 d I3 e3 r3 => F O3 H3 d I3 (e'.trans e3) r3⟩
        obtain ⟨z, hz, q3⟩ := A.of
        cases s with
        | lst ds =>
          cases d with
          | int k =>
            have hz' : (if -(2 ^ 63) ≤ k ∧ k < 2 ^ 63 ∧ ds.length * k.toNat ≤ 1000000 then some (Sl.lst (List.replicate k.toNat ds).flatten) else none) = some z := hz
            split at hz'
            · rename_i hc
              cases hz'
              obtain ⟨vs, rfl, rv⟩ := c'.inv_lst
              cases r'
              refine ⟨p, k, vs, rfl, rfl, hp', hc.1, hc.2.1, ?_, fun b nb => out_lst (q3.out (fun z => nomatch z)) nb (rv.repN _)⟩
              rw [rv.length, sizeLine_eq]
              omega
            · cases hz'
          | _ => cases hz
        | _ => cases hz
  · exact ⟨G, O1, a1, q1.bind (RR := RD X.kw) fun O2 H2 a2 w e I2 e2 r2 q2 => by
      obtain ⟨s, hs, _⟩ := q2.of
      cases hs⟩
end
end Am

/-! Am25: list comprehensions over a slot's own list, which stays the slot's own. -/
namespace Am
open PySem L2
def lcV (j : Nat) (t : Tgt) (c : M Bool) (m : M PyData) (vs : List Nat) : M Sl := fun a => match a[j]? with
  | some (.lst ds) => (lcL t c m vs ds [] (wipeA (a.set j .un) vs)).bind fun r => match (wipeA r.2 vs)[j]? with
    | some .un => (putS j (.lst ds) (wipeA r.2 vs)).map fun a' => (.ok (.lst r.1), a')
    | _ => none
  | _ => none
section
variable {K : KW} {W : WB}
theorem tM_lcV {jx : Nat} {t : Tgt} {c : M Bool} {m : M PyData} {vs : List Nat} (ht : ∀ i ∈ t.slots, i ∈ vs) {σ : St} {H : Hp} {Q : VK} (hv : ∀ i ∈ vs, i < σ.length) (hj : jx ∉ vs) (h : tM K W (RS K) (lcV jx t c m vs) σ H Q) :
    tLc (iList K.k (tVar jx)) (t.rd K) (tM K (W0 W) RB c) (tM K (W0 W) (RD K) m) vs σ H Q := by
  obtain ⟨G, O, a, q⟩ := h
  obtain ⟨I0, op, x, ex, F⟩ := q
  unfold lcV at ex
  split at ex
  case h_2 => cases ex
  rename_i items hs
  obtain ⟨p, ho, hv0, hmp, hpp, cp⟩ := I0.own hs rfl
  obtain ⟨ws, rfl, rws⟩ := cp.inv_lst
  refine ⟨_, hv0, p, rfl, ⟨ws, .inl (.inl hpp)⟩, ?_⟩
  have jl : jx < σ.length := I0.lt hs rfl
  have jla : jx < a.length := (List.getElem?_eq_some_iff.mp hs).1
  have I00 : SR K G O σ H (a.set jx .un) := I0.slot jl rfl fun _ _ => trivial
  have nb : ∀ (j : Nat) t, (a.set jx Sl.un)[j]? = some t → t.owned = true → σ[j]? ≠ some (some (.ref p)) := fun j t h1 h2 h3 => by
    by_cases e : jx = j
    · subst e
      rw [List.getElem?_set_self jla] at h1
      cases h1
      cases h2
    · rw [List.getElem?_set_ne e] at h1
      exact I0.inj jx j p _ _ e hs h1 rfl h2 hv0 h3
  have rp : RN K G O σ H (a.set jx .un) (.ref p) (.lst items) := ⟨rfl, p, .lst ws, rfl, hmp, hpp, cp, nb, fun t ht => (I0.gh p t ht).2.2 jx _ hs rfl hv0, I0.fr jx _ p hs rfl hv0, I0.rr.sl jx _ p hs rfl hv0⟩
  have I1 : SR K (G.push p (.lst items)) O σ H (a.set jx .un) := I00.push rp
  have e1 : Ext O H O H := Ext.refl _ _
  intro D hD
  have op1 : W.opn = true → (G.push p (.lst items)).opn = true := op
  generalize hG1 : G.push p (.lst items) = G1 at I1 op1
  generalize ha1 : a.set jx .un = a1 at I1 ex
  cases hr : lcL t c m vs items [] (wipeA a1 vs) with
  | none => rw [hr] at ex; cases ex
  | some r =>
    rw [hr] at ex
    have ex : (match (wipeA r.2 vs)[jx]? with
      | some .un => (putS jx (.lst items) (wipeA r.2 vs)).map fun a' => (Except.ok (Sl.lst r.1), a')
      | _ => none) = some x := ex
    split at ex
    case h_2 => cases ex
    rename_i hun
    cases hput : putS jx (.lst items) (wipeA r.2 vs) with
    | none => rw [hput] at ex; cases ex
    | some a9 =>
    rw [hput] at ex
    have ex' : (Except.ok (Sl.lst r.1), a9) = x := Option.some.inj ex
    subst ex'
    have I2 : SR K G1 (O.put D) σ (upd H D (.lst [])) a1 := I1.take (Ex.new hD) hD upd_same
    have rn : RN K G1 (O.put D) σ (upd H D (.lst [])) a1 (.ref D) (.lst []) := I1.isNew (Ex.new hD) hD upd_same (RAll.nil : RAll _ _ [] [])
    have I3 : SR K (G1.push D (.lst [])) (O.put D) (wipe σ vs) (upd H D (.lst [])) (wipeA a1 vs) :=
      (I2.push rn).forget hv (wipe_length σ vs) fun i hi => by rw [wipe_get, if_neg hi]
    have at_p : ∀ {acc : List PyData} {O' : Own} {σ' : St} {H' : Hp} {a' : AEnv}, SR K (G1.push D (.lst acc)) O' σ' H' a' → ∃ zs, H' p = some (.lst zs) ∧ RAll K.k (hide O' H') zs items := fun {acc O' σ' H' a'} J => by
      have hmem : (p, Sl.lst items) ∈ (G1.push D (.lst acc)).gh := by rw [← hG1]; exact List.mem_cons_of_mem _ List.mem_cons_self
      obtain ⟨_, ⟨ho, z1, z2⟩, _⟩ := J.gh p _ hmem
      obtain ⟨zs, rfl, z3⟩ := z2.inv_lst
      exact ⟨zs, z1, z3⟩
    refine ⟨fun i n H' => n = items.length - i ∧ i ≤ items.length ∧ ∃ O' a' acc, Ext O H O' H' ∧ SR K (G1.push D (.lst acc)) O' (wipe σ vs) H' a' ∧ lcL t c m vs (items.drop i) acc a' = some r,
      ⟨items.length, by simp, Nat.zero_le _, O.put D, wipeA a1 vs, [], ext_take I0.th (Ex.new hD) hD, I3, by simpa using hr⟩, ?_⟩
    rintro i n H' ⟨rfl, hi, O', a', acc, e2, J', hl⟩
    obtain ⟨zs, hz1, hz2⟩ := at_p J'
    by_cases hlt : i < items.length
    · refine .inr ⟨(by have hi' : i < zs.length := (by rw [hz2.length]; exact hlt); exact ⟨zs, zs[i], .inl (.inl hz1), by simp [hi']⟩), fun H' => ∃ O' a' acc, Ext O H O' H' ∧ SR K (G1.push D (.lst acc)) O' (wipe σ vs) H' a' ∧ lcL t c m vs (items.drop (i + 1)) acc a' = some r,
        fun H2 q2 => ⟨items.length - (i + 1), by omega, rfl, hlt, q2⟩, fun x H2 y => ?_⟩
      obtain ⟨rfl, y⟩ := y
      obtain ⟨d, hd, rd⟩ := hz2.getV i (y zs (.inl (.inl hz1)))
      have ex2 : Ex H2 H2 := Ex.refl _
      have hdr : items.drop i = d :: items.drop (i + 1) := by
        rw [List.drop_eq_getElem_cons hlt]
        have : items[i] = d := by
          have h2 : items[i]? = some items[i] := by simp [hlt]
          rw [h2] at hd
          exact Option.some.inj hd
        rw [this]
      rw [hdr] at hl
      unfold lcL at hl
      cases h1 : t.put d a' with
      | none => rw [h1] at hl; cases hl
      | some a2 =>
        rw [h1] at hl
        dsimp only at hl
        refine t.run (J'.grow ex2) rd h1 fun σ2 J2 al => ?_
        have hlen : σ2.length = σ.length := by
          have z1 := J2.len
          have z2 := J'.len
          rw [wipe_length] at z2
          rw [Tgt.put_length t h1] at z1
          omega
        have hw : wipe σ2 vs = wipe σ vs := wipe_alike hlen al ht
        refine ⟨hw, ?_⟩
        have e3 : Ext O H O' H2 := e2.trans (ext_grow ex2)
        cases hc : c a2 with
        | none => rw [hc] at hl; cases hl
        | some z =>
          obtain ⟨z1, a3⟩ := z
          rw [hc] at hl
          cases z1 with
          | error er => cases hl
          | ok b =>
            refine ⟨_, O', a2, J2, op1, _, hc, fun O3 H3 v J3 e4 rb => ?_⟩
            cases (show v = b from rb)
            have back : ∀ {O4 H4 a4 acc'}, SR K (G1.push D (.lst acc')) O4 σ2 H4 a4 → SR K (G1.push D (.lst acc')) O4 (wipe σ vs) H4 (wipeA a4 vs) := fun {O4 H4 a4 acc'} J4 =>
              J4.forget (by rw [hlen]; exact hv) (by rw [wipe_length, hlen]) fun i hi => by rw [← hw, wipe_get, if_neg hi]
            cases b with
            | false => exact ⟨O3, wipeA a3 vs, acc, e3.trans e4, back J3, hl⟩
            | true =>
              dsimp only at hl
              cases hm : m a3 with
              | none => rw [hm] at hl; cases hl
              | some z =>
                obtain ⟨z1, a4⟩ := z
                rw [hm] at hl
                cases z1 with
                | error er => cases hl
                | ok y =>
                  have hl' : (if acc.length < lineN then lcL t c m vs (items.drop (i + 1)) (acc ++ [y]) (wipeA a4 vs) else none) = some r := hl
                  split at hl'
                  · rename_i hz
                    refine ⟨_, O3, a3, J3, op1, _, hm, fun O4 H4 v J4 e5 rv => ?_⟩
                    obtain ⟨⟨hmD, _⟩, ⟨ho, hpD, cD⟩, _⟩ := J4.gh D (.lst acc) List.mem_cons_self
                    obtain ⟨vs', rfl, rr⟩ := cD.inv_lst
                    have rl : RAll K (hide O4 H4) (vs' ++ [v]) (acc ++ [y]) := rr.append (.cons rv .nil)
                    refine ⟨vs', hpD, by rw [rr.length, line_eq]; exact hz, O4, wipeA a4 vs, acc ++ [y], ((e3.trans e4).trans e5).trans (ext_own hmD), back (J4.ghSet rl), hl'⟩
                  · cases hl'
    · have e : i = items.length := by omega
      subst e
      rw [List.drop_length] at hl
      have hl' : some (acc, a') = some r := hl
      cases hl'
      refine .inl ⟨⟨zs, .inl (.inl hz1), Nat.le_of_eq hz2.length⟩, ?_⟩
      obtain ⟨J4, rn4⟩ := J'.pop rfl
      rw [← hG1] at J4 rn4
      -- the list comes back to its slot
      have J5 : SR K (G.push p (.lst items)) O' σ H' (wipeA a' vs) := J4.forget (by rw [wipe_length]; exact hv) (wipe_length σ vs).symm fun i hi => by rw [wipe_get, if_neg hi]
      have rn5 : RN K (G.push p (.lst items)) O' σ H' (wipeA a' vs) (.ref D) (.lst acc) := by
        obtain ⟨h1, p0, ho, h2, h3, h4, h5, h6, h7, h8⟩ := rn4
        refine ⟨h1, p0, ho, h2, h3, h4, h5, fun j u k1 k2 k3 => ?_, h7, h8⟩
        rcases wipeA_own k1 with ⟨n1, k1⟩ | k1
        · exact h6 j u k1 k2 (by rw [wipe_get, if_neg n1]; exact k3)
        · subst k1; cases k2
      obtain ⟨J6, rp6⟩ := J5.pop rfl
      have J7 := J6.put jl (.inr (.inl rp6)) hput
      have es : σ.set jx (some (V.ref p)) = σ := by
        apply List.ext_getElem?
        intro k
        by_cases e : jx = k
        · subst e
          rw [List.getElem?_set_self jl, hv0]
        · rw [List.getElem?_set_ne e]
      rw [es] at J7
      have rs : RSs K G O' σ H' (wipeA a' vs) [.ref p, .ref D] [.lst items, .lst acc] := ⟨.inr (.inl rp6), by
        rw [if_pos (show (Sl.lst items).owned = true from rfl)]
        exact ⟨p, rfl, .inr (.inl rn5), by rw [if_pos (show (Sl.lst acc).owned = true from rfl)]; exact ⟨D, rfl, trivial⟩⟩⟩
      have rs2 := RSs.next jl rs hput
      rw [es] at rs2
      exact F O' H' (.ref D) J7 e2 rs2.1
end
section
variable {X : Cx} {W : WB} {elt tg : Expr} {y : Str} {ypos : Pos} {ifs : List Expr} {scope : Scope} {own : List (Str × Nat)} {pos : Pos}
theorem px_lcV {t : Tgt} {c : M Bool} {m : M PyData} (j : Nat) (hc : X.calm = true) (hN : X.N.Nodup) (ok : BlkOk X.N X.env.scope scope own) (hs' : ∀ i ∈ t.slots, i ∈ own.map (·.2)) (hj : j ∉ own.map (·.2))
    (hg : ∀ (s : Shared) (H : Hp) (C : Addr) (cl : List (Str × Addr)) (fp : List Addr), PG (X.blk s H scope (compEnvC scope cl C X.env) fp) tg (t.rd X.kw)) (ht : ∀ (s : Shared) (H : Hp) (C : Addr) (cl : List (Str × Addr)) (fp : List Addr), PBs (X.blk s H scope (compEnvC scope cl C X.env) fp) (W0 W) ifs c)
    (he : ∀ (s : Shared) (H : Hp) (C : Addr) (cl : List (Str × Addr)) (fp : List Addr), PD (X.blk s H scope (compEnvC scope cl C X.env) fp) (W0 W) elt m) (hs : ∀ x, foldedSetIterable (.Name y ypos) X.env x = Pure.pure x := by intro _; rfl)
    (hyN : X.N[j]? = some y := by rfl) (hyv : Vis X.env.scope y := by first | exact Or.inl rfl | exact Or.inr (Or.inl rfl) | exact Or.inr (Or.inr rfl)) (hd : (y == ("__debug__" : Str)) = false := by decide)
    (hcd : (y == ("__classdict__" : Str)) = false := by decide) :
    PX X W (.ListComp elt [⟨tg, .Name y ypos, ifs, 0⟩] scope pos) (lcV j t c m (own.map (·.2))) := by
  have ht' : ∀ (s : Shared) (H : Hp) (C : Addr) (cl : List (Str × Addr)) (fp : List Addr), PTs (X.blk s H scope (compEnvC scope cl C X.env) fp) ifs (tM X.kw (W0 W) RB c) := fun s H C cl fp => blk_kw (X := X) hc ▸ ht s H C cl fp
  have he' : ∀ (s : Shared) (H : Hp) (C : Addr) (cl : List (Str × Addr)) (fp : List Addr), PE (X.blk s H scope (compEnvC scope cl C X.env) fp) elt (tM X.kw (W0 W) (RD X.kw) m) := fun s H C cl fp => blk_kw (X := X) hc ▸ he s H C cl fp
  have hi : PI X tg (.Name y ypos) (iList X.K (tVar j)) := pi_list (pe_var (i := j) hyN hyv hd hcd)
  exact ⟨fun pins s σ H Q I h => (pe_lc hc hN hi ok hg ht' he' hs).run pins s σ H Q I (tM_lcV hs' (by rw [I.len]; exact own_lt ok) hj h)⟩
end
end Am

/-! Am26: running mirrors: places, dicts, sets, zip, looking methods. -/
namespace Am
open PySem L2
section
variable {α β γ : Type} {a : AEnv}
@[simp] theorem owned_dt (d : List (List Key × PyData)) : (Sl.dt d).owned = true := rfl
@[simp] theorem mZip_app (m k : M PyData) : mZip m k a = nxt (m a) fun d => M.bind k fun e => M.of (gZip d e) := by rw [mZip, bind_app]
@[simp] theorem gZip_l (xs ys : List PyData) : gZip (.list xs) (.list ys) = some (zipD xs ys) := rfl
@[simp] theorem gZip_t (xs ys : List PyData) : gZip (.tuple xs) (.tuple ys) = some (zipD xs ys) := rfl
@[simp] theorem mMh_app (mo : M Hn) (chk : PyData → Bool) (m : M (List PyData)) (g : PyData → List PyData → Option PyData) : mMh mo chk m g a = nxt (mo a) fun h => M.bind M.get fun a => M.bind (M.of (h a)) fun d0 => M.bind (M.of (if chk d0 then some () else none)) fun _ => M.bind m fun ds => M.bind M.get fun a => M.bind (M.of (h a)) fun d => M.of (g d ds) := by rw [mMh, bind_app]
@[simp] theorem isLD_l (ds : List PyData) : isLD (.list ds) = true := rfl
def plO (i : Nat) (a : AEnv) : Option Sl → Rs Pl
  | some s => if s.owned = true then some (.ok (.sl i), a) else none
  | none => none
@[simp] theorem mPlS_app (i : Nat) : mPlS i a = plO i a a[i]? := by
  unfold mPlS plO
  cases a[i]? <;> rfl
@[simp] theorem plO_dk (i : Nat) (d : List (Key × PyData)) : plO i a (some (.dk d)) = some (.ok (.sl i), a) := rfl
@[simp] theorem plO_dt (i : Nat) (d : List (List Key × PyData)) : plO i a (some (.dt d)) = some (.ok (.sl i), a) := rfl
@[simp] theorem plO_st (i : Nat) (d : List Int) : plO i a (some (.st d)) = some (.ok (.sl i), a) := rfl
@[simp] theorem plO_lst (i : Nat) (d : List PyData) : plO i a (some (.lst d)) = some (.ok (.sl i), a) := rfl
def rdO {γ : Type} (g : Sl → Option γ) (a : AEnv) : Option Sl → Rs γ
  | some s => if s.owned then (g s).map fun r => (.ok r, a) else none
  | none => none
@[simp] theorem mRdP_app (i : Nat) (g : Sl → Option γ) : mRdP (.sl i) g a = rdO g a a[i]? := by
  cases h : a[i]? <;> simp [mRdP, plGet, h, rdO]
@[simp] theorem rdO_dk (g : Sl → Option γ) (d : List (Key × PyData)) : rdO g a (some (.dk d)) = (g (.dk d)).map fun r => (.ok r, a) := rfl
@[simp] theorem rdO_dt (g : Sl → Option γ) (d : List (List Key × PyData)) : rdO g a (some (.dt d)) = (g (.dt d)).map fun r => (.ok r, a) := rfl
@[simp] theorem rdO_st (g : Sl → Option γ) (d : List Int) : rdO g a (some (.st d)) = (g (.st d)).map fun r => (.ok r, a) := rfl
@[simp] theorem mUpP_app (i : Nat) (g : Sl → Option (γ × Sl)) : mUpP (.sl i) g a = upO i g a a[i]? := by
  cases h : a[i]? <;> simp [mUpP, plGet, plSet, h, upO]
@[simp] theorem upO_dk (i : Nat) (g : Sl → Option (γ × Sl)) (ds : List (Key × PyData)) : upO i g a (some (.dk ds)) = (g (.dk ds)).map fun r => (.ok r.1, a.set i r.2) := rfl
@[simp] theorem upO_dt (i : Nat) (g : Sl → Option (γ × Sl)) (ds : List (List Key × PyData)) : upO i g a (some (.dt ds)) = (g (.dt ds)).map fun r => (.ok r.1, a.set i r.2) := rfl
@[simp] theorem mChkP_app (i : Nat) (chk : Sl → Bool) : mChkP (.sl i) chk a = chkO chk a a[i]? := by
  cases h : a[i]? <;> simp [mChkP, plGet, h, chkO]
@[simp] theorem mDGet_app (mp : M Pl) (my : M PyData) : mDGet mp my a = nxt (mp a) fun pl => M.bind my fun d => mRdP pl fun s => (dGet s d).bind id := by rw [mDGet, bind_app]
@[simp] theorem mDGet1_app (mp : M Pl) (my : M PyData) : mDGet1 mp my a = nxt (mp a) fun pl => M.bind (mChkP pl isDD) fun _ => M.bind my fun d => mRdP pl fun s => (dGet s d).map fun o => o.getD .none := by rw [mDGet1, bind_app]
@[simp] theorem mDGet2_app (mp : M Pl) (my mz : M PyData) : mDGet2 mp my mz a = nxt (mp a) fun pl => M.bind (mChkP pl isDD) fun _ => M.bind my fun d => M.bind mz fun z => mRdP pl fun s => (dGet s d).map fun o => o.getD z := by rw [mDGet2, bind_app]
@[simp] theorem mDIn_app (my : M PyData) (mp : M Pl) : mDIn my mp a = nxt (my a) fun d => M.bind mp fun pl => mRdP pl fun s => (dGet s d).map Option.isSome := by rw [mDIn, bind_app]
@[simp] theorem mDNotIn_app (my : M PyData) (mp : M Pl) : mDNotIn my mp a = nxt (my a) fun d => M.bind mp fun pl => mRdP pl fun s => (dGet s d).map fun o => !o.isSome := by rw [mDNotIn, bind_app]
@[simp] theorem mDPut_app (mv : M PyData) (mp : M Pl) (my : M PyData) : mDPut mv mp my a = nxt (mv a) fun e => M.bind mp fun pl => M.bind my fun d => M.bind (mUpP pl fun s => (dPut s d e).map fun s' => ((), s')) fun _ => M.pure .nx := by rw [mDPut, bind_app]
@[simp] theorem mPIn_app (my : M PyData) (mp : M Pl) : mPIn my mp a = nxt (my a) fun d => M.bind mp fun pl => mRdP pl (sHas d) := by rw [mPIn, bind_app]
@[simp] theorem mPNotIn_app (my : M PyData) (mp : M Pl) : mPNotIn my mp a = nxt (my a) fun d => M.bind mp fun pl => mRdP pl fun s => (sHas d s).map not := by rw [mPNotIn, bind_app]
@[simp] theorem sHas_int (k : Int) (is : List Int) : sHas (.int k) (.st is) = some (decide (k ∈ is)) := rfl
@[simp] theorem mMtP_app (mp : M Pl) (chk : Sl → Bool) (m : M (List PyData)) (g : List PyData → Sl → Option (PyData × Sl)) : mMtP mp chk m g a = nxt (mp a) fun pl => M.bind (mChkP pl chk) fun _ => M.bind m fun ds => mUpP pl (g ds) := by rw [mMtP, bind_app]
@[simp] theorem isDD_dk (d : List (Key × PyData)) : isDD (.dk d) = true := rfl
@[simp] theorem isDD_dt (d : List (List Key × PyData)) : isDD (.dt d) = true := rfl
@[simp] theorem mLenP_app (mp : M Pl) : mLenP mp a = nxt (mp a) fun pl => M.bind (mRdP pl lenP) fun n => M.pure (.int n) := by rw [mLenP, bind_app]
@[simp] theorem mLenX_app (m : M Sl) : mLenX m a = nxt (m a) fun s => M.bind (M.of (lenS s)) fun n => M.pure (.int n) := by rw [mLenX, bind_app]
@[simp] theorem mSet1_app (m : M Hn) : mSet1 m a = mCall (mHs m (M.pure [])) (fun ds => nU (gSet1 ds)) a := rfl
@[simp] theorem mRep_app (m : M Sl) (mk : M PyData) : mRep m mk a = nxt (m a) fun s => M.bind mk fun d => M.of (gReps s d) := by rw [mRep, bind_app]
@[simp] theorem mRev_app (m : M Hn) : mRev m a = nxt (m a) fun h => M.bind M.get fun a => M.bind (M.of (h a)) fun d => M.of (revD d) := by rw [mRev, bind_app]
@[simp] theorem nU_st (is : List Int) : nU (some (.st is)) = some (.st is) := rfl
@[simp] theorem nU_dk (is : List (Key × PyData)) : nU (some (.dk is)) = some (.dk is) := rfl
@[simp] theorem lenS_st (is : List Int) : lenS (.st is) = some ((is.length : Nat) : Int) := rfl
@[simp] theorem lenS_dk (is : List (Key × PyData)) : lenS (.dk is) = some ((is.length : Nat) : Int) := rfl
@[simp] theorem mRgL1_app (m : M PyData) : mRgL1 m a = nxt (m a) fun d => M.of (gRgL (.int 0) d) := by rw [mRgL1, bind_app]
@[simp] theorem mRgL2_app (m k : M PyData) : mRgL2 m k a = nxt (m a) fun d => M.bind k fun e => M.of (gRgL d e) := by rw [mRgL2, bind_app]
theorem mSc_app (mi : M (List PyData)) (t : Tgt) (c : M Bool) (m : M PyData) (vs : List Nat) : mSc mi t c m vs a = nxt (mi a) fun items a1 => (scL t c m vs items [] (wipeA a1 vs)).map fun r => (.ok (.st r.1), wipeA r.2 vs) := by rw [mSc, bind_app]
theorem mDc_app (mi : M (List PyData)) (t : Tgt) (c : M Bool) (mk m : M PyData) (vs : List Nat) : mDc mi t c mk m vs a = nxt (mi a) fun items a1 => (dcL t c mk m vs items [] (wipeA a1 vs)).map fun r => (.ok (.dk r.1), wipeA r.2 vs) := by rw [mDc, bind_app]
def par3S (i j l : Nat) : List Sl → M Fl
  | [s, t, u] => mPut (put3 i j l s t u)
  | _ => M.fail
@[simp] theorem par3S_three (i j l : Nat) (s t u : Sl) : par3S i j l [s, t, u] = mPut (put3 i j l s t u) := rfl
@[simp] theorem mPar3_app (i j l : Nat) (m : M (List Sl)) : mPar3 i j l m a = nxt (m a) (par3S i j l) := by
  rw [mPar3, bind_app]
  rfl
@[simp] theorem keyD_int (i : Int) : keyD (.int i) = some (.inl i) := rfl
@[simp] theorem keyD_str (i : Str) : keyD (.str i) = some (.inr i) := rfl
@[simp] theorem dGet_dk (kvs : List (Key × PyData)) (d : PyData) : dGet (.dk kvs) d = (keyD d).map (valP kvs) := rfl
@[simp] theorem dGet_dt (kvs : List (List Key × PyData)) (d : PyData) : dGet (.dt kvs) d = (keyT d).map (valP kvs) := rfl
@[simp] theorem dPut_dk (kvs : List (Key × PyData)) (d v : PyData) : dPut (.dk kvs) d v = if decide (kvs.length < sizeLine) then (keyD d).map fun k => .dk (putP kvs k v) else none := rfl
@[simp] theorem dPut_dt (kvs : List (List Key × PyData)) (d v : PyData) : dPut (.dt kvs) d v = if decide (kvs.length < sizeLine) then (keyT d).map fun k => .dt (putP kvs k v) else none := rfl
/-- a list comprehension by its parts -/
theorem lc_ret {mi : M (List PyData)} {t : Tgt} {c : M Bool} {m : M PyData} {vs : List Nat} {a1 a2 : AEnv} {items ys : List PyData} (h1 : mi a = some (.ok items, a1)) (h2 : lcL t c m vs items [] (wipeA a1 vs) = some (ys, a2)) : mLc mi t c m vs a = some (.ok (.lst ys), wipeA a2 vs) := by
  rw [mLc_app, h1]
  show (lcL t c m vs items [] (wipeA a1 vs)).map _ = _
  rw [h2]
  rfl
/-- range(n), n a small number (by rewriting: simp is slow at these bounds) -/
theorem gR1_of (j : Int) (h1 : -1000000000 ≤ j) (h2 : j ≤ 1000000000) : gR1 [.int j] = some (rangeD 0 j.toNat) := by
  have e : (2 : Int) ^ 62 = 4611686018427387904 := by decide
  show (if (decide (-(2 ^ 62) ≤ j) && decide (j < 2 ^ 62)) = true then some (rangeD 0 j.toNat) else none) = _
  rw [e, decide_eq_true (show -(4611686018427387904 : Int) ≤ j by omega), decide_eq_true (show j < 4611686018427387904 by omega)]
  rfl
theorem gR1_nat (n : Nat) (h : n ≤ 1000000000) : gR1 [.int (n : Int)] = some (rangeD 0 n) := by
  rw [gR1_of (n : Int) (by omega) (by omega), Int.toNat_natCast]
theorem gR2_of (i j : Int) (h1 : -1000000000 ≤ i) (h2 : i ≤ 1000000000) (h3 : -1000000000 ≤ j) (h4 : j ≤ 1000000000) : gR2 [.int i, .int j] = some (rangeD i (j - i).toNat) := by
  have e : (2 : Int) ^ 62 = 4611686018427387904 := by decide
  show (if ((decide (-(2 ^ 62) ≤ i) && decide (i < 2 ^ 62)) && (decide (-(2 ^ 62) ≤ j) && decide (j < 2 ^ 62))) = true then some (rangeD i (j - i).toNat) else none) = _
  rw [e, decide_eq_true (show -(4611686018427387904 : Int) ≤ j by omega), decide_eq_true (show j < 4611686018427387904 by omega), decide_eq_true (show -(4611686018427387904 : Int) ≤ i by omega), decide_eq_true (show i < 4611686018427387904 by omega)]
  rfl
theorem gLen_t (ds : List PyData) : gLen [.tuple ds] = some (.int (ds.length : Int)) := rfl
theorem gLen_l (ds : List PyData) : gLen [.list ds] = some (.int (ds.length : Int)) := rfl
/-- running a set comprehension whose turns are pure -/
theorem scL_map {δ : Type} {t : Tgt} {m : M PyData} {vs : List Nat} (enc : δ → PyData) (f : δ → Int) (a : AEnv) : ∀ (xs : List δ) (acc : List Int), acc.length + xs.length + 1 < 4096 →
    (∀ x ∈ xs, ∃ b1 b2, t.put (enc x) a = some b1 ∧ m b1 = some (.ok (.int (f x)), b2) ∧ wipeA b2 vs = a) → scL t (M.pure true) m vs (xs.map enc) acc a = some (xs.foldl (fun acc x => gAdd1 (f x) acc) acc, a)
  | [], acc, _, _ => by simp [scL]
  | x :: xs, acc, hz, h => by
    obtain ⟨b1, b2, e1, e2, e3⟩ := h x List.mem_cons_self
    have hz' : acc.length + (xs.length + 1) + 1 < 4096 := hz
    have hl : (gAdd1 (f x) acc).length ≤ acc.length + 1 := by rw [gAdd1_len]; split <;> omega
    have hs : acc.length + 1 < scanBound := by unfold scanBound; omega
    rw [List.map_cons, scL, e1]
    dsimp only
    rw [pure_app]
    dsimp only
    rw [e2]
    dsimp only
    rw [if_pos hs, e3, scL_map enc f a xs (gAdd1 (f x) acc) (by omega) fun y hy => h y (List.mem_cons_of_mem _ hy)]
    rfl
end
end Am

/-! Am27: xs[i], xs[j] = a pair, xs a slot's own list. -/
namespace Am
open PySem L2
section
variable {K : KW} {W : WB} {G : Gd} {O : Own} {a : AEnv} {σ : St} {H : Hp} {D : Ends}
theorem StAt.upB {γ : Type} {j : Nat} {g : Sl → Option (γ × Sl)} {f : γ → M Fl} (h : StAt K W (M.bind (mUp j g) f) G O a σ H D) : ∃ s r p ho, a[j]? = some s ∧ s.owned = true ∧ g s = some r ∧ σ[j]? = some (some (.ref p)) ∧ p ∈ O.l ∧ H p = some ho ∧ Cont K (hide O H) p ho s ∧
    ∀ ho', Cont K (hide O H) p ho' r.2 → StAt K W (f r.1) G O (a.set j r.2) σ (upd H p ho') D := by
  obtain ⟨I, op, x, e, F⟩ := h
  unfold M.bind at e
  cases hu : mUp j g a with
  | none => rw [hu] at e; cases e
  | some z =>
    rw [hu] at e
    obtain ⟨s, r, hs, ho, hg, rfl⟩ := mUp_some hu
    obtain ⟨p, hob, hv, hm, hp, c⟩ := I.own hs ho
    refine ⟨s, r, p, hob, hs, ho, hg, hv, hm, hp, c, fun ho' c2 => ⟨?_, op, x, e, F.ext (ext_but hm ex_upd)⟩⟩
    exact I.mut hs ho hv ex_upd upd_same (by rw [hide_own hm]; exact c2)
end
def mSwap (j : Nat) (me mi mk : M PyData) : M Fl := M.bind me fun d => match d with
  | .tuple [x, y] => M.bind (mChk j isL) fun _ => M.bind mi fun i => M.bind (mUp j (gSetI x i)) fun _ => M.bind (mChk j isL) fun _ => M.bind mk fun k => M.bind (mUp j (gSetI y k)) fun _ => M.pure .nx
  | _ => M.fail
section
variable {X : Cx} {W : WB} {e i k : Expr} {x : Str} {me mi mk : M PyData} {np np2 pos tpos tpos2 ppos : Pos} {kk : Nat}
theorem setI_at {O : Own} {σ : L2.St} {H : Hp} {a : AEnv} {G : Gd} {j : Nat} {d : PyData} {v w : V} {n : PyData} {f : Unit → M Fl} {D : Ends} {p : Addr} (hv : σ[j]? = some (some (.ref p))) (rd : R X.K (hide O H) v d) (rn : R X.K (hide O H) w n)
    (q : StAt X.kw W (M.bind (mUp j (gSetI d n)) f) G O a σ H D) (Z : Hp → Prop) (hz : ∀ H' a', StAt X.kw W (f ()) G O a' σ H' D → (∀ {u e}, R X.K (hide O H) u e → R X.K (hide O H') u e) → Z H') : L2.rSetL (.ref p) w v H Z := by
  obtain ⟨s, r, p', ho, hs, hso, hg, hv', hm, hp, c, k⟩ := q.upB
  rw [hv] at hv'
  cases hv'
  unfold gSetI at hg
  split at hg
  · rename_i ds
    obtain ⟨vs, rfl, rr⟩ := c.inv_lst
    split at hg
    · rename_i kk
      cases hx : ixN ds.length kk with
      | none => rw [hx] at hg; cases hg
      | some m =>
        rw [hx] at hg
        cases hg
        cases rn
        refine ⟨p, vs, kk, m, rfl, rfl, hp, by rw [rr.length]; exact hx, ?_⟩
        exact hz _ _ (k _ (rr.set rd m)) fun {u e} z => by rw [hide_own hm]; exact z
    · cases hg
  · cases hg
theorem ms_swap (j : Nat) (hc : X.calm = true) (he : PD X W e me) (hi : PD X W i mi) (hk : PD X W k mk)
    (hN : X.N[j]? = some x := by rfl) (hv : Vis X.env.scope x := by first | exact Or.inl rfl | exact Or.inr (Or.inl rfl) | exact Or.inr (Or.inr rfl)) (hd : (x == ("__debug__" : Str)) = false := by decide)
    (hcd : (x == ("__classdict__" : Str)) = false := by decide)
    (ha : ∀ v, assign (.Subscript (.Name x np) i tpos) X.env v = (do
      let ov ← holding [v] (eval (.Name x np) X.env)
      let iv ← holding [v, ov] (eval i X.env)
      standAt tpos
      holding [v, ov, iv] (setItem ov iv v)
      release [v, ov, iv] []) := by intro _; rfl)
    (ha2 : ∀ v, assign (.Subscript (.Name x np2) k tpos2) X.env v = (do
      let ov ← holding [v] (eval (.Name x np2) X.env)
      let iv ← holding [v, ov] (eval k X.env)
      standAt tpos2
      holding [v, ov, iv] (setItem ov iv v)
      release [v, ov, iv] []) := by intro _; rfl)
    (hs1 : (assignEach [.Subscript (.Name x np) i tpos, .Subscript (.Name x np2) k tpos2] X.env).map (·.2) = assign (.Subscript (.Name x np) i tpos) X.env :: (assignEach [.Subscript (.Name x np2) k tpos2] X.env).map (·.2) := by rfl)
    (hs2 : (assignEach [.Subscript (.Name x np2) k tpos2] X.env).map (·.2) = assign (.Subscript (.Name x np2) k tpos2) X.env :: (assignEach [] X.env).map (·.2) := by rfl)
    (hn : (assignEach [.Subscript (.Name x np) i tpos, .Subscript (.Name x np2) k tpos2] X.env).length = 2 := by rfl) (hst : (assignEach [.Subscript (.Name x np) i tpos, .Subscript (.Name x np2) k tpos2] X.env).findIdx? (·.1) = none := by rfl)
    (hs : swapsWithSole [.Tuple [.Subscript (.Name x np) i tpos, .Subscript (.Name x np2) k tpos2] kk ppos] e pos.line X.env = pure false := by rfl) (hw : swappedStores [.Tuple [.Subscript (.Name x np) i tpos, .Subscript (.Name x np2) k tpos2] kk ppos] e X.env = pure none := by rfl)
    (h1 : (assignEach [.Tuple [.Subscript (.Name x np) i tpos, .Subscript (.Name x np2) k tpos2] kk ppos] X.env).map (·.2) = [assign (.Tuple [.Subscript (.Name x np) i tpos, .Subscript (.Name x np2) k tpos2] kk ppos) X.env] := by rfl) :
    PSM X W (.Assign [.Tuple [.Subscript (.Name x np) i tpos, .Subscript (.Name x np2) k tpos2] kk ppos] e pos) (mSwap j me mi mk) := by
  refine PS.imp (ps_asg he (pg_tup hc (pgs_cons (pg_sub (pe_var (i := j) hN hv hd hcd) hi set_list ha) (pgs_cons (pg_sub (pe_var (i := j) hN hv hd hcd) hk set_list ha2) pgs_nil hs2) hs1) hn hst) hs hw h1) fun D σ H ⟨G, O, a, q⟩ => ?_
  refine q.bind (RR := RD X.kw) fun O1 H1 a1 v d I1 e1 r1 q1 => ?_
  split at q1
  case h_2 =>
    obtain ⟨_, _, z, ez, _⟩ := q1
    cases ez
  rename_i y1 y2
  cases r1 with
  | @tup b xs _ ht hr =>
    cases hr with
    | @cons v1 _ _ _ rv1 hr =>
      cases hr with
      | @cons v2 _ _ _ rv2 hr =>
        cases hr
        refine ⟨b, [v1, v2], rfl, SqT.of ((hide_ex _ _).h _ _ ht), rfl, v1, [v2], rfl, ?_⟩
        obtain ⟨s, hs', hso, hck, q2⟩ := q1.chkd
        obtain ⟨p, ho, hvp, hm, hp, c⟩ := I1.own hs' hso
        refine ⟨_, hvp, q2.bind (RR := RD X.kw) fun O2 H2 a2 w n I2 e2 r2 q3 => ?_⟩
        refine setI_at hvp (R.mono e2 _ _ rv1) r2 q3 _ fun H3 a3 q4 keep => ⟨v2, [], rfl, ?_⟩
        obtain ⟨s3, hs3, hso3, hck3, q5⟩ := q4.chkd
        obtain ⟨p3, ho3, hvp3, _⟩ := q4.1.own hs3 hso3
        refine ⟨_, hvp3, q5.bind (RR := RD X.kw) fun O4 H4 a4 w4 n4 I4 e4 r4 q6 => ?_⟩
        refine setI_at hvp3 (R.mono e4 _ _ (keep (R.mono e2 _ _ rv2))) r4 q6 _ fun H5 a5 q7 _ => ⟨rfl, ?_⟩
        obtain ⟨I7, _, z, ez, F7⟩ := q7
        cases ez
        exact F7 _ σ H5 I7 (Ext.refl _ _)
end
end Am

/-! Am28: tuples of ints compared by < and >. -/
namespace Am
open PySem L2
/-- which stands first, told by the first pair that differs -/
theorem first_lex (ns ms : List Int) : ∀ (n k : Nat), k + n = min ns.length ms.length →
    SeqAt.firstLt (fun j => decide (ns.getD j 0 = ms.getD j 0)) (fun j => decide (ms.getD j 0 < ns.getD j 0)) (decide (ms.length < ns.length)) (List.range' k n) = lexL (ms.drop k) (ns.drop k)
  | 0, k, h => by
    show decide (ms.length < ns.length) = _
    by_cases h1 : ms.length < ns.length
    · rw [List.drop_of_length_le (by omega : ms.length ≤ k), List.drop_eq_getElem_cons (by omega : k < ns.length)]
      exact decide_eq_true h1
    · rw [decide_eq_false h1, List.drop_of_length_le (by omega : ns.length ≤ k)]
      cases ms.drop k <;> rfl
  | n + 1, k, h => by
    have h1 : k < ns.length := by omega
    have h2 : k < ms.length := by omega
    have e1 : ns.getD k 0 = ns[k] := by rw [List.getD_eq_getElem?_getD, List.getElem?_eq_getElem h1]; rfl
    have e2 : ms.getD k 0 = ms[k] := by rw [List.getD_eq_getElem?_getD, List.getElem?_eq_getElem h2]; rfl
    rw [List.range'_succ, List.drop_eq_getElem_cons h1, List.drop_eq_getElem_cons h2, ← e1, ← e2]
    unfold lexL
    by_cases e : ns.getD k 0 = ms.getD k 0
    · rw [SeqAt.firstLt_yes (decide_eq_true e), if_pos e.symm]
      exact first_lex ns ms n (k + 1) (by omega)
    · rw [SeqAt.firstLt_no (decide_eq_false e), if_neg (fun z => e z.symm)]
theorem lexLt_eq : ∀ a b : List Int, HT.lexLt a b = lexL a b
  | [], [] => rfl
  | [], _ :: _ => rfl
  | _ :: _, [] => rfl
  | x :: a, y :: b => by
    rw [HT.lexLt_cons, lexLt_eq a b]
    rfl
def rGtT (K : PySem.W.Frag) : R2 := fun x y H Q => ∃ (a b : Addr) (ns ms : List Int), x = .ref a ∧ y = .ref b ∧ SqT K H a (ns.map V.int) ∧ SqT K H b (ms.map V.int) ∧ Q (.bl (lexL ms ns)) H
section
variable {X : Cx}
theorem op_gtT (hu : X.A.units < cLine) : OpR X (compareOp .Gt) (rGtT X.K) := by
  intro pins s σ H x y v u Q I rx ry h
  obtain ⟨a, b, ns, ms, rfl, rfl, ha, hb, q⟩ := h
  cases rx
  cases ry
  obtain ⟨its, r1, p1, _⟩ := I.tuple ha
  obtain ⟨its2, r2, p2, _⟩ := I.tuple hb
  have i1 : PyProof.Rows.IntsAre its ns := Vals.ints r1
  have i2 : PyProof.Rows.IntsAre its2 ms := Vals.ints r2
  have e1 : its.toArray.size = ns.length := by rw [List.size_toArray]; exact i1.length
  have e2 : its2.toArray.size = ms.length := by rw [List.size_toArray]; exact i2.length
  have at1 : ∀ j (h1 : j < its.toArray.size), ∃ t, its.toArray[j] = .int (ns.getD j 0) t := fun j h1 => PyProof.Rows.IntsAre.int_at i1 _ _ (by simp at h1; simp [h1])
  have at2 : ∀ j (h1 : j < its2.toArray.size), ∃ t, its2.toArray[j] = .int (ms.getD j 0) t := fun j h1 => PyProof.Rows.IntsAre.int_at i2 _ _ (by simp at h1; simp [h1])
  have R := SeqAt.RcOp.tuples_gt (A := X.A) (s := s) (e := fun j => decide (ns.getD j 0 = ms.getD j 0)) (r := fun j => decide (ms.getD j 0 < ns.getD j 0)) p1 p2 hu (fun j h1 h2 => by
    obtain ⟨t, et⟩ := at1 j h1
    obtain ⟨t', et'⟩ := at2 j h2
    rw [et, et']
    have z : (ns.getD j 0 == ms.getD j 0) = decide (ns.getD j 0 = ms.getD j 0) := by
      by_cases q : ns.getD j 0 = ms.getD j 0
      · rw [decide_eq_true q]; exact beq_iff_eq.mpr q
      · rw [decide_eq_false q]; exact beq_eq_false_iff_ne.mpr q
    rw [← z]
    exact SeqAt.EqAt.int_int _ _ _ _) (fun j h1 h2 _ => by
    obtain ⟨t, et⟩ := at1 j h1
    obtain ⟨t', et'⟩ := at2 j h2
    rw [et, et']
    exact Ob.RcOp.gt_int _ _ _ _)
  have fl := first_lex ns ms (min ns.length ms.length) 0 (by omega)
  rw [List.drop_zero, List.drop_zero, ← List.range_eq_range'] at fl
  rw [e1, e2] at R
  rw [show (decide (ns.length > ms.length)) = decide (ms.length < ns.length) from rfl, fl] at R
  have z : wpAny (model X.prog X.w) X.A (compareOp .Gt (.ref a) (.ref b)) (EP X pins σ Q) X.xe s := R X.prog X.w X.xe (EP X pins σ Q) ⟨.bl _, H, I, rfl, q⟩
  exact z
theorem op_ltA (hu : X.A.units + 64 < cLine) : OpR X (compareOp .Lt) (fun x y H Q => (rI0 fun i j => .bl (decide (i < j))) x y H Q ∨ rLtT X.kw.k x y H Q) := OpR.or op_lt (op_ltT (by omega))
theorem op_gtA (hu : X.A.units + 64 < cLine) : OpR X (compareOp .Gt) (fun x y H Q => (rI0 fun i j => .bl (decide (j < i))) x y H Q ∨ rGtT X.kw.k x y H Q) := OpR.or op_gt (op_gtT (by omega))
end
/-- ints, tuples of ints -/
def gLtA : B2
  | .tuple xs, .tuple ys => match intsD xs, intsD ys with
    | some ns, some ms => some (lexL ns ms)
    | _, _ => none
  | d, e => gLt d e
def gGtA : B2
  | .tuple xs, .tuple ys => match intsD xs, intsD ys with
    | some ns, some ms => some (lexL ms ns)
    | _, _ => none
  | d, e => gGt d e
theorem tupIntsR {K : KW} {O : Own} {H : Hp} {x : V} {xs : List PyData} {ns : List Int} (r : RP K O H x (.tuple xs)) (h : intsD xs = some ns) : ∃ a, x = .ref a ∧ SqT K.k H a (ns.map V.int) := by
  cases r.tupR with
  | @tup a vs _ h1 h2 =>
    have e := intsD_some h
    subst e
    rw [h2.ints] at h1
    exact ⟨a, rfl, SqT.of ((hide_ex _ _).h _ _ h1)⟩
theorem gLtA_ok {K : KW} : OpB K (fun x y H Q => (rI0 fun i j => .bl (decide (i < j))) x y H Q ∨ rLtT K.k x y H Q) gLtA := by
  intro O H x y d e s Q th rx ry hg q
  unfold gLtA at hg
  split at hg
  · split at hg
    · rename_i ns ms h1 h2
      cases hg
      obtain ⟨a, rfl, ha⟩ := tupIntsR rx h1
      obtain ⟨b, rfl, hb⟩ := tupIntsR ry h2
      exact .inr ⟨a, b, ns, ms, rfl, rfl, ha, hb, by rw [lexLt_eq]; exact q H (Ex.refl _)⟩
    · cases hg
  · exact .inl (gCmp_ok O H x y d e s Q th rx ry hg q)
theorem gGtA_ok {K : KW} : OpB K (fun x y H Q => (rI0 fun i j => .bl (decide (j < i))) x y H Q ∨ rGtT K.k x y H Q) gGtA := by
  intro O H x y d e s Q th rx ry hg q
  unfold gGtA at hg
  split at hg
  · split at hg
    · rename_i ns ms h1 h2
      cases hg
      obtain ⟨a, rfl, ha⟩ := tupIntsR rx h1
      obtain ⟨b, rfl, hb⟩ := tupIntsR ry h2
      exact .inr ⟨a, b, ns, ms, rfl, rfl, ha, hb, q H (Ex.refl _)⟩
    · cases hg
  · exact .inl (gCmp_ok O H x y d e s Q th rx ry hg q)
end Am

/-! Am29: two or three names take new things at once, where the pair is laid and unpacked (names that blocks see). -/
namespace Am
open PySem L2 PySem.Spec
section
variable {X : Cx} {pos : Pos}
theorem ps_parN {ts es : List Expr} {u : TGs} {ta : TA} {kt k2 : Nat} {pt pt2 : Pos} (hc : X.calm = true) (ha : PA X es ta) (h : PGs X ts u) (hz : ∀ vs σ H Q, u vs σ H Q → vs.length = ts.length) (hl : ts.length ≤ 1000)
    (hn : (assignEach ts X.env).length = ts.length) (hst : (assignEach ts X.env).findIdx? (·.1) = none) (hs : swapsWithSole [.Tuple ts kt pt] (.Tuple es k2 pt2) pos.line X.env = pure false) (hw : swappedStores [.Tuple ts kt pt] (.Tuple es k2 pt2) X.env = pure none)
    (h1 : (assignEach [.Tuple ts kt pt] X.env).map (·.2) = [assign (.Tuple ts kt pt) X.env]) :
    PS X (.Assign [.Tuple ts kt pt] (.Tuple es k2 pt2) pos) (fun D σ H => ta σ H fun vs H1 => u vs σ H1 D.nx) := by
  refine ⟨fun pins s σ H D I q => ?_⟩
  refine wpAny_Assign_stores (PyProof.Rows.Tuple_ (thn (ha.run _ pins s σ H _ I q) fun us s1 ⟨vs, H1, I1, r1, q1⟩ => ?_)) hs hw
  have hlen := hz _ _ _ _ q1
  have ul : us.length = vs.length := r1.length.symm
  refine wpAny_newObj_type ?_ (by show us.toArray.size ≤ sizeLine; rw [List.size_toArray, sizeLine_eq]; omega)
  have I2 : Inv X pins σ H1 { s1 with heap := s1.heap.push { cls := .type "tuple", data := .seq us.toArray } } := I1.kept (t' := s1.toks) fun b o e => Heap.get?_push_of_some _ e
  rw [h1]
  refine thn (PyProof.Rows.assign_Tuple_tuple (items := us.toArray) (I.ok.hd hc) (PyProof.Rows.IsTup.new s1.heap _) (by rw [List.size_toArray]; omega) hst fun h' hx' => ?_) fun _ s2 q => q
  have I3 := I2.kept (h' := h') (t' := s1.toks) fun b o e => hx' b o (Nat.ne_of_lt (Heap.lt_size e)) e
  exact h.run pins _ σ H1 vs us _ I3 r1 q1
end
section
variable {X : Cx} {W : WB} {pos : Pos}
theorem ms_parN2 {i j : Nat} {x y : Str} {a b : Expr} {px py pt : Pos} {kt k2 : Nat} {pt2 : Pos} {m : M (List Sl)} (hc : X.calm = true) (hN : X.N.Nodup) (hi : X.N[i]? = some x) (hj : X.N[j]? = some y)
    (hx : Loc X.env.scope x) (hy : Loc X.env.scope y) (ha : PXs X W [a, b] m)
    (hw : swappedStores [.Tuple [.Name x px, .Name y py] kt pt] (.Tuple [a, b] k2 pt2) X.env = pure none := by rfl)
    (hs : swapsWithSole [.Tuple [.Name x px, .Name y py] kt pt] (.Tuple [a, b] k2 pt2) pos.line X.env = pure false := by rfl)
    (hn : (assignEach [.Name x px, .Name y py] X.env).length = 2 := by rfl) (hst : (assignEach [.Name x px, .Name y py] X.env).findIdx? (·.1) = none := by rfl)
    (h1 : (assignEach [.Tuple [.Name x px, .Name y py] kt pt] X.env).map (·.2) = [assign (.Tuple [.Name x px, .Name y py] kt pt) X.env] := by rfl)
    (hs1 : (assignEach [.Name x px, .Name y py] X.env).map (·.2) = assign (.Name x px) X.env :: (assignEach [.Name y py] X.env).map (·.2) := by rfl) (hs2 : (assignEach [.Name y py] X.env).map (·.2) = assign (.Name y py) X.env :: (assignEach [] X.env).map (·.2) := by rfl)
    (hf : X.fn x = true ∨ X.env.scope.names.lookup x = some .local := by first | exact .inl rfl | exact .inr rfl) (hg : X.fn y = true ∨ X.env.scope.names.lookup y = some .local := by first | exact .inl rfl | exact .inr rfl) :
    PSM X W (.Assign [.Tuple [.Name x px, .Name y py] kt pt] (.Tuple [a, b] k2 pt2) pos) (mPar i j m) :=
  ⟨fun pins s0 σ H D I0 ⟨G, O, a, q⟩ => (ps_parN (u := gCons (gName i) (gCons (gName j) gNil)) hc ha (pgs_cons (pg_name hN hi hx hf) (pgs_cons (pg_name hN hj hy hg) pgs_nil hs2) hs1) (fun vs σ H Q ⟨v, r, e1, w, r2, e2, e3, _⟩ => by rw [e1, e2, e3]; rfl) (by show 2 ≤ 1000; decide) hn hst hs hw h1).run pins s0 σ H D I0 (q.bind (RR := RSs X.kw) fun O1 H1 a1 vs ss I1 e1 r1 q1 => by
    have hl := r1.length
    match ss, vs, hl, r1, q1 with
    | [], _, _, _, q1 => obtain ⟨_, _, _, z, _⟩ := q1; cases z
    | [_], _, _, _, q1 => obtain ⟨_, _, _, z, _⟩ := q1; cases z
    | _ :: _ :: _ :: _, _, _, _, q1 => obtain ⟨_, _, _, z, _⟩ := q1; cases z
    | [s, t], [v, w], _, r1, q1 =>
      obtain ⟨a', h1, h2⟩ := StAt.put q1
      unfold put2 at h1
      cases h3 : putS i s a1 with
      | none => rw [h3] at h1; cases h1
      | some a2 =>
        rw [h3] at h1
        have si := slot_ok I0 hi
        refine ⟨v, [w], rfl, w, [], rfl, rfl, ?_⟩
        exact h2 O1 _ H1 ((I1.put si r1.1 h3).put (by rw [List.length_set]; exact slot_ok I0 hj) (RSs.next si r1 h3).1 h1) (Ext.refl _ _))⟩
end
end Am

/-! Am30: sorted, of pairs (int, (int, int)). -/
namespace Am
open PySem L2 PySem.Spec
open PyProof.Rows (IsTup)
theorem isTup_keep {h h' : Heap} {a : Addr} {xs : Array Value} (x : IsTup h a xs) (k : ∀ b o, h.get? b = some o → o.cls = .type "tuple" → h'.get? b = some o) : IsTup h' a xs := by
  obtain ⟨o, ho, hc, r⟩ := x
  exact ⟨o, k _ _ ho hc, hc, r⟩
theorem isTup_inj {h : Heap} {a : Addr} {xs ys : Array Value} (x : IsTup h a xs) (y : IsTup h a ys) : xs = ys := by
  obtain ⟨o, ho, hc, n, d⟩ := x
  obtain ⟨o', ho', hc', n', d'⟩ := y
  rw [ho] at ho'
  cases ho'
  rw [d] at d'
  cases d'
  rfl
/-- (a, (b, c)) -/
def NestV (h : Heap) (v : Value) (ns : List Int) : Prop := ∃ (p q : Addr) (a b c : Int) (t t1 t2 : Tok), v = .ref p ∧ ns = [a, b, c] ∧ IsTup h p #[.int a t, .ref q] ∧ IsTup h q #[.int b t1, .int c t2]
theorem NestV.keeps {h h' : Heap} {v : Value} {ns : List Int} (x : NestV h v ns) (k : ∀ b o, h.get? b = some o → o.cls = .type "tuple" → h'.get? b = some o) : NestV h' v ns := by
  obtain ⟨p, q, a, b, c, t, t1, t2, e, e2, h1, h2⟩ := x
  exact ⟨p, q, a, b, c, t, t1, t2, e, e2, isTup_keep h1 k, isTup_keep h2 k⟩
theorem NestV.inj {h : Heap} {v : Value} {ns ms : List Int} (x : NestV h v ns) (y : NestV h v ms) : ns = ms := by
  obtain ⟨p, q, a, b, c, t, t1, t2, e, e2, h1, h2⟩ := x
  obtain ⟨p', q', a', b', c', t', t1', t2', e', e2', h1', h2'⟩ := y
  subst e
  cases e'
  have z := isTup_inj h1 h1'
  simp only [Array.mk.injEq, List.cons.injEq, Value.int.injEq, Value.ref.injEq, and_true] at z
  obtain ⟨⟨ea, _⟩, eq⟩ := z
  subst eq
  have z := isTup_inj h2 h2'
  simp only [Array.mk.injEq, List.cons.injEq, Value.int.injEq, and_true] at z
  rw [e2, e2', ea, z.1.1, z.2.1]
open Classical in
noncomputable def nkey (h : Heap) (v : Value) : List Int := if e : ∃ ns, NestV h v ns then e.choose else []
theorem nkey_of {h : Heap} {v : Value} {ns : List Int} (x : NestV h v ns) : nkey h v = ns := by
  have e : ∃ ns, NestV h v ns := ⟨ns, x⟩
  unfold nkey
  rw [dif_pos e]
  exact e.choose_spec.inj x
section
open PySem.W (keyToks keyToksAll)
theorem tok_int {a b : Int} {r t : List (Int ⊕ List Nat)} : PyProof.Rows.lexLt PyProof.Rows.itemOrd (.inl a :: r) (.inl b :: t) = if a = b then PyProof.Rows.lexLt PyProof.Rows.itemOrd r t else decide (a < b) := by
  by_cases e : a = b
  · subst e
    rw [if_pos rfl]
    exact PyProof.Rows.lex_self (O := PyProof.Rows.itemOrd) _ _ _
  · rw [if_neg e]
    have hne : (Sum.inl a : Int ⊕ List Nat) ≠ .inl b := fun z => e (Sum.inl.inj z)
    exact PyProof.Rows.lex_diff (O := PyProof.Rows.itemOrd) hne
theorem nest_toks (a b c a' b' c' : Int) : PyProof.Rows.lexLt PyProof.Rows.itemOrd (keyToksAll [.int a, .tuple [.int b, .int c]]) (keyToksAll [.int a', .tuple [.int b', .int c']]) = lexL [a, b, c] [a', b', c'] := by
  have e0 : PyProof.Rows.lexLt PyProof.Rows.itemOrd [] [] = false := rfl
  simp only [keyToksAll, keyToks, List.cons_append, List.nil_append, List.append_assoc]
  rw [tok_int, tok_int, tok_int, tok_int, tok_int, tok_int, tok_int, tok_int, tok_int, e0]
  simp only [if_true, lexL, ite_self]
end
section
variable {prog : Program} {w : World} {A : Around} {s : Shared}
theorem nest_firsts {h : Heap} : ∀ vs : List Value, (∀ v ∈ vs, ∃ ns, NestV h v ns) → ∃ fs, PySem.W.KatTups h vs fs ∧ fs.length = vs.length ∧ ∀ f ∈ fs, ∃ n t, f = Value.int n t
  | [], _ => ⟨[], .nil, rfl, fun _ z => by cases z⟩
  | v :: vs, x => by
    obtain ⟨fs, k, hl, hi⟩ := nest_firsts vs fun u hu => x u (List.mem_cons_of_mem _ hu)
    obtain ⟨ns, p, q, a, b, c, t, t1, t2, rfl, _, ⟨o, ho, hc, n, hd⟩, _⟩ := x v List.mem_cons_self
    refine ⟨.int a t :: fs, .cons ho hc hd rfl k, by simp [hl], fun f hf => ?_⟩
    rcases List.mem_cons.mp hf with rfl | hf
    · exact ⟨a, t, rfl⟩
    · exact hi f hf
theorem NestV.reads {h : Heap} {p : Addr} {ns : List Int} (x : NestV h (.ref p) ns) : ∃ (o : Obj) (n : Nat) (xs : Array Value) (a b c : Int) (as : List Addr), h.get? p = some o ∧ o.data = .seq xs n ∧ ns = [a, b, c] ∧ xs.size = 2 ∧ ReadsAll h xs.toList [.int a, .tuple [.int b, .int c]] as := by
  obtain ⟨p', q, a, b, c, t, t1, t2, e, e2, ⟨o, ho, hc, n, hd⟩, ⟨o2, ho2, hc2, n2, hd2⟩⟩ := x
  cases e
  exact ⟨o, n, _, a, b, c, _, ho, hd, e2, rfl, .cons (.int a t) (.cons (.tuple ho2 hc2 hd2 (.cons (.int b t1) (.cons (.int c t2) .nil))) .nil)⟩
theorem nest_sortable {a : Addr} {vs : List Value} (hu : A.units + 8 < cLine) (h2 : 2 ≤ vs.length) (x : ∀ v ∈ vs, ∃ ns, NestV s.heap v ns) (ha : ∀ o, s.heap.get? a = some o → o.cls ≠ .type "tuple") (k : Value → List Int) (hk : ∀ v ∈ vs, ∀ ns, NestV s.heap v ns → k v = ns) :
    SrtO.SortableO prog w A s a vs fun u v => lexL (k u) (k v) := by
  intro h' keep
  have kp : ∀ b o, s.heap.get? b = some o → o.cls = .type "tuple" → h'.get? b = some o := fun b o e c => keep b o (fun z => by subst z; exact ha o e c) e
  obtain ⟨fs, h1, h3, h4⟩ := nest_firsts (h := h') vs (fun v hv => (x v hv).imp fun ns z => z.keeps kp)
  refine ⟨PyProof.Rows.tuples' true, fun Q E hq => ?_, fun p q hm hm' => ?_⟩
  · refine PySem.W.kat_kind (T := .type "int") h1 (by omega) (fun f hf => ?_) (by rfl) ?_
    · obtain ⟨n, t, rfl⟩ := h4 f hf
      exact PySem.W.Looks.now
    · have e : (Value.type "int" != Value.type "tuple") = true := by first | decide +kernel | rfl
      rw [e]
      exact hq
  · obtain ⟨ns, t1⟩ := x _ hm
    obtain ⟨ms, t2⟩ := x _ hm'
    have e1 := hk _ hm _ t1
    have e2 := hk _ hm' _ t2
    obtain ⟨pa, ep⟩ : ∃ pa, p.1 = .ref pa := t1.imp fun p h => by obtain ⟨_, _, _, _, _, _, _, e, _⟩ := h; exact e
    obtain ⟨qa, eq⟩ : ∃ qa, q.1 = .ref qa := t2.imp fun p h => by obtain ⟨_, _, _, _, _, _, _, e, _⟩ := h; exact e
    have t1' := t1.keeps kp
    have t2' := t2.keeps kp
    rw [ep] at t1'
    rw [eq] at t2'
    obtain ⟨o, n, xs, a1, b1, c1, as, ho, hd, en, hsz, rd⟩ := t1'.reads
    obtain ⟨o', n', ys, a2, b2, c2, bs, ho', hd', em, hsz', rd'⟩ := t2'.reads
    show wpAny _ _ (PyProof.Rows.keyLt' (PyProof.Rows.tuples' true) p.1 q.1) (fun r s' => s' = _ ∧ r = lexL (k p.1) (k q.1)) _ _
    rw [e1, e2, ep, eq, en, em]
    refine PySem.W.kat_lt ho hd ho' hd' (PySem.W.katLex_alike _ _ 0 _ _ _ _ rd rd' (by rfl) ?_ ?_ ?_ ?_)
    · have : min (PyData.depthAll [.int a1, .tuple [.int b1, .int c1]]) (PyData.depthAll [.int a2, .tuple [.int b2, .int c2]]) ≤ 4 := by
        refine Nat.le_trans (Nat.min_le_left _ _) ?_
        simp [PyData.depthAll, PyData.depth]
      omega
    · intro _ _ x r t e
      cases e
      exact fun z => by cases z
    · rw [hsz, hsz']
      rfl
    · rw [nest_toks]
      exact ⟨rfl, rfl⟩
end
/-- sorted(xs), xs a list of pairs (int, (int, int)) -/
def NestI (K : PySem.W.Frag) (H : Hp) (x : V) (ns : List Int) : Prop := ∃ (p q : Addr) (a b c : Int), x = .ref p ∧ ns = [a, b, c] ∧ SqT K H p [.int a, .ref q] ∧ SqT K H q [.int b, .int c]
theorem NestI.raw {X : Cx} {pins : List (Addr × Obj)} {σ : St} {H : Hp} {s : Shared} (I : Inv X pins σ H s) {t : Addr} {ns : List Int} (h : NestI X.K H (.ref t) ns) : NestV s.heap (.ref t) ns := by
  obtain ⟨p, q, a, b, c, e, e2, h1, h2⟩ := h
  cases e
  obtain ⟨its, r1, p1, _⟩ := I.tuple h1
  obtain ⟨its2, r2, p2, _⟩ := I.tuple h2
  obtain ⟨t1, t2, rfl⟩ := Vals.int2 r2
  cases r1 with
  | cons x1 x2 =>
    cases x2 with
    | cons x2 x3 =>
      cases x3
      obtain ⟨t, rfl⟩ := x1
      cases x2
      exact ⟨_, _, _, _, _, _, _, _, rfl, e2, p1, p2⟩
def rSorted3 (K : PySem.W.Frag) : List V → Hp → VK → Prop := fun vs H Q => ∃ (a : Addr) (xs : List V), vs = [V.ref a] ∧ SqL K H a xs ∧ (∀ x ∈ xs, ∃ ns, NestI K H x ns) ∧
  ∀ (ys : List V) (p : Addr), ys.Perm xs → ys.Pairwise (fun x y => ∀ n m, NestI K H x n → NestI K H y m → lexL m n = false) → H p = none → Q (.ref p) (upd H p (.lst ys))
section
variable {X : Cx}
theorem cr_sorted3 (hu : X.A.units + 64 < cLine) : CallR X (.builtin "sorted") (rSorted3 X.K) := by
  intro pins s σ H vs us Q I r h
  obtain ⟨a, xs, rfl, hs, hx, q⟩ := h
  obtain ⟨its, rv, hl, hz⟩ := I.list hs
  rw [Vals.ref1 r]
  obtain ⟨e1, e2⟩ := bkV_refs rv fun x m => by
    obtain ⟨ns, ⟨t, _, _, _, _, e, _⟩⟩ := hx x m
    exact ⟨t, e⟩
  have tups : ∀ v ∈ its, ∃ ns, NestV s.heap v ns := fun v hv => by
    obtain ⟨t, rfl⟩ := e2 v hv
    obtain ⟨ns, hn⟩ := hx (.ref t) (by rw [e1]; exact List.mem_map.mpr ⟨_, hv, rfl⟩)
    exact ⟨ns, hn.raw I⟩
  refine SrtO.sorted_ord (ltv := fun u v => lexL (nkey s.heap u) (nkey s.heap v)) ⟨fun _ _ => lexL_asym, fun _ _ _ => lexL_tr⟩ hl.isList (by rw [← rv.length]; exact hz) (fun h2 h1 a' ha' kk => ?_) fun out o1 o2 => ?_
  · refine nest_sortable (s := { s with heap := h1 }) (by simp only [Around.in1_units]; omega) h2 (fun v hv => (tups v hv).imp fun ns z => z.keeps fun b o e _ => (kk b o e).2) (fun o e => ?_) _ fun v hv ns t => ?_
    · have e' : some o = some (PyProof.Rows.seqObj "list" its.toArray 0) := e.symm.trans ha'
      cases e'
      exact fun c => absurd (Value.type.inj c) (by decide)
    · obtain ⟨ms, t0⟩ := tups v hv
      rw [nkey_of t0]
      exact (t0.keeps fun b o e _ => (kk b o e).2).inj t
  · obtain ⟨ep, he'⟩ := PyProof.Rows.sortedAll_at s.heap its out.toArray
    have h3 : ∀ u ∈ out, ∃ a, u = Value.ref a := fun u hu => e2 u (o2.perm.mem_iff.mp hu)
    have hp : (out.map bkV).Perm xs := by
      rw [e1]
      exact o2.perm.map bkV
    have hlen : (out.map bkV).length ≤ sizeLine := by
      rw [hp.length_eq]
      exact hz
    refine ⟨.ref _, upd H (s.heap.objs.size + 1) (.lst (out.map bkV)), I.laid (t' := s.toks) (fun _ _ => PyProof.Rows.sortedAll_old) (Nat.le_succ _) ⟨hlen, out, ep, bkV_vals h3, he'⟩, rfl, q _ _ hp ?_ (I.hok.fresh (Nat.le_succ _))⟩
    rw [List.pairwise_map]
    refine List.Pairwise.imp (fun {u v} huv n m hn hm => ?_) o1
    obtain ⟨t, _, _, _, _, et, _⟩ := id hn
    obtain ⟨t', _, _, _, _, et', _⟩ := id hm
    have eu := bkV_ref et
    have ev := bkV_ref et'
    rw [et] at hn
    rw [et'] at hm
    have i1 : nkey s.heap u = n := by rw [eu]; exact nkey_of (hn.raw I)
    have i2 : nkey s.heap v = m := by rw [ev]; exact nkey_of (hm.raw I)
    rw [← i1, ← i2]
    exact huv
end
/-! ### the mirror -/
def nestI : PyData → Option (List Int)
  | .tuple [.int a, .tuple [.int b, .int c]] => some [a, b, c]
  | _ => none
def nestOf : List Int → PyData
  | [a, b, c] => .tuple [.int a, .tuple [.int b, .int c]]
  | _ => .none
def nestIs : List PyData → Option (List (List Int))
  | [] => some []
  | d :: ds => match nestI d, nestIs ds with
    | some n, some ns => some (n :: ns)
    | _, _ => none
theorem nestI_some {d : PyData} {ns : List Int} (h : nestI d = some ns) : d = nestOf ns ∧ ∃ a b c, ns = [a, b, c] := by
  unfold nestI at h
  split at h
  · cases h
    exact ⟨rfl, _, _, _, rfl⟩
  · cases h
theorem nestIs_some : ∀ {ds : List PyData} {ns : List (List Int)}, nestIs ds = some ns → ds = ns.map nestOf ∧ ∀ n ∈ ns, ∃ a b c, n = [a, b, c]
  | [], ns, h => by
    cases h
    exact ⟨rfl, fun _ z => by cases z⟩
  | d :: ds, ns, h => by
    unfold nestIs at h
    cases h1 : nestI d with
    | none => rw [h1] at h; cases h
    | some n =>
      cases h2 : nestIs ds with
      | none => rw [h1, h2] at h; cases h
      | some r =>
        rw [h1, h2] at h
        cases h
        obtain ⟨e1, e2⟩ := nestI_some h1
        obtain ⟨e3, e4⟩ := nestIs_some h2
        refine ⟨by rw [List.map_cons, ← e1, ← e3], fun m hm => ?_⟩
        rcases List.mem_cons.mp hm with rfl | hm
        · exact e2
        · exact e4 m hm
theorem nestIs_map : ∀ {ns : List (List Int)}, (∀ n ∈ ns, ∃ a b c, n = [a, b, c]) → nestIs (ns.map nestOf) = some ns
  | [], _ => rfl
  | n :: ns, h => by
    obtain ⟨a, b, c, e⟩ := h n List.mem_cons_self
    subst e
    rw [List.map_cons, nestIs, nestIs_map fun m hm => h m (List.mem_cons_of_mem _ hm)]
    rfl
/-- a list of pairs (int, (int, int)) -/
def gSorted3 : List PyData → Option Sl
  | [.list ds] => (nestIs ds).map fun ns => .lst ((srtL ns).map nestOf)
  | _ => none
section
variable {K : KW}
theorem R.nestI {H : Vw} {x : V} {ns : List Int} (hn : ∃ a b c, ns = [a, b, c]) (r : R K H x (nestOf ns)) : NestI K H.h x ns := by
  obtain ⟨a, b, c, rfl⟩ := hn
  have r : R K H x (.tuple [.int a, .tuple [.int b, .int c]]) := r
  cases r with
  | tup h1 h2 =>
    cases h2 with
    | cons r1 r2 =>
      cases r2 with
      | cons r2 r3 =>
        cases r3
        cases r1
        cases r2 with
        | tup h3 h4 =>
          cases h4 with
          | cons r1 r2 =>
            cases r2 with
            | cons r2 r3 =>
              cases r3
              cases r1
              cases r2
              exact ⟨_, _, _, _, _, rfl, rfl, SqT.of h1, SqT.of h3⟩
theorem NestI.up {O : Own} {H : Hp} {x : V} {n : List Int} (h : NestI K (hide O H).h x n) : NestI K H x n := by
  obtain ⟨p, q, a, b, c, e, e2, h1, h2⟩ := h
  exact ⟨p, q, a, b, c, e, e2, (hide_ex O H).h.t h1, (hide_ex O H).h.t h2⟩
theorem RAll.nestIs {H : Vw} : ∀ {xs : List V} {ns : List (List Int)}, (∀ n ∈ ns, ∃ a b c, n = [a, b, c]) → RAll K H xs (ns.map nestOf) → ∀ x ∈ xs, ∃ n ∈ ns, NestI K H.h x n
  | _, [], _, r, x, hx => by cases r; cases hx
  | _, n :: ns, h3, r, x, hx => by
    cases r with
    | cons r1 r2 =>
      rcases List.mem_cons.mp hx with rfl | hx
      · exact ⟨n, List.mem_cons_self, r1.nestI (h3 n List.mem_cons_self)⟩
      · obtain ⟨m, hm, t⟩ := RAll.nestIs (fun m hm => h3 m (List.mem_cons_of_mem _ hm)) r2 x hx
        exact ⟨m, List.mem_cons_of_mem _ hm, t⟩
theorem RAll.nasc {H : Vw} : ∀ {ys : List V} {ns : List (List Int)}, (∀ n ∈ ns, ∃ a b c, n = [a, b, c]) → RAll K H ys (ns.map nestOf) → ys.Pairwise (fun x y => ∀ n m, NestI K H.h x n → NestI K H.h y m → lexL m n = false) → Asc lexL ns
  | _, [], _, r, _ => List.Pairwise.nil
  | _, n :: ns, h3, r, p => by
    cases r with
    | cons r1 r2 =>
      obtain ⟨p1, p2⟩ := List.pairwise_cons.mp p
      refine List.pairwise_cons.mpr ⟨fun m hm => ?_, RAll.nasc (fun m hm => h3 m (List.mem_cons_of_mem _ hm)) r2 p2⟩
      obtain ⟨j, hj, e⟩ := List.getElem_of_mem hm
      obtain ⟨v, hv, rv⟩ := r2.get j (d := nestOf m) (by rw [List.getElem?_map, List.getElem?_eq_getElem hj, e] <;> rfl)
      exact p1 v (List.mem_of_getElem? hv) n m (r1.nestI (h3 n List.mem_cons_self)) (rv.nestI (h3 m (List.mem_cons_of_mem _ hm)))
theorem gSorted3_ok : CX_ K (rSorted3 K) gSorted3 := by
  intro O H vs ds s Q th rp h q
  unfold gSorted3 at h
  split at h
  · rename_i ds0
    obtain ⟨v, rfl, r⟩ := rp.one
    obtain ⟨p, us, rfl, h1, h2⟩ := r.lst
    cases hn : Am.nestIs ds0 with
    | none => rw [hn] at h; cases h
    | some ns =>
      rw [hn] at h
      cases h
      obtain ⟨rfl, ne⟩ := nestIs_some hn
      refine ⟨p, us, rfl, h1, fun x hx => ?_, fun ys b pm asc hb => ?_⟩
      · obtain ⟨n, hm, t⟩ := RAll.nestIs ne h2 x hx
        exact ⟨n, NestI.up t⟩
      · obtain ⟨es, p1, r1⟩ := RAll.perm pm h2
        obtain ⟨ns', p2, rfl⟩ := perm_of_map p1
        have a1 : Asc lexL ns' := RAll.nasc (fun m hm => ne m (p2.mem_iff.mp hm)) r1 (asc.imp fun {x y} k n m t1 t2 => k n m (NestI.up t1) (NestI.up t2))
        rw [srtL_eq p2 a1] at r1
        exact q _ b _ (Ex.new hb) hb upd_same (show RAll _ _ _ _ from r1)
  · cases h
end
theorem sorted_nests {ns : List (List Int)} (h : ∀ n ∈ ns, ∃ a b c, n = [a, b, c]) : gSorted3 [.list (ns.map nestOf)] = some (.lst ((srtL ns).map nestOf)) := by
  show (nestIs (ns.map nestOf)).map _ = _
  rw [nestIs_map h]
  rfl
end Am

/-! Am31: y = {..: .. for ..} and y = {.. for ..} on one line, y a local (the block stores before it goes). -/
namespace Am
open PySem L2
section
variable {X : Cx} {W : WB}
theorem ps_setDc {i : Nat} {y : Str} {py : Pos} {kx vx tg iter : Expr} {ifs : List Expr} {scope : Scope} {own : List (Str × Nat)} {pos spos : Pos} {wi : TI} {g : TG} {tt : TT} {tk tv : TE} (hc : X.calm = true) (hN : X.N.Nodup) (hy : X.N[i]? = some y) (hyl : X.env.scope.names.lookup y = some .local)
    (hsw : swapsWith (.DictComp kx vx [⟨tg, iter, ifs, 0⟩] scope pos) (some (.Name y py)) spos.line X.env = Pure.pure true) (hi : PI X tg iter wi) (ok : BlkOk X.N X.env.scope scope own)
    (hg : ∀ (s : Shared) (H : Hp) (C : Addr) (cl : List (Str × Addr)) (fp : List Addr), PG (X.blk s H scope (compEnvC scope cl C X.env) fp) tg g) (ht : ∀ (s : Shared) (H : Hp) (C : Addr) (cl : List (Str × Addr)) (fp : List Addr), PTs (X.blk s H scope (compEnvC scope cl C X.env) fp) ifs tt)
    (hk : ∀ (s : Shared) (H : Hp) (C : Addr) (cl : List (Str × Addr)) (fp : List Addr), PE (X.blk s H scope (compEnvC scope cl C X.env) fp) kx tk) (he : ∀ (s : Shared) (H : Hp) (C : Addr) (cl : List (Str × Addr)) (fp : List Addr), PE (X.blk s H scope (compEnvC scope cl C X.env) fp) vx tv) (hs : ∀ x, foldedSetIterable iter X.env x = Pure.pure x := by intro _; rfl) :
    PS X (.Assign [.Name y py] (.DictComp kx vx [⟨tg, iter, ifs, 0⟩] scope pos) spos) (tAsg (tDc wi g tt tk tv (own.map (·.2))) (gName i)) := by
  refine ⟨fun pins s σ H D I h => ?_⟩
  rw [exec_Assign_Name_used _ _ _ _ hsw]
  refine wpAny_bind (wpAny_standAt (wpAny_bind ?_))
  show wpAny _ X.A (do let _ ← comprehension (.DictComp kx vx [⟨tg, iter, ifs, 0⟩] scope pos) scope X.env (firstIterPos [⟨tg, iter, ifs, 0⟩] pos) newDict false (eval iter X.env) (some (assign (.Name y py) X.env))) _ _ s
  have h : (tDc wi g tt tk tv (own.map (·.2))) σ H (fun x H1 => gName i x σ H1 D.nx) := h
  refine wpAny_bind (thn (dc_core (Qf := fun _ s' => SP X pins D .next s') hc hN I hi ok hg ht hk he hs h fun L C s' m H' I' q hn f => ?_) fun _ s' hq => wpAny_pure (wpAny_pure hq))
  show wpAny _ _ (assign (.Name y py) X.env (.ref L)) _ _ _
  refine wpAny_assign_Name (store_ok2 (v := V.ref L) I' hN hy (.inl hyl) rfl (fun s2 I2 ⟨a, sb, ha⟩ => ?_) (.inr hyl))
  obtain ⟨f0, f1, f2, f3, f4, f5⟩ := f
  have haC : C ≠ a := by
    rcases ha with z | z
    · rw [z]; exact f1
    · exact fun e => f4 y a z e.symm
  refine ⟨m, hn.sameBut sb haC, fun h3 sb3 => ?_⟩
  exact ⟨_, H', I2.turned (t' := s2.toks) (fun b o hb e => (sb3.2 b hb).trans e) f0 f1 f3 f4 f5, q⟩
theorem ms_setDc {i : Nat} {y : Str} {py spos : Pos} {kx vx tg iter : Expr} {ifs : List Expr} {scope : Scope} {own : List (Str × Nat)} {pos : Pos} {mi : M (List PyData)} {t : Tgt} {c : M Bool} {mk m : M PyData} (hc : X.calm = true) (hN : X.N.Nodup) (hy : X.N[i]? = some y) (hyl : X.env.scope.names.lookup y = some .local)
    (hsw : swapsWith (.DictComp kx vx [⟨tg, iter, ifs, 0⟩] scope pos) (some (.Name y py)) spos.line X.env = Pure.pure true) (hi : PIM X W tg iter mi) (ok : BlkOk X.N X.env.scope scope own) (hs' : ∀ i ∈ t.slots, i ∈ own.map (·.2))
    (hg : ∀ (s : Shared) (H : Hp) (C : Addr) (cl : List (Str × Addr)) (fp : List Addr), PG (X.blk s H scope (compEnvC scope cl C X.env) fp) tg (t.rd X.kw)) (ht : ∀ (s : Shared) (H : Hp) (C : Addr) (cl : List (Str × Addr)) (fp : List Addr), PBs (X.blk s H scope (compEnvC scope cl C X.env) fp) (W0 W) ifs c)
    (hk : ∀ (s : Shared) (H : Hp) (C : Addr) (cl : List (Str × Addr)) (fp : List Addr), PD (X.blk s H scope (compEnvC scope cl C X.env) fp) (W0 W) kx mk) (he : ∀ (s : Shared) (H : Hp) (C : Addr) (cl : List (Str × Addr)) (fp : List Addr), PD (X.blk s H scope (compEnvC scope cl C X.env) fp) (W0 W) vx m) (hs : ∀ x, foldedSetIterable iter X.env x = Pure.pure x := by intro _; rfl) :
    PSM X W (.Assign [.Name y py] (.DictComp kx vx [⟨tg, iter, ifs, 0⟩] scope pos) spos) (mAsg i (mDc mi t c mk m (own.map (·.2)))) := by
  have ht' : ∀ (s : Shared) (H : Hp) (C : Addr) (cl : List (Str × Addr)) (fp : List Addr), PTs (X.blk s H scope (compEnvC scope cl C X.env) fp) ifs (tM X.kw (W0 W) RB c) := fun s H C cl fp => blk_kw (X := X) hc ▸ ht s H C cl fp
  have hk' : ∀ (s : Shared) (H : Hp) (C : Addr) (cl : List (Str × Addr)) (fp : List Addr), PE (X.blk s H scope (compEnvC scope cl C X.env) fp) kx (tM X.kw (W0 W) (RD X.kw) mk) := fun s H C cl fp => blk_kw (X := X) hc ▸ hk s H C cl fp
  have he' : ∀ (s : Shared) (H : Hp) (C : Addr) (cl : List (Str × Addr)) (fp : List Addr), PE (X.blk s H scope (compEnvC scope cl C X.env) fp) vx (tM X.kw (W0 W) (RD X.kw) m) := fun s H C cl fp => blk_kw (X := X) hc ▸ he s H C cl fp
  exact ⟨fun pins s σ H D I ⟨G, O, a, q⟩ => (ps_setDc hc hN hy hyl hsw hi ok hg ht' hk' he' hs).run pins s σ H D I (tM_dc hs' (by rw [I.len]; exact own_lt ok) (q.bind (RR := RS X.kw) fun O1 H1 a1 v s I1 e1 r1 q1 => by
    obtain ⟨a', h1, h2⟩ := q1.put
    exact h2 O1 _ H1 (I1.put (slot_ok I hy) r1 h1) (Ext.refl _ _)))⟩
theorem ps_setSc {i : Nat} {y : Str} {py : Pos} {elt tg iter : Expr} {ifs : List Expr} {scope : Scope} {own : List (Str × Nat)} {pos spos : Pos} {wi : TI} {g : TG} {tt : TT} {te : TE} (hc : X.calm = true) (hN : X.N.Nodup) (hy : X.N[i]? = some y) (hyl : X.env.scope.names.lookup y = some .local)
    (hsw : swapsWith (.SetComp elt [⟨tg, iter, ifs, 0⟩] scope pos) (some (.Name y py)) spos.line X.env = Pure.pure true) (hi : PI X tg iter wi) (ok : BlkOk X.N X.env.scope scope own)
    (hg : ∀ (s : Shared) (H : Hp) (C : Addr) (cl : List (Str × Addr)) (fp : List Addr), PG (X.blk s H scope (compEnvC scope cl C X.env) fp) tg g) (ht : ∀ (s : Shared) (H : Hp) (C : Addr) (cl : List (Str × Addr)) (fp : List Addr), PTs (X.blk s H scope (compEnvC scope cl C X.env) fp) ifs tt)
    (he : ∀ (s : Shared) (H : Hp) (C : Addr) (cl : List (Str × Addr)) (fp : List Addr), PE (X.blk s H scope (compEnvC scope cl C X.env) fp) elt te) (hs : ∀ x, foldedSetIterable iter X.env x = Pure.pure x := by intro _; rfl) :
    PS X (.Assign [.Name y py] (.SetComp elt [⟨tg, iter, ifs, 0⟩] scope pos) spos) (tAsg (tSc (X := X) wi g tt te (own.map (·.2))) (gName i)) := by
  refine ⟨fun pins s σ H D I h => ?_⟩
  rw [exec_Assign_Name_used _ _ _ _ hsw]
  refine wpAny_bind (wpAny_standAt (wpAny_bind ?_))
  show wpAny _ X.A (do let _ ← comprehension (.SetComp elt [⟨tg, iter, ifs, 0⟩] scope pos) scope X.env (firstIterPos [⟨tg, iter, ifs, 0⟩] pos) (newSet (.type "set")) false (eval iter X.env) (some (assign (.Name y py) X.env))) _ _ s
  have h : (tSc (X := X) wi g tt te (own.map (·.2))) σ H (fun x H1 => gName i x σ H1 D.nx) := h
  refine wpAny_bind (thn (sc_core (Qf := fun _ s' => SP X pins D .next s') hc hN I hi ok hg ht he hs h fun L C s' m H' I' q hn f => ?_) fun _ s' hq => wpAny_pure (wpAny_pure hq))
  show wpAny _ _ (assign (.Name y py) X.env (.ref L)) _ _ _
  refine wpAny_assign_Name (store_ok2 (v := V.ref L) I' hN hy (.inl hyl) rfl (fun s2 I2 ⟨a, sb, ha⟩ => ?_) (.inr hyl))
  obtain ⟨f0, f1, f2, f3, f4, f5⟩ := f
  have haC : C ≠ a := by
    rcases ha with z | z
    · rw [z]; exact f1
    · exact fun e => f4 y a z e.symm
  refine ⟨m, hn.sameBut sb haC, fun h3 sb3 => ?_⟩
  exact ⟨_, H', I2.turned (t' := s2.toks) (fun b o hb e => (sb3.2 b hb).trans e) f0 f1 f3 f4 f5, q⟩
theorem ms_setSc {i : Nat} {y : Str} {py spos : Pos} {elt tg iter : Expr} {ifs : List Expr} {scope : Scope} {own : List (Str × Nat)} {pos : Pos} {mi : M (List PyData)} {t : Tgt} {c : M Bool} {m : M PyData} (hc : X.calm = true) (hN : X.N.Nodup) (hy : X.N[i]? = some y) (hyl : X.env.scope.names.lookup y = some .local)
    (hsw : swapsWith (.SetComp elt [⟨tg, iter, ifs, 0⟩] scope pos) (some (.Name y py)) spos.line X.env = Pure.pure true) (hi : PIM X W tg iter mi) (ok : BlkOk X.N X.env.scope scope own) (hs' : ∀ i ∈ t.slots, i ∈ own.map (·.2))
    (hg : ∀ (s : Shared) (H : Hp) (C : Addr) (cl : List (Str × Addr)) (fp : List Addr), PG (X.blk s H scope (compEnvC scope cl C X.env) fp) tg (t.rd X.kw)) (ht : ∀ (s : Shared) (H : Hp) (C : Addr) (cl : List (Str × Addr)) (fp : List Addr), PBs (X.blk s H scope (compEnvC scope cl C X.env) fp) (W0 W) ifs c)
    (he : ∀ (s : Shared) (H : Hp) (C : Addr) (cl : List (Str × Addr)) (fp : List Addr), PD (X.blk s H scope (compEnvC scope cl C X.env) fp) (W0 W) elt m) (hs : ∀ x, foldedSetIterable iter X.env x = Pure.pure x := by intro _; rfl) :
    PSM X W (.Assign [.Name y py] (.SetComp elt [⟨tg, iter, ifs, 0⟩] scope pos) spos) (mAsg i (mSc mi t c m (own.map (·.2)))) := by
  have ht' : ∀ (s : Shared) (H : Hp) (C : Addr) (cl : List (Str × Addr)) (fp : List Addr), PTs (X.blk s H scope (compEnvC scope cl C X.env) fp) ifs (tM X.kw (W0 W) RB c) := fun s H C cl fp => blk_kw (X := X) hc ▸ ht s H C cl fp
  have he' : ∀ (s : Shared) (H : Hp) (C : Addr) (cl : List (Str × Addr)) (fp : List Addr), PE (X.blk s H scope (compEnvC scope cl C X.env) fp) elt (tM X.kw (W0 W) (RD X.kw) m) := fun s H C cl fp => blk_kw (X := X) hc ▸ he s H C cl fp
  exact ⟨fun pins s σ H D I ⟨G, O, a, q⟩ => (ps_setSc hc hN hy hyl hsw hi ok hg ht' he' hs).run pins s σ H D I (tM_sc hs' (by rw [I.len]; exact own_lt ok) (q.bind (RR := RS X.kw) fun O1 H1 a1 v s I1 e1 r1 q1 => by
    obtain ⟨a', h1, h2⟩ := q1.put
    exact h2 O1 _ H1 (I1.put (slot_ok I hy) r1 h1) (Ext.refl _ _)))⟩
end
end Am

/-! Am32: x is True, x is not True. -/
namespace Am
open PySem L2
section
variable {X : Cx}
theorem same_bl {x : V} {v : Value} {b : Bool} (r : RelV x v) : PySem.plainIs v (.bool b) = true ∧ (v == Value.bool b) = decide (x = .bl b) := by
  cases x with
  | bl c =>
    cases (show v = Value.bool c from r)
    refine ⟨rfl, ?_⟩
    cases b <;> cases c <;> rfl
  | non => cases (show v = Value.none from r); exact ⟨rfl, by rw [decide_eq_false (by simp)]; rfl⟩
  | int i => obtain ⟨t, rfl⟩ := r; exact ⟨rfl, by rw [decide_eq_false (by simp)]; rfl⟩
  | str i => obtain ⟨t, rfl⟩ := r; exact ⟨rfl, by rw [decide_eq_false (by simp)]; rfl⟩
  | byt i => obtain ⟨t, rfl⟩ := r; exact ⟨rfl, by rw [decide_eq_false (by simp)]; rfl⟩
  | flt i => obtain ⟨t, rfl⟩ := r; exact ⟨rfl, by rw [decide_eq_false (by simp)]; rfl⟩
  | ref a => cases (show v = Value.ref a from r); exact ⟨rfl, by rw [decide_eq_false (by simp)]; rfl⟩
  | ty n => cases (show v = Value.type n from r); exact ⟨rfl, by rw [decide_eq_false (by simp)]; rfl⟩
theorem op_isB : OpR X (compareOp .Is) (fun x y H Q => ∃ b, y = .bl b ∧ Q (.bl (decide (x = .bl b))) H) := by
  intro pins s σ H x y v u Q I rx ry h
  obtain ⟨b, rfl, q⟩ := h
  cases (show u = Value.bool b from ry)
  obtain ⟨h1, h2⟩ := same_bl (b := b) rx
  exact wpAny_is_plain h1 (fin_bl I q h2.symm)
theorem op_notB : OpR X (compareOp .IsNot) (fun x y H Q => ∃ b, y = .bl b ∧ Q (.bl (!decide (x = .bl b))) H) := by
  intro pins s σ H x y v u Q I rx ry h
  obtain ⟨b, rfl, q⟩ := h
  cases (show u = Value.bool b from ry)
  obtain ⟨h1, h2⟩ := same_bl (b := b) rx
  exact wpAny_isNot_plain h1 (fin_bl I q (congrArg not h2.symm))
end
def sameB (b : Bool) : PyData → Bool
  | .bool c => c == b
  | _ => false
def gIsB : B2
  | d, .bool b => some (sameB b d)
  | _, _ => none
def gNotB : B2
  | d, .bool b => some (!sameB b d)
  | _, _ => none
theorem R.sameB {K : PySem.W.Frag} {H : Vw} {x : V} {d : PyData} {b : Bool} (h : R K H x d) : decide (x = .bl b) = Am.sameB b d := by
  cases h with
  | bl c => cases b <;> cases c <;> rfl
  | _ => first | rfl | exact decide_eq_false (by simp)
theorem gIsB_ok {K : KW} : OpB K (fun x y H Q => ∃ b, y = .bl b ∧ Q (.bl (decide (x = .bl b))) H) gIsB := by
  intro O H x y d e s Q th rx ry hg q
  unfold gIsB at hg
  split at hg
  · rename_i b
    cases hg
    refine ⟨b, ?_, by rw [rx.full.sameB]; exact q H (Ex.refl _)⟩
    cases ry.full
    rfl
  · cases hg
theorem gNotB_ok {K : KW} : OpB K (fun x y H Q => ∃ b, y = .bl b ∧ Q (.bl (!decide (x = .bl b))) H) gNotB := by
  intro O H x y d e s Q th rx ry hg q
  unfold gNotB at hg
  split at hg
  · rename_i b
    cases hg
    refine ⟨b, ?_, by rw [rx.full.sameB]; exact q H (Ex.refl _)⟩
    cases ry.full
    rfl
  · cases hg
end Am

/-! Am33: sum(lists, []). -/
namespace Am
open PySem L2
section
variable {prog : Program} {w : World} {A : Around} {E : Value → Shared → Prop} {s : Shared}
theorem add_raw {l b : Addr} {its its2 : List Value} {Q : Value → Shared → Prop} (h1 : s.heap.IsList l its.toArray) (h2 : s.heap.IsList b its2.toArray) (hz : its.length + its2.length ≤ sizeLine)
    (h : Q (.ref s.heap.objs.size) { s with heap := s.heap.push { cls := .type "list", data := .seq (its ++ its2).toArray } }) : wpAny (model prog w) A (binaryOp .Add (.ref l) (.ref b)) Q E s := by
  obtain ⟨⟨cls, dd, data, sl⟩, ho, hc, n, hd⟩ := h1
  obtain ⟨⟨cls2, dd2, data2, sl2⟩, ho2, hc2, n2, hd2⟩ := h2
  simp only at hc hd hc2 hd2
  subst hc hd hc2 hd2
  refine concat_meets ⟨_, ho, rfl⟩ ⟨_, ho2, rfl⟩ noFill_list_add seq_list_add PySem.F.slot_list_add PySem.F.entry_list_add (PySem.F.args_list_add_2 _ _) (PyProof.Rows.list_addW l b its.toArray its2.toArray n n2 dd dd2 sl sl2 (by rw [List.size_toArray, List.size_toArray]; omega)) ⟨ho, ho2, ?_⟩
  have ea : its.toArray ++ its2.toArray = (its ++ its2).toArray := by simp
  rw [ea]
  exact h
def preL (val : Nat → List Value) : Nat → List Value
  | 0 => []
  | j + 1 => preL val j ++ val j
theorem neA {a b c : Nat} (h1 : a < c) (h2 : c ≤ b) : a ≠ b := Nat.ne_of_lt (Nat.lt_of_lt_of_le h1 h2)
theorem isList_keep {h h' : Heap} {l : Addr} {its : Array Value} (x : h.IsList l its) (k : ∀ o, h.get? l = some o → h'.get? l = some o) : h'.IsList l its := by
  obtain ⟨o, ho, r⟩ := x
  exact ⟨o, k o ho, r⟩
theorem sumL_loop {R : Result → Shared → Prop} (hh : A.in1.handled = none) (h0 : Heap) (I L S : Nat) (its : List Value) (val : Nat → List Value) (lst : Nat → Nat) (hI : h0.objs.size ≤ I) (hS0 : h0.objs.size ≤ S) (hSI : S ≠ I) (hL : L < h0.objs.size)
    (hits : ∀ i, i < its.length → its[i]? = some (.ref (lst i)) ∧ lst i < h0.objs.size ∧ h0.IsList (lst i) (val i).toArray) (hz : ∀ j, j ≤ its.length → (preL val j).length ≤ sizeLine) :
    ∀ (k i : Nat) (s : Shared) (T : Nat) (c : Nat), its.length - i = k → i ≤ its.length → (∀ (b : Nat) o, h0.get? b = some o → s.heap.get? b = some o) → h0.objs.size ≤ s.heap.objs.size → s.heap.IsListIter I L i → s.heap.IsList L its.toArray →
    s.heap.get? S = some { cls := .type "list", dict := none, data := .seq #[.ref T] c, slots := #[] } → s.heap.IsList T (preL val i).toArray → T ≠ I → T ≠ S → I < s.heap.objs.size → S < s.heap.objs.size → (0 < i → h0.objs.size ≤ T ∧ s.heap.get? T = some { cls := .type "list", data := .seq (preL val i).toArray }) →
    (∀ h' tk (T' : Nat), (∀ (b : Nat) o, h0.get? b = some o → h'.get? b = some o) → (its.length = i → T' = T) → (0 < its.length → h0.objs.size ≤ T' ∧ h'.get? T' = some { cls := .type "list", data := .seq (preL val its.length).toArray }) → R (.ok (.ret (.ref T'))) { s with heap := h', toks := tk }) →
    codeAny (model prog w) A (.builtin "sum.loop" ⟨[.ref I, .ref S, rawInt 2, rawInt 0], []⟩) R s := by
  intro k
  induction k with
  | zero =>
    intro i s T c hk hi old hsz hit hl hS hT hTI hTS hIs hSs hex hR
    have hin : i = its.length := by omega
    refine codeAny_builtin F.entry_sum_loop ?_
    rw [Around.under_plainId F.plain_sum_loop _]
    show wpAny _ A.in1 (seqItems? (.ref S) >>= _) _ _ s
    refine wpAny_bind (wpAny_seqItems hS rfl ?_)
    show wpAny _ A.in1 (tryCatch (pyNext (.ref I)) _ >>= _) _ _ s
    refine wpAny_bind (wpAny_tryCatch (wpAny_pyNext_list_end hh hit hl (by simp [hin]) fun h' he => ?_))
    refine wpAny_pure (hR h' s.toks T (fun b o e => he b o (neA (Heap.lt_size e) hI) (old b o e)) (fun _ => rfl) fun hp => ?_)
    · obtain ⟨e1, e2⟩ := hex (by omega)
      refine ⟨e1, he T _ hTI ?_⟩
      rw [← hin]
      exact e2
  | succ k ih =>
    intro i s T c hk hi old hsz hit hl hS hT hTI hTS hIs hSs hex hR
    have hlt : i < its.length := by omega
    obtain ⟨g1, g2, g3⟩ := hits i hlt
    refine codeAny_builtin F.entry_sum_loop ?_
    rw [Around.under_plainId F.plain_sum_loop _]
    show wpAny _ A.in1 (seqItems? (.ref S) >>= _) _ _ s
    refine wpAny_bind (wpAny_seqItems hS rfl ?_)
    show wpAny _ A.in1 (tryCatch (pyNext (.ref I)) _ >>= _) _ _ s
    refine wpAny_bind (wpAny_tryCatch (wpAny_pyNext_list_item hit hl (x := .ref (lst i)) (by simpa using g1) fun h' hit' sb => ?_))
    have kI : ∀ (b : Nat) o, b ≠ I → s.heap.get? b = some o → h'.get? b = some o := fun b o hb e => (sb.extBut b o hb e)
    have hS' := kI S _ hSI hS
    have hT' := isList_keep hT fun o e => kI T o hTI e
    have hl' : h'.IsList (lst i) (val i).toArray := isList_keep g3 fun o e => kI _ o (by omega) (old _ o e)
    have hLI : L ≠ I := by omega
    have hl2 := isList_keep hl fun o e => kI L o hLI e
    show wpAny _ A.in1 ((holding [Value.ref (lst i)] (binaryOp .Add (.ref T) (.ref (lst i)))).attempt >>= _) _ _ _
    have lz := hz (i + 1) (by omega)
    have lz : (preL val i ++ val i).length ≤ sizeLine := lz
    rw [List.length_append] at lz
    refine wpAny_bind (wpAny_attempt (wpAny_holding (add_raw hT' hl' lz ?_)))
    have hSlt : S < h'.objs.size := Heap.lt_size hS'
    have hIlt : I < h'.objs.size := by
      obtain ⟨o, ho, _⟩ := hit'
      exact Heap.lt_size ho
    have hold : ∀ (b : Nat) o, h0.get? b = some o → h'.get? b = some o := fun b o e => kI b o (neA (Heap.lt_size e) hI) (old b o e)
    have hsz' : h0.objs.size ≤ h'.objs.size := by omega
    show wpAny _ A.in1 (updateSeq S (fun _ => #[.ref h'.objs.size]) >>= _) _ _ _
    have hS1 : (h'.push { cls := .type "list", data := .seq (preL val i ++ val i).toArray }).get? S = some { cls := .type "list", dict := none, data := .seq #[.ref T] c, slots := #[] } := Heap.get?_push_of_some _ hS'
    refine wpAny_bind (wpAny_updateSeq hS1 rfl ?_)
    have hS2 := Heap.get?_update_self (Obj.mapSeq fun _ => #[Value.ref h'.objs.size]) hS1 rfl
    refine wpAny_bind (wpAny_letGo ?_)
    refine wpAny_bind (wpAny_updateSeq hS2 rfl ?_)
    have hS3 := Heap.get?_update_self (Obj.mapSeq fun _ => #[Value.ref h'.objs.size]) hS2 rfl
    have kk : ∀ (b : Nat) o, b ≠ S → h'.get? b = some o → (((h'.push { cls := .type "list", data := .seq (preL val i ++ val i).toArray }).update S (Obj.mapSeq fun _ => #[Value.ref h'.objs.size])).update S (Obj.mapSeq fun _ => #[Value.ref h'.objs.size])).get? b = some o := fun b o hb e =>
      (Heap.get?_update_other _ _ (Ne.symm hb)).trans ((Heap.get?_update_other _ _ (Ne.symm hb)).trans (Heap.get?_push_of_some _ e))
    have hTn : h'.objs.size ≠ S := by omega
    have hnew : (((h'.push { cls := .type "list", data := .seq (preL val i ++ val i).toArray }).update S (Obj.mapSeq fun _ => #[Value.ref h'.objs.size])).update S (Obj.mapSeq fun _ => #[Value.ref h'.objs.size])).get? h'.objs.size = some { cls := .type "list", data := .seq (preL val (i + 1)).toArray } :=
      (Heap.get?_update_other _ _ (Ne.symm hTn)).trans ((Heap.get?_update_other _ _ (Ne.symm hTn)).trans (Heap.get?_push_size _ rfl))
    have hszn : (((h'.push { cls := .type "list", data := .seq (preL val i ++ val i).toArray }).update S (Obj.mapSeq fun _ => #[Value.ref h'.objs.size])).update S (Obj.mapSeq fun _ => #[Value.ref h'.objs.size])).objs.size = h'.objs.size + 1 := by
      rw [Heap.size_update, Heap.size_update, Heap.size_push]
    refine wpAny_pure ⟨plainId_quiet F.plain_sum_loop _, ih (i + 1) _ h'.objs.size _ (by omega) hlt (fun b o e => kk b o (neA (Heap.lt_size e) hS0) (hold b o e)) ?_ ?_ ?_ hS3 ⟨_, hnew, rfl, _, rfl⟩ (by omega) hTn ?_ ?_ (fun _ => ⟨hsz', hnew⟩) fun h'' tk'' T'' k1 k2 k3 => hR h'' tk'' T'' k1 (fun z => by omega) k3⟩
    · show h0.objs.size ≤ _
      rw [hszn]
      omega
    · obtain ⟨o, ho, r⟩ := hit'
      exact ⟨o, kk I o (Ne.symm hSI) ho, r⟩
    · exact isList_keep hl2 fun o e => kk L o (by omega) e
    · show I < _
      rw [hszn]
      omega
    · show S < _
      rw [hszn]
      omega
theorem args_sum2 (a b : Value) : argsOk "sum" ⟨[a, b], []⟩ := by unfold argsOk; kernel_rfl
theorem sumL_raw (hh : A.handled = none) {L B : Nat} {its : List Value} {val : Nat → List Value} {lst : Nat → Nat} {Q : Value → Shared → Prop} (hl : s.heap.IsList L its.toArray) (hB : s.heap.IsList B ([] : List Value).toArray)
    (hits : ∀ i, i < its.length → its[i]? = some (.ref (lst i)) ∧ s.heap.IsList (lst i) (val i).toArray) (hz : ∀ j, j ≤ its.length → (preL val j).length ≤ sizeLine)
    (h : ∀ h' tk (T' : Nat), (∀ (b : Nat) o, s.heap.get? b = some o → h'.get? b = some o) → (its.length = 0 → T' = B) → (0 < its.length → s.heap.objs.size ≤ T' ∧ h'.get? T' = some { cls := .type "list", data := .seq (preL val its.length).toArray }) → Q (.ref T') { s with heap := h', toks := tk }) :
    wpAny (model prog w) A (call (.builtin "sum") [.ref L, .ref B]) Q E s := by
  have hLlt : L < s.heap.objs.size := by obtain ⟨o, ho, _⟩ := hl; exact Heap.lt_size ho
  have hBlt : B < s.heap.objs.size := by obtain ⟨o, ho, _⟩ := hB; exact Heap.lt_size ho
  refine call_function_tree F.kind_sum F.plain_sum F.entry_sum (args_sum2 _ _) ?_
  unfold Builtin.«sum»
  simp only [List.length_cons, List.length_nil]
  rw [if_neg (by decide)]
  refine wpAny_bind (wpAny_of_eq (show Builtin.Builtins.bindParams "sum" ["start"] 0 ⟨[.ref B], []⟩ = pure [some (.ref B)] from rfl) ?_)
  refine wpAny_bind (wpAny_pyIter_list hl ?_)
  refine wpAny_bind (wpAny_pure ?_)
  simp only [List.forIn_cons, List.forIn_nil]
  have tB : ({ s with heap := s.heap.push { cls := .type "list_iterator", data := .fields #[.ref L, .int 0 0] } } : Shared).TypeIs (.ref B) "list" := by
    obtain ⟨o, ho, hc, _⟩ := hB
    exact ⟨o, Heap.get?_push_of_some _ ho, hc⟩
  refine wpAny_bind (wpAny_bind (wpAny_bind (wpAny_isInstance (T := "list") (b := false) tB PySem.F.sub_list_str ?_)))
  simp only [Bool.false_eq_true, if_false]
  refine wpAny_pure (wpAny_bind (wpAny_bind (wpAny_isInstance (T := "list") (b := false) tB PySem.F.sub_list_bytes ?_)))
  simp only [Bool.false_eq_true, if_false]
  refine wpAny_pure (wpAny_bind (wpAny_bind (wpAny_isInstance (T := "list") (b := false) tB PySem.F.sub_list_bytearray ?_)))
  simp only [Bool.false_eq_true, if_false]
  refine wpAny_pure (wpAny_pure ?_)
  refine wpAny_bind (wpAny_newObj_type ?_)
  have z1 : (s.heap.push { cls := .type "list_iterator", data := .fields #[.ref L, .int 0 0] }).objs.size = s.heap.objs.size + 1 := Heap.size_push _ _
  have z2 : ((s.heap.push { cls := .type "list_iterator", data := .fields #[.ref L, .int 0 0] }).push { cls := .type "list", data := .seq #[.ref B] }).objs.size = s.heap.objs.size + 2 := by rw [Heap.size_push, z1]
  refine wpAny_pure ⟨plainId_quiet F.plain_sum_loop _, sumL_loop (by exact hh) s.heap s.heap.objs.size L (s.heap.push { cls := .type "list_iterator", data := .fields #[.ref L, .int 0 0] }).objs.size its val lst (Nat.le_refl _) (by omega) (by omega) hLlt
    (fun i hi => ⟨(hits i hi).1, by obtain ⟨o, ho, _⟩ := (hits i hi).2; exact Heap.lt_size ho, (hits i hi).2⟩) hz its.length 0 _ B 0 (Nat.sub_zero _) (Nat.zero_le _) (fun b o e => Heap.get?_push_of_some _ (Heap.get?_push_of_some _ e)) ?_ ?_ ?_ (Heap.get?_push_size _ rfl) ?_ (by omega) (by omega) ?_ ?_ (fun z => absurd z (Nat.lt_irrefl 0)) fun h' tk T' k1 k2 k3 => ?_⟩
  · show s.heap.objs.size ≤ ((s.heap.push _).push _).objs.size
    rw [z2]; omega
  · exact ⟨_, Heap.get?_push_of_some _ (Heap.get?_push_size _ rfl), rfl, rfl⟩
  · exact isList_keep hl fun o e => Heap.get?_push_of_some _ (Heap.get?_push_of_some _ e)
  · exact isList_keep hB fun o e => Heap.get?_push_of_some _ (Heap.get?_push_of_some _ e)
  · show s.heap.objs.size < ((s.heap.push _).push _).objs.size
    rw [z2]; omega
  · show (s.heap.push _).objs.size < ((s.heap.push _).push _).objs.size
    rw [z2, z1]; omega
  · exact h h' tk T' k1 k2 k3
end
def RowP (K : PySem.W.Frag) (H : Hp) (x : V) (vs : List V) : Prop := ∃ c, x = .ref c ∧ SqL K H c vs
/-- sum(lists, []) of at least one list -/
def rSumL (K : PySem.W.Frag) : List V → Hp → VK → Prop := fun vs H Q => ∃ (a b : Addr) (xs : List V) (vss : List (List V)), vs = [.ref a, .ref b] ∧ SqL K H a xs ∧ SqL K H b [] ∧ Paired (RowP K H) xs vss ∧ vss ≠ [] ∧ vss.flatten.length ≤ sizeLine ∧
  ∀ p, H p = none → Q (.ref p) (upd H p (.lst vss.flatten))
section
variable {X : Cx}
theorem rows_raw {pins : List (Addr × Obj)} {σ : St} {H : Hp} {s : Shared} (I : Inv X pins σ H s) : ∀ {xs : List V} {vss : List (List V)} {its : List Value}, Paired (RowP X.K H) xs vss → Vals xs its →
    ∃ rows : List (Nat × List Value), its = rows.map (fun r => Value.ref r.1) ∧ rows.length = vss.length ∧ Vals vss.flatten (rows.map (·.2)).flatten ∧ ∀ r ∈ rows, s.heap.IsList r.1 r.2.toArray
  | _, _, _, .nil, .nil => ⟨[], rfl, rfl, .nil, fun _ h => by cases h⟩
  | _, _, _, .cons ⟨c, e, h1⟩ h2, .cons r1 r2 => by
    obtain ⟨rows, e1, e2, e3, e4⟩ := rows_raw I h2 r2
    obtain ⟨its', rv, hl, _⟩ := I.list h1
    subst e
    have r1' : _ = Value.ref c := r1
    subst r1'
    refine ⟨(c, its') :: rows, by rw [e1]; rfl, by rw [List.length_cons, List.length_cons, e2], ?_, fun r hr => ?_⟩
    · rw [List.flatten_cons, List.map_cons, List.flatten_cons]
      exact rv.append e3
    · rcases List.mem_cons.mp hr with z | z
      · rw [z]; exact hl.isList
      · exact e4 r z
theorem preL_take (rows : List (Nat × List Value)) : ∀ j, preL (fun i => ((rows[i]?).getD (0, [])).2) j = ((rows.take j).map (·.2)).flatten
  | 0 => by simp [preL]
  | j + 1 => by
    show preL _ j ++ _ = _
    rw [preL_take rows j, List.take_add_one, List.map_append, List.flatten_append]
    cases e : rows[j]? with
    | none => simp [e]
    | some r => simp [e]
theorem flatten_take_le {α : Type} (l : List (List α)) (j : Nat) : (l.take j).flatten.length ≤ l.flatten.length := by
  have h : l.flatten = (l.take j).flatten ++ (l.drop j).flatten := by rw [← List.flatten_append, List.take_append_drop]
  rw [h, List.length_append]
  exact Nat.le_add_right _ _
theorem cr_sumL (hc : X.calm = true) : CallR X (.builtin "sum") (rSumL X.K) := by
  intro pins s σ H vs us Q I r h
  obtain ⟨a, b, xs, vss, rfl, hs, hb, hr, hne, hz, q⟩ := h
  obtain ⟨its, rv, hl, _⟩ := I.list hs
  obtain ⟨bits, bv, bl, _⟩ := I.list hb
  cases bv
  cases r with
  | cons r1 r2 =>
  cases r2 with
  | cons r2 r3 =>
  cases r3
  have r1' : _ = Value.ref a := r1
  have r2' : _ = Value.ref b := r2
  subst r1' r2'
  obtain ⟨rows, e1, e2, e3, e4⟩ := rows_raw I hr rv
  have hlen : its.length = rows.length := by rw [e1, List.length_map]
  have htot : preL (fun i => ((rows[i]?).getD (0, [])).2) its.length = (rows.map (·.2)).flatten := by
    rw [preL_take, hlen, List.take_length]
  refine sumL_raw (I.ok.hd hc) hl.isList bl.isList (val := fun i => ((rows[i]?).getD (0, [])).2) (lst := fun i => ((rows[i]?).getD (0, [])).1) (fun i hi => ?_) (fun j hj => ?_) fun h' tk T' k1 k2 k3 => ?_
  · have hi' : i < rows.length := by rw [← hlen]; exact hi
    refine ⟨?_, ?_⟩
    · rw [e1, List.getElem?_map, List.getElem?_eq_getElem hi']
      rfl
    · have := e4 _ (List.getElem_mem hi')
      simp only [List.getElem?_eq_getElem hi', Option.getD_some]
      exact this
  · rw [preL_take, List.map_take]
    refine Nat.le_trans ?_ (Nat.le_trans (Nat.le_of_eq e3.length.symm) hz)
    exact flatten_take_le _ _
  · have hp : 0 < its.length := by
      rw [hlen, e2]
      exact List.length_pos_iff.mpr hne
    obtain ⟨k4, k5⟩ := k3 hp
    rw [htot] at k5
    exact ⟨.ref T', upd H T' (.lst vss.flatten), I.laid k1 k4 ⟨hz, _, 0, e3, k5⟩, rfl, q T' (I.hok.fresh k4)⟩
end
/-! ### the mirror -/
def listsD : List PyData → Option (List (List PyData))
  | [] => some []
  | .list b :: r => (listsD r).map (b :: ·)
  | _ => none
theorem listsD_some : ∀ {ds : List PyData} {bs : List (List PyData)}, listsD ds = some bs → ds = bs.map PyData.list
  | [], bs, h => by cases h; rfl
  | d :: ds, bs, h => by
    cases d with
    | list b =>
      have h' : (listsD ds).map (b :: ·) = some bs := h
      cases e : listsD ds with
      | none => rw [e] at h'; cases h'
      | some cs =>
        rw [e] at h'
        cases h'
        rw [listsD_some e]
        rfl
    | _ => cases h
theorem listsD_map (ns : List (List PyData)) : listsD (ns.map PyData.list) = some ns := by
  induction ns with
  | nil => rfl
  | cons n ns ih => show (listsD (ns.map PyData.list)).map (n :: ·) = _; rw [ih]; rfl
def gSumL : List PyData → Option PyData
  | [.list xs, .list []] => match listsD xs with
    | none => none
    | some bs => if decide (bs.flatten.length ≤ 100000) && !bs.isEmpty then some (.list bs.flatten) else none
  | _ => none
theorem RAll.rows {K : PySem.W.Frag} {H : Vw} {H' : Hp} (e : Ex H.h H') : ∀ {xs : List V} {bs : List (List PyData)}, RAll K H xs (bs.map PyData.list) → ∃ vss, Paired (RowP K H') xs vss ∧ RAll K H vss.flatten bs.flatten ∧ vss.length = bs.length
  | _, [], h => by
    cases h
    exact ⟨[], .nil, .nil, rfl⟩
  | _, b :: bs, h => by
    cases h with
    | cons h1 h2 =>
      obtain ⟨vss, k1, k2, k3⟩ := RAll.rows e h2
      cases h1 with
      | lst g1 g2 => exact ⟨_ :: vss, .cons ⟨_, rfl, e.l g1⟩ k1, by rw [List.flatten_cons, List.flatten_cons]; exact g2.append k2, by rw [List.length_cons, List.length_cons, k3]⟩
section
variable {K : KW}
theorem gSumL_ok : CD_ K (rSumL K) gSumL := by
  intro O H vs ds d Q th rp h q
  unfold gSumL at h
  split at h
  · rename_i xs
    cases e : listsD xs with
    | none => rw [e] at h; cases h
    | some bs =>
      rw [e] at h
      simp only at h
      split at h
      · rename_i hc
        cases h
        obtain ⟨v, w, rfl, r1, r2⟩ := rp.two
        obtain ⟨p, ys, rfl, h1, a1⟩ := r1.lst
        obtain ⟨p2, ys2, rfl, h2, a2⟩ := r2.lst
        cases a2
        rw [listsD_some e] at a1
        obtain ⟨vss, k1, k2, k3⟩ := RAll.rows (hide_ex O H).h a1
        have hc' := Bool.and_eq_true_iff.mp hc
        have hne : bs ≠ [] := by
          intro z
          rw [z] at hc'
          exact absurd hc'.2 (by decide)
        refine ⟨p, p2, ys, vss, rfl, h1, h2, k1, fun z => hne (List.eq_nil_of_length_eq_zero (by rw [← k3, z]; rfl)), ?_, fun p hp => ?_⟩
        · rw [k2.length]
          exact Nat.le_trans (of_decide_eq_true hc'.1) (by decide)
        · have ex : Ex H (upd H p (.lst vss.flatten)) := Ex.new hp
          have hn : p ∉ O.l := fun z => by
            obtain ⟨o, ho⟩ := th p z
            rw [hp] at ho
            cases ho
          have eh : Vx (hide O H) (hide O (upd H p (.lst vss.flatten))) := ⟨fun b o hb => hide_some.mpr ⟨(hide_some.mp hb).1, ex b o (hide_some.mp hb).2⟩, List.prefix_refl _⟩
          exact q _ _ ex (.lst (.inl (.inl (hide_some.mpr ⟨hn, upd_same⟩))) (RAll.mono eh _ _ k2))
      · cases h
  · cases h
end
end Am

/-! Am34: raise; try with one clause and a name; defs called in a clause's suite. -/
namespace Am
open PySem L2 PySem.Spec
open PyProof.Rows (envOfC)
/-! ### pinned objects matter for exceptions alone -/
section
variable {k : PySem.W.Frag} {w : World} {p q : List (Addr × Obj)} {G : Gd} {O : Own} {σ : St} {H : Hp} {a a' : AEnv}
theorem Cont.kw {V : Vw} {b : Addr} {o : HO} {s : Sl} (h : Cont ⟨k, w, p⟩ V b o s) : Cont ⟨k, w, q⟩ V b o s := by cases o <;> cases s <;> exact h
theorem ExAt.kw {V : Vw} {b : Addr} {e : Exc} (h : ExAt ⟨k, w, p⟩ V b e) (hs : ∀ z ∈ p, z ∈ q) : ExAt ⟨k, w, q⟩ V b e := by
  obtain ⟨d, h1, h2⟩ := h
  exact ⟨d, h1.imp (fun ⟨oe, m, z⟩ => ⟨oe, hs _ m, z⟩) id, h2⟩
theorem SlR.kw {x : Option V} {s : Sl} (h : SlR ⟨k, w, p⟩ O H x s) (hs : (∀ e, s ≠ .exc e) ∨ ∀ z ∈ p, z ∈ q) : SlR ⟨k, w, q⟩ O H x s := by
  cases s with
  | exc e =>
    obtain ⟨b, e1, e2⟩ := h
    exact ⟨b, e1, e2.kw (hs.elim (fun z => absurd rfl (z e)) id)⟩
  | un => trivial
  | dat d => exact h
  | bxs _ => exact h
  | lst _ => obtain ⟨b, ho, h1, h2, h3, h4⟩ := h; exact ⟨b, ho, h1, h2, h3, h4.kw⟩
  | dk _ => obtain ⟨b, ho, h1, h2, h3, h4⟩ := h; exact ⟨b, ho, h1, h2, h3, h4.kw⟩
  | dt _ => obtain ⟨b, ho, h1, h2, h3, h4⟩ := h; exact ⟨b, ho, h1, h2, h3, h4.kw⟩
  | st _ => obtain ⟨b, ho, h1, h2, h3, h4⟩ := h; exact ⟨b, ho, h1, h2, h3, h4.kw⟩
  | ob _ _ => obtain ⟨b, ho, h1, h2, h3, h4⟩ := h; exact ⟨b, ho, h1, h2, h3, h4.kw⟩
/-- other pins, some slots forgotten -/
theorem SR.kwX (I : SR ⟨k, w, p⟩ G O σ H a) (hl : a'.length = a.length) (hs : ∀ (i : Nat) (s : Sl), a'[i]? = some s → s = .un ∨ (a[i]? = some s ∧ ((∀ e, s ≠ .exc e) ∨ ∀ z ∈ p, z ∈ q)))
    (hb : ∀ (i : Nat) bs, a[i]? = some (.bxs bs) → a'[i]? = some (.bxs bs)) : SR ⟨k, w, q⟩ G O σ H a' := by
  have old : ∀ {i : Nat} {s : Sl}, a'[i]? = some s → s.owned = true → a[i]? = some s := fun {i s} h ho => by
    rcases hs i s h with rfl | ⟨h1, _⟩
    · cases ho
    · exact h1
  refine ⟨I.ex, I.xs, I.th, by rw [hl]; exact I.len, fun i s x h1 h2 => ?_, fun i j b s t hij h1 h2 ho ht e1 e2 => I.inj i j b s t hij (old h1 ho) (old h2 ht) ho ht e1 e2, fun b h s h1 ho => I.anc b h s (old h1 ho) ho, fun i s b h1 ho h2 => I.fr i s b (old h1 ho) ho h2, fun b s h => ?_, I.ghn,
    ⟨I.rr.sub, I.rr.nd, fun i s b h1 ho h2 => I.rr.sl i s b (old h1 ho) ho h2, I.rr.gh, fun ho => ?_, I.rr.bB, I.rr.rc⟩⟩
  · rcases hs i s h1 with rfl | ⟨h3, h4⟩
    · trivial
    · exact (I.sl i s x h3 h2).kw h4
  · obtain ⟨h1, ⟨ho, h2, h3⟩, h4⟩ := I.gh b s h
    exact ⟨h1, ⟨ho, h2, h3.kw⟩, fun i t k1 kt => h4 i t (old k1 kt) kt⟩
  · obtain ⟨bs, h1, h2⟩ := I.rr.bs ho
    exact ⟨bs, hb _ _ h1, h2.len, fun i b s h3 h4 => (h2.at_ i b s h3 h4).imp fun ho z => ⟨z.1, z.2.kw⟩⟩
theorem SR.more (I : SR ⟨k, w, p⟩ G O σ H a) (hs : ∀ z ∈ p, z ∈ q) : SR ⟨k, w, q⟩ G O σ H a := I.kwX rfl (fun i s h => .inr ⟨h, .inr hs⟩) fun _ _ h => h
def noX : Sl → Sl
  | .exc _ => .un
  | s => s
def isX : Sl → Bool
  | .exc _ => true
  | _ => false
def unX (a : AEnv) : AEnv := a.map noX
theorem noX_cases (s : Sl) : (noX s = .un ∧ ∃ e, s = .exc e) ∨ (noX s = s ∧ ∀ e, s ≠ .exc e) := by
  cases s <;> first | exact .inl ⟨rfl, _, rfl⟩ | exact .inr ⟨rfl, fun e z => by cases z⟩
theorem SR.un (I : SR ⟨k, w, p⟩ G O σ H a) : SR ⟨k, w, q⟩ G O σ H (unX a) := by
  refine I.kwX (by unfold unX; rw [List.length_map]) (fun i s h => ?_) fun i bs h => ?_
  · unfold unX at h
    rw [List.getElem?_map] at h
    cases ha : a[i]? with
    | none => rw [ha] at h; cases h
    | some t =>
      rw [ha] at h
      have h := Option.some.inj h
      rcases noX_cases t with ⟨z, _⟩ | ⟨z, z2⟩
      · exact .inl (h.symm.trans z)
      · rw [z] at h
        subst h
        exact .inr ⟨rfl, .inl z2⟩
  · unfold unX
    rw [List.getElem?_map, h]
    rfl
end
/-! ### raise C("..") -/
section
variable {X : Cx} {W : WB}
theorem ms_raise {B newId initId : String} {bmB : List Value} {C : Addr} {x m : Str} {j : Nat} {p p2 pos pos2 : Pos} (hc : X.calm = true) (tk : L2N.Takes X W.f) (F : ExcBaseFacts B newId initId bmB) (q : PySem.W.excIn X.K C bmB newId = true) (gC : X.mg x = some (.ref C)) (kC : PySem.W.keepIn X.K (.ref C) = true)
    (r : Raises X (.ref C)) (hg : Gl X x) (hn : clsA X.K x = C) (hdb : (x == ("__debug__" : Str)) = false := by decide) : PSM X W (.Raise (some (.Call (.Name x p) [.Constant (.str m) j p2] [] pos)) none pos2) (M.raise ⟨x, []⟩) := by
  refine ⟨fun pins s σ H D I ⟨G, O, a, h⟩ => (L2N.ps_raise hc tk (L2N.pmk_own F q gC kC r hg hdb)).run pins s σ H D I ?_⟩
  obtain ⟨I1, op, y, e, fin⟩ := h
  have e' : ((Except.error (⟨x, []⟩ : Exc) : Except Exc Fl), a) = y := Option.some.inj e
  subst e'
  have z := fin O σ H none I1 (Ext.refl _ _) (.inl ⟨rfl, rfl⟩)
  have z : W.f (.ref (clsA X.K x)) none σ H := z
  rw [hn] at z
  exact z
end
/-! ### try: .. except B as e: .. -/
def mTry (i : Nat) (sub : Str → Option Bool) (m ms : M Fl) : M Fl := fun a => match m a with
  | some (.error e, a1) => if a1.length = a.length then (match sub e.cls with
    | some true => (match putS i (.exc e) a1 with
      | none => none
      | some a2 => (match ms a2 with
        | some (.ok .nx, a3) => if a3.length = a.length then some (.ok .nx, wipeA (unX a3) [i]) else none
        | some (.ok (.ret s), a3) => if a3.length = a.length ∧ isX s = false then some (.ok (.ret s), wipeA (unX a3) [i]) else none
        | _ => none))
    | _ => none) else none
  | r => r
section
variable {X : Cx} {W : WB} {x n : Str} {c : Value} {i : Nat} {body suite : List Stmt} {b₀ : Stmt} {np pos pos' : Pos} {m ms : M Fl} {sub : Str → Option Bool}
theorem tr_kw (hc : X.calm = true) (pn : List (Addr × Obj)) (xe : Value → Shared → Prop) : (X.tr pn xe).kw = X.kw := by
  show KW.mk X.K X.w (if X.calm then [] else pn) = KW.mk X.K X.w (if X.calm then [] else X.pn)
  rw [if_pos hc, if_pos hc]
theorem calm_kw (hc : X.calm = true) : X.kw = ⟨X.K, X.w, []⟩ := by
  show KW.mk X.K X.w (if X.calm then [] else X.pn) = _
  rw [if_pos hc]
theorem hot_suite {a : Addr} {oe : Obj} {cls : Value} {d : Option Addr} {pn : List (Addr × Obj)} (hz : L2N.Zn cls d oe) (hf : ∃ vs, oe.data = .fields vs) : L2H.HotC (X.suite a ((a, oe) :: pn)) := by
  obtain ⟨vs, hv⟩ := hf
  exact ⟨(a, oe), ⟨rfl, vs, hv, hz.2.2 vs hv⟩, List.mem_cons_self⟩
theorem taken0 {X : Cx} : L2N.Takes X (fun _ _ _ _ => False) := fun _ _ h => by
  obtain ⟨_, _, _, _, _, _, _, _, _, _, _, _, _, _, _, _, z⟩ := h
  exact z.elim
theorem ms_tryAs (i : Nat) (hs : X.stack = X.env :: X.outer) (hf : X.env.frame = some X.env.locals) (hN : X.N.Nodup) (hi : X.N[i]? = some n) (hln : X.env.kindOf n = some .local) (hn : Names X x c) (hc : X.calm = true) (hsub : ∀ z b, sub z = some b → PySem.W.exmOne X.K (.ref (clsA X.K z)) c = some b)
    (hb : ∀ (W' : WX) (pn : List (Addr × Obj)) (xe : Value → Shared → Prop), L2N.Takes (X.tr pn xe) W' → PassesOwn (model X.prog X.w) X.A X.env xe → PSsM (X.tr pn xe) ⟨W', W.opn⟩ body m)
    (hsu : ∀ (a : Addr) (oe : Obj) (cls : Value) (d : Option Addr) (pn : List (Addr × Obj)), L2N.Zn cls d oe → (∃ vs, oe.data = .fields vs) → PSsM (X.suite a ((a, oe) :: pn)) ⟨fun _ _ _ _ => False, W.opn⟩ (b₀ :: suite) ms) :
    PSM X W (.Try body [.ExceptHandler (some (.Name x np)) (some n) (b₀ :: suite) pos'] [] [] pos) (mTry i sub m ms) := by
  have key := L2N.ps_try_as (X := X) (pos := pos) (pos' := pos') (np := np) (tb := fun W' => sM X.kw ⟨W', W.opn⟩ m) (ts := fun a cls d D σ H => ∀ (oe : Obj) (pn : List (Addr × Obj)), L2N.Zn cls d oe → (∃ vs, oe.data = .fields vs) → sM ⟨X.K, X.w, (a, oe) :: pn⟩ ⟨fun _ _ _ _ => False, W.opn⟩ ms D σ H) (Wout := fun _ _ _ _ => False)
    hs hf hN hi hln hn taken0 (fun W' pn xe tk hp => by
      have z := hb W' pn xe tk hp
      unfold PSsM at z
      rw [tr_kw hc] at z
      exact z) fun a oe cls d pn hz hfl => ⟨fun pins s σ H D I h => (hsu a oe cls d pn hz hfl).run pins s σ H D I (h oe pn hz hfl)⟩
  refine ⟨fun pins s σ H D I ⟨G, O, a, q⟩ => key.run pins s σ H D I ?_⟩
  obtain ⟨I1, op, y, ey, fin⟩ := q
  have hil : i < σ.length := by
    rw [I.len]
    exact (List.getElem?_eq_some_iff.mp hi).1
  unfold mTry at ey
  cases hm : m a with
  | none => rw [hm] at ey; cases ey
  | some r =>
    rw [hm] at ey
    obtain ⟨r1, a1⟩ := r
    refine ⟨G, O, a, I1, op, _, hm, ?_⟩
    cases r1 with
    | ok f =>
      have e' : ((Except.ok f : Except Exc Fl), a1) = y := Option.some.inj ey
      subst e'
      cases f <;> exact fin
    | error e =>
      dsimp only at ey
      split at ey
      case isFalse => cases ey
      case isTrue hla =>
      cases hsb : sub e.cls with
      | none => rw [hsb] at ey; cases ey
      | some b =>
        rw [hsb] at ey
        cases b with
        | false => cases ey
        | true =>
          dsimp only at ey
          intro O1 σ1 H1 d J ex er
          refine ⟨true, hsub _ _ hsb, fun _ ad nad oe pn hz hfl => ?_, fun z => nomatch z⟩
          cases hp : putS i (.exc e) a1 with
          | none => rw [hp] at ey; cases ey
          | some a2 =>
            rw [hp] at ey
            dsimp only at ey
            have J0 : SR ⟨X.K, X.w, []⟩ G O1 σ1 H1 a1 := calm_kw hc ▸ J
            have J1 : SR ⟨X.K, X.w, (ad, oe) :: pn⟩ G O1 σ1 H1 a1 := J0.more fun z hz => absurd hz (by simp)
            have xa : ExAt ⟨X.K, X.w, (ad, oe) :: pn⟩ (hide O1 H1) ad e := by
              refine ⟨d, .inl ⟨oe, List.mem_cons_self, hz, hfl⟩, ?_⟩
              rcases er with ⟨e1, e2⟩ | ⟨p, vs, e1, e2, e3, e4⟩
              · exact .inl ⟨e1, e2⟩
              · exact .inr ⟨p, vs, e1, hide_some.mpr ⟨e2, e3⟩, e4⟩
            have same : ∀ {O2 : Own} {σ2 : St} {H2 : Hp} {kw : KW} {b : AEnv}, SR kw G O2 σ2 H2 b → b.length = a.length → σ2.length = σ.length := fun {O2 σ2 H2 kw b} J' h => by
              have l1 := J'.len
              have l2 := I1.len
              omega
            have J2 := J1.put (i := i) (s := .exc e) (v := .ref ad) (by rw [same J hla]; exact hil) (.inr (.inr ⟨e, ad, rfl, rfl, xa⟩)) hp
            cases hms : ms a2 with
            | none => rw [hms] at ey; cases ey
            | some r2 =>
              rw [hms] at ey
              obtain ⟨r2, a3⟩ := r2
              refine ⟨G, O1, a2, J2, op, _, hms, ?_⟩
              have back : ∀ {O2 : Own} {σ2 σ3 : St} {H2 : Hp}, SR ⟨X.K, X.w, (ad, oe) :: pn⟩ G O2 σ2 H2 a3 → i < σ2.length → σ3.length = σ2.length → (∀ j, j ∉ [i] → σ3[j]? = σ2[j]?) → SR X.kw G O2 σ3 H2 (wipeA (unX a3) [i]) := fun {O2 σ2 σ3 H2} J3 h1 h2 h3 => by
                have J4 : SR ⟨X.K, X.w, []⟩ G O2 σ2 H2 (unX a3) := J3.un
                rw [calm_kw hc]
                exact J4.forget (fun j hj => by rw [List.mem_singleton.mp hj]; exact h1) h2 h3
              cases r2 with
              | error e2 => cases ey
              | ok f =>
                cases f with
                | brk => cases ey
                | ct => cases ey
                | nx =>
                  dsimp only at ey
                  split at ey
                  case isFalse => cases ey
                  case isTrue hl3 =>
                  cases ey
                  intro O2 σ2 H2 J3 ex2
                  have h3 := same J3 hl3
                  exact fin O2 (σ2.set i none) H2 (back J3 (by rw [h3]; exact hil) (List.length_set ..) fun j hj => List.getElem?_set_ne (fun z => hj (List.mem_singleton.mpr z.symm))) (ex.trans ex2)
                | ret s =>
                  dsimp only at ey
                  split at ey
                  case isFalse => cases ey
                  case isTrue hl3 =>
                  cases ey
                  intro O2 σ2 H2 v J3 ex2 rs
                  have h3 := same J3 hl3.1
                  have K1 := back (σ3 := σ2) J3 (by rw [h3]; exact hil) rfl fun _ _ => rfl
                  refine fin O2 σ2 H2 v K1 (ex.trans ex2) ?_
                  rw [calm_kw hc]
                  rcases rs with ⟨z, rfl, rz⟩ | ⟨z1, p, ho, z2, z3, z4, z5, z6, z7, z8, z9⟩ | ⟨z, p, rfl, z2, z3⟩
                  · exact .inl ⟨z, rfl, rz⟩
                  · refine .inr (.inl ⟨z1, p, ho, z2, z3, z4, z5.kw, fun j t k1 k2 => ?_, z7, z8, z9⟩)
                    rcases wipeA_own k1 with ⟨n1, k1⟩ | k1
                    · unfold unX at k1
                      rw [List.getElem?_map] at k1
                      cases h5 : a3[j]? with
                      | none => rw [h5] at k1; cases k1
                      | some u =>
                        rw [h5] at k1
                        have k1 := Option.some.inj k1
                        rcases noX_cases u with ⟨q1, _⟩ | ⟨q1, _⟩
                        · rw [q1] at k1
                          subst k1
                          cases k2
                        · rw [q1] at k1
                          subst k1
                          exact z6 j u h5 k2
                    · subst k1
                      cases k2
                  · exact absurd hl3.2 (by intro z; cases z)
end
end Am

/-! Am35: defs that a clause's suite calls with the exception; isinstance of it. -/
namespace Am
open PySem L2 PySem.Spec
open PyProof.Rows (envOfC)
/-- a def's promise where an exception is handled: the pins are handed on -/
structure FnX (P : Program) (w : World) (K : PySem.W.Frag) (mg : Str → Option Value) (base : Heap) (CX : CXT) (k : Nat) (f : Addr) (fd : FuncData) (ps : List Str) (sp : List (Addr × Obj) → Sp) : Prop where
  len : ∀ pl vs H Q E, sp pl vs H Q E → vs.length = ps.length
  run : ∀ (A : Around) (fr : List Env) (s0 : Shared) (H : Hp) (ar : Args) (us : List Value) (vs : List V) (Q : VK) (E : XK) (p : Addr × Obj) (pl : List (Addr × Obj)), L2H.RoomH k A → L2H.Hot1 A p → p ∈ pl → (∀ z ∈ pl, L2H.PinOk fr H s0 z) → Env0 P w K mg base A fr s0 H →
    BindsTo s0 fd ar (ps.zip us) → Vals vs us → sp pl vs H Q E → codeAny (model P w) A (.call (.ref f) ar) (CR CX fr P w H s0 Q E) s0
theorem FnX.mono {P : Program} {w : World} {K : PySem.W.Frag} {mg : Str → Option Value} {base : Heap} {CX : CXT} {j k : Nat} {f : Addr} {fd : FuncData} {ps : List Str} {sp : List (Addr × Obj) → Sp} (F : FnX P w K mg base CX j f fd ps sp) (h : j ≤ k) : FnX P w K mg base CX k f fd ps sp :=
  ⟨F.len, fun A fr s0 H ar us vs Q E p pl hr => F.run A fr s0 H ar us vs Q E p pl (hr.mono h)⟩
abbrev cxX (CX : CXT) (P : Program) (w : World) (K : PySem.W.Frag) (mg : Str → Option Value) (base : Heap) (N : List Str) (qual : Str) (sc : Scope) (f : Addr) (cdv : Value) (A : Around) (fr : List Env) (s : Shared) (H : Hp) (E : XK) (pl : List (Addr × Obj)) : Cx :=
  { cxOf CX P w K mg base N qual sc f cdv A fr s H E with calm := false, pn := pl }
section
variable {P : Program} {w : World} {K : PySem.W.Frag} {mg : Str → Option Value} {base : Heap} {CX : CXT} {k : Nat} {f : Addr} {fd : FuncData} {x qual : Str} {st : Stmt} {N ps : List Str}
theorem inv_startX {sc : Scope} {cdv : Value} {A : Around} {fr : List Env} {s s1 : Shared} {H : Hp} {E : XK} {us : List Value} {vs : List V} {p : Addr × Obj} {pl : List (Addr × Obj)} (S : FnScope N ps sc) (hp : p ∈ pl) (pin : ∀ z ∈ pl, L2H.PinOk fr H s z) (env : Env0 P w K mg base A fr s H) (hl : vs.length = ps.length) (rel : Vals vs us)
    (ic : InCallC s s.heap.objs.size (bindL (envOfC qual sc s.heap.objs.size f cdv).kindOf (ps.zip us) fun _ => none) (cellsFrom (s.heap.objs.size + 1) sc.names []) (bindC (envOfC qual sc s.heap.objs.size f cdv).kindOf (ps.zip us) fun _ => none) s1) :
    Inv (cxX CX P w K mg base N qual sc f cdv A fr s H E pl) [] (start N vs) H s1 := by
  have I := L2H.inv_startH (CX := CX) (E := E) S (pin p hp) env hl rel ic
  obtain ⟨h1, tk, rfl, hk⟩ := ic.done
  refine ⟨⟨I.ok.mod, I.ok.kind, I.ok.glob, I.ok.blt, I.ok.above, I.ok.inj, I.ok.has, I.ok.cab, I.ok.hd, I.ok.frames, I.ok.stk, I.ok.exf, I.ok.bs, I.ok.bsz, I.ok.noex, I.ok.exfs, I.ok.funs, I.ok.frf⟩, I.os, I.bare, I.base, I.loc, I.cell, I.free, I.freeC, fun z hz => ?_, I.hok, I.len⟩
  have hz' : z ∈ pl := (List.mem_append.mp hz).elim id fun q => absurd q (by simp)
  have Z := pin z hz'
  exact ⟨hk _ _ Z.get, Z.free, Nat.ne_of_lt (Heap.lt_size Z.get), Z.nofs, Z.nocell⟩
theorem fnX_of {sp : List (Addr × Obj) → Sp} (F : Fun K x qual st f fd) (S : FnScope N ps (defScope st)) (len : ∀ pl vs H Q E, sp pl vs H Q E → vs.length = ps.length)
    (hb : ∀ (cdv : Value) (A : Around) (fr : List Env) (s : Shared) (H : Hp) (vs : List V) (Q : VK) (E : XK) (p : Addr × Obj) (pl : List (Addr × Obj)), L2H.Hot1 A p → p ∈ pl → L2H.RoomH k (A.deeper (dfnEnv qual st f cdv s)) → sp pl vs H Q E →
      ∃ t, PSs (cxX CX P w K mg base N qual (defScope st) f cdv A fr s H E pl) (defBody st) t ∧ t { nx := fun _ H' => Q .non H', rt := Q } (start N vs) H) : FnX P w K mg base CX (k + 1) f fd ps sp := by
  obtain ⟨_, _, _, _, _, _, cdv, _, _, rfl, atf, cdk⟩ := F.ex
  refine ⟨len, fun A fr s0 H ar us vs Q E p pl room hot hp pin env bd rel hsp => ?_⟩
  have stay : ∀ b o, base.get? b = some o → s0.heap.get? b = some o := fun b o e => (env.bs b o e).1
  have kin : K.In s0.heap := env.mod.kin.keeps stay
  have places : ∀ y ∈ ps.zip us, (defScope st).names.lookup y.1 = some .local ∨ ((defScope st).names.lookup y.1 = some .cell ∧ ((cellsFrom (s0.heap.objs.size + 1) (defScope st).names []).lookup y.1).isSome = true) := by
    rintro ⟨n, v⟩ hy
    exact (S.par n (List.of_mem_zip hy).1).imp id fun c => ⟨c, PySem.W.cellsFrom_some _ _ _ (.inl c)⟩
  refine codeAny_call_function room.depth (kin _ _ atf) rfl S.co S.gen rfl (PySem.W.codeRec_of kin cdk) (bd _ _ _ _ (wpAny_newFunctionEnv_cells S.kind places ?_))
  rintro env1 rfl s1 ic
  refine ⟨(env.mod.nolimit.keeps stay).keeps ic.toInCall.keep, codeAny_func ?_⟩
  obtain ⟨t, tr, rd⟩ := hb cdv A fr s0 H vs Q E p pl hot hp (room.deeper _) hsp
  refine wpAny_mono (tr.run [] s1 (start N vs) H _ (inv_startX S hp pin env (len _ _ _ _ _ hsp) rel ic) rd) ?_ fun _ _ z => z
  rintro (_ | _ | _ | u) s2 hs
  · obtain ⟨σ2, H2, J, q⟩ := hs
    exact ⟨.non, H2, J.os, J.bare, J.base, J.hok, rfl, q⟩
  · exact hs.elim fun _ z => z.elim fun _ z => z.2.elim
  · exact hs.elim fun _ z => z.elim fun _ z => z.2.elim
  · obtain ⟨v, σ2, H2, J, rv, q⟩ := hs
    exact ⟨v, H2, J.os, J.bare, J.base, J.hok, rv, q⟩
end
section
variable {X : Cx} {CX : CXT} {k : Nat} {f : Addr} {fd : FuncData} {ps : List Str} {sp : List (Addr × Obj) → Sp} {E : St → XK} {x : Str} {p pos : Pos} {e : Expr} {es : List Expr} {t : TA}
theorem call_fnX {pins : List (Addr × Obj)} {σ : St} {H : Hp} {s : Shared} {Q : VK} {us : List Value} {vs : List V} (F : FnX X.prog X.w X.K X.mg X.base CX k f fd ps sp) (hr : L2H.RoomH k X.A) (hot : L2H.HotC X) (hb : Binds X.K fd ps []) (hx : PassesAt CX X σ (E σ))
    (I : Inv X pins σ H s) (rel : Vals vs us) (h : sp X.pn vs H Q (E σ)) : wpAny (model X.prog X.w) X.A (call (.ref f) us) (EP X pins σ Q) X.xe s := by
  obtain ⟨p, hp1, hp2⟩ := hot
  have hl : us.length = ps.length := rel.length.symm.trans (F.len _ _ _ _ _ h)
  have bd : BindsTo s fd ⟨us, []⟩ (ps.zip us) := by simpa using hb s us I.kIn (by simpa using hl)
  have pin : ∀ z ∈ X.pn, L2H.PinOk X.stack H s z := fun z hz => by
    obtain ⟨c1, c2, c3, c4, c5⟩ := I.pin z (List.mem_append_left _ hz)
    refine ⟨c1, c2, fun hm => ?_, c5⟩
    rcases List.mem_cons.mp (I.stkSub z.1 hm) with q | q
    · exact c3 q
    · exact c4 q
  refine wpAny_call (codeAny_mono (F.run X.A X.stack s H _ us vs Q (E σ) p X.pn hr hp1 hp2 pin I.env0 bd rel h) ?_)
  rintro (e | fl) s2 hq
  · exact hx pins H s e s2 I hq
  · cases fl with
    | ret u => exact I.after hq
    | _ => exact hq.elim
def tCallX (sp : List (Addr × Obj) → Sp) (pl : List (Addr × Obj)) (E : St → XK) (t : TA) : TE := fun σ H Q => t σ H fun vs H1 => sp pl vs H1 Q (E σ)
theorem pe_callX (F : FnX X.prog X.w X.K X.mg X.base CX k f fd ps sp) (hr : L2H.RoomH k X.A) (hot : L2H.HotC X) (hg : Gl X x) (hm : X.mg x = some (.ref f)) (hk : PySem.W.keepIn X.K (.ref f) = true) (hb : Binds X.K fd ps []) (hx : ∀ σ, PassesAt CX X σ (E σ))
    (ha : PA X (e :: es) t) (hdb : (x == ("__debug__" : Str)) = false := by decide) (he : starEach (e :: es) X.env = (false, eval e X.env) :: starEach es X.env := by rfl) (hpl : (backTo pos (starEach es X.env)).any (·.1) = false := by rfl) :
    PE X (.Call (.Name x p) (e :: es) [] pos) (tCallX sp X.pn E t) :=
  ⟨fun pins s σ H Q I h => wpAny_Call_Name_kw (ld_glob I hg hm (PySem.W.callWith_K (h₀ := X.base) I.ok.mod.kin hk (thn (ha.run pos pins s σ H _ I h) fun us s1 ⟨vs, H1, I1, rel, q⟩ => ⟨I1.kIn, call_fnX F hr hot hb (hx σ) I1 rel q⟩) he hpl) hdb)⟩
end
/-! ### defs of an exception -/
abbrev FnE := Exc → Option (Except Exc Sl)
def fnE (n : Nat) (body : M Fl) : FnE := fun e => match resOf (body (startA n [.exc e])) with
  | some (.ok s, _) => if isX s = true then none else some (.ok s)
  | some (.error e, _) => some (.error e)
  | none => none
def spE (K : PySem.W.Frag) (w : World) (F : FnE) : List (Addr × Obj) → Sp := fun pl vs H Q E => ∃ b, vs = [V.ref b] ∧ ∃ O e r, OwnOk O H ∧ ExAt ⟨K, w, pl⟩ (hide O H) b e ∧ F e = some r ∧ FinD ⟨K, w, []⟩ O H r Q E
section
variable {K : KW} {O : Own} {H : Hp} {N : List Str} {b : Addr} {e : Exc}
theorem SR.startE (ok : OwnOk O H) (rx : ExAt K (hide O H) b e) (hn : 1 ≤ N.length) : SR K { B := H, X := O.l, rc := O.r } O (L2.start N [.ref b]) H (startA N.length [.exc e]) := by
  have at0 : ∀ {i : Nat} {s : Sl}, (startA N.length [Sl.exc e])[i]? = some s → s = .un ∨ (i = 0 ∧ s = .exc e) := fun {i s} h => by
    unfold startA at h
    cases i with
    | zero => exact .inr ⟨rfl, (Option.some.inj h).symm⟩
    | succ i =>
      rw [List.getElem?_append_right (by simp)] at h
      exact .inl (List.eq_of_mem_replicate (List.mem_of_getElem? h))
  have no : ∀ {i : Nat} {s : Sl}, (startA N.length [Sl.exc e])[i]? = some s → s.owned = true → False := fun {i s} h hs => by
    rcases at0 h with rfl | ⟨_, rfl⟩ <;> cases hs
  refine ⟨Ex.refl _, fun p hp => ⟨hp, ok.th p hp⟩, ok.th, ?_, fun i s x h1 h2 => ?_, fun i j p s t _ h1 _ hs => (no h1 hs).elim, fun p hp => (nomatch hp), fun i s p h1 hs => (no h1 hs).elim, fun p s hp => (nomatch hp), List.nodup_nil,
    ⟨ok.sub, ok.nd, fun i s p h1 hs => (no h1 hs).elim, fun p s hp => (nomatch hp), fun z => (nomatch z), fun z => (nomatch z), fun _ => rfl⟩⟩
  · rw [startA_length (by simpa using hn), startV_length (by simpa using hn)]
    rfl
  · rcases at0 h1 with rfl | ⟨rfl, rfl⟩
    · trivial
    · have h2 : some (some (V.ref b)) = some x := h2
      cases h2
      exact ⟨b, rfl, rx⟩
end
section
variable {P : Program} {w : World} {K : PySem.W.Frag} {mg : Str → Option Value} {base : Heap} {CX : CXT} {k : Nat} {f : Addr} {fd : FuncData} {x qual : Str} {st : Stmt} {N ps : List Str} {body : M Fl}
theorem okE (F : Fun K x qual st f fd) (S : FnScope N ps (defScope st)) (h1 : ps.length = 1) (hn : 1 ≤ N.length)
    (hb : ∀ (cdv : Value) (A : Around) (fr : List Env) (s : Shared) (H : Hp) (E : XK) (p : Addr × Obj) (pl : List (Addr × Obj)), L2H.Hot1 A p → p ∈ pl → L2H.RoomH k (A.deeper (dfnEnv qual st f cdv s)) →
      PSsM (cxX CX P w K mg base N qual (defScope st) f cdv A fr s H E pl).nox (WXE E) (defBody st) body) : FnX P w K mg base CX (k + 1) f fd ps (spE K w (fnE N.length body)) := by
  refine fnX_of F S (fun pl vs H Q E ⟨b, e, _⟩ => by rw [e, h1]; rfl) fun cdv A fr s H vs Q E p pl hot hp hr h => ⟨_, PSs.nox (hb cdv A fr s H E p pl hot hp hr), ?_⟩
  obtain ⟨b, rfl, O, e, r, ok, rx, hF, fin⟩ := h
  have I := SR.startE (K := ⟨K, w, pl⟩) (N := N) ok rx hn
  refine ⟨_, O, _, I, fun z => (nomatch z), ?_⟩
  unfold fnE at hF
  cases hx : body (startA N.length [.exc e]) with
  | none => rw [hx] at hF; cases hF
  | some y =>
    rw [hx] at hF
    refine ⟨y, rfl, ?_⟩
    obtain ⟨y1, a1⟩ := y
    have sub : ∀ {O' : Own} {σ' : St} {H' : Hp}, SR ⟨K, w, pl⟩ { B := H, X := O.l, rc := O.r } O' σ' H' a1 → (∀ p ∈ O.l, p ∈ O'.l) ∧ O'.r <+: O.r := fun {O' σ' H'} J => ⟨fun p hp => (J.xs p hp).1, by
      have z : O'.r = O.r := J.rr.rc rfl
      rw [z]
      exact List.prefix_refl _⟩
    cases y1 with
    | error e =>
      have hF' : some (Except.error e) = some r := hF
      cases hF'
      exact fun O' σ' H' d J ex q => fin H' d J.ex (q.sub (sub J).1 (sub J).2)
    | ok fl =>
      cases fl with
      | brk => cases hF
      | ct => cases hF
      | nx =>
        have hF' : some (Except.ok (Sl.dat .none)) = some r := hF
        cases hF'
        exact fun O' σ' H' J ex => fin H' .non J.ex .non
      | ret u =>
        have hF2 : (if isX u = true then none else some (Except.ok u : Except Exc Sl)) = some r := hF
        split at hF2
        case isTrue => cases hF2
        case isFalse hnx =>
        cases hF2
        refine fun O' σ' H' v J ex q => ?_
        rcases q with ⟨d, rfl, rd⟩ | ⟨hs, p, ho, rfl, hm, hp, c, nb, ng, nB, nr⟩ | ⟨e, p, rfl, rfl, rx⟩
        · exact fin H' v J.ex (R.mono (hide_sub (sub J).1 (sub J).2) _ _ rd)
        · have c2 : Cont ⟨K, w, []⟩ (hide (O.put p) H') p ho u := (c.mono (hide_sub (O := O.put p) (O' := O') (fun b hb => (List.mem_cons.mp hb).elim (fun e => e ▸ hm) ((sub J).1 b)) (sub J).2)).kw
          have key : ∀ H' p ho, Ex H H' → H p = none → H' p = some ho → Cont ⟨K, w, []⟩ (hide (O.put p) H') p ho u → Q (.ref p) H' := by
            cases u with
            | dat d => cases hs
            | exc d => cases hs
            | _ => exact fin
          exact key H' p ho J.ex nB hp c2
        · exact absurd rfl hnx
end
def mFnE (i : Nat) (F : FnE) : M Sl := fun a => match a[i]? with
  | some (.exc e) => (match F e with
    | some (.ok .un) => none
    | some (.ok (.exc _)) => none
    | some (.ok s) => some (.ok s, a)
    | _ => none)
  | _ => none
section
variable {X : Cx} {W : WB} {CX : CXT} {k : Nat} {f : Addr} {fd : FuncData} {ps : List Str} {x y : Str} {p pos np : Pos}
theorem hot_kw (hc : X.calm = false) : X.kw = ⟨X.K, X.w, X.pn⟩ := by
  show KW.mk X.K X.w (if X.calm then [] else X.pn) = _
  rw [hc]
  rfl
theorem SR.exc {K : KW} {G : Gd} {O : Own} {σ : St} {H : Hp} {a : AEnv} {i : Nat} {e : Exc} (I : SR K G O σ H a) (h : a[i]? = some (.exc e)) : ∃ b, σ[i]? = some (some (.ref b)) ∧ ExAt K (hide O H) b e := by
  obtain ⟨x, h1, b, rfl, h2⟩ := I.x h rfl
  exact ⟨b, h1, h2⟩
theorem px_fnE {F : FnE} (i : Nat) (Fn : FnX X.prog X.w X.K X.mg X.base CX k f fd ps (spE X.K X.w F)) (hc : X.calm = false) (hr : L2H.RoomH k X.A) (hot : L2H.HotC X) (hg : Gl X x) (hm : X.mg x = some (.ref f)) (hk : PySem.W.keepIn X.K (.ref f) = true) (hb : Binds X.K fd ps [])
    (hx : ∀ σ, PassesAt CX X σ (WE W.f σ)) (hN : X.N[i]? = some y := by rfl) (hv : Vis X.env.scope y := by first | exact Or.inl rfl | exact Or.inr (Or.inl rfl) | exact Or.inr (Or.inr rfl)) (hd : (y == ("__debug__" : Str)) = false := by decide)
    (hcd : (y == ("__classdict__" : Str)) = false := by decide) (hdb : (x == ("__debug__" : Str)) = false := by decide) (he : starEach [.Name y np] X.env = (false, eval (.Name y np) X.env) :: starEach [] X.env := by rfl)
    (hpl : (backTo pos (starEach [] X.env)).any (·.1) = false := by rfl) : PX X W (.Call (.Name x p) [.Name y np] [] pos) (mFnE i F) := by
  refine PE.imp (pe_callX Fn hr hot hg hm hk hb hx (pa_cons (pe_var (i := i) hN hv hd hcd) pa_nil he) hdb he hpl) fun σ H Q ⟨G, O, a, q⟩ => ?_
  obtain ⟨I, op, y, ey, fin⟩ := q
  unfold mFnE at ey
  cases ha : a[i]? with
  | none => rw [ha] at ey; cases ey
  | some s =>
    rw [ha] at ey
    cases s with
    | exc e =>
      dsimp only at ey
      obtain ⟨b, hb1, hb2⟩ := I.exc ha
      rw [hot_kw hc] at hb2
      cases hF : F e with
      | none => rw [hF] at ey; cases ey
      | some r =>
        rw [hF] at ey
        refine ⟨_, hb1, ⟨b, rfl, O, e, r, I.ownOk, hb2, hF, ?_⟩⟩
        cases r with
        | error er => cases ey
        | ok s =>
          have new : ∀ {s : Sl}, (∀ (O' : Own) (H' : Hp) (v : V), SR X.kw G O' σ H' a → Ext O H O' H' → RS X.kw G O' σ H' a v s → Q v H') → ∀ H' p ho, Ex H H' → H p = none → H' p = some ho → Cont ⟨X.K, X.w, []⟩ (hide (O.put p) H') p ho s → Q (.ref p) H' := fun {s} F1 H' p ho ex np hp c =>
            F1 (O.put p) H' (.ref p) (I.take ex np hp) (ext_take I.th ex np) (.inr (.inl (I.isNew ex np hp (by rw [hot_kw hc]; exact c.kw))))
          cases s with
          | un => cases ey
          | exc d => cases ey
          | dat d =>
            cases ey
            exact fun H' v ex rd => fin O H' v (I.grow ex) (ext_grow ex) (.inl ⟨d, rfl, rd⟩)
          | _ => cases ey; exact new fin
    | _ => cases ey
/-! ### isinstance(e, C) -/
def mIsE (i : Nat) (T : List (Str × Bool)) : M PyData := fun a => match a[i]? with
  | some (.exc e) => if e.fs.isEmpty = true then (T.lookup e.cls).map fun b => (.ok (.bool b), a) else none
  | _ => none
def rIsX (X : Cx) : List V → Hp → VK → Prop := fun xs H Q => ∃ (a D : Addr) (oe : Obj) (c : V) (cv : Value) (b : Bool), xs = [.ref a, c] ∧ ((a, oe) ∈ X.pn ∨ H a = some (.ext fun h => h.get? a = some oe)) ∧ oe.cls = .ref D ∧ oe.dict = none ∧ (∃ vs, oe.data = .fields vs) ∧ ExcC X.K D ∧
  (∀ u, RelV c u → u = cv) ∧ PySem.W.kitOne X.K (.ref D) cv = some b ∧ Q (.bl b) H
theorem call_isX : CallR X (.builtin "isinstance") (rIsX X) := by
  intro pins s σ H xs us Q I r h
  obtain ⟨a, D, oe, c, cv, b, rfl, ha, hcls, hdct, ⟨dv, hdv⟩, EC, hcv, hkit, q⟩ := h
  have hget : s.heap.get? a = some oe := by
    rcases ha with ha | ha
    · exact (I.pin (a, oe) (List.mem_append_left _ ha)).1
    · exact (I.hok a _ ha).1
  have inst : PySem.W.InstAt s.heap a oe D none := by
    obtain ⟨oc, od, dat, slots⟩ := oe
    dsimp only at hcls hdct hdv
    subst hcls hdct hdv
    exact ⟨hget, rfl, rfl, trivial⟩
  cases r with
  | cons r1 r2 =>
    cases r1
    cases r2 with
    | cons r2 r3 =>
      cases r3
      have e2 := hcv _ r2
      subst e2
      exact PySem.W.kia_one (PySem.W.handS_kitx_exc EC.hg EC.hk EC.hs EC.hd EC.ha EC.hn EC.ht EC.hm) I.kIn inst hkit (fun z => nomatch z) fun tk => ⟨.bl b, H, I.kept (t' := tk) fun _ _ z => z, rfl, q⟩
theorem lookup_mem {T : List (Str × Bool)} {z : Str} {b : Bool} (h : T.lookup z = some b) : (z, b) ∈ T := by
  induction T with
  | nil => cases h
  | cons t T ih =>
    obtain ⟨t1, t2⟩ := t
    rw [List.lookup_cons] at h
    split at h
    · rename_i heq
      have : z = t1 := eq_of_beq heq
      rw [this, Option.some.inj h]
      exact List.mem_cons_self
    · exact List.mem_cons_of_mem _ (ih h)
theorem pd_isX (i : Nat) {T : List (Str × Bool)} {ce : Expr} {c : V} {cv : Value} (hgl : Gl X "isinstance") (hm : X.mg "isinstance" = none) (hce : PE X ce (tC c)) (hcv : ∀ u, RelV c u → u = cv) (hT : ∀ z ∈ T, ExcC X.K (clsA X.K z.1) ∧ PySem.W.kitOne X.K (.ref (clsA X.K z.1)) cv = some z.2) (hk : X.kw.k = X.K) (hpn : ∀ z ∈ X.kw.pn, z ∈ X.pn)
    (hN : X.N[i]? = some y := by rfl) (hv : Vis X.env.scope y := by first | exact Or.inl rfl | exact Or.inr (Or.inl rfl) | exact Or.inr (Or.inr rfl)) (hd : (y == ("__debug__" : Str)) = false := by decide) (hcd : (y == ("__classdict__" : Str)) = false := by decide)
    (he1 : starEach [.Name y np, ce] X.env = (false, eval (.Name y np) X.env) :: starEach [ce] X.env := by rfl) (he2 : starEach [ce] X.env = (false, eval ce X.env) :: starEach [] X.env := by rfl)
    (hpl : (backTo pos (starEach [ce] X.env)).any (·.1) = false := by rfl) : PD X W (.Call (.Name "isinstance" p) [.Name y np, ce] [] pos) (mIsE i T) := by
  refine PE.imp (pe_callB call_isX hgl hm PyProof.Rows.boot_isinstance (pa_cons (pe_var (i := i) hN hv hd hcd) (pa_cons hce pa_nil he2) he1) (by decide) (by decide) he1 hpl) fun σ H Q ⟨G, O, a, q⟩ => ?_
  obtain ⟨I, op, y, ey, fin⟩ := q
  unfold mIsE at ey
  cases ha : a[i]? with
  | none => rw [ha] at ey; cases ey
  | some s =>
    rw [ha] at ey
    cases s with
    | exc e =>
      dsimp only at ey
      split at ey
      case isFalse => cases ey
      case isTrue hfs =>
      obtain ⟨b, hb1, d, hb2, hb3⟩ := I.exc ha
      have hd0 : d = none := by
        rcases hb3 with z | ⟨p, vs, _, _, _, z⟩
        · exact z.2
        · exact absurd (List.isEmpty_iff.mp hfs) z
      cases hl : T.lookup e.cls with
      | none => rw [hl] at ey; cases ey
      | some v =>
        rw [hl] at ey
        have ey' : ((Except.ok (PyData.bool v) : Except Exc PyData), a) = y := Option.some.inj ey
        subst ey'
        obtain ⟨t1, t2⟩ := hT _ (lookup_mem hl)
        subst hd0
        have fq : Q (.bl v) H := fin O H (.bl v) I (Ext.refl _ _) (.bl v)
        have mk : ∀ oe, ((b, oe) ∈ X.pn ∨ H b = some (.ext fun h => h.get? b = some oe)) → ZE X.kw e none oe → rIsX X [.ref b, c] H Q := fun oe hoe hz =>
          ⟨b, clsA X.K e.cls, oe, c, cv, v, rfl, hoe, hz.1.1, hz.1.2.1, hz.2, t1, hcv, t2, fq⟩
        refine ⟨_, hb1, ?_⟩
        rcases hb2 with ⟨oe, h1, h2⟩ | ⟨oe, h1, h2⟩
        · exact mk oe (.inl (hpn _ h1)) h2
        · exact mk oe (.inr (hide_some.mp h1).2) h2
    | _ => cases ey
end
end Am

/-! Am36: list comprehensions over range where an exception is handled. -/
namespace Am
open PySem L2
section
variable {X : Cx} {elt tg iter : Expr} {ifs : List Expr} {scope : Scope} {own : List (Str × Nat)} {pos : Pos} {wi : TI} {g : TG} {tt : TT} {te : TE}
/-- the block's context, the pins kept -/
abbrev blkP (X : Cx) (s : Shared) (H : Hp) (scope : Scope) (ce : Env) (fp : List Addr) : Cx := { X.blk s H scope ce fp with pn := X.pn }
theorem hc_core {pins : List (Addr × Obj)} {s : Shared} {σ : L2.St} {H : Hp} {Q : VK} {pos' : Pos} {use : Option (Value → Sem Unit)} {Qf : Value → Shared → Prop} (hot : L2H.HotC X) (hN : X.N.Nodup) (I : Inv X pins σ H s) (hi : L2H.PIH X tg iter wi) (ok : BlkOk X.N X.env.scope scope own)
    (hg : ∀ (s : Shared) (H : Hp) (C : Addr) (cl : List (Str × Addr)) (fp : List Addr), PG (blkP X s H scope (compEnvC scope cl C X.env) fp) tg g) (ht : ∀ (s : Shared) (H : Hp) (C : Addr) (cl : List (Str × Addr)) (fp : List Addr), PTs (blkP X s H scope (compEnvC scope cl C X.env) fp) ifs tt)
    (he : ∀ (s : Shared) (H : Hp) (C : Addr) (cl : List (Str × Addr)) (fp : List Addr), PE (blkP X s H scope (compEnvC scope cl C X.env) fp) elt te) (hs : ∀ x, foldedSetIterable iter X.env x = Pure.pure x)
    (h : tLc wi g tt te (own.map (·.2)) σ H Q)
    (hRR : ∀ D C s' m H', Inv X pins σ H' s' → Q (.ref D) H' → s'.heap.Ns C m → FpOk X pins H' C → compPost (model X.prog X.w) X.A X.xe use Qf (.ref D) C (.ok .next) s') :
    wpAny (model X.prog X.w) X.A (comprehension (.ListComp elt [⟨tg, iter, ifs, 0⟩] scope pos) scope X.env pos' (newList []) false (eval iter X.env) use) Qf X.xe s := by
  have cells : ∀ y ∈ scope.names, y.2 = .free → ∃ c, X.env.cells.lookup y.1 = some c := fun y hy e => (ok.free y hy e).elim (fun k => I.ok.has _ (.inl k)) fun k => I.ok.has _ (.inr k)
  refine wpAny_comprehension_free (use := use) rfl hs (closure_ok cells) ok.kind (fun y hy e => by rw [ok.uniq y hy, e]) (thn (hi.run pins s σ H _ I h) fun xv sa hx => thn hx fun itv sb hb => ?_)
  obtain ⟨it, fp, tn, J, Hb, rfl, Ib, T, stb, fpb, q⟩ := hb
  refine wpAny_newObj_type (newEnv_comp ?_) (by show 0 ≤ sizeLine; decide)
  have hD0 : Hb sb.heap.objs.size = none := Ib.hok.fresh (Nat.le_refl _)
  generalize hD : sb.heap.objs.size = D at hD0
  obtain ⟨Wm, ⟨m0, w0⟩, turn⟩ := q D hD0
  generalize hO : ({ cls := .type "list", data := .seq ([] : List Value).toArray } : Obj) = newO
  generalize hsc : ({ sb with heap := sb.heap.push newO } : Shared) = sc
  have hheap : sc.heap = sb.heap.push newO := by rw [← hsc]
  have Ic : Inv X pins σ (upd Hb D (.lst [])) sc := by
    rw [← hsc, ← hD, ← hO]
    exact Ib.laid (t' := sb.toks) (fun b o e => Heap.get?_push_of_some _ e) (Nat.le_refl _) ⟨Nat.zero_le _, [], 0, .nil, Heap.get?_push_size _ rfl⟩
  have fpc : ∀ b ∈ fp, FpOk X pins (upd Hb D (.lst [])) b ∧ b < sc.heap.objs.size := fun b hb => by
    obtain ⟨o, e, _⟩ := T.obj _ _ stb b hb
    have hlt := Heap.lt_size e
    have hne : b ≠ D := by rw [← hD]; exact Nat.ne_of_lt hlt
    exact ⟨⟨by rw [upd_ne hne]; exact (fpb b hb).1, (fpb b hb).2⟩, by rw [hheap, Heap.size_push]; exact Nat.lt_succ_of_lt hlt⟩
  have stc : tn 0 sc.heap := T.keep _ _ _ stb fun b _ o e => by rw [hheap]; exact Heap.get?_push_of_some _ e
  have Id := block_start Ic ok hN fpc
  have pg := hg sc (upd Hb D (.lst [])) sc.heap.objs.size (cellsFrom (sc.heap.objs.size + 1) scope.names (cloFrom X.env.cells scope.names [])) fp
  have pt := ht sc (upd Hb D (.lst [])) sc.heap.objs.size (cellsFrom (sc.heap.objs.size + 1) scope.names (cloFrom X.env.cells scope.names [])) fp
  have pe := he sc (upd Hb D (.lst [])) sc.heap.objs.size (cellsFrom (sc.heap.objs.size + 1) scope.names (cloFrom X.env.cells scope.names [])) fp
  have goal : codeAny (model X.prog X.w) X.A (.compStart (.ListComp elt [⟨tg, iter, ifs, 0⟩] scope pos) 0 (.ref it) (.ref D) (compEnvC scope (cellsFrom (sc.heap.objs.size + 1) scope.names (cloFrom X.env.cells scope.names [])) sc.heap.objs.size X.env))
      (compPost (model X.prog X.w) X.A X.xe use Qf (.ref D) sc.heap.objs.size) { sc with heap := pushCells (sc.heap.push { cls := .type "dict", data := .dict #[] }) scope.names } := by
    have nfp : ∀ b ∈ fp, (upd Hb D (.lst [])) b = none := fun b hb => (fpc b hb).1.1
    generalize hce : compEnvC scope (cellsFrom (sc.heap.objs.size + 1) scope.names (cloFrom X.env.cells scope.names [])) sc.heap.objs.size X.env = ce at Id pg pt pe ⊢
    have hCL : ce.locals = sc.heap.objs.size := by subst hce; rfl
    generalize hHc : upd Hb D (.lst []) = Hc at Ic Id pg pt pe w0 nfp fpc
    generalize hsd : ({ sc with heap := pushCells (sc.heap.push { cls := .type "dict", data := .dict #[] }) scope.names } : Shared) = sd at Id ⊢
    have grown : ∀ b o, sc.heap.get? b = some o → sd.heap.get? b = some o := fun b o e => by rw [← hsd]; exact pushCells_keeps _ _ _ _ (Heap.get?_push_of_some _ e)
    have std : tn 0 sd.heap := T.keep _ _ _ stc fun b _ o e => grown b o e
    -- the pins are kept in the block
    have Ie : Inv (blkP X sc Hc scope ce fp) [] (wipe σ (own.map (·.2))) Hc sd := by
      refine ⟨⟨Id.ok.mod, Id.ok.kind, Id.ok.glob, Id.ok.blt, Id.ok.above, Id.ok.inj, Id.ok.has, Id.ok.cab, Id.ok.hd, Id.ok.frames, Id.ok.stk, Id.ok.exf, Id.ok.bs, Id.ok.bsz, Id.ok.noex, Id.ok.exfs, Id.ok.funs, Id.ok.frf⟩, Id.os, Id.bare, Id.base, Id.loc, Id.cell, Id.free, Id.freeC, fun z hz => ?_, Id.hok, Id.len⟩
      have hz' : z ∈ X.pn := (List.mem_append.mp hz).elim id fun q => absurd q (by simp)
      obtain ⟨c1, c2, c3, c4, c5⟩ := Ic.pin z (List.mem_append_left _ hz')
      refine ⟨grown _ _ c1, c2, ?_, fun hm => ?_, c5⟩
      · show z.1 ≠ ce.locals
        rw [hCL]
        exact Nat.ne_of_lt (Heap.lt_size c1)
      · rcases List.mem_cons.mp (Ic.stkSub z.1 hm) with q | q
        · exact c3 q
        · exact c4 q
    have hot' : L2H.HotC (blkP X sc Hc scope ce fp) := hot
    have fits : ∀ {σ' : L2.St} {H' : Hp} {s' : Shared}, Inv (blkP X sc Hc scope ce fp) [] σ' H' s' → (∀ b ∈ fp, H' b = none) → ∀ b ∈ fp, FpOk (blkP X sc Hc scope ce fp) [] H' b := fun {σ' H' s'} I' hn b hb =>
      ⟨hn b hb, (I'.ok.exf b hb).1, I'.ok.exfs b hb, .inl hb, fun x c e => (I'.ok.exf b hb).2 x c e, fun p hp => (fpc b hb).1.2.2.2.2.2 p (List.mem_append_left _ ((List.mem_append.mp hp).elim id fun q => absurd q (by simp)))⟩
    have loop : codeAny (model X.prog X.w) X.A (.compLoop (.ListComp elt [⟨tg, iter, ifs, 0⟩] scope pos) 0 (.ref it) (.ref D) ce) (compPost (model X.prog X.w) X.A X.xe use Qf (.ref D) sc.heap.objs.size) sd := by
      refine compLoop_any (fun n s' => ∃ j H', Inv (blkP X sc Hc scope ce fp) [] (wipe σ (own.map (·.2))) H' s' ∧ tn j s'.heap ∧ (∀ b ∈ fp, H' b = none) ∧ Wm j n H') (fun n se => ?_) m0 ⟨0, Hc, Ie, std, nfp, w0⟩
      rintro ⟨j, He, Ie, ste, ne, we⟩
      rcases turn j n He we with ⟨stop, fin⟩ | ⟨go, Nxt, hNx, step⟩
      · refine thnF (T.done (blkP X sc Hc scope ce fp) rfl rfl rfl hot' j [] se _ He (fun _ _ => False) Ie (fits Ie ne) ste stop) fun r sf hf => ?_
        obtain ⟨rfl, If⟩ := hf
        have Ig : Inv X pins σ He sf := Ic.call' (ch := fp) If.os If.base If.hok If.bare fun b hb => ⟨(fpc b hb).1.2.2.2.1, (fpc b hb).1.2.1, (fpc b hb).1.2.2.2.2.1, (fpc b hb).1.2.2.2.2.2⟩
        have hCn : He sc.heap.objs.size = none := hCL ▸ If.free
        obtain ⟨m, hns, _⟩ := If.loc
        have hns' : sf.heap.Ns sc.heap.objs.size m := hCL ▸ hns
        exact hRR D sc.heap.objs.size sf m He Ig fin hns' (Ic.fpOk (Nat.le_refl _) hCn)
      · refine thnF (T.item (blkP X sc Hc scope ce fp) rfl rfl rfl hot' j [] se _ He (fun _ _ => False) Ie (fits Ie ne) ste go) fun r sf hf => ?_
        obtain ⟨u, rfl, hf⟩ := hf
        refine thnF hf fun _ sg hg => ?_
        obtain ⟨x, Hg, Ig, rg, yg, stg, ng⟩ := hg
        have Ip := Ig.pinned (fits Ig ng) (T.obj _ _ stg)
        refine thnF (pg.run _ sg _ Hg x u _ Ip rg (step x Hg yg)) fun _ sh hh => ?_
        obtain ⟨σh, Hh, Ih, hw, qh⟩ := hh
        have back : ∀ {s' : Shared} {H' : Hp}, Inv (blkP X sc Hc scope ce fp) ([] ++ pinsAt fp sg.heap) σh H' s' → Nxt H' → ∃ m, m < n ∧ ∃ j H', Inv (blkP X sc Hc scope ce fp) [] (wipe σ (own.map (·.2))) H' s' ∧ tn j s'.heap ∧ (∀ b ∈ fp, H' b = none) ∧ Wm j m H' := fun {s' H'} I' nx => by
          obtain ⟨m', hm, w'⟩ := hNx H' nx
          have held : ∀ b ∈ fp, ∀ o, sg.heap.get? b = some o → s'.heap.get? b = some o ∧ H' b = none := fun b hb o e =>
            let z := I'.pin (b, o) (List.mem_append_right _ (List.mem_append_right _ (mem_pinsAt hb e)))
            ⟨z.1, z.2.1⟩
          refine ⟨m', hm, j + 1, H', (I'.unpinned (pins := [])).weak (by rw [← hw, wipe_length]) (fun i v e => ?_), T.keep _ _ _ stg fun b hb o e => (held b hb o e).1, fun b hb => ?_, w'⟩
          · rw [← hw] at e
            exact (wipe_some e).1
          · obtain ⟨o, e, _⟩ := T.obj _ _ stg b hb
            exact (held b hb o e).2
        refine thnF (pt.run _ sh σh Hh _ Ih qh) fun b si hi => ?_
        obtain ⟨Hi, Ii, qi⟩ := hi
        cases b with
        | false =>
          simp only [Bool.false_eq_true, if_false] at qi ⊢
          exact back Ii qi
        | true =>
          simp only [if_true] at qi ⊢
          refine thnF (pe.run _ si σh Hi _ Ii qi) fun z sj hj => ?_
          obtain ⟨y, Hj, Ij, rj, acc, hDj, hz, nx⟩ := hj
          exact app_ok (X := blkP X sc Hc scope ce fp) Ij hDj hz rj fun sk Ik => back Ik nx
    exact codeAny_compStart_list loop (T.self X.A 0 _ _ _ std loop)
  rw [← hO] at hsc
  subst hsc
  exact goal
end
section
variable {X : Cx} {W : WB} {elt tg iter : Expr} {ifs : List Expr} {scope : Scope} {own : List (Str × Nat)} {pos : Pos} {wi : TI} {g : TG} {tt : TT} {te : TE}
theorem pe_hc (hot : L2H.HotC X) (hN : X.N.Nodup) (hi : L2H.PIH X tg iter wi) (ok : BlkOk X.N X.env.scope scope own)
    (hg : ∀ (s : Shared) (H : Hp) (C : Addr) (cl : List (Str × Addr)) (fp : List Addr), PG (blkP X s H scope (compEnvC scope cl C X.env) fp) tg g) (ht : ∀ (s : Shared) (H : Hp) (C : Addr) (cl : List (Str × Addr)) (fp : List Addr), PTs (blkP X s H scope (compEnvC scope cl C X.env) fp) ifs tt)
    (he : ∀ (s : Shared) (H : Hp) (C : Addr) (cl : List (Str × Addr)) (fp : List Addr), PE (blkP X s H scope (compEnvC scope cl C X.env) fp) elt te) (hs : ∀ x, foldedSetIterable iter X.env x = Pure.pure x := by intro _; rfl) :
    PE X (.ListComp elt [⟨tg, iter, ifs, 0⟩] scope pos) (tLc wi g tt te (own.map (·.2))) := by
  constructor
  intro pins s σ H Q I h
  rw [eval_ListComp]
  refine hc_core hot hN I hi ok hg ht he hs h fun D C s' m H' I' q hn fo => ⟨m, hn, fun h'' sb => ?_⟩
  obtain ⟨g0, g1, g2, g3, g4, g5⟩ := fo
  exact ⟨.ref D, H', I'.turned (t' := s'.toks) (fun b o hb e => (sb.2 b hb).trans e) g0 g1 g3 g4 g5, rfl, q⟩
theorem px_lcH {m : M PyData} {c : M Bool} {t : Tgt} {mi : M (List PyData)} (hc : X.calm = false) (hot : L2H.HotC X) (hN : X.N.Nodup) (hi : L2H.PIH X tg iter (tI X.kw W mi)) (ok : BlkOk X.N X.env.scope scope own) (hs' : ∀ i ∈ t.slots, i ∈ own.map (·.2))
    (hg : ∀ (s : Shared) (H : Hp) (C : Addr) (cl : List (Str × Addr)) (fp : List Addr), PG (blkP X s H scope (compEnvC scope cl C X.env) fp) tg (t.rd X.kw)) (ht : ∀ (s : Shared) (H : Hp) (C : Addr) (cl : List (Str × Addr)) (fp : List Addr), PBs (blkP X s H scope (compEnvC scope cl C X.env) fp) (W0 W) ifs c)
    (he : ∀ (s : Shared) (H : Hp) (C : Addr) (cl : List (Str × Addr)) (fp : List Addr), PD (blkP X s H scope (compEnvC scope cl C X.env) fp) (W0 W) elt m) (hs : ∀ x, foldedSetIterable iter X.env x = Pure.pure x := by intro _; rfl) :
    PX X W (.ListComp elt [⟨tg, iter, ifs, 0⟩] scope pos) (mLc mi t c m (own.map (·.2))) :=
  ⟨fun pins s σ H Q I h => (pe_hc hot hN hi ok hg ht he hs).run pins s σ H Q I (tM_lc hs' (by rw [I.len]; exact own_lt ok) h)⟩
theorem pih_range1 {a : Expr} {p pos : Pos} {m : M (List PyData)} (hg : Gl X "range") (hm : X.mg "range" = none) (ha : PDs X W [a] m) (hs : starEach [a] X.env = [(false, eval a X.env)] := by rfl) : L2H.PIH X tg (.Call (.Name "range" p) [a] [] pos) (tI X.kw W (mRng m gR1)) := by
  have key := L2H.pi_range1H (X := X) (tg := tg) (p := p) (pos := pos) hg hm ha hs
  refine ⟨fun pins s σ H R I h => key.run pins s σ H R I ?_⟩
  obtain ⟨G, O, a, q⟩ := h
  refine ⟨G, O, a, q.bind (RR := RDs X.kw) fun O1 H1 a1 vs ds I1 e1 r1 q1 => ?_⟩
  obtain ⟨items, hi, q2⟩ := q1.of
  unfold gR1 at hi
  split at hi
  · split at hi
    · rename_i j hj
      cases hi
      have hj' := Bool.and_eq_true_iff.mp hj
      cases r1 with
      | cons r1 r2 =>
        cases r2
        cases r1
        exact ⟨j, rfl, of_decide_eq_true hj'.1, of_decide_eq_true hj'.2, q2.pure wk_range⟩
    · cases hi
  · cases hi
end
end Am

/-! Am37: calls of defs that may raise, where they do not; facts of classes; simp theory of these. -/
namespace Am
open PySem L2
section
variable {X : Cx} {W : WB} {CX : CXT} {k : Nat} {f : Addr} {fd : FuncData} {ps : List Str} {x y : Str} {p pos np : Pos} {e : Expr} {es : List Expr} {m : M (List PyData)}
def mFnC (m : M (List PyData)) (F : FnD) : M Sl := M.bind m fun ds => fun a => match F ds with
  | some (.ok .un) => none
  | some (.ok s) => some (.ok s, a)
  | _ => none
theorem mFnC_mFn {m : M (List PyData)} {F : FnD} {a : AEnv} {r : Except Exc Sl} {a' : AEnv} (h : mFnC m F a = some (r, a')) : mFn m (fun ds => match F ds with | some (.ok s) => some (.ok s) | _ => none) a = some (r, a') := by
  unfold mFnC at h
  unfold mFn
  unfold M.bind at h ⊢
  cases hm : m a with
  | none => rw [hm] at h; cases h
  | some z =>
    obtain ⟨z1, z2⟩ := z
    rw [hm] at h
    cases z1 with
    | error er => exact h
    | ok ds =>
      dsimp only at h ⊢
      cases hF : F ds with
      | none => rw [hF] at h; cases h
      | some u =>
        rw [hF] at h
        cases u with
        | error er => cases h
        | ok s => cases s <;> exact h
theorem At.fnC {m : M (List PyData)} {F : FnD} {n : Nat} {σ : St} {H : Hp} {Q : VK} (hlen : ∀ a ds a', m a = some (.ok ds, a') → ds.length = n) (h : tM X.kw W (RS X.kw) (mFnC m F) σ H Q) :
    tM X.kw W (RDs X.kw) m σ H fun vs H' => spD X.kw F n vs H' Q (fun _ _ _ => False) := by
  obtain ⟨G, O, a, I, op, z, ez, fz⟩ := h
  obtain ⟨z1, z2⟩ := z
  have h2 : tM X.kw W (RS X.kw) (mFn m (fun ds => match F ds with | some (.ok s) => some (.ok s) | _ => none)) σ H Q := ⟨G, O, a, I, op, (z1, z2), mFnC_mFn ez, fz⟩
  obtain ⟨G2, O2, a2, q2⟩ := At.fn hlen h2
  refine ⟨G2, O2, a2, q2.sr, q2.op, ?_⟩
  obtain ⟨y, ey, fy⟩ := q2.go
  refine ⟨y, ey, ?_⟩
  obtain ⟨y1, y2⟩ := y
  cases y1 with
  | error er => exact fy
  | ok ds =>
    intro O' H' v I' e' r'
    obtain ⟨l1, O3, ds3, r3, ok3, ra3, hF3, fin3⟩ := fy O' H' v I' e' r'
    refine ⟨l1, O3, ds3, r3, ok3, ra3, ?_, ?_⟩
    · dsimp only at hF3
      cases hF : F ds3 with
      | none => rw [hF] at hF3; cases hF3
      | some u =>
        rw [hF] at hF3
        cases u with
        | error er => cases hF3
        | ok s => exact hF3
    · dsimp only at hF3
      cases hF : F ds3 with
      | none => rw [hF] at hF3; cases hF3
      | some u =>
        rw [hF] at hF3
        cases u with
        | error er => cases hF3
        | ok s =>
          have e3 : (Except.ok s : Except Exc Sl) = r3 := Option.some.inj hF3
          subst e3
          cases s <;> exact fin3
theorem px_fnC {F : FnD} {n : Nat} (G : FnG X.prog X.w X.K X.mg X.base CX k f fd ps (spD X.kw F n)) (hr : Room k X.A) (gd : X.A.guards = some []) (hg : Gl X x) (hm : X.mg x = some (.ref f)) (hk : PySem.W.keepIn X.K (.ref f) = true) (hb : Binds X.K fd ps []) (hn : (e :: es).length = n)
    (hx : ∀ σ, PassesAt CX X σ (fun _ _ _ => False)) (hlen : ∀ a ds a', m a = some (.ok ds, a') → ds.length = n) (ha : PDs X W (e :: es) m) (hdb : (x == ("__debug__" : Str)) = false := by decide) (he : starEach (e :: es) X.env = (false, eval e X.env) :: starEach es X.env := by rfl)
    (hpl : (backTo pos (starEach es X.env)).any (·.1) = false := by rfl) : PX X W (.Call (.Name x p) (e :: es) [] pos) (mFnC m F) :=
  PE.imp (pe_callG (E := fun _ _ _ _ => False) G hr gd hg hm hk hb hx ha hdb he hpl) fun σ H Q h => At.fnC hlen h
theorem passC (σ : St) : PassesAt (L2N.CX X.prog X.w) X σ (fun _ _ _ => False) := L2N.passAt (W := fun _ _ _ _ => False) taken0 σ
end
theorem room_mark {k : Nat} {A : Around} (r : Room k A) (h : Option Value) : L2H.RoomH k (A.mark h) := ⟨r.dp, r.un⟩
theorem kit_own {K : PySem.W.Frag} {R C : Addr} {b : Bool} (hd : PySem.W.hasDictIn K C = true) (ht : PySem.W.typeIn K (.ref C) = some (.type "type")) (hs : PySem.W.subIn K (.ref R) (.ref C) = some b) (hr : PySem.W.subIn K (.ref R) (.ref R) = some true) : PySem.W.kitOne K (.ref R) (.ref C) = some b := by
  obtain ⟨cd, hc, _⟩ := PySem.W.any_some hd
  unfold PySem.W.kitOne
  by_cases e : R = C
  · subst e
    rw [hr] at hs
    rw [if_pos (beq_self_eq_true _), ← Option.some.inj hs]
  · have ne : ¬ ((Value.ref R == Value.ref C) = true) := fun z => e (Value.ref.inj (beq_iff_eq.mp z))
    rw [if_neg ne]
    show (if ((PySem.W.clsIn K C).isSome && PySem.W.typeIn K (.ref C) == some (.type "type")) = true then PySem.W.subIn K (.ref R) (.ref C) else none) = some b
    have e2 : ((PySem.W.clsIn K C).isSome && PySem.W.typeIn K (.ref C) == some (.type "type")) = true := by rw [hc, ht] <;> rfl
    rw [if_pos e2, hs]
theorem kit_typ {K : PySem.W.Frag} {R : Addr} {T : String} {b : Bool} (hm : PySem.W.kitMeta T = true) (hs : PySem.W.subIn K (.ref R) (.type T) = some b) : PySem.W.kitOne K (.ref R) (.type T) = some b := by
  unfold PySem.W.kitOne
  have ne : ¬ ((Value.ref R == Value.type T) = true) := fun z => by
    have := beq_iff_eq.mp z
    cases this
  rw [if_neg ne]
  show (if PySem.W.kitMeta T = true then PySem.W.subIn K (.ref R) (.type T) else none) = some b
  rw [if_pos hm, hs]
theorem boot_VE : bootBuiltins "ValueError" = some (.type "ValueError") := by decide +kernel
theorem clsA_of {K : PySem.W.Frag} {x : Str} {a : Addr} (h : PySem.W.nsIn K mainGlobals x = some (some (.ref a))) : clsA K x = a := by
  unfold clsA
  rw [h]
theorem sub_tab {K : PySem.W.Frag} {c : Value} {T : List (Str × Bool)} (h : ∀ z ∈ T, PySem.W.exmOne K (.ref (clsA K z.1)) c = some z.2) : ∀ z b, T.lookup z = some b → PySem.W.exmOne K (.ref (clsA K z)) c = some b := fun z b e => h _ (lookup_mem e)
theorem all_nil {α : Type} {p : α → Prop} : ∀ z ∈ ([] : List α), p z := fun z h => by cases h
theorem all_cons {α : Type} {p : α → Prop} {a : α} {l : List α} (h1 : p a) (h2 : ∀ z ∈ l, p z) : ∀ z ∈ a :: l, p z := fun z h => by
  rcases List.mem_cons.mp h with rfl | h
  · exact h1
  · exact h2 z h
/-! ### running -/
section
variable {a : AEnv}
@[simp] theorem raise_app {α : Type} (e : Exc) : (M.raise e : M α) a = some (.error e, a) := rfl
def fnCO (a : AEnv) : Option (Except Exc Sl) → Option (Except Exc Sl × AEnv)
  | some (.ok .un) => none
  | some (.ok s) => some (.ok s, a)
  | _ => none
@[simp] theorem fnCO_dat (d : PyData) : fnCO a (some (.ok (.dat d))) = some (.ok (.dat d), a) := rfl
@[simp] theorem fnCO_lst (d : List PyData) : fnCO a (some (.ok (.lst d))) = some (.ok (.lst d), a) := rfl
@[simp] theorem mFnC_app (m : M (List PyData)) (F : FnD) : mFnC m F a = nxt (m a) fun ds a1 => fnCO a1 (F ds) := by
  rw [mFnC, bind_app]
  rfl
def fnEO (a : AEnv) : Option (Except Exc Sl) → Option (Except Exc Sl × AEnv)
  | some (.ok .un) => none
  | some (.ok (.exc _)) => none
  | some (.ok s) => some (.ok s, a)
  | _ => none
@[simp] theorem fnEO_dat (d : PyData) : fnEO a (some (.ok (.dat d))) = some (.ok (.dat d), a) := rfl
@[simp] theorem fnEO_lst (d : List PyData) : fnEO a (some (.ok (.lst d))) = some (.ok (.lst d), a) := rfl
def mFnEO (F : FnE) (a : AEnv) : Option Sl → Option (Except Exc Sl × AEnv)
  | some (.exc e) => fnEO a (F e)
  | _ => none
@[simp] theorem mFnEO_exc (F : FnE) (e : Exc) : mFnEO F a (some (.exc e)) = fnEO a (F e) := rfl
@[simp] theorem mFnE_app (i : Nat) (F : FnE) : mFnE i F a = mFnEO F a a[i]? := by
  unfold mFnE
  cases h : a[i]? with
  | none => rfl
  | some s =>
    cases s with
    | exc e =>
      dsimp only
      show _ = fnEO a (F e)
      unfold fnEO
      rfl
    | _ => rfl
def isEO (T : List (Str × Bool)) (a : AEnv) : Option Sl → Option (Except Exc PyData × AEnv)
  | some (.exc e) => if e.fs.isEmpty = true then (T.lookup e.cls).map fun b => (.ok (.bool b), a) else none
  | _ => none
@[simp] theorem isEO_exc (T : List (Str × Bool)) (c : Str) : isEO T a (some (.exc ⟨c, []⟩)) = (T.lookup c).map fun b => (.ok (.bool b), a) := rfl
@[simp] theorem mIsE_app (i : Nat) (T : List (Str × Bool)) : mIsE i T a = isEO T a a[i]? := by
  unfold mIsE isEO
  rfl
/-- a try whose body comes through -/
theorem mTry_ok {i : Nat} {sub : Str → Option Bool} {m ms : M Fl} {f : Fl} {a' : AEnv} (h : m a = some (.ok f, a')) : mTry i sub m ms a = some (.ok f, a') := by
  unfold mTry
  rw [h]
/-- a try whose suite returns -/
theorem mTry_ret {i : Nat} {sub : Str → Option Bool} {m ms : M Fl} {e : Exc} {s : Sl} {a1 a2 a3 : AEnv} (h1 : m a = some (.error e, a1)) (hl : a1.length = a.length) (hs : sub e.cls = some true) (hp : putS i (.exc e) a1 = some a2) (h2 : ms a2 = some (.ok (.ret s), a3)) (hl3 : a3.length = a.length) (hx : isX s = false) :
    mTry i sub m ms a = some (.ok (.ret s), wipeA (unX a3) [i]) := by
  unfold mTry
  rw [h1]
  dsimp only
  rw [if_pos hl, hs]
  dsimp only
  rw [hp]
  dsimp only
  rw [h2]
  dsimp only
  rw [if_pos ⟨hl3, hx⟩]
end
end Am

/-! Am38: [f, g, h][i](x, ..): a def out of a written list. -/
namespace Am
open PySem L2
def tRefs : List Addr → TA
  | [] => tNil
  | a :: l => tCons (tC (.ref a)) (tRefs l)
theorem tRefs_run : ∀ (as : List Addr) {σ : St} {H : Hp} {Q : List V → Hp → Prop}, Q (as.map V.ref) H → tRefs as σ H Q
  | [], _, _, _, h => h
  | a :: l, σ, H, Q, h => by
    show tCons (tC (V.ref a)) (tRefs l) σ H Q
    exact tRefs_run l (Q := fun vs H1 => Q (V.ref a :: vs) H1) h
def SelOk (X : Cx) (CX : CXT) (k n : Nat) (a : Addr) (F : FnD) : Prop := ∃ fd ps, FnG X.prog X.w X.K X.mg X.base CX k a fd ps (spD X.kw F n) ∧ PySem.W.keepIn X.K (.ref a) = true ∧ Binds X.K fd ps []
def mSel (mi : M PyData) (m : M (List PyData)) (Fs : List FnD) : M Sl := M.bind mi fun d => match d with
  | .int i => if 0 ≤ i then (match Fs[i.toNat]? with
    | some F => mFn m F
    | none => M.fail) else M.fail
  | _ => M.fail
theorem paired_at {α β : Type} {R : α → β → Prop} : ∀ {l : List α} {m : List β} {i : Nat} {b : β}, Paired R l m → m[i]? = some b → ∃ a, l[i]? = some a ∧ R a b
  | _, _, i, b, .nil, h => by simp at h
  | _, _, 0, b, .cons h1 h2, h => by
    cases (Option.some.inj h : _ = b)
    exact ⟨_, rfl, h1⟩
  | _, _, i + 1, b, .cons h1 h2, h => paired_at (i := i) h2 (by simpa using h)
section
variable {X : Cx} {W : WB} {CX : CXT} {k n : Nat} {ns : List Expr} {ix e : Expr} {es : List Expr} {lp sp pos : Pos} {as : List Addr} {Fs : List FnD} {mi : M PyData} {m : M (List PyData)}
theorem px_sel (hl : PA X ns (tRefs as)) (hi : PD X W ix mi) (hS : Paired (SelOk X CX k n) as Fs) (hz : as.length ≤ 100) (hr : Room k X.A) (gd : X.A.guards = some []) (hx : ∀ σ, PassesAt CX X σ (WE W.f σ)) (hlen : ∀ a ds a', m a = some (.ok ds, a') → ds.length = n) (ha : PDs X W (e :: es) m)
    (hp : PlainIx ix := by exact fun _ _ => rfl)
    (ht : eval (.Call (.Subscript (.List ns lp) ix sp) (e :: es) [] pos) X.env = (do callWith pos (← eval (.Subscript (.List ns lp) ix sp) X.env) [] (backTo pos (starEach (e :: es) X.env)) (backToKw pos (keywordEach [] X.env))) := by rfl)
    (he : starEach (e :: es) X.env = (false, eval e X.env) :: starEach es X.env := by rfl) (hpl : (backTo pos (starEach es X.env)).any (·.1) = false := by rfl) :
    PX X W (.Call (.Subscript (.List ns lp) ix sp) (e :: es) [] pos) (mSel mi m Fs) := by
  refine ⟨fun pins s σ H Q I h => ?_⟩
  rw [ht]
  refine wpAny_bind ?_
  have key := (pe_ix (X := X) (pos := sp) ix_list (pe_lst (pos := lp) hl) hi hp).run pins s σ H (fun y H1 => ∃ a F, y = V.ref a ∧ SelOk X CX k n a F ∧ tM X.kw W (RS X.kw) (mFn m F) σ H1 Q) I ?_
  · refine wpAny_mono key (fun u s1 hu => ?_) (fun _ _ z => z)
    obtain ⟨y, H1, I1, ry, a, F, rfl, ⟨fd, ps, G, hk, hb⟩, q⟩ := hu
    have eu : u = Value.ref a := ry
    subst eu
    refine PySem.W.callWith_K (h₀ := X.base) I1.ok.mod.kin hk (thn (ha.run pos pins s1 σ H1 _ I1 (At.fn hlen q)) fun us s2 ⟨vs, H2, I2, rel, q2⟩ => ⟨I2.kIn, ?_⟩) he hpl
    exact call_fnG G hr gd hb (hx σ) I2 rel q2
  · obtain ⟨G, O, a, q⟩ := h
    show tLst (tRefs as) σ H _
    refine tRefs_run as ⟨by rw [List.length_map]; exact Nat.le_trans hz (by decide), fun l hln => ?_⟩
    have ex : Ex H (upd H l (.lst (as.map V.ref))) := Ex.new hln
    have I0 := q.sr
    have q' : At X.kw W (RS X.kw) (mSel mi m Fs) G O a σ (upd H l (.lst (as.map V.ref))) Q := by
      obtain ⟨J, op, y, ey, fy⟩ := q
      refine ⟨J.grow ex, op, y, ey, ?_⟩
      obtain ⟨y1, y2⟩ := y
      cases y1 with
      | error er => exact fun O' H' d J' e' r => fy O' H' d J' ((ext_grow ex).trans e') r
      | ok r0 => exact fun O' H' v J' e' r => fy O' H' v J' ((ext_grow ex).trans e') r
    refine ⟨G, O, a, q'.bind (RR := RD X.kw) fun O1 H1 a1 v d I1 e1 r1 q1 => ?_⟩
    obtain ⟨J, op, y, ey, fy⟩ := q1
    have nl : l ∉ O.l := fun z => by
      obtain ⟨o, ho⟩ := I0.th l z
      rw [hln] at ho
      cases ho
    have hvis : hid O1.l H1 l = some (.lst (as.map V.ref)) := e1.h _ _ (hide_some.mpr ⟨nl, upd_same⟩)
    cases d with
    | int i =>
      dsimp only at ey
      split at ey
      case isFalse => cases ey
      case isTrue h0 =>
      cases hF : Fs[i.toNat]? with
      | none => rw [hF] at ey; cases ey
      | some F =>
        rw [hF] at ey
        obtain ⟨b, hb1, hb2⟩ := paired_at hS hF
        cases r1
        have hlt : i.toNat < as.length := (List.getElem?_eq_some_iff.mp hb1).1
        have at1 : atI (as.map V.ref) i = some (V.ref b) := by
          unfold atI ixN
          have hi2 : i < ((as.map V.ref).length : Int) := by rw [List.length_map]; omega
          rw [if_pos h0, if_pos hi2]
          show (as.map V.ref)[i.toNat]? = _
          rw [List.getElem?_map, hb1]
          rfl
        exact ⟨l, as.map V.ref, i, V.ref b, rfl, rfl, SqL.of (hide_some.mp hvis).2, at1, b, F, rfl, hb2, G, O1, a1, J, op, y, ey, fy⟩
    | _ => cases ey
end
section
variable {a : AEnv}
def selO (m : M (List PyData)) (Fs : List FnD) : PyData → M Sl
  | .int i => if 0 ≤ i then (match Fs[i.toNat]? with
    | some F => mFn m F
    | none => M.fail) else M.fail
  | _ => M.fail
@[simp] theorem mSel_app (mi : M PyData) (m : M (List PyData)) (Fs : List FnD) : mSel mi m Fs a = nxt (mi a) fun d => selO m Fs d := by
  rw [mSel, bind_app]
  rfl
end
end Am

namespace LawK01
/-! the walk of berths_k01_valid_timetables, printed by gen.py -/
open PySem L2 Am
def top (i : Nat) : Stmt := PySem.Challenge.pw_berths_k01_valid_timetables.main.body.getD i (.Pass ⟨0, 0, 0, 0⟩)
abbrev s_is_int : Stmt := top 7
abbrev s_day_events : Stmt := top 10
abbrev s_count_at_midnight : Stmt := top 11
abbrev s_law_bag : Stmt := top 16
abbrev s_law_pick : Stmt := top 17
abbrev s_law_is_int : Stmt := top 21
abbrev s_in_range : Stmt := top 8
abbrev s_counts : Stmt := top 12
abbrev s_law_table : Stmt := top 18
abbrev s_law_due : Stmt := top 22
abbrev s_law_odd : Stmt := top 23
abbrev s_law_edges : Stmt := top 25
abbrev s_is_ship : Stmt := top 9
abbrev s_peak_of : Stmt := top 13
abbrev s_is_table : Stmt := top 14
abbrev s_law_bent : Stmt := top 24
abbrev s_law : Stmt := top 26
def N_is_int : List Str := ["value"]
def m_is_int : M Fl :=
 (mRet (mX (mAndV (mU (mV 0) (isiD "int")) (mNotV (mU (mV 0) (isiD "bool"))))))
abbrev F_is_int : FnD := fnD 1 m_is_int
def m_day_events_l0 : M PyData :=
 (mTup (mDs (mVD 6) (mDs (mVD 10) (mDs (mU (mV 11) gNeg) (mDs (mVD 5) (M.pure []))))))
def m_day_events_l1 : M Fl :=
 (mSeq (mAsgT (Tgt.tp [(Tgt.nm 8), (Tgt.nm 9)]) (mCall (mHs (mH (mB (mV 6) (mV 7) gAdd)) (mHs (mV 1) (M.pure []))) gDivmod))
 (mSeq (mDrop (mMt 3 isL (mDs (mTup (mDs (mVD 9) (mDs (M.pure (PyData.int 0)) (mDs (mU (mV 8) gNeg) (mDs (mVD 6) (mDs (mVD 5) (M.pure []))))))) (M.pure [])) gApp))
 (mDrop (mMt 4 isL (mDs (mTup (mDs (mVD 6) (mDs (M.pure (PyData.int 1)) (mDs (M.pure (PyData.int 0)) (mDs (mVD 6) (mDs (mVD 5) (M.pure []))))))) (M.pure [])) gApp))))
def N_day_events : List Str := ["table", "hours", "ships", "departures", "arrivals", "ship", "hour", "stay", "days_ago", "departure", "kind", "negative", "when"]
def m_day_events : M Fl :=
 (mSeq (mAsgT (Tgt.tp [(Tgt.nm 1), (Tgt.nm 2)]) (mVD 0))
 (mSeq (mPar 3 4 (mSs (mLst (M.pure [])) (mSs (mLst (M.pure [])) (M.pure []))))
 (mSeq (mFor (mEnum (mVD 2)) (Tgt.tp [(Tgt.nm 5), (Tgt.tp [(Tgt.nm 6), (Tgt.nm 7)])])
 m_day_events_l1)
 (mRet (mLc (mIter (mFrz (mCall (mHs (mH (mFrz (mOp gPlus (mV 3) (mV 4)))) (M.pure [])) fun ds => nU (gSorted ds)))) (Tgt.tp [(Tgt.nm 6), (Tgt.nm 10), (Tgt.nm 11), (Tgt.nm 12), (Tgt.nm 5)]) (M.pure true) m_day_events_l0 [6, 10, 11, 12, 5])))))
abbrev F_day_events : FnD := fnD 13 m_day_events
def m_count_at_midnight_l0 : M Fl :=
 (mSeq (mAsg 6 (mX (mB (mH (mB (mV 4) (mV 5) gAdd)) (mV 2) gDiv)))
 (mAug 1 (mVD 6) gAddI))
def N_count_at_midnight : List Str := ["table", "found", "hours", "ships", "hour", "stay", "days_ago"]
def m_count_at_midnight : M Fl :=
 (mSeq (mAsgT (Tgt.tp [(Tgt.nm 2), (Tgt.nm 3)]) (mVD 0))
 (mSeq (mAsg 1 (mX (M.pure (PyData.int 0))))
 (mSeq (mFor (mIter (mVD 3)) (Tgt.tp [(Tgt.nm 4), (Tgt.nm 5)])
 m_count_at_midnight_l0)
 (mRet (mVX 1)))))
abbrev F_count_at_midnight : FnD := fnD 7 m_count_at_midnight
def N_law_bag : List Str := ["_law_cell"]
def m_law_bag : M Fl :=
 (mRet (mLst (mDs (mCall (mHs (mH (M.pure (PyData.int 0))) (mHs (mH (mB (mV 0) (mH (mB (mH (M.pure (PyData.int 10))) (mH (M.pure (PyData.int 18))) gPow)) gSub)) (M.pure []))) gMax2) (mDs (mVD 0) (mDs (M.pure (PyData.int 0)) (M.pure []))))))
abbrev F_law_bag : FnD := fnD 1 m_law_bag
def N_law_pick : List Str := ["_law_bag_here", "_law_many", "_law_first", "_law_second", "_law_told"]
def m_law_pick : M Fl :=
 (mSeq (mSetI 0 (mB (mH (mB (mV 0) (mH (M.pure (PyData.int 2))) gIx)) (mH (M.pure (PyData.int 1))) gAdd) (M.pure (PyData.int 2)))
 (mSeq (mIfS (mB (mH (mB (mV 0) (mH (M.pure (PyData.int 0))) gIx)) (mH (M.pure (PyData.int 0))) gGt)
 (mSeq (mAsg 4 (mX (mB (mH (mB (mV 0) (mH (M.pure (PyData.int 0))) gIx)) (mV 1) gMod)))
 (mSeq (mSetI 0 (mB (mH (mB (mV 0) (mH (M.pure (PyData.int 0))) gIx)) (mV 1) gDiv) (M.pure (PyData.int 0)))
 (mRet (mVX 4))))
 (M.pure .nx))
 (mSeq (mAsg 2 (mX (mB (mH (mB (mH (mB (mH (mB (mH (mB (mH (mB (mV 0) (mH (M.pure (PyData.int 1))) gIx)) (mH (M.pure (PyData.int 2147483629))) gMod)) (mH (M.pure (PyData.int 48271))) gMul)) (mH (mB (mH (mB (mV 0) (mH (M.pure (PyData.int 2))) gIx)) (mH (M.pure (PyData.int 69621))) gMul)) gAdd)) (mH (M.pure (PyData.int 12345))) gAdd)) (mH (M.pure (PyData.int 2147483647))) gMod)))
 (mSeq (mAsg 3 (mX (mB (mH (mB (mH (mB (mV 2) (mV 2) gMul)) (mH (mB (mH (mB (mV 0) (mH (M.pure (PyData.int 2))) gIx)) (mH (M.pure (PyData.int 40692))) gMul)) gAdd)) (mH (M.pure (PyData.int 2147483587))) gMod)))
 (mRet (mX (mB (mH (mB (mH (mB (mH (mB (mV 2) (mH (M.pure (PyData.int 2147483587))) gMul)) (mV 3) gAdd)) (mH (M.pure (PyData.int 32))) gDiv)) (mV 1) gMod)))))))
abbrev F_law_pick : FnI := fnI 5 m_law_pick
def N_law_is_int : List Str := ["_law_value", "_law_low_end", "_law_high_end"]
def m_law_is_int : M Fl :=
 (mRet (mX (mAndV (mU (mV 0) (isiD "int")) (mAndV (mNotV (mU (mV 0) (isiD "bool"))) (M.map PyData.bool (mChain gLe gLe (mV 1) (mV 0) (mV 2)))))))
abbrev F_law_is_int : FnD := fnD 3 m_law_is_int
def N_in_range : List Str := ["value", "low_end", "high_end"]
def m_in_range : M Fl :=
 (mRet (mX (mAndV (mFrz (mFn (mDs (mVD 0) (M.pure [])) F_is_int)) (M.map PyData.bool (mChain gLe gLe (mV 1) (mV 0) (mV 2))))))
abbrev F_in_range : FnD := fnD 3 m_in_range
def m_counts_l0 : M Fl :=
 (mSeq (mAug 1 (mIf (mB (mV 4) (mH (M.pure (PyData.int 1))) gEqA) (M.pure (PyData.int 1)) (mU (mH (M.pure (PyData.int 1))) gNeg)) gAddI)
 (mDrop (mMt 2 isL (mDs (mVD 1) (M.pure [])) gApp)))
def N_counts : List Str := ["table", "here", "found", "hour", "kind", "days_ago", "ship"]
def m_counts : M Fl :=
 (mSeq (mAsg 1 (mFn (mDs (mVD 0) (M.pure [])) F_count_at_midnight))
 (mSeq (mAsg 2 (mLst (M.pure [])))
 (mSeq (mFor (mIter (mFrz (mFn (mDs (mVD 0) (M.pure [])) F_day_events))) (Tgt.tp [(Tgt.nm 3), (Tgt.nm 4), (Tgt.nm 5), (Tgt.nm 6)])
 m_counts_l0)
 (mRet (mVX 2)))))
abbrev F_counts : FnD := fnD 7 m_counts
def m_law_table_l0 : M Fl :=
 (mDrop (mMt 4 isL (mDs (mTup (mDs (mFrz (mFnI 0 (mDs (mVD 1) (M.pure [])) F_law_pick)) (mDs (mB (mH (M.pure (PyData.int 1))) (mH (mFrz (mFnI 0 (mDs (mCall (mHs (mH (M.pure (PyData.int 10000))) (mHs (mH (mIf (mB (mV 2) (mH (M.pure (PyData.int 20))) gLt) (mVD 3) (mB (mH (M.pure (PyData.int 2))) (mV 1) gMul))) (M.pure []))) gMin2) (M.pure [])) F_law_pick))) gAdd) (M.pure [])))) (M.pure [])) gApp))
def N_law_table : List Str := ["_law_bag_here", "_law_hours", "_law_many", "_law_longest", "_law_ships", "_law_k"]
def m_law_table : M Fl :=
 (mSeq (mAsg 1 (mX (mB (mH (mFrz (mLst (mDs (M.pure (PyData.int 1)) (mDs (M.pure (PyData.int 2)) (mDs (M.pure (PyData.int 5)) (mDs (M.pure (PyData.int 12)) (mDs (M.pure (PyData.int 24)) (mDs (M.pure (PyData.int 1000)) (M.pure [])))))))))) (mH (mFrz (mFnI 0 (mDs (M.pure (PyData.int 6)) (M.pure [])) F_law_pick))) gIx)))
 (mSeq (mAsg 2 (mX (mB (mH (mFrz (mLst (mDs (mFrz (mFnI 0 (mDs (M.pure (PyData.int 5)) (M.pure [])) F_law_pick)) (mDs (mFrz (mFnI 0 (mDs (M.pure (PyData.int 8)) (M.pure [])) F_law_pick)) (mDs (mFrz (mFnI 0 (mDs (M.pure (PyData.int 25)) (M.pure [])) F_law_pick)) (M.pure []))))))) (mH (mFrz (mFnI 0 (mDs (M.pure (PyData.int 3)) (M.pure [])) F_law_pick))) gIx)))
 (mSeq (mAsg 3 (mX (mB (mH (mFrz (mLst (mDs (mVD 1) (mDs (mB (mH (M.pure (PyData.int 2))) (mV 1) gMul) (mDs (mB (mH (M.pure (PyData.int 3))) (mV 1) gMul) (M.pure []))))))) (mH (mFrz (mFnI 0 (mDs (M.pure (PyData.int 3)) (M.pure [])) F_law_pick))) gIx)))
 (mSeq (mAsg 4 (mLst (M.pure [])))
 (mSeq (mFor (mRng (mDs (mVD 2) (M.pure [])) gR1) (Tgt.nm 5)
 m_law_table_l0)
 (mRet (mX (mTup (mDs (mVD 1) (mDs (mCall (mHs (mV 4) (M.pure [])) gTuple) (M.pure [])))))))))))
abbrev F_law_table : FnI := fnI 6 m_law_table
def m_law_due_l0 : M PyData :=
 (mB (mV 1) (mH (M.pure (PyData.int 0))) gIx)
def m_law_due_l1 : M Fl :=
 (mSeq (mAsg 8 (mX (mB (mH (mB (mV 4) (mV 6) gSub)) (mV 2) gMod)))
 (mAsg 5 (mX (mIf (mB (mV 7) (mV 8) gGt) (mB (mV 5) (mH (mB (mH (mB (mH (mB (mH (mB (mV 7) (mV 8) gSub)) (mV 2) gAdd)) (mH (M.pure (PyData.int 1))) gSub)) (mV 2) gDiv)) gAdd) (mVD 5)))))
def m_law_due_l2 : M Fl :=
 (mSeq (mAsg 5 (mX (M.pure (PyData.int 0))))
 (mSeq (mFor (mIter (mB (mV 0) (mH (M.pure (PyData.int 1))) gIx)) (Tgt.tp [(Tgt.nm 6), (Tgt.nm 7)])
 m_law_due_l1)
 (mDrop (mMt 3 isL (mDs (mVD 5) (M.pure [])) gApp))))
def m_law_due_l3 : M Fl :=
 (mSeq (mIfS (mOr (mNot (mTru (mU (mV 1) (isiD "tuple")))) (mB (mH (mCall (mHs (mV 1) (M.pure [])) gLen)) (mH (M.pure (PyData.int 2))) gNeA))
 (mRet (mX (M.pure (PyData.bool false))))
 (M.pure .nx))
 (mIfS (mOr (mNot (mTru (mFrz (mFn (mDs (mB (mV 1) (mH (M.pure (PyData.int 0))) gIx) (mDs (M.pure (PyData.int 0)) (mDs (mB (mH (mB (mV 0) (mH (M.pure (PyData.int 0))) gIx)) (mH (M.pure (PyData.int 1))) gSub) (M.pure [])))) F_law_is_int)))) (mNot (mTru (mFrz (mFn (mDs (mB (mV 1) (mH (M.pure (PyData.int 1))) gIx) (mDs (M.pure (PyData.int 1)) (mDs (M.pure (PyData.int 10000)) (M.pure [])))) F_law_is_int)))))
 (mRet (mX (M.pure (PyData.bool false))))
 (M.pure .nx)))
def N_law_due : List Str := ["_law_value", "_law_ship", "_law_hours", "_law_totals", "_law_hour", "_law_total", "_law_arrival", "_law_stay", "_law_since"]
def m_law_due : M Fl :=
 (mSeq (mIfS (mOr (mNot (mTru (mU (mV 0) (isiD "tuple")))) (mOr (mB (mH (mCall (mHs (mV 0) (M.pure [])) gLen)) (mH (M.pure (PyData.int 2))) gNeA) (mNot (mTru (mFrz (mFn (mDs (mB (mV 0) (mH (M.pure (PyData.int 0))) gIx) (mDs (M.pure (PyData.int 1)) (mDs (M.pure (PyData.int 1000)) (M.pure [])))) F_law_is_int))))))
 (mRet (mX (M.pure (PyData.bool false))))
 (M.pure .nx))
 (mSeq (mIfS (mOr (mNot (mTru (mU (mH (mB (mV 0) (mH (M.pure (PyData.int 1))) gIx)) (isiD "tuple")))) (mB (mH (mCall (mHs (mH (mB (mV 0) (mH (M.pure (PyData.int 1))) gIx)) (M.pure [])) gLen)) (mH (M.pure (PyData.int 24))) gGt))
 (mRet (mX (M.pure (PyData.bool false))))
 (M.pure .nx))
 (mSeq (mFor (mIter (mB (mV 0) (mH (M.pure (PyData.int 1))) gIx)) (Tgt.nm 1)
 m_law_due_l3)
 (mSeq (mAsg 2 (mX (mB (mV 0) (mH (M.pure (PyData.int 0))) gIx)))
 (mSeq (mAsg 3 (mLst (M.pure [])))
 (mSeq (mFor (mIter (mFrz (mCall (mHs (mH (mFrz (mLc (mIter (mB (mV 0) (mH (M.pure (PyData.int 1))) gIx)) (Tgt.nm 1) (M.pure true) m_law_due_l0 [1]))) (M.pure [])) fun ds => nU (gSortSet ds)))) (Tgt.nm 4)
 m_law_due_l2)
 (mRet (mX (mB (mH (mCall (mHs (mH (mFrz (mOp gPlus (mV 3) (mH (mFrz (mLst (mDs (M.pure (PyData.int 0)) (M.pure [])))))))) (M.pure [])) gMax1)) (mH (M.pure (PyData.int 60))) fun d e => (gLe d e).map PyData.bool)))))))))
abbrev F_law_due : FnD := fnD 9 m_law_due
def N_law_odd : List Str := ["_law_bag_here", "_law_some"]
def m_law_odd : M Fl :=
 (mSeq (mAsg 1 (mLst (mDs (M.pure PyData.none) (mDs (M.pure (PyData.bool true)) (mDs (M.pure (PyData.bool false)) (mDs (M.pure (PyData.int 0)) (mDs (M.pure (PyData.int 1)) (mDs (mU (mH (M.pure (PyData.int 1))) gNeg) (mDs (M.pure (PyData.int 1000)) (mDs (M.pure (PyData.int 1001)) (mDs (M.pure (PyData.int 10000)) (mDs (M.pure (PyData.int 10001)) (mDs (M.pure (PyData.str "")) (mDs (M.pure (PyData.str "1")) (mDs (mFrz (mLst (M.pure []))) (mDs (mTup (M.pure [])) (mDs (mFrz (M.pure (Sl.dk []))) (mDs (mTup (mDs (M.pure (PyData.int 0)) (M.pure []))) (mDs (mTup (mDs (M.pure (PyData.int 0)) (mDs (M.pure (PyData.int 0)) (M.pure [])))) (mDs (mB (mH (M.pure (PyData.int 10))) (mH (M.pure (PyData.int 20))) gPow) (M.pure [])))))))))))))))))))))
 (mRet (mX (mB (mV 1) (mH (mFrz (mFnI 0 (mDs (M.pure (PyData.int 18)) (M.pure [])) F_law_pick))) gIx))))
abbrev F_law_odd : FnI := fnI 2 m_law_odd
def m_law_edges_l0 : M PyData :=
 (mTup (mDs (mVD 7) (mDs (M.pure (PyData.int 72)) (M.pure []))))
def m_law_edges_l1 : M Fl :=
 (mSeq (mDrop (mMt 1 isL (mDs (mTup (mDs (M.pure (PyData.int 2)) (mDs (mTup (mDs (mTup (mDs (M.pure (PyData.int 0)) (mDs (M.pure (PyData.int 60)) (M.pure [])))) (mDs (mTup (mDs (M.pure (PyData.int 1)) (mDs (mB (mH (M.pure (PyData.int 60))) (mH (mB (mH (M.pure (PyData.int 2))) (mV 5) gMul)) gAdd) (M.pure [])))) (M.pure [])))) (M.pure [])))) (M.pure [])) gApp))
 (mSeq (mDrop (mMt 1 isL (mDs (mTup (mDs (M.pure (PyData.int 10)) (mDs (mTup (mDs (mTup (mDs (M.pure (PyData.int 0)) (mDs (M.pure (PyData.int 300)) (M.pure [])))) (mDs (mTup (mDs (M.pure (PyData.int 5)) (mDs (mB (mH (M.pure (PyData.int 296))) (mH (mB (mH (M.pure (PyData.int 10))) (mV 5) gMul)) gAdd) (M.pure [])))) (M.pure [])))) (M.pure [])))) (M.pure [])) gApp))
 (mSeq (mAsg 6 (mLc (mRng (mDs (M.pure (PyData.int 20)) (M.pure [])) gR1) (Tgt.nm 7) (M.pure true) m_law_edges_l0 [7]))
 (mSeq (mSetI 6 (mTup (mDs (mFrz (mFnI 0 (mDs (M.pure (PyData.int 24)) (M.pure [])) F_law_pick)) (mDs (mB (mH (M.pure (PyData.int 72))) (mV 5) gAdd) (M.pure [])))) (mFrz (mFnI 0 (mDs (M.pure (PyData.int 20)) (M.pure [])) F_law_pick)))
 (mDrop (mMt 1 isL (mDs (mTup (mDs (M.pure (PyData.int 24)) (mDs (mCall (mHs (mV 6) (M.pure [])) gTuple) (M.pure [])))) (M.pure [])) gApp))))))
def m_law_edges_l2 : M Fl :=
 (mDrop (mMt 1 isL (mDs (mTup (mDs (mVD 4) (mDs (mTup (M.pure [])) (M.pure [])))) (M.pure [])) gApp))
def m_law_edges_l3 : M Fl :=
 (mDrop (mMt 1 isL (mDs (mTup (mDs (M.pure (PyData.int 1000)) (mDs (mTup (mDs (mTup (mDs (mFrz (mFnI 0 (mDs (M.pure (PyData.int 1000)) (M.pure [])) F_law_pick)) (mDs (mVD 3) (M.pure [])))) (M.pure []))) (M.pure [])))) (M.pure [])) gApp))
def m_law_edges_l4 : M Fl :=
 (mDrop (mMt 1 isL (mDs (mTup (mDs (M.pure (PyData.int 1)) (mDs (mTup (mDs (mTup (mDs (M.pure (PyData.int 0)) (mDs (mVD 3) (M.pure [])))) (M.pure []))) (M.pure [])))) (M.pure [])) gApp))
def m_law_edges_l5 : M Fl :=
 (mDrop (mMt 1 isL (mDs (mTup (mDs (M.pure (PyData.int 1000)) (mDs (mB (mH (mTup (mDs (mTup (mDs (M.pure (PyData.int 999)) (mDs (M.pure (PyData.int 1)) (M.pure [])))) (M.pure [])))) (mV 2) gMulA) (M.pure [])))) (M.pure [])) gApp))
def N_law_edges : List Str := ["_law_bag_here", "_law_found", "_law_many", "_law_stay", "_law_hours", "_law_more", "_law_twenty", "_law_k"]
def m_law_edges : M Fl :=
 (mSeq (mAsg 1 (mLst (M.pure [])))
 (mSeq (mFor (mIter (mTup (mDs (M.pure (PyData.int 24)) (mDs (M.pure (PyData.int 25)) (M.pure []))))) (Tgt.nm 2)
 m_law_edges_l5)
 (mSeq (mFor (mIter (mTup (mDs (M.pure (PyData.int 60)) (mDs (M.pure (PyData.int 61)) (mDs (M.pure (PyData.int 10000)) (mDs (M.pure (PyData.int 10001)) (M.pure []))))))) (Tgt.nm 3)
 m_law_edges_l4)
 (mSeq (mFor (mIter (mTup (mDs (M.pure (PyData.int 10000)) (mDs (M.pure (PyData.int 10001)) (M.pure []))))) (Tgt.nm 3)
 m_law_edges_l3)
 (mSeq (mFor (mIter (mTup (mDs (M.pure (PyData.int 0)) (mDs (M.pure (PyData.int 1000)) (mDs (M.pure (PyData.int 1001)) (M.pure [])))))) (Tgt.nm 4)
 m_law_edges_l2)
 (mSeq (mFor (mIter (mTup (mDs (M.pure (PyData.int 0)) (mDs (M.pure (PyData.int 1)) (M.pure []))))) (Tgt.nm 5)
 m_law_edges_l1)
 (mRet (mVX 1))))))))
abbrev F_law_edges : FnI := fnI 8 m_law_edges
def N_is_ship : List Str := ["hours", "value"]
def m_is_ship : M Fl :=
 (mSeq (mIfS (mOr (mNot (mTru (mU (mV 1) (isiD "tuple")))) (mB (mH (mCall (mHs (mV 1) (M.pure [])) gLen)) (mH (M.pure (PyData.int 2))) gNeA))
 (mRet (mX (M.pure (PyData.bool false))))
 (M.pure .nx))
 (mRet (mX (mAndV (mFrz (mFn (mDs (mB (mV 1) (mH (M.pure (PyData.int 0))) gIx) (mDs (M.pure (PyData.int 0)) (mDs (mB (mV 0) (mH (M.pure (PyData.int 1))) gSub) (M.pure [])))) F_in_range)) (mFrz (mFn (mDs (mB (mV 1) (mH (M.pure (PyData.int 1))) gIx) (mDs (M.pure (PyData.int 1)) (mDs (M.pure (PyData.int 10000)) (M.pure [])))) F_in_range))))))
abbrev F_is_ship : FnD := fnD 2 m_is_ship
def N_peak_of : List Str := ["table"]
def m_peak_of : M Fl :=
 (mRet (mX (mMxD maxI (mDs (mFrz (mFn (mDs (mVD 0) (M.pure [])) F_counts)) (M.pure [])) (M.pure (PyData.int 0)))))
abbrev F_peak_of : FnD := fnD 1 m_peak_of
def m_is_table_l0 : M PyData :=
 (mFrz (mFn (mDs (mVD 1) (mDs (mVD 3) (M.pure []))) F_is_ship))
def N_is_table : List Str := ["value", "hours", "ships", "ship"]
def m_is_table : M Fl :=
 (mSeq (mIfS (mOr (mNot (mTru (mU (mV 0) (isiD "tuple")))) (mOr (mB (mH (mCall (mHs (mV 0) (M.pure [])) gLen)) (mH (M.pure (PyData.int 2))) gNeA) (mNot (mTru (mFrz (mFn (mDs (mB (mV 0) (mH (M.pure (PyData.int 0))) gIx) (mDs (M.pure (PyData.int 1)) (mDs (M.pure (PyData.int 1000)) (M.pure [])))) F_in_range))))))
 (mRet (mX (M.pure (PyData.bool false))))
 (M.pure .nx))
 (mSeq (mAsgT (Tgt.tp [(Tgt.nm 1), (Tgt.nm 2)]) (mVD 0))
 (mSeq (mIfS (mOr (mNot (mTru (mU (mV 2) (isiD "tuple")))) (mOr (mB (mH (mCall (mHs (mV 2) (M.pure [])) gLen)) (mH (M.pure (PyData.int 24))) gGt) (mNot (mTru (mCall (mHs (mH (mFrz (mLc (mIter (mVD 2)) (Tgt.nm 3) (M.pure true) m_is_table_l0 [3]))) (M.pure [])) gAll)))))
 (mRet (mX (M.pure (PyData.bool false))))
 (M.pure .nx))
 (mRet (mX (mB (mH (mFrz (mFn (mDs (mVD 0) (M.pure [])) F_peak_of))) (mH (M.pure (PyData.int 60))) fun d e => (gLe d e).map PyData.bool))))))
abbrev F_is_table : FnD := fnD 4 m_is_table
def N_law_bent : List Str := ["_law_bag_here", "_law_value", "_law_deep", "_law_at", "_law_part", "_law_some"]
def m_law_bent_s (self : FnI) : M Fl :=
 (mSeq (mIfS (mOr (mNot (mTru (mU (mV 1) (isiD "tuple")))) (mOr (mB (mV 1) (mH (mTup (M.pure []))) gEqA) (mOr (mB (mV 2) (mH (M.pure (PyData.int 0))) gEqA) (mB (mH (mFrz (mFnI 0 (mDs (M.pure (PyData.int 4)) (M.pure [])) F_law_pick))) (mH (M.pure (PyData.int 0))) gEqA))))
 (mSeq (mIfS (mOr (mNot (mTru (mU (mV 1) (isiD "tuple")))) (mB (mH (mFrz (mFnI 0 (mDs (M.pure (PyData.int 2)) (M.pure [])) F_law_pick))) (mH (M.pure (PyData.int 0))) gEqA))
 (mRet (mFnI 0 (M.pure []) F_law_odd))
 (M.pure .nx))
 (mSeq (mAsg 3 (mFnI 0 (mDs (mB (mH (mCall (mHs (mV 1) (M.pure [])) gLen)) (mH (M.pure (PyData.int 1))) gAdd) (M.pure [])) F_law_pick))
 (mSeq (mAsg 5 (mLst (mDs (mB (mV 1) (mH (mTup (mDs (mFrz (mFnI 0 (M.pure []) F_law_odd)) (M.pure [])))) gAdd) (mDs (mB (mH (mFrz (mSl (mV 1) (M.pure none) (M.bind (mVD 3) fun d => M.of (gPart d))))) (mH (mFrz (mSl (mV 1) (M.bind (mB (mV 3) (mH (M.pure (PyData.int 1))) gAdd) fun d => M.of (gPart d)) (M.pure none)))) gAdd) (mDs (mFrz (mCall (mHs (mV 1) (M.pure [])) fun ds => nU (gList ds))) (mDs (mFrz (mRev (mV 1))) (mDs (mB (mV 1) (mH (mFrz (mSl (mV 1) (M.pure none) (M.bind (M.pure (PyData.int 1)) fun d => M.of (gPart d))))) gAdd) (M.pure []))))))))
 (mRet (mX (mB (mV 5) (mH (mFrz (mFnI 0 (mDs (M.pure (PyData.int 5)) (M.pure [])) F_law_pick))) gIx))))))
 (M.pure .nx))
 (mSeq (mAsg 3 (mFnI 0 (mDs (mCall (mHs (mV 1) (M.pure [])) gLen) (M.pure [])) F_law_pick))
 (mSeq (mAsg 4 (mFnI 0 (mDs (mB (mV 1) (mV 3) gIx) (mDs (mB (mV 2) (mH (M.pure (PyData.int 1))) gSub) (M.pure []))) self))
 (mRet (mX (mB (mH (mB (mH (mFrz (mSl (mV 1) (M.pure none) (M.bind (mVD 3) fun d => M.of (gPart d))))) (mH (mTup (mDs (mVD 4) (M.pure [])))) gAdd)) (mH (mFrz (mSl (mV 1) (M.bind (mB (mV 3) (mH (M.pure (PyData.int 1))) gAdd) fun d => M.of (gPart d)) (M.pure none)))) gAdd))))))
def m_law_bent : Nat → M Fl
  | 0 => M.fail
  | n + 1 => m_law_bent_s (fnI 6 (m_law_bent n))
abbrev F_law_bent : FnI := fnI 6 (m_law_bent 6)
def m_law_l0 : M PyData :=
 (mFrz (mFnI 2 (mDs (mVD 3) (mDs (M.pure (PyData.int 4)) (M.pure []))) F_law_bent))
def m_law_l1 : M Fl :=
 (mIfS (mOr (mB (mH (mCall (mHs (mH (mFrz (mFn (mDs (mVD 4) (M.pure [])) F_is_table))) (M.pure [])) gRepr)) (mH (mCall (mHs (mH (mFrz (mFn (mDs (mVD 4) (M.pure [])) F_law_due))) (M.pure [])) gRepr)) gNeA) (mB (mH (mCall (mHs (mV 4) (M.pure [])) gRepr)) (mV 5) gNeA))
 (mRet (mX (M.pure (PyData.bool false))))
 (M.pure .nx))
def m_law_l2 : M Fl :=
 (mSeq (mAsg 5 (mX (mCall (mHs (mV 4) (M.pure [])) gRepr)))
 (mFor (mRng (mDs (M.pure (PyData.int 2)) (M.pure [])) gR1) (Tgt.nm 6)
 m_law_l1))
def m_law_l3 : M Fl :=
 (mSeq (mAsg 2 (mFn (mDs (mVD 1) (M.pure [])) F_law_bag))
 (mSeq (mAsg 3 (mFnI 2 (M.pure []) F_law_table))
 (mFor (mIter (mFrz (mOp gPlus (mH (mFrz (mOp gPlus (mH (mFrz (mLst (mDs (mVD 3) (mDs (mFrz (mFnI 2 (M.pure []) F_law_odd)) (M.pure [])))))) (mH (mFrz (mFnI 2 (M.pure []) F_law_edges)))))) (mH (mFrz (mLc (mRng (mDs (M.pure (PyData.int 9)) (M.pure [])) gR1) (Tgt.nm 7) (M.pure true) m_law_l0 [7])))))) (Tgt.nm 4)
 m_law_l2)))
def N_law : List Str := ["_law_script", "_law_cell", "_law_bag_here", "_law_table_here", "_law_value", "_law_kept", "_law_again", "_law_k"]
def m_law : M Fl :=
 (mSeq (mFor (mIter (mFrz (mOp gPlus (mH (mFrz (mSl (mV 0) (M.pure none) (M.bind (M.pure (PyData.int 20)) fun d => M.of (gPart d))))) (mH (mFrz (mLst (mDs (M.pure (PyData.int 0)) (M.pure [])))))))) (Tgt.nm 1)
 m_law_l3)
 (mRet (mX (M.pure (PyData.bool true)))))
abbrev F_law : FnD := fnD 8 m_law
structure Txt (K : PySem.W.Frag) (mg : Str → Option Value) : Type where
  a_is_int : Addr
  d_is_int : FuncData
  F_is_int : Fun K "is_int" "is_int" s_is_int a_is_int d_is_int
  m_is_int : mg "is_int" = some (.ref a_is_int)
  a_day_events : Addr
  d_day_events : FuncData
  F_day_events : Fun K "day_events" "day_events" s_day_events a_day_events d_day_events
  m_day_events : mg "day_events" = some (.ref a_day_events)
  a_count_at_midnight : Addr
  d_count_at_midnight : FuncData
  F_count_at_midnight : Fun K "count_at_midnight" "count_at_midnight" s_count_at_midnight a_count_at_midnight d_count_at_midnight
  m_count_at_midnight : mg "count_at_midnight" = some (.ref a_count_at_midnight)
  a_law_bag : Addr
  d_law_bag : FuncData
  F_law_bag : Fun K "_law_bag" "_law_bag" s_law_bag a_law_bag d_law_bag
  m_law_bag : mg "_law_bag" = some (.ref a_law_bag)
  a_law_pick : Addr
  d_law_pick : FuncData
  F_law_pick : Fun K "_law_pick" "_law_pick" s_law_pick a_law_pick d_law_pick
  m_law_pick : mg "_law_pick" = some (.ref a_law_pick)
  a_law_is_int : Addr
  d_law_is_int : FuncData
  F_law_is_int : Fun K "_law_is_int" "_law_is_int" s_law_is_int a_law_is_int d_law_is_int
  m_law_is_int : mg "_law_is_int" = some (.ref a_law_is_int)
  a_in_range : Addr
  d_in_range : FuncData
  F_in_range : Fun K "in_range" "in_range" s_in_range a_in_range d_in_range
  m_in_range : mg "in_range" = some (.ref a_in_range)
  a_counts : Addr
  d_counts : FuncData
  F_counts : Fun K "counts" "counts" s_counts a_counts d_counts
  m_counts : mg "counts" = some (.ref a_counts)
  a_law_table : Addr
  d_law_table : FuncData
  F_law_table : Fun K "_law_table" "_law_table" s_law_table a_law_table d_law_table
  m_law_table : mg "_law_table" = some (.ref a_law_table)
  a_law_due : Addr
  d_law_due : FuncData
  F_law_due : Fun K "_law_due" "_law_due" s_law_due a_law_due d_law_due
  m_law_due : mg "_law_due" = some (.ref a_law_due)
  a_law_odd : Addr
  d_law_odd : FuncData
  F_law_odd : Fun K "_law_odd" "_law_odd" s_law_odd a_law_odd d_law_odd
  m_law_odd : mg "_law_odd" = some (.ref a_law_odd)
  a_law_edges : Addr
  d_law_edges : FuncData
  F_law_edges : Fun K "_law_edges" "_law_edges" s_law_edges a_law_edges d_law_edges
  m_law_edges : mg "_law_edges" = some (.ref a_law_edges)
  a_is_ship : Addr
  d_is_ship : FuncData
  F_is_ship : Fun K "is_ship" "is_ship" s_is_ship a_is_ship d_is_ship
  m_is_ship : mg "is_ship" = some (.ref a_is_ship)
  a_peak_of : Addr
  d_peak_of : FuncData
  F_peak_of : Fun K "peak_of" "peak_of" s_peak_of a_peak_of d_peak_of
  m_peak_of : mg "peak_of" = some (.ref a_peak_of)
  a_is_table : Addr
  d_is_table : FuncData
  F_is_table : Fun K "is_table" "is_table" s_is_table a_is_table d_is_table
  m_is_table : mg "is_table" = some (.ref a_is_table)
  a_law_bent : Addr
  d_law_bent : FuncData
  F_law_bent : Fun K "_law_bent" "_law_bent" s_law_bent a_law_bent d_law_bent
  m_law_bent : mg "_law_bent" = some (.ref a_law_bent)
  a_law : Addr
  d_law : FuncData
  F_law : Fun K "law" "law" s_law a_law d_law
  m_law : mg "law" = some (.ref a_law)
  z_all : mg "all" = none
  z_bool : mg "bool" = none
  z_divmod : mg "divmod" = none
  z_enumerate : mg "enumerate" = none
  z_int : mg "int" = none
  z_isinstance : mg "isinstance" = none
  z_len : mg "len" = none
  z_list : mg "list" = none
  z_max : mg "max" = none
  z_min : mg "min" = none
  z_range : mg "range" = none
  z_repr : mg "repr" = none
  z_set : mg "set" = none
  z_sorted : mg "sorted" = none
  z_tuple : mg "tuple" = none
  c_ARRIVAL : ∃ t, mg "ARRIVAL" = some (.int 1 t)
  c_DEPARTURE : ∃ t, mg "DEPARTURE" = some (.int 0 t)
  c_MOST_HOURS : ∃ t, mg "MOST_HOURS" = some (.int 1000 t)
  c_MOST_PEAK : ∃ t, mg "MOST_PEAK" = some (.int 60 t)
  c_MOST_SHIPS : ∃ t, mg "MOST_SHIPS" = some (.int 24 t)
  c_MOST_STAY : ∃ t, mg "MOST_STAY" = some (.int 10000 t)
section
variable {P : Program} {w : World} {K : PySem.W.Frag} {mg : Str → Option Value} {base : Heap}
theorem sc_is_int : FnScope N_is_int ["value"] (defScope s_is_int) := ⟨rfl, rfl, rfl, by decide +kernel, rfl, by decide +kernel, by decide +kernel⟩
theorem b_is_int (T : Txt K mg) : Binds K T.d_is_int ["value"] [] := T.F_is_int.binds (ps := ["value"]) fun _ _ _ _ _ _ us hl => match us, hl with | [_], _ => rfl
set_option maxHeartbeats 8000000 in
theorem ok_is_int (T : Txt K mg) : FnG P w K mg base CX0 1 T.a_is_int T.d_is_int ["value"] (spD ⟨K, w, []⟩ F_is_int 1) :=
  have S := sc_is_int
  okD0 T.F_is_int S (by decide) fun cdv A fr s H E hr gd =>
 (mss_one (ms_ret (px_d (pd_and (pd_isi rfl T.z_isinstance rfl T.z_int PySem.Pv.boot_int (ph_v 0)) (pd_one (pd_not (pd_isi rfl T.z_isinstance rfl T.z_bool PySem.Pv.boot_bool (ph_v 0))))))))
theorem sc_day_events : FnScope N_day_events ["table"] (defScope s_day_events) := ⟨rfl, rfl, rfl, by decide +kernel, rfl, by decide +kernel, by decide +kernel⟩
theorem b_day_events (T : Txt K mg) : Binds K T.d_day_events ["table"] [] := T.F_day_events.binds (ps := ["table"]) fun _ _ _ _ _ _ us hl => match us, hl with | [_], _ => rfl
set_option maxHeartbeats 8000000 in
theorem ok_day_events (T : Txt K mg) : FnG P w K mg base CX0 1 T.a_day_events T.d_day_events ["table"] (spD ⟨K, w, []⟩ F_day_events 1) :=
  have S := sc_day_events
  okD0 T.F_day_events S (by decide) fun cdv A fr s H E hr gd =>
 (mss_cons (ms_asg (pgt_tp rfl (pgts_cons (pgt_nm 1 S.nd rfl (by first | exact Or.inl rfl | exact Or.inr rfl)) (pgts_cons (pgt_nm 2 S.nd rfl (by first | exact Or.inl rfl | exact Or.inr rfl)) pgts_nil))) (pd_v 0))
 (mss_cons (ms_par (i := 3) (j := 4) rfl S.nd rfl rfl (by decide) rfl rfl (pxs_cons (px_lst pds_nil) (pxs_cons (px_lst pds_nil) pxs_nil)) rfl)
 (mss_cons (ms_for PassesOwn.never rfl (pim_enum rfl T.z_enumerate (pd_v 2)) (pgt_tp rfl (pgts_cons (pgt_nm 5 S.nd rfl (by first | exact Or.inl rfl | exact Or.inr rfl)) (pgts_cons (pgt_tp rfl (pgts_cons (pgt_nm 6 S.nd rfl (by first | exact Or.inl rfl | exact Or.inr rfl)) (pgts_cons (pgt_nm 7 S.nd rfl (by first | exact Or.inl rfl | exact Or.inr rfl)) pgts_nil))) pgts_nil)))
 (mss_cons (ms_asg (pgt_tp rfl (pgts_cons (pgt_nm 8 S.nd rfl (by first | exact Or.inl rfl | exact Or.inr rfl)) (pgts_cons (pgt_nm 9 S.nd rfl (by first | exact Or.inl rfl | exact Or.inr rfl)) pgts_nil))) (pd_callB call_divmodW gDivmod_ok rfl T.z_divmod PyProof.Rows.boot_divmod (phs_cons (ph_d (pd_op op_addA gAdd_ok (ph_v 6) (ph_v 7))) (phs_cons (ph_v 1) phs_nil))))
 (mss_cons (ms_expr (pd_mt 3 PySem.F.plainAttrs_list PySem.F.slot_list_append PySem.F.type_list_append mt_append isL_ok gApp_ok (pds_cons (pd_tup (pds_cons (pd_v 9) (pds_cons (pd_gint rfl T.c_DEPARTURE) (pds_cons (pd_neg (ph_v 8)) (pds_cons (pd_v 6) (pds_cons (pd_v 5) pds_nil)))))) pds_nil)))
 (mss_one (ms_expr (pd_mt 4 PySem.F.plainAttrs_list PySem.F.slot_list_append PySem.F.type_list_append mt_append isL_ok gApp_ok (pds_cons (pd_tup (pds_cons (pd_v 6) (pds_cons (pd_gint rfl T.c_ARRIVAL) (pds_cons pd_int (pds_cons (pd_v 6) (pds_cons (pd_v 5) pds_nil)))))) pds_nil)))))))
 (mss_one (ms_ret (px_lc rfl S.nd (own := [("hour", 6), ("kind", 10), ("negative", 11), ("when", 12), ("ship", 5)]) (pim_seq (pd_x (px_callB cr_sortedA gSorted_ok rfl T.z_sorted PyProof.Rows.boot_sorted (phs_cons (ph_x (px_op op_plus gPlus_ok (ph_v 3) (ph_v 4))) phs_nil)))) (blkOk_by (N := N_day_events) (sc := defScope s_day_events) (by decide +kernel)) (by decide) (fun s H C cl fp => (pgt_tp rfl (pgts_cons (pgt_nm 6 S.nd rfl (by first | exact Or.inl rfl | exact Or.inr rfl)) (pgts_cons (pgt_nm 10 S.nd rfl (by first | exact Or.inl rfl | exact Or.inr rfl)) (pgts_cons (pgt_nm 11 S.nd rfl (by first | exact Or.inl rfl | exact Or.inr rfl)) (pgts_cons (pgt_nm 12 S.nd rfl (by first | exact Or.inl rfl | exact Or.inr rfl)) (pgts_cons (pgt_nm 5 S.nd rfl (by first | exact Or.inl rfl | exact Or.inr rfl)) pgts_nil))))))) (fun s H C cl fp => pbs_nil) (fun s H C cl fp => (pd_tup (pds_cons (pd_v 6) (pds_cons (pd_v 10) (pds_cons (pd_neg (ph_v 11)) (pds_cons (pd_v 5) pds_nil))))))))))))
theorem sc_count_at_midnight : FnScope N_count_at_midnight ["table"] (defScope s_count_at_midnight) := ⟨rfl, rfl, rfl, by decide +kernel, rfl, by decide +kernel, by decide +kernel⟩
theorem b_count_at_midnight (T : Txt K mg) : Binds K T.d_count_at_midnight ["table"] [] := T.F_count_at_midnight.binds (ps := ["table"]) fun _ _ _ _ _ _ us hl => match us, hl with | [_], _ => rfl
set_option maxHeartbeats 8000000 in
theorem ok_count_at_midnight (T : Txt K mg) : FnG P w K mg base CX0 1 T.a_count_at_midnight T.d_count_at_midnight ["table"] (spD ⟨K, w, []⟩ F_count_at_midnight 1) :=
  have S := sc_count_at_midnight
  okD0 T.F_count_at_midnight S (by decide) fun cdv A fr s H E hr gd =>
 (mss_cons (ms_asg (pgt_tp rfl (pgts_cons (pgt_nm 2 S.nd rfl (by first | exact Or.inl rfl | exact Or.inr rfl)) (pgts_cons (pgt_nm 3 S.nd rfl (by first | exact Or.inl rfl | exact Or.inr rfl)) pgts_nil))) (pd_v 0))
 (mss_cons (ms_set S.nd (i := 1) rfl (by first | exact Or.inl rfl | exact Or.inr rfl) (px_d pd_int))
 (mss_cons (ms_for PassesOwn.never rfl (pim_seq (pd_v 3)) (pgt_tp rfl (pgts_cons (pgt_nm 4 S.nd rfl (by first | exact Or.inl rfl | exact Or.inr rfl)) (pgts_cons (pgt_nm 5 S.nd rfl (by first | exact Or.inl rfl | exact Or.inr rfl)) pgts_nil)))
 (mss_cons (ms_set S.nd (i := 6) rfl (by first | exact Or.inl rfl | exact Or.inr rfl) (px_d (pd_op op_fdivW gDiv_ok (ph_d (pd_op op_addA gAdd_ok (ph_v 4) (ph_v 5))) (ph_v 2))))
 (mss_one (ms_aug (i := 1) ip_add gIn_addI S.nd rfl (by first | exact Or.inl rfl | exact Or.inr rfl) (pd_v 6)))))
 (mss_one (ms_ret (px_v 1))))))
theorem sc_law_bag : FnScope N_law_bag ["_law_cell"] (defScope s_law_bag) := ⟨rfl, rfl, rfl, by decide +kernel, rfl, by decide +kernel, by decide +kernel⟩
theorem b_law_bag (T : Txt K mg) : Binds K T.d_law_bag ["_law_cell"] [] := T.F_law_bag.binds (ps := ["_law_cell"]) fun _ _ _ _ _ _ us hl => match us, hl with | [_], _ => rfl
set_option maxHeartbeats 8000000 in
theorem ok_law_bag (T : Txt K mg) : FnG P w K mg base CX0 1 T.a_law_bag T.d_law_bag ["_law_cell"] (spD ⟨K, w, []⟩ F_law_bag 1) :=
  have S := sc_law_bag
  okD0 T.F_law_bag S (by decide) fun cdv A fr s H E hr gd =>
 (mss_one (ms_ret (px_lst (pds_cons (pd_callB (call_max2 rfl) gMax2_ok rfl T.z_max PyProof.Rows.boot_max (phs_cons (ph_d pd_int) (phs_cons (ph_d (pd_op op_sub gI0_ok (ph_v 0) (ph_d (pd_op op_powA gPow_ok (ph_d pd_int) (ph_d pd_int))))) phs_nil))) (pds_cons (pd_v 0) (pds_cons pd_int pds_nil))))))
theorem sc_law_pick : FnScope N_law_pick ["_law_bag_here", "_law_many"] (defScope s_law_pick) := ⟨rfl, rfl, rfl, by decide +kernel, rfl, by decide +kernel, by decide +kernel⟩
theorem b_law_pick (T : Txt K mg) : Binds K T.d_law_pick ["_law_bag_here", "_law_many"] [] := T.F_law_pick.binds (ps := ["_law_bag_here", "_law_many"]) fun _ _ _ _ _ _ us hl => match us, hl with | [_, _], _ => rfl
set_option maxHeartbeats 8000000 in
theorem ok_law_pick (T : Txt K mg) : FnG P w K mg base CX0 1 T.a_law_pick T.d_law_pick ["_law_bag_here", "_law_many"] (spI ⟨K, w, []⟩ F_law_pick 2) :=
  have S := sc_law_pick
  okI0 T.F_law_pick S (by decide) fun cdv A fr s H E hr gd =>
 (mss_cons (ms_seti 0 (pd_op op_addA gAdd_ok (ph_d (pd_ix (ph_v 0) (ph_d pd_int))) (ph_d pd_int)) pd_int)
 (mss_cons (ms_if (pb_cmp op_gt gCmp_ok (ph_d (pd_ix (ph_v 0) (ph_d pd_int))) (ph_d pd_int))
 (mss_cons (ms_set S.nd (i := 4) rfl (by first | exact Or.inl rfl | exact Or.inr rfl) (px_d (pd_op op_mod gMod_ok (ph_d (pd_ix (ph_v 0) (ph_d pd_int))) (ph_v 1))))
 (mss_cons (ms_seti 0 (pd_op op_fdivW gDiv_ok (ph_d (pd_ix (ph_v 0) (ph_d pd_int))) (ph_v 1)) pd_int)
 (mss_one (ms_ret (px_v 4)))))
 mss_nil)
 (mss_cons (ms_set S.nd (i := 2) rfl (by first | exact Or.inl rfl | exact Or.inr rfl) (px_d (pd_op op_mod gMod_ok (ph_d (pd_op op_addA gAdd_ok (ph_d (pd_op op_addA gAdd_ok (ph_d (pd_op op_mulW gMul_ok (ph_d (pd_op op_mod gMod_ok (ph_d (pd_ix (ph_v 0) (ph_d pd_int))) (ph_d pd_int))) (ph_d pd_int))) (ph_d (pd_op op_mulW gMul_ok (ph_d (pd_ix (ph_v 0) (ph_d pd_int))) (ph_d pd_int))))) (ph_d pd_int))) (ph_d pd_int))))
 (mss_cons (ms_set S.nd (i := 3) rfl (by first | exact Or.inl rfl | exact Or.inr rfl) (px_d (pd_op op_mod gMod_ok (ph_d (pd_op op_addA gAdd_ok (ph_d (pd_op op_mulW gMul_ok (ph_v 2) (ph_v 2))) (ph_d (pd_op op_mulW gMul_ok (ph_d (pd_ix (ph_v 0) (ph_d pd_int))) (ph_d pd_int))))) (ph_d pd_int))))
 (mss_one (ms_ret (px_d (pd_op op_mod gMod_ok (ph_d (pd_op op_fdivW gDiv_ok (ph_d (pd_op op_addA gAdd_ok (ph_d (pd_op op_mulW gMul_ok (ph_v 2) (ph_d pd_int))) (ph_v 3))) (ph_d pd_int))) (ph_v 1)))))))))
theorem sc_law_is_int : FnScope N_law_is_int ["_law_value", "_law_low_end", "_law_high_end"] (defScope s_law_is_int) := ⟨rfl, rfl, rfl, by decide +kernel, rfl, by decide +kernel, by decide +kernel⟩
theorem b_law_is_int (T : Txt K mg) : Binds K T.d_law_is_int ["_law_value", "_law_low_end", "_law_high_end"] [] := T.F_law_is_int.binds (ps := ["_law_value", "_law_low_end", "_law_high_end"]) fun _ _ _ _ _ _ us hl => match us, hl with | [_, _, _], _ => rfl
set_option maxHeartbeats 8000000 in
theorem ok_law_is_int (T : Txt K mg) : FnG P w K mg base CX0 1 T.a_law_is_int T.d_law_is_int ["_law_value", "_law_low_end", "_law_high_end"] (spD ⟨K, w, []⟩ F_law_is_int 3) :=
  have S := sc_law_is_int
  okD0 T.F_law_is_int S (by decide) fun cdv A fr s H E hr gd =>
 (mss_one (ms_ret (px_d (pd_and (pd_isi rfl T.z_isinstance rfl T.z_int PySem.Pv.boot_int (ph_v 0)) (pd_and (pd_not (pd_isi rfl T.z_isinstance rfl T.z_bool PySem.Pv.boot_bool (ph_v 0))) (pd_one (pd_chain op_le op_le gCmp_ok gCmp_ok (ph_v 1) (ph_v 0) (ph_v 2))))))))
theorem sc_in_range : FnScope N_in_range ["value", "low_end", "high_end"] (defScope s_in_range) := ⟨rfl, rfl, rfl, by decide +kernel, rfl, by decide +kernel, by decide +kernel⟩
theorem b_in_range (T : Txt K mg) : Binds K T.d_in_range ["value", "low_end", "high_end"] [] := T.F_in_range.binds (ps := ["value", "low_end", "high_end"]) fun _ _ _ _ _ _ us hl => match us, hl with | [_, _, _], _ => rfl
set_option maxHeartbeats 8000000 in
theorem ok_in_range (T : Txt K mg) : FnG P w K mg base CX0 2 T.a_in_range T.d_in_range ["value", "low_end", "high_end"] (spD ⟨K, w, []⟩ F_in_range 3) :=
  have S := sc_in_range
  okD0 T.F_in_range S (by decide) fun cdv A fr s H E hr gd =>
 (mss_one (ms_ret (px_d (pd_and (pd_x (px_fn (ok_is_int T) (hr.mono (by decide)) gd rfl T.m_is_int T.F_is_int.kp (b_is_int T) rfl pv0 (ln_cons ln_nil) (pds_cons (pd_v 0) pds_nil))) (pd_one (pd_chain op_le op_le gCmp_ok gCmp_ok (ph_v 1) (ph_v 0) (ph_v 2)))))))
theorem sc_counts : FnScope N_counts ["table"] (defScope s_counts) := ⟨rfl, rfl, rfl, by decide +kernel, rfl, by decide +kernel, by decide +kernel⟩
theorem b_counts (T : Txt K mg) : Binds K T.d_counts ["table"] [] := T.F_counts.binds (ps := ["table"]) fun _ _ _ _ _ _ us hl => match us, hl with | [_], _ => rfl
set_option maxHeartbeats 8000000 in
theorem ok_counts (T : Txt K mg) : FnG P w K mg base CX0 2 T.a_counts T.d_counts ["table"] (spD ⟨K, w, []⟩ F_counts 1) :=
  have S := sc_counts
  okD0 T.F_counts S (by decide) fun cdv A fr s H E hr gd =>
 (mss_cons (ms_set S.nd (i := 1) rfl (by first | exact Or.inl rfl | exact Or.inr rfl) (px_fn (ok_count_at_midnight T) (hr.mono (by decide)) gd rfl T.m_count_at_midnight T.F_count_at_midnight.kp (b_count_at_midnight T) rfl pv0 (ln_cons ln_nil) (pds_cons (pd_v 0) pds_nil)))
 (mss_cons (ms_set S.nd (i := 2) rfl (by first | exact Or.inl rfl | exact Or.inr rfl) (px_lst pds_nil))
 (mss_cons (ms_for PassesOwn.never rfl (pim_seq (pd_x (px_fn (ok_day_events T) (hr.mono (by decide)) gd rfl T.m_day_events T.F_day_events.kp (b_day_events T) rfl pv0 (ln_cons ln_nil) (pds_cons (pd_v 0) pds_nil)))) (pgt_tp rfl (pgts_cons (pgt_nm 3 S.nd rfl (by first | exact Or.inl rfl | exact Or.inr rfl)) (pgts_cons (pgt_nm 4 S.nd rfl (by first | exact Or.inl rfl | exact Or.inr rfl)) (pgts_cons (pgt_nm 5 S.nd rfl (by first | exact Or.inl rfl | exact Or.inr rfl)) (pgts_cons (pgt_nm 6 S.nd rfl (by first | exact Or.inl rfl | exact Or.inr rfl)) pgts_nil)))))
 (mss_cons (ms_aug (i := 1) ip_add gIn_addI S.nd rfl (by first | exact Or.inl rfl | exact Or.inr rfl) (pe_if (pb_cmp (op_eqA hr.units) gEqA_ok (ph_v 4) (ph_d (pd_gint rfl T.c_ARRIVAL))) pd_int (pd_neg (ph_d pd_int))))
 (mss_one (ms_expr (pd_mt 2 PySem.F.plainAttrs_list PySem.F.slot_list_append PySem.F.type_list_append mt_append isL_ok gApp_ok (pds_cons (pd_v 1) pds_nil))))))
 (mss_one (ms_ret (px_v 2))))))
theorem sc_law_table : FnScope N_law_table ["_law_bag_here"] (defScope s_law_table) := ⟨rfl, rfl, rfl, by decide +kernel, rfl, by decide +kernel, by decide +kernel⟩
theorem b_law_table (T : Txt K mg) : Binds K T.d_law_table ["_law_bag_here"] [] := T.F_law_table.binds (ps := ["_law_bag_here"]) fun _ _ _ _ _ _ us hl => match us, hl with | [_], _ => rfl
set_option maxHeartbeats 8000000 in
theorem ok_law_table (T : Txt K mg) : FnG P w K mg base CX0 2 T.a_law_table T.d_law_table ["_law_bag_here"] (spI ⟨K, w, []⟩ F_law_table 1) :=
  have S := sc_law_table
  okI0 T.F_law_table S (by decide) fun cdv A fr s H E hr gd =>
 (mss_cons (ms_set S.nd (i := 1) rfl (by first | exact Or.inl rfl | exact Or.inr rfl) (px_d (pd_ix (ph_x (px_lst (pds_cons pd_int (pds_cons pd_int (pds_cons pd_int (pds_cons pd_int (pds_cons pd_int (pds_cons pd_int pds_nil)))))))) (ph_x (px_fnI 0 (ok_law_pick T) (hr.mono (by decide)) gd rfl T.m_law_pick T.F_law_pick.kp (b_law_pick T) pv0 (ln_io (ln_cons ln_nil)) (pds_cons pd_int pds_nil))))))
 (mss_cons (ms_set S.nd (i := 2) rfl (by first | exact Or.inl rfl | exact Or.inr rfl) (px_d (pd_ix (ph_x (px_lst (pds_cons (pd_x (px_fnI 0 (ok_law_pick T) (hr.mono (by decide)) gd rfl T.m_law_pick T.F_law_pick.kp (b_law_pick T) pv0 (ln_io (ln_cons ln_nil)) (pds_cons pd_int pds_nil))) (pds_cons (pd_x (px_fnI 0 (ok_law_pick T) (hr.mono (by decide)) gd rfl T.m_law_pick T.F_law_pick.kp (b_law_pick T) pv0 (ln_io (ln_cons ln_nil)) (pds_cons pd_int pds_nil))) (pds_cons (pd_x (px_fnI 0 (ok_law_pick T) (hr.mono (by decide)) gd rfl T.m_law_pick T.F_law_pick.kp (b_law_pick T) pv0 (ln_io (ln_cons ln_nil)) (pds_cons pd_int pds_nil))) pds_nil))))) (ph_x (px_fnI 0 (ok_law_pick T) (hr.mono (by decide)) gd rfl T.m_law_pick T.F_law_pick.kp (b_law_pick T) pv0 (ln_io (ln_cons ln_nil)) (pds_cons pd_int pds_nil))))))
 (mss_cons (ms_set S.nd (i := 3) rfl (by first | exact Or.inl rfl | exact Or.inr rfl) (px_d (pd_ix (ph_x (px_lst (pds_cons (pd_v 1) (pds_cons (pd_op op_mulW gMul_ok (ph_d pd_int) (ph_v 1)) (pds_cons (pd_op op_mulW gMul_ok (ph_d pd_int) (ph_v 1)) pds_nil))))) (ph_x (px_fnI 0 (ok_law_pick T) (hr.mono (by decide)) gd rfl T.m_law_pick T.F_law_pick.kp (b_law_pick T) pv0 (ln_io (ln_cons ln_nil)) (pds_cons pd_int pds_nil))))))
 (mss_cons (ms_set S.nd (i := 4) rfl (by first | exact Or.inl rfl | exact Or.inr rfl) (px_lst pds_nil))
 (mss_cons (ms_for PassesOwn.never rfl (pim_range1 rfl T.z_range (pds_cons (pd_v 2) pds_nil)) (pgt_nm 5 S.nd rfl (by first | exact Or.inl rfl | exact Or.inr rfl))
 (mss_one (ms_expr (pd_mt 4 PySem.F.plainAttrs_list PySem.F.slot_list_append PySem.F.type_list_append mt_append isL_ok gApp_ok (pds_cons (pd_tup (pds_cons (pd_x (px_fnI 0 (ok_law_pick T) (hr.mono (by decide)) gd rfl T.m_law_pick T.F_law_pick.kp (b_law_pick T) pv0 (ln_io (ln_cons ln_nil)) (pds_cons (pd_v 1) pds_nil))) (pds_cons (pd_op op_addA gAdd_ok (ph_d pd_int) (ph_x (px_fnI 0 (ok_law_pick T) (hr.mono (by decide)) gd rfl T.m_law_pick T.F_law_pick.kp (b_law_pick T) pv0 (ln_io (ln_cons ln_nil)) (pds_cons (pd_callB (call_min2 rfl) gMin2_ok rfl T.z_min PyProof.Rows.boot_min (phs_cons (ph_d pd_int) (phs_cons (ph_d (pe_if (pb_cmp op_lt gCmp_ok (ph_v 2) (ph_d pd_int)) (pd_v 3) (pd_op op_mulW gMul_ok (ph_d pd_int) (ph_v 1)))) phs_nil))) pds_nil)))) pds_nil))) pds_nil)))))
 (mss_one (ms_ret (px_d (pd_tup (pds_cons (pd_v 1) (pds_cons (pd_callT call_tuple_of gTuple_ok rfl T.z_tuple PySem.Pv.boot_tuple (phs_cons (ph_v 4) phs_nil)) pds_nil)))))))))))
theorem sc_law_due : FnScope N_law_due ["_law_value"] (defScope s_law_due) := ⟨rfl, rfl, rfl, by decide +kernel, rfl, by decide +kernel, by decide +kernel⟩
theorem b_law_due (T : Txt K mg) : Binds K T.d_law_due ["_law_value"] [] := T.F_law_due.binds (ps := ["_law_value"]) fun _ _ _ _ _ _ us hl => match us, hl with | [_], _ => rfl
set_option maxHeartbeats 8000000 in
theorem ok_law_due (T : Txt K mg) : FnG P w K mg base CX0 2 T.a_law_due T.d_law_due ["_law_value"] (spD ⟨K, w, []⟩ F_law_due 1) :=
  have S := sc_law_due
  okD0 T.F_law_due S (by decide) fun cdv A fr s H E hr gd =>
 (mss_cons (ms_if (pb_w (pbw_or (pb_not (pb_d (pd_isi rfl T.z_isinstance rfl T.z_tuple PySem.Pv.boot_tuple (ph_v 0)))) (pbw_or (pb_cmp (op_neA hr.units) gNeA_ok (ph_d (pd_callB call_lenA gLen_ok rfl T.z_len PySem.boot_len (phs_cons (ph_v 0) phs_nil))) (ph_d pd_int)) (pbw_or1 (pb_not (pb_d (pd_x (px_fn (ok_law_is_int T) (hr.mono (by decide)) gd rfl T.m_law_is_int T.F_law_is_int.kp (b_law_is_int T) rfl pv0 (ln_cons (ln_cons (ln_cons ln_nil))) (pds_cons (pd_ix (ph_v 0) (ph_d pd_int)) (pds_cons pd_int (pds_cons pd_int pds_nil)))))))))))
 (mss_one (ms_ret (px_d pd_bl)))
 mss_nil)
 (mss_cons (ms_if (pb_w (pbw_or (pb_not (pb_d (pd_isi rfl T.z_isinstance rfl T.z_tuple PySem.Pv.boot_tuple (ph_d (pd_ix (ph_v 0) (ph_d pd_int)))))) (pbw_or1 (pb_cmp op_gt gCmp_ok (ph_d (pd_callB call_lenA gLen_ok rfl T.z_len PySem.boot_len (phs_cons (ph_d (pd_ix (ph_v 0) (ph_d pd_int))) phs_nil))) (ph_d pd_int)))))
 (mss_one (ms_ret (px_d pd_bl)))
 mss_nil)
 (mss_cons (ms_for PassesOwn.never rfl (pim_seq (pd_ix (ph_v 0) (ph_d pd_int))) (pgt_nm 1 S.nd rfl (by first | exact Or.inl rfl | exact Or.inr rfl))
 (mss_cons (ms_if (pb_w (pbw_or (pb_not (pb_d (pd_isi rfl T.z_isinstance rfl T.z_tuple PySem.Pv.boot_tuple (ph_v 1)))) (pbw_or1 (pb_cmp (op_neA hr.units) gNeA_ok (ph_d (pd_callB call_lenA gLen_ok rfl T.z_len PySem.boot_len (phs_cons (ph_v 1) phs_nil))) (ph_d pd_int)))))
 (mss_one (ms_ret (px_d pd_bl)))
 mss_nil)
 (mss_one (ms_if (pb_w (pbw_or (pb_not (pb_d (pd_x (px_fn (ok_law_is_int T) (hr.mono (by decide)) gd rfl T.m_law_is_int T.F_law_is_int.kp (b_law_is_int T) rfl pv0 (ln_cons (ln_cons (ln_cons ln_nil))) (pds_cons (pd_ix (ph_v 1) (ph_d pd_int)) (pds_cons pd_int (pds_cons (pd_op op_sub gI0_ok (ph_d (pd_ix (ph_v 0) (ph_d pd_int))) (ph_d pd_int)) pds_nil))))))) (pbw_or1 (pb_not (pb_d (pd_x (px_fn (ok_law_is_int T) (hr.mono (by decide)) gd rfl T.m_law_is_int T.F_law_is_int.kp (b_law_is_int T) rfl pv0 (ln_cons (ln_cons (ln_cons ln_nil))) (pds_cons (pd_ix (ph_v 1) (ph_d pd_int)) (pds_cons pd_int (pds_cons pd_int pds_nil))))))))))
 (mss_one (ms_ret (px_d pd_bl)))
 mss_nil))))
 (mss_cons (ms_set S.nd (i := 2) rfl (by first | exact Or.inl rfl | exact Or.inr rfl) (px_d (pd_ix (ph_v 0) (ph_d pd_int))))
 (mss_cons (ms_set S.nd (i := 3) rfl (by first | exact Or.inl rfl | exact Or.inr rfl) (px_lst pds_nil))
 (mss_cons (ms_for PassesOwn.never rfl (pim_seq (pd_x (px_sortedSet rfl rfl T.z_sorted rfl T.z_set (ph_x (px_lc rfl S.nd (own := [("_law_ship", 1)]) (pim_seq (pd_ix (ph_v 0) (ph_d pd_int))) (blkOk_by (N := N_law_due) (sc := defScope s_law_due) (by decide +kernel)) (by decide) (fun s H C cl fp => (pgt_nm 1 S.nd rfl (by first | exact Or.inl rfl | exact Or.inr rfl))) (fun s H C cl fp => pbs_nil) (fun s H C cl fp => (pd_ix (ph_v 1) (ph_d pd_int)))))))) (pgt_nm 4 S.nd rfl (by first | exact Or.inl rfl | exact Or.inr rfl))
 (mss_cons (ms_set S.nd (i := 5) rfl (by first | exact Or.inl rfl | exact Or.inr rfl) (px_d pd_int))
 (mss_cons (ms_for PassesOwn.never rfl (pim_seq (pd_ix (ph_v 0) (ph_d pd_int))) (pgt_tp rfl (pgts_cons (pgt_nm 6 S.nd rfl (by first | exact Or.inl rfl | exact Or.inr rfl)) (pgts_cons (pgt_nm 7 S.nd rfl (by first | exact Or.inl rfl | exact Or.inr rfl)) pgts_nil)))
 (mss_cons (ms_set S.nd (i := 8) rfl (by first | exact Or.inl rfl | exact Or.inr rfl) (px_d (pd_op op_mod gMod_ok (ph_d (pd_op op_sub gI0_ok (ph_v 4) (ph_v 6))) (ph_v 2))))
 (mss_one (ms_set S.nd (i := 5) rfl (by first | exact Or.inl rfl | exact Or.inr rfl) (px_d (pe_if (pb_cmp op_gt gCmp_ok (ph_v 7) (ph_v 8)) (pd_op op_addA gAdd_ok (ph_v 5) (ph_d (pd_op op_fdivW gDiv_ok (ph_d (pd_op op_sub gI0_ok (ph_d (pd_op op_addA gAdd_ok (ph_d (pd_op op_sub gI0_ok (ph_v 7) (ph_v 8))) (ph_v 2))) (ph_d pd_int))) (ph_v 2)))) (pd_v 5)))))))
 (mss_one (ms_expr (pd_mt 3 PySem.F.plainAttrs_list PySem.F.slot_list_append PySem.F.type_list_append mt_append isL_ok gApp_ok (pds_cons (pd_v 5) pds_nil)))))))
 (mss_one (ms_ret (px_d (pd_cmp op_le gCmp_ok (ph_d (pd_callB (cr_max rfl) gMax1_ok rfl T.z_max PyProof.Rows.boot_max (phs_cons (ph_x (px_op op_plus gPlus_ok (ph_v 3) (ph_x (px_lst (pds_cons pd_int pds_nil))))) phs_nil))) (ph_d pd_int)))))))))))
theorem sc_law_odd : FnScope N_law_odd ["_law_bag_here"] (defScope s_law_odd) := ⟨rfl, rfl, rfl, by decide +kernel, rfl, by decide +kernel, by decide +kernel⟩
theorem b_law_odd (T : Txt K mg) : Binds K T.d_law_odd ["_law_bag_here"] [] := T.F_law_odd.binds (ps := ["_law_bag_here"]) fun _ _ _ _ _ _ us hl => match us, hl with | [_], _ => rfl
set_option maxHeartbeats 8000000 in
theorem ok_law_odd (T : Txt K mg) : FnG P w K mg base CX0 2 T.a_law_odd T.d_law_odd ["_law_bag_here"] (spI ⟨K, w, []⟩ F_law_odd 1) :=
  have S := sc_law_odd
  okI0 T.F_law_odd S (by decide) fun cdv A fr s H E hr gd =>
 (mss_cons (ms_set S.nd (i := 1) rfl (by first | exact Or.inl rfl | exact Or.inr rfl) (px_lst (pds_cons pd_non (pds_cons pd_bl (pds_cons pd_bl (pds_cons pd_int (pds_cons pd_int (pds_cons (pd_neg (ph_d pd_int)) (pds_cons pd_int (pds_cons pd_int (pds_cons pd_int (pds_cons pd_int (pds_cons pd_str (pds_cons pd_str (pds_cons (pd_x (px_lst pds_nil)) (pds_cons (pd_tup pds_nil) (pds_cons (pd_x px_dict0) (pds_cons (pd_tup (pds_cons pd_int pds_nil)) (pds_cons (pd_tup (pds_cons pd_int (pds_cons pd_int pds_nil))) (pds_cons (pd_op op_powA gPow_ok (ph_d pd_int) (ph_d pd_int)) pds_nil))))))))))))))))))))
 (mss_one (ms_ret (px_d (pd_ix (ph_v 1) (ph_x (px_fnI 0 (ok_law_pick T) (hr.mono (by decide)) gd rfl T.m_law_pick T.F_law_pick.kp (b_law_pick T) pv0 (ln_io (ln_cons ln_nil)) (pds_cons pd_int pds_nil))))))))
theorem sc_law_edges : FnScope N_law_edges ["_law_bag_here"] (defScope s_law_edges) := ⟨rfl, rfl, rfl, by decide +kernel, rfl, by decide +kernel, by decide +kernel⟩
theorem b_law_edges (T : Txt K mg) : Binds K T.d_law_edges ["_law_bag_here"] [] := T.F_law_edges.binds (ps := ["_law_bag_here"]) fun _ _ _ _ _ _ us hl => match us, hl with | [_], _ => rfl
set_option maxHeartbeats 8000000 in
theorem ok_law_edges (T : Txt K mg) : FnG P w K mg base CX0 2 T.a_law_edges T.d_law_edges ["_law_bag_here"] (spI ⟨K, w, []⟩ F_law_edges 1) :=
  have S := sc_law_edges
  okI0 T.F_law_edges S (by decide) fun cdv A fr s H E hr gd =>
 (mss_cons (ms_set S.nd (i := 1) rfl (by first | exact Or.inl rfl | exact Or.inr rfl) (px_lst pds_nil))
 (mss_cons (ms_for PassesOwn.never rfl (pim_seq (pd_tup (pds_cons pd_int (pds_cons pd_int pds_nil)))) (pgt_nm 2 S.nd rfl (by first | exact Or.inl rfl | exact Or.inr rfl))
 (mss_one (ms_expr (pd_mt 1 PySem.F.plainAttrs_list PySem.F.slot_list_append PySem.F.type_list_append mt_append isL_ok gApp_ok (pds_cons (pd_tup (pds_cons pd_int (pds_cons (pd_op op_mulA gMulA_ok (ph_d (pd_tup (pds_cons (pd_tup (pds_cons pd_int (pds_cons pd_int pds_nil))) pds_nil))) (ph_v 2)) pds_nil))) pds_nil)))))
 (mss_cons (ms_for PassesOwn.never rfl (pim_seq (pd_tup (pds_cons pd_int (pds_cons pd_int (pds_cons pd_int (pds_cons pd_int pds_nil)))))) (pgt_nm 3 S.nd rfl (by first | exact Or.inl rfl | exact Or.inr rfl))
 (mss_one (ms_expr (pd_mt 1 PySem.F.plainAttrs_list PySem.F.slot_list_append PySem.F.type_list_append mt_append isL_ok gApp_ok (pds_cons (pd_tup (pds_cons pd_int (pds_cons (pd_tup (pds_cons (pd_tup (pds_cons pd_int (pds_cons (pd_v 3) pds_nil))) pds_nil)) pds_nil))) pds_nil)))))
 (mss_cons (ms_for PassesOwn.never rfl (pim_seq (pd_tup (pds_cons pd_int (pds_cons pd_int pds_nil)))) (pgt_nm 3 S.nd rfl (by first | exact Or.inl rfl | exact Or.inr rfl))
 (mss_one (ms_expr (pd_mt 1 PySem.F.plainAttrs_list PySem.F.slot_list_append PySem.F.type_list_append mt_append isL_ok gApp_ok (pds_cons (pd_tup (pds_cons pd_int (pds_cons (pd_tup (pds_cons (pd_tup (pds_cons (pd_x (px_fnI 0 (ok_law_pick T) (hr.mono (by decide)) gd rfl T.m_law_pick T.F_law_pick.kp (b_law_pick T) pv0 (ln_io (ln_cons ln_nil)) (pds_cons pd_int pds_nil))) (pds_cons (pd_v 3) pds_nil))) pds_nil)) pds_nil))) pds_nil)))))
 (mss_cons (ms_for PassesOwn.never rfl (pim_seq (pd_tup (pds_cons pd_int (pds_cons pd_int (pds_cons pd_int pds_nil))))) (pgt_nm 4 S.nd rfl (by first | exact Or.inl rfl | exact Or.inr rfl))
 (mss_one (ms_expr (pd_mt 1 PySem.F.plainAttrs_list PySem.F.slot_list_append PySem.F.type_list_append mt_append isL_ok gApp_ok (pds_cons (pd_tup (pds_cons (pd_v 4) (pds_cons (pd_tup pds_nil) pds_nil))) pds_nil)))))
 (mss_cons (ms_for PassesOwn.never rfl (pim_seq (pd_tup (pds_cons pd_int (pds_cons pd_int pds_nil)))) (pgt_nm 5 S.nd rfl (by first | exact Or.inl rfl | exact Or.inr rfl))
 (mss_cons (ms_expr (pd_mt 1 PySem.F.plainAttrs_list PySem.F.slot_list_append PySem.F.type_list_append mt_append isL_ok gApp_ok (pds_cons (pd_tup (pds_cons pd_int (pds_cons (pd_tup (pds_cons (pd_tup (pds_cons pd_int (pds_cons pd_int pds_nil))) (pds_cons (pd_tup (pds_cons pd_int (pds_cons (pd_op op_addA gAdd_ok (ph_d pd_int) (ph_d (pd_op op_mulW gMul_ok (ph_d pd_int) (ph_v 5)))) pds_nil))) pds_nil))) pds_nil))) pds_nil)))
 (mss_cons (ms_expr (pd_mt 1 PySem.F.plainAttrs_list PySem.F.slot_list_append PySem.F.type_list_append mt_append isL_ok gApp_ok (pds_cons (pd_tup (pds_cons pd_int (pds_cons (pd_tup (pds_cons (pd_tup (pds_cons pd_int (pds_cons pd_int pds_nil))) (pds_cons (pd_tup (pds_cons pd_int (pds_cons (pd_op op_addA gAdd_ok (ph_d pd_int) (ph_d (pd_op op_mulW gMul_ok (ph_d pd_int) (ph_v 5)))) pds_nil))) pds_nil))) pds_nil))) pds_nil)))
 (mss_cons (ms_setLc rfl S.nd rfl rfl rfl (own := [("_law_k", 7)]) (pim_range1 rfl T.z_range (pds_cons pd_int pds_nil)) (blkOk_by (N := N_law_edges) (sc := defScope s_law_edges) (by decide +kernel)) (by decide) (fun s H C cl fp => (pgt_nm 7 S.nd rfl (by first | exact Or.inl rfl | exact Or.inr rfl))) (fun s H C cl fp => pbs_nil) (fun s H C cl fp => (pd_tup (pds_cons (pd_v 7) (pds_cons pd_int pds_nil)))))
 (mss_cons (ms_seti 6 (pd_tup (pds_cons (pd_x (px_fnI 0 (ok_law_pick T) (hr.mono (by decide)) gd rfl T.m_law_pick T.F_law_pick.kp (b_law_pick T) pv0 (ln_io (ln_cons ln_nil)) (pds_cons pd_int pds_nil))) (pds_cons (pd_op op_addA gAdd_ok (ph_d pd_int) (ph_v 5)) pds_nil))) (pd_x (px_fnI 0 (ok_law_pick T) (hr.mono (by decide)) gd rfl T.m_law_pick T.F_law_pick.kp (b_law_pick T) pv0 (ln_io (ln_cons ln_nil)) (pds_cons pd_int pds_nil))))
 (mss_one (ms_expr (pd_mt 1 PySem.F.plainAttrs_list PySem.F.slot_list_append PySem.F.type_list_append mt_append isL_ok gApp_ok (pds_cons (pd_tup (pds_cons pd_int (pds_cons (pd_callT call_tuple_of gTuple_ok rfl T.z_tuple PySem.Pv.boot_tuple (phs_cons (ph_v 6) phs_nil)) pds_nil))) pds_nil)))))))))
 (mss_one (ms_ret (px_v 1)))))))))
theorem sc_is_ship : FnScope N_is_ship ["hours", "value"] (defScope s_is_ship) := ⟨rfl, rfl, rfl, by decide +kernel, rfl, by decide +kernel, by decide +kernel⟩
theorem b_is_ship (T : Txt K mg) : Binds K T.d_is_ship ["hours", "value"] [] := T.F_is_ship.binds (ps := ["hours", "value"]) fun _ _ _ _ _ _ us hl => match us, hl with | [_, _], _ => rfl
set_option maxHeartbeats 8000000 in
theorem ok_is_ship (T : Txt K mg) : FnG P w K mg base CX0 3 T.a_is_ship T.d_is_ship ["hours", "value"] (spD ⟨K, w, []⟩ F_is_ship 2) :=
  have S := sc_is_ship
  okD0 T.F_is_ship S (by decide) fun cdv A fr s H E hr gd =>
 (mss_cons (ms_if (pb_w (pbw_or (pb_not (pb_d (pd_isi rfl T.z_isinstance rfl T.z_tuple PySem.Pv.boot_tuple (ph_v 1)))) (pbw_or1 (pb_cmp (op_neA hr.units) gNeA_ok (ph_d (pd_callB call_lenA gLen_ok rfl T.z_len PySem.boot_len (phs_cons (ph_v 1) phs_nil))) (ph_d pd_int)))))
 (mss_one (ms_ret (px_d pd_bl)))
 mss_nil)
 (mss_one (ms_ret (px_d (pd_and (pd_x (px_fn (ok_in_range T) (hr.mono (by decide)) gd rfl T.m_in_range T.F_in_range.kp (b_in_range T) rfl pv0 (ln_cons (ln_cons (ln_cons ln_nil))) (pds_cons (pd_ix (ph_v 1) (ph_d pd_int)) (pds_cons pd_int (pds_cons (pd_op op_sub gI0_ok (ph_v 0) (ph_d pd_int)) pds_nil))))) (pd_one (pd_x (px_fn (ok_in_range T) (hr.mono (by decide)) gd rfl T.m_in_range T.F_in_range.kp (b_in_range T) rfl pv0 (ln_cons (ln_cons (ln_cons ln_nil))) (pds_cons (pd_ix (ph_v 1) (ph_d pd_int)) (pds_cons pd_int (pds_cons (pd_gint rfl T.c_MOST_STAY) pds_nil)))))))))))
theorem sc_peak_of : FnScope N_peak_of ["table"] (defScope s_peak_of) := ⟨rfl, rfl, rfl, by decide +kernel, rfl, by decide +kernel, by decide +kernel⟩
theorem b_peak_of (T : Txt K mg) : Binds K T.d_peak_of ["table"] [] := T.F_peak_of.binds (ps := ["table"]) fun _ _ _ _ _ _ us hl => match us, hl with | [_], _ => rfl
set_option maxHeartbeats 8000000 in
theorem ok_peak_of (T : Txt K mg) : FnG P w K mg base CX0 3 T.a_peak_of T.d_peak_of ["table"] (spD ⟨K, w, []⟩ F_peak_of 1) :=
  have S := sc_peak_of
  okD0 T.F_peak_of S (by decide) fun cdv A fr s H E hr gd =>
 (mss_one (ms_ret (px_d (pd_mxD (cr_maxD rfl) rfl T.z_max PyProof.Rows.boot_max (pds_cons (pd_x (px_fn (ok_counts T) (hr.mono (by decide)) gd rfl T.m_counts T.F_counts.kp (b_counts T) rfl pv0 (ln_cons ln_nil) (pds_cons (pd_v 0) pds_nil))) pds_nil) pd_int))))
theorem sc_is_table : FnScope N_is_table ["value"] (defScope s_is_table) := ⟨rfl, rfl, rfl, by decide +kernel, rfl, by decide +kernel, by decide +kernel⟩
theorem b_is_table (T : Txt K mg) : Binds K T.d_is_table ["value"] [] := T.F_is_table.binds (ps := ["value"]) fun _ _ _ _ _ _ us hl => match us, hl with | [_], _ => rfl
set_option maxHeartbeats 8000000 in
theorem ok_is_table (T : Txt K mg) : FnG P w K mg base CX0 4 T.a_is_table T.d_is_table ["value"] (spD ⟨K, w, []⟩ F_is_table 1) :=
  have S := sc_is_table
  okD0 T.F_is_table S (by decide) fun cdv A fr s H E hr gd =>
 (mss_cons (ms_if (pb_w (pbw_or (pb_not (pb_d (pd_isi rfl T.z_isinstance rfl T.z_tuple PySem.Pv.boot_tuple (ph_v 0)))) (pbw_or (pb_cmp (op_neA hr.units) gNeA_ok (ph_d (pd_callB call_lenA gLen_ok rfl T.z_len PySem.boot_len (phs_cons (ph_v 0) phs_nil))) (ph_d pd_int)) (pbw_or1 (pb_not (pb_d (pd_x (px_fn (ok_in_range T) (hr.mono (by decide)) gd rfl T.m_in_range T.F_in_range.kp (b_in_range T) rfl pv0 (ln_cons (ln_cons (ln_cons ln_nil))) (pds_cons (pd_ix (ph_v 0) (ph_d pd_int)) (pds_cons pd_int (pds_cons (pd_gint rfl T.c_MOST_HOURS) pds_nil)))))))))))
 (mss_one (ms_ret (px_d pd_bl)))
 mss_nil)
 (mss_cons (ms_asg (pgt_tp rfl (pgts_cons (pgt_nm 1 S.nd rfl (by first | exact Or.inl rfl | exact Or.inr rfl)) (pgts_cons (pgt_nm 2 S.nd rfl (by first | exact Or.inl rfl | exact Or.inr rfl)) pgts_nil))) (pd_v 0))
 (mss_cons (ms_if (pb_w (pbw_or (pb_not (pb_d (pd_isi rfl T.z_isinstance rfl T.z_tuple PySem.Pv.boot_tuple (ph_v 2)))) (pbw_or (pb_cmp op_gt gCmp_ok (ph_d (pd_callB call_lenA gLen_ok rfl T.z_len PySem.boot_len (phs_cons (ph_v 2) phs_nil))) (ph_d (pd_gint rfl T.c_MOST_SHIPS))) (pbw_or1 (pb_not (pb_d (pd_callB (cr_all rfl) gAll_ok rfl T.z_all PyProof.Rows.boot_all (phs_cons (ph_x (px_lc rfl S.nd (own := [("ship", 3)]) (pim_seq (pd_v 2)) (blkOk_by (N := N_is_table) (sc := defScope s_is_table) (by decide +kernel)) (by decide) (fun s H C cl fp => (pgt_nm 3 S.nd rfl (by first | exact Or.inl rfl | exact Or.inr rfl))) (fun s H C cl fp => pbs_nil) (fun s H C cl fp => (pd_x (px_fn (ok_is_ship T) (hr.mono (by decide)) gd rfl T.m_is_ship T.F_is_ship.kp (b_is_ship T) rfl pv0 (ln_cons (ln_cons ln_nil)) (pds_cons (pd_v 1) (pds_cons (pd_v 3) pds_nil))))))) phs_nil))))))))
 (mss_one (ms_ret (px_d pd_bl)))
 mss_nil)
 (mss_one (ms_ret (px_d (pd_cmp op_le gCmp_ok (ph_x (px_fn (ok_peak_of T) (hr.mono (by decide)) gd rfl T.m_peak_of T.F_peak_of.kp (b_peak_of T) rfl pv0 (ln_cons ln_nil) (pds_cons (pd_v 0) pds_nil))) (ph_d (pd_gint rfl T.c_MOST_PEAK)))))))))
theorem sc_law_bent : FnScope N_law_bent ["_law_bag_here", "_law_value", "_law_deep"] (defScope s_law_bent) := ⟨rfl, rfl, rfl, by decide +kernel, rfl, by decide +kernel, by decide +kernel⟩
theorem b_law_bent (T : Txt K mg) : Binds K T.d_law_bent ["_law_bag_here", "_law_value", "_law_deep"] [] := T.F_law_bent.binds (ps := ["_law_bag_here", "_law_value", "_law_deep"]) fun _ _ _ _ _ _ us hl => match us, hl with | [_, _, _], _ => rfl
set_option maxHeartbeats 8000000 in
theorem okn_law_bent (T : Txt K mg) : ∀ n : Nat, FnG P w K mg base CX0 (2 + n) T.a_law_bent T.d_law_bent ["_law_bag_here", "_law_value", "_law_deep"] (spI ⟨K, w, []⟩ (fnI 6 (m_law_bent n)) 3)
  | 0 => fnG_noI
  | n + 1 =>
  have S := sc_law_bent
  have ih := okn_law_bent T n
  okI0 T.F_law_bent S (by decide) fun cdv A fr s H E hr gd =>
 (mss_cons (ms_if (pb_w (pbw_or (pb_not (pb_d (pd_isi rfl T.z_isinstance rfl T.z_tuple PySem.Pv.boot_tuple (ph_v 1)))) (pbw_or (pb_cmp (op_eqA hr.units) gEqA_ok (ph_v 1) (ph_d (pd_tup pds_nil))) (pbw_or (pb_cmp (op_eqA hr.units) gEqA_ok (ph_v 2) (ph_d pd_int)) (pbw_or1 (pb_cmp (op_eqA hr.units) gEqA_ok (ph_x (px_fnI 0 (ok_law_pick T) (hr.mono (Nat.le_trans (by decide : 1 ≤ 2) (Nat.le_add_right 2 n))) gd rfl T.m_law_pick T.F_law_pick.kp (b_law_pick T) pv0 (ln_io (ln_cons ln_nil)) (pds_cons pd_int pds_nil))) (ph_d pd_int)))))))
 (mss_cons (ms_if (pb_w (pbw_or (pb_not (pb_d (pd_isi rfl T.z_isinstance rfl T.z_tuple PySem.Pv.boot_tuple (ph_v 1)))) (pbw_or1 (pb_cmp (op_eqA hr.units) gEqA_ok (ph_x (px_fnI 0 (ok_law_pick T) (hr.mono (Nat.le_trans (by decide : 1 ≤ 2) (Nat.le_add_right 2 n))) gd rfl T.m_law_pick T.F_law_pick.kp (b_law_pick T) pv0 (ln_io (ln_cons ln_nil)) (pds_cons pd_int pds_nil))) (ph_d pd_int)))))
 (mss_one (ms_ret (px_fnI 0 (ok_law_odd T) (hr.mono (Nat.le_trans (by decide : 2 ≤ 2) (Nat.le_add_right 2 n))) gd rfl T.m_law_odd T.F_law_odd.kp (b_law_odd T) pv0 (ln_io ln_nil) pds_nil)))
 mss_nil)
 (mss_cons (ms_set S.nd (i := 3) rfl (by first | exact Or.inl rfl | exact Or.inr rfl) (px_fnI 0 (ok_law_pick T) (hr.mono (Nat.le_trans (by decide : 1 ≤ 2) (Nat.le_add_right 2 n))) gd rfl T.m_law_pick T.F_law_pick.kp (b_law_pick T) pv0 (ln_io (ln_cons ln_nil)) (pds_cons (pd_op op_addA gAdd_ok (ph_d (pd_callB call_lenA gLen_ok rfl T.z_len PySem.boot_len (phs_cons (ph_v 1) phs_nil))) (ph_d pd_int)) pds_nil)))
 (mss_cons (ms_set S.nd (i := 5) rfl (by first | exact Or.inl rfl | exact Or.inr rfl) (px_lst (pds_cons (pd_op op_addA gAdd_ok (ph_v 1) (ph_d (pd_tup (pds_cons (pd_x (px_fnI 0 (ok_law_odd T) (hr.mono (Nat.le_trans (by decide : 2 ≤ 2) (Nat.le_add_right 2 n))) gd rfl T.m_law_odd T.F_law_odd.kp (b_law_odd T) pv0 (ln_io ln_nil) pds_nil)) pds_nil)))) (pds_cons (pd_op op_addA gAdd_ok (ph_x (px_slice (ph_v 1) pp_none (pp_some (pd_v 3)))) (ph_x (px_slice (ph_v 1) (pp_some (pd_op op_addA gAdd_ok (ph_v 3) (ph_d pd_int))) pp_none))) (pds_cons (pd_x (px_callT call_list_of gList_ok rfl T.z_list PySem.Pv.boot_list (phs_cons (ph_v 1) phs_nil))) (pds_cons (pd_x (px_rev (ph_v 1))) (pds_cons (pd_op op_addA gAdd_ok (ph_v 1) (ph_x (px_slice (ph_v 1) pp_none (pp_some pd_int)))) pds_nil)))))))
 (mss_one (ms_ret (px_d (pd_ix (ph_v 5) (ph_x (px_fnI 0 (ok_law_pick T) (hr.mono (Nat.le_trans (by decide : 1 ≤ 2) (Nat.le_add_right 2 n))) gd rfl T.m_law_pick T.F_law_pick.kp (b_law_pick T) pv0 (ln_io (ln_cons ln_nil)) (pds_cons pd_int pds_nil))))))))))
 mss_nil)
 (mss_cons (ms_set S.nd (i := 3) rfl (by first | exact Or.inl rfl | exact Or.inr rfl) (px_fnI 0 (ok_law_pick T) (hr.mono (Nat.le_trans (by decide : 1 ≤ 2) (Nat.le_add_right 2 n))) gd rfl T.m_law_pick T.F_law_pick.kp (b_law_pick T) pv0 (ln_io (ln_cons ln_nil)) (pds_cons (pd_callB call_lenA gLen_ok rfl T.z_len PySem.boot_len (phs_cons (ph_v 1) phs_nil)) pds_nil)))
 (mss_cons (ms_set S.nd (i := 4) rfl (by first | exact Or.inl rfl | exact Or.inr rfl) (px_fnI 0 ih hr gd rfl T.m_law_bent T.F_law_bent.kp (b_law_bent T) pv0 (ln_io (ln_cons (ln_cons ln_nil))) (pds_cons (pd_ix (ph_v 1) (ph_v 3)) (pds_cons (pd_op op_sub gI0_ok (ph_v 2) (ph_d pd_int)) pds_nil))))
 (mss_one (ms_ret (px_d (pd_op op_addA gAdd_ok (ph_d (pd_op op_addA gAdd_ok (ph_x (px_slice (ph_v 1) pp_none (pp_some (pd_v 3)))) (ph_d (pd_tup (pds_cons (pd_v 4) pds_nil))))) (ph_x (px_slice (ph_v 1) (pp_some (pd_op op_addA gAdd_ok (ph_v 3) (ph_d pd_int))) pp_none)))))))))
theorem ok_law_bent (T : Txt K mg) : FnG P w K mg base CX0 8 T.a_law_bent T.d_law_bent ["_law_bag_here", "_law_value", "_law_deep"] (spI ⟨K, w, []⟩ F_law_bent 3) := okn_law_bent T 6
theorem sc_law : FnScope N_law ["_law_script"] (defScope s_law) := ⟨rfl, rfl, rfl, by decide +kernel, rfl, by decide +kernel, by decide +kernel⟩
theorem b_law (T : Txt K mg) : Binds K T.d_law ["_law_script"] [] := T.F_law.binds (ps := ["_law_script"]) fun _ _ _ _ _ _ us hl => match us, hl with | [_], _ => rfl
set_option maxHeartbeats 8000000 in
theorem ok_law (T : Txt K mg) : FnG P w K mg base CX0 9 T.a_law T.d_law ["_law_script"] (spD ⟨K, w, []⟩ F_law 1) :=
  have S := sc_law
  okD0 T.F_law S (by decide) fun cdv A fr s H E hr gd =>
 (mss_cons (ms_for PassesOwn.never rfl (pim_seq (pd_x (px_op op_plus gPlus_ok (ph_x (px_slice (ph_v 0) pp_none (pp_some pd_int))) (ph_x (px_lst (pds_cons pd_int pds_nil)))))) (pgt_nm 1 S.nd rfl (by first | exact Or.inl rfl | exact Or.inr rfl))
 (mss_cons (ms_set S.nd (i := 2) rfl (by first | exact Or.inl rfl | exact Or.inr rfl) (px_fn (ok_law_bag T) (hr.mono (by decide)) gd rfl T.m_law_bag T.F_law_bag.kp (b_law_bag T) rfl pv0 (ln_cons ln_nil) (pds_cons (pd_v 1) pds_nil)))
 (mss_cons (ms_set S.nd (i := 3) rfl (by first | exact Or.inl rfl | exact Or.inr rfl) (px_fnI 2 (ok_law_table T) (hr.mono (by decide)) gd rfl T.m_law_table T.F_law_table.kp (b_law_table T) pv0 (ln_io ln_nil) pds_nil))
 (mss_one (ms_for PassesOwn.never rfl (pim_seq (pd_x (px_op op_plus gPlus_ok (ph_x (px_op op_plus gPlus_ok (ph_x (px_lst (pds_cons (pd_v 3) (pds_cons (pd_x (px_fnI 2 (ok_law_odd T) (hr.mono (by decide)) gd rfl T.m_law_odd T.F_law_odd.kp (b_law_odd T) pv0 (ln_io ln_nil) pds_nil)) pds_nil)))) (ph_x (px_fnI 2 (ok_law_edges T) (hr.mono (by decide)) gd rfl T.m_law_edges T.F_law_edges.kp (b_law_edges T) pv0 (ln_io ln_nil) pds_nil)))) (ph_x (px_lc rfl S.nd (own := [("_law_k", 7)]) (pim_range1 rfl T.z_range (pds_cons pd_int pds_nil)) (blkOk_by (N := N_law) (sc := defScope s_law) (by decide +kernel)) (by decide) (fun s H C cl fp => (pgt_nm 7 S.nd rfl (by first | exact Or.inl rfl | exact Or.inr rfl))) (fun s H C cl fp => pbs_nil) (fun s H C cl fp => (pd_x (px_fnI 2 (ok_law_bent T) (hr.mono (by decide)) gd rfl T.m_law_bent T.F_law_bent.kp (b_law_bent T) pv0 (ln_io (ln_cons (ln_cons ln_nil))) (pds_cons (pd_v 3) (pds_cons pd_int pds_nil)))))))))) (pgt_nm 4 S.nd rfl (by first | exact Or.inl rfl | exact Or.inr rfl))
 (mss_cons (ms_set S.nd (i := 5) rfl (by first | exact Or.inl rfl | exact Or.inr rfl) (px_d (pd_callB (call_repr hr gd) gRepr_ok rfl T.z_repr PyProof.Rows.bootS_repr (phs_cons (ph_v 4) phs_nil))))
 (mss_one (ms_for PassesOwn.never rfl (pim_range1 rfl T.z_range (pds_cons pd_int pds_nil)) (pgt_nm 6 S.nd rfl (by first | exact Or.inl rfl | exact Or.inr rfl))
 (mss_one (ms_if (pb_w (pbw_or (pb_cmp (op_neA hr.units) gNeA_ok (ph_d (pd_callB (call_repr hr gd) gRepr_ok rfl T.z_repr PyProof.Rows.bootS_repr (phs_cons (ph_x (px_fn (ok_is_table T) (hr.mono (by decide)) gd rfl T.m_is_table T.F_is_table.kp (b_is_table T) rfl pv0 (ln_cons ln_nil) (pds_cons (pd_v 4) pds_nil))) phs_nil))) (ph_d (pd_callB (call_repr hr gd) gRepr_ok rfl T.z_repr PyProof.Rows.bootS_repr (phs_cons (ph_x (px_fn (ok_law_due T) (hr.mono (by decide)) gd rfl T.m_law_due T.F_law_due.kp (b_law_due T) rfl pv0 (ln_cons ln_nil) (pds_cons (pd_v 4) pds_nil))) phs_nil)))) (pbw_or1 (pb_cmp (op_neA hr.units) gNeA_ok (ph_d (pd_callB (call_repr hr gd) gRepr_ok rfl T.z_repr PyProof.Rows.bootS_repr (phs_cons (ph_v 4) phs_nil))) (ph_v 5)))))
 (mss_one (ms_ret (px_d pd_bl)))
 mss_nil))))))))))
 (mss_one (ms_ret (px_d pd_bl))))
end
end LawK01

namespace LawK01
open PySem L2 Am
theorem log2_small {n : Nat} (h : n < 2 ^ 400) : n.log2 < 400 := by
  by_cases h0 : n = 0
  · subst h0
    decide
  · exact (Nat.log2_lt h0).mpr h
theorem cMul_small {i j : Int} (hi : i.natAbs < 2 ^ 400) (hj : j.natAbs < 2 ^ 400) : cMul i j = true := by
  have h1 := log2_small hi
  have h2 := log2_small hj
  exact decide_eq_true (by omega)
theorem small400 {x : Int} (h1 : -1000000000000 ≤ x) (h2 : x ≤ 1000000000000) : x.natAbs < 2 ^ 400 :=
  Nat.lt_trans (show x.natAbs < 1000000000001 by omega) (by decide)
theorem gMul_eq (i j : Int) : gI cMul (fun i j => i * j) (.int i) (.int j) = if cMul i j = true then some (.int (i * j)) else none := rfl
theorem big : (2 : Nat) ^ 400 > 2 ^ 70 := by decide
/-- a bag [a, b, k] is asked for a number below n -/
theorem pick_lit {k n : Int} (a b : Int) (hk : 0 ≤ k) (hk2 : k < 2 ^ 60) (hn : 0 < n) (hn2 : n < 2 ^ 60) : ∃ r a' k', F_law_pick (.lst [.int a, .int b, .int k]) [.int n] = some (.ok (.dat (.int r)), .lst [.int a', .int b, .int k']) ∧ k' = k + 1 ∧ 0 ≤ r ∧ r < n := by
  have b70 : (2 : Nat) ^ 70 < 2 ^ 400 := by decide
  have p60 : (2 : Int) ^ 60 = 1152921504606846976 := by decide
  have p70 : (2 : Nat) ^ 70 = 1180591620717411303424 := by decide
  rw [p60] at hk2 hn2
  have hl : n.natAbs.log2 < 9000 := Nat.lt_trans (log2_small (Nat.lt_trans (by rw [p70]; omega) b70)) (by decide)
  by_cases ha : 0 < a
  · refine ⟨a % n, a / n, k + 1, ?_, rfl, Int.emod_nonneg _ (by omega), Int.emod_lt_of_pos _ hn⟩
    simp [fnI, m_law_pick, startA, gSetI, ixN, gAdd, gIx, atI, gGt, gCmp, gMod, gDiv, gI, cMod, cDiv, ha, hn, hl]
  · have e1 := Int.emod_lt_of_pos b (show (0 : Int) < 2147483629 by decide)
    have e2 := Int.emod_nonneg b (show (2147483629 : Int) ≠ 0 by decide)
    have m1 : cMul (b % 2147483629) 48271 = true := cMul_small (Nat.lt_trans (by rw [p70]; omega) b70) (Nat.lt_trans (by decide) b70)
    have m2 : cMul (k + 1) 69621 = true := cMul_small (Nat.lt_trans (by rw [p70]; omega) b70) (Nat.lt_trans (by decide) b70)
    have m4 : cMul (k + 1) 40692 = true := cMul_small (Nat.lt_trans (by rw [p70]; omega) b70) (Nat.lt_trans (by decide) b70)
    have f1 : ∀ x : Int, (x % 2147483647).natAbs < 2 ^ 400 := fun x => by
      have q1 := Int.emod_lt_of_pos x (show (0 : Int) < 2147483647 by decide)
      have q2 := Int.emod_nonneg x (show (2147483647 : Int) ≠ 0 by decide)
      exact Nat.lt_trans (by rw [p70]; omega) b70
    have m3 : ∀ x : Int, cMul (x % 2147483647) (x % 2147483647) = true := fun x => cMul_small (f1 x) (f1 x)
    have m5 : ∀ x : Int, cMul (x % 2147483647) 2147483587 = true := fun x => cMul_small (f1 x) (Nat.lt_trans (by decide) b70)
    have d1 : ∀ x : Int, cDiv x 32 = true := fun x => by simp [cDiv]; decide
    have key : ∀ F : Int, F = (b % 2147483629 * 48271 + (k + 1) * 69621 + 12345) % 2147483647 → F_law_pick (.lst [.int a, .int b, .int k]) [.int n] = some (.ok (.dat (.int ((F * 2147483587 + (F * F + (k + 1) * 40692) % 2147483587) / 32 % n))), .lst [.int a, .int b, .int (k + 1)]) := fun F eF => by
      subst eF
      simp only [F_law_pick, fnI, m_law_pick, startA]
      simp [gSetI, ixN, gAdd, gIx, atI, gGt, gCmp, gMod, gDiv, gMul_eq, gI, cMod, ha, hn, m1, m2, m3, m4, m5, d1]
    exact ⟨_, _, _, key _ rfl, rfl, Int.emod_nonneg _ (show n ≠ 0 by omega), Int.emod_lt_of_pos _ hn⟩

/-! ### timetables -/
def eS (p : Int × Int) : PyData := .tuple [.int p.1, .int p.2]
def eT (H : Int) (ss : List (Int × Int)) : PyData := .tuple [.int H, .tuple (ss.map eS)]
def caps (H : Int) (ss : List (Int × Int)) : Int := (ss.map fun p => (p.2 + H - 1) / H).sum
structure TSh (H : Int) (ss : List (Int × Int)) : Prop where
  h1 : 1 ≤ H
  h2 : H ≤ 1000
  len : ss.length ≤ 24
  ship : ∀ p ∈ ss, 0 ≤ p.1 ∧ p.1 < H ∧ 1 ≤ p.2 ∧ p.2 ≤ 10000
structure TOk (H : Int) (ss : List (Int × Int)) : Prop extends TSh H ss where
  cap : caps H ss ≤ 60
theorem gIx_in (ds : List PyData) (i : Int) (h0 : 0 ≤ i) (h1 : i < ds.length) : ∃ d ∈ ds, gIx (.list ds) (.int i) = some d := by
  refine ⟨ds[i.toNat]'(by omega), List.getElem_mem _, ?_⟩
  show atI ds i = _
  have e : ixN ds.length i = some i.toNat := by unfold ixN; rw [if_pos h0, if_pos h1]
  unfold atI
  rw [e]
  simp
theorem caps_le {H c : Int} (hH : 1 ≤ H) (ss : List (Int × Int)) (h : ∀ p ∈ ss, p.2 ≤ c * H) : caps H ss ≤ c * ss.length := by
  unfold caps
  induction ss with
  | nil => simp
  | cons p ss ih =>
    rw [List.map_cons, List.sum_cons, List.length_cons]
    have h1 := h p List.mem_cons_self
    have h2 := ih fun q hq => h q (List.mem_cons_of_mem _ hq)
    have h3 : (p.2 + H - 1) / H ≤ c := by
      have : (p.2 + H - 1) / H < c + 1 := Int.ediv_lt_of_lt_mul (by omega) (by rw [Int.add_mul]; omega)
      omega
    have e : c * ((ss.length + 1 : Nat) : Int) = c * (ss.length : Int) + c := by rw [Int.natCast_add, Int.mul_add]; omega
    omega
def TLI (b H m L Z k : Int) (pre : List Nat) (st : AEnv) : Prop := ∃ (ss : List (Int × Int)) (a' k' : Int) (s5 : Sl), st = [.lst [.int a', .int b, .int k'], .dat (.int H), .dat (.int m), .dat (.int L), .lst (ss.map eS), s5] ∧ ss.length = pre.length ∧ k' = k + 2 * pre.length ∧
  ∀ p ∈ ss, 0 ≤ p.1 ∧ p.1 < H ∧ 1 ≤ p.2 ∧ p.2 ≤ 10000 ∧ p.2 ≤ Z
theorem table_loop {k : Int} (a b H m L Z : Int) (hk : 0 ≤ k) (hk2 : k < 2 ^ 55) (hH : 1 ≤ H ∧ H ≤ 1000) (hm : 0 ≤ m ∧ m < 25) (hZ : Z = if m < 20 then L else 2 * H) (hZ0 : 1 ≤ Z ∧ Z ≤ 3 * H) :
    ∃ (ss : List (Int × Int)) (a' k' : Int) (s5 : Sl), forL (Tgt.nm 5) m_law_table_l0 (rangeD 0 m.toNat) [.lst [.int a, .int b, .int k], .dat (.int H), .dat (.int m), .dat (.int L), .lst [], .un] =
      some (.ok .nx, [.lst [.int a', .int b, .int k'], .dat (.int H), .dat (.int m), .dat (.int L), .lst (ss.map eS), s5]) ∧ ss.length = m.toNat ∧ k' = k + 2 * m.toNat ∧ ∀ p ∈ ss, 0 ≤ p.1 ∧ p.1 < H ∧ 1 ≤ p.2 ∧ p.2 ≤ 10000 ∧ p.2 ≤ Z := by
  have p55 : (2 : Int) ^ 55 = 36028797018963968 := by decide
  have p60 : (2 : Int) ^ 60 = 1152921504606846976 := by decide
  rw [p55] at hk2
  have c2 : cMul 2 H = true := cMul_small (by decide) (small400 (by omega) (by omega))
  have turn : ∀ (p : List Nat) (x : Nat) (q : List Nat) (b0 : AEnv), [] ++ List.range m.toNat = p ++ x :: q → TLI b H m L Z k p b0 → ∃ b1 b2, (Tgt.nm 5).put (PyData.int (0 + (x : Int))) b0 = some b1 ∧ (m_law_table_l0 b1 = some (.ok .nx, b2) ∨ m_law_table_l0 b1 = some (.ok .ct, b2)) ∧ TLI b H m L Z k (p ++ [x]) b2 := by
    rintro p x q st hpx ⟨ss, a1, k1, s5, rfl, h1, h2, h3⟩
    have hlen : p.length < 25 := by
      have z := congrArg List.length hpx
      simp at z
      omega
    obtain ⟨r1, a2, k2, e1, q1, l1, u1⟩ := pick_lit (k := k1) (n := H) a1 b (by omega) (by omega) (by omega) (by omega)
    have hY : 1 ≤ (if Z < 10000 then Z else 10000) := by split <;> omega
    have hY2 : (if Z < 10000 then Z else 10000) ≤ 10000 := by split <;> omega
    have hY3 : (if Z < 10000 then Z else 10000) ≤ Z := by split <;> omega
    obtain ⟨r2, a3, k3, e2, q2, l2, u2⟩ := pick_lit (k := k2) (n := if Z < 10000 then Z else 10000) a2 b (by omega) (by omega) (by omega) (by omega)
    have hz : ss.length < 16777216 := by omega
    refine ⟨[.lst [.int a1, .int b, .int k1], .dat (.int H), .dat (.int m), .dat (.int L), .lst (ss.map eS), .dat (.int (0 + (x : Int)))], [.lst [.int a3, .int b, .int k3], .dat (.int H), .dat (.int m), .dat (.int L), .lst ((ss ++ [(r1, 1 + r2)]).map eS), .dat (.int (0 + (x : Int)))], by simp, .inl ?_, ss ++ [(r1, 1 + r2)], a3, k3, _, rfl, by simp [h1], by simp; omega, fun y hy => ?_⟩
    · by_cases h20 : m < 20
      · rw [if_pos h20] at hZ
        subst hZ
        simp [m_law_table_l0, e1, e2, gLt, gCmp, h20, gMin2, gAdd, lineN, hz, eS]
      · rw [if_neg h20] at hZ
        subst hZ
        simp [m_law_table_l0, e1, e2, gLt, gCmp, h20, gMin2, gAdd, gMul_eq, c2, lineN, hz, eS]
    · rcases List.mem_append.mp hy with hy | hy
      · exact h3 y hy
      · rw [List.mem_singleton.mp hy]
        exact ⟨l1, u1, by show 1 ≤ 1 + r2; omega, by show 1 + r2 ≤ 10000; omega, by show 1 + r2 ≤ Z; omega⟩
  obtain ⟨a', e, h⟩ := forL_inv (t := Tgt.nm 5) (body := m_law_table_l0) (fun i : Nat => PyData.int (0 + (i : Int))) (TLI b H m L Z k) (List.range m.toNat) [] _ ⟨[], a, k, .un, rfl, rfl, by simp, fun _ z => nomatch z⟩ turn
  obtain ⟨ss, a1, k1, s5, rfl, h1, h2, h3⟩ := h
  exact ⟨ss, a1, k1, s5, e, by simpa using h1, by simpa using h2, h3⟩
theorem table_spec {k : Int} (a b : Int) (hk : 0 ≤ k) (hk2 : k < 2 ^ 50) : ∃ H ss a' k', F_law_table (.lst [.int a, .int b, .int k]) [] = some (.ok (.dat (eT H ss)), .lst [.int a', .int b, .int k']) ∧ TOk H ss ∧ k ≤ k' ∧ k' ≤ k + 60 := by
  have p50 : (2 : Int) ^ 50 = 1125899906842624 := by decide
  have p60 : (2 : Int) ^ 60 = 1152921504606846976 := by decide
  rw [p50] at hk2
  obtain ⟨r1, a1, k1, e1, q1, l1, u1⟩ := pick_lit (n := 6) a b hk (by omega) (by decide) (by decide)
  obtain ⟨r2, a2, k2, e2, q2, l2, u2⟩ := pick_lit (k := k1) (n := 5) a1 b (by omega) (by omega) (by decide) (by decide)
  obtain ⟨r3, a3, k3, e3, q3, l3, u3⟩ := pick_lit (k := k2) (n := 8) a2 b (by omega) (by omega) (by decide) (by decide)
  obtain ⟨r4, a4, k4, e4, q4, l4, u4⟩ := pick_lit (k := k3) (n := 25) a3 b (by omega) (by omega) (by decide) (by decide)
  obtain ⟨r5, a5, k5, e5, q5, l5, u5⟩ := pick_lit (k := k4) (n := 3) a4 b (by omega) (by omega) (by decide) (by decide)
  obtain ⟨r6, a6, k6, e6, q6, l6, u6⟩ := pick_lit (k := k5) (n := 3) a5 b (by omega) (by omega) (by decide) (by decide)
  obtain ⟨d1, m1, g1⟩ := gIx_in [.int 1, .int 2, .int 5, .int 12, .int 24, .int 1000] r1 l1 (by simpa using u1)
  obtain ⟨H, rfl, hH1, hH2⟩ : ∃ H, d1 = .int H ∧ 1 ≤ H ∧ H ≤ 1000 := by
    simp at m1
    rcases m1 with rfl | rfl | rfl | rfl | rfl | rfl <;> exact ⟨_, rfl, by decide, by decide⟩
  obtain ⟨d2, m2, g2⟩ := gIx_in [.int r2, .int r3, .int r4] r5 l5 (by simpa using u5)
  obtain ⟨m, rfl, hm0, hm1⟩ : ∃ m, d2 = .int m ∧ 0 ≤ m ∧ m < 25 := by
    simp at m2
    rcases m2 with rfl | rfl | rfl <;> exact ⟨_, rfl, by omega, by omega⟩
  obtain ⟨d3, m3, g3⟩ := gIx_in [.int H, .int (2 * H), .int (3 * H)] r6 l6 (by simpa using u6)
  obtain ⟨L, rfl, hL0, hL1⟩ : ∃ L, d3 = .int L ∧ 1 ≤ L ∧ L ≤ 3 * H := by
    simp at m3
    rcases m3 with rfl | rfl | rfl <;> exact ⟨_, rfl, by omega, by omega⟩
  have c2 : cMul 2 H = true := cMul_small (by decide) (small400 (by omega) (by omega))
  have c3 : cMul 3 H = true := cMul_small (by decide) (small400 (by omega) (by omega))
  have hZ1 : 1 ≤ (if m < 20 then L else 2 * H) ∧ (if m < 20 then L else 2 * H) ≤ 3 * H := by split <;> omega
  obtain ⟨ss, a7, k7, s5, e7, n7, q7, h7⟩ := table_loop (k := k6) a6 b H m L _ (by omega) (by omega) ⟨hH1, hH2⟩ ⟨hm0, hm1⟩ rfl hZ1
  have b1 : -4611686018427387904 ≤ m ∧ m < 4611686018427387904 := by omega
  have z1 : ss.length ≤ 16777216 := by omega
  refine ⟨H, ss, a7, k7, ?_, ⟨⟨hH1, hH2, by omega, fun p hp => ?_⟩, ?_⟩, by omega, by omega⟩
  · simp only [F_law_table, fnI, m_law_table, startA]
    simp [e1, e2, e3, e4, e5, e6, g1, g2, g3, gMul_eq, c2, c3, lineN, gR1, b1, e7, gTuple, eT, z1]
  · obtain ⟨x1, x2, x3, x4, _⟩ := h7 p hp
    exact ⟨x1, x2, x3, x4⟩
  · by_cases h20 : m < 20
    · rw [if_pos h20] at h7
      have := caps_le (c := 3) hH1 ss fun p hp => by
        have := (h7 p hp).2.2.2.2
        omega
      omega
    · rw [if_neg h20] at h7
      have := caps_le (c := 2) hH1 ss fun p hp => (h7 p hp).2.2.2.2
      omega
end LawK01

namespace LawK01
open PySem L2 Am
/-! ### how deep a thing is; == -/
def Sh (n : Nat) (d : PyData) : Prop := d.canLay0 = true ∧ d.depth ≤ n
def ShA (n : Nat) (ds : List PyData) : Prop := PyData.canLayAll0 ds = true ∧ PyData.depthAll ds ≤ n
theorem Sh.int (n : Nat) (i : Int) : Sh n (.int i) := ⟨rfl, Nat.zero_le _⟩
theorem Sh.bool (n : Nat) (i : Bool) : Sh n (.bool i) := ⟨rfl, Nat.zero_le _⟩
theorem Sh.all {n : Nat} : ∀ {ds : List PyData}, (∀ d ∈ ds, Sh n d) → ShA n ds
  | [], _ => ⟨rfl, Nat.zero_le _⟩
  | d :: ds, h => by
    have h1 := h d List.mem_cons_self
    have h2 := Sh.all fun e he => h e (List.mem_cons_of_mem _ he)
    refine ⟨?_, ?_⟩
    · show (d.canLay0 && PyData.canLayAll0 ds) = true
      rw [h1.1, h2.1]
      rfl
    · show max d.depth (PyData.depthAll ds) ≤ n
      exact Nat.max_le.mpr ⟨h1.2, h2.2⟩
theorem Sh.tup {n : Nat} {ds : List PyData} (h : ∀ d ∈ ds, Sh n d) : Sh (n + 1) (.tuple ds) := ⟨(Sh.all h).1, Nat.succ_le_succ (Sh.all h).2⟩
theorem Sh.lst {n : Nat} {ds : List PyData} (h : ∀ d ∈ ds, Sh n d) : Sh (n + 1) (.list ds) := ⟨(Sh.all h).1, Nat.succ_le_succ (Sh.all h).2⟩
theorem Sh.mono {n m : Nat} {d : PyData} (h : Sh n d) (hm : n ≤ m) : Sh m d := ⟨h.1, Nat.le_trans h.2 hm⟩
theorem Sh.shaped {n : Nat} {d : PyData} (h : Sh n d) (hn : n ≤ 64) : SeqAt.shaped d = true := by
  show (d.canLay0 && decide (d.depth ≤ 64)) = true
  rw [h.1, decide_eq_true (Nat.le_trans h.2 hn)]
  rfl
theorem gEq_sh {n : Nat} {d e : PyData} (h : Sh n d) (g : Sh n e) (hn : n ≤ 64) : gEq d e = some (PyData.eqv d e) := by
  unfold gEq
  rw [h.shaped hn, g.shaped hn]
  rfl
theorem gEqA_sh {n : Nat} {d e : PyData} (h : Sh n d) (g : Sh n e) (hn : n ≤ 64) (hs : ∀ x, d ≠ .str x) : gEqA d e = some (PyData.eqv d e) := by
  unfold gEqA
  split
  · exact absurd rfl (hs _)
  · exact gEq_sh h g hn
theorem eqv_int (i j : Int) : PyData.eqv (.int i) (.int j) = decide (i = j) := by
  show (i == j) = _
  by_cases h : i = j <;> simp [h]
theorem gEqA_int (i j : Int) : gEqA (.int i) (.int j) = some (decide (i = j)) := by
  rw [gEqA_sh (Sh.int 0 i) (Sh.int 0 j) (by decide) (fun _ h => by cases h), eqv_int]
theorem gNeA_int (i j : Int) : gNeA (.int i) (.int j) = some (!decide (i = j)) := by
  unfold gNeA
  rw [gEqA_int]
  rfl
theorem gEqA_lnil {n : Nat} {ds : List PyData} (h : ∀ d ∈ ds, Sh n d) (hn : n < 64) : gEqA (.list ds) (.list []) = some (decide (ds = [])) := by
  rw [gEqA_sh (Sh.lst h) (Sh.lst (n := n) (fun _ z => absurd z (by simp))) hn (fun _ h => by cases h)]
  cases ds <;> rfl
theorem gNeA_lnil {n : Nat} {ds : List PyData} (h : ∀ d ∈ ds, Sh n d) (hn : n < 64) : gNeA (.list ds) (.list []) = some (!decide (ds = [])) := by
  unfold gNeA
  rw [gEqA_lnil h hn]
  rfl
theorem gEqA_tnil {n : Nat} {ds : List PyData} (h : ∀ d ∈ ds, Sh n d) (hn : n < 64) : gEqA (.tuple ds) (.tuple []) = some (decide (ds = [])) := by
  rw [gEqA_sh (Sh.tup h) (Sh.tup (n := n) (fun _ z => absurd z (by simp))) hn (fun _ h => by cases h)]
  cases ds <;> rfl
/-! ### timetables -/
theorem Sh.eS (p : Int × Int) : Sh 1 (eS p) := Sh.tup fun d hd => by
  simp at hd
  rcases hd with rfl | rfl <;> exact Sh.int 0 _
theorem Sh.ships (ss : List (Int × Int)) : ∀ d ∈ ss.map LawK01.eS, Sh 1 d := fun d hd => by
  obtain ⟨p, _, rfl⟩ := List.mem_map.mp hd
  exact Sh.eS p
theorem lcL_pure {α : Type} {t : Tgt} {m : M PyData} {vs : List Nat} (enc f : α → PyData) (a : AEnv) (xs : List α) (hz : xs.length ≤ lineN) (h : ∀ x ∈ xs, ∃ b, t.put (enc x) a = some b ∧ m b = some (.ok (f x), b) ∧ wipeA b vs = a) :
    lcL t (M.pure true) m vs (xs.map enc) [] a = some (xs.map f, a) := by
  have q := lcL_map (t := t) (m := m) (vs := vs) enc f a xs [] (by simpa using hz) fun x hx => by
    obtain ⟨b, h1, h2, h3⟩ := h x hx
    exact ⟨b, b, h1, h2, h3⟩
  simpa using q
end LawK01

namespace LawK01
open PySem L2 Am
theorem caps_cons (H : Int) (p : Int × Int) (ss : List (Int × Int)) : caps H (p :: ss) = (p.2 + H - 1) / H + caps H ss := by simp [caps]
theorem ceil_le {H c x : Int} (hH : 1 ≤ H) (h : x ≤ c * H) : (x + H - 1) / H ≤ c := by
  have : (x + H - 1) / H < c + 1 := Int.ediv_lt_of_lt_mul (by omega) (by rw [Int.add_mul]; omega)
  omega
theorem gIxL0 (d : PyData) (ds : List PyData) : gIx (.list (d :: ds)) (.int 0) = some d := by simp [gIx, atI, ixN]
theorem gIxT0 (d : PyData) (ds : List PyData) : gIx (.tuple (d :: ds)) (.int 0) = some d := by simp [gIx, atI, ixN]
theorem gIxT1 (c d : PyData) (ds : List PyData) : gIx (.tuple (c :: d :: ds)) (.int 1) = some d := by
  have : (1 : Int) < (ds.length : Int) + 1 + 1 := by omega
  simp [gIx, atI, ixN, this]
theorem gIxS0 (p : Int × Int) : gIx (eS p) (.int 0) = some (.int p.1) := gIxT0 _ _
theorem gIxS1 (p : Int × Int) : gIx (eS p) (.int 1) = some (.int p.2) := gIxT1 _ _ _
theorem eS_mk (x y : Int) : PyData.tuple [.int x, .int y] = eS (x, y) := rfl
theorem cut1 (d : PyData) (ds : List PyData) : cutD (d :: ds) (some 1) none = ds := by
  have h : min 1 ((ds.length : Int) + 1).toNat = 1 := by omega
  simp [cutD, HT.sIx]
theorem cutFrom (ds : List PyData) (k : Nat) : cutD ds (some (k : Int)) none = ds.drop k := by
  unfold cutD
  rw [HT.sIx_nat, HT.sIx_none]
  by_cases h : k ≤ ds.length
  · rw [Nat.min_eq_left h]
    exact List.take_of_length_le (by simp)
  · rw [Nat.min_eq_right (by omega), List.drop_of_length_le (Nat.le_refl _), List.drop_of_length_le (by omega)]
    simp
theorem cutTo (ds : List PyData) (k : Nat) : cutD ds none (some (k : Int)) = ds.take k := by
  unfold cutD
  rw [HT.sIx_nat, HT.sIx_none, List.drop_zero, Nat.sub_zero]
  by_cases h : k ≤ ds.length
  · rw [Nat.min_eq_left h]
  · rw [Nat.min_eq_right (by omega), List.take_of_length_le (Nat.le_refl _), List.take_of_length_le (by omega)]
end LawK01

namespace LawK01
open PySem L2 Am

/-! ### enumerate over the ships -/
abbrev Shp := (Int × Int) × Nat
def eQ (q : Shp) : PyData := .tuple [.int (q.2 : Int), eS q.1]
theorem enum_zip : ∀ (ss : List (Int × Int)) (k : Nat), enumD k (ss.map eS) = (ss.zipIdx k).map eQ
  | [], _ => rfl
  | p :: ss, k => by
    rw [List.map_cons, enumD, List.zipIdx_cons, List.map_cons, enum_zip ss (k + 1)]
    rfl
theorem zip_mem {ss : List (Int × Int)} {q : Shp} (h : q ∈ ss.zipIdx) : q.1 ∈ ss ∧ q.2 < ss.length := by
  obtain ⟨p, i⟩ := q
  have z := List.mem_zipIdx h
  simp at z
  exact ⟨by rw [z.2]; exact List.getElem_mem _, z.1⟩
def dep (H : Int) (q : Shp) : List Int := [(q.1.1 + q.1.2) % H, 0, -((q.1.1 + q.1.2) / H), q.1.1, (q.2 : Int)]
def arr (q : Shp) : List Int := [q.1.1, 1, 0, q.1.1, (q.2 : Int)]
def evs (H : Int) (ss : List (Int × Int)) : List (List Int) := srtL (ss.zipIdx.map (dep H) ++ ss.zipIdx.map arr)
def ev (l : List Int) : PyData := .tuple [.int (l.getD 0 0), .int (l.getD 1 0), .int (-(l.getD 2 0)), .int (l.getD 4 0)]
theorem logH {H : Int} (h : 1 ≤ H ∧ H ≤ 1000) : H.natAbs.log2 < 9000 := Nat.lt_trans (log2_small (small400 (by omega) (by omega))) (by decide)
def DEI (H : Int) (ss : List (Int × Int)) (pre : List Shp) (st : AEnv) : Prop := ∃ s5 s6 s7 s8 s9, st = [.dat (eT H ss), .dat (.int H), .dat (.tuple (ss.map eS)), .lst ((pre.map (dep H)).map tupOf), .lst ((pre.map arr).map tupOf), s5, s6, s7, s8, s9, .un, .un, .un]
theorem day_loop {H : Int} {ss : List (Int × Int)} (ok : TSh H ss) (s : List Sl) : ∃ st, forL (Tgt.tp [(Tgt.nm 5), (Tgt.tp [(Tgt.nm 6), (Tgt.nm 7)])]) m_day_events_l1 (ss.zipIdx.map eQ) [.dat (eT H ss), .dat (.int H), .dat (.tuple (ss.map eS)), .lst [], .lst [], .un, .un, .un, .un, .un, .un, .un, .un] = some (.ok .nx, st) ∧ DEI H ss ss.zipIdx st := by
  have hH := ok.h1
  have hH2 := ok.h2
  have turn : ∀ (p : List Shp) (x : Shp) (q : List Shp) (b : AEnv), [] ++ ss.zipIdx = p ++ x :: q → DEI H ss p b →
      ∃ b1 b2, (Tgt.tp [(Tgt.nm 5), (Tgt.tp [(Tgt.nm 6), (Tgt.nm 7)])]).put (eQ x) b = some b1 ∧ (m_day_events_l1 b1 = some (.ok .nx, b2) ∨ m_day_events_l1 b1 = some (.ok .ct, b2)) ∧ DEI H ss (p ++ [x]) b2 := by
    rintro p x q b e ⟨s5, s6, s7, s8, s9, rfl⟩
    have hl : p.length < 16777216 := by
      have z := congrArg List.length e
      have := ok.len
      simp at z
      omega
    obtain ⟨⟨h, s⟩, i⟩ := x
    have pos : 0 < H := by omega
    have lg := logH ⟨hH, hH2⟩
    refine ⟨[.dat (eT H ss), .dat (.int H), .dat (.tuple (ss.map eS)), .lst ((p.map (dep H)).map tupOf), .lst ((p.map arr).map tupOf), .dat (.int (i : Int)), .dat (.int h), .dat (.int s), s8, s9, .un, .un, .un], _, by simp [eQ, eS], .inl ?_,
      .dat (.int (i : Int)), .dat (.int h), .dat (.int s), .dat (.int ((h + s) / H)), .dat (.int ((h + s) % H)), rfl⟩
    simp [m_day_events_l1, gAdd, gDivmod, pos, lg, gNeg, lineN, hl, dep, arr, tupOf]
  obtain ⟨st, e, h⟩ := forL_inv (t := Tgt.tp [(Tgt.nm 5), (Tgt.tp [(Tgt.nm 6), (Tgt.nm 7)])]) (body := m_day_events_l1) eQ (DEI H ss) ss.zipIdx [] _ ⟨.un, .un, .un, .un, .un, rfl⟩ turn
  exact ⟨st, e, h⟩
theorem evs_shape {H : Int} {ss : List (Int × Int)} {l : List Int} (h : l ∈ evs H ss) : ∃ a b c d e, l = [a, b, c, d, e] := by
  have z := (isort_perm lexL _).mem_iff.mp h
  rcases List.mem_append.mp z with z | z
  · obtain ⟨q, _, rfl⟩ := List.mem_map.mp z
    exact ⟨_, _, _, _, _, rfl⟩
  · obtain ⟨q, _, rfl⟩ := List.mem_map.mp z
    exact ⟨_, _, _, _, _, rfl⟩
theorem evs_len (H : Int) (ss : List (Int × Int)) : (evs H ss).length = 2 * ss.length := by
  unfold evs
  rw [(isort_perm lexL _).length_eq]
  simp
  omega
theorem sorted_tups {ns : List (List Int)} (h : ∀ n ∈ ns, n ≠ []) : gSorted [.list (ns.map tupOf)] = some (.lst ((srtL ns).map tupOf)) := by
  cases ns with
  | nil => rfl
  | cons n r =>
    unfold gSorted
    have e : intsD ((n :: r).map tupOf) = none := rfl
    simp only [e, tupsInts_map h, Option.map_some]
theorem fnD_ret {n : Nat} {body : M Fl} {ds : List PyData} {s : Sl} (h : ∃ a', body (startA n (ds.map Sl.dat)) = some (.ok (.ret s), a')) : fnD n body ds = some (.ok s) := by
  obtain ⟨a', h⟩ := h
  unfold fnD
  rw [h] <;> rfl
theorem day_spec {H : Int} {ss : List (Int × Int)} (ok : TSh H ss) : F_day_events [eT H ss] = some (.ok (.lst ((evs H ss).map ev))) := by
  obtain ⟨st, e, s5, s6, s7, s8, s9, rfl⟩ := day_loop ok []
  have hlen := ok.len
  have hl2 : ss.length + ss.length ≤ 16777216 := by omega
  have srt : gSorted [.list ((ss.zipIdx.map (dep H)).map tupOf ++ (ss.zipIdx.map arr).map tupOf)] = some (.lst ((evs H ss).map tupOf)) := by
    rw [← List.map_append, sorted_tups]
    · rfl
    · intro n hn
      rcases List.mem_append.mp hn with z | z
      · obtain ⟨q, _, rfl⟩ := List.mem_map.mp z
        exact fun z => nomatch z
      · obtain ⟨q, _, rfl⟩ := List.mem_map.mp z
        exact fun z => nomatch z
  have cmp := lcL_pure (t := Tgt.tp [Tgt.nm 6, Tgt.nm 10, Tgt.nm 11, Tgt.nm 12, Tgt.nm 5]) (m := m_day_events_l0) (vs := [6, 10, 11, 12, 5]) tupOf ev
    [.dat (eT H ss), .dat (.int H), .dat (.tuple (ss.map eS)), .lst ((ss.zipIdx.map (dep H)).map tupOf), .lst ((ss.zipIdx.map arr).map tupOf), .un, .un, s7, s8, s9, .un, .un, .un] (evs H ss)
    (by rw [evs_len]; simp [lineN]; omega) fun l hl => by
      obtain ⟨a, b, c, d, f, rfl⟩ := evs_shape hl
      refine ⟨[.dat (eT H ss), .dat (.int H), .dat (.tuple (ss.map eS)), .lst ((ss.zipIdx.map (dep H)).map tupOf), .lst ((ss.zipIdx.map arr).map tupOf), .dat (.int f), .dat (.int a), s7, s8, s9, .dat (.int b), .dat (.int c), .dat (.int d)], ?_, ?_, ?_⟩
      · simp [tupOf]
      · simp [m_day_events_l0, gNeg, lineN, ev]
      · simp [wipeA]
  refine fnD_ret ?_
  simp only [m_day_events, startA]
  simp only [eT] at e cmp
  simp [-List.map_map, eT, lineN, put2, enum_zip, e, gPlus, gCat, hl2, srt, mLc_app, wipeA, cmp]
end LawK01

namespace LawK01
open PySem L2 Am

theorem gEq_int (i j : Int) : gEq (.int i) (.int j) = some (decide (i = j)) := by
  have h1 : SeqAt.shaped (.int i) = true := rfl
  have h2 : SeqAt.shaped (.int j) = true := rfl
  unfold gEq
  rw [h1, h2]
  simp [PyData.eqv]
  rfl
theorem k_ii : kitB "int" "int" = some true := by first | rfl | decide +kernel
theorem k_ib : kitB "int" "bool" = some false := by first | rfl | decide +kernel
theorem k_tt : kitB "tuple" "tuple" = some true := by first | rfl | decide +kernel
theorem is_int_spec (v : Int) : F_is_int [.int v] = some (.ok (.dat (.bool true))) := by
  refine fnD_ret ?_
  simp [m_is_int, startA, isiD, tyD, k_ii, k_ib]
theorem in_range_spec (v l h : Int) : F_in_range [.int v, .int l, .int h] = some (.ok (.dat (.bool (decide (l ≤ v) && decide (v ≤ h))))) := by
  refine fnD_ret ?_
  by_cases h1 : l ≤ v
  · simp [m_in_range, startA, is_int_spec, gLe, gCmp, h1]
  · simp [m_in_range, startA, is_int_spec, gLe, gCmp, h1]
/-! ### counts -/
def stepI (l : List Int) : Int := if l.getD 1 0 = 1 then 1 else -1
def tot (a : Int) (ls : List (List Int)) : Int := a + (ls.map stepI).sum
def cnt (a : Int) : List (List Int) → List Int
  | [] => []
  | l :: ls => (a + stepI l) :: cnt (a + stepI l) ls
theorem cnt_append (a : Int) : ∀ (p q : List (List Int)), cnt a (p ++ q) = cnt a p ++ cnt (tot a p) q
  | [], q => by simp [cnt, tot]
  | l :: p, q => by
    rw [List.cons_append, cnt, cnt_append (a + stepI l) p q, cnt, List.cons_append]
    congr 3
    simp [tot]
    omega
theorem cnt_len (a : Int) : ∀ p : List (List Int), (cnt a p).length = p.length
  | [] => rfl
  | l :: p => by rw [cnt, List.length_cons, List.length_cons, cnt_len]
def mid (H : Int) (ss : List (Int × Int)) : Int := (ss.map fun p => (p.1 + p.2) / H).sum
def MII (H : Int) (ss : List (Int × Int)) (pre : List (Int × Int)) (st : AEnv) : Prop := ∃ s4 s5 s6, st = [.dat (eT H ss), .dat (.int (mid H pre)), .dat (.int H), .dat (.tuple (ss.map eS)), s4, s5, s6]
theorem mid_spec {H : Int} {ss : List (Int × Int)} (ok : TSh H ss) : F_count_at_midnight [eT H ss] = some (.ok (.dat (.int (mid H ss)))) := by
  have pos : 0 < H := by have := ok.h1; omega
  have lg := logH ⟨ok.h1, ok.h2⟩
  have turn : ∀ (p : List (Int × Int)) (x : Int × Int) (q : List (Int × Int)) (b : AEnv), [] ++ ss = p ++ x :: q → MII H ss p b →
      ∃ b1 b2, (Tgt.tp [(Tgt.nm 4), (Tgt.nm 5)]).put (eS x) b = some b1 ∧ (m_count_at_midnight_l0 b1 = some (.ok .nx, b2) ∨ m_count_at_midnight_l0 b1 = some (.ok .ct, b2)) ∧ MII H ss (p ++ [x]) b2 := by
    rintro p ⟨h, s⟩ q b e ⟨s4, s5, s6, rfl⟩
    refine ⟨[.dat (eT H ss), .dat (.int (mid H p)), .dat (.int H), .dat (.tuple (ss.map eS)), .dat (.int h), .dat (.int s), s6], _, by simp [eS], .inl ?_, .dat (.int h), .dat (.int s), .dat (.int ((h + s) / H)), rfl⟩
    simp [m_count_at_midnight_l0, gAdd, gDiv, gI, cDiv, pos, lg, gAddI, gI0, mid]
  obtain ⟨st, e, s4, s5, s6, rfl⟩ := forL_inv (t := Tgt.tp [(Tgt.nm 4), (Tgt.nm 5)]) (body := m_count_at_midnight_l0) eS (MII H ss) ss [] [.dat (eT H ss), .dat (.int 0), .dat (.int H), .dat (.tuple (ss.map eS)), .un, .un, .un] ⟨.un, .un, .un, rfl⟩ turn
  refine fnD_ret ?_
  simp only [eT] at e
  simp [m_count_at_midnight, startA, eT, e]
def CNI (H : Int) (ss : List (Int × Int)) (pre : List (List Int)) (st : AEnv) : Prop := ∃ s3 s4 s5 s6, st = [.dat (eT H ss), .dat (.int (tot (mid H ss) pre)), .lst ((cnt (mid H ss) pre).map PyData.int), s3, s4, s5, s6]
theorem counts_spec {H : Int} {ss : List (Int × Int)} (ok : TSh H ss) : F_counts [eT H ss] = some (.ok (.lst ((cnt (mid H ss) (evs H ss)).map PyData.int))) := by
  have hlen := evs_len H ss
  have hl2 := ok.len
  have turn : ∀ (p : List (List Int)) (x : List Int) (q : List (List Int)) (b : AEnv), [] ++ evs H ss = p ++ x :: q → CNI H ss p b →
      ∃ b1 b2, (Tgt.tp [(Tgt.nm 3), (Tgt.nm 4), (Tgt.nm 5), (Tgt.nm 6)]).put (ev x) b = some b1 ∧ (m_counts_l0 b1 = some (.ok .nx, b2) ∨ m_counts_l0 b1 = some (.ok .ct, b2)) ∧ CNI H ss (p ++ [x]) b2 := by
    rintro p x q b e ⟨s3, s4, s5, s6, rfl⟩
    have z : evs H ss = p ++ x :: q := e
    obtain ⟨a, k, c, d, f, rfl⟩ := evs_shape (H := H) (ss := ss) (l := x) (by simp [z])
    have hl : p.length < 16777216 := by
      have z := congrArg List.length e
      simp at z
      omega
    refine ⟨[.dat (eT H ss), .dat (.int (tot (mid H ss) p)), .lst ((cnt (mid H ss) p).map PyData.int), .dat (.int a), .dat (.int k), .dat (.int (-c)), .dat (.int f)], _, by simp [ev], .inl ?_, .dat (.int a), .dat (.int k), .dat (.int (-c)), .dat (.int f), rfl⟩
    by_cases hk : k = 1
    · subst hk
      simp [m_counts_l0, gEqA_int, gAddI, gI0, cnt_append, cnt_len, hl, lineN, cnt, tot, stepI, Int.add_assoc]
    · simp [m_counts_l0, gEqA_int, hk, gNeg, gAddI, gI0, cnt_append, cnt_len, hl, lineN, cnt, tot, stepI, Int.add_assoc]
  obtain ⟨st, e, s3, s4, s5, s6, rfl⟩ := forL_inv (t := Tgt.tp [(Tgt.nm 3), (Tgt.nm 4), (Tgt.nm 5), (Tgt.nm 6)]) (body := m_counts_l0) ev (CNI H ss) (evs H ss) [] [.dat (eT H ss), .dat (.int (mid H ss)), .lst [], .un, .un, .un, .un] ⟨.un, .un, .un, .un, by simp [tot, cnt]⟩ turn
  refine fnD_ret ?_
  simp [m_counts, startA, mid_spec ok, day_spec ok, lineN, e]
theorem peak_of_spec {H : Int} {ss : List (Int × Int)} (ok : TSh H ss) : F_peak_of [eT H ss] = some (.ok (.dat (.int ((maxI (cnt (mid H ss) (evs H ss))).getD 0)))) := by
  refine fnD_ret ?_
  simp [m_peak_of, startA, counts_spec ok, gMxD, intsD_map]
end LawK01

namespace LawK01
open PySem L2 Am

theorem is_ship_spec {H : Int} {p : Int × Int} (h : 0 ≤ p.1 ∧ p.1 < H ∧ 1 ≤ p.2 ∧ p.2 ≤ 10000) : F_is_ship [.int H, eS p] = some (.ok (.dat (.bool true))) := by
  obtain ⟨x, y⟩ := p
  obtain ⟨h1, h2, h3, h4⟩ := h
  have h2' : x ≤ H - 1 := by
    have : x < H := h2
    omega
  refine fnD_ret ?_
  simp at h1 h3 h4
  simp [m_is_ship, startA, isiD, tyD, k_tt, eS, gLen, gNeA, gEqA_int, lineN, gIx, atI, ixN, gI0, in_range_spec, h1, h2', h3, h4]
end LawK01

namespace LawK01
open PySem L2 Am
theorem tot_cons (a : Int) (l : List Int) (p : List (List Int)) : tot a (l :: p) = tot (a + stepI l) p := by
  simp [tot]
  omega
theorem zip_map {β : Type} (f : Int × Int → β) : ∀ (ss : List (Int × Int)) (k : Nat), (ss.zipIdx k).map (fun q => f q.1) = ss.map f
  | [], _ => rfl
  | p :: ss, k => by rw [List.zipIdx_cons, List.map_cons, List.map_cons, zip_map f ss (k + 1)]
theorem sum_add {α : Type} (f g : α → Int) : ∀ xs : List α, (xs.map fun x => f x + g x).sum = (xs.map f).sum + (xs.map g).sum
  | [] => rfl
  | x :: xs => by simp only [List.map_cons, List.sum_cons, sum_add f g xs]; omega
theorem sum_le {α : Type} (f g : α → Int) : ∀ xs : List α, (∀ x ∈ xs, f x ≤ g x) → (xs.map f).sum ≤ (xs.map g).sum
  | [], _ => Int.le_refl _
  | x :: xs, h => by
    have h1 := h x List.mem_cons_self
    have h2 := sum_le f g xs fun y hy => h y (List.mem_cons_of_mem _ hy)
    simp only [List.map_cons, List.sum_cons]
    omega
theorem sum_perm {X Y : List Int} (p : X.Perm Y) : X.sum = Y.sum := by
  induction p with
  | nil => rfl
  | cons x _ ih => simp only [List.sum_cons, ih]
  | swap x y l => simp only [List.sum_cons]; omega
  | trans _ _ h1 h2 => exact h1.trans h2
theorem sum_filter (f : List Int → Int) (P : List Int → Bool) : ∀ X : List (List Int), ((X.filter P).map f).sum = (X.map fun l => if P l = true then f l else 0).sum
  | [] => rfl
  | l :: X => by
    rw [List.filter_cons]
    by_cases h : P l = true
    · rw [if_pos h]
      simp only [List.map_cons, List.sum_cons, sum_filter f P X, if_pos h]
    · rw [if_neg h]
      simp only [List.map_cons, List.sum_cons, sum_filter f P X, if_neg h]
      omega
theorem time_le : ∀ {a b : List Int}, a ≠ [] → b ≠ [] → lexL b a = false → a.getD 0 0 ≤ b.getD 0 0
  | [], _, h, _, _ => absurd rfl h
  | _ :: _, [], _, h, _ => absurd rfl h
  | x :: a, y :: b, _, _, h => by
    unfold lexL at h
    show x ≤ y
    by_cases e : y = x
    · omega
    · rw [if_neg e] at h
      have := of_decide_eq_false h
      omega
theorem div_facts {H h s : Int} (hH : 1 ≤ H) (h0 : 0 ≤ h ∧ h < H) (hs : 1 ≤ s) : h + s = (h + s) / H * H + (h + s) % H ∧ 0 ≤ (h + s) % H ∧ (h + s) % H < H ∧ 0 ≤ (h + s) / H ∧ (h + s) / H ≤ 1 + s / H := by
  have e := Int.mul_ediv_add_emod (h + s) H
  have r1 := Int.emod_nonneg (h + s) (show H ≠ 0 by omega)
  have r2 := Int.emod_lt_of_pos (h + s) (show (0 : Int) < H by omega)
  have q1 : 0 ≤ (h + s) / H := Int.ediv_nonneg (by omega) (by omega)
  refine ⟨by rw [Int.mul_comm]; omega, r1, r2, q1, ?_⟩
  have : ((h + s) / H - 1) * H ≤ s := by
    rw [Int.sub_mul, Int.one_mul, Int.mul_comm]
    omega
  have := (Int.le_ediv_iff_mul_le (by omega : (0 : Int) < H)).mpr this
  omega
theorem cnt_mem {v : Int} : ∀ {E : List (List Int)} {a : Int}, v ∈ cnt a E → ∃ p x r, E = p ++ x :: r ∧ v = tot a (p ++ [x])
  | [], a, h => by cases h
  | l :: E, a, h => by
    rw [cnt] at h
    rcases List.mem_cons.mp h with rfl | h
    · exact ⟨[], l, E, rfl, by simp [tot]⟩
    · obtain ⟨p, x, r, rfl, e⟩ := cnt_mem h
      exact ⟨l :: p, x, r, rfl, by rw [e, List.cons_append, tot_cons]⟩
theorem zip_nodup (ss : List (Int × Int)) : (ss.zipIdx.map fun q : Shp => (q.2 : Int)).Nodup := by
  have e : ∀ (ss : List (Int × Int)) (k : Nat), (ss.zipIdx k).map (fun q : Shp => (q.2 : Int)) = (List.range' k ss.length).map fun n : Nat => (n : Int) := fun ss => by
    induction ss with
    | nil => intro k; rfl
    | cons p ss ih =>
      intro k
      rw [List.zipIdx_cons, List.map_cons, ih (k + 1)]
      rfl
  rw [e]
  exact List.Pairwise.map _ (fun a b h => by omega) (List.nodup_range' (step := 1) (by omega))
theorem evs_nodup (H : Int) (ss : List (Int × Int)) : (evs H ss).Nodup := by
  unfold evs
  refine (isort_perm lexL _).nodup_iff.mpr ?_
  have n1 : (ss.zipIdx.map (dep H)).Nodup := by
    have z : ((ss.zipIdx.map (dep H)).map fun l => l.getD 4 0).Nodup := by
      rw [List.map_map]
      exact zip_nodup ss
    exact (List.pairwise_map.mp z).imp fun h e => h (by rw [e])
  have n2 : (ss.zipIdx.map arr).Nodup := by
    have z : ((ss.zipIdx.map arr).map fun l => l.getD 4 0).Nodup := by
      rw [List.map_map]
      exact zip_nodup ss
    exact (List.pairwise_map.mp z).imp fun h e => h (by rw [e])
  refine List.nodup_append.mpr ⟨n1, n2, fun a ha b hb e => ?_⟩
  obtain ⟨q, _, rfl⟩ := List.mem_map.mp ha
  obtain ⟨q', _, rfl⟩ := List.mem_map.mp hb
  have z := congrArg (fun l : List Int => l.getD 1 0) e
  exact absurd z (by show ¬ (0 : Int) = 1; decide)
theorem prefix_filter {p r : List (List Int)} {x : List Int} (asc : Asc lexL (p ++ x :: r)) (nd : (p ++ x :: r).Nodup) : (p ++ x :: r).filter (fun l => !lexL x l) = p ++ [x] := by
  obtain ⟨_, a2, a3⟩ := List.pairwise_append.mp asc
  obtain ⟨a4, _⟩ := List.pairwise_cons.mp a2
  obtain ⟨_, n2, _⟩ := List.nodup_append.mp nd
  obtain ⟨n4, _⟩ := List.nodup_cons.mp n2
  rw [List.filter_append, List.filter_cons, if_pos (by rw [lexL_irr]; rfl)]
  have e1 : p.filter (fun l => !lexL x l) = p := List.filter_eq_self.mpr fun l hl => by rw [a3 l hl x List.mem_cons_self]; rfl
  have e2 : r.filter (fun l => !lexL x l) = [] := List.filter_eq_nil_iff.mpr fun l hl z => by
    have z2 : lexL x l = false := by simpa using z
    have := lexL_anti z2 (a4 l hl)
    exact n4 (this ▸ hl)
  rw [e1, e2]
def wS (H : Int) (x : List Int) (q : Shp) : Int := (q.1.1 + q.1.2) / H + ((if (!lexL x (dep H q)) = true then (-1 : Int) else 0) + (if (!lexL x (arr q)) = true then (1 : Int) else 0))
theorem wS_bound {H : Int} (x : List Int) {q : Shp} (hH : 1 ≤ H) (hq : 0 ≤ q.1.1 ∧ q.1.1 < H ∧ 1 ≤ q.1.2 ∧ q.1.2 ≤ 10000) : 0 ≤ wS H x q ∧ wS H x q ≤ (q.1.2 + H - 1) / H := by
  obtain ⟨e, r1, r2, q1, _⟩ := div_facts hH ⟨hq.1, hq.2.1⟩ hq.2.2.1
  unfold wS
  by_cases c : (q.1.1 + q.1.2) % H ≤ q.1.1
  · -- it departs first
    have da : lexL (arr q) (dep H q) = false := by
      unfold arr dep lexL
      by_cases c2 : q.1.1 = (q.1.1 + q.1.2) % H
      · rw [if_pos c2]
        rfl
      · rw [if_neg c2]
        exact decide_eq_false (by omega)
    have D1 : 1 ≤ (q.1.1 + q.1.2) / H := by
      rcases Int.lt_or_le ((q.1.1 + q.1.2) / H) 1 with z | z
      · have z0 : (q.1.1 + q.1.2) / H = 0 := by omega
        rw [z0, Int.zero_mul] at e
        omega
      · exact z
    have cl : (q.1.1 + q.1.2) / H ≤ (q.1.2 + H - 1) / H := (Int.le_ediv_iff_mul_le (by omega : (0 : Int) < H)).mpr (by omega)
    by_cases ha : lexL x (arr q) = true
    · rw [ha]
      simp only [Bool.not_true, Bool.false_eq_true, if_false]
      split <;> omega
    · have ha' : lexL x (arr q) = false := by simpa using ha
      have hd := lexL_tr (a := dep H q) (b := arr q) (c := x) da ha'
      rw [ha', hd]
      simp only [Bool.not_false, if_true]
      omega
  · have da : lexL (dep H q) (arr q) = false := by
      unfold arr dep lexL
      rw [if_neg (by omega)]
      exact decide_eq_false (by omega)
    have cl : (q.1.1 + q.1.2) / H + 1 ≤ (q.1.2 + H - 1) / H := (Int.le_ediv_iff_mul_le (by omega : (0 : Int) < H)).mpr (by rw [Int.add_mul, Int.one_mul]; omega)
    by_cases hd : lexL x (dep H q) = true
    · rw [hd]
      simp only [Bool.not_true, Bool.false_eq_true, if_false]
      split <;> omega
    · have hd' : lexL x (dep H q) = false := by simpa using hd
      have ha := lexL_tr (a := arr q) (b := dep H q) (c := x) da hd'
      rw [ha, hd']
      simp only [Bool.not_false, if_true]
      omega
theorem cnt_bound {H : Int} {ss : List (Int × Int)} (ok : TOk H ss) {v : Int} (h : v ∈ cnt (mid H ss) (evs H ss)) : 0 ≤ v ∧ v ≤ 60 := by
  obtain ⟨p, x, r, e, rfl⟩ := cnt_mem h
  have asc : Asc lexL (evs H ss) := isort_asc (lt := lexL) (fun _ _ => lexL_asym) (fun _ _ _ => lexL_tr) _
  have pf := prefix_filter (e ▸ asc) (e ▸ evs_nodup H ss)
  rw [← e] at pf
  have val : tot (mid H ss) (p ++ [x]) = (ss.zipIdx.map (wS H x)).sum := by
    unfold tot
    rw [← pf, sum_filter]
    have pm : (evs H ss).Perm (ss.zipIdx.map (dep H) ++ ss.zipIdx.map arr) := isort_perm lexL _
    rw [sum_perm (pm.map _), List.map_append, List.sum_append, List.map_map, List.map_map]
    unfold mid
    rw [← zip_map (fun p => (p.1 + p.2) / H) ss 0]
    unfold wS
    rw [sum_add, sum_add]
    rfl
  rw [val]
  have b : ∀ q ∈ ss.zipIdx, 0 ≤ wS H x q ∧ wS H x q ≤ (q.1.2 + H - 1) / H := fun q hq => wS_bound x ok.h1 (ok.ship _ (zip_mem hq).1)
  constructor
  · have := sum_le (fun _ : Shp => (0 : Int)) (wS H x) ss.zipIdx fun q hq => (b q hq).1
    have z : ∀ xs : List Shp, (xs.map fun _ => (0 : Int)).sum = 0 := fun xs => by
      induction xs with
      | nil => rfl
      | cons _ xs ih => rw [List.map_cons, List.sum_cons, ih]; rfl
    rw [z] at this
    exact this
  · have h1 := sum_le (wS H x) (fun q : Shp => (q.1.2 + H - 1) / H) ss.zipIdx fun q hq => (b q hq).2
    have h2 := ok.cap
    unfold caps at h2
    rw [← zip_map (fun p => (p.2 + H - 1) / H) ss 0] at h2
    exact Int.le_trans h1 h2
theorem peak_ok {H : Int} {ss : List (Int × Int)} (ok : TOk H ss) : (maxI (cnt (mid H ss) (evs H ss))).getD 0 ≤ 60 := by
  cases e : maxI (cnt (mid H ss) (evs H ss)) with
  | none => decide
  | some m => exact (cnt_bound ok (maxI_spec e).1).2

end LawK01

namespace LawK01
open PySem L2 Am
/-! ### the circle -/
def pkOf (H : Int) (ss : List (Int × Int)) : Int := (maxI (cnt (mid H ss) (evs H ss))).getD 0
theorem evs_sum (H : Int) (ss : List (Int × Int)) : ((evs H ss).map stepI).sum = 0 := by
  have p : (evs H ss).Perm (ss.zipIdx.map (dep H) ++ ss.zipIdx.map arr) := isort_perm lexL _
  rw [sum_perm (p.map stepI), List.map_append, List.sum_append, List.map_map, List.map_map]
  have e1 : ∀ xs : List Shp, (xs.map (stepI ∘ dep H)).sum = -(xs.length : Int) := fun xs => by
    induction xs with
    | nil => rfl
    | cons x r ih =>
      rw [List.map_cons, List.sum_cons, ih, List.length_cons]
      have : (stepI ∘ dep H) x = -1 := by simp [stepI, dep]
      rw [this]
      omega
  have e2 : ∀ xs : List Shp, (xs.map (stepI ∘ arr)).sum = (xs.length : Int) := fun xs => by
    induction xs with
    | nil => rfl
    | cons x r ih =>
      rw [List.map_cons, List.sum_cons, ih, List.length_cons]
      have : (stepI ∘ arr) x = 1 := by simp [stepI, arr]
      rw [this]
      omega
  rw [e1, e2]
  omega
theorem tot_append (a : Int) (p q : List (List Int)) : tot a (p ++ q) = tot a p + (q.map stepI).sum := by
  unfold tot
  rw [List.map_append, List.sum_append]
  omega
theorem cnt_get (a : Int) : ∀ (p : List (List Int)) (j : Nat), j < p.length → (cnt a p)[j]? = some (tot a (p.take (j + 1)))
  | l :: p, 0, _ => by simp [cnt, tot]
  | l :: p, j + 1, h => by
    rw [cnt, List.getElem?_cons_succ, cnt_get (a + stepI l) p j (by simpa using h), List.take_succ_cons, tot_cons]
theorem maxI_some {L : List Int} (h : L ≠ []) : ∃ m, maxI L = some m := by
  cases L with
  | nil => exact absurd rfl h
  | cons a r => exact maxI_ne a r
theorem evs_ne {H : Int} {ss : List (Int × Int)} (h : ss ≠ []) : 0 < (evs H ss).length := by
  rw [evs_len]
  have := List.length_pos_iff.mpr h
  omega
theorem cnt_ne {H : Int} {ss : List (Int × Int)} (h : ss ≠ []) : cnt (mid H ss) (evs H ss) ≠ [] := fun e => by
  have := evs_ne (H := H) h
  have z := cnt_len (mid H ss) (evs H ss)
  rw [e, List.length_nil] at z
  omega
theorem pk_max {H : Int} {ss : List (Int × Int)} (h : ss ≠ []) : maxI (cnt (mid H ss) (evs H ss)) = some (pkOf H ss) := by
  obtain ⟨m, e⟩ := maxI_some (cnt_ne (H := H) h)
  unfold pkOf
  rw [e]
  rfl
/-- the number present at a moment of the day is at most the peak -/
theorem lvl_le {H : Int} {ss : List (Int × Int)} (h : ss ≠ []) (j : Nat) (hj : j ≤ (evs H ss).length) : tot (mid H ss) ((evs H ss).take j) ≤ pkOf H ss := by
  have le := (maxI_spec (pk_max (H := H) h)).2
  have hn := evs_ne (H := H) h
  cases j with
  | zero =>
    have e : tot (mid H ss) ((evs H ss).take ((evs H ss).length - 1 + 1)) = mid H ss := by
      rw [List.take_of_length_le (by omega)]
      unfold tot
      rw [evs_sum]
      omega
    have := le _ (List.mem_of_getElem? (cnt_get (mid H ss) (evs H ss) ((evs H ss).length - 1) (by omega)))
    rw [e] at this
    simpa [tot] using this
  | succ j => exact le _ (List.mem_of_getElem? (cnt_get (mid H ss) (evs H ss) j (by omega)))
def isTop (H : Int) (ss : List (Int × Int)) (p : List Int × Int) : Bool := decide (p.1.getD 1 0 = 1) && decide (p.2 = pkOf H ss)
def eC (H : Int) (ss : List (Int × Int)) : List (List Int × Int) := (evs H ss).zip (cnt (mid H ss) (evs H ss))
theorem step_cases {l : List Int} : stepI l = 1 ∧ l.getD 1 0 = 1 ∨ stepI l = -1 ∧ l.getD 1 0 ≠ 1 := by
  unfold stepI
  by_cases h : l.getD 1 0 = 1
  · exact .inl ⟨if_pos h, h⟩
  · exact .inr ⟨if_neg h, h⟩
theorem top_some {H : Int} {ss : List (Int × Int)} (h : ss ≠ []) : ∃ x ∈ eC H ss, isTop H ss x = true := by
  obtain ⟨hm, _⟩ := maxI_spec (pk_max (H := H) h)
  obtain ⟨j, hj⟩ := List.mem_iff_getElem?.mp hm
  have hjl : j < (evs H ss).length := by
    have := (List.getElem?_eq_some_iff.mp hj).1
    rwa [cnt_len] at this
  have hv := cnt_get (mid H ss) (evs H ss) j hjl
  rw [hj] at hv
  have hv := Option.some.inj hv
  have hE : (evs H ss)[j]? = some (evs H ss)[j] := by simp [hjl]
  rcases step_cases (l := (evs H ss)[j]) with ⟨_, k⟩ | ⟨k, _⟩
  · refine ⟨((evs H ss)[j], pkOf H ss), List.mem_of_getElem? (i := j) ?_, by simp only [isTop, k]; simp⟩
    unfold eC
    rw [List.getElem?_zip_eq_some]
    exact ⟨hE, hj⟩
  · exfalso
    have z := lvl_le (H := H) h j (by omega)
    rw [List.take_succ_eq_append_getElem hjl, tot_append] at hv
    simp [k] at hv
    omega
def fi (H : Int) (ss : List (Int × Int)) : Nat := (eC H ss).findIdx (isTop H ss)
theorem fi_lt {H : Int} {ss : List (Int × Int)} (h : ss ≠ []) : fi H ss < (evs H ss).length := by
  have z := List.findIdx_lt_length_of_exists (top_some (H := H) h)
  have l : (eC H ss).length = (evs H ss).length := by simp [eC, cnt_len]
  unfold fi
  omega
theorem fi_top {H : Int} {ss : List (Int × Int)} (h : ss ≠ []) : ((evs H ss)[fi H ss]'(fi_lt h)).getD 1 0 = 1 ∧ tot (mid H ss) ((evs H ss).take (fi H ss + 1)) = pkOf H ss := by
  have z := List.findIdx_lt_length_of_exists (top_some (H := H) h)
  have g : isTop H ss (eC H ss)[fi H ss] = true := List.findIdx_getElem (w := z)
  have hc := cnt_get (mid H ss) (evs H ss) (fi H ss) (fi_lt h)
  have e : (eC H ss)[fi H ss]? = some ((evs H ss)[fi H ss]'(fi_lt h), tot (mid H ss) ((evs H ss).take (fi H ss + 1))) := by
    unfold eC
    rw [List.getElem?_zip_eq_some]
    exact ⟨by simp [fi_lt h], hc⟩
  have e2 : (eC H ss)[fi H ss] = ((evs H ss)[fi H ss]'(fi_lt h), tot (mid H ss) ((evs H ss).take (fi H ss + 1))) := by
    have : (eC H ss)[fi H ss]? = some (eC H ss)[fi H ss] := List.getElem?_eq_getElem z
    rw [this] at e
    exact Option.some.inj e
  rw [e2] at g
  simp only [isTop, Bool.and_eq_true, decide_eq_true_eq] at g
  exact g
abbrev CE := Int × List Int
def cE (e : CE) : PyData := .tuple [.int e.1, .int (e.2.getD 1 0), .int (-(e.2.getD 2 0)), .int (e.2.getD 4 0)]
def cir (H : Int) (ss : List (Int × Int)) : List CE := ((evs H ss).drop (fi H ss + 1)).map (fun l => (0, l)) ++ ((evs H ss).take (fi H ss + 1)).map (fun l => (1, l))
theorem cir_len {H : Int} {ss : List (Int × Int)} : (cir H ss).length = (evs H ss).length := by
  unfold cir
  simp
  omega
end LawK01

namespace LawK01
open PySem L2 Am
theorem flat_bools {α : Type} (f : α → Bool) : ∀ xs : List α, (xs.map fun x => PyData.bool (f x)).all flatD = true
  | [] => rfl
  | x :: xs => by
    rw [List.map_cons, List.all_cons, flat_bools f xs]
    rfl
theorem index_true {α : Type} (f : α → Bool) (xs : List α) (h : ∃ x ∈ xs, f x = true) : gIndex (.list (xs.map fun x => PyData.bool (f x))) [.bool true] = some (.int (xs.findIdx f : Nat)) := by
  have e : idxD (.bool true) (xs.map fun x => PyData.bool (f x)) = some (xs.findIdx f) := by
    unfold idxD
    rw [List.findIdx?_map]
    have g : ((fun z => PyData.eqv z (.bool true)) ∘ fun x => PyData.bool (f x)) = f := by
      funext x
      show ((f x) == true) = f x
      cases f x <;> rfl
    rw [g]
    exact List.findIdx?_eq_some_of_exists h
  show (if flatD (.bool true) && (xs.map fun x => PyData.bool (f x)).all flatD then (idxD (.bool true) (xs.map fun x => PyData.bool (f x))).map fun j => PyData.int (j : Nat) else none) = _
  rw [flat_bools, e]
  rfl
def enP (p : List Int × Int) : PyData := .tuple [ev p.1, .int p.2]
theorem zipD_map : ∀ (xs : List (List Int)) (ys : List Int), zipD (xs.map ev) (ys.map PyData.int) = (xs.zip ys).map enP
  | [], _ => by simp [zipD]
  | _ :: _, [] => by simp [zipD]
  | x :: xs, y :: ys => by
    have ih := zipD_map xs ys
    unfold zipD at ih ⊢
    rw [List.map_cons, List.map_cons, List.zipWith_cons_cons, ih, List.zip_cons_cons, List.map_cons]
    rfl
theorem gMax1_ints {L : List Int} {m : Int} (h : maxI L = some m) : gMax1 [.list (L.map PyData.int)] = some (.int m) := by
  simp only [gMax1, intsD_map]
  simp [h]
end LawK01

namespace LawK01
open PySem L2 Am
/-! ### what is done along the circle -/
def kindOf (e : CE) : Int := e.2.getD 1 0
def nagoOf (e : CE) : Int := e.2.getD 2 0
def shipOf (e : CE) : Int := e.2.getD 4 0
def isA (e : CE) : Bool := decide (kindOf e = 1)
def bas : Int → List CE → List Int
  | _, [] => []
  | f, e :: es => if isA e = true then f :: bas (f - 1) es else bas (f + 1) es
def putA (acc : List (Int × Int × Int)) (k : Int) (v : Int × Int) : List (Int × Int × Int) := if (acc.any fun x => decide (x.1 = k)) = true then acc.map (fun x => if x.1 = k then (x.1, v) else x) else acc ++ [(k, v)]
def getA (acc : List (Int × Int × Int)) (k : Int) : Option (Int × Int) := (acc.find? fun x => decide (x.1 = k)).map (·.2)
def pop1 {α : Type} (l : List α) (c : Int) : Option (α × List α) := if decide (-(2 ^ 63) ≤ c) && decide (c < 2 ^ 63) then (seqIndex? c l.length).bind fun j => l[j]?.map fun x => (x, l.eraseIdx j) else none
structure FS where
  free : List (Int × Int)
  left : List Int
  acc : List (Int × Int × Int)
def folS (e : CE) (s : FS) : Option FS :=
  if isA e = true then match s.left with
    | [] => none
    | c :: left => (pop1 s.free c).map fun r => ⟨r.2, left, putA s.acc r.1.1 (shipOf e, e.1 - r.1.2)⟩
  else some ⟨s.free ++ [(shipOf e, e.1 + nagoOf e)], s.left, s.acc⟩
def fol : List CE → FS → Option FS
  | [], s => some s
  | e :: es, s => (folS e s).bind (fol es)
theorem fol_append : ∀ (p q : List CE) (s : FS), fol (p ++ q) s = (fol p s).bind (fol q)
  | [], q, s => rfl
  | e :: p, q, s => by
    rw [List.cons_append, fol, fol]
    cases folS e s with
    | none => rfl
    | some s' => exact fol_append p q s'
def eA (x : Int × Int × Int) : Key × PyData := (.inl x.1, eS x.2)
theorem valP_eA (k : Int) : ∀ acc : List (Int × Int × Int), valP (acc.map eA) (.inl k) = (getA acc k).map eS
  | [] => rfl
  | x :: acc => by
    rw [List.map_cons]
    by_cases h : x.1 = k
    · rw [valP_pos (p := eA x) (by show Sum.inl x.1 = _; rw [h])]
      simp [getA, h, eA]
    · rw [valP_neg (p := eA x) (by show ¬ Sum.inl x.1 = _; intro e; exact h (Sum.inl.inj e)), valP_eA k acc]
      simp [getA, List.find?_cons, h]
theorem any_getA (acc : List (Int × Int × Int)) (k : Int) : (acc.any fun x => decide (x.1 = k)) = (getA acc k).isSome := by
  induction acc with
  | nil => rfl
  | cons x r ih =>
    rw [List.any_cons, ih]
    by_cases h : x.1 = k
    · simp [getA, h]
    · simp [getA, List.find?_cons, h]
theorem putP_eA (acc : List (Int × Int × Int)) (k : Int) (v : Int × Int) : putP (acc.map eA) (.inl k) (eS v) = (putA acc k v).map eA := by
  unfold putP putA
  rw [valP_eA, any_getA, Option.isSome_map]
  split
  · rw [List.map_map, List.map_map]
    refine List.map_congr_left fun x _ => ?_
    by_cases h : x.1 = k
    · simp [eA, h]
    · have h' : ¬ ((Sum.inl x.1 : Key) = Sum.inl k) := fun e => h (Sum.inl.inj e)
      simp [eA, h, h']
  · simp [eA]
theorem putA_len (acc : List (Int × Int × Int)) (k : Int) (v : Int × Int) : (putA acc k v).length ≤ acc.length + 1 := by
  unfold putA
  split <;> simp
theorem map_eraseI {α β : Type} (f : α → β) : ∀ (l : List α) (j : Nat), (l.map f).eraseIdx j = (l.eraseIdx j).map f
  | [], _ => by simp
  | x :: l, 0 => rfl
  | x :: l, j + 1 => by simp [map_eraseI f l j]
theorem popAt_map {α : Type} (enc : α → PyData) (l l' : List α) (x : α) (c : Int) (h : pop1 l c = some (x, l')) : gPopAt [.int c] (.lst (l.map enc)) = some (enc x, .lst (l'.map enc)) := by
  unfold pop1 at h
  split at h
  · rename_i hc
    cases hj : seqIndex? c l.length with
    | none => rw [hj] at h; cases h
    | some j =>
      rw [hj] at h
      have h : (l[j]?.map fun x => (x, l.eraseIdx j)) = some (x, l') := h
      cases hx : l[j]? with
      | none => rw [hx] at h; cases h
      | some y =>
        rw [hx] at h
        cases h
        simp only [gPopAt, List.length_map, hc, if_true, hj, List.getElem?_map, hx, map_eraseI, Option.map_some]
  · cases h
def eI (c : Int) : PyData := .int c
theorem popAt_int (l l' : List Int) (x c : Int) (h : pop1 l c = some (x, l')) : gPopAt [.int c] (.lst (l.map PyData.int)) = some (.int x, .lst (l'.map PyData.int)) := popAt_map PyData.int l l' x c h
theorem pop1_zero {α : Type} (x : α) (l : List α) : pop1 (x :: l) 0 = some (x, l) := by
  unfold pop1
  rw [if_pos (by decide)]
  simp [seqIndex?]
/-! ### the free berths before the arrivals -/
theorem cE_data (e : CE) : cE e = .tuple [.int e.1, .int (kindOf e), .int (-(nagoOf e)), .int (shipOf e)] := rfl
def basesL (H : Int) (ss : List (Int × Int)) : List Int := if ss = [] then [] else bas 0 (cir H ss)
theorem ships_nil {H : Int} {ss : List (Int × Int)} : gEqA (.tuple (ss.map eS)) (.tuple []) = some (decide (ss = [])) := by
  rw [gEqA_tnil (Sh.ships ss) (by decide)]
  cases ss <;> rfl
end LawK01

namespace LawK01
open PySem L2 Am
theorem folS_arr {e : CE} {s s' : FS} (ha : isA e = true) (h : folS e s = some s') : ∃ c left x fr, s.left = c :: left ∧ pop1 s.free c = some (x, fr) ∧ s' = ⟨fr, left, putA s.acc x.1 (shipOf e, e.1 - x.2)⟩ := by
  unfold folS at h
  rw [if_pos ha] at h
  cases hl : s.left with
  | nil => rw [hl] at h; cases h
  | cons c left =>
    rw [hl] at h
    dsimp only at h
    cases hp : pop1 s.free c with
    | none => rw [hp] at h; cases h
    | some r =>
      rw [hp] at h
      cases h
      exact ⟨c, left, r.1, r.2, rfl, hp, rfl⟩
theorem folS_dep {e : CE} {s s' : FS} (ha : ¬ isA e = true) (h : folS e s = some s') : s' = ⟨s.free ++ [(shipOf e, e.1 + nagoOf e)], s.left, s.acc⟩ := by
  unfold folS at h
  rw [if_neg ha] at h
  cases h
  rfl
theorem pop1_len {α : Type} {l l' : List α} {c : Int} {x : α} (hp : pop1 l c = some (x, l')) : l'.length + 1 = l.length ∧ ∃ j, l[j]? = some x ∧ l' = l.eraseIdx j := by
  unfold pop1 at hp
  split at hp
  · cases hj : seqIndex? c l.length with
    | none => rw [hj] at hp; cases hp
    | some j =>
      rw [hj] at hp
      have hp : (l[j]?.map fun x => (x, l.eraseIdx j)) = some (x, l') := hp
      cases hx : l[j]? with
      | none => rw [hx] at hp; cases hp
      | some y =>
        rw [hx] at hp
        cases hp
        have hj := (List.getElem?_eq_some_iff.mp hx).1
        refine ⟨?_, j, hx, rfl⟩
        rw [List.length_eraseIdx_of_lt hj]
        omega
  · cases hp
theorem folS_acc {e : CE} {s s' : FS} (h : folS e s = some s') : s'.acc.length ≤ s.acc.length + 1 ∧ s'.free.length ≤ s.free.length + 1 := by
  by_cases ha : isA e = true
  · obtain ⟨c, left, x, fr, _, hp, rfl⟩ := folS_arr ha h
    have := (pop1_len hp).1
    exact ⟨putA_len _ _ _, by show fr.length ≤ _; omega⟩
  · rw [folS_dep ha h]
    simp
theorem put_eS {a : AEnv} (ts : List Tgt) (x y : Int) : (Tgt.tp ts).put (eS (x, y)) a = Tgt.puts ts [.int x, .int y] a := put_tp _ _
end LawK01

namespace LawK01
open PySem L2 Am
/-! ### the circle's laws -/
def stepC (e : CE) : Int := stepI e.2
theorem isA_iff {e : CE} : isA e = true ↔ stepC e = 1 := by
  unfold isA stepC kindOf stepI
  rw [decide_eq_true_iff]
  by_cases h : e.2.getD 1 0 = 1
  · rw [if_pos h]
    exact ⟨fun _ => rfl, fun _ => h⟩
  · rw [if_neg h]
    exact ⟨fun z => absurd z h, fun z => absurd z (by decide)⟩
theorem notA {e : CE} (h : ¬ isA e = true) : stepC e = -1 := by
  rcases step_cases (l := e.2) with ⟨h1, _⟩ | ⟨h1, _⟩
  · exact absurd (isA_iff.mpr h1) h
  · exact h1
theorem step_map (k : Int) (L : List (List Int)) : (L.map fun l => ((k, l) : CE)).map stepC = L.map stepI := by
  rw [List.map_map]
  rfl
theorem sum_take_drop (f : List Int → Int) (L : List (List Int)) (j : Nat) : ((L.take j).map f).sum + ((L.drop j).map f).sum = (L.map f).sum := by
  rw [← List.sum_append, ← List.map_append, List.take_append_drop]
section
variable {H : Int} {ss : List (Int × Int)}
theorem pre_sum (hne : ss ≠ []) (k : Nat) (hk : k ≤ (cir H ss).length) : ∃ j, j ≤ (evs H ss).length ∧ (((cir H ss).take k).map stepC).sum = tot (mid H ss) ((evs H ss).take j) - pkOf H ss := by
  have hf := fi_lt (H := H) hne
  have ht := (fi_top (H := H) hne).2
  have hl := cir_len (H := H) (ss := ss)
  have hs := evs_sum H ss
  have cut := sum_take_drop stepI (evs H ss) (fi H ss + 1)
  have n0 : (((evs H ss).drop (fi H ss + 1)).map fun l => ((0, l) : CE)).length = (evs H ss).length - (fi H ss + 1) := by simp
  have ht0 := ht
  unfold tot at ht
  unfold cir
  rw [List.take_append, List.map_append, List.sum_append, n0, ← List.map_take, ← List.map_take, step_map, step_map]
  by_cases hc : k ≤ (evs H ss).length - (fi H ss + 1)
  · refine ⟨fi H ss + 1 + k, by omega, ?_⟩
    rw [show k - ((evs H ss).length - (fi H ss + 1)) = 0 by omega, List.take_zero, List.take_add, tot_append]
    rw [ht0]
    have z : (([] : List (List Int)).map stepI).sum = 0 := rfl
    omega
  · refine ⟨k - ((evs H ss).length - (fi H ss + 1)), by omega, ?_⟩
    rw [List.take_of_length_le (by simp; omega), List.take_take, Nat.min_eq_left (by omega)]
    unfold tot
    omega
theorem pre_le (hne : ss ≠ []) (k : Nat) (hk : k ≤ (cir H ss).length) : (((cir H ss).take k).map stepC).sum ≤ 0 := by
  obtain ⟨j, hj, e⟩ := pre_sum hne k hk
  have := lvl_le (H := H) hne j hj
  omega
theorem all_sum : ((cir H ss).map stepC).sum = 0 := by
  unfold cir
  rw [List.map_append, List.sum_append, step_map, step_map]
  have hs := evs_sum H ss
  have cut := sum_take_drop stepI (evs H ss) (fi H ss + 1)
  omega
/-! the order in time -/
def hourOf (e : CE) : Int := e.2.getD 0 0
def tmC (H : Int) (e : CE) : Int := e.1 * H + hourOf e
theorem evs_asc (H : Int) (ss : List (Int × Int)) : Asc lexL (evs H ss) := isort_asc (lt := lexL) (fun _ _ => lexL_asym) (fun _ _ _ => lexL_tr) _
theorem evs_perm (H : Int) (ss : List (Int × Int)) : (evs H ss).Perm (ss.zipIdx.map (dep H) ++ ss.zipIdx.map arr) := isort_perm lexL _
theorem evs_mem {l : List Int} (h : l ∈ evs H ss) : (∃ q ∈ ss.zipIdx, l = dep H q) ∨ ∃ q ∈ ss.zipIdx, l = arr q := by
  have z := (evs_perm H ss).mem_iff.mp h
  rcases List.mem_append.mp z with z | z
  · obtain ⟨q, hq, rfl⟩ := List.mem_map.mp z
    exact .inl ⟨q, hq, rfl⟩
  · obtain ⟨q, hq, rfl⟩ := List.mem_map.mp z
    exact .inr ⟨q, hq, rfl⟩
theorem evs_hour (ok : TOk H ss) {l : List Int} (h : l ∈ evs H ss) : 0 ≤ l.getD 0 0 ∧ l.getD 0 0 < H := by
  have h1 := ok.h1
  rcases evs_mem h with ⟨q, hq, rfl⟩ | ⟨q, hq, rfl⟩
  · exact ⟨Int.emod_nonneg _ (by omega), Int.emod_lt_of_pos _ (by omega)⟩
  · have := ok.ship _ (zip_mem hq).1
    exact ⟨this.1, this.2.1⟩
theorem lex_kind {a b : List Int} (ha : 2 ≤ a.length) (hb : 2 ≤ b.length) (h : lexL b a = false) (e : a.getD 0 0 = b.getD 0 0) : a.getD 1 0 ≤ b.getD 1 0 := by
  match a, b, ha, hb with
  | x :: y :: a, u :: v :: b, _, _ =>
    have e' : x = u := e
    subst e'
    unfold lexL at h
    rw [if_pos rfl] at h
    unfold lexL at h
    show y ≤ v
    by_cases e2 : v = y
    · omega
    · rw [if_neg e2] at h
      have := of_decide_eq_false h
      omega
def Bef (H : Int) (e x : CE) : Prop := ¬ isA e = true → isA x = true → 0 ≤ tmC H x - tmC H e ∧ tmC H x - tmC H e < H
theorem cir_order (ok : TOk H ss) (hne : ss ≠ []) : (cir H ss).Pairwise (Bef H) := by
  have asc := evs_asc H ss
  have h1 := ok.h1
  have nn : ∀ l ∈ evs H ss, l ≠ [] := fun l hl => by
    obtain ⟨a, b, c, d, e, rfl⟩ := evs_shape hl
    exact fun z => nomatch z
  have same : ∀ (k : Int) (L : List (List Int)), (∀ l ∈ L, l ∈ evs H ss) → Asc lexL L → (L.map fun l => ((k, l) : CE)).Pairwise (Bef H) := fun k L hL hA => by
    refine List.Pairwise.map _ (R := fun a b => (a ∈ evs H ss ∧ b ∈ evs H ss) ∧ lexL b a = false) (fun a b ⟨⟨ha, hb⟩, h⟩ _ _ => ?_) (List.Pairwise.and_mem.mp hA |>.imp fun ⟨x, y, z⟩ => ⟨⟨hL _ x, hL _ y⟩, z⟩)
    have t := time_le (nn a ha) (nn b hb) h
    have ua := evs_hour ok ha
    have ub := evs_hour ok hb
    unfold tmC hourOf
    dsimp only
    omega
  have hf := fi_lt (H := H) hne
  obtain ⟨htk, _⟩ := fi_top (H := H) hne
  unfold cir
  refine List.pairwise_append.mpr ⟨same 0 _ (fun l hl => List.mem_of_mem_drop hl) (asc.sublist (List.drop_sublist _ _)), same 1 _ (fun l hl => List.mem_of_mem_take hl) (asc.sublist (List.take_sublist _ _)), fun e he x hx => ?_⟩
  obtain ⟨a, ha, rfl⟩ := List.mem_map.mp he
  obtain ⟨b, hb, rfl⟩ := List.mem_map.mp hx
  intro na _
  have ma := List.mem_of_mem_drop ha
  have mb := List.mem_of_mem_take hb
  have ua := evs_hour ok ma
  have ub := evs_hour ok mb
  have mt : (evs H ss)[fi H ss] ∈ evs H ss := List.getElem_mem hf
  -- b is not behind the full moment's event, a is behind it
  have split : evs H ss = (evs H ss).take (fi H ss) ++ (evs H ss)[fi H ss] :: (evs H ss).drop (fi H ss + 1) := by
    rw [← List.drop_eq_getElem_cons hf, List.take_append_drop]
  have asc' := asc
  rw [split] at asc'
  obtain ⟨_, p2, p3⟩ := List.pairwise_append.mp asc'
  have ta : lexL a (evs H ss)[fi H ss] = false := (List.pairwise_cons.mp p2).1 a ha
  have tb : b.getD 0 0 ≤ (evs H ss)[fi H ss].getD 0 0 := by
    rw [List.take_succ_eq_append_getElem hf] at hb
    rcases List.mem_append.mp hb with hb | hb
    · exact time_le (nn b mb) (nn _ mt) (p3 b hb _ List.mem_cons_self)
    · rw [List.mem_singleton.mp hb]
      exact Int.le_refl _
  have ha0 := time_le (nn _ mt) (nn a ma) ta
  have hlt : (evs H ss)[fi H ss].getD 0 0 ≠ a.getD 0 0 := fun eq => by
    obtain ⟨a0, a1, a2, a3, a4, rfl⟩ := evs_shape ma
    obtain ⟨b0, b1, b2, b3, b4, eb⟩ := evs_shape mt
    have k := lex_kind (by rw [eb]; simp) (by simp) ta eq
    rw [htk] at k
    have ka : ([a0, a1, a2, a3, a4] : List Int).getD 1 0 = 0 := by
      rcases evs_mem ma with ⟨q, hq, e⟩ | ⟨q, hq, e⟩
      · rw [e]; rfl
      · exact absurd (by rw [e]; rfl) na
    omega
  unfold tmC hourOf
  dsimp only
  omega
end
end LawK01

namespace LawK01
open PySem L2 Am
/-! ### what the machine of follow keeps -/
def Dig : List Int → List Int → Prop
  | [], [] => True
  | c :: cs, b :: bs => (-b ≤ c ∧ c < b) ∧ Dig cs bs
  | _, _ => False
theorem pop1_in {α : Type} {l : List α} {c : Int} (h0 : -(l.length : Int) ≤ c) (h1 : c < l.length) (hz : l.length ≤ 1000) : ∃ x l', pop1 l c = some (x, l') := by
  have e : (2 : Int) ^ 63 = 9223372036854775808 := by decide
  have b1 : (decide (-(2 ^ 63) ≤ c) && decide (c < 2 ^ 63)) = true := by
    rw [e, decide_eq_true (show -(9223372036854775808 : Int) ≤ c by omega), decide_eq_true (show c < 9223372036854775808 by omega)]
    rfl
  unfold pop1
  rw [if_pos b1]
  have hj : ∃ j, seqIndex? c l.length = some j ∧ j < l.length := by
    unfold seqIndex?
    by_cases hn : c < 0
    · refine ⟨(c + l.length).toNat, ?_, by omega⟩
      simp only [hn, if_true]
      rw [if_pos (by rw [decide_eq_true (show (0 : Int) ≤ c + l.length by omega), decide_eq_true (show c + (l.length : Int) < l.length by omega)]; rfl)]
    · refine ⟨c.toNat, ?_, by omega⟩
      simp only [hn, if_false]
      rw [if_pos (by rw [decide_eq_true (show (0 : Int) ≤ c by omega), decide_eq_true (show c < (l.length : Int) by omega)]; rfl)]
  obtain ⟨j, hj, hl⟩ := hj
  rw [hj]
  refine ⟨l[j], l.eraseIdx j, ?_⟩
  show (l[j]?.map fun x => (x, l.eraseIdx j)) = _
  rw [List.getElem?_eq_getElem hl]
  rfl
theorem fol_ok : ∀ (es : List CE) (s : FS), s.free.length + es.length ≤ 1000 → Dig s.left (bas s.free.length es) → ∃ s', fol es s = some s' ∧ s'.left = [] ∧ (s'.free.length : Int) = s.free.length - (es.map stepC).sum
  | [], s, _, h => by
    refine ⟨s, rfl, ?_, by simp⟩
    cases hl : s.left with
    | nil => rfl
    | cons c cs => rw [hl] at h; exact h.elim
  | e :: es, s, hz, h => by
    unfold bas at h
    rw [List.length_cons] at hz
    rw [List.map_cons, List.sum_cons, fol]
    unfold folS
    by_cases ha : isA e = true
    · rw [if_pos ha] at h ⊢
      cases hl : s.left with
      | nil => rw [hl] at h; exact h.elim
      | cons c cs =>
        rw [hl] at h
        obtain ⟨⟨h0, h1⟩, h2⟩ := h
        obtain ⟨x, l', hp⟩ := pop1_in h0 h1 (by omega)
        have hlen := (pop1_len hp).1
        dsimp only
        rw [hp]
        have hd : Dig cs (bas (l'.length : Int) es) := by
          rw [show (l'.length : Int) = (s.free.length : Int) - 1 by omega]
          exact h2
        obtain ⟨s', e1, e2, e3⟩ := fol_ok es ⟨l', cs, putA s.acc x.1 (shipOf e, e.1 - x.2)⟩ (by show l'.length + _ ≤ _; omega) hd
        refine ⟨s', e1, e2, ?_⟩
        rw [e3, isA_iff.mp ha]
        show (l'.length : Int) - _ = _
        omega
    · rw [if_neg ha] at h ⊢
      have hd : Dig s.left (bas ((s.free ++ [(shipOf e, e.1 + nagoOf e)]).length : Int) es) := by
        rw [show ((s.free ++ [(shipOf e, e.1 + nagoOf e)]).length : Int) = (s.free.length : Int) + 1 by simp]
        exact h
      obtain ⟨s', e1, e2, e3⟩ := fol_ok es ⟨s.free ++ [(shipOf e, e.1 + nagoOf e)], s.left, s.acc⟩ (by show (s.free ++ _).length + _ ≤ _; rw [List.length_append, List.length_singleton]; omega) hd
      refine ⟨s', e1, e2, ?_⟩
      rw [e3, notA ha]
      show ((s.free ++ _).length : Int) - _ = _
      rw [List.length_append, List.length_singleton]
      omega
theorem perm_eraseI {α : Type} : ∀ (l : List α) (j : Nat) (x : α), l[j]? = some x → (x :: l.eraseIdx j).Perm l
  | [], j, x, h => by simp at h
  | y :: l, 0, x, h => by
    cases h
    exact List.Perm.refl _
  | y :: l, j + 1, x, h => by
    have ih := perm_eraseI l j x (by simpa using h)
    exact (List.Perm.swap y x _).trans (ih.cons y)
def isD (e : CE) : Bool := !isA e
def wt (e : CE) : Int := if isA e = true then e.1 else -(e.1 + nagoOf e)
structure MI (H : Int) (p : List CE) (s : FS) : Prop where
  keys : (s.acc.map (·.1) ++ s.free.map (·.1)).Perm ((p.filter isD).map shipOf)
  arrs : s.acc.map (fun x => x.2.1) = (p.filter isA).map shipOf
  w : (s.acc.map (fun x => x.2.2)).sum - (s.free.map (·.2)).sum = (p.map wt).sum
  src : ∀ x ∈ s.free, ∃ e ∈ p, isD e = true ∧ shipOf e = x.1 ∧ x.2 = e.1 + nagoOf e
  prs : ∀ x ∈ s.acc, ∃ e a, e ∈ p ∧ a ∈ p ∧ isD e = true ∧ isA a = true ∧ Bef H e a ∧ shipOf e = x.1 ∧ shipOf a = x.2.1 ∧ x.2.2 = a.1 - (e.1 + nagoOf e)
theorem putA_new {acc : List (Int × Int × Int)} {k : Int} {v : Int × Int} (h : k ∉ acc.map (·.1)) : putA acc k v = acc ++ [(k, v)] := by
  unfold putA
  rw [if_neg]
  intro z
  obtain ⟨x, hx, e⟩ := List.any_eq_true.mp z
  exact h (List.mem_map.mpr ⟨x, hx, of_decide_eq_true e⟩)
theorem MI.step {H : Int} {p q : List CE} {x : CE} {s s' : FS} (I : MI H p s) (ord : (p ++ x :: q).Pairwise (Bef H)) (nd : (((p ++ x :: q).filter isD).map shipOf).Nodup) (h : folS x s = some s') : MI H (p ++ [x]) s' := by
  have nd1 : (s.acc.map (·.1) ++ s.free.map (·.1)).Nodup := by
    refine (I.keys.nodup_iff).mpr ?_
    rw [List.filter_append, List.map_append] at nd
    exact (List.nodup_append.mp nd).1
  by_cases ha : isA x = true
  · obtain ⟨c, left, ⟨lv, ad⟩, fr, hl, hp, rfl⟩ := folS_arr ha h
    obtain ⟨_, j, hj, rfl⟩ := pop1_len hp
    have pm : ((lv, ad) :: s.free.eraseIdx j).Perm s.free := perm_eraseI _ j _ hj
    have mem : (lv, ad) ∈ s.free := List.mem_of_getElem? hj
    have new : lv ∉ s.acc.map (·.1) := fun z => (List.nodup_append.mp nd1).2.2 lv z lv (List.mem_map.mpr ⟨_, mem, rfl⟩) rfl
    have nD : isD x = false := by simp [isD, ha]
    obtain ⟨e0, he0, d0, s0, w0⟩ := I.src _ mem
    have bef : Bef H e0 x := (List.pairwise_append.mp ord).2.2 e0 he0 x List.mem_cons_self
    have pk := pm.map (fun z : Int × Int => z.1)
    have ps := sum_perm (pm.map fun z : Int × Int => z.2)
    show MI H (p ++ [x]) ⟨s.free.eraseIdx j, left, putA s.acc lv (shipOf x, x.1 - ad)⟩
    rw [putA_new new]
    refine ⟨?_, ?_, ?_, fun y hy => ?_, fun y hy => ?_⟩
    · rw [List.filter_append, List.filter_cons_of_neg (by simp [nD]), List.filter_nil, List.append_nil]
      refine List.Perm.trans ?_ I.keys
      show ((s.acc ++ [(lv, shipOf x, x.1 - ad)]).map (·.1) ++ (s.free.eraseIdx j).map (·.1)).Perm _
      rw [List.map_append, List.append_assoc]
      exact List.Perm.append_left _ pk
    · show (s.acc ++ [(lv, shipOf x, x.1 - ad)]).map (fun x => x.2.1) = _
      rw [List.map_append, I.arrs, List.filter_append, List.map_append, List.filter_cons_of_pos ha]
      rfl
    · have hw := I.w
      rw [List.map_cons, List.sum_cons] at ps
      rw [List.map_append, List.sum_append, List.map_append, List.sum_append]
      have e1 : (([x] : List CE).map wt).sum = x.1 := by simp [wt, ha]
      have e2 : (([(lv, shipOf x, x.1 - ad)] : List (Int × Int × Int)).map fun x => x.2.2).sum = x.1 - ad := by simp
      rw [e1, e2]
      have ps' : ad + ((s.free.eraseIdx j).map fun z : Int × Int => z.2).sum = (s.free.map fun z : Int × Int => z.2).sum := ps
      show _ - ((s.free.eraseIdx j).map fun z : Int × Int => z.2).sum = _
      have hw' : (s.acc.map fun x => x.2.2).sum - (s.free.map fun z : Int × Int => z.2).sum = (p.map wt).sum := hw
      omega
    · obtain ⟨e, he, r⟩ := I.src y (List.mem_of_mem_eraseIdx hy)
      exact ⟨e, List.mem_append_left _ he, r⟩
    · rcases List.mem_append.mp hy with hy | hy
      · obtain ⟨e, a, he, ha', r⟩ := I.prs y hy
        exact ⟨e, a, List.mem_append_left _ he, List.mem_append_left _ ha', r⟩
      · rw [List.mem_singleton.mp hy]
        exact ⟨e0, x, List.mem_append_left _ he0, List.mem_append_right _ List.mem_cons_self, d0, ha, bef, s0, rfl, by have w1 : ad = e0.1 + nagoOf e0 := w0; show x.1 - ad = _; rw [w1]⟩
  · rw [folS_dep ha h]
    have hD : isD x = true := by simp [isD, ha]
    refine ⟨?_, ?_, ?_, fun y hy => ?_, fun y hy => ?_⟩
    · rw [List.filter_append, List.map_append, List.filter_cons_of_pos hD, List.filter_nil, List.map_append, ← List.append_assoc]
      exact List.Perm.append_right _ I.keys
    · rw [List.filter_append, List.map_append, List.filter_cons_of_neg ha, List.filter_nil, List.map_nil, List.append_nil]
      exact I.arrs
    · have hw : (s.acc.map fun x => x.2.2).sum - (s.free.map (·.2)).sum = (p.map wt).sum := I.w
      show (s.acc.map fun x => x.2.2).sum - ((s.free ++ [(shipOf x, x.1 + nagoOf x)]).map (·.2)).sum = _
      rw [List.map_append, List.sum_append, List.map_append, List.sum_append]
      have e1 : (([x] : List CE).map wt).sum = -(x.1 + nagoOf x) := by simp [wt, ha]
      have e2 : (([(shipOf x, x.1 + nagoOf x)] : List (Int × Int)).map (·.2)).sum = x.1 + nagoOf x := by simp
      rw [e1, e2]
      omega
    · rcases List.mem_append.mp hy with hy | hy
      · obtain ⟨e, he, r⟩ := I.src y hy
        exact ⟨e, List.mem_append_left _ he, r⟩
      · rw [List.mem_singleton.mp hy]
        exact ⟨x, List.mem_append_right _ List.mem_cons_self, hD, rfl, rfl⟩
    · obtain ⟨e, a, he, ha', r⟩ := I.prs y hy
      exact ⟨e, a, List.mem_append_left _ he, List.mem_append_left _ ha', r⟩
theorem MI.run {H : Int} : ∀ (q p : List CE) {s s' : FS}, MI H p s → (p ++ q).Pairwise (Bef H) → (((p ++ q).filter isD).map shipOf).Nodup → fol q s = some s' → MI H (p ++ q) s'
  | [], p, s, s', I, _, _, h => by
    cases h
    rw [List.append_nil]
    exact I
  | x :: q, p, s, s', I, o, nd, h => by
    unfold fol at h
    cases hx : folS x s with
    | none => rw [hx] at h; cases h
    | some s1 =>
      rw [hx] at h
      have J := I.step o nd hx
      have e : p ++ x :: q = (p ++ [x]) ++ q := by simp
      rw [e] at o nd ⊢
      exact MI.run q (p ++ [x]) J o nd h
end LawK01

namespace LawK01
open PySem L2 Am
section
variable {H : Int} {ss : List (Int × Int)}
def dL (l : List Int) : Bool := !decide (l.getD 1 0 = 1)
def aL (l : List Int) : Bool := decide (l.getD 1 0 = 1)
theorem cir_snd : ((cir H ss).map (·.2)).Perm (evs H ss) := by
  unfold cir
  rw [List.map_append, List.map_map, List.map_map]
  have e : ∀ (k : Int) (L : List (List Int)), L.map ((fun x : CE => x.2) ∘ fun l => (k, l)) = L := fun k L => by
    induction L with
    | nil => rfl
    | cons x r ih => rw [List.map_cons, ih]; rfl
  rw [e, e]
  exact List.perm_append_comm.trans (by rw [List.take_append_drop])
theorem cir_mem {e : CE} (h : e ∈ cir H ss) : e.2 ∈ evs H ss := cir_snd.mem_iff.mp (List.mem_map.mpr ⟨e, h, rfl⟩)
theorem ships_range (ss : List (Int × Int)) : ss.zipIdx.map (fun q : Shp => (q.2 : Int)) = (List.range ss.length).map fun n : Nat => (n : Int) := by
  have e : ∀ (ss : List (Int × Int)) (k : Nat), (ss.zipIdx k).map (fun q : Shp => (q.2 : Int)) = (List.range' k ss.length).map fun n : Nat => (n : Int) := fun ss => by
    induction ss with
    | nil => intro k; rfl
    | cons p ss ih =>
      intro k
      rw [List.zipIdx_cons, List.map_cons, ih (k + 1)]
      rfl
  rw [e, List.range_eq_range']
theorem filt (f : List Int → Bool) (g : CE → Bool) (hg : ∀ e, g e = f e.2) : ∀ L : List CE, (L.filter g).map shipOf = ((L.map (·.2)).filter f).map fun l => l.getD 4 0
  | [] => rfl
  | e :: L => by
    rw [List.map_cons]
    by_cases h : g e = true
    · rw [List.filter_cons_of_pos h, List.filter_cons_of_pos (by rw [← hg]; exact h), List.map_cons, List.map_cons, filt f g hg L]
      rfl
    · rw [List.filter_cons_of_neg h, List.filter_cons_of_neg (by rw [← hg]; exact h), filt f g hg L]
theorem dep_ships : (((cir H ss).filter isD).map shipOf).Perm ((List.range ss.length).map fun n : Nat => (n : Int)) := by
  rw [filt dL isD (fun e => rfl)]
  refine ((cir_snd.trans (evs_perm H ss)).filter dL |>.map _).trans ?_
  rw [List.filter_append]
  have e1 : (ss.zipIdx.map (dep H)).filter dL = ss.zipIdx.map (dep H) := List.filter_eq_self.mpr fun l hl => by
    obtain ⟨q, _, rfl⟩ := List.mem_map.mp hl
    rfl
  have e2 : (ss.zipIdx.map arr).filter dL = [] := List.filter_eq_nil_iff.mpr fun l hl => by
    obtain ⟨q, _, rfl⟩ := List.mem_map.mp hl
    exact fun z => nomatch z
  rw [e1, e2, List.append_nil, List.map_map, ← ships_range]
  exact List.Perm.refl _
theorem arr_ships : (((cir H ss).filter isA).map shipOf).Perm ((List.range ss.length).map fun n : Nat => (n : Int)) := by
  rw [filt aL isA (fun e => rfl)]
  refine ((cir_snd.trans (evs_perm H ss)).filter aL |>.map _).trans ?_
  rw [List.filter_append]
  have e1 : (ss.zipIdx.map (dep H)).filter aL = [] := List.filter_eq_nil_iff.mpr fun l hl => by
    obtain ⟨q, _, rfl⟩ := List.mem_map.mp hl
    exact fun z => nomatch z
  have e2 : (ss.zipIdx.map arr).filter aL = ss.zipIdx.map arr := List.filter_eq_self.mpr fun l hl => by
    obtain ⟨q, _, rfl⟩ := List.mem_map.mp hl
    rfl
  rw [e1, e2, List.nil_append, List.map_map, ← ships_range]
  exact List.Perm.refl _
theorem range_nodup (n : Nat) : ((List.range n).map fun n : Nat => (n : Int)).Nodup := List.Pairwise.map _ (fun a b h => by omega) List.nodup_range
theorem dep_nodup : (((cir H ss).filter isD).map shipOf).Nodup := dep_ships.nodup_iff.mpr (range_nodup _)
def vL (l : List Int) : Int := if l.getD 1 0 = 1 then 0 else -(l.getD 2 0)
theorem wt_sum (hne : ss ≠ []) : ((cir H ss).map wt).sum = pkOf H ss := by
  have e0 : ∀ L : List (List Int), ((L.map fun l => ((0, l) : CE)).map wt).sum = (L.map vL).sum := fun L => by
    induction L with
    | nil => rfl
    | cons l r ih =>
      rw [List.map_cons, List.map_cons, List.sum_cons, List.map_cons, List.sum_cons, ih]
      congr 1
      unfold wt vL isA kindOf nagoOf
      by_cases h : l.getD 1 0 = 1
      · rw [if_pos (decide_eq_true h), if_pos h]
      · rw [if_neg (fun z => h (of_decide_eq_true z)), if_neg h]
        show -(0 + l.getD 2 0) = _
        omega
  have e1 : ∀ L : List (List Int), ((L.map fun l => ((1, l) : CE)).map wt).sum = (L.map vL).sum + (L.map stepI).sum := fun L => by
    induction L with
    | nil => rfl
    | cons l r ih =>
      rw [List.map_cons, List.map_cons, List.sum_cons, List.map_cons, List.sum_cons, ih, List.map_cons, List.sum_cons]
      have : wt (1, l) = vL l + stepI l := by
        unfold wt vL isA kindOf nagoOf stepI
        by_cases h : l.getD 1 0 = 1
        · rw [if_pos (decide_eq_true h), if_pos h, if_pos h]
          rfl
        · rw [if_neg (fun z => h (of_decide_eq_true z)), if_neg h, if_neg h]
          show -(1 + l.getD 2 0) = _
          omega
      rw [this]
      omega
  have hv : ((evs H ss).map vL).sum = mid H ss := by
    rw [sum_perm ((evs_perm H ss).map vL), List.map_append, List.sum_append, List.map_map, List.map_map]
    have a1 : ∀ xs : List Shp, (xs.map (vL ∘ arr)).sum = 0 := fun xs => by
      induction xs with
      | nil => rfl
      | cons x r ih => rw [List.map_cons, List.sum_cons, ih]; rfl
    rw [a1]
    have a2 : ∀ q : Shp, (vL ∘ dep H) q = (q.1.1 + q.1.2) / H := fun q => by
      show (if ((0 : Int) = 1) then 0 else - -((q.1.1 + q.1.2) / H)) = _
      rw [if_neg (by decide)]
      omega
    have a3 : ss.zipIdx.map (vL ∘ dep H) = ss.map fun p => (p.1 + p.2) / H := by
      rw [← zip_map (fun p => (p.1 + p.2) / H) ss 0]
      exact List.map_congr_left fun q _ => a2 q
    rw [a3]
    unfold mid
    omega
  have cut := sum_take_drop vL (evs H ss) (fi H ss + 1)
  have ht := (fi_top (H := H) hne).2
  unfold tot at ht
  unfold cir
  rw [List.map_append, List.sum_append, e0, e1]
  omega
/-! ### the plan that is made -/
structure PlanOk (H : Int) (ss P : List (Int × Int)) : Prop where
  len : P.length = ss.length
  perm : (P.map (·.1)).Perm ((List.range ss.length).map fun n : Nat => (n : Int))
  pos : ∀ p ∈ P, 0 ≤ p.2
  gap : ∀ (i : Nat) (p q : Int × Int), P[i]? = some p → ss[i]? = some q → ∃ t, 0 ≤ p.1 ∧ ss[p.1.toNat]? = some t ∧ 0 ≤ p.2 * H + t.1 - q.1 - q.2 ∧ p.2 * H + t.1 - q.1 - q.2 < H
  sum : (P.map (·.2)).sum = pkOf H ss
theorem getA_mem : ∀ {acc : List (Int × Int × Int)} {k : Int}, k ∈ acc.map (·.1) → ∃ v, getA acc k = some v ∧ (k, v) ∈ acc
  | x :: acc, k, h => by
    by_cases e : x.1 = k
    · refine ⟨x.2, ?_, ?_⟩
      · simp [getA, e]
      · rw [← e]
        exact List.mem_cons_self
    · rw [List.map_cons] at h
      rcases List.mem_cons.mp h with h | h
      · exact absurd h.symm e
      · obtain ⟨v, h1, h2⟩ := getA_mem h
        refine ⟨v, ?_, List.mem_cons_of_mem _ h2⟩
        rw [← h1]
        simp [getA, List.find?_cons, e]
theorem getA_map : ∀ {acc : List (Int × Int × Int)}, (acc.map (·.1)).Nodup → (acc.map (·.1)).map (fun k => (getA acc k).getD (0, 0)) = acc.map (·.2)
  | [], _ => rfl
  | x :: acc, nd => by
    rw [List.map_cons] at nd
    obtain ⟨n1, n2⟩ := List.nodup_cons.mp nd
    rw [List.map_cons, List.map_cons, List.map_cons, ← getA_map n2]
    congr 1
    · simp [getA]
    · refine List.map_congr_left fun k hk => ?_
      have : ¬ x.1 = k := fun e => n1 (by rw [e]; exact hk)
      simp [getA, List.find?_cons, this]
theorem dep_of {e : CE} (h : e ∈ cir H ss) (hd : isD e = true) : ∃ q ∈ ss.zipIdx, e.2 = dep H q := by
  rcases evs_mem (cir_mem h) with z | ⟨q, hq, z⟩
  · exact z
  · exfalso
    unfold isD isA kindOf at hd
    rw [z, show (arr q).getD 1 0 = 1 from rfl] at hd
    exact absurd hd (by decide)
theorem arr_of {e : CE} (h : e ∈ cir H ss) (hd : isA e = true) : ∃ q ∈ ss.zipIdx, e.2 = arr q := by
  rcases evs_mem (cir_mem h) with ⟨q, hq, z⟩ | z
  · exfalso
    unfold isA kindOf at hd
    rw [z, show (dep H q).getD 1 0 = 0 from rfl] at hd
    exact absurd hd (by decide)
  · exact z
theorem zip_at {q : Shp} (h : q ∈ ss.zipIdx) : ss[q.2]? = some q.1 := by
  obtain ⟨p, i⟩ := q
  have z := List.mem_zipIdx h
  simp at z
  rw [z.2]
  simp [z.1]
theorem plan_made (ok : TOk H ss) (hne : ss ≠ []) {cs : List Int} (hd : Dig cs (bas 0 (cir H ss))) :
    ∃ s P, fol (cir H ss) ⟨[], cs, []⟩ = some s ∧ P.length = ss.length ∧ (∀ i : Nat, i < ss.length → getA s.acc (i : Int) = P[i]?) ∧ PlanOk H ss P := by
  have hlen := evs_len H ss
  have hl2 := ok.len
  have hcl := cir_len (H := H) (ss := ss)
  have h1 := ok.h1
  obtain ⟨s, e, el, ef⟩ := fol_ok (cir H ss) ⟨[], cs, []⟩ (by show 0 + _ ≤ _; omega) hd
  rw [all_sum] at ef
  have I : MI H ([] ++ cir H ss) s := MI.run (cir H ss) [] ⟨by exact List.Perm.refl _, rfl, rfl, fun _ z => absurd z (by simp), fun _ z => absurd z (by simp)⟩ (by simpa using cir_order ok hne) (by simpa using dep_nodup) e
  rw [List.nil_append] at I
  have ef' : (s.free.length : Int) = 0 := by simpa using ef
  have fr : s.free = [] := List.length_eq_zero_iff.mp (by omega)
  have keys := I.keys
  have w := I.w
  rw [fr, List.map_nil, List.append_nil] at keys
  rw [fr] at w
  have kp := keys.trans dep_ships
  have nd : (s.acc.map (·.1)).Nodup := kp.nodup_iff.mpr (range_nodup _)
  have kin : ∀ i : Nat, i < ss.length → (i : Int) ∈ s.acc.map (·.1) := fun i hi => kp.mem_iff.mpr (List.mem_map.mpr ⟨i, List.mem_range.mpr hi, rfl⟩)
  let P : List (Int × Int) := ((List.range ss.length).map fun n : Nat => (n : Int)).map fun k => (getA s.acc k).getD (0, 0)
  have pp : P.Perm (s.acc.map (·.2)) := by
    rw [← getA_map nd]
    exact (kp.symm).map _
  have plen : P.length = ss.length := by simp [P]
  have pat : ∀ i : Nat, i < ss.length → getA s.acc (i : Int) = P[i]? := fun i hi => by
    obtain ⟨v, g1, _⟩ := getA_mem (kin i hi)
    show _ = (((List.range ss.length).map fun n : Nat => (n : Int)).map fun k => (getA s.acc k).getD (0, 0))[i]?
    rw [List.getElem?_map, List.getElem?_map, List.getElem?_range hi]
    show _ = some ((getA s.acc (i : Int)).getD (0, 0))
    rw [g1]
    rfl
  have gap : ∀ (i : Nat) (p q : Int × Int), P[i]? = some p → ss[i]? = some q → ∃ t, 0 ≤ p.1 ∧ ss[p.1.toNat]? = some t ∧ 0 ≤ p.2 * H + t.1 - q.1 - q.2 ∧ p.2 * H + t.1 - q.1 - q.2 < H := fun i p q hp hq => by
    have hi : i < ss.length := (List.getElem?_eq_some_iff.mp hq).1
    obtain ⟨v, g1, g2⟩ := getA_mem (kin i hi)
    rw [← pat i hi, g1] at hp
    have hv : v = p := Option.some.inj hp
    subst hv
    obtain ⟨ed, ea, m1, m2, d1, d2, bef, s1, s2, w1⟩ := I.prs _ g2
    obtain ⟨q1, z1, x1⟩ := dep_of m1 d1
    obtain ⟨q2, z2, x2⟩ := arr_of m2 d2
    have b := bef (by unfold isD at d1; simpa using d1) d2
    have n1 : (q1.2 : Int) = (i : Int) := by
      have : shipOf ed = (q1.2 : Int) := by unfold shipOf; rw [x1]; rfl
      exact this.symm.trans s1
    have n2 : (q2.2 : Int) = v.1 := by
      have : shipOf ea = (q2.2 : Int) := by unfold shipOf; rw [x2]; rfl
      exact this.symm.trans s2
    have hq1 : q1.1 = q := by
      have := zip_at z1
      rw [show q1.2 = i by omega, hq] at this
      exact (Option.some.inj this).symm
    refine ⟨q2.1, by omega, by rw [← n2, Int.toNat_natCast]; exact zip_at z2, ?_⟩
    have t1 : tmC H ed = ed.1 * H + (q.1 + q.2) % H := by unfold tmC hourOf; rw [x1, ← hq1]; rfl
    have t2 : tmC H ea = ea.1 * H + q2.1.1 := by unfold tmC hourOf; rw [x2]; rfl
    have na : nagoOf ed = -((q.1 + q.2) / H) := by unfold nagoOf; rw [x1, ← hq1]; rfl
    have dm := Int.mul_ediv_add_emod (q.1 + q.2) H
    have w2 : v.2 = ea.1 - (ed.1 + nagoOf ed) := w1
    rw [na] at w2
    have e3 : v.2 * H = ea.1 * H - ed.1 * H + H * ((q.1 + q.2) / H) := by
      rw [w2, Int.sub_mul, Int.add_mul, Int.neg_mul, Int.mul_comm H]
      omega
    omega
  refine ⟨s, P, e, plen, pat, plen, ?_, fun p hp => ?_, gap, ?_⟩
  · refine (pp.map fun x : Int × Int => x.1).trans ?_
    rw [List.map_map]
    have := I.arrs
    exact (by rw [show s.acc.map ((fun x : Int × Int => x.1) ∘ fun x : Int × Int × Int => x.2) = s.acc.map fun x => x.2.1 from rfl, this]; exact arr_ships)
  · obtain ⟨i, hi⟩ := List.mem_iff_getElem?.mp hp
    have hil : i < ss.length := by
      have := (List.getElem?_eq_some_iff.mp hi).1
      omega
    obtain ⟨t, t0, t1, t2, t3⟩ := gap i p _ hi (List.getElem?_eq_getElem hil)
    have o1 := ok.ship t (List.mem_of_getElem? t1)
    have o2 := ok.ship _ (List.getElem_mem hil)
    have : -1 < p.2 := by
      refine Int.lt_of_mul_lt_mul_right (a := H) ?_ (by omega)
      omega
    omega
  · have := sum_perm (pp.map fun x : Int × Int => x.2)
    rw [this, List.map_map, ← wt_sum hne]
    have w' : (s.acc.map fun x => x.2.2).sum - 0 = ((cir H ss).map wt).sum := w
    show (s.acc.map fun x => x.2.2).sum = _
    omega
end
end LawK01

namespace LawK01
open PySem L2 Am
/-! ### numbers of plans -/
theorem bas_mem : ∀ (es : List CE) (f b : Int), b ∈ bas f es → ∃ k, k < es.length ∧ b = f - ((es.take k).map stepC).sum ∧ ((es.take (k + 1)).map stepC).sum = ((es.take k).map stepC).sum + 1
  | [], _, _, h => by simp [bas] at h
  | e :: es, f, b, h => by
    unfold bas at h
    by_cases ha : isA e = true
    · rw [if_pos ha] at h
      rcases List.mem_cons.mp h with rfl | h
      · exact ⟨0, by simp, by simp, by simp [isA_iff.mp ha]⟩
      · obtain ⟨k, hk, hb, hs⟩ := bas_mem es (f - 1) b h
        refine ⟨k + 1, by simpa using hk, ?_, ?_⟩
        · rw [List.take_succ_cons, List.map_cons, List.sum_cons, isA_iff.mp ha]
          omega
        · rw [List.take_succ_cons, List.map_cons, List.sum_cons, List.take_succ_cons, List.map_cons, List.sum_cons]
          omega
    · rw [if_neg ha] at h
      obtain ⟨k, hk, hb, hs⟩ := bas_mem es (f + 1) b h
      refine ⟨k + 1, by simpa using hk, ?_, ?_⟩
      · rw [List.take_succ_cons, List.map_cons, List.sum_cons, notA ha]
        omega
      · rw [List.take_succ_cons, List.map_cons, List.sum_cons, List.take_succ_cons, List.map_cons, List.sum_cons]
        omega
theorem step_low : ∀ es : List CE, -(es.length : Int) ≤ (es.map stepC).sum
  | [] => by simp
  | e :: es => by
    have := step_low es
    rw [List.map_cons, List.sum_cons, List.length_cons]
    have h : -1 ≤ stepC e := by
      by_cases ha : isA e = true
      · rw [isA_iff.mp ha]; decide
      · rw [notA ha]; decide
    omega
theorem bas_len : ∀ (es : List CE) (f : Int), (bas f es).length = (es.filter isA).length
  | [], _ => rfl
  | e :: es, f => by
    unfold bas
    by_cases ha : isA e = true
    · rw [if_pos ha, List.filter_cons_of_pos ha, List.length_cons, List.length_cons, bas_len]
    · rw [if_neg ha, List.filter_cons_of_neg ha, bas_len]
section
variable {H : Int} {ss : List (Int × Int)}
theorem bases_in (ok : TOk H ss) : ∀ b ∈ basesL H ss, 1 ≤ b ∧ b ≤ 48 := fun b hb => by
  unfold basesL at hb
  split at hb
  · simp at hb
  · rename_i hne
    obtain ⟨k, hk, e, hs⟩ := bas_mem _ _ _ hb
    have h1 := pre_le (H := H) hne (k + 1) (by omega)
    have h2 := step_low ((cir H ss).take k)
    have h3 : ((cir H ss).take k).length ≤ k := by simp; omega
    have h4 := cir_len (H := H) (ss := ss)
    have h5 := evs_len H ss
    have h6 := ok.len
    omega
theorem bases_len (ok : TOk H ss) : (basesL H ss).length = ss.length := by
  unfold basesL
  split
  · rename_i h
    rw [h]
    rfl
  · rw [bas_len]
    have := (arr_ships (H := H) (ss := ss)).length_eq
    simpa using this
def prL (bs : List Int) : Int := bs.foldl (fun a b => a * b) 1
theorem prL_snoc (bs : List Int) (b : Int) : prL (bs ++ [b]) = prL bs * b := by simp [prL, List.foldl_append]
theorem prL_range : ∀ (n : Nat) (bs : List Int), bs.length = n → (∀ b ∈ bs, 1 ≤ b ∧ b ≤ 48) → 1 ≤ prL bs ∧ prL bs ≤ 48 ^ n
  | 0, bs, hl, _ => by
    rw [List.length_eq_zero_iff.mp hl]
    exact ⟨by decide, by decide⟩
  | n + 1, bs, hl, h => by
    have hne : bs ≠ [] := fun e => by rw [e] at hl; cases hl
    have e := List.dropLast_concat_getLast hne
    have hb := h (bs.getLast hne) (List.getLast_mem hne)
    have ih := prL_range n bs.dropLast (by simp; omega) fun b hb => h b (List.dropLast_subset _ hb)
    rw [← e, prL_snoc]
    have p0 : (0 : Int) ≤ 48 ^ n := Int.le_of_lt (Int.pow_pos (by decide))
    have h1 : prL bs.dropLast * 1 ≤ prL bs.dropLast * bs.getLast hne := Int.mul_le_mul_of_nonneg_left hb.1 (by omega)
    have h2 : prL bs.dropLast * bs.getLast hne ≤ 48 ^ n * 48 := Int.mul_le_mul ih.2 hb.2 (by omega) p0
    rw [Int.pow_succ]
    omega
def many (H : Int) (ss : List (Int × Int)) : Int := prL (basesL H ss)
theorem pow_mono48 {n m : Nat} (h : n ≤ m) : (48 : Int) ^ n ≤ 48 ^ m := by
  induction h with
  | refl => exact Int.le_refl _
  | @step m _ ih =>
    rw [Int.pow_succ]
    have : (0 : Int) < 48 ^ m := Int.pow_pos (by decide)
    omega
theorem pow48 : (48 : Int) ^ 24 < 2 ^ 140 := by decide
theorem many_in (ok : TOk H ss) : 1 ≤ many H ss ∧ many H ss < 2 ^ 140 := by
  have h := prL_range _ (basesL H ss) rfl (bases_in ok)
  rw [bases_len ok] at h
  have hl := ok.len
  have p : (48 : Int) ^ ss.length ≤ 48 ^ 24 := pow_mono48 hl
  exact ⟨h.1, Int.lt_of_le_of_lt (Int.le_trans h.2 p) pow48⟩
theorem gIx_nat {ds : List PyData} {i : Nat} {d : PyData} (h : ds[i]? = some d) : gIx (.tuple ds) (.int (i : Int)) = some d := by
  have hi := (List.getElem?_eq_some_iff.mp h).1
  show atI ds i = _
  unfold atI ixN
  rw [if_pos (by omega), if_pos (by omega)]
  simpa using h
theorem abs140 {x : Int} (h1 : 0 ≤ x) (h2 : x < 2 ^ 140) : x.natAbs < 2 ^ 400 := by
  have h3 : (x.natAbs : Int) < ((2 ^ 140 : Nat) : Int) := by
    rw [Int.natAbs_of_nonneg h1]
    exact h2
  exact Nat.lt_trans (Int.ofNat_lt.mp h3) (by decide)
/-! digits -/
def dg : Int → List Int → List Int
  | _, [] => []
  | n, b :: bs => (n % b) :: dg (n / b) bs
theorem Dig.app : ∀ {a b c d : List Int}, Dig a b → Dig c d → Dig (a ++ c) (b ++ d)
  | [], [], _, _, _, h => h
  | _ :: _, _ :: _, _, _, h, g => ⟨h.1, h.2.app g⟩
  | [], _ :: _, _, _, h, _ => h.elim
  | _ :: _, [], _, _, h, _ => h.elim
theorem Dig.rev : ∀ {a b : List Int}, Dig a b → Dig a.reverse b.reverse
  | [], [], _ => trivial
  | x :: a, y :: b, h => by
    rw [List.reverse_cons, List.reverse_cons]
    exact h.2.rev.app ⟨h.1, trivial⟩
  | [], _ :: _, h => h.elim
  | _ :: _, [], h => h.elim
theorem dg_dig : ∀ (n : Int) (bs : List Int), (∀ b ∈ bs, 1 ≤ b) → Dig (dg n bs) bs
  | _, [], _ => trivial
  | n, b :: bs, h => by
    have hb := h b List.mem_cons_self
    have h1 := Int.emod_nonneg n (show b ≠ 0 by omega)
    have h2 := Int.emod_lt_of_pos n (show 0 < b by omega)
    exact ⟨⟨by omega, h2⟩, dg_dig (n / b) bs fun c hc => h c (List.mem_cons_of_mem _ hc)⟩
theorem dg_len : ∀ (n : Int) (bs : List Int), (dg n bs).length = bs.length
  | _, [] => rfl
  | n, b :: bs => by rw [dg, List.length_cons, List.length_cons, dg_len]
def digs (H : Int) (ss : List (Int × Int)) (n : Int) : List Int := (dg n (basesL H ss).reverse).reverse
theorem digs_dig (ok : TOk H ss) (n : Int) : Dig (digs H ss n) (basesL H ss) := by
  have := (dg_dig n (basesL H ss).reverse fun b hb => (bases_in ok b (List.mem_reverse.mp hb)).1).rev
  rwa [List.reverse_reverse] at this
end
end LawK01

namespace LawK01
open PySem L2 Am
section
variable {H : Int} {ss P : List (Int × Int)}
theorem sum_ge : ∀ {L : List Int}, (∀ x ∈ L, 0 ≤ x) → ∀ x ∈ L, x ≤ L.sum
  | y :: L, h, x, hx => by
    have h0 : 0 ≤ L.sum := by
      have : ∀ L : List Int, (∀ x ∈ L, 0 ≤ x) → 0 ≤ L.sum := fun L hL => by
        induction L with
        | nil => exact Int.le_refl _
        | cons a r ih =>
          rw [List.sum_cons]
          have := ih fun x hx => hL x (List.mem_cons_of_mem _ hx)
          have := hL a List.mem_cons_self
          omega
      exact this L fun x hx => h x (List.mem_cons_of_mem _ hx)
    rw [List.sum_cons]
    rcases List.mem_cons.mp hx with rfl | hx
    · omega
    · have := sum_ge (fun x hx => h x (List.mem_cons_of_mem _ hx)) x hx
      have := h y List.mem_cons_self
      omega
theorem pk_in (ok : TOk H ss) : pkOf H ss ≤ 60 := peak_ok ok
theorem PlanOk.days (ok : TOk H ss) (pl : PlanOk H ss P) : ∀ p ∈ P, 0 ≤ p.2 ∧ p.2 ≤ 60 := fun p hp => by
  have h1 := pl.pos p hp
  have h2 := sum_ge (L := P.map (·.2)) (fun x hx => by obtain ⟨q, hq, rfl⟩ := List.mem_map.mp hx; exact pl.pos q hq) p.2 (List.mem_map.mpr ⟨p, hp, rfl⟩)
  have h3 := pk_in ok
  rw [pl.sum] at h2
  omega
theorem PlanOk.ship (pl : PlanOk H ss P) : ∀ p ∈ P, 0 ≤ p.1 ∧ p.1 < ss.length := fun p hp => by
  have := pl.perm.mem_iff.mp (List.mem_map.mpr ⟨p, hp, rfl⟩)
  obtain ⟨i, hi, e⟩ := List.mem_map.mp this
  have := List.mem_range.mp hi
  omega
def gp (H : Int) (ss : List (Int × Int)) (i : Nat) (p : Int × Int) : Int := p.2 * H + (ss.getD p.1.toNat (0, 0)).1 - (ss.getD i (0, 0)).1 - (ss.getD i (0, 0)).2
theorem getD_of {l : List (Int × Int)} {i : Nat} {x : Int × Int} (h : l[i]? = some x) : l.getD i (0, 0) = x := by
  rw [List.getD_eq_getElem?_getD, h]
  rfl
/-! is_map -/
theorem all_true {α : Type} (L : List α) (f : α → PyData) (h : ∀ x ∈ L, f x = .bool true) : gAll [.list (L.map f)] = some (.bool true) := by
  have e : L.map f = (L.map fun _ => true).map PyData.bool := by
    rw [List.map_map]
    exact List.map_congr_left h
  unfold gAll
  rw [e]
  simp only [boolsD_map]
  simp
theorem add_all : ∀ (L acc : List Int), (acc ++ L).Nodup → L.foldl (fun a x => gAdd1 x a) acc = acc ++ L
  | [], acc, _ => by simp
  | x :: L, acc, h => by
    have hx : x ∉ acc := fun z => (List.nodup_append.mp h).2.2 x z x List.mem_cons_self rfl
    have e : gAdd1 x acc = acc ++ [x] := by
      unfold gAdd1
      rw [if_neg hx]
    rw [List.foldl_cons, e, add_all L (acc ++ [x]) (by simpa using h)]
    simp
end
end LawK01

namespace LawK01
open PySem L2 Am
section
variable {H : Int} {ss P : List (Int × Int)}
theorem gSum_ints (L : List Int) : gSum [.list (L.map PyData.int)] = some (.int L.sum) := by
  simp only [gSum, intsD_map]
  simp
theorem put_eQ {a : AEnv} (ts : List Tgt) (p : Int × Int) (i : Nat) : (Tgt.tp ts).put (eQ (p, i)) a = Tgt.puts ts [.int (i : Int), eS p] a := put_tp _ _
theorem peak_of_pk (ok : TOk H ss) : F_peak_of [eT H ss] = some (.ok (.dat (.int (pkOf H ss)))) := peak_of_spec ok.toTSh
theorem zip_P {q : Shp} (h : q ∈ P.zipIdx) : P[q.2]? = some q.1 := by
  obtain ⟨p, i⟩ := q
  have z := List.mem_zipIdx h
  simp at z
  rw [z.2]
  simp [z.1]
end
end LawK01

namespace LawK01
open PySem L2 Am
/-! ### repr: how long a text is -/
theorem textFrom_up : ∀ (ts : List Str) (k : Nat) (acc : Str), (textFrom k acc ts).length ≤ acc.length + piled ts
  | [], k, acc => by
    show acc.length ≤ _
    omega
  | t :: ts, k, acc => by
    have z := textFrom_up ts (k + 1) (acc ++ (if k > 0 then ", " else "" : String) ++ t)
    show (textFrom (k + 1) (acc ++ (if k > 0 then ", " else "" : String) ++ t) ts).length ≤ _
    have e : (((if k > 0 then ", " else "" : String)) : Str).length ≤ 2 := by split <;> decide
    rw [strLen_append, strLen_append] at z
    rw [piled_cons]
    omega
theorem listText_up (ts : List Str) : (listText ts).length ≤ 2 + piled ts := by
  unfold listText
  rw [strLen_append]
  have z := textFrom_up ts 0 "["
  have e1 : ((("[" : String)) : Str).length = 1 := rfl
  have e2 : ((("]" : String)) : Str).length = 1 := rfl
  omega
theorem tupleText_up (ts : List Str) : (tupleText ts).length ≤ 3 + piled ts := by
  unfold tupleText
  rw [strLen_append, strLen_append]
  have e1 : ((("(" : String)) : Str).length = 1 := rfl
  have e2 : (((if ts.length == 1 then ",)" else ")" : String)) : Str).length ≤ 2 := by split <;> decide
  cases ts with
  | nil =>
    have : (Str.join ", " ([] : List Str)).length = 0 := rfl
    omega
  | cons t r =>
    have z := join_length_add (t :: r) (by simp)
    omega
structure Pr (n m : Nat) (d : PyData) : Prop where
  s : d.showable = true
  dp : d.depth ≤ n
  l : d.shown.length ≤ m
theorem Pr.mono {n m n' m' : Nat} {d : PyData} (h : Pr n m d) (hn : n ≤ n') (hm : m ≤ m') : Pr n' m' d := ⟨h.s, Nat.le_trans h.dp hn, Nat.le_trans h.l hm⟩
theorem Pr.int {i : Int} (h1 : -(10 ^ 30) < i) (h2 : i < 10 ^ 30) : Pr 0 31 (.int i) := by
  have e : (10 : Int) ^ 30 = 1000000000000000000000000000000 := by decide
  have e2 : (10 : Nat) ^ 30 = 1000000000000000000000000000000 := by decide
  rw [e] at h1 h2
  refine ⟨decide_eq_true (Nat.lt_trans (log2_small (Nat.lt_trans (show i.natAbs < 10 ^ 30 by omega) (by decide))) (by decide)), Nat.zero_le _, ?_⟩
  show (Str.ofString (toString i)).length ≤ 31
  rw [PySem.ofString_length]
  exact int_text_length_le10 (k := 30) (by decide) (by omega)
theorem Pr.all {n m : Nat} : ∀ {ds : List PyData}, (∀ d ∈ ds, Pr n m d) → PyData.showableAll ds = true ∧ PyData.depthAll ds ≤ n ∧ piled (PyData.shownAll ds) ≤ (m + 2) * ds.length
  | [], _ => ⟨rfl, Nat.zero_le _, Nat.zero_le _⟩
  | d :: ds, h => by
    obtain ⟨i1, i2, i3⟩ := Pr.all fun e he => h e (List.mem_cons_of_mem _ he)
    have h0 := h d List.mem_cons_self
    refine ⟨?_, ?_, ?_⟩
    · show (d.showable && PyData.showableAll ds) = true
      rw [h0.s, i1]
      rfl
    · show max d.depth (PyData.depthAll ds) ≤ n
      exact Nat.max_le.mpr ⟨h0.dp, i2⟩
    · show piled (d.shown :: PyData.shownAll ds) ≤ _
      rw [piled_cons, List.length_cons, Nat.mul_succ]
      have := h0.l
      omega
theorem Pr.lst {n m : Nat} {ds : List PyData} (h : ∀ d ∈ ds, Pr n m d) : Pr (n + 1) (2 + (m + 2) * ds.length) (.list ds) := by
  obtain ⟨i1, i2, i3⟩ := Pr.all h
  exact ⟨i1, Nat.succ_le_succ i2, Nat.le_trans (listText_up _) (Nat.add_le_add_left i3 2)⟩
theorem Pr.tup {n m : Nat} {ds : List PyData} (h : ∀ d ∈ ds, Pr n m d) : Pr (n + 1) (3 + (m + 2) * ds.length) (.tuple ds) := by
  obtain ⟨i1, i2, i3⟩ := Pr.all h
  exact ⟨i1, Nat.succ_le_succ i2, Nat.le_trans (tupleText_up _) (Nat.add_le_add_left i3 3)⟩
theorem Pr.can {n m : Nat} {d : PyData} (h : Pr n m d) (hn : n ≤ 60) (hm : m ≤ 16777216) : canRepr d = true := by
  unfold canRepr
  rw [h.s, decide_eq_true (Nat.le_trans h.dp hn), decide_eq_true (show d.shown.length ≤ lineN from Nat.le_trans h.l hm)]
  rfl
theorem gRepr_of {d : PyData} (h : canRepr d = true) : gRepr [d] = some (.str d.shown) := by
  show (if canRepr d = true then some (PyData.str d.shown) else none) = _
  rw [if_pos h]
theorem gNe_str (x : Str) : gNeA (.str x) (.str x) = some false := by
  unfold gNeA gEqA
  simp
theorem p30 : (10 : Int) ^ 30 = 1000000000000000000000000000000 := by decide
theorem Pr.pair {p : Int × Int} (h1 : -1000000 ≤ p.1 ∧ p.1 ≤ 1000000) (h2 : -1000000 ≤ p.2 ∧ p.2 ≤ 1000000) : Pr 1 69 (eS p) := by
  have q := Pr.tup (n := 0) (m := 31) (ds := [.int p.1, .int p.2]) fun d hd => by
    simp at hd
    rcases hd with rfl | rfl <;> exact Pr.int (by rw [p30]; omega) (by rw [p30]; omega)
  exact q
theorem Pr.pairs {L : List (Int × Int)} (hl : L.length ≤ 100) (h : ∀ p ∈ L, (-1000000 ≤ p.1 ∧ p.1 ≤ 1000000) ∧ (-1000000 ≤ p.2 ∧ p.2 ≤ 1000000)) : Pr 2 10000 (.tuple (L.map eS)) := by
  have q := Pr.tup (n := 1) (m := 69) (ds := L.map eS) fun d hd => by
    obtain ⟨p, hp, rfl⟩ := List.mem_map.mp hd
    exact Pr.pair (h p hp).1 (h p hp).2
  exact q.mono (Nat.le_refl _) (by rw [List.length_map]; omega)
section
variable {H : Int} {ss P : List (Int × Int)}
theorem Pr.table (ok : TOk H ss) : Pr 3 30000 (eT H ss) := by
  have h1 := ok.h1
  have h2 := ok.h2
  have hl := ok.len
  have a := Pr.pairs (L := ss) (by omega) fun p hp => by
    have := ok.ship p hp
    omega
  have b : Pr 0 31 (.int H) := Pr.int (by rw [p30]; omega) (by rw [p30]; omega)
  have q := Pr.tup (n := 2) (m := 10000) (ds := [.int H, .tuple (ss.map eS)]) fun d hd => by
    simp at hd
    rcases hd with rfl | rfl
    · exact b.mono (by omega) (by omega)
    · exact a
  exact q.mono (by omega) (by simp)
theorem Pr.plan (ok : TOk H ss) (pl : PlanOk H ss P) : Pr 2 10000 (.tuple (P.map eS)) := by
  have hl := ok.len
  have pln := pl.len
  refine Pr.pairs (by omega) fun p hp => ?_
  have := pl.days ok p hp
  have := pl.ship p hp
  omega
theorem both_can (ok : TOk H ss) (pl : PlanOk H ss P) : canRepr (.list [eT H ss, .tuple (P.map eS)]) = true := by
  have a := Pr.table ok
  have b := Pr.plan ok pl
  have q := Pr.lst (n := 3) (m := 30000) (ds := [eT H ss, .tuple (P.map eS)]) fun d hd => by
    simp at hd
    rcases hd with rfl | rfl
    · exact a
    · exact b.mono (by omega) (by omega)
  exact q.can (by omega) (by simp)
theorem ints_can {L : List Int} (hl : L.length ≤ 1000) (h : ∀ i ∈ L, -1000000000000 ≤ i ∧ i ≤ 1000000000000) : canRepr (.list (L.map PyData.int)) = true := by
  have q := Pr.lst (n := 0) (m := 31) (ds := L.map PyData.int) fun d hd => by
    obtain ⟨i, hi, rfl⟩ := List.mem_map.mp hd
    have := h i hi
    exact Pr.int (by rw [p30]; omega) (by rw [p30]; omega)
  exact q.can (by omega) (by rw [List.length_map]; omega)
theorem int_can {i : Int} (h1 : -(10 ^ 30) < i) (h2 : i < 10 ^ 30) : canRepr (.int i) = true := (Pr.int h1 h2).can (by omega) (by omega)
end
end LawK01

namespace LawK01
open PySem L2 Am
section
variable {H : Int} {ss P : List (Int × Int)}
/-! plans by number, without ships too -/
theorem nil_ok : PlanOk H [] [] := ⟨rfl, List.Perm.refl _, fun _ h => by simp at h, fun i p q h _ => by simp at h, rfl⟩
end
end LawK01

namespace LawK01
open PySem L2 Am
/-! ### runs from an empty harbour, and the steady day (for the laws' own events) -/
theorem nodup_perm : ∀ {l m : List (List Int)}, l.Nodup → m.Nodup → (∀ x, x ∈ l ↔ x ∈ m) → l.Perm m
  | [], m, _, _, h => by
    cases m with
    | nil => exact List.Perm.refl _
    | cons y m => exact absurd ((h y).mpr List.mem_cons_self) (by simp)
  | x :: l, m, n1, n2, h => by
    have nd := List.nodup_cons.mp n1
    have hx : x ∈ m := (h x).mp List.mem_cons_self
    have p := List.perm_cons_erase hx
    refine (List.Perm.cons x (nodup_perm nd.2 (n2.erase x) fun y => ?_)).trans p.symm
    rw [List.Nodup.mem_erase_iff n2]
    constructor
    · intro hy
      exact ⟨fun e => nd.1 (by rw [← e]; exact hy), (h y).mp (List.mem_cons_of_mem _ hy)⟩
    · intro ⟨hne, hy⟩
      rcases List.mem_cons.mp ((h y).mpr hy) with e | hy
      · exact absurd e hne
      · exact hy
/-- an event of the steady day, on day D -/
def sh (H D : Int) (l : List Int) : List Int := [l.getD 0 0 + D * H, l.getD 1 0, l.getD 3 0 + (D + l.getD 2 0) * H, l.getD 4 0, D + l.getD 2 0]
def aEv (H : Int) (q : Shp) (d : Int) : List Int := [d * H + q.1.1, 1, d * H + q.1.1, (q.2 : Int), d]
def dEv (H : Int) (q : Shp) (d : Int) : List Int := [d * H + q.1.1 + q.1.2, 0, d * H + q.1.1, (q.2 : Int), d]
def ago (H : Int) (q : Shp) : Int := (q.1.1 + q.1.2) / H
def runU (H : Int) (ss : List (Int × Int)) (n : Nat) : List (List Int) := (List.range n).flatMap fun d : Nat => ss.zipIdx.flatMap fun q => [aEv H q (d : Int), dEv H q (d : Int)]
section
variable {H : Int} {ss : List (Int × Int)}
theorem aEv_sh (q : Shp) (d : Int) : aEv H q d = sh H d (arr q) := by
  show [_, _, _, _, _] = [q.1.1 + d * H, 1, q.1.1 + (d + 0) * H, (q.2 : Int), d + 0]
  rw [Int.add_zero, Int.add_comm q.1.1]
theorem dEv_sh (q : Shp) (d : Int) : dEv H q d = sh H (d + ago H q) (dep H q) := by
  show [_, _, _, _, _] = [(q.1.1 + q.1.2) % H + (d + ago H q) * H, 0, q.1.1 + (d + ago H q + -((q.1.1 + q.1.2) / H)) * H, (q.2 : Int), d + ago H q + -((q.1.1 + q.1.2) / H)]
  have e := Int.mul_ediv_add_emod (q.1.1 + q.1.2) H
  have e2 : d + ago H q + -((q.1.1 + q.1.2) / H) = d := by unfold ago; omega
  rw [e2]
  have e3 : (d + ago H q) * H = d * H + H * ((q.1.1 + q.1.2) / H) := by unfold ago; rw [Int.add_mul, Int.mul_comm H]
  congr 1
  · omega
  · congr 2
    omega
theorem run_mem {n : Nat} {e : List Int} : e ∈ runU H ss n ↔ ∃ d : Nat, d < n ∧ ∃ q ∈ ss.zipIdx, e = aEv H q (d : Int) ∨ e = dEv H q (d : Int) := by
  unfold runU
  constructor
  · intro h
    obtain ⟨d, hd, h⟩ := List.mem_flatMap.mp h
    obtain ⟨q, hq, h⟩ := List.mem_flatMap.mp h
    refine ⟨d, List.mem_range.mp hd, q, hq, ?_⟩
    simpa using h
  · rintro ⟨d, hd, q, hq, h⟩
    refine List.mem_flatMap.mpr ⟨d, List.mem_range.mpr hd, List.mem_flatMap.mpr ⟨q, hq, ?_⟩⟩
    simpa using h
theorem zip_inj {q q' : Shp} (h : q ∈ ss.zipIdx) (h' : q' ∈ ss.zipIdx) (e : q.2 = q'.2) : q = q' := by
  have a := zip_at h
  have b := zip_at h'
  rw [e, b] at a
  obtain ⟨p, i⟩ := q
  obtain ⟨p', i'⟩ := q'
  have e2 : p' = p := Option.some.inj a
  have e3 : i = i' := e
  rw [e2, e3]
theorem run_nodup (n : Nat) : (runU H ss n).Nodup := by
  unfold runU
  refine List.pairwise_flatMap.mpr ⟨fun d hd => List.pairwise_flatMap.mpr ⟨fun q hq => ?_, ?_⟩, ?_⟩
  · refine List.pairwise_cons.mpr ⟨fun y hy e => ?_, List.pairwise_singleton _ _⟩
    rw [List.mem_singleton.mp hy] at e
    have z := congrArg (fun l : List Int => l.getD 1 0) e
    exact absurd z (by show ¬ (1 : Int) = 0; decide)
  · have nd := zip_nodup ss
    have nd' := List.pairwise_map.mp nd
    refine nd'.imp fun {q q'} h x hx y hy e => h ?_
    have k : x.getD 3 0 = (q.2 : Int) := by
      simp at hx
      rcases hx with rfl | rfl <;> rfl
    have k' : y.getD 3 0 = (q'.2 : Int) := by
      simp at hy
      rcases hy with rfl | rfl <;> rfl
    rw [← k, ← k', e]
  · refine (List.nodup_range (n := n)).imp fun {d d'} h x hx y hy e => h ?_
    obtain ⟨q, _, hx⟩ := List.mem_flatMap.mp hx
    obtain ⟨q', _, hy⟩ := List.mem_flatMap.mp hy
    have k : x.getD 4 0 = (d : Int) := by
      simp at hx
      rcases hx with rfl | rfl <;> rfl
    have k' : y.getD 4 0 = (d' : Int) := by
      simp at hy
      rcases hy with rfl | rfl <;> rfl
    have : (d : Int) = (d' : Int) := by rw [← k, ← k', e]
    omega
end
end LawK01

namespace LawK01
open PySem L2 Am
section
variable {H : Int} {ss : List (Int × Int)}
theorem evs_form (ok : TOk H ss) {a : List Int} (ha : a ∈ evs H ss) : ∃ u k n w i, a = [u, k, n, w, i] ∧ 0 ≤ w ∧ w < H ∧ 0 ≤ u ∧ u < H := by
  have hh := evs_hour ok ha
  rcases evs_mem ha with ⟨q, hq, rfl⟩ | ⟨q, hq, rfl⟩
  · have y := ok.ship _ (zip_mem hq).1
    exact ⟨_, _, _, _, _, rfl, y.1, y.2.1, hh⟩
  · have y := ok.ship _ (zip_mem hq).1
    exact ⟨_, _, _, _, _, rfl, y.1, y.2.1, hh⟩
/-- the days keep the order -/
theorem sh_lex (ok : TOk H ss) (D : Int) {a b : List Int} (ha : a ∈ evs H ss) (hb : b ∈ evs H ss) : lexL (sh H D a) (sh H D b) = lexL a b := by
  obtain ⟨u, k, n, w, i, rfl, w1, w2, _⟩ := evs_form ok ha
  obtain ⟨u', k', n', w', i', rfl, x1, x2, _⟩ := evs_form ok hb
  show lexL [u + D * H, k, w + (D + n) * H, i, D + n] [u' + D * H, k', w' + (D + n') * H, i', D + n'] = lexL [u, k, n, w, i] [u', k', n', w', i']
  have h1 := ok.h1
  have d1 : (D + n) * H = D * H + n * H := Int.add_mul _ _ _
  have d2 : (D + n') * H = D * H + n' * H := Int.add_mul _ _ _
  rw [d1, d2]
  by_cases e1 : u = u'
  · subst e1
    by_cases e2 : k = k'
    · subst e2
      simp only [lexL, if_true]
      rcases Int.lt_trichotomy n n' with c | c | c
      · have z : (n + 1) * H ≤ n' * H := Int.mul_le_mul_of_nonneg_right (by omega) (by omega)
        rw [Int.add_mul, Int.one_mul] at z
        rw [if_neg (by omega), if_neg (by omega), decide_eq_true (by omega), decide_eq_true c]
      · subst c
        by_cases e3 : w = w'
        · subst e3
          by_cases e4 : i = i'
          · subst e4
            simp
          · simp [e4]
        · simp [e3]
      · have z : (n' + 1) * H ≤ n * H := Int.mul_le_mul_of_nonneg_right (by omega) (by omega)
        rw [Int.add_mul, Int.one_mul] at z
        rw [if_neg (by omega), if_neg (by omega), decide_eq_false (by omega), decide_eq_false (by omega)]
    · simp only [lexL, if_true, if_neg e2]
  · have e1' : ¬ u + D * H = u' + D * H := by omega
    simp only [lexL, if_neg e1, if_neg e1']
    exact decide_eq_decide.mpr (by omega)
theorem sh_inj {D : Int} {a b : List Int} (ha : a ∈ evs H ss) (hb : b ∈ evs H ss) (e : sh H D a = sh H D b) : a = b := by
  obtain ⟨a0, a1, a2, a3, a4, rfl⟩ := evs_shape ha
  obtain ⟨b0, b1, b2, b3, b4, rfl⟩ := evs_shape hb
  unfold sh at e
  simp at e
  obtain ⟨e0, e1, e3, e4, e2⟩ := e
  subst e2
  have e5 : a3 = b3 := by omega
  rw [e0, e1, e5, e4]
def onDay (H : Int) (D : Int) (e : List Int) : Bool := decide (D * H ≤ e.getD 0 0 ∧ e.getD 0 0 < (D + 1) * H)
theorem sh_day (ok : TOk H ss) {D D' : Int} {l : List Int} (hl : l ∈ evs H ss) : onDay H D (sh H D' l) = true ↔ D = D' := by
  have h := evs_hour ok hl
  have h1 := ok.h1
  have e : (sh H D' l).getD 0 0 = l.getD 0 0 + D' * H := rfl
  unfold onDay
  rw [decide_eq_true_iff, e]
  constructor
  · intro ⟨a, b⟩
    rcases Int.lt_trichotomy D D' with c | c | c
    · have z : (D + 1) * H ≤ D' * H := Int.mul_le_mul_of_nonneg_right (by omega) (by omega)
      omega
    · exact c
    · have z : (D' + 1) * H ≤ D * H := Int.mul_le_mul_of_nonneg_right (by omega) (by omega)
      rw [Int.add_mul] at z
      omega
  · intro e
    subst e
    rw [Int.add_mul]
    omega
theorem arr_in {q : Shp} (h : q ∈ ss.zipIdx) : arr q ∈ evs H ss := (evs_perm H ss).mem_iff.mpr (List.mem_append_right _ (List.mem_map.mpr ⟨q, h, rfl⟩))
theorem dep_in {q : Shp} (h : q ∈ ss.zipIdx) : dep H q ∈ evs H ss := (evs_perm H ss).mem_iff.mpr (List.mem_append_left _ (List.mem_map.mpr ⟨q, h, rfl⟩))
def runL (H : Int) (ss : List (Int × Int)) (n : Nat) : List (List Int) := srtL (runU H ss n)
theorem run_asc (n : Nat) : Asc lexL (runL H ss n) := isort_asc (lt := lexL) (fun _ _ => lexL_asym) (fun _ _ _ => lexL_tr) _
theorem runL_mem {n : Nat} {e : List Int} : e ∈ runL H ss n ↔ e ∈ runU H ss n := (isort_perm lexL _).mem_iff
theorem runL_nodup (n : Nat) : (runL H ss n).Nodup := (isort_perm lexL _).nodup_iff.mpr (run_nodup n)
theorem asc_same {l m : List (List Int)} (h1 : Asc lexL l) (h2 : Asc lexL m) (n1 : l.Nodup) (n2 : m.Nodup) (h : ∀ x, x ∈ l ↔ x ∈ m) : l = m := by
  have p := nodup_perm n1 n2 h
  rw [srtL_eq p h1]
  exact (srtL_eq (List.Perm.refl _) h2).symm
theorem sh_asc (ok : TOk H ss) (D : Int) : Asc lexL ((evs H ss).map (sh H D)) := by
  have a := evs_asc H ss
  unfold Asc at a ⊢
  rw [List.pairwise_map]
  exact a.imp_of_mem fun {x y} hx hy q => by rw [sh_lex ok D hy hx]; exact q
theorem sh_nodup (ok : TOk H ss) (D : Int) : ((evs H ss).map (sh H D)).Nodup := by
  have n := evs_nodup H ss
  unfold List.Nodup at n ⊢
  rw [List.pairwise_map]
  exact n.imp_of_mem fun {x y} hx hy q e => q (sh_inj hx hy e)
/-- a day on which all stays are known, told by the steady day -/
theorem day_part (ok : TOk H ss) {n D : Nat} (hD : D < n) (ha : ∀ q ∈ ss.zipIdx, 0 ≤ ago H q ∧ ago H q ≤ (D : Int)) : (runL H ss n).filter (onDay H (D : Int)) = (evs H ss).map (sh H (D : Int)) := by
  refine asc_same ((run_asc n).sublist List.filter_sublist) (sh_asc ok _) ((runL_nodup n).sublist List.filter_sublist) (sh_nodup ok _) fun x => ?_
  rw [List.mem_filter, runL_mem, run_mem, List.mem_map]
  constructor
  · rintro ⟨⟨d, hd, q, hq, e | e⟩, on⟩
    · rw [e, aEv_sh] at on ⊢
      have := (sh_day ok (arr_in hq)).mp on
      exact ⟨arr q, arr_in hq, by rw [this]⟩
    · rw [e, dEv_sh] at on ⊢
      have := (sh_day ok (dep_in hq)).mp on
      exact ⟨dep H q, dep_in hq, by rw [this]⟩
  · rintro ⟨l, hl, rfl⟩
    refine ⟨?_, (sh_day ok hl).mpr rfl⟩
    rcases evs_mem hl with ⟨q, hq, rfl⟩ | ⟨q, hq, rfl⟩
    · have := ha q hq
      refine ⟨(((D : Int) - ago H q)).toNat, by omega, q, hq, .inr ?_⟩
      rw [dEv_sh, Int.toNat_of_nonneg (by omega)]
      congr 1
      omega
    · exact ⟨D, hD, q, hq, .inl (aEv_sh q _).symm⟩
end
end LawK01

namespace LawK01
open PySem L2 Am
theorem sum_flatG {α : Type} (f : List Int → Int) (g : α → List (List Int)) : ∀ xs : List α, ((xs.flatMap g).map f).sum = (xs.map fun x => ((g x).map f).sum).sum
  | [] => rfl
  | x :: xs => by rw [List.flatMap_cons, List.map_append, List.sum_append, sum_flatG f g xs, List.map_cons, List.sum_cons]
theorem sum_zero {α : Type} : ∀ xs : List α, (xs.map fun _ => (0 : Int)).sum = 0
  | [] => rfl
  | _ :: xs => by rw [List.map_cons, List.sum_cons, sum_zero xs]; rfl
theorem sum_swap {α β : Type} (f : α → β → Int) (ys : List β) : ∀ xs : List α, (xs.map fun x => (ys.map (f x)).sum).sum = (ys.map fun y => (xs.map fun x => f x y).sum).sum
  | [] => by
    show (0 : Int) = (ys.map fun y => (0 : Int)).sum
    rw [sum_zero]
  | x :: xs => by
    rw [List.map_cons, List.sum_cons, sum_swap f ys xs, ← sum_add (f x) (fun y => (xs.map fun x => f x y).sum)]
    rfl
/-- how many of the days below n lie before m, and m itself if b -/
theorem gsum (m : Int) (b : Bool) : ∀ n : Nat, ((List.range n).map fun d : Nat => if (d : Int) < m ∨ ((d : Int) = m ∧ b = true) then (1 : Int) else 0).sum =
    (if m < 0 then 0 else if (n : Int) ≤ m then (n : Int) else m + if b = true then 1 else 0)
  | 0 => by
    show (0 : Int) = _
    split
    · rfl
    · rw [if_pos (by omega)]
      rfl
  | n + 1 => by
    rw [List.range_succ, List.map_append, List.sum_append, gsum m b n]
    simp only [List.map_cons, List.map_nil, List.sum_cons, List.sum_nil]
    cases b <;> simp only [Bool.false_eq_true, and_false, or_false, and_true, if_false, if_true] <;> split <;> split <;> (try split) <;> (try split) <;> omega
section
variable {H : Int} {ss : List (Int × Int)}
theorem sh_cmp (ok : TOk H ss) {Dx D : Int} {l m : List Int} (hl : l ∈ evs H ss) (hm : m ∈ evs H ss) : (!lexL (sh H Dx l) (sh H D m)) = true ↔ D < Dx ∨ (D = Dx ∧ (!lexL l m) = true) := by
  have h1 := ok.h1
  rcases Int.lt_trichotomy D Dx with c | c | c
  · have : lexL (sh H Dx l) (sh H D m) = false := by
      obtain ⟨u, k, n, w, i, rfl, _, _, u1, u2⟩ := evs_form ok hl
      obtain ⟨u', k', n', w', i', rfl, _, _, x1, x2⟩ := evs_form ok hm
      have z : (D + 1) * H ≤ Dx * H := Int.mul_le_mul_of_nonneg_right (by omega) (by omega)
      rw [Int.add_mul] at z
      show (if u + Dx * H = u' + D * H then _ else decide (u + Dx * H < u' + D * H)) = false
      rw [if_neg (by omega)]
      exact decide_eq_false (by omega)
    rw [this]
    exact ⟨fun _ => .inl c, fun _ => rfl⟩
  · subst c
    rw [sh_lex ok D hl hm]
    exact ⟨fun h => .inr ⟨rfl, h⟩, fun h => h.elim (fun z => absurd z (by omega)) fun z => z.2⟩
  · have : lexL (sh H Dx l) (sh H D m) = true := by
      obtain ⟨u, k, n, w, i, rfl, _, _, u1, u2⟩ := evs_form ok hl
      obtain ⟨u', k', n', w', i', rfl, _, _, x1, x2⟩ := evs_form ok hm
      have z : (Dx + 1) * H ≤ D * H := Int.mul_le_mul_of_nonneg_right (by omega) (by omega)
      rw [Int.add_mul] at z
      show (if u + Dx * H = u' + D * H then _ else decide (u + Dx * H < u' + D * H)) = true
      rw [if_neg (by omega)]
      exact decide_eq_true (by omega)
    rw [this]
    exact ⟨fun h => absurd h (by simp), fun h => by omega⟩
/-- how many calls of a ship the run has at a moment -/
def wR (H : Int) (n : Nat) (x : List Int) (q : Shp) : Int := ((List.range n).map fun d : Nat => (if (!lexL x (aEv H q (d : Int))) = true then (1 : Int) else 0) + (if (!lexL x (dEv H q (d : Int))) = true then (-1 : Int) else 0)).sum
theorem run_level (n : Nat) (x : List Int) : tot 0 ((runL H ss n).filter fun e => !lexL x e) = (ss.zipIdx.map (wR H n x)).sum := by
  unfold tot
  rw [sum_filter]
  have pm : (runL H ss n).Perm (runU H ss n) := isort_perm lexL _
  rw [sum_perm (pm.map _)]
  unfold runU
  rw [sum_flatG]
  have e1 : ∀ d : Nat, ((ss.zipIdx.flatMap fun q => [aEv H q (d : Int), dEv H q (d : Int)]).map fun l => if (!lexL x l) = true then stepI l else 0).sum = (ss.zipIdx.map fun q => (if (!lexL x (aEv H q (d : Int))) = true then (1 : Int) else 0) + (if (!lexL x (dEv H q (d : Int))) = true then (-1 : Int) else 0)).sum := fun d => by
    rw [sum_flatG]
    congr 1
    refine List.map_congr_left fun q _ => ?_
    have s1 : stepI (aEv H q (d : Int)) = 1 := rfl
    have s2 : stepI (dEv H q (d : Int)) = -1 := rfl
    simp only [List.map_cons, List.map_nil, List.sum_cons, List.sum_nil, s1, s2]
    omega
  have e2 : ((List.range n).map fun d : Nat => ((ss.zipIdx.flatMap fun q => [aEv H q (d : Int), dEv H q (d : Int)]).map fun l => if (!lexL x l) = true then stepI l else 0).sum) = (List.range n).map fun d : Nat => (ss.zipIdx.map fun q => (if (!lexL x (aEv H q (d : Int))) = true then (1 : Int) else 0) + (if (!lexL x (dEv H q (d : Int))) = true then (-1 : Int) else 0)).sum := List.map_congr_left fun d _ => e1 d
  rw [e2, sum_swap]
  unfold wR
  omega
theorem wR_val (ok : TOk H ss) {n : Nat} {Dx : Int} {l : List Int} (hl : l ∈ evs H ss) {q : Shp} (hq : q ∈ ss.zipIdx) : wR H n (sh H Dx l) q =
    (if Dx < 0 then 0 else if (n : Int) ≤ Dx then (n : Int) else Dx + if (!lexL l (arr q)) = true then 1 else 0) - (if Dx - ago H q < 0 then 0 else if (n : Int) ≤ Dx - ago H q then (n : Int) else Dx - ago H q + if (!lexL l (dep H q)) = true then 1 else 0) := by
  rw [← gsum Dx (!lexL l (arr q)) n, ← gsum (Dx - ago H q) (!lexL l (dep H q)) n]
  unfold wR
  rw [sum_add]
  have e1 : ∀ d : Nat, (if (!lexL (sh H Dx l) (aEv H q (d : Int))) = true then (1 : Int) else 0) = if (d : Int) < Dx ∨ ((d : Int) = Dx ∧ (!lexL l (arr q)) = true) then (1 : Int) else 0 := fun d => by
    rw [aEv_sh]
    by_cases c : (!lexL (sh H Dx l) (sh H (d : Int) (arr q))) = true
    · rw [if_pos c, if_pos ((sh_cmp ok hl (arr_in hq)).mp c)]
    · rw [if_neg c, if_neg (fun z => c ((sh_cmp ok hl (arr_in hq)).mpr z))]
  have e2 : ∀ d : Nat, (if (!lexL (sh H Dx l) (dEv H q (d : Int))) = true then (-1 : Int) else 0) = -(if (d : Int) < Dx - ago H q ∨ ((d : Int) = Dx - ago H q ∧ (!lexL l (dep H q)) = true) then (1 : Int) else 0) := fun d => by
    rw [dEv_sh]
    by_cases c : (!lexL (sh H Dx l) (sh H ((d : Int) + ago H q) (dep H q))) = true
    · rw [if_pos c, if_pos]
      rcases (sh_cmp ok hl (dep_in hq)).mp c with z | ⟨z, z2⟩
      · exact .inl (by omega)
      · exact .inr ⟨by omega, z2⟩
    · rw [if_neg c, if_neg]
      · rfl
      · rintro (z | ⟨z, z2⟩)
        · exact c ((sh_cmp ok hl (dep_in hq)).mpr (.inl (by omega)))
        · exact c ((sh_cmp ok hl (dep_in hq)).mpr (.inr ⟨by omega, z2⟩))
  have n1 : ∀ (f : Nat → Int) (L : List Nat), (L.map fun d => -f d).sum = -(L.map f).sum := fun f L => by
    induction L with
    | nil => rfl
    | cons a r ih => rw [List.map_cons, List.sum_cons, ih, List.map_cons, List.sum_cons]; omega
  rw [List.map_congr_left (fun d _ => e1 d), List.map_congr_left (fun d _ => e2 d), n1]
  omega
/-- never more than on the steady day; as many once all stays are known -/
theorem wR_le (ok : TOk H ss) {n : Nat} {Dx : Int} (h0 : 0 ≤ Dx) {l : List Int} (hl : l ∈ evs H ss) {q : Shp} (hq : q ∈ ss.zipIdx) : wR H n (sh H Dx l) q ≤ wS H l q ∧ (ago H q ≤ Dx → Dx < n → wR H n (sh H Dx l) q = wS H l q) := by
  have b := (wS_bound l ok.h1 (ok.ship _ (zip_mem hq).1)).1
  have a0 : 0 ≤ ago H q := Int.ediv_nonneg (by have := ok.ship _ (zip_mem hq).1; omega) (by have := ok.h1; omega)
  rw [wR_val ok hl hq]
  unfold wS at b ⊢
  have e : (q.1.1 + q.1.2) / H = ago H q := rfl
  rw [e] at b ⊢
  generalize lexL l (arr q) = b1 at b ⊢
  generalize lexL l (dep H q) = b2 at b ⊢
  cases b1 <;> cases b2 <;> simp only [Bool.not_true, Bool.not_false, Bool.false_eq_true, if_true, if_false] at b ⊢ <;> refine ⟨?_, fun c1 c2 => ?_⟩ <;> split <;> split <;> (try split) <;> (try split) <;> omega
end
end LawK01

namespace LawK01
open PySem L2 Am
def tBel (t : Int) (e : List Int) : Bool := decide (e.getD 0 0 < t)
theorem asc_split (t : Int) : ∀ {L : List (List Int)}, Asc lexL L → (∀ e ∈ L, e ≠ []) → L = L.filter (tBel t) ++ L.filter fun e => !tBel t e
  | [], _, _ => rfl
  | x :: L, asc, ne => by
    have asc' := List.pairwise_cons.mp asc
    by_cases h : tBel t x = true
    · rw [List.filter_cons_of_pos h, List.filter_cons_of_neg (by simp [h]), List.cons_append, ← asc_split t asc'.2 fun e he => ne e (List.mem_cons_of_mem _ he)]
    · have all : ∀ e ∈ x :: L, tBel t e = false := fun e he => by
        rcases List.mem_cons.mp he with rfl | he
        · simpa using h
        · have := time_le (ne x List.mem_cons_self) (ne e (List.mem_cons_of_mem _ he)) (asc'.1 e he)
          have hx : ¬ x.getD 0 0 < t := fun z => h (decide_eq_true z)
          exact decide_eq_false (by omega)
      rw [List.filter_eq_nil_iff.mpr (fun e he => by rw [all e he]; exact Bool.false_ne_true), List.nil_append, List.filter_eq_self.mpr (fun e he => by rw [all e he]; rfl)]
section
variable {H : Int} {ss : List (Int × Int)}
theorem run_form (ok : TOk H ss) {n : Nat} {x : List Int} (h : x ∈ runL H ss n) : ∃ (D : Int) (l : List Int), 0 ≤ D ∧ l ∈ evs H ss ∧ x = sh H D l := by
  obtain ⟨d, hd, q, hq, e | e⟩ := run_mem.mp (runL_mem.mp h)
  · exact ⟨d, arr q, by omega, arr_in hq, e.trans (aEv_sh q _)⟩
  · have a0 : 0 ≤ ago H q := Int.ediv_nonneg (by have := ok.ship _ (zip_mem hq).1; omega) (by have := ok.h1; omega)
    exact ⟨d + ago H q, dep H q, by omega, dep_in hq, e.trans (dEv_sh q _)⟩
theorem run_ne {n : Nat} {x : List Int} (h : x ∈ runL H ss n) : x ≠ [] := by
  obtain ⟨d, hd, q, hq, e | e⟩ := run_mem.mp (runL_mem.mp h) <;> rw [e] <;> exact fun z => nomatch z
/-- the run's events: before day s, day s, day s + 1, later -/
theorem run_cut (ok : TOk H ss) {n s : Nat} (hs : s + 1 < n) (ha : ∀ q ∈ ss.zipIdx, 0 ≤ ago H q ∧ ago H q ≤ (s : Int)) : ∃ post, runL H ss n = (runL H ss n).filter (tBel ((s : Int) * H)) ++ ((evs H ss).map (sh H (s : Int)) ++ ((evs H ss).map (sh H ((s : Int) + 1)) ++ post)) := by
  have h1 := ok.h1
  have c1 := asc_split ((s : Int) * H) (run_asc (H := H) (ss := ss) n) fun e he => run_ne he
  have a2 : Asc lexL ((runL H ss n).filter fun e => !tBel ((s : Int) * H) e) := (run_asc n).sublist List.filter_sublist
  have c2 := asc_split (((s : Int) + 1) * H) a2 fun e he => run_ne (List.mem_filter.mp he).1
  have a3 : Asc lexL (((runL H ss n).filter fun e => !tBel ((s : Int) * H) e).filter fun e => !tBel (((s : Int) + 1) * H) e) := a2.sublist List.filter_sublist
  have c3 := asc_split (((s : Int) + 1 + 1) * H) a3 fun e he => run_ne (List.mem_filter.mp (List.mem_filter.mp he).1).1
  have m1 : ((s : Int) + 1) * H = (s : Int) * H + H := by rw [Int.add_mul, Int.one_mul]
  have m2 : ((s : Int) + 1 + 1) * H = (s : Int) * H + H + H := by rw [Int.add_mul, Int.one_mul, m1]
  have d1 := day_part ok (n := n) (D := s) (by omega) ha
  have d2 := day_part ok (n := n) (D := s + 1) (by omega) fun q hq => by have := ha q hq; omega
  have e1 : ((runL H ss n).filter fun e => !tBel ((s : Int) * H) e).filter (tBel (((s : Int) + 1) * H)) = (evs H ss).map (sh H (s : Int)) := by
    rw [← d1, List.filter_filter]
    refine List.filter_congr fun e _ => ?_
    unfold tBel onDay
    by_cases x : e.getD 0 0 < (s : Int) * H
    · rw [decide_eq_true x, decide_eq_false (show ¬ ((s : Int) * H ≤ e.getD 0 0 ∧ e.getD 0 0 < ((s : Int) + 1) * H) by omega)]
      simp
    · rw [decide_eq_false x]
      simp only [Bool.not_false, Bool.and_true]
      exact decide_eq_decide.mpr (by omega)
  have e2 : (((runL H ss n).filter fun e => !tBel ((s : Int) * H) e).filter fun e => !tBel (((s : Int) + 1) * H) e).filter (tBel (((s : Int) + 1 + 1) * H)) = (evs H ss).map (sh H ((s : Int) + 1)) := by
    rw [show ((s : Int) + 1) = ((s + 1 : Nat) : Int) from rfl, ← d2, List.filter_filter, List.filter_filter]
    refine List.filter_congr fun e _ => ?_
    unfold tBel onDay
    rw [show ((s + 1 : Nat) : Int) = (s : Int) + 1 from rfl, m1, m2]
    by_cases x : e.getD 0 0 < (s : Int) * H + H
    · rw [decide_eq_true x, decide_eq_false (show ¬ ((s : Int) * H + H ≤ e.getD 0 0 ∧ e.getD 0 0 < (s : Int) * H + H + H) by omega)]
      simp
    · rw [decide_eq_false x, decide_eq_false (show ¬ e.getD 0 0 < (s : Int) * H by omega)]
      simp only [Bool.not_false, Bool.and_true]
      exact decide_eq_decide.mpr (by omega)
  rw [e1] at c2
  rw [e2] at c3
  rw [c3] at c2
  rw [c2] at c1
  exact ⟨_, c1⟩
end
end LawK01

namespace LawK01
open PySem L2 Am
section
variable {H : Int} {ss : List (Int × Int)}
def lvE (H : Int) (ss : List (Int × Int)) (l : List Int) : Int := (ss.zipIdx.map (wS H l)).sum
theorem lvE_at {i : Nat} (hi : i < (evs H ss).length) : tot (mid H ss) ((evs H ss).take (i + 1)) = lvE H ss ((evs H ss)[i]) := by
  have e : evs H ss = (evs H ss).take i ++ (evs H ss)[i] :: (evs H ss).drop (i + 1) := by rw [← List.drop_eq_getElem_cons hi, List.take_append_drop]
  have pf := prefix_filter (p := (evs H ss).take i) (x := (evs H ss)[i]) (r := (evs H ss).drop (i + 1)) (by rw [← e]; exact evs_asc H ss) (by rw [← e]; exact evs_nodup H ss)
  rw [← e, ← List.take_succ_eq_append_getElem hi] at pf
  rw [← pf]
  unfold tot lvE
  rw [sum_filter, sum_perm ((evs_perm H ss).map _), List.map_append, List.sum_append, List.map_map, List.map_map]
  unfold mid
  rw [← zip_map (fun p => (p.1 + p.2) / H) ss 0]
  unfold wS
  rw [sum_add, sum_add]
  rfl
theorem lvE_le (hne : ss ≠ []) {l : List Int} (hl : l ∈ evs H ss) : lvE H ss l ≤ pkOf H ss := by
  obtain ⟨i, hi, rfl⟩ := List.getElem_of_mem hl
  rw [← lvE_at hi]
  exact lvl_le hne (i + 1) (by omega)
def lvR (H : Int) (ss : List (Int × Int)) (n : Nat) (x : List Int) : Int := tot 0 ((runL H ss n).filter fun e => !lexL x e)
theorem lvR_le (ok : TOk H ss) {n : Nat} {D : Int} (hD : 0 ≤ D) {l : List Int} (hl : l ∈ evs H ss) : lvR H ss n (sh H D l) ≤ lvE H ss l := by
  unfold lvR lvE
  rw [run_level]
  exact sum_le _ _ _ fun q hq => (wR_le ok hD hl hq).1
theorem lvR_eq (ok : TOk H ss) {n : Nat} {D : Int} (hn : D < n) (ha : ∀ q ∈ ss.zipIdx, 0 ≤ ago H q ∧ ago H q ≤ D) (hD : 0 ≤ D) {l : List Int} (hl : l ∈ evs H ss) : lvR H ss n (sh H D l) = lvE H ss l := by
  unfold lvR lvE
  rw [run_level]
  congr 1
  exact List.map_congr_left fun q hq => (wR_le ok hD hl hq).2 (ha q hq).2 hn
/-- the numbers of calls along the run -/
def nums (H : Int) (ss : List (Int × Int)) (n : Nat) : List Int := cnt 0 (runL H ss n)
theorem nums_at {n j : Nat} (hj : j < (runL H ss n).length) : (nums H ss n)[j]? = some (lvR H ss n ((runL H ss n)[j])) := by
  unfold nums
  rw [cnt_get 0 _ j hj]
  have e : runL H ss n = (runL H ss n).take j ++ (runL H ss n)[j] :: (runL H ss n).drop (j + 1) := by rw [← List.drop_eq_getElem_cons hj, List.take_append_drop]
  have pf := prefix_filter (p := (runL H ss n).take j) (x := (runL H ss n)[j]) (r := (runL H ss n).drop (j + 1)) (by rw [← e]; exact run_asc n) (by rw [← e]; exact runL_nodup n)
  rw [← e, ← List.take_succ_eq_append_getElem hj] at pf
  unfold lvR
  rw [pf]
theorem nums_len (n : Nat) : (nums H ss n).length = (runL H ss n).length := cnt_len _ _
/-- the full moment of day s in the run -/
def topEv (H : Int) (ss : List (Int × Int)) (s : Nat) : List Int := sh H (s : Int) ((evs H ss).getD (fi H ss) [])
theorem fiE (hne : ss ≠ []) : (evs H ss).getD (fi H ss) [] = (evs H ss)[fi H ss]'(fi_lt hne) := by
  rw [List.getD_eq_getElem?_getD, List.getElem?_eq_getElem (fi_lt hne)]
  rfl
theorem top_mem (ok : TOk H ss) (hne : ss ≠ []) {n s : Nat} (hs : s + 1 < n) (ha : ∀ q ∈ ss.zipIdx, 0 ≤ ago H q ∧ ago H q ≤ (s : Int)) : topEv H ss s ∈ runL H ss n := by
  obtain ⟨post, e⟩ := run_cut ok hs ha
  rw [e]
  refine List.mem_append_right _ (List.mem_append_left _ (List.mem_map.mpr ⟨_, ?_, rfl⟩))
  rw [fiE hne]
  exact List.getElem_mem _
theorem top_lv (ok : TOk H ss) (hne : ss ≠ []) {n s : Nat} (hs : s + 1 < n) (ha : ∀ q ∈ ss.zipIdx, 0 ≤ ago H q ∧ ago H q ≤ (s : Int)) : lvR H ss n (topEv H ss s) = pkOf H ss := by
  unfold topEv
  rw [lvR_eq ok (by omega) ha (by omega) (by rw [fiE hne]; exact List.getElem_mem _), fiE hne, ← lvE_at (fi_lt hne)]
  exact (fi_top hne).2
theorem maxI_of {L : List Int} {m : Int} (h : m ∈ L) (h2 : ∀ y ∈ L, y ≤ m) : maxI L = some m := by
  obtain ⟨m', e⟩ := maxI_some (L := L) (fun z => by rw [z] at h; simp at h)
  obtain ⟨a, b⟩ := maxI_spec e
  have := b m h
  have := h2 m' a
  rw [e, show m' = m by omega]
theorem nums_max (ok : TOk H ss) (hne : ss ≠ []) {n s : Nat} (hs : s + 1 < n) (ha : ∀ q ∈ ss.zipIdx, 0 ≤ ago H q ∧ ago H q ≤ (s : Int)) : maxI (nums H ss n) = some (pkOf H ss) := by
  refine maxI_of ?_ fun y hy => ?_
  · obtain ⟨j, hj, e⟩ := List.getElem_of_mem (top_mem ok hne hs ha)
    have := nums_at hj
    rw [e, top_lv ok hne hs ha] at this
    exact List.mem_of_getElem? this
  · obtain ⟨j, hj⟩ := List.mem_iff_getElem?.mp hy
    have hl : j < (runL H ss n).length := by
      have := (List.getElem?_eq_some_iff.mp hj).1
      rwa [nums_len] at this
    rw [nums_at hl] at hj
    have e := Option.some.inj hj
    obtain ⟨D, l, hD, hlE, ex⟩ := run_form ok (List.getElem_mem hl)
    rw [ex] at e
    rw [← e]
    exact Int.le_trans (lvR_le ok hD hlE) (lvE_le hne hlE)
end
end LawK01

namespace LawK01
open PySem L2 Am
/-! ### k01: the peak, told by the hours of arrival -/
def fQ (H h : Int) (p : Int × Int) : Int := if p.2 > (h - p.1) % H then (p.2 - (h - p.1) % H + H - 1) / H else 0
def tt (H : Int) (ss : List (Int × Int)) (h : Int) : Int := (ss.map (fQ H h)).sum
theorem dv {H q t : Int} (hH : 0 < H) (h0 : 0 ≤ t) (h1 : t < H) : (q * H + t) / H = q := by
  rw [Int.add_comm, Int.add_mul_ediv_right _ _ (by omega), Int.ediv_eq_zero_of_lt h0 h1, Int.zero_add]
theorem fQ_eq {H h a s : Int} (hH : 1 ≤ H) (h0 : 0 ≤ h) (hh : h < H) (a0 : 0 ≤ a) (ha : a < H) (hs : 1 ≤ s) :
    fQ H h (a, s) = (a + s) / H + ((if (a + s) % H ≤ h then (-1 : Int) else 0) + if a ≤ h then (1 : Int) else 0) := by
  have e := Int.mul_ediv_add_emod (a + s) H
  have r0 := Int.emod_nonneg (a + s) (show H ≠ 0 by omega)
  have r1 := Int.emod_lt_of_pos (a + s) (show 0 < H by omega)
  have q0 : 0 ≤ (a + s) / H := Int.ediv_nonneg (by omega) (by omega)
  generalize (a + s) / H = q at *
  generalize (a + s) % H = r at *
  rw [Int.mul_comm] at e
  have qc : q = 0 ∨ q = 1 ∨ (2 ≤ q ∧ 2 * H ≤ q * H) := by
    rcases Int.lt_or_le q 2 with h | h
    · omega
    · exact .inr (.inr ⟨h, Int.mul_le_mul_of_nonneg_right h (by omega)⟩)
  have q1 : (q + 1) * H = q * H + H := by rw [Int.add_mul, Int.one_mul]
  have q2 : (q - 1) * H = q * H - H := by rw [Int.sub_mul, Int.one_mul]
  unfold fQ
  dsimp only
  by_cases hah : a ≤ h
  · have m : (h - a) % H = h - a := Int.emod_eq_of_lt (by omega) (by omega)
    rw [m, if_pos hah]
    by_cases hc : s > h - a
    · rw [if_pos hc]
      by_cases hr : r ≤ h
      · rw [if_pos hr, show s - (h - a) + H - 1 = q * H + (r - h + H - 1) by omega, dv (by omega) (by omega) (by omega)]
        omega
      · rw [if_neg hr, show s - (h - a) + H - 1 = (q + 1) * H + (r - h - 1) by omega, dv (by omega) (by omega) (by omega)]
        omega
    · rw [if_neg hc]
      rcases qc with rfl | rfl | ⟨_, h2⟩
      · rw [if_pos (by omega)]
        omega
      · omega
      · omega
  · have m : (h - a) % H = h - a + H := by
      rw [← Int.add_emod_right]
      exact Int.emod_eq_of_lt (by omega) (by omega)
    rw [m, if_neg hah]
    by_cases hc : s > h - a + H
    · rw [if_pos hc]
      by_cases hr : r ≤ h
      · rw [if_pos hr, show s - (h - a + H) + H - 1 = (q - 1) * H + (r - h - 1 + H) by omega, dv (by omega) (by omega) (by omega)]
        omega
      · rw [if_neg hr, show s - (h - a + H) + H - 1 = q * H + (r - h - 1) by omega, dv (by omega) (by omega) (by omega)]
        omega
    · rw [if_neg hc]
      rcases qc with rfl | rfl | ⟨_, h2⟩
      · rw [if_neg (by omega)]
        omega
      · rw [if_pos (by omega)]
        omega
      · omega
section
variable {H : Int} {ss : List (Int × Int)}
/-- at the arrival of q0: at most what stands at the end of the hour; as much, if no later ship arrives in this hour -/
theorem wS_fQ (sh : TSh H ss) {q0 q : Shp} (h0 : q0 ∈ ss.zipIdx) (h : q ∈ ss.zipIdx) : wS H (arr q0) q ≤ fQ H q0.1.1 q.1 ∧ ((q.1.1 = q0.1.1 → q.2 ≤ q0.2) → wS H (arr q0) q = fQ H q0.1.1 q.1) := by
  have s0 := sh.ship _ (zip_mem h0).1
  have s1 := sh.ship _ (zip_mem h).1
  obtain ⟨⟨h', t'⟩, i0⟩ := q0
  obtain ⟨⟨a, s⟩, i⟩ := q
  dsimp only at s0 s1
  have e := fQ_eq (s := s) sh.h1 s0.1 s0.2.1 s1.1 s1.2.1 s1.2.2.1
  have d1 : (!lexL (arr ((h', t'), i0)) (dep H ((a, s), i))) = decide ((a + s) % H ≤ h') := by
    unfold arr dep lexL
    dsimp only
    by_cases hq : h' = (a + s) % H
    · rw [if_pos hq]
      unfold lexL
      rw [if_neg (by decide), decide_eq_false (show ¬ (1 : Int) < 0 by decide), decide_eq_true (show (a + s) % H ≤ h' by omega)]
      rfl
    · rw [if_neg hq]
      by_cases hl : h' < (a + s) % H
      · rw [decide_eq_true hl, decide_eq_false (by omega)]
        rfl
      · rw [decide_eq_false hl, decide_eq_true (by omega)]
        rfl
  have d2 : (!lexL (arr ((h', t'), i0)) (arr ((a, s), i))) = true → a ≤ h' := fun hz => by
    have hz := (Bool.not_eq_true' _).mp hz
    unfold arr lexL at hz
    dsimp only at hz
    by_cases hq : h' = a
    · omega
    · rw [if_neg hq] at hz
      have := of_decide_eq_false hz
      omega
  have d3 : (a = h' → i ≤ i0) → a ≤ h' → (!lexL (arr ((h', t'), i0)) (arr ((a, s), i))) = true := fun hi hle => by
    rw [Bool.not_eq_true']
    unfold arr lexL
    dsimp only
    by_cases hq : h' = a
    · rw [if_pos hq]
      have := hi hq.symm
      simp [lexL, hq]
      omega
    · rw [if_neg hq]
      exact decide_eq_false (by omega)
  unfold wS
  rw [e]
  dsimp only
  rw [d1]
  have i1 : (if decide ((a + s) % H ≤ h') = true then (-1 : Int) else 0) = if (a + s) % H ≤ h' then (-1 : Int) else 0 := by
    by_cases hz : (a + s) % H ≤ h'
    · rw [decide_eq_true hz, if_pos rfl, if_pos hz]
    · rw [decide_eq_false hz, if_neg (by decide), if_neg hz]
  rw [i1]
  constructor
  · by_cases hz : (!lexL (arr ((h', t'), i0)) (arr ((a, s), i))) = true
    · rw [if_pos hz, if_pos (d2 hz)]
      exact Int.le_refl _
    · rw [if_neg hz]
      split <;> omega
  · intro hi
    by_cases hle : a ≤ h'
    · rw [if_pos (d3 hi hle), if_pos hle]
    · rw [if_neg hle, if_neg fun hz => hle (d2 hz)]
theorem tt_zip (h : Int) : tt H ss h = (ss.zipIdx.map fun q : Shp => fQ H h q.1).sum := by
  unfold tt
  rw [zip_map (fQ H h) ss 0]
theorem top_le (sh : TSh H ss) (hne : ss ≠ []) : ∃ p ∈ ss, pkOf H ss ≤ tt H ss p.1 := by
  obtain ⟨f1, f2⟩ := fi_top (H := H) hne
  rw [lvE_at (fi_lt hne)] at f2
  rcases evs_mem (List.getElem_mem (fi_lt (H := H) hne)) with ⟨q, hq, e⟩ | ⟨q, hq, e⟩
  · rw [e] at f1
    cases f1
  · rw [e] at f2
    refine ⟨q.1, (zip_mem hq).1, ?_⟩
    rw [← f2, tt_zip]
    exact sum_le _ _ _ fun q' hq' => (wS_fQ sh hq hq').1
theorem last_of {α : Type} (P : α → Bool) : ∀ L : List α, (∃ x ∈ L, P x = true) → ∃ p x q, L = p ++ x :: q ∧ P x = true ∧ ∀ y ∈ q, P y = false
  | [], h => by
    obtain ⟨x, hx, _⟩ := h
    cases hx
  | y :: L, h => by
    by_cases h2 : ∃ x ∈ L, P x = true
    · obtain ⟨p, x, q, e, h3, h4⟩ := last_of P L h2
      exact ⟨y :: p, x, q, by rw [e]; rfl, h3, h4⟩
    · obtain ⟨x, hx, hp⟩ := h
      rcases List.mem_cons.mp hx with rfl | hx
      · refine ⟨[], x, L, rfl, hp, fun z hz => ?_⟩
        cases hc : P z with
        | false => rfl
        | true => exact absurd ⟨z, hz, hc⟩ h2
      · exact absurd ⟨x, hx, hp⟩ h2
theorem zip_asc : ∀ (ss : List (Int × Int)) (k : Nat), (ss.zipIdx k).Pairwise fun a b : Shp => a.2 < b.2
  | [], _ => List.Pairwise.nil
  | s :: ss, k => by
    rw [List.zipIdx_cons]
    refine List.Pairwise.cons (fun q hq => ?_) (zip_asc ss (k + 1))
    have := List.le_snd_of_mem_zipIdx hq
    exact this
theorem tt_le (sh : TSh H ss) {p : Int × Int} (hp : p ∈ ss) : tt H ss p.1 ≤ pkOf H ss := by
  have hne : ss ≠ [] := fun z => by rw [z] at hp; cases hp
  have ex : ∃ x ∈ ss.zipIdx, decide (x.1.1 = p.1) = true := by
    obtain ⟨i, hi⟩ := List.mem_iff_getElem?.mp hp
    refine ⟨(p, i), ?_, decide_eq_true rfl⟩
    rw [List.mem_zipIdx_iff_getElem?]
    exact hi
  obtain ⟨pre, x, post, e, hx, hl⟩ := last_of (fun q : Shp => decide (q.1.1 = p.1)) ss.zipIdx ex
  have hx : x.1.1 = p.1 := of_decide_eq_true hx
  have hm : x ∈ ss.zipIdx := by rw [e]; simp
  have pw := zip_asc ss 0
  rw [e] at pw
  have key : ∀ q ∈ ss.zipIdx, q.1.1 = x.1.1 → q.2 ≤ x.2 := fun q hq hh => by
    rw [e] at hq
    rcases List.mem_append.mp hq with hq | hq
    · have := (List.pairwise_append.mp pw).2.2 q hq x List.mem_cons_self
      omega
    · rcases List.mem_cons.mp hq with rfl | hq
      · exact Nat.le_refl _
      · have := of_decide_eq_false (hl q hq)
        rw [hh, hx] at this
        exact absurd rfl this
  have le := lvE_le hne ((evs_perm H ss).mem_iff.mpr (List.mem_append_right _ (List.mem_map.mpr ⟨x, hm, rfl⟩)) : arr x ∈ evs H ss)
  refine Int.le_trans ?_ le
  rw [← hx, tt_zip]
  unfold lvE
  exact sum_le _ _ _ fun q hq => by
    rw [(wS_fQ sh hm hq).2 (key q hq)]
    exact Int.le_refl _
/-- the law's own peak -/
def dueM (H : Int) (ss : List (Int × Int)) : Int := (maxI ((sortU (ss.map (·.1))).map (tt H ss) ++ [0])).getD 0
theorem due_peak (sh : TSh H ss) : decide (pkOf H ss ≤ 60) = decide (dueM H ss ≤ 60) := by
  have iff : pkOf H ss ≤ 60 ↔ dueM H ss ≤ 60 := by
    unfold dueM
    obtain ⟨m, hm⟩ := maxI_some (L := (sortU (ss.map (·.1))).map (tt H ss) ++ [0]) (by simp)
    rw [hm]
    obtain ⟨m1, m2⟩ := maxI_spec hm
    show _ ↔ m ≤ 60
    constructor
    · intro h
      rcases List.mem_append.mp m1 with m1 | m1
      · obtain ⟨h', hh, rfl⟩ := List.mem_map.mp m1
        obtain ⟨p, hp, rfl⟩ := List.mem_map.mp (mem_sortU.mp hh)
        exact Int.le_trans (tt_le sh hp) h
      · simp at m1
        omega
    · intro h
      by_cases hne : ss = []
      · subst hne
        show (0 : Int) ≤ 60
        decide
      · obtain ⟨p, hp, hle⟩ := top_le sh hne
        have := m2 (tt H ss p.1) (List.mem_append_left _ (List.mem_map.mpr ⟨p.1, mem_sortU.mpr (List.mem_map.mpr ⟨p, hp, rfl⟩), rfl⟩))
        omega
  by_cases h : pkOf H ss ≤ 60
  · rw [decide_eq_true h, decide_eq_true (iff.mp h)]
  · rw [decide_eq_false h, decide_eq_false fun z => h (iff.mpr z)]
end
end LawK01

namespace LawK01
open PySem L2 Am
section
/-- no reference of a box, to the second floor -/
def Pl1 (d : PyData) : Prop := isBx d = false
structure Pln (d : PyData) : Prop where
  top : isBx d = false
  sub : ∀ ds, d = .tuple ds → ∀ x ∈ ds, isBx x = false
def isI : PyData → Bool
  | .int _ => true
  | _ => false
def isTu : PyData → Bool
  | .tuple _ => true
  | _ => false
def isPr : PyData → Bool
  | .tuple [_, _] => true
  | _ => false
theorem kk (a b : String) (r : Bool) (h : kitB a b = some r) : kitB a b = some r := h
theorem k_bi : kitB "bool" "int" = some true := by first | rfl | decide +kernel
theorem k_bb : kitB "bool" "bool" = some true := by first | rfl | decide +kernel
theorem k_ni : kitB "NoneType" "int" = some false := by first | rfl | decide +kernel
theorem k_nb : kitB "NoneType" "bool" = some false := by first | rfl | decide +kernel
theorem k_nt : kitB "NoneType" "tuple" = some false := by first | rfl | decide +kernel
theorem k_bt : kitB "bool" "tuple" = some false := by first | rfl | decide +kernel
theorem k_it : kitB "int" "tuple" = some false := by first | rfl | decide +kernel
theorem k_si : kitB "str" "int" = some false := by first | rfl | decide +kernel
theorem k_sb : kitB "str" "bool" = some false := by first | rfl | decide +kernel
theorem k_st : kitB "str" "tuple" = some false := by first | rfl | decide +kernel
theorem k_li : kitB "list" "int" = some false := by first | rfl | decide +kernel
theorem k_lb : kitB "list" "bool" = some false := by first | rfl | decide +kernel
theorem k_lt : kitB "list" "tuple" = some false := by first | rfl | decide +kernel
theorem k_ti : kitB "tuple" "int" = some false := by first | rfl | decide +kernel
theorem k_tb : kitB "tuple" "bool" = some false := by first | rfl | decide +kernel
theorem k_di : kitB "dict" "int" = some false := by first | rfl | decide +kernel
theorem k_db : kitB "dict" "bool" = some false := by first | rfl | decide +kernel
theorem k_dt : kitB "dict" "tuple" = some false := by first | rfl | decide +kernel
def isBo : PyData → Bool
  | .bool _ => true
  | _ => false
def isIB : PyData → Bool
  | .int _ => true
  | .bool _ => true
  | _ => false
theorem isi_tup {d : PyData} (h : isBx d = false) : isiD "tuple" d = some (.bool (isTu d)) := by
  unfold isiD
  rw [if_neg (by rw [h]; exact Bool.false_ne_true)]
  cases d <;> simp [tyD, k_tt, k_nt, k_bt, k_it, k_st, k_lt, k_dt, isTu]
theorem isi_int {d : PyData} (h : isBx d = false) : isiD "int" d = some (.bool (isIB d)) := by
  unfold isiD
  rw [if_neg (by rw [h]; exact Bool.false_ne_true)]
  cases d <;> simp [tyD, k_ii, k_ni, k_bi, k_ti, k_si, k_li, k_di, isIB]
theorem isi_bool {d : PyData} (h : isBx d = false) : isiD "bool" d = some (.bool (isBo d)) := by
  unfold isiD
  rw [if_neg (by rw [h]; exact Bool.false_ne_true)]
  cases d <;> simp [tyD, k_ib, k_nb, k_bb, k_tb, k_sb, k_lb, k_db, isBo]
theorem is_int_gen {d : PyData} (h : isBx d = false) : F_is_int [d] = some (.ok (.dat (.bool (isI d)))) := by
  refine fnD_ret ?_
  cases d <;> simp [m_is_int, startA, isi_int h, isi_bool h, isI, isIB, isBo]
def inR (d : PyData) (l h : Int) : Bool := match d with
  | .int v => decide (l ≤ v) && decide (v ≤ h)
  | _ => false
theorem in_range_gen {d : PyData} (hb : isBx d = false) (l h : Int) : F_in_range [d, .int l, .int h] = some (.ok (.dat (.bool (inR d l h)))) := by
  cases d with
  | int v => exact in_range_spec v l h
  | _ =>
    refine fnD_ret ?_
    simp [m_in_range, startA, is_int_gen hb, isI, inR]
theorem all_bools {α : Type} (L : List α) (f : α → Bool) : gAll [.list (L.map fun x => .bool (f x))] = some (.bool (L.all f)) := by
  have e : (L.map fun x => PyData.bool (f x)) = (L.map f).map PyData.bool := by rw [List.map_map]; rfl
  unfold gAll
  rw [e]
  simp only [boolsD_map]
  simp
end
end LawK01

namespace LawK01
open PySem L2 Am
/-! ### is_table of values that are none; what is raised -/
def shipB (H : Int) (d : PyData) : Bool := match d with
  | .tuple [a, b] => inR a 0 (H - 1) && inR b 1 10000
  | _ => false
theorem is_ship_gen (H : Int) {d : PyData} (hb : isBx d = false) (hs : ∀ ds, d = .tuple ds → ∀ x ∈ ds, isBx x = false) : F_is_ship [.int H, d] = some (.ok (.dat (.bool (shipB H d)))) := by
  by_cases ht : isTu d = true
  · obtain ⟨ds, rfl⟩ : ∃ ds, d = .tuple ds := by
      cases d <;> first | exact ⟨_, rfl⟩ | cases ht
    have it := isi_tup (d := .tuple ds) hb
    by_cases hl : ds.length = 2
    · obtain ⟨a, b, rfl⟩ : ∃ a b, ds = [a, b] := by
        match ds, hl with
        | [a, b], _ => exact ⟨a, b, rfl⟩
      have ha := in_range_gen (hs _ rfl a (by simp)) 0 (H - 1)
      have hb2 := in_range_gen (hs _ rfl b (by simp)) 1 10000
      have g0 : gIx (.tuple [a, b]) (.int 0) = some a := gIxT0 _ _
      have g1 : gIx (.tuple [a, b]) (.int 1) = some b := gIxT1 _ _ _
      refine fnD_ret ?_
      cases h1 : inR a 0 (H - 1) with
      | true => simp [m_is_ship, startA, it, isTu, gLen_t, gNeA_int, g0, g1, Am.gSub, gI0, ha, hb2, h1, shipB]
      | false => simp [m_is_ship, startA, it, isTu, gLen_t, gNeA_int, g0, g1, Am.gSub, gI0, ha, hb2, h1, shipB]
    · have e : shipB H (.tuple ds) = false := by
        unfold shipB
        split
        · rename_i h
          cases h
          exact absurd rfl hl
        · rfl
      have ne : decide ((ds.length : Int) = 2) = false := decide_eq_false (by omega)
      refine fnD_ret ?_
      simp [m_is_ship, startA, it, isTu, gLen_t, gNeA_int, ne, e, hl]
  · have e : isTu d = false := by simpa using ht
    have e2 : shipB H d = false := by cases d <;> first | rfl | cases e
    refine fnD_ret ?_
    simp [m_is_ship, startA, isi_tup hb, e, e2]
/-- what is no timetable by its shape -/
theorem no_tuple {d : PyData} (hb : isBx d = false) (ht : isTu d = false) : F_is_table [d] = some (.ok (.dat (.bool false))) := by
  refine fnD_ret ?_
  simp [m_is_table, startA, isi_tup hb, ht]
theorem no_two {ds : List PyData} (hl : ds.length ≠ 2) : F_is_table [.tuple ds] = some (.ok (.dat (.bool false))) := by
  have it := isi_tup (d := .tuple ds) rfl
  refine fnD_ret ?_
  have ne : ¬ ((ds.length : Int) = 2) := by omega
  simp [m_is_table, startA, it, isTu, gLen_t, gNeA_int, ne]
theorem no_hours {a b : PyData} (ha : isBx a = false) (h : inR a 1 1000 = false) : F_is_table [.tuple [a, b]] = some (.ok (.dat (.bool false))) := by
  have it := isi_tup (d := .tuple [a, b]) rfl
  have g0 : gIx (.tuple [a, b]) (.int 0) = some a := gIxT0 _ _
  have ir := in_range_gen ha 1 1000
  refine fnD_ret ?_
  simp [m_is_table, startA, it, isTu, gLen_t, gNeA_int, g0, ir, h]
theorem no_ships {H : Int} {b : PyData} (h1 : 1 ≤ H) (h2 : H ≤ 1000) (hb : isBx b = false) (ht : isTu b = false) : F_is_table [.tuple [.int H, b]] = some (.ok (.dat (.bool false))) := by
  have it : isiD "tuple" (.tuple [.int H, b]) = some (.bool true) := isi_tup rfl
  have ib : isiD "tuple" b = some (.bool false) := by rw [isi_tup hb, ht]
  have g0 : gIx (.tuple [.int H, b]) (.int 0) = some (.int H) := gIxT0 _ _
  have ir := in_range_spec H 1 1000
  have pt : ∀ (a : AEnv), (Tgt.tp [Tgt.nm 1, Tgt.nm 2]).put (.tuple [.int H, b]) a = Tgt.puts [Tgt.nm 1, Tgt.nm 2] [.int H, b] a := fun a => put_tp _ _
  refine fnD_ret ?_
  simp [m_is_table, startA, it, ib, gLen_t, gNeA_int, g0, ir, h1, h2, pt]
theorem no_few {H : Int} {ds : List PyData} (h1 : 1 ≤ H) (h2 : H ≤ 1000) (hl : 24 < ds.length) : F_is_table [.tuple [.int H, .tuple ds]] = some (.ok (.dat (.bool false))) := by
  have it := isi_tup (d := .tuple [.int H, .tuple ds]) rfl
  have it2 := isi_tup (d := .tuple ds) rfl
  have g0 : gIx (.tuple [.int H, .tuple ds]) (.int 0) = some (.int H) := gIxT0 _ _
  have ir := in_range_spec H 1 1000
  have pt : ∀ (a : AEnv), (Tgt.tp [Tgt.nm 1, Tgt.nm 2]).put (.tuple [.int H, .tuple ds]) a = Tgt.puts [Tgt.nm 1, Tgt.nm 2] [.int H, .tuple ds] a := fun a => put_tp _ _
  have gt : (ds.length : Int) > 24 := by omega
  refine fnD_ret ?_
  simp [m_is_table, startA, it, it2, isTu, gLen_t, gNeA_int, g0, ir, h1, h2, pt, gGt, gCmp, gt]
theorem no_ship {H : Int} {ds : List PyData} (h1 : 1 ≤ H) (h2 : H ≤ 1000) (hp : ∀ d ∈ ds, isBx d = false ∧ ∀ es, d = .tuple es → ∀ x ∈ es, isBx x = false) (hn : ds.all (shipB H) = false) : F_is_table [.tuple [.int H, .tuple ds]] = some (.ok (.dat (.bool false))) := by
  by_cases hl : 24 < ds.length
  · exact no_few h1 h2 hl
  have it := isi_tup (d := .tuple [.int H, .tuple ds]) rfl
  have it2 := isi_tup (d := .tuple ds) rfl
  have g0 : gIx (.tuple [.int H, .tuple ds]) (.int 0) = some (.int H) := gIxT0 _ _
  have ir := in_range_spec H 1 1000
  have pt : ∀ (a : AEnv), (Tgt.tp [Tgt.nm 1, Tgt.nm 2]).put (.tuple [.int H, .tuple ds]) a = Tgt.puts [Tgt.nm 1, Tgt.nm 2] [.int H, .tuple ds] a := fun a => put_tp _ _
  have gt : ¬ (24 < (ds.length : Int)) := by omega
  have c1 := lcL_pure (t := Tgt.nm 3) (m := m_is_table_l0) (vs := [3]) id (fun d => .bool (shipB H d)) [.dat (.tuple [.int H, .tuple ds]), .dat (.int H), .dat (.tuple ds), .un] ds (by simp [lineN]; omega) fun d hd => by
    obtain ⟨k1, k2⟩ := hp d hd
    exact ⟨[.dat (.tuple [.int H, .tuple ds]), .dat (.int H), .dat (.tuple ds), .dat d], by simp, by simp [m_is_table_l0, is_ship_gen H k1 k2], by simp [wipeA]⟩
  rw [List.map_id] at c1
  have i1 : mIter (mVD 2) [.dat (.tuple [.int H, .tuple ds]), .dat (.int H), .dat (.tuple ds), .un] = some (.ok ds, [.dat (.tuple [.int H, .tuple ds]), .dat (.int H), .dat (.tuple ds), .un]) := by simp
  have l1 := lc_ret (t := Tgt.nm 3) (c := M.pure true) (m := m_is_table_l0) (vs := [3]) i1 c1
  have w1 : wipeA [.dat (.tuple [.int H, .tuple ds]), .dat (.int H), .dat (.tuple ds), .un] [3] = [.dat (.tuple [.int H, .tuple ds]), .dat (.int H), .dat (.tuple ds), .un] := rfl
  rw [w1] at l1
  have ga := all_bools ds (shipB H)
  rw [hn] at ga
  refine fnD_ret ?_
  simp [m_is_table, startA, it, it2, isTu, gLen_t, gNeA_int, g0, ir, h1, h2, pt, gGt, gCmp, gt, l1, ga]
end LawK01

namespace LawK01
open PySem L2 Am
/-! ### k01: is_table and the law's check, of any value -/
theorem law_int_gen {d : PyData} (hb : isBx d = false) (l h : Int) : F_law_is_int [d, .int l, .int h] = some (.ok (.dat (.bool (inR d l h)))) := by
  cases d with
  | int v =>
    have c : gLe (.int l) (.int v) = some (decide (l ≤ v)) := rfl
    have c2 : gLe (.int v) (.int h) = some (decide (v ≤ h)) := rfl
    have i1 : isiD "int" (.int v) = some (.bool true) := isi_int (d := .int v) rfl
    have i2 : isiD "bool" (.int v) = some (.bool false) := isi_bool (d := .int v) rfl
    refine fnD_ret ?_
    cases h1 : decide (l ≤ v) with
    | true =>
      rw [h1] at c
      simp [m_law_is_int, startA, i1, i2, c, c2, inR, h1]
    | false =>
      rw [h1] at c
      simp [m_law_is_int, startA, i1, i2, c, c2, inR, h1]
  | bool v =>
    have i1 : isiD "int" (.bool v) = some (.bool true) := isi_int (d := .bool v) rfl
    have i2 : isiD "bool" (.bool v) = some (.bool true) := isi_bool (d := .bool v) rfl
    refine fnD_ret ?_
    simp [m_law_is_int, startA, i1, i2, inR]
  | _ =>
    refine fnD_ret ?_
    simp [m_law_is_int, startA, isi_int hb, isIB, inR]
section
variable {H : Int} {ss : List (Int × Int)}
theorem table_sh (ok : TSh H ss) : F_is_table [eT H ss] = some (.ok (.dat (.bool (decide (pkOf H ss ≤ 60))))) := by
  have h1 := ok.h1
  have h2 := ok.h2
  have hl := ok.len
  have hl3 : ss.length ≤ 16777216 := by omega
  have cmp := lcL_pure (t := Tgt.nm 3) (m := m_is_table_l0) (vs := [3]) eS (fun _ => .bool true) [.dat (eT H ss), .dat (.int H), .dat (.tuple (ss.map eS)), .un] ss (by simp [lineN]; omega) fun p hp => by
    refine ⟨[.dat (eT H ss), .dat (.int H), .dat (.tuple (ss.map eS)), .dat (eS p)], ?_, ?_, ?_⟩
    · simp
    · simp [m_is_table_l0, is_ship_spec (ok.ship p hp)]
    · simp [wipeA]
  have all : gAll [.list (ss.map fun _ => .bool true)] = some (.bool true) := by
    have e : ss.map (fun _ => PyData.bool true) = (ss.map fun _ => true).map PyData.bool := by simp
    unfold gAll
    rw [e]
    simp only [boolsD_map]
    simp
  have pk : F_peak_of [eT H ss] = some (.ok (.dat (.int (pkOf H ss)))) := peak_of_spec ok
  have hl4 : ¬ ((24 : Int) < (ss.length : Int)) := by omega
  refine fnD_ret ?_
  simp only [eT] at cmp pk
  simp [-List.map_const, m_is_table, startA, isiD, tyD, k_tt, eT, gLen, gNeA, gEqA_int, lineN, gIx, atI, ixN, gI0, gGt, gLe, gCmp, in_range_spec, h1, h2, hl3, hl4, mLc_app, wipeA, cmp, all, pk]
end
/-! the law's check -/
theorem due_not {d : PyData} (hb : isBx d = false) (ht : isTu d = false) : F_law_due [d] = some (.ok (.dat (.bool false))) := by
  refine fnD_ret ?_
  simp [m_law_due, startA, isi_tup hb, ht]
theorem due_two {ds : List PyData} (hl : ds.length ≠ 2) : F_law_due [.tuple ds] = some (.ok (.dat (.bool false))) := by
  have it := isi_tup (d := .tuple ds) rfl
  refine fnD_ret ?_
  have ne : ¬ ((ds.length : Int) = 2) := by omega
  simp [m_law_due, startA, it, isTu, gLen_t, gNeA_int, ne]
theorem due_hours {a b : PyData} (ha : isBx a = false) (h : inR a 1 1000 = false) : F_law_due [.tuple [a, b]] = some (.ok (.dat (.bool false))) := by
  have it := isi_tup (d := .tuple [a, b]) rfl
  have g0 : gIx (.tuple [a, b]) (.int 0) = some a := gIxT0 _ _
  have ir := law_int_gen ha 1 1000
  refine fnD_ret ?_
  simp [m_law_due, startA, it, isTu, gLen_t, gNeA_int, g0, ir, h]
theorem due_ships {H : Int} {b : PyData} (h1 : 1 ≤ H) (h2 : H ≤ 1000) (hb : isBx b = false) (ht : isTu b = false) : F_law_due [.tuple [.int H, b]] = some (.ok (.dat (.bool false))) := by
  have it : isiD "tuple" (.tuple [.int H, b]) = some (.bool true) := isi_tup rfl
  have ib : isiD "tuple" b = some (.bool false) := by rw [isi_tup hb, ht]
  have g0 : gIx (.tuple [.int H, b]) (.int 0) = some (.int H) := gIxT0 _ _
  have g1 : gIx (.tuple [.int H, b]) (.int 1) = some b := gIxT1 _ _ _
  have ir := law_int_gen (d := .int H) rfl 1 1000
  have iv : inR (.int H) 1 1000 = true := by
    show (decide (1 ≤ H) && decide (H ≤ 1000)) = true
    rw [decide_eq_true h1, decide_eq_true h2]
    rfl
  rw [iv] at ir
  refine fnD_ret ?_
  simp [m_law_due, startA, it, ib, gLen_t, gNeA_int, g0, g1, ir]
theorem due_few {H : Int} {ds : List PyData} (h1 : 1 ≤ H) (h2 : H ≤ 1000) (hl : 24 < ds.length) : F_law_due [.tuple [.int H, .tuple ds]] = some (.ok (.dat (.bool false))) := by
  have it : isiD "tuple" (.tuple [.int H, .tuple ds]) = some (.bool true) := isi_tup rfl
  have it2 : isiD "tuple" (.tuple ds) = some (.bool true) := isi_tup rfl
  have g0 : gIx (.tuple [.int H, .tuple ds]) (.int 0) = some (.int H) := gIxT0 _ _
  have g1 : gIx (.tuple [.int H, .tuple ds]) (.int 1) = some (.tuple ds) := gIxT1 _ _ _
  have ir := law_int_gen (d := .int H) rfl 1 1000
  have iv : inR (.int H) 1 1000 = true := by
    show (decide (1 ≤ H) && decide (H ≤ 1000)) = true
    rw [decide_eq_true h1, decide_eq_true h2]
    rfl
  rw [iv] at ir
  have gt : (ds.length : Int) > 24 := by omega
  refine fnD_ret ?_
  simp [m_law_due, startA, it, it2, gLen_t, gNeA_int, g0, g1, ir, gGt, gCmp, gt]
/-- a ship -/
theorem due_ship_turn {H : Int} {T d : PyData} (g0 : gIx T (.int 0) = some (.int H)) (hb : isBx d = false) (hs : ∀ ds, d = .tuple ds → ∀ x ∈ ds, isBx x = false) (s2 s3 s4 s5 s6 s7 s8 : Sl) :
    m_law_due_l3 [.dat T, .dat d, s2, s3, s4, s5, s6, s7, s8] = if shipB H d = true then some (.ok .nx, [.dat T, .dat d, s2, s3, s4, s5, s6, s7, s8]) else some (.ok (.ret (.dat (.bool false))), [.dat T, .dat d, s2, s3, s4, s5, s6, s7, s8]) := by
  by_cases ht : isTu d = true
  · obtain ⟨ds, rfl⟩ : ∃ ds, d = .tuple ds := by
      cases d <;> first | exact ⟨_, rfl⟩ | cases ht
    have it : isiD "tuple" (.tuple ds) = some (.bool true) := isi_tup rfl
    by_cases hl : ds.length = 2
    · obtain ⟨a, b, rfl⟩ : ∃ a b, ds = [a, b] := by
        match ds, hl with
        | [a, b], _ => exact ⟨a, b, rfl⟩
      have ha := law_int_gen (hs _ rfl a (by simp)) 0 (H - 1)
      have hb2 := law_int_gen (hs _ rfl b (by simp)) 1 10000
      have k0 : gIx (.tuple [a, b]) (.int 0) = some a := gIxT0 _ _
      have k1 : gIx (.tuple [a, b]) (.int 1) = some b := gIxT1 _ _ _
      have e : shipB H (.tuple [a, b]) = (inR a 0 (H - 1) && inR b 1 10000) := rfl
      rw [e]
      cases h1 : inR a 0 (H - 1) with
      | true =>
        cases h2 : inR b 1 10000 with
        | true => simp [m_law_due_l3, it, gLen_t, gNeA_int, g0, k0, k1, Am.gSub, gI0, ha, hb2, h1, h2]
        | false => simp [m_law_due_l3, it, gLen_t, gNeA_int, g0, k0, k1, Am.gSub, gI0, ha, hb2, h1, h2]
      | false => simp [m_law_due_l3, it, gLen_t, gNeA_int, g0, k0, k1, Am.gSub, gI0, ha, hb2, h1]
    · have e : shipB H (.tuple ds) = false := by
        unfold shipB
        split
        · rename_i h
          cases h
          exact absurd rfl hl
        · rfl
      have ne : decide ((ds.length : Int) = 2) = false := decide_eq_false (by omega)
      rw [e]
      simp [m_law_due_l3, it, gLen_t, gNeA_int, ne]
  · have e : isTu d = false := by simpa using ht
    have e2 : shipB H d = false := by cases d <;> first | rfl | cases e
    rw [e2]
    simp [m_law_due_l3, isi_tup hb, e]
theorem forL_stop1 {t : Tgt} {body : M Fl} {s : Sl} (Inv : AEnv → Prop) (p : PyData → Bool) : ∀ (xs : List PyData) (a : AEnv), Inv a →
    (∀ x ∈ xs, ∀ b, Inv b → ∃ b1 b2, t.put x b = some b1 ∧ ((p x = true ∧ body b1 = some (.ok .nx, b2) ∧ Inv b2) ∨ (p x = false ∧ body b1 = some (.ok (.ret s), b2)))) →
    (xs.all p = true ∧ ∃ st, forL t body xs a = some (.ok .nx, st) ∧ Inv st) ∨ (xs.all p = false ∧ ∃ st, forL t body xs a = some (.ok (.ret s), st))
  | [], a, h0, _ => .inl ⟨rfl, a, rfl, h0⟩
  | x :: xs, a, h0, h => by
    obtain ⟨b1, b2, e1, h1⟩ := h x List.mem_cons_self a h0
    rcases h1 with ⟨hp, e2, h2⟩ | ⟨hp, e2⟩
    · have st : forL t body (x :: xs) a = forL t body xs b2 := by
        show (match t.put x a with | none => none | some a1 => _) = _
        simp only [e1, e2]
      rw [st, List.all_cons, hp, Bool.true_and]
      exact forL_stop1 Inv p xs b2 h2 fun y hy => h y (List.mem_cons_of_mem _ hy)
    · refine .inr ⟨by rw [List.all_cons, hp, Bool.false_and], b2, ?_⟩
      show (match t.put x a with | none => none | some a1 => _) = _
      simp only [e1, e2]
theorem due_ship {H : Int} {ds : List PyData} (h1 : 1 ≤ H) (h2 : H ≤ 1000) (hp : ∀ d ∈ ds, isBx d = false ∧ ∀ es, d = .tuple es → ∀ x ∈ es, isBx x = false) (hn : ds.all (shipB H) = false) : F_law_due [.tuple [.int H, .tuple ds]] = some (.ok (.dat (.bool false))) := by
  by_cases hl : 24 < ds.length
  · exact due_few h1 h2 hl
  have it : isiD "tuple" (.tuple [.int H, .tuple ds]) = some (.bool true) := isi_tup rfl
  have it2 : isiD "tuple" (.tuple ds) = some (.bool true) := isi_tup rfl
  have g0 : gIx (.tuple [.int H, .tuple ds]) (.int 0) = some (.int H) := gIxT0 _ _
  have g1 : gIx (.tuple [.int H, .tuple ds]) (.int 1) = some (.tuple ds) := gIxT1 _ _ _
  have ir := law_int_gen (d := .int H) rfl 1 1000
  have iv : inR (.int H) 1 1000 = true := by
    show (decide (1 ≤ H) && decide (H ≤ 1000)) = true
    rw [decide_eq_true h1, decide_eq_true h2]
    rfl
  rw [iv] at ir
  have gt : ¬ (24 < (ds.length : Int)) := by omega
  rcases forL_stop1 (t := Tgt.nm 1) (body := m_law_due_l3) (s := .dat (.bool false)) (fun st => ∃ s1, st = [.dat (.tuple [.int H, .tuple ds]), s1, .un, .un, .un, .un, .un, .un, .un]) (shipB H) ds [.dat (.tuple [.int H, .tuple ds]), .un, .un, .un, .un, .un, .un, .un, .un] ⟨_, rfl⟩ (fun x hx b ⟨s1, eb⟩ => by
    subst eb
    obtain ⟨k1, k2⟩ := hp x hx
    have tr := due_ship_turn g0 k1 k2 .un .un .un .un .un .un .un
    cases hb : shipB H x with
    | true =>
      rw [hb, if_pos rfl] at tr
      exact ⟨_, _, by simp; try rfl, .inl ⟨rfl, tr, _, rfl⟩⟩
    | false =>
      rw [hb, if_neg (by decide)] at tr
      exact ⟨_, _, by simp; try rfl, .inr ⟨rfl, tr⟩⟩) with ⟨h, _⟩ | ⟨_, st, e⟩
  · rw [hn] at h
    cases h
  · refine fnD_ret ⟨st, ?_⟩
    simp only [m_law_due, startA, mSeq_app]
    simp [it, it2, gLen_t, gNeA_int, g0, g1, ir, gGt, gCmp, gt]
    rw [e]
    simp
section
variable {H : Int} {ss : List (Int × Int)}
theorem ship_sB (sh : TSh H ss) : (ss.map eS).all (shipB H) = true := List.all_eq_true.mpr fun d hd => by
  obtain ⟨p, hp, rfl⟩ := List.mem_map.mp hd
  obtain ⟨a, b, c, d⟩ := sh.ship p hp
  show ((decide (0 ≤ p.1) && decide (p.1 ≤ H - 1)) && (decide (1 ≤ p.2) && decide (p.2 ≤ 10000))) = true
  rw [decide_eq_true a, decide_eq_true (by omega), decide_eq_true c, decide_eq_true d]
  rfl
/-- the sum of an hour -/
theorem hour_turn (sh : TSh H ss) (h : Int) (L : List Int) (hL : L.length ≤ 1000) (s1 s5 s6 s7 s8 : Sl) : ∃ t5 t6 t7 t8,
    m_law_due_l2 [.dat (eT H ss), s1, .dat (.int H), .lst (L.map PyData.int), .dat (.int h), s5, s6, s7, s8] = some (.ok .nx, [.dat (eT H ss), s1, .dat (.int H), .lst ((L ++ [tt H ss h]).map PyData.int), .dat (.int h), t5, t6, t7, t8]) := by
  have g1 : gIx (eT H ss) (.int 1) = some (.tuple (ss.map eS)) := gIxT1 _ _ _
  have hH := sh.h1
  have cm : ∀ x : Int, gMod (.int x) (.int H) = some (.int (x % H)) := fun x => by
    show (if cMod x H = true then some (PyData.int (x % H)) else none) = _
    rw [if_pos (show cMod x H = true from decide_eq_true (by omega))]
  have cd : ∀ x : Int, gDiv (.int x) (.int H) = some (.int (x / H)) := fun x => by
    show (if cDiv x H = true then some (PyData.int (x / H)) else none) = _
    rw [if_pos]
    unfold cDiv
    rw [decide_eq_true (by omega), decide_eq_true (logH ⟨sh.h1, sh.h2⟩)]
    rfl
  obtain ⟨st, e, s6, s7, s8, rfl⟩ := forL_inv (t := Tgt.tp [Tgt.nm 6, Tgt.nm 7]) (body := m_law_due_l1) eS (fun pre st => ∃ s6 s7 s8, st = [.dat (eT H ss), s1, .dat (.int H), .lst (L.map PyData.int), .dat (.int h), .dat (.int ((pre.map (fQ H h)).sum)), s6, s7, s8]) ss [] [.dat (eT H ss), s1, .dat (.int H), .lst (L.map PyData.int), .dat (.int h), .dat (.int 0), s6, s7, s8] ⟨s6, s7, s8, rfl⟩ fun p x q b hp ⟨s6, s7, s8, eb⟩ => by
    subst eb
    obtain ⟨a, s⟩ := x
    have pt : ∀ c : AEnv, (Tgt.tp [Tgt.nm 6, Tgt.nm 7]).put (eS (a, s)) c = Tgt.puts [Tgt.nm 6, Tgt.nm 7] [.int a, .int s] c := fun c => put_tp _ _
    refine ⟨[.dat (eT H ss), s1, .dat (.int H), .lst (L.map PyData.int), .dat (.int h), .dat (.int ((p.map (fQ H h)).sum)), .dat (.int a), .dat (.int s), s8], [.dat (eT H ss), s1, .dat (.int H), .lst (L.map PyData.int), .dat (.int h), .dat (.int (((p ++ [(a, s)]).map (fQ H h)).sum)), .dat (.int a), .dat (.int s), .dat (.int ((h - a) % H))], by simp [pt], .inl ?_, _, _, _, rfl⟩
    have eq : ((p ++ [(a, s)]).map (fQ H h)).sum = (p.map (fQ H h)).sum + fQ H h (a, s) := by simp [Int.add_comm]
    rw [eq]
    generalize (p.map (fQ H h)).sum = S
    unfold fQ
    dsimp only
    have gg : gGt (.int s) (.int ((h - a) % H)) = some (decide (s > (h - a) % H)) := rfl
    by_cases hc : s > (h - a) % H
    · rw [decide_eq_true hc] at gg
      rw [if_pos hc]
      simp [m_law_due_l1, Am.gSub, gI0, cm, gg, gAdd, cd]
    · rw [decide_eq_false hc] at gg
      rw [if_neg hc]
      simp [m_law_due_l1, Am.gSub, gI0, cm, gg]
  refine ⟨.dat (.int (tt H ss h)), s6, s7, s8, ?_⟩
  have z : L.length < 16777216 := by omega
  simp only [m_law_due_l2, mSeq_app, mAsg_app]
  simp [-List.map_map, g1]
  rw [e]
  simp [lineN, z, tt]
theorem due_sh (sh : TSh H ss) : F_law_due [eT H ss] = some (.ok (.dat (.bool (decide (dueM H ss ≤ 60))))) := by
  have hl := sh.len
  have it : isiD "tuple" (eT H ss) = some (.bool true) := isi_tup rfl
  have it2 : isiD "tuple" (.tuple (ss.map eS)) = some (.bool true) := isi_tup rfl
  have g0 : gIx (eT H ss) (.int 0) = some (.int H) := gIxT0 _ _
  have g1 : gIx (eT H ss) (.int 1) = some (.tuple (ss.map eS)) := gIxT1 _ _ _
  have ir := law_int_gen (d := .int H) rfl 1 1000
  have iv : inR (.int H) 1 1000 = true := by
    show (decide (1 ≤ H) && decide (H ≤ 1000)) = true
    rw [decide_eq_true sh.h1, decide_eq_true sh.h2]
    rfl
  rw [iv] at ir
  have gt : ¬ (24 < (ss.length : Int)) := by omega
  have gl : gLen [eT H ss] = some (.int 2) := rfl
  rcases forL_stop1 (t := Tgt.nm 1) (body := m_law_due_l3) (s := .dat (.bool false)) (fun st => ∃ s1, st = [.dat (eT H ss), s1, .un, .un, .un, .un, .un, .un, .un]) (shipB H) (ss.map eS) [.dat (eT H ss), .un, .un, .un, .un, .un, .un, .un, .un] ⟨_, rfl⟩ (fun x hx b ⟨s1, eb⟩ => by
    subst eb
    obtain ⟨p, _, rfl⟩ := List.mem_map.mp hx
    have tr := due_ship_turn g0 (d := eS p) rfl (fun ds hd x hx => by
      have e : ds = [.int p.1, .int p.2] := (PyData.tuple.inj hd).symm
      rw [e] at hx
      simp at hx
      rcases hx with rfl | rfl <;> rfl) .un .un .un .un .un .un .un
    cases hb : shipB H (eS p) with
    | true =>
      rw [hb, if_pos rfl] at tr
      exact ⟨_, _, by simp; try rfl, .inl ⟨rfl, tr, _, rfl⟩⟩
    | false =>
      rw [hb, if_neg (by decide)] at tr
      exact ⟨_, _, by simp; try rfl, .inr ⟨rfl, tr⟩⟩) with ⟨_, st, e, s1, rfl⟩ | ⟨h, _⟩
  · have cmp := lcL_pure (t := Tgt.nm 1) (m := m_law_due_l0) (vs := [1]) eS (fun p => .int p.1) [.dat (eT H ss), .un, .dat (.int H), .lst [], .un, .un, .un, .un, .un] ss (by simp [lineN]; omega) fun p hp => by
      exact ⟨[.dat (eT H ss), .dat (eS p), .dat (.int H), .lst [], .un, .un, .un, .un, .un], by simp, by simp [m_law_due_l0, gIxS0], by simp [wipeA]⟩
    have em : (ss.map fun p => PyData.int p.1) = (ss.map (·.1)).map PyData.int := by rw [List.map_map]; rfl
    rw [em] at cmp
    have ii : (mIter (mB (mV 0) (mH (M.pure (PyData.int 1))) gIx)) [.dat (eT H ss), s1, .dat (.int H), .lst [], .un, .un, .un, .un, .un] = some (.ok (ss.map eS), [.dat (eT H ss), s1, .dat (.int H), .lst [], .un, .un, .un, .un, .un]) := by simp [g1]
    have lc := lc_ret (t := Tgt.nm 1) (c := M.pure true) (m := m_law_due_l0) (vs := [1]) ii cmp
    have w1 : wipeA [.dat (eT H ss), .un, .dat (.int H), .lst [], .un, .un, .un, .un, .un] [1] = [.dat (eT H ss), .un, .dat (.int H), .lst [], .un, .un, .un, .un, .un] := rfl
    rw [w1] at lc
    have gs : gSortSet [.list ((ss.map (·.1)).map PyData.int)] = some (.lst ((sortU (ss.map (·.1))).map PyData.int)) := by
      unfold gSortSet
      simp only [intsD_map]
      rw [if_pos (by rw [List.length_map]; omega)]
    have ul : ∀ l : List Int, (sortU l).length ≤ l.length := fun l => by
      have ins : ∀ (n : Int) (l : List Int), (insU n l).length ≤ l.length + 1 := fun n l => by
        induction l with
        | nil => simp [insU]
        | cons m r ih =>
          unfold insU
          split
          · simp
          · split
            · simp
            · simp only [List.length_cons]
              omega
      induction l with
      | nil => exact Nat.le_refl _
      | cons n r ih =>
        have := ins n (sortU r)
        simp only [sortU, List.length_cons]
        omega
    have lu := ul (ss.map (·.1))
    rw [List.length_map] at lu
    obtain ⟨U, hU⟩ : ∃ U, U = sortU (ss.map (·.1)) := ⟨_, rfl⟩
    rw [← hU] at gs lu
    obtain ⟨st, e2, s5, s6, s7, s8, s4, rfl⟩ := forL_inv (t := Tgt.nm 4) (body := m_law_due_l2) PyData.int (fun pre st => ∃ s5 s6 s7 s8 s4, st = [.dat (eT H ss), .un, .dat (.int H), .lst ((pre.map (tt H ss)).map PyData.int), s4, s5, s6, s7, s8]) U [] [.dat (eT H ss), .un, .dat (.int H), .lst [], .un, .un, .un, .un, .un] ⟨_, _, _, _, _, rfl⟩ fun p x q b hp ⟨s5, s6, s7, s8, s4, eb⟩ => by
      subst eb
      have hpl : p.length ≤ U.length := by
        have := congrArg List.length hp
        simp at this
        omega
      obtain ⟨t5, t6, t7, t8, tr⟩ := hour_turn sh x (p.map (tt H ss)) (by rw [List.length_map]; omega) .un s5 s6 s7 s8
      refine ⟨[.dat (eT H ss), .un, .dat (.int H), .lst ((p.map (tt H ss)).map PyData.int), .dat (.int x), s5, s6, s7, s8], _, by simp, .inl tr, t5, t6, t7, t8, .dat (.int x), ?_⟩
      rw [List.map_append (l₁ := p)]
      rfl
    have mx : gMax1 [.list ((U.map (tt H ss)).map PyData.int ++ [.int 0])] = some (.int (dueM H ss)) := by
      have ea : (U.map (tt H ss)).map PyData.int ++ [PyData.int 0] = (U.map (tt H ss) ++ [0]).map PyData.int := by rw [List.map_append]; rfl
      unfold gMax1
      rw [ea]
      simp only [intsD_map]
      unfold dueM
      rw [← hU]
      obtain ⟨m, hm⟩ := maxI_some (L := U.map (tt H ss) ++ [0]) (by simp)
      show (maxI (U.map (tt H ss) ++ [0])).map PyData.int = _
      rw [hm]
      rfl
    have z : U.length ≤ 16777215 := by omega
    refine fnD_ret ?_
    simp only [m_law_due, startA, mSeq_app]
    simp [-List.map_map, it, it2, gl, gNeA_int, g0, g1, ir, gLen_t, gGt, gCmp, gt]
    rw [e, seqO_nx]
    simp [-List.map_map, g0]
    rw [lc]
    simp [-List.map_map, gs]
    rw [e2, seqO_nx]
    simp [-List.map_map, gPlus, gCat, lineN, z, mx, gLe, gCmp]
  · rw [ship_sB sh] at h
    cases h
end
end LawK01

namespace LawK01
open PySem L2 Am
section
variable {H : Int} {ss : List (Int × Int)}
theorem asc_at {L : List (List Int)} (h : Asc lexL L) {i j : Nat} (hij : i < j) (hj : j < L.length) : lexL (L[j]) (L[i]'(by omega)) = false := List.pairwise_iff_getElem.mp h i j (by omega) hj hij
/-- the law's circle: what stands behind the full moment, a day long -/
def lawCir (H : Int) (ss : List (Int × Int)) (s : Nat) : List (List Int) := (cir H ss).map fun e => sh H ((s : Int) + e.1) e.2
theorem lawCir_eq (s : Nat) : lawCir H ss s = ((evs H ss).drop (fi H ss + 1)).map (sh H (s : Int)) ++ ((evs H ss).take (fi H ss + 1)).map (sh H ((s : Int) + 1)) := by
  unfold lawCir cir
  rw [List.map_append, List.map_map, List.map_map]
  congr 1
theorem behind_top (ok : TOk H ss) (hne : ss ≠ []) {n s : Nat} (hs : s + 1 < n) (ha : ∀ q ∈ ss.zipIdx, 0 ≤ ago H q ∧ ago H q ≤ (s : Int)) : ((runL H ss n).filter fun e => lexL (topEv H ss s) e).take (2 * ss.length) = lawCir H ss s := by
  obtain ⟨post, e⟩ := run_cut ok hs ha
  have hf := fi_lt (H := H) hne
  have tE : topEv H ss s = sh H (s : Int) ((evs H ss)[fi H ss]) := by unfold topEv; rw [fiE hne]
  have sp : (evs H ss).map (sh H (s : Int)) = ((evs H ss).take (fi H ss)).map (sh H (s : Int)) ++ topEv H ss s :: ((evs H ss).drop (fi H ss + 1)).map (sh H (s : Int)) := by
    rw [tE, ← List.map_cons, ← List.map_append, ← List.drop_eq_getElem_cons hf, List.take_append_drop]
  rw [sp] at e
  generalize hA : (runL H ss n).filter (tBel ((s : Int) * H)) = A at e
  have e2 : runL H ss n = (A ++ ((evs H ss).take (fi H ss)).map (sh H (s : Int))) ++ topEv H ss s :: (((evs H ss).drop (fi H ss + 1)).map (sh H (s : Int)) ++ ((evs H ss).map (sh H ((s : Int) + 1)) ++ post)) := by
    rw [e]
    simp
  have asc := run_asc (H := H) (ss := ss) n
  have nd := runL_nodup (H := H) (ss := ss) n
  rw [e2] at asc nd ⊢
  obtain ⟨p1, p2, p3⟩ := List.pairwise_append.mp asc
  obtain ⟨p4, p5⟩ := List.pairwise_cons.mp p2
  have n2 := (List.nodup_cons.mp (List.nodup_append.mp nd).2.1).1
  rw [List.filter_append, List.filter_eq_nil_iff.mpr (fun a h => by rw [p3 a h _ List.mem_cons_self]; exact Bool.false_ne_true), List.nil_append, List.filter_cons_of_neg (by rw [lexL_irr]; exact Bool.false_ne_true), List.filter_eq_self.mpr (fun b hb => by
    cases hq : lexL (topEv H ss s) b with
    | true => rfl
    | false => exact absurd (lexL_anti hq (p4 b hb)) (fun z => n2 (by rw [z]; exact hb))), lawCir_eq]
  have len := evs_len H ss
  rw [List.take_append, List.length_map, List.take_of_length_le (by rw [List.length_map, List.length_drop]; omega), List.length_drop, List.take_append_of_le_length (by rw [List.length_map]; omega), ← List.map_take]
  congr 2
  congr 1
  omega
/-- the full moments from day s on: the first is the steady day's -/
def fullAt (H : Int) (ss : List (Int × Int)) (n s : Nat) (j : Nat) : Bool := decide ((s : Int) * H ≤ ((runL H ss n).getD j []).getD 0 0) && decide ((nums H ss n).getD j 0 = pkOf H ss)
theorem first_full (ok : TOk H ss) (hne : ss ≠ []) {n s : Nat} (hs : s + 1 < n) (ha : ∀ q ∈ ss.zipIdx, 0 ≤ ago H q ∧ ago H q ≤ (s : Int)) :
    ∃ j rest, (List.range (runL H ss n).length).filter (fullAt H ss n s) = j :: rest ∧ (runL H ss n)[j]? = some (topEv H ss s) := by
  obtain ⟨j, hj, e⟩ := List.getElem_of_mem (top_mem ok hne hs ha)
  have hf := fi_lt (H := H) hne
  have h1 := ok.h1
  have tE : topEv H ss s = sh H (s : Int) ((evs H ss)[fi H ss]) := by unfold topEv; rw [fiE hne]
  have mE : (evs H ss)[fi H ss] ∈ evs H ss := List.getElem_mem hf
  have gl : ∀ i, (hi : i < (runL H ss n).length) → (runL H ss n).getD i [] = (runL H ss n)[i] := fun i hi => by rw [List.getD_eq_getElem?_getD, List.getElem?_eq_getElem hi]; rfl
  have gn : ∀ i, (hi : i < (runL H ss n).length) → (nums H ss n).getD i 0 = lvR H ss n ((runL H ss n)[i]) := fun i hi => by rw [List.getD_eq_getElem?_getD, nums_at hi]; rfl
  have pj : fullAt H ss n s j = true := by
    unfold fullAt
    rw [gl j hj, gn j hj, e, top_lv ok hne hs ha, decide_eq_true rfl, Bool.and_true]
    have hh := evs_hour ok mE
    refine decide_eq_true ?_
    rw [tE]
    show (s : Int) * H ≤ ((evs H ss)[fi H ss]).getD 0 0 + (s : Int) * H
    omega
  have before : ∀ i, i < j → fullAt H ss n s i = false := fun i hij => by
    cases hp : fullAt H ss n s i with
    | false => rfl
    | true =>
      exfalso
      have hi : i < (runL H ss n).length := by omega
      unfold fullAt at hp
      rw [gl i hi, gn i hi] at hp
      obtain ⟨t1, t2⟩ := Bool.and_eq_true_iff.mp hp
      have t1 := of_decide_eq_true t1
      have t2 := of_decide_eq_true t2
      have ord := asc_at (run_asc (H := H) (ss := ss) n) hij hj
      rw [e] at ord
      have tl := time_le (run_ne (List.getElem_mem hi)) (by rw [← e]; exact run_ne (List.getElem_mem hj)) ord
      have hh := evs_hour ok mE
      have tt : (topEv H ss s).getD 0 0 = ((evs H ss)[fi H ss]).getD 0 0 + (s : Int) * H := by rw [tE]; rfl
      have on : onDay H (s : Int) ((runL H ss n)[i]) = true := by
        unfold onDay
        refine decide_eq_true ⟨t1, ?_⟩
        rw [Int.add_mul, Int.one_mul]
        omega
      have mm : (runL H ss n)[i] ∈ (evs H ss).map (sh H (s : Int)) := by
        rw [← day_part ok (n := n) (D := s) (by omega) ha]
        exact List.mem_filter.mpr ⟨List.getElem_mem hi, on⟩
      obtain ⟨l, hl, el⟩ := List.mem_map.mp mm
      obtain ⟨k, hk, ek⟩ := List.getElem_of_mem hl
      rw [← el, lvR_eq ok (by omega) ha (by omega) hl, ← ek, ← lvE_at hk] at t2
      rw [← el, tE, sh_lex ok _ mE hl, ← ek] at ord
      -- k is not behind the full moment
      have hk2 : k ≤ fi H ss := by
        rcases Nat.lt_or_ge (fi H ss) k with c | c
        · exfalso
          have o2 := asc_at (evs_asc H ss) c hk
          have eq := lexL_anti o2 ord
          have nd := List.pairwise_iff_getElem.mp (evs_nodup H ss) (fi H ss) k hf hk c
          exact nd eq.symm
        · exact c
      rcases step_cases (l := (evs H ss)[k]) with ⟨_, kd⟩ | ⟨st, _⟩
      · -- an arrival: it would be the first full moment
        have top : isTop H ss ((evs H ss)[k], tot (mid H ss) ((evs H ss).take (k + 1))) = true := by
          unfold isTop
          rw [decide_eq_true kd, decide_eq_true t2]
          rfl
        have at_k : (eC H ss)[k]? = some ((evs H ss)[k], tot (mid H ss) ((evs H ss).take (k + 1))) := by
          unfold eC
          rw [List.getElem?_zip_eq_some]
          exact ⟨by simp [hk], cnt_get _ _ _ hk⟩
        have hk3 : fi H ss ≤ k := by
          rcases Nat.lt_or_ge k (fi H ss) with c | c
          · exfalso
            have := List.not_of_lt_findIdx (p := isTop H ss) (xs := eC H ss) c
            have hlt := (List.getElem?_eq_some_iff.mp at_k)
            rw [hlt.2, top] at this
            exact absurd this (by simp)
          · exact c
        have hkf : k = fi H ss := by omega
        subst hkf
        have same : (runL H ss n)[i] = (runL H ss n)[j] := by rw [e, ← el, ← ek, tE]
        exact List.pairwise_iff_getElem.mp (runL_nodup (H := H) (ss := ss) n) i j hi hj hij same
      · have z := lvl_le (H := H) hne k (by omega)
        rw [List.take_succ_eq_append_getElem hk, tot_append] at t2
        simp [st] at t2
        omega
  refine ⟨j, (List.range' (j + 1) ((runL H ss n).length - (j + 1))).filter (fullAt H ss n s), ?_, by rw [List.getElem?_eq_getElem hj, e]⟩
  have rs : List.range (runL H ss n).length = List.range' 0 j ++ j :: List.range' (j + 1) ((runL H ss n).length - (j + 1)) := by
    rw [← List.range'_succ, List.range_eq_range', show (runL H ss n).length - (j + 1) + 1 = (runL H ss n).length - j by omega]
    have := List.range'_append_1 (s := 0) (m := j) (n := (runL H ss n).length - j)
    rw [Nat.zero_add] at this
    rw [this]
    congr 1
    omega
  rw [rs, List.filter_append, List.filter_eq_nil_iff.mpr (fun i hi => by
    have := List.mem_range'_1.mp hi
    rw [before i (by omega)]
    exact Bool.false_ne_true), List.nil_append, List.filter_cons_of_pos pj]
end
end LawK01

namespace LawK01
open PySem L2 Am
/-- a comprehension with a condition -/
theorem lcL_filt {α : Type} {t : Tgt} {c : M Bool} {m : M PyData} {vs : List Nat} (enc f : α → PyData) (p : α → Bool) (a : AEnv) : ∀ (xs : List α) (acc : List PyData), acc.length + xs.length ≤ lineN →
    (∀ x ∈ xs, ∃ b, t.put (enc x) a = some b ∧ c b = some (.ok (p x), b) ∧ m b = some (.ok (f x), b) ∧ wipeA b vs = a) → lcL t c m vs (xs.map enc) acc a = some (acc ++ (xs.filter p).map f, a)
  | [], acc, _, _ => by simp [lcL]
  | x :: xs, acc, hz, h => by
    obtain ⟨b, e1, e2, e3, e4⟩ := h x List.mem_cons_self
    have hz' : acc.length + (xs.length + 1) ≤ lineN := hz
    rw [List.map_cons, lcL, e1]
    dsimp only
    rw [e2]
    cases hp : p x with
    | true =>
      dsimp only
      rw [e3]
      dsimp only
      rw [if_pos (by omega), e4, lcL_filt enc f p a xs (acc ++ [f x]) (by simp; omega) fun y hy => h y (List.mem_cons_of_mem _ hy), List.filter_cons_of_pos hp]
      simp
    | false =>
      dsimp only
      rw [e4, lcL_filt enc f p a xs acc (by omega) fun y hy => h y (List.mem_cons_of_mem _ hy), List.filter_cons_of_neg (by rw [hp]; exact Bool.false_ne_true)]
section
variable {H : Int} {ss : List (Int × Int)}
theorem runU_len (n : Nat) : (runU H ss n).length = n * (2 * ss.length) := by
  have one : ∀ d : Nat, (ss.zipIdx.flatMap fun q => [aEv H q (d : Int), dEv H q (d : Int)]).length = 2 * ss.length := fun d => by
    have : ∀ L : List Shp, (L.flatMap fun q => [aEv H q (d : Int), dEv H q (d : Int)]).length = 2 * L.length := fun L => by
      induction L with
      | nil => rfl
      | cons a r ih => rw [List.flatMap_cons, List.length_append, ih, List.length_cons]; simp; omega
    rw [this, List.length_zipIdx]
  induction n with
  | zero => simp [runU]
  | succ n ih =>
    have : runU H ss (n + 1) = runU H ss n ++ ss.zipIdx.flatMap fun q => [aEv H q (n : Int), dEv H q (n : Int)] := by
      unfold runU
      rw [List.range_succ, List.flatMap_append]
      simp
    rw [this, List.length_append, ih, one, Nat.add_mul, Nat.one_mul]
theorem runU_succ (n : Nat) : runU H ss (n + 1) = runU H ss n ++ ss.zipIdx.flatMap fun q => [aEv H q (n : Int), dEv H q (n : Int)] := by
  unfold runU
  rw [List.range_succ, List.flatMap_append]
  simp
def EVI (H : Int) (ss : List (Int × Int)) (n : Nat) (pre : List Nat) (st : AEnv) : Prop := ∃ s4 s7 s8 s9 s10, st = [.dat (eT H ss), .dat (.int 0), .dat (.int (n : Int)), .lst ((runU H ss pre.length).map tupOf), s4, .dat (.int H), .dat (.tuple (ss.map eS)), s7, s8, s9, s10]
theorem runL_len (n : Nat) : (runL H ss n).length = n * (2 * ss.length) := by
  rw [show (runL H ss n).length = (runU H ss n).length from (isort_perm lexL _).length_eq, runU_len]
end
end LawK01

namespace LawK01
open PySem L2 Am
/-! ### k01: values that the law asks about -/
/-- no box's reference, to a depth -/
def Cn : Nat → PyData → Prop
  | 0, d => isBx d = false
  | n + 1, d => isBx d = false ∧ ∀ ds, d = .tuple ds → ∀ x ∈ ds, Cn n x
theorem Cn.bx {n : Nat} {d : PyData} (h : Cn n d) : isBx d = false := by
  cases n with
  | zero => exact h
  | succ n => exact h.1
theorem Cn.leaf {d : PyData} (hb : isBx d = false) (ht : ∀ ds, d ≠ .tuple ds) : ∀ n, Cn n d
  | 0 => hb
  | _ + 1 => ⟨hb, fun ds h => absurd h (ht ds)⟩
theorem Cn.tup {ds : List PyData} (h : ∀ x ∈ ds, ∀ n, Cn n x) : ∀ n, Cn n (.tuple ds)
  | 0 => rfl
  | n + 1 => ⟨rfl, fun es he x hx => by
      have e : es = ds := (PyData.tuple.inj he).symm
      rw [e] at hx
      exact h x hx n⟩
theorem ships_es {H : Int} : ∀ {ds : List PyData}, ds.all (shipB H) = true → ∃ ss : List (Int × Int), ds = ss.map eS ∧ ∀ p ∈ ss, 0 ≤ p.1 ∧ p.1 < H ∧ 1 ≤ p.2 ∧ p.2 ≤ 10000
  | [], _ => ⟨[], rfl, fun _ h => by cases h⟩
  | d :: ds, h => by
    rw [List.all_cons] at h
    obtain ⟨h1, h2⟩ := Bool.and_eq_true_iff.mp h
    obtain ⟨ss, rfl, hs⟩ := ships_es h2
    have : ∃ x y : Int, d = .tuple [.int x, .int y] ∧ 0 ≤ x ∧ x < H ∧ 1 ≤ y ∧ y ≤ 10000 := by
      unfold shipB at h1
      split at h1
      · rename_i a b
        obtain ⟨ha, hb⟩ := Bool.and_eq_true_iff.mp h1
        unfold inR at ha hb
        split at ha
        · split at hb
          · obtain ⟨u1, u2⟩ := Bool.and_eq_true_iff.mp ha
            obtain ⟨w1, w2⟩ := Bool.and_eq_true_iff.mp hb
            have u1 := of_decide_eq_true u1
            have u2 := of_decide_eq_true u2
            exact ⟨_, _, rfl, u1, by omega, of_decide_eq_true w1, of_decide_eq_true w2⟩
          · cases hb
        · cases ha
      · cases h1
    obtain ⟨x, y, rfl, q⟩ := this
    exact ⟨(x, y) :: ss, rfl, fun p hp => by
      rcases List.mem_cons.mp hp with rfl | hp
      · exact q
      · exact hs p hp⟩
theorem inR_int {d : PyData} {l h : Int} (hh : inR d l h = true) : ∃ v, d = .int v ∧ l ≤ v ∧ v ≤ h := by
  unfold inR at hh
  split at hh
  · obtain ⟨a, b⟩ := Bool.and_eq_true_iff.mp hh
    exact ⟨_, rfl, of_decide_eq_true a, of_decide_eq_true b⟩
  · cases hh
/-- both say the same -/
theorem same {v : PyData} (hv : Cn 3 v) : ∃ b, F_is_table [v] = some (.ok (.dat (.bool b))) ∧ F_law_due [v] = some (.ok (.dat (.bool b))) := by
  by_cases ht : isTu v = true
  · obtain ⟨ds, rfl⟩ : ∃ ds, v = .tuple ds := by
      cases v <;> first | exact ⟨_, rfl⟩ | cases ht
    by_cases hl : ds.length = 2
    · obtain ⟨a, b, rfl⟩ : ∃ a b, ds = [a, b] := by
        match ds, hl with
        | [a, b], _ => exact ⟨a, b, rfl⟩
      have ca : Cn 2 a := hv.2 _ rfl a (by simp)
      have cb : Cn 2 b := hv.2 _ rfl b (by simp)
      cases ha : inR a 1 1000 with
      | false => exact ⟨false, no_hours ca.bx ha, due_hours ca.bx ha⟩
      | true =>
        obtain ⟨H, rfl, h1, h2⟩ := inR_int ha
        by_cases htb : isTu b = true
        · obtain ⟨es, rfl⟩ : ∃ es, b = .tuple es := by
            cases b <;> first | exact ⟨_, rfl⟩ | cases htb
          have ce : ∀ d ∈ es, isBx d = false ∧ ∀ fs, d = .tuple fs → ∀ x ∈ fs, isBx x = false := fun d hd => by
            have c1 : Cn 1 d := cb.2 _ rfl d hd
            exact ⟨c1.1, fun fs hf x hx => c1.2 fs hf x hx⟩
          by_cases hl2 : 24 < es.length
          · exact ⟨false, no_few h1 h2 hl2, due_few h1 h2 hl2⟩
          cases hs : es.all (shipB H) with
          | false => exact ⟨false, no_ship h1 h2 ce hs, due_ship h1 h2 ce hs⟩
          | true =>
            obtain ⟨ss, rfl, q⟩ := ships_es hs
            have sh : TSh H ss := ⟨h1, h2, by rw [List.length_map] at hl2; omega, q⟩
            refine ⟨decide (pkOf H ss ≤ 60), table_sh sh, ?_⟩
            rw [due_peak sh]
            exact due_sh sh
        · have e : isTu b = false := by simpa using htb
          exact ⟨false, no_ships h1 h2 cb.bx e, due_ships h1 h2 cb.bx e⟩
    · exact ⟨false, no_two hl, due_two hl⟩
  · have e : isTu v = false := by simpa using ht
    exact ⟨false, no_tuple hv.bx e, due_not hv.bx e⟩
def oddV : List PyData := [.none, .bool true, .bool false, .int 0, .int 1, .int (-1), .int 1000, .int 1001, .int 10000, .int 10001, .str "", .str "1", .list [], .tuple [], .dict [], .tuple [.int 0], .tuple [.int 0, .int 0], .int (10 ^ 20)]
/-- values of the law, by their depth -/
def Bv : Nat → PyData → Prop
  | 0, d => d ∈ oddV ∨ ∃ i : Int, d = .int i ∧ -100000 ≤ i ∧ i ≤ 100000
  | n + 1, d => Bv n d ∨ ∃ ds, (d = .tuple ds ∨ d = .list ds) ∧ ds.length ≤ 60 ∧ ∀ x ∈ ds, Bv n x
theorem Bv.up {n : Nat} {d : PyData} (h : Bv n d) : Bv (n + 1) d := .inl h
theorem Bv.mono {n : Nat} {d : PyData} (h : Bv n d) : ∀ {m : Nat}, n ≤ m → Bv m d := fun {m} hm => by
  induction m with
  | zero =>
    have : n = 0 := by omega
    subst this
    exact h
  | succ m ih =>
    by_cases e : n = m + 1
    · subst e
      exact h
    · exact (ih (by omega)).up
theorem Bv.cn : ∀ {n : Nat} {d : PyData}, Bv n d → ∀ k, Cn k d
  | 0, d, h => by
    rcases h with h | ⟨i, rfl, _⟩
    · have li : ∀ i : Int, ∀ k, Cn k (.int i) := fun i => Cn.leaf rfl (fun _ h => by cases h)
      simp only [oddV, List.mem_cons, List.not_mem_nil, or_false] at h
      rcases h with rfl | rfl | rfl | rfl | rfl | rfl | rfl | rfl | rfl | rfl | rfl | rfl | rfl | rfl | rfl | rfl | rfl | rfl
      case _ => exact Cn.leaf rfl (fun _ h => by cases h)
      case _ => exact Cn.leaf rfl (fun _ h => by cases h)
      case _ => exact Cn.leaf rfl (fun _ h => by cases h)
      case _ => exact li _
      case _ => exact li _
      case _ => exact li _
      case _ => exact li _
      case _ => exact li _
      case _ => exact li _
      case _ => exact li _
      case _ => exact Cn.leaf rfl (fun _ h => by cases h)
      case _ => exact Cn.leaf rfl (fun _ h => by cases h)
      case _ => exact Cn.leaf rfl (fun _ h => by cases h)
      case _ => exact Cn.tup (fun x hx => by cases hx)
      case _ => exact Cn.leaf rfl (fun _ h => by cases h)
      case _ => exact Cn.tup (fun x hx => by rw [List.mem_singleton.mp hx]; exact li 0)
      case _ => exact Cn.tup (fun x hx => by
        simp at hx
        subst hx
        exact li 0)
      case _ => exact li _
    · exact Cn.leaf rfl (fun _ h => by cases h)
  | n + 1, d, h => by
    rcases h with h | ⟨ds, rfl | rfl, _, h⟩
    · exact h.cn
    · exact Cn.tup fun x hx => (h x hx).cn
    · exact Cn.leaf rfl (fun _ h => by cases h)
def mBv : Nat → Nat
  | 0 => 31
  | n + 1 => 3 + (mBv n + 2) * 60
theorem mBv_le (n : Nat) : mBv n ≤ mBv (n + 1) := by
  show mBv n ≤ 3 + (mBv n + 2) * 60
  omega
theorem Bv.pr : ∀ {n : Nat} {d : PyData}, Bv n d → Pr (2 + n) (mBv n) d
  | 0, d, h => by
    rcases h with h | ⟨i, rfl, h1, h2⟩
    · simp only [oddV, List.mem_cons, List.not_mem_nil, or_false] at h
      rcases h with rfl | rfl | rfl | rfl | rfl | rfl | rfl | rfl | rfl | rfl | rfl | rfl | rfl | rfl | rfl | rfl | rfl | rfl <;> exact ⟨by decide +kernel, by decide +kernel, by decide +kernel⟩
    · have e : (10 : Int) ^ 30 = 1000000000000000000000000000000 := by decide
      exact (Pr.int (by omega) (by omega)).mono (by omega) (by decide)
  | n + 1, d, h => by
    rcases h with h | ⟨ds, rfl | rfl, hl, h⟩
    · exact h.pr.mono (by omega) (mBv_le n)
    · exact (Pr.tup fun x hx => (h x hx).pr).mono (by omega) (by
        show 3 + (mBv n + 2) * ds.length ≤ 3 + (mBv n + 2) * 60
        exact Nat.add_le_add_left (Nat.mul_le_mul_left _ hl) _)
    · exact (Pr.lst fun x hx => (h x hx).pr).mono (by omega) (by
        show 2 + (mBv n + 2) * ds.length ≤ 3 + (mBv n + 2) * 60
        have := Nat.mul_le_mul_left (mBv n + 2) hl
        omega)
theorem fnI_retA {n : Nat} {body : M Fl} {s0 : Sl} {ds : List PyData} {s s1 : Sl} {r : List Sl} (h : body (startA n (s0 :: ds.map Sl.dat)) = some (.ok (.ret s), s1 :: r)) (ho : s1.owned = true) : fnI n body s0 ds = some (.ok s, s1) := by
  unfold fnI
  rw [h]
  show (if s1.owned = true then some (Except.ok s, s1) else none) = _
  rw [if_pos ho]
theorem odd_spec {k : Int} (a b : Int) (hk : 0 ≤ k) (hk2 : k < 2 ^ 60) : ∃ d a' k', F_law_odd (.lst [.int a, .int b, .int k]) [] = some (.ok (.dat d), .lst [.int a', .int b, .int k']) ∧ Bv 0 d ∧ k' = k + 1 := by
  have p60 : (18 : Int) < 2 ^ 60 := by decide
  obtain ⟨r, a', k', e, hk', l, u⟩ := pick_lit (n := 18) (k := k) a b hk hk2 (by decide) p60
  obtain ⟨d, hd, gd⟩ := gIx_in oddV r l u
  have gp : gPow (.int 10) (.int 20) = some (.int 100000000000000000000) := by
    have c : cPow 10 20 = true := by decide
    show (if cPow 10 20 = true then some (PyData.int (10 ^ (20 : Int).toNat)) else none) = _
    rw [if_pos c]
    rfl
  have n1 : gNeg (.int 1) = some (.int (-1)) := rfl
  have eo : [PyData.none, .bool true, .bool false, .int 0, .int 1, .int (-1), .int 1000, .int 1001, .int 10000, .int 10001, .str "", .str "1", .list [], .tuple [], .dict [], .tuple [.int 0], .tuple [.int 0, .int 0], .int 100000000000000000000] = oddV := rfl
  refine ⟨d, a', k', fnI_retA (r := [.lst oddV]) ?_ rfl, .inl hd, hk'⟩
  simp only [m_law_odd, startA, mSeq_app, mAsg_app]
  have lO : oddV.length = 18 := rfl
  simp [gp, n1, lineN, e, eo, gd, lO]
end LawK01

namespace LawK01
open PySem L2 Am
/-! ### k01: bent values -/
def Or0 : Nat → PyData → Prop
  | 0, d => ∃ i : Int, d = .int i ∧ 0 ≤ i ∧ i ≤ 20000
  | n + 1, d => Or0 n d ∨ ∃ ds, d = .tuple ds ∧ ds.length ≤ 24 ∧ ∀ x ∈ ds, Or0 n x
theorem Or0.bv : ∀ {n : Nat} {d : PyData}, Or0 n d → Bv n d
  | 0, d, ⟨i, e, h1, h2⟩ => .inr ⟨i, e, by omega, by omega⟩
  | n + 1, d, h => by
    rcases h with h | ⟨ds, e, hl, h⟩
    · exact .inl h.bv
    · exact .inr ⟨ds, .inl e, by omega, fun x hx => (h x hx).bv⟩
theorem Or0.sh : ∀ {n : Nat} {d : PyData}, Or0 n d → Sh n d
  | 0, d, ⟨i, e, _⟩ => by
    rw [e]
    exact Sh.int 0 i
  | n + 1, d, h => by
    rcases h with h | ⟨ds, rfl, hl, h⟩
    · exact h.sh.mono (by omega)
    · exact Sh.tup fun x hx => (h x hx).sh
/-- the part of bent that bends here -/
def bendM : M Fl :=
 (mSeq (mIfS (mOr (mNot (mTru (mU (mV 1) (isiD "tuple")))) (mB (mH (mFrz (mFnI 0 (mDs (M.pure (PyData.int 2)) (M.pure [])) F_law_pick))) (mH (M.pure (PyData.int 0))) gEqA))
 (mRet (mFnI 0 (M.pure []) F_law_odd))
 (M.pure .nx))
 (mSeq (mAsg 3 (mFnI 0 (mDs (mB (mH (mCall (mHs (mV 1) (M.pure [])) gLen)) (mH (M.pure (PyData.int 1))) gAdd) (M.pure [])) F_law_pick))
 (mSeq (mAsg 5 (mLst (mDs (mB (mV 1) (mH (mTup (mDs (mFrz (mFnI 0 (M.pure []) F_law_odd)) (M.pure [])))) gAdd) (mDs (mB (mH (mFrz (mSl (mV 1) (M.pure none) (M.bind (mVD 3) fun d => M.of (gPart d))))) (mH (mFrz (mSl (mV 1) (M.bind (mB (mV 3) (mH (M.pure (PyData.int 1))) gAdd) fun d => M.of (gPart d)) (M.pure none)))) gAdd) (mDs (mFrz (mCall (mHs (mV 1) (M.pure [])) fun ds => nU (gList ds))) (mDs (mFrz (mRev (mV 1))) (mDs (mB (mV 1) (mH (mFrz (mSl (mV 1) (M.pure none) (M.bind (M.pure (PyData.int 1)) fun d => M.of (gPart d))))) gAdd) (M.pure []))))))))
 (mRet (mX (mB (mV 5) (mH (mFrz (mFnI 0 (mDs (M.pure (PyData.int 5)) (M.pure [])) F_law_pick))) gIx))))))
theorem bend_not {k : Int} (a b : Int) (hk : 0 ≤ k) (hk2 : k < 2 ^ 55) {v : PyData} (hb : isBx v = false) (ht : isTu v = false) (s2 s3 s4 s5 : Sl) : ∃ d a' k',
    bendM [.lst [.int a, .int b, .int k], .dat v, s2, s3, s4, s5] = some (.ok (.ret (.dat d)), [.lst [.int a', .int b, .int k'], .dat v, s2, s3, s4, s5]) ∧ Bv 0 d ∧ k' = k + 1 := by
  have p55 : (2 : Int) ^ 55 < 2 ^ 60 := by decide
  obtain ⟨d, a', k', e, hd, hk'⟩ := odd_spec (k := k) a b hk (by omega)
  refine ⟨d, a', k', ?_, hd, hk'⟩
  simp [bendM, isi_tup hb, ht, e]
theorem bend_tup {k : Int} (a b : Int) (hk : 0 ≤ k) (hk2 : k < 2 ^ 55) {n : Nat} {ds : List PyData} (hl : ds.length ≤ 24) (ho : ∀ x ∈ ds, Or0 n x) (s2 s3 s4 s5 : Sl) : ∃ d a' k' t3 t5,
    bendM [.lst [.int a, .int b, .int k], .dat (.tuple ds), s2, s3, s4, s5] = some (.ok (.ret (.dat d)), [.lst [.int a', .int b, .int k'], .dat (.tuple ds), s2, t3, s4, t5]) ∧ Bv (n + 1) d ∧ k ≤ k' ∧ k' ≤ k + 5 := by
  have p55 : (2 : Int) ^ 55 = 36028797018963968 := by decide
  have p60 : (2 : Int) ^ 60 = 1152921504606846976 := by decide
  have it : isiD "tuple" (.tuple ds) = some (.bool true) := isi_tup rfl
  obtain ⟨r1, a1, k1, e1, q1, l1, u1⟩ := pick_lit (n := 2) (k := k) a b hk (by omega) (by decide) (by omega)
  by_cases h0 : r1 = 0
  · obtain ⟨d, a', k', e, hd, hk'⟩ := odd_spec (k := k1) a1 b (by omega) (by omega)
    refine ⟨d, a', k', s3, s5, ?_, hd.mono (Nat.zero_le _), by omega, by omega⟩
    subst h0
    simp [bendM, it, e1, gEqA_int, e]
  · obtain ⟨r2, a2, k2, e2, q2, l2, u2⟩ := pick_lit (n := (ds.length : Int) + 1) (k := k1) a1 b (by omega) (by omega) (by omega) (by omega)
    obtain ⟨o, a3, k3, e3, ho3, q3⟩ := odd_spec (k := k2) a2 b (by omega) (by omega)
    obtain ⟨r4, a4, k4, e4, q4, l4, u4⟩ := pick_lit (n := 5) (k := k3) a3 b (by omega) (by omega) (by decide) (by omega)
    obtain ⟨i, rfl⟩ : ∃ i : Nat, r2 = (i : Int) := ⟨r2.toNat, (Int.toNat_of_nonneg l2).symm⟩
    have ad : ∀ xs ys : List PyData, xs.length + ys.length ≤ 1000 → gAdd (.tuple xs) (.tuple ys) = some (.tuple (xs ++ ys)) := fun xs ys h => by
      show (if xs.length + ys.length ≤ lineN then some (PyData.tuple (xs ++ ys)) else none) = _
      rw [if_pos (by simp [lineN]; omega)]
    have sl1 : gSl (.tuple ds) none (some (i : Int)) = some (.dat (.tuple (ds.take i))) := by
      show some (Sl.dat (.tuple (cutD _ _ _))) = _
      rw [cutTo]
    have sl2 : gSl (.tuple ds) (some ((i : Int) + 1)) none = some (.dat (.tuple (ds.drop (i + 1)))) := by
      show some (Sl.dat (.tuple (cutD _ _ _))) = _
      rw [show (i : Int) + 1 = ((i + 1 : Nat) : Int) by omega, cutFrom]
    have sl3 : gSl (.tuple ds) none (some 1) = some (.dat (.tuple (ds.take 1))) := by
      show some (Sl.dat (.tuple (cutD _ _ _))) = _
      have := cutTo ds 1
      rw [show ((1 : Nat) : Int) = 1 from rfl] at this
      rw [this]
    have ad1 := ad ds [o] (by simp; omega)
    have ad2 := ad (ds.take i) (ds.drop (i + 1)) (by simp; omega)
    have ad3 := ad ds (ds.take 1) (by simp; omega)
    have rv : revD (.tuple ds) = some (.dat (.tuple ds.reverse)) := if_pos (by simp [lineN]; omega)
    obtain ⟨L, hL⟩ : ∃ L, L = [PyData.tuple (ds ++ [o]), .tuple (ds.take i ++ ds.drop (i + 1)), .list ds, .tuple ds.reverse, .tuple (ds ++ ds.take 1)] := ⟨_, rfl⟩
    obtain ⟨d, hd, gd⟩ := gIx_in L r4 l4 (by rw [hL]; exact u4)
    have hbv : ∀ x ∈ ds, Bv n x := fun x hx => (ho x hx).bv
    have hv : Bv (n + 1) d := by
      rw [hL] at hd
      simp only [List.mem_cons, List.not_mem_nil, or_false] at hd
      rcases hd with rfl | rfl | rfl | rfl | rfl
      · refine .inr ⟨_, .inl rfl, by simp; omega, fun x hx => ?_⟩
        rcases List.mem_append.mp hx with hx | hx
        · exact hbv x hx
        · rw [List.mem_singleton.mp hx]
          exact ho3.mono (Nat.zero_le _)
      · refine .inr ⟨_, .inl rfl, by simp; omega, fun x hx => ?_⟩
        rcases List.mem_append.mp hx with hx | hx
        · exact hbv x (List.mem_of_mem_take hx)
        · exact hbv x (List.mem_of_mem_drop hx)
      · exact .inr ⟨_, .inr rfl, by omega, hbv⟩
      · exact .inr ⟨_, .inl rfl, by simp; omega, fun x hx => hbv x (List.mem_reverse.mp hx)⟩
      · refine .inr ⟨_, .inl rfl, by simp; omega, fun x hx => ?_⟩
        rcases List.mem_append.mp hx with hx | hx
        · exact hbv x hx
        · exact hbv x (List.mem_of_mem_take hx)
    refine ⟨d, a4, k4, .dat (.int (i : Int)), .lst L, ?_, hv, by omega, by omega⟩
    have ne : decide (r1 = 0) = false := decide_eq_false h0
    have lL : [PyData.tuple (ds ++ [o]), .tuple (ds.take i ++ ds.drop (i + 1)), .list ds, .tuple ds.reverse, .tuple (ds ++ ds.take 1)].length = 5 := rfl
    generalize ds.take i ++ ds.drop (i + 1) = w2 at *
    generalize ds.reverse = w3 at *
    generalize ds ++ ds.take 1 = w4 at *
    have ai : ∀ i j : Int, gAdd (.int i) (.int j) = some (.int (i + j)) := fun _ _ => rfl
    simp [-List.take_one, bendM, it, e1, gEqA_int, ne, gLen_t, ai, e2, lineN, e3, ad1, gPart, sl1, sl2, ad2, gList, rv, sl3, ad3, e4]
    rw [← hL]
    simp [gd]
/-- bent: at most the first n floors are bent -/
theorem bent_spec (b : Int) : ∀ (n f : Nat), n < f → n ≤ 10 → ∀ {v : PyData}, Or0 n v → ∀ {k : Int} (a deep : Int), 0 ≤ k → k + 20 * ((n : Int) + 1) < 2 ^ 50 → ∃ d a' k', fnI 6 (m_law_bent f) (.lst [.int a, .int b, .int k]) [v, .int deep] = some (.ok (.dat d), .lst [.int a', .int b, .int k']) ∧ Bv n d ∧ k ≤ k' ∧ k' ≤ k + 10 * (n + 1) := by
  intro n
  induction n with
  | zero =>
    intro f hf _ v ho k a deep hk hk2
    obtain ⟨f, rfl⟩ : ∃ g, f = g + 1 := ⟨f - 1, by omega⟩
    obtain ⟨i, rfl, _⟩ := ho
    have p50 : (2 : Int) ^ 50 < 2 ^ 55 := by decide
    have it : isiD "tuple" (.int i) = some (.bool false) := isi_tup rfl
    obtain ⟨d, a', k', e, hd, hk'⟩ := bend_not a b hk (by omega) (v := .int i) rfl rfl (.dat (.int deep)) .un .un .un
    refine ⟨d, a', k', fnI_retA (r := [.dat (.int i), .dat (.int deep), .un, .un, .un]) ?_ rfl, hd, by omega, by omega⟩
    show m_law_bent_s (fnI 6 (m_law_bent f)) _ = _
    have z : m_law_bent_s (fnI 6 (m_law_bent f)) = mSeq (mIfS (mOr (mNot (mTru (mU (mV 1) (isiD "tuple")))) (mOr (mB (mV 1) (mH (mTup (M.pure []))) gEqA) (mOr (mB (mV 2) (mH (M.pure (PyData.int 0))) gEqA) (mB (mH (mFrz (mFnI 0 (mDs (M.pure (PyData.int 4)) (M.pure [])) F_law_pick))) (mH (M.pure (PyData.int 0))) gEqA)))) bendM (M.pure .nx))
      (mSeq (mAsg 3 (mFnI 0 (mDs (mCall (mHs (mV 1) (M.pure [])) gLen) (M.pure [])) F_law_pick))
 (mSeq (mAsg 4 (mFnI 0 (mDs (mB (mV 1) (mV 3) gIx) (mDs (mB (mV 2) (mH (M.pure (PyData.int 1))) gSub) (M.pure []))) (fnI 6 (m_law_bent f))))
 (mRet (mX (mB (mH (mB (mH (mFrz (mSl (mV 1) (M.pure none) (M.bind (mVD 3) fun d => M.of (gPart d))))) (mH (mTup (mDs (mVD 4) (M.pure [])))) gAdd)) (mH (mFrz (mSl (mV 1) (M.bind (mB (mV 3) (mH (M.pure (PyData.int 1))) gAdd) fun d => M.of (gPart d)) (M.pure none)))) gAdd))))) := rfl
    rw [z]
    simp [startA, it, e]
  | succ n ih =>
    intro f hf hn10 v ho k a deep hk hk2
    rcases ho with ho | ⟨ds, rfl, hl, ho⟩
    · obtain ⟨d, a', k', e, hd, h1, h2⟩ := ih f (by omega) (by omega) ho a deep hk (by omega)
      exact ⟨d, a', k', e, hd.up, h1, by omega⟩
    obtain ⟨f, rfl⟩ : ∃ g, f = g + 1 := ⟨f - 1, by omega⟩
    have p50 : (2 : Int) ^ 50 = 1125899906842624 := by decide
    have p55 : (2 : Int) ^ 55 = 36028797018963968 := by decide
    have p60 : (2 : Int) ^ 60 = 1152921504606846976 := by decide
    have it : isiD "tuple" (.tuple ds) = some (.bool true) := isi_tup rfl
    have z : m_law_bent_s (fnI 6 (m_law_bent f)) = mSeq (mIfS (mOr (mNot (mTru (mU (mV 1) (isiD "tuple")))) (mOr (mB (mV 1) (mH (mTup (M.pure []))) gEqA) (mOr (mB (mV 2) (mH (M.pure (PyData.int 0))) gEqA) (mB (mH (mFrz (mFnI 0 (mDs (M.pure (PyData.int 4)) (M.pure [])) F_law_pick))) (mH (M.pure (PyData.int 0))) gEqA)))) bendM (M.pure .nx))
      (mSeq (mAsg 3 (mFnI 0 (mDs (mCall (mHs (mV 1) (M.pure [])) gLen) (M.pure [])) F_law_pick))
 (mSeq (mAsg 4 (mFnI 0 (mDs (mB (mV 1) (mV 3) gIx) (mDs (mB (mV 2) (mH (M.pure (PyData.int 1))) gSub) (M.pure []))) (fnI 6 (m_law_bent f))))
 (mRet (mX (mB (mH (mB (mH (mFrz (mSl (mV 1) (M.pure none) (M.bind (mVD 3) fun d => M.of (gPart d))))) (mH (mTup (mDs (mVD 4) (M.pure [])))) gAdd)) (mH (mFrz (mSl (mV 1) (M.bind (mB (mV 3) (mH (M.pure (PyData.int 1))) gAdd) fun d => M.of (gPart d)) (M.pure none)))) gAdd))))) := rfl
    have tn : gEqA (.tuple ds) (.tuple []) = some (decide (ds = [])) := gEqA_tnil (n := n) (fun d hd => (ho d hd).sh) (by omega)
    by_cases h0 : ds = []
    · obtain ⟨d, a', k', t3, t5, e, hd, q1, q2⟩ := bend_tup a b hk (by omega) hl ho (.dat (.int deep)) .un .un .un
      refine ⟨d, a', k', fnI_retA (r := [.dat (.tuple ds), .dat (.int deep), t3, .un, t5]) ?_ rfl, hd, q1, by omega⟩
      show m_law_bent_s (fnI 6 (m_law_bent f)) _ = _
      rw [z]
      simp [startA, it, tn, decide_eq_true h0, lineN]
      rw [e]
      simp
    by_cases hd0 : deep = 0
    · obtain ⟨d, a', k', t3, t5, e, hd, q1, q2⟩ := bend_tup a b hk (by omega) hl ho (.dat (.int deep)) .un .un .un
      refine ⟨d, a', k', fnI_retA (r := [.dat (.tuple ds), .dat (.int deep), t3, .un, t5]) ?_ rfl, hd, q1, by omega⟩
      show m_law_bent_s (fnI 6 (m_law_bent f)) _ = _
      rw [z]
      subst hd0
      simp [startA, it, tn, decide_eq_false h0, gEqA_int, lineN]
      rw [e]
      simp
    obtain ⟨r1, a1, k1, e1, q1, l1, u1⟩ := pick_lit (n := 4) (k := k) a b hk (by omega) (by decide) (by omega)
    by_cases hr : r1 = 0
    · obtain ⟨d, a', k', t3, t5, e, hd, q1', q2⟩ := bend_tup (k := k1) a1 b (by omega) (by omega) hl ho (.dat (.int deep)) .un .un .un
      refine ⟨d, a', k', fnI_retA (r := [.dat (.tuple ds), .dat (.int deep), t3, .un, t5]) ?_ rfl, hd, by omega, by omega⟩
      show m_law_bent_s (fnI 6 (m_law_bent f)) _ = _
      rw [z]
      subst hr
      simp [startA, it, tn, decide_eq_false h0, gEqA_int, decide_eq_false hd0, e1, lineN]
      rw [e]
      simp
    have hpos : 0 < ds.length := List.length_pos_iff.mpr h0
    obtain ⟨r2, a2, k2, e2, q2, l2, u2⟩ := pick_lit (n := (ds.length : Int)) (k := k1) a1 b (by omega) (by omega) (by omega) (by omega)
    obtain ⟨i, rfl⟩ : ∃ i : Nat, r2 = (i : Int) := ⟨r2.toNat, (Int.toNat_of_nonneg l2).symm⟩
    have hi : i < ds.length := by omega
    have gi : gIx (.tuple ds) (.int (i : Int)) = some ds[i] := gIx_nat (List.getElem?_eq_getElem hi)
    obtain ⟨part, a3, k3, e3, hp, q3, q4⟩ := ih f (by omega) (by omega) (ho _ (List.getElem_mem hi)) (k := k2) a2 (deep - 1) (by omega) (by omega)
    have ad : ∀ xs ys : List PyData, xs.length + ys.length ≤ 1000 → gAdd (.tuple xs) (.tuple ys) = some (.tuple (xs ++ ys)) := fun xs ys h => by
      show (if xs.length + ys.length ≤ lineN then some (PyData.tuple (xs ++ ys)) else none) = _
      rw [if_pos (by simp [lineN]; omega)]
    have sl1 : gSl (.tuple ds) none (some (i : Int)) = some (.dat (.tuple (ds.take i))) := by
      show some (Sl.dat (.tuple (cutD _ _ _))) = _
      rw [cutTo]
    have sl2 : gSl (.tuple ds) (some ((i : Int) + 1)) none = some (.dat (.tuple (ds.drop (i + 1)))) := by
      show some (Sl.dat (.tuple (cutD _ _ _))) = _
      rw [show (i : Int) + 1 = ((i + 1 : Nat) : Int) by omega, cutFrom]
    have ad1 := ad (ds.take i) [part] (by simp; omega)
    have ad2 := ad (ds.take i ++ [part]) (ds.drop (i + 1)) (by simp; omega)
    refine ⟨.tuple (ds.take i ++ [part] ++ ds.drop (i + 1)), a3, k3, fnI_retA (r := [.dat (.tuple ds), .dat (.int deep), .dat (.int (i : Int)), .dat part, .un]) ?_ rfl, .inr ⟨_, .inl rfl, by simp; omega, fun x hx => ?_⟩, by omega, by omega⟩
    · show m_law_bent_s (fnI 6 (m_law_bent f)) _ = _
      rw [z]
      have ai : ∀ i j : Int, gAdd (.int i) (.int j) = some (.int (i + j)) := fun _ _ => rfl
      generalize ds.take i ++ [part] ++ ds.drop (i + 1) = W at *
      generalize ds[i] = di at *
      simp [startA, it, tn, decide_eq_false h0, gEqA_int, decide_eq_false hd0, e1, decide_eq_false hr, gLen_t, e2, gi, Am.gSub, gI0, e3, gPart, sl1, ad1, ai, sl2, ad2, lineN]
    · rcases List.mem_append.mp hx with hx | hx
      · rcases List.mem_append.mp hx with hx | hx
        · exact (ho x (List.mem_of_mem_take hx)).bv
        · rw [List.mem_singleton.mp hx]
          exact hp
      · exact (ho x (List.mem_of_mem_drop hx)).bv
theorem table_or {H : Int} {ss : List (Int × Int)} (sh : TSh H ss) : Or0 3 (eT H ss) := by
  have hi : ∀ {i : Int} {n : Nat}, 0 ≤ i → i ≤ 20000 → Or0 n (.int i) := fun {i n} h1 h2 => by
    induction n with
    | zero => exact ⟨i, rfl, h1, h2⟩
    | succ n ih => exact .inl ih
  have h1 := sh.h1
  have h2 := sh.h2
  refine .inr ⟨_, rfl, by simp, fun x hx => ?_⟩
  simp only [List.mem_cons, List.not_mem_nil, or_false] at hx
  rcases hx with rfl | rfl
  · exact hi (by omega) (by omega)
  · refine .inr ⟨_, rfl, by rw [List.length_map]; exact sh.len, fun x hx => ?_⟩
    obtain ⟨p, hp, rfl⟩ := List.mem_map.mp hx
    have hs := sh.ship p hp
    refine .inr ⟨_, rfl, by simp, fun x hx => ?_⟩
    simp only [List.mem_cons, List.not_mem_nil, or_false] at hx
    rcases hx with rfl | rfl
    · exact hi (by omega) (by omega)
    · exact hi (by omega) (by omega)
end LawK01

namespace LawK01
open PySem L2 Am
/-! ### k01: values at the bounds -/
theorem bag_spec (c : Int) : ∃ a : Int, F_law_bag [.int c] = some (.ok (.lst [.int a, .int c, .int 0])) := by
  have gp : gPow (.int 10) (.int 18) = some (.int 1000000000000000000) := by
    have c : cPow 10 18 = true := by decide
    show (if cPow 10 18 = true then some (PyData.int (10 ^ (18 : Int).toNat)) else none) = _
    rw [if_pos c]
    rfl
  refine ⟨if c - 1000000000000000000 > 0 then c - 1000000000000000000 else 0, fnD_ret ?_⟩
  have gm : gMax2 [.int 0, .int (c - 1000000000000000000)] = some (.int (if c - 1000000000000000000 > 0 then c - 1000000000000000000 else 0)) := rfl
  generalize (if c - 1000000000000000000 > 0 then c - 1000000000000000000 else 0) = m at *
  simp [m_law_bag, startA, gp, Am.gSub, gI0, gm, lineN]
theorem bvI {i : Int} {n : Nat} (h1 : -100000 ≤ i) (h2 : i ≤ 100000) : Bv n (.int i) := Bv.mono (n := 0) (.inr ⟨i, rfl, h1, h2⟩) (Nat.zero_le _)
theorem bvP {i j : Int} (h1 : -100000 ≤ i) (h2 : i ≤ 100000) (h3 : -100000 ≤ j) (h4 : j ≤ 100000) : Bv 1 (.tuple [.int i, .int j]) := .inr ⟨_, .inl rfl, by simp, fun x hx => by
  simp only [List.mem_cons, List.not_mem_nil, or_false] at hx
  rcases hx with rfl | rfl
  · exact bvI h1 h2
  · exact bvI h3 h4⟩
theorem bvT {i : Int} {es : List PyData} (h1 : -100000 ≤ i) (h2 : i ≤ 100000) (hl : es.length ≤ 60) (h : ∀ x ∈ es, Bv 1 x) : Bv 3 (.tuple [.int i, .tuple es]) := .inr ⟨_, .inl rfl, by simp, fun x hx => by
  simp only [List.mem_cons, List.not_mem_nil, or_false] at hx
  rcases hx with rfl | rfl
  · exact bvI h1 h2
  · exact .inr ⟨_, .inl rfl, hl, h⟩⟩
/-- a piece of edges: values are added, the bag goes on -/
def EI (b k : Int) (m : Nat) (st : AEnv) : Prop := ∃ (a' k' : Int) (V : List PyData) (s2 s3 s4 s5 s6 s7 : Sl), st = [.lst [.int a', .int b, .int k'], .lst V, s2, s3, s4, s5, s6, s7] ∧ (∀ v ∈ V, Bv 3 v) ∧ V.length ≤ m ∧ k ≤ k' ∧ k' ≤ k + m
theorem app_bv {V : List PyData} (hV : ∀ v ∈ V, Bv 3 v) {x : PyData} (hx : Bv 3 x) : ∀ v ∈ V ++ [x], Bv 3 v := fun v hv => by
  rcases List.mem_append.mp hv with hv | hv
  · exact hV v hv
  · rw [List.mem_singleton.mp hv]
    exact hx
theorem rep_one (d : PyData) (n : Nat) : (List.replicate n [d]).flatten = List.replicate n d := by
  induction n with
  | zero => rfl
  | succ n ih => rw [List.replicate_succ, List.flatten_cons, ih, List.replicate_succ]; rfl
theorem mulA_rep (d : PyData) {n : Int} (h : 2 ≤ n) (h2 : n ≤ 30) : gMulA (.tuple [d]) (.int n) = some (.tuple (List.replicate n.toNat d)) := by
  show (if ([d] : List PyData) ≠ [] ∧ 2 ≤ n ∧ n ≤ 1000 ∧ ([d] : List PyData).length ≤ 1000 then some (PyData.tuple (List.replicate n.toNat [d]).flatten) else none) = _
  rw [if_pos ⟨by simp, h, by omega, by simp⟩, rep_one]
theorem loopE {b k : Int} {i : Nat} {body : M Fl} : ∀ (xs : List Int) (m : Nat) (st : AEnv), m + 3 * xs.length ≤ 100 →
    (∀ x ∈ xs, ∀ m : Nat, m ≤ 100 → ∀ st, EI b k m st → ∃ b1 b2, (Tgt.nm i).put (.int x) st = some b1 ∧ body b1 = some (.ok .nx, b2) ∧ EI b k (m + 3) b2) → EI b k m st →
    ∃ st', forL (Tgt.nm i) body (xs.map PyData.int) st = some (.ok .nx, st') ∧ EI b k (m + 3 * xs.length) st'
  | [], m, st, _, _, h => ⟨st, rfl, h⟩
  | x :: xs, m, st, hm, h, h0 => by
    rw [List.length_cons] at hm
    obtain ⟨b1, b2, e1, e2, h1⟩ := h x List.mem_cons_self m (by omega) st h0
    obtain ⟨st', e, h2⟩ := loopE xs (m + 3) b2 (by omega) (fun y hy => h y (List.mem_cons_of_mem _ hy)) h1
    refine ⟨st', ?_, by rw [List.length_cons, show m + 3 * (xs.length + 1) = m + 3 + 3 * xs.length by omega]; exact h2⟩
    rw [List.map_cons]
    show (match (Tgt.nm i).put (.int x) st with | none => none | some a1 => _) = _
    simp only [e1, e2]
    exact e
section
variable {b k : Int} (hk : 0 ≤ k) (hk2 : k < 2 ^ 50)
include hk hk2
theorem edge5 : ∀ x ∈ ([24, 25] : List Int), ∀ m : Nat, m ≤ 100 → ∀ st, EI b k m st → ∃ b1 b2, (Tgt.nm 2).put (.int x) st = some b1 ∧ m_law_edges_l5 b1 = some (.ok .nx, b2) ∧ EI b k (m + 3) b2 := by
  rintro x hx m hm st ⟨a', k', V, s2, s3, s4, s5, s6, s7, rfl, hV, lV, q1, q2⟩
  have hx' : 2 ≤ x ∧ x ≤ 30 := by simp at hx; omega
  have g := mulA_rep (.tuple [.int 999, .int 1]) hx'.1 hx'.2
  have z : V.length < 16777216 := by omega
  refine ⟨[.lst [.int a', .int b, .int k'], .lst V, .dat (.int x), s3, s4, s5, s6, s7], [.lst [.int a', .int b, .int k'], .lst (V ++ [.tuple [.int 1000, .tuple (List.replicate x.toNat (.tuple [.int 999, .int 1]))]]), .dat (.int x), s3, s4, s5, s6, s7], by simp, ?_, a', k', _, _, s3, s4, s5, s6, s7, rfl, app_bv hV (bvT (by omega) (by omega) (by rw [List.length_replicate]; omega) fun y hy => ?_), by simp; omega, q1, by omega⟩
  · simp [-List.map_replicate, m_law_edges_l5, lineN, g, z]
  · rw [(List.mem_replicate.mp hy).2]
    exact bvP (by omega) (by omega) (by omega) (by omega)
theorem edge4 : ∀ x ∈ ([60, 61, 10000, 10001] : List Int), ∀ m : Nat, m ≤ 100 → ∀ st, EI b k m st → ∃ b1 b2, (Tgt.nm 3).put (.int x) st = some b1 ∧ m_law_edges_l4 b1 = some (.ok .nx, b2) ∧ EI b k (m + 3) b2 := by
  rintro x hx m hm st ⟨a', k', V, s2, s3, s4, s5, s6, s7, rfl, hV, lV, q1, q2⟩
  have hx' : 0 ≤ x ∧ x ≤ 20000 := by simp at hx; omega
  have z : V.length < 16777216 := by omega
  refine ⟨[.lst [.int a', .int b, .int k'], .lst V, s2, .dat (.int x), s4, s5, s6, s7], [.lst [.int a', .int b, .int k'], .lst (V ++ [.tuple [.int 1, .tuple [.tuple [.int 0, .int x]]]]), s2, .dat (.int x), s4, s5, s6, s7], by simp, ?_, a', k', _, s2, _, s4, s5, s6, s7, rfl, app_bv hV (bvT (by omega) (by omega) (by simp) fun y hy => ?_), by simp; omega, q1, by omega⟩
  · simp [m_law_edges_l4, lineN, z]
  · rw [List.mem_singleton.mp hy]
    exact bvP (by omega) (by omega) (by omega) (by omega)
theorem edge3 : ∀ x ∈ ([10000, 10001] : List Int), ∀ m : Nat, m ≤ 100 → ∀ st, EI b k m st → ∃ b1 b2, (Tgt.nm 3).put (.int x) st = some b1 ∧ m_law_edges_l3 b1 = some (.ok .nx, b2) ∧ EI b k (m + 3) b2 := by
  rintro x hx m hm st ⟨a', k', V, s2, s3, s4, s5, s6, s7, rfl, hV, lV, q1, q2⟩
  have hx' : 0 ≤ x ∧ x ≤ 20000 := by simp at hx; omega
  have p50 : (2 : Int) ^ 50 = 1125899906842624 := by decide
  have p60 : (2 : Int) ^ 60 = 1152921504606846976 := by decide
  obtain ⟨r, a1, k1, e1, e2, l1, u1⟩ := pick_lit (n := 1000) (k := k') a' b (by omega) (by omega) (by decide) (by omega)
  have z : V.length < 16777216 := by omega
  refine ⟨[.lst [.int a', .int b, .int k'], .lst V, s2, .dat (.int x), s4, s5, s6, s7], [.lst [.int a1, .int b, .int k1], .lst (V ++ [.tuple [.int 1000, .tuple [.tuple [.int r, .int x]]]]), s2, .dat (.int x), s4, s5, s6, s7], by simp, ?_, a1, k1, _, s2, _, s4, s5, s6, s7, rfl, app_bv hV (bvT (by omega) (by omega) (by simp) fun y hy => ?_), by simp; omega, by omega, by omega⟩
  · simp [m_law_edges_l3, lineN, e1, z]
  · rw [List.mem_singleton.mp hy]
    exact bvP (by omega) (by omega) (by omega) (by omega)
theorem edge2 : ∀ x ∈ ([0, 1000, 1001] : List Int), ∀ m : Nat, m ≤ 100 → ∀ st, EI b k m st → ∃ b1 b2, (Tgt.nm 4).put (.int x) st = some b1 ∧ m_law_edges_l2 b1 = some (.ok .nx, b2) ∧ EI b k (m + 3) b2 := by
  rintro x hx m hm st ⟨a', k', V, s2, s3, s4, s5, s6, s7, rfl, hV, lV, q1, q2⟩
  have hx' : 0 ≤ x ∧ x ≤ 20000 := by simp at hx; omega
  have z : V.length < 16777216 := by omega
  refine ⟨[.lst [.int a', .int b, .int k'], .lst V, s2, s3, .dat (.int x), s5, s6, s7], [.lst [.int a', .int b, .int k'], .lst (V ++ [.tuple [.int x, .tuple []]]), s2, s3, .dat (.int x), s5, s6, s7], by simp, ?_, a', k', _, s2, s3, _, s5, s6, s7, rfl, app_bv hV (bvT (by omega) (by omega) (by simp) fun y hy => by cases hy), by simp; omega, q1, by omega⟩
  simp [m_law_edges_l2, lineN, z]
theorem edge1 : ∀ x ∈ ([0, 1] : List Int), ∀ m : Nat, m ≤ 100 → ∀ st, EI b k m st → ∃ b1 b2, (Tgt.nm 5).put (.int x) st = some b1 ∧ m_law_edges_l1 b1 = some (.ok .nx, b2) ∧ EI b k (m + 3) b2 := by
  rintro x hx m hm st ⟨a', k', V, s2, s3, s4, s5, s6, s7, rfl, hV, lV, q1, q2⟩
  have hx' : 0 ≤ x ∧ x ≤ 1 := by simp at hx; omega
  have p50 : (2 : Int) ^ 50 = 1125899906842624 := by decide
  have p60 : (2 : Int) ^ 60 = 1152921504606846976 := by decide
  obtain ⟨r, a1, k1, e1, e2, l1, u1⟩ := pick_lit (n := 24) (k := k') a' b (by omega) (by omega) (by decide) (by omega)
  obtain ⟨r2, a2, k2, e3, e4, l2, u2⟩ := pick_lit (n := 20) (k := k1) a1 b (by omega) (by omega) (by decide) (by omega)
  obtain ⟨i, rfl⟩ : ∃ i : Nat, r2 = (i : Int) := ⟨r2.toNat, (Int.toNat_of_nonneg l2).symm⟩
  have z1 : V.length < 16777216 := by omega
  have z2 : V.length + 1 < 16777216 := by omega
  have z3 : V.length + 2 < 16777216 := by omega
  have m1 : gMul (.int 2) (.int x) = some (.int (2 * x)) := by
    show (if cMul 2 x = true then some (PyData.int (2 * x)) else none) = _
    rw [if_pos (cMul_small (small400 (by omega) (by omega)) (small400 (by omega) (by omega)))]
  have m2 : gMul (.int 10) (.int x) = some (.int (10 * x)) := by
    show (if cMul 10 x = true then some (PyData.int (10 * x)) else none) = _
    rw [if_pos (cMul_small (small400 (by omega) (by omega)) (small400 (by omega) (by omega)))]
  have ai : ∀ i j : Int, gAdd (.int i) (.int j) = some (.int (i + j)) := fun _ _ => rfl
  obtain ⟨W, hW⟩ : ∃ W, W = (List.range 20).map fun i : Nat => PyData.tuple [.int (i : Int), .int 72] := ⟨_, rfl⟩
  have lW : W.length = 20 := by rw [hW]; simp
  have bW : ∀ y ∈ W, Bv 1 y := fun y hy => by
    rw [hW] at hy
    obtain ⟨j, hj, rfl⟩ := List.mem_map.mp hy
    have := List.mem_range.mp hj
    exact bvP (by omega) (by omega) (by omega) (by omega)
  obtain ⟨V2, hV2⟩ : ∃ V2, V2 = V ++ [.tuple [.int 2, .tuple [.tuple [.int 0, .int 60], .tuple [.int 1, .int (60 + 2 * x)]]]] ++ [.tuple [.int 10, .tuple [.tuple [.int 0, .int 300], .tuple [.int 5, .int (296 + 10 * x)]]]] := ⟨_, rfl⟩
  have two : ∀ {p q : PyData}, Bv 1 p → Bv 1 q → ∀ y ∈ [p, q], Bv 1 y := fun {p q} hp hq y hy => by
    simp only [List.mem_cons, List.not_mem_nil, or_false] at hy
    rcases hy with rfl | rfl
    · exact hp
    · exact hq
  have bV2 : ∀ v ∈ V2, Bv 3 v := by
    rw [hV2]
    exact app_bv (app_bv hV (bvT (by omega) (by omega) (by simp) (two (bvP (by omega) (by omega) (by omega) (by omega)) (bvP (by omega) (by omega) (by omega) (by omega))))) (bvT (by omega) (by omega) (by simp) (two (bvP (by omega) (by omega) (by omega) (by omega)) (bvP (by omega) (by omega) (by omega) (by omega))))
  have lV2 : V2.length = V.length + 2 := by rw [hV2]; simp
  have cmp := lcL_pure (t := Tgt.nm 7) (m := m_law_edges_l0) (vs := [7]) (fun i : Nat => PyData.int (0 + (i : Int))) (fun i : Nat => PyData.tuple [.int (i : Int), .int 72]) [.lst [.int a', .int b, .int k'], .lst V2, s2, s3, s4, .dat (.int x), s6, .un] (List.range 20) (by simp [lineN]) fun i hi => by
    exact ⟨[.lst [.int a', .int b, .int k'], .lst V2, s2, s3, s4, .dat (.int x), s6, .dat (.int (i : Int))], by simp, by simp [m_law_edges_l0, lineN], by simp [wipeA]⟩
  rw [← hW] at cmp
  have rg : gR1 [.int 20] = some ((List.range 20).map fun i : Nat => PyData.int (0 + (i : Int))) := by
    rw [gR1_of 20 (by decide) (by decide)]
    rfl
  have ri : ∀ s7 : Sl, (mRng (mDs (M.pure (PyData.int 20)) (M.pure [])) gR1) [.lst [.int a', .int b, .int k'], .lst V2, s2, s3, s4, .dat (.int x), s6, s7] = some (.ok ((List.range 20).map fun i : Nat => PyData.int (0 + (i : Int))), [.lst [.int a', .int b, .int k'], .lst V2, s2, s3, s4, .dat (.int x), s6, s7]) := fun s7 => by
    simp [rg]
  have lc := lc_ret (t := Tgt.nm 7) (c := M.pure true) (m := m_law_edges_l0) (vs := [7]) (ri s7) cmp
  have w1 : wipeA [.lst [.int a', .int b, .int k'], .lst V2, s2, s3, s4, .dat (.int x), s6, .un] [7] = [.lst [.int a', .int b, .int k'], .lst V2, s2, s3, s4, .dat (.int x), s6, .un] := rfl
  rw [w1] at lc
  have si : gSetI (.tuple [.int r, .int (72 + x)]) (.int (i : Int)) (.lst W) = some ((), .lst (W.set i (.tuple [.int r, .int (72 + x)]))) := by
    show (ixN W.length (i : Int)).map _ = _
    unfold ixN
    rw [if_pos (by omega), if_pos (by omega), Int.toNat_natCast]
    rfl
  have bS : ∀ y ∈ W.set i (.tuple [.int r, .int (72 + x)]), Bv 1 y := fun y hy => by
    rcases List.mem_or_eq_of_mem_set hy with hy | rfl
    · exact bW y hy
    · exact bvP (by omega) (by omega) (by omega) (by omega)
  have lS : (W.set i (.tuple [.int r, .int (72 + x)])).length = 20 := by rw [List.length_set, lW]
  generalize W.set i (.tuple [.int r, .int (72 + x)]) = W2 at *
  refine ⟨[.lst [.int a', .int b, .int k'], .lst V, s2, s3, s4, .dat (.int x), s6, s7], [.lst [.int a2, .int b, .int k2], .lst (V2 ++ [.tuple [.int 24, .tuple W2]]), s2, s3, s4, .dat (.int x), .lst W2, .un], by simp, ?_, a2, k2, _, s2, s3, s4, _, _, _, rfl, app_bv bV2 (bvT (by omega) (by omega) (by omega) bS), by simp; omega, by omega, by omega⟩
  have z4 : V2.length < 16777216 := by omega
  simp only [m_law_edges_l1, mSeq_app, mAsg_app]
  simp [m1, m2, ai, lineN, z1, z2]
  rw [List.append_assoc] at hV2
  simp only [List.cons_append, List.nil_append] at hV2
  rw [← hV2, lc]
  simp [e1, ai, lineN, e3, si, gTuple, z4]
end
theorem edges_spec {b k : Int} (a : Int) (hk : 0 ≤ k) (hk2 : k < 2 ^ 50) : ∃ V a' k', F_law_edges (.lst [.int a, .int b, .int k]) [] = some (.ok (.lst V), .lst [.int a', .int b, .int k']) ∧ (∀ v ∈ V, Bv 3 v) ∧ V.length ≤ 60 ∧ k ≤ k' ∧ k' ≤ k + 60 := by
  have h0 : EI b k 0 [.lst [.int a, .int b, .int k], .lst [], .un, .un, .un, .un, .un, .un] := ⟨a, k, [], _, _, _, _, _, _, rfl, (fun v hv => nomatch hv), Nat.le_refl _, Int.le_refl _, by omega⟩
  obtain ⟨t1, e1, i1⟩ := loopE [24, 25] 0 _ (by simp) (edge5 hk hk2) h0
  obtain ⟨t2, e2, i2⟩ := loopE [60, 61, 10000, 10001] _ _ (by simp) (edge4 hk hk2) i1
  obtain ⟨t3, e3, i3⟩ := loopE [10000, 10001] _ _ (by simp) (edge3 hk hk2) i2
  obtain ⟨t4, e4, i4⟩ := loopE [0, 1000, 1001] _ _ (by simp) (edge2 hk hk2) i3
  obtain ⟨t5, e5, i5⟩ := loopE [0, 1] _ _ (by simp) (edge1 hk hk2) i4
  obtain ⟨a', k', V, s2, s3, s4, s5, s6, s7, rfl, hV, lV, q1, q2⟩ := i5
  refine ⟨V, a', k', fnI_retA (r := [.un, s2, s3, s4, s5, s6, s7]) ?_ rfl, hV, by simp at lV; omega, q1, by simp at q2; omega⟩
  simp only [List.map_cons, List.map_nil] at e1 e2 e3 e4 e5
  simp only [m_law_edges, startA, mSeq_app, mAsg_app]
  simp [lineN]
  rw [e1, seqO_nx]
  simp [lineN]
  rw [e2, seqO_nx]
  simp [lineN]
  rw [e3, seqO_nx]
  simp [lineN]
  rw [e4, seqO_nx]
  simp [lineN]
  rw [e5, seqO_nx]
  simp
end LawK01

namespace LawK01
open PySem L2 Am
/-! k01: is_table, the law's own loops -/
theorem repr_bool (b : Bool) : gRepr [.bool b] = some (.str (PyData.shown (.bool b))) := gRepr_of (by cases b <;> decide)
theorem bv_can {v : PyData} (hv : Bv 3 v) : gRepr [v] = some (.str v.shown) := gRepr_of ((hv.pr).can (by decide) (by decide))
theorem again_turn {v : PyData} (hv : Bv 3 v) (s0 s1 s2 s3 s6 s7 : Sl) : m_law_l1 [s0, s1, s2, s3, .dat v, .dat (.str v.shown), s6, s7] = some (.ok .nx, [s0, s1, s2, s3, .dat v, .dat (.str v.shown), s6, s7]) := by
  obtain ⟨b, h1, h2⟩ := same (hv.cn 3)
  have rv := bv_can hv
  have rb := repr_bool b
  generalize v.shown = sv at *
  simp [m_law_l1, h1, h2, rb, rv, gNe_str]
theorem value_turn {v : PyData} (hv : Bv 3 v) (s0 s1 s2 s3 s5 s6 s7 : Sl) : ∃ t5 t6, m_law_l2 [s0, s1, s2, s3, .dat v, s5, s6, s7] = some (.ok .nx, [s0, s1, s2, s3, .dat v, t5, t6, s7]) := by
  have rv := bv_can hv
  obtain ⟨st, e, t6, rfl⟩ := forL_inv (t := Tgt.nm 6) (body := m_law_l1) (fun i : Nat => PyData.int (0 + (i : Int))) (fun _ st => ∃ t6, st = [s0, s1, s2, s3, .dat v, .dat (.str v.shown), t6, s7]) (List.range 2) [] [s0, s1, s2, s3, .dat v, .dat (.str v.shown), s6, s7] ⟨s6, rfl⟩ fun p x q b hp ⟨t6, eb⟩ => by
    subst eb
    exact ⟨[s0, s1, s2, s3, .dat v, .dat (.str v.shown), .dat (.int (0 + (x : Int))), s7], _, by simp, .inl (again_turn hv s0 s1 s2 s3 _ s7), _, rfl⟩
  have r2 : gR1 [.int 2] = some (rangeD 0 2) := gR1_of 2 (by decide) (by decide)
  have e' : forL (Tgt.nm 6) m_law_l1 (rangeD 0 2) [s0, s1, s2, s3, .dat v, .dat (.str v.shown), s6, s7] = some (.ok .nx, [s0, s1, s2, s3, .dat v, .dat (.str v.shown), t6, s7]) := e
  refine ⟨.dat (.str v.shown), t6, ?_⟩
  generalize v.shown = sv at *
  simp only [m_law_l2, mSeq_app, mAsg_app]
  simp [rv, r2]
  exact e'
theorem cell_turn (c : Int) (s0 s2 s3 s4 s5 s6 s7 : Sl) : ∃ t2 t3 t4 t5 t6 t7, m_law_l3 [s0, .dat (.int c), s2, s3, s4, s5, s6, s7] = some (.ok .nx, [s0, .dat (.int c), t2, t3, t4, t5, t6, t7]) := by
  have p50 : (2 : Int) ^ 50 = 1125899906842624 := by decide
  have p60 : (2 : Int) ^ 60 = 1152921504606846976 := by decide
  obtain ⟨a, e0⟩ := bag_spec c
  obtain ⟨H, ss, a1, k1, e1, ok, q1, q2⟩ := table_spec (k := 0) a c (by omega) (by omega)
  obtain ⟨o, a2, k2, e2, ho, q3⟩ := odd_spec (k := k1) a1 c (by omega) (by omega)
  obtain ⟨V, a3, k3, e3, hV, lV, q4, q5⟩ := edges_spec (b := c) (k := k2) a2 (by omega) (by omega)
  have ot := table_or ok.toTSh
  obtain ⟨ys, st, ec, ⟨a4, k4, rfl, hb, q6, q7⟩, hy⟩ := lcL_inv (t := Tgt.nm 7) (m := m_law_l0) (vs := [7]) (fun i : Nat => PyData.int (0 + (i : Int))) (fun pre acc st => ∃ a' k', st = [s0, .dat (.int c), .lst [.int a', .int c, .int k'], .dat (eT H ss), s4, s5, s6, .un] ∧ (∀ v ∈ acc, Bv 3 v) ∧ k3 ≤ k' ∧ k' ≤ k3 + 40 * pre.length) (List.range 9) [] [] [s0, .dat (.int c), .lst [.int a3, .int c, .int k3], .dat (eT H ss), s4, s5, s6, .un]
    ⟨a3, k3, rfl, (fun v hv => (nomatch hv)), by omega, by simp⟩ (by simp [lineN]) rfl fun p x q acc st hp ⟨a', k', est, hb, q6, q7⟩ => by
      subst est
      have hpl : p.length ≤ 9 := by
        have := congrArg List.length hp
        simp at this
        omega
      obtain ⟨d, a5, k5, e5, hd, q8, q9⟩ := bent_spec c 3 6 (by decide) (by decide) ot (k := k') a' 4 (by omega) (by omega)
      refine ⟨[s0, .dat (.int c), .lst [.int a', .int c, .int k'], .dat (eT H ss), s4, s5, s6, .dat (.int (0 + (x : Int)))], [s0, .dat (.int c), .lst [.int a5, .int c, .int k5], .dat (eT H ss), s4, s5, s6, .dat (.int (0 + (x : Int)))], d, by simp, ?_, a5, k5, by simp [wipeA], fun v hv => ?_, by omega, by simp; omega⟩
      · simp [m_law_l0, e5]
      · rcases List.mem_append.mp hv with hv | hv
        · exact hb v hv
        · rw [List.mem_singleton.mp hv]
          exact hd
  have rg : gR1 [.int 9] = some ((List.range 9).map fun i : Nat => PyData.int (0 + (i : Int))) := by
    rw [gR1_of 9 (by decide) (by decide)]
    rfl
  have ri : (mRng (mDs (M.pure (PyData.int 9)) (M.pure [])) gR1) [s0, .dat (.int c), .lst [.int a3, .int c, .int k3], .dat (eT H ss), s4, s5, s6, s7] = some (.ok ((List.range 9).map fun i : Nat => PyData.int (0 + (i : Int))), [s0, .dat (.int c), .lst [.int a3, .int c, .int k3], .dat (eT H ss), s4, s5, s6, s7]) := by
    simp [rg]
  have lc := lc_ret (t := Tgt.nm 7) (c := M.pure true) (m := m_law_l0) (vs := [7]) ri ec
  have w1 : wipeA [s0, .dat (.int c), .lst [.int a4, .int c, .int k4], .dat (eT H ss), s4, s5, s6, .un] [7] = [s0, .dat (.int c), .lst [.int a4, .int c, .int k4], .dat (eT H ss), s4, s5, s6, .un] := rfl
  rw [w1] at lc
  have ly : ys.length = 9 := by rw [hy]; simp
  have all : ∀ v ∈ [eT H ss, o] ++ V ++ ys, Bv 3 v := fun v hv => by
    rcases List.mem_append.mp hv with hv | hv
    · rcases List.mem_append.mp hv with hv | hv
      · simp only [List.mem_cons, List.not_mem_nil, or_false] at hv
        rcases hv with rfl | rfl
        · exact ot.bv
        · exact ho.mono (Nat.zero_le _)
      · exact hV v hv
    · exact hb v hv
  obtain ⟨st, el, t4, t5, t6, rfl⟩ := forL_inv (t := Tgt.nm 4) (body := m_law_l2) (id : PyData → PyData) (fun _ st => ∃ t4 t5 t6, st = [s0, .dat (.int c), .lst [.int a4, .int c, .int k4], .dat (eT H ss), t4, t5, t6, .un]) ([eT H ss, o] ++ V ++ ys) [] [s0, .dat (.int c), .lst [.int a4, .int c, .int k4], .dat (eT H ss), s4, s5, s6, .un] ⟨_, _, _, rfl⟩ fun p x q b hp ⟨t4, t5, t6, eb⟩ => by
    subst eb
    have hx : x ∈ [eT H ss, o] ++ V ++ ys := by
      have hp' : [eT H ss, o] ++ V ++ ys = p ++ x :: q := hp
      rw [hp']
      simp
    obtain ⟨u5, u6, e⟩ := value_turn (all x hx) s0 (.dat (.int c)) (.lst [.int a4, .int c, .int k4]) (.dat (eT H ss)) t5 t6 .un
    exact ⟨[s0, .dat (.int c), .lst [.int a4, .int c, .int k4], .dat (eT H ss), .dat x, t5, t6, .un], _, by simp, .inl e, _, _, _, rfl⟩
  rw [List.map_id] at el
  have g1 : gPlus (.list [eT H ss, o]) (.list V) = some (.lst ([eT H ss, o] ++ V)) := by
    show (if [eT H ss, o].length + V.length ≤ lineN then some (Sl.lst ([eT H ss, o] ++ V)) else none) = _
    rw [if_pos (by simp [lineN]; omega)]
  have g2 : gPlus (.list ([eT H ss, o] ++ V)) (.list ys) = some (.lst ([eT H ss, o] ++ V ++ ys)) := by
    show (if ([eT H ss, o] ++ V).length + ys.length ≤ lineN then some (Sl.lst ([eT H ss, o] ++ V ++ ys)) else none) = _
    rw [if_pos (by simp [lineN]; omega)]
  refine ⟨.lst [.int a4, .int c, .int k4], .dat (eT H ss), t4, t5, t6, .un, ?_⟩
  have g2' : gPlus (.list (eT H ss :: o :: V)) (.list ys) = some (.lst ([eT H ss, o] ++ V ++ ys)) := g2
  generalize [eT H ss, o] ++ V ++ ys = W at *
  simp only [m_law_l3, mSeq_app, mAsg_app]
  simp [-List.cons_append, -List.nil_append, e0, e1, e2, e3, lineN, g1]
  rw [lc]
  simp [-List.cons_append, -List.nil_append, g2']
  exact el
def LCN (s0 : Sl) (_ : List Int) (st : AEnv) : Prop := ∃ s1 s2 s3 s4 s5 s6 s7, st = [s0, s1, s2, s3, s4, s5, s6, s7]
theorem cut_ints (ns : List Int) (lo hi : Option Int) : ∃ rs : List Int, cutD (ns.map PyData.int) lo hi = rs.map PyData.int ∧ rs.length ≤ ns.length := by
  unfold cutD
  rw [← List.map_drop, ← List.map_take]
  refine ⟨_, rfl, ?_⟩
  rw [List.length_take, List.length_drop]
  omega
theorem law_true : ∀ ns : List Int, ns.length ≤ 63 → fnD 8 m_law [.list (ns.map PyData.int)] = some (.ok (.dat (.bool true))) := fun ns hn => by
  obtain ⟨rs, ecut, lrs⟩ := cut_ints ns none (some 20)
  have turn : ∀ (p : List Int) (x : Int) (q : List Int) (b : AEnv), [] ++ (rs ++ [0]) = p ++ x :: q → LCN (.dat (.list (ns.map PyData.int))) p b → ∃ b1 b2, (Tgt.nm 1).put (PyData.int x) b = some b1 ∧ (m_law_l3 b1 = some (.ok .nx, b2) ∨ m_law_l3 b1 = some (.ok .ct, b2)) ∧ LCN (.dat (.list (ns.map PyData.int))) (p ++ [x]) b2 := by
    rintro p x q b _ ⟨s1, s2, s3, s4, s5, s6, s7, rfl⟩
    obtain ⟨t2, t3, t4, t5, t6, t7, e⟩ := cell_turn x (.dat (.list (ns.map PyData.int))) s2 s3 s4 s5 s6 s7
    exact ⟨_, _, by simp, .inl e, _, _, _, _, _, _, _, rfl⟩
  obtain ⟨st, e, s1, s2, s3, s4, s5, s6, s7, rfl⟩ := forL_inv (t := Tgt.nm 1) (body := m_law_l3) PyData.int (LCN (.dat (.list (ns.map PyData.int)))) (rs ++ [0]) [] [.dat (.list (ns.map PyData.int)), .un, .un, .un, .un, .un, .un, .un] ⟨_, _, _, _, _, _, _, rfl⟩ turn
  have l1 : rs.length + 1 ≤ 16777216 := by omega
  have l2 : rs.length ≤ 16777215 := by omega
  rw [List.map_append] at e
  refine fnD_ret ?_
  simp only [List.map_cons, List.map_nil] at e
  simp only [m_law, mSeq_app]
  simp [-List.map_append, startA, gSl, gPart, ecut, gPlus, gCat, lineN, l1, l2]
  rw [e, seqO_nx]
  simp
end LawK01

namespace LawK01
open PySem L2 Am
def mkT {K : PySem.W.Frag} {h : Heap} {mg : Str → Option Value} (X : K.In h) (G : h.Ns mainGlobals mg)
    {f0 : Addr} {oc0 kV0 dc0 pm0 cd0 ct0 : Value} {od0 an0 : Option Addr} {sl0 : Array (Option Value)}
    {f1 : Addr} {oc1 kV1 dc1 pm1 cd1 ct1 : Value} {od1 an1 : Option Addr} {sl1 : Array (Option Value)}
    {f2 : Addr} {oc2 kV2 dc2 pm2 cd2 ct2 : Value} {od2 an2 : Option Addr} {sl2 : Array (Option Value)}
    {f3 : Addr} {oc3 kV3 dc3 pm3 cd3 ct3 : Value} {od3 an3 : Option Addr} {sl3 : Array (Option Value)}
    {f4 : Addr} {oc4 kV4 dc4 pm4 cd4 ct4 : Value} {od4 an4 : Option Addr} {sl4 : Array (Option Value)}
    {f5 : Addr} {oc5 kV5 dc5 pm5 cd5 ct5 : Value} {od5 an5 : Option Addr} {sl5 : Array (Option Value)}
    {f6 : Addr} {oc6 kV6 dc6 pm6 cd6 ct6 : Value} {od6 an6 : Option Addr} {sl6 : Array (Option Value)}
    {f7 : Addr} {oc7 kV7 dc7 pm7 cd7 ct7 : Value} {od7 an7 : Option Addr} {sl7 : Array (Option Value)}
    {f8 : Addr} {oc8 kV8 dc8 pm8 cd8 ct8 : Value} {od8 an8 : Option Addr} {sl8 : Array (Option Value)}
    {f9 : Addr} {oc9 kV9 dc9 pm9 cd9 ct9 : Value} {od9 an9 : Option Addr} {sl9 : Array (Option Value)}
    {f10 : Addr} {oc10 kV10 dc10 pm10 cd10 ct10 : Value} {od10 an10 : Option Addr} {sl10 : Array (Option Value)}
    {f11 : Addr} {oc11 kV11 dc11 pm11 cd11 ct11 : Value} {od11 an11 : Option Addr} {sl11 : Array (Option Value)}
    {f12 : Addr} {oc12 kV12 dc12 pm12 cd12 ct12 : Value} {od12 an12 : Option Addr} {sl12 : Array (Option Value)}
    {f13 : Addr} {oc13 kV13 dc13 pm13 cd13 ct13 : Value} {od13 an13 : Option Addr} {sl13 : Array (Option Value)}
    {f14 : Addr} {oc14 kV14 dc14 pm14 cd14 ct14 : Value} {od14 an14 : Option Addr} {sl14 : Array (Option Value)}
    {f15 : Addr} {oc15 kV15 dc15 pm15 cd15 ct15 : Value} {od15 an15 : Option Addr} {sl15 : Array (Option Value)}
    {f16 : Addr} {oc16 kV16 dc16 pm16 cd16 ct16 : Value} {od16 an16 : Option Addr} {sl16 : Array (Option Value)}
    {t_ARRIVAL : Tok}
    {t_DEPARTURE : Tok}
    {t_MOST_HOURS : Tok}
    {t_MOST_PEAK : Tok}
    {t_MOST_SHIPS : Tok}
    {t_MOST_STAY : Tok}
    (a0 : PySem.W.nsIn K mainGlobals "is_int" = some (some (.ref f0)))
    (l0 : K.lookup f0 = some ⟨oc0, od0, .func (PySem.W.fnOf "is_int" "is_int" (defArgs s_is_int) (defBody s_is_int) (defScope s_is_int) .none kV0 dc0 pm0 an0 cd0 ct0), sl0⟩) (c0 : PySem.W.codeIn K cd0 "is_int" = true) (k0 : PySem.W.keepIn K (.ref f0) = true)
    (a1 : PySem.W.nsIn K mainGlobals "day_events" = some (some (.ref f1)))
    (l1 : K.lookup f1 = some ⟨oc1, od1, .func (PySem.W.fnOf "day_events" "day_events" (defArgs s_day_events) (defBody s_day_events) (defScope s_day_events) .none kV1 dc1 pm1 an1 cd1 ct1), sl1⟩) (c1 : PySem.W.codeIn K cd1 "day_events" = true) (k1 : PySem.W.keepIn K (.ref f1) = true)
    (a2 : PySem.W.nsIn K mainGlobals "count_at_midnight" = some (some (.ref f2)))
    (l2 : K.lookup f2 = some ⟨oc2, od2, .func (PySem.W.fnOf "count_at_midnight" "count_at_midnight" (defArgs s_count_at_midnight) (defBody s_count_at_midnight) (defScope s_count_at_midnight) .none kV2 dc2 pm2 an2 cd2 ct2), sl2⟩) (c2 : PySem.W.codeIn K cd2 "count_at_midnight" = true) (k2 : PySem.W.keepIn K (.ref f2) = true)
    (a3 : PySem.W.nsIn K mainGlobals "_law_bag" = some (some (.ref f3)))
    (l3 : K.lookup f3 = some ⟨oc3, od3, .func (PySem.W.fnOf "_law_bag" "_law_bag" (defArgs s_law_bag) (defBody s_law_bag) (defScope s_law_bag) .none kV3 dc3 pm3 an3 cd3 ct3), sl3⟩) (c3 : PySem.W.codeIn K cd3 "_law_bag" = true) (k3 : PySem.W.keepIn K (.ref f3) = true)
    (a4 : PySem.W.nsIn K mainGlobals "_law_pick" = some (some (.ref f4)))
    (l4 : K.lookup f4 = some ⟨oc4, od4, .func (PySem.W.fnOf "_law_pick" "_law_pick" (defArgs s_law_pick) (defBody s_law_pick) (defScope s_law_pick) .none kV4 dc4 pm4 an4 cd4 ct4), sl4⟩) (c4 : PySem.W.codeIn K cd4 "_law_pick" = true) (k4 : PySem.W.keepIn K (.ref f4) = true)
    (a5 : PySem.W.nsIn K mainGlobals "_law_is_int" = some (some (.ref f5)))
    (l5 : K.lookup f5 = some ⟨oc5, od5, .func (PySem.W.fnOf "_law_is_int" "_law_is_int" (defArgs s_law_is_int) (defBody s_law_is_int) (defScope s_law_is_int) .none kV5 dc5 pm5 an5 cd5 ct5), sl5⟩) (c5 : PySem.W.codeIn K cd5 "_law_is_int" = true) (k5 : PySem.W.keepIn K (.ref f5) = true)
    (a6 : PySem.W.nsIn K mainGlobals "in_range" = some (some (.ref f6)))
    (l6 : K.lookup f6 = some ⟨oc6, od6, .func (PySem.W.fnOf "in_range" "in_range" (defArgs s_in_range) (defBody s_in_range) (defScope s_in_range) .none kV6 dc6 pm6 an6 cd6 ct6), sl6⟩) (c6 : PySem.W.codeIn K cd6 "in_range" = true) (k6 : PySem.W.keepIn K (.ref f6) = true)
    (a7 : PySem.W.nsIn K mainGlobals "counts" = some (some (.ref f7)))
    (l7 : K.lookup f7 = some ⟨oc7, od7, .func (PySem.W.fnOf "counts" "counts" (defArgs s_counts) (defBody s_counts) (defScope s_counts) .none kV7 dc7 pm7 an7 cd7 ct7), sl7⟩) (c7 : PySem.W.codeIn K cd7 "counts" = true) (k7 : PySem.W.keepIn K (.ref f7) = true)
    (a8 : PySem.W.nsIn K mainGlobals "_law_table" = some (some (.ref f8)))
    (l8 : K.lookup f8 = some ⟨oc8, od8, .func (PySem.W.fnOf "_law_table" "_law_table" (defArgs s_law_table) (defBody s_law_table) (defScope s_law_table) .none kV8 dc8 pm8 an8 cd8 ct8), sl8⟩) (c8 : PySem.W.codeIn K cd8 "_law_table" = true) (k8 : PySem.W.keepIn K (.ref f8) = true)
    (a9 : PySem.W.nsIn K mainGlobals "_law_due" = some (some (.ref f9)))
    (l9 : K.lookup f9 = some ⟨oc9, od9, .func (PySem.W.fnOf "_law_due" "_law_due" (defArgs s_law_due) (defBody s_law_due) (defScope s_law_due) .none kV9 dc9 pm9 an9 cd9 ct9), sl9⟩) (c9 : PySem.W.codeIn K cd9 "_law_due" = true) (k9 : PySem.W.keepIn K (.ref f9) = true)
    (a10 : PySem.W.nsIn K mainGlobals "_law_odd" = some (some (.ref f10)))
    (l10 : K.lookup f10 = some ⟨oc10, od10, .func (PySem.W.fnOf "_law_odd" "_law_odd" (defArgs s_law_odd) (defBody s_law_odd) (defScope s_law_odd) .none kV10 dc10 pm10 an10 cd10 ct10), sl10⟩) (c10 : PySem.W.codeIn K cd10 "_law_odd" = true) (k10 : PySem.W.keepIn K (.ref f10) = true)
    (a11 : PySem.W.nsIn K mainGlobals "_law_edges" = some (some (.ref f11)))
    (l11 : K.lookup f11 = some ⟨oc11, od11, .func (PySem.W.fnOf "_law_edges" "_law_edges" (defArgs s_law_edges) (defBody s_law_edges) (defScope s_law_edges) .none kV11 dc11 pm11 an11 cd11 ct11), sl11⟩) (c11 : PySem.W.codeIn K cd11 "_law_edges" = true) (k11 : PySem.W.keepIn K (.ref f11) = true)
    (a12 : PySem.W.nsIn K mainGlobals "is_ship" = some (some (.ref f12)))
    (l12 : K.lookup f12 = some ⟨oc12, od12, .func (PySem.W.fnOf "is_ship" "is_ship" (defArgs s_is_ship) (defBody s_is_ship) (defScope s_is_ship) .none kV12 dc12 pm12 an12 cd12 ct12), sl12⟩) (c12 : PySem.W.codeIn K cd12 "is_ship" = true) (k12 : PySem.W.keepIn K (.ref f12) = true)
    (a13 : PySem.W.nsIn K mainGlobals "peak_of" = some (some (.ref f13)))
    (l13 : K.lookup f13 = some ⟨oc13, od13, .func (PySem.W.fnOf "peak_of" "peak_of" (defArgs s_peak_of) (defBody s_peak_of) (defScope s_peak_of) .none kV13 dc13 pm13 an13 cd13 ct13), sl13⟩) (c13 : PySem.W.codeIn K cd13 "peak_of" = true) (k13 : PySem.W.keepIn K (.ref f13) = true)
    (a14 : PySem.W.nsIn K mainGlobals "is_table" = some (some (.ref f14)))
    (l14 : K.lookup f14 = some ⟨oc14, od14, .func (PySem.W.fnOf "is_table" "is_table" (defArgs s_is_table) (defBody s_is_table) (defScope s_is_table) .none kV14 dc14 pm14 an14 cd14 ct14), sl14⟩) (c14 : PySem.W.codeIn K cd14 "is_table" = true) (k14 : PySem.W.keepIn K (.ref f14) = true)
    (a15 : PySem.W.nsIn K mainGlobals "_law_bent" = some (some (.ref f15)))
    (l15 : K.lookup f15 = some ⟨oc15, od15, .func (PySem.W.fnOf "_law_bent" "_law_bent" (defArgs s_law_bent) (defBody s_law_bent) (defScope s_law_bent) .none kV15 dc15 pm15 an15 cd15 ct15), sl15⟩) (c15 : PySem.W.codeIn K cd15 "_law_bent" = true) (k15 : PySem.W.keepIn K (.ref f15) = true)
    (a16 : PySem.W.nsIn K mainGlobals "law" = some (some (.ref f16)))
    (l16 : K.lookup f16 = some ⟨oc16, od16, .func (PySem.W.fnOf "law" "law" (defArgs s_law) (defBody s_law) (defScope s_law) .none kV16 dc16 pm16 an16 cd16 ct16), sl16⟩) (c16 : PySem.W.codeIn K cd16 "law" = true) (k16 : PySem.W.keepIn K (.ref f16) = true)
    (z_all : PySem.W.nsIn K mainGlobals "all" = some none)
    (z_bool : PySem.W.nsIn K mainGlobals "bool" = some none)
    (z_divmod : PySem.W.nsIn K mainGlobals "divmod" = some none)
    (z_enumerate : PySem.W.nsIn K mainGlobals "enumerate" = some none)
    (z_int : PySem.W.nsIn K mainGlobals "int" = some none)
    (z_isinstance : PySem.W.nsIn K mainGlobals "isinstance" = some none)
    (z_len : PySem.W.nsIn K mainGlobals "len" = some none)
    (z_list : PySem.W.nsIn K mainGlobals "list" = some none)
    (z_max : PySem.W.nsIn K mainGlobals "max" = some none)
    (z_min : PySem.W.nsIn K mainGlobals "min" = some none)
    (z_range : PySem.W.nsIn K mainGlobals "range" = some none)
    (z_repr : PySem.W.nsIn K mainGlobals "repr" = some none)
    (z_set : PySem.W.nsIn K mainGlobals "set" = some none)
    (z_sorted : PySem.W.nsIn K mainGlobals "sorted" = some none)
    (z_tuple : PySem.W.nsIn K mainGlobals "tuple" = some none)
    (c_ARRIVAL : PySem.W.nsIn K mainGlobals "ARRIVAL" = some (some (.int 1 t_ARRIVAL)))
    (c_DEPARTURE : PySem.W.nsIn K mainGlobals "DEPARTURE" = some (some (.int 0 t_DEPARTURE)))
    (c_MOST_HOURS : PySem.W.nsIn K mainGlobals "MOST_HOURS" = some (some (.int 1000 t_MOST_HOURS)))
    (c_MOST_PEAK : PySem.W.nsIn K mainGlobals "MOST_PEAK" = some (some (.int 60 t_MOST_PEAK)))
    (c_MOST_SHIPS : PySem.W.nsIn K mainGlobals "MOST_SHIPS" = some (some (.int 24 t_MOST_SHIPS)))
    (c_MOST_STAY : PySem.W.nsIn K mainGlobals "MOST_STAY" = some (some (.int 10000 t_MOST_STAY))) : Txt K mg :=
  ⟨f0, _, fun_mk (st := s_is_int) l0 c0 k0, PySem.W.mg_of X G a0, f1, _, fun_mk (st := s_day_events) l1 c1 k1, PySem.W.mg_of X G a1, f2, _, fun_mk (st := s_count_at_midnight) l2 c2 k2, PySem.W.mg_of X G a2, f3, _, fun_mk (st := s_law_bag) l3 c3 k3, PySem.W.mg_of X G a3, f4, _, fun_mk (st := s_law_pick) l4 c4 k4, PySem.W.mg_of X G a4, f5, _, fun_mk (st := s_law_is_int) l5 c5 k5, PySem.W.mg_of X G a5, f6, _, fun_mk (st := s_in_range) l6 c6 k6, PySem.W.mg_of X G a6, f7, _, fun_mk (st := s_counts) l7 c7 k7, PySem.W.mg_of X G a7, f8, _, fun_mk (st := s_law_table) l8 c8 k8, PySem.W.mg_of X G a8, f9, _, fun_mk (st := s_law_due) l9 c9 k9, PySem.W.mg_of X G a9, f10, _, fun_mk (st := s_law_odd) l10 c10 k10, PySem.W.mg_of X G a10, f11, _, fun_mk (st := s_law_edges) l11 c11 k11, PySem.W.mg_of X G a11, f12, _, fun_mk (st := s_is_ship) l12 c12 k12, PySem.W.mg_of X G a12, f13, _, fun_mk (st := s_peak_of) l13 c13 k13, PySem.W.mg_of X G a13, f14, _, fun_mk (st := s_is_table) l14 c14 k14, PySem.W.mg_of X G a14, f15, _, fun_mk (st := s_law_bent) l15 c15 k15, PySem.W.mg_of X G a15, f16, _, fun_mk (st := s_law) l16 c16 k16, PySem.W.mg_of X G a16, PySem.W.mg_none_of X G z_all, PySem.W.mg_none_of X G z_bool, PySem.W.mg_none_of X G z_divmod, PySem.W.mg_none_of X G z_enumerate, PySem.W.mg_none_of X G z_int, PySem.W.mg_none_of X G z_isinstance, PySem.W.mg_none_of X G z_len, PySem.W.mg_none_of X G z_list, PySem.W.mg_none_of X G z_max, PySem.W.mg_none_of X G z_min, PySem.W.mg_none_of X G z_range, PySem.W.mg_none_of X G z_repr, PySem.W.mg_none_of X G z_set, PySem.W.mg_none_of X G z_sorted, PySem.W.mg_none_of X G z_tuple, ⟨t_ARRIVAL, PySem.W.mg_of X G c_ARRIVAL⟩, ⟨t_DEPARTURE, PySem.W.mg_of X G c_DEPARTURE⟩, ⟨t_MOST_HOURS, PySem.W.mg_of X G c_MOST_HOURS⟩, ⟨t_MOST_PEAK, PySem.W.mg_of X G c_MOST_PEAK⟩, ⟨t_MOST_SHIPS, PySem.W.mg_of X G c_MOST_SHIPS⟩, ⟨t_MOST_STAY, PySem.W.mg_of X G c_MOST_STAY⟩⟩
theorem all_mk {l : PySem.W.OpenLaw} {w : World} {K : PySem.W.Frag} {h : Heap} {mg : Str → Option Value} {fa : Addr} (X : K.In h) (G : h.Ns mainGlobals mg) (hfa : mg "law" = some (.ref fa))
    {f0 : Addr} {oc0 kV0 dc0 pm0 cd0 ct0 : Value} {od0 an0 : Option Addr} {sl0 : Array (Option Value)}
    {f1 : Addr} {oc1 kV1 dc1 pm1 cd1 ct1 : Value} {od1 an1 : Option Addr} {sl1 : Array (Option Value)}
    {f2 : Addr} {oc2 kV2 dc2 pm2 cd2 ct2 : Value} {od2 an2 : Option Addr} {sl2 : Array (Option Value)}
    {f3 : Addr} {oc3 kV3 dc3 pm3 cd3 ct3 : Value} {od3 an3 : Option Addr} {sl3 : Array (Option Value)}
    {f4 : Addr} {oc4 kV4 dc4 pm4 cd4 ct4 : Value} {od4 an4 : Option Addr} {sl4 : Array (Option Value)}
    {f5 : Addr} {oc5 kV5 dc5 pm5 cd5 ct5 : Value} {od5 an5 : Option Addr} {sl5 : Array (Option Value)}
    {f6 : Addr} {oc6 kV6 dc6 pm6 cd6 ct6 : Value} {od6 an6 : Option Addr} {sl6 : Array (Option Value)}
    {f7 : Addr} {oc7 kV7 dc7 pm7 cd7 ct7 : Value} {od7 an7 : Option Addr} {sl7 : Array (Option Value)}
    {f8 : Addr} {oc8 kV8 dc8 pm8 cd8 ct8 : Value} {od8 an8 : Option Addr} {sl8 : Array (Option Value)}
    {f9 : Addr} {oc9 kV9 dc9 pm9 cd9 ct9 : Value} {od9 an9 : Option Addr} {sl9 : Array (Option Value)}
    {f10 : Addr} {oc10 kV10 dc10 pm10 cd10 ct10 : Value} {od10 an10 : Option Addr} {sl10 : Array (Option Value)}
    {f11 : Addr} {oc11 kV11 dc11 pm11 cd11 ct11 : Value} {od11 an11 : Option Addr} {sl11 : Array (Option Value)}
    {f12 : Addr} {oc12 kV12 dc12 pm12 cd12 ct12 : Value} {od12 an12 : Option Addr} {sl12 : Array (Option Value)}
    {f13 : Addr} {oc13 kV13 dc13 pm13 cd13 ct13 : Value} {od13 an13 : Option Addr} {sl13 : Array (Option Value)}
    {f14 : Addr} {oc14 kV14 dc14 pm14 cd14 ct14 : Value} {od14 an14 : Option Addr} {sl14 : Array (Option Value)}
    {f15 : Addr} {oc15 kV15 dc15 pm15 cd15 ct15 : Value} {od15 an15 : Option Addr} {sl15 : Array (Option Value)}
    {f16 : Addr} {oc16 kV16 dc16 pm16 cd16 ct16 : Value} {od16 an16 : Option Addr} {sl16 : Array (Option Value)}
    {t_ARRIVAL : Tok}
    {t_DEPARTURE : Tok}
    {t_MOST_HOURS : Tok}
    {t_MOST_PEAK : Tok}
    {t_MOST_SHIPS : Tok}
    {t_MOST_STAY : Tok}
    (a0 : PySem.W.nsIn K mainGlobals "is_int" = some (some (.ref f0)))
    (l0 : K.lookup f0 = some ⟨oc0, od0, .func (PySem.W.fnOf "is_int" "is_int" (defArgs s_is_int) (defBody s_is_int) (defScope s_is_int) .none kV0 dc0 pm0 an0 cd0 ct0), sl0⟩) (c0 : PySem.W.codeIn K cd0 "is_int" = true) (k0 : PySem.W.keepIn K (.ref f0) = true)
    (a1 : PySem.W.nsIn K mainGlobals "day_events" = some (some (.ref f1)))
    (l1 : K.lookup f1 = some ⟨oc1, od1, .func (PySem.W.fnOf "day_events" "day_events" (defArgs s_day_events) (defBody s_day_events) (defScope s_day_events) .none kV1 dc1 pm1 an1 cd1 ct1), sl1⟩) (c1 : PySem.W.codeIn K cd1 "day_events" = true) (k1 : PySem.W.keepIn K (.ref f1) = true)
    (a2 : PySem.W.nsIn K mainGlobals "count_at_midnight" = some (some (.ref f2)))
    (l2 : K.lookup f2 = some ⟨oc2, od2, .func (PySem.W.fnOf "count_at_midnight" "count_at_midnight" (defArgs s_count_at_midnight) (defBody s_count_at_midnight) (defScope s_count_at_midnight) .none kV2 dc2 pm2 an2 cd2 ct2), sl2⟩) (c2 : PySem.W.codeIn K cd2 "count_at_midnight" = true) (k2 : PySem.W.keepIn K (.ref f2) = true)
    (a3 : PySem.W.nsIn K mainGlobals "_law_bag" = some (some (.ref f3)))
    (l3 : K.lookup f3 = some ⟨oc3, od3, .func (PySem.W.fnOf "_law_bag" "_law_bag" (defArgs s_law_bag) (defBody s_law_bag) (defScope s_law_bag) .none kV3 dc3 pm3 an3 cd3 ct3), sl3⟩) (c3 : PySem.W.codeIn K cd3 "_law_bag" = true) (k3 : PySem.W.keepIn K (.ref f3) = true)
    (a4 : PySem.W.nsIn K mainGlobals "_law_pick" = some (some (.ref f4)))
    (l4 : K.lookup f4 = some ⟨oc4, od4, .func (PySem.W.fnOf "_law_pick" "_law_pick" (defArgs s_law_pick) (defBody s_law_pick) (defScope s_law_pick) .none kV4 dc4 pm4 an4 cd4 ct4), sl4⟩) (c4 : PySem.W.codeIn K cd4 "_law_pick" = true) (k4 : PySem.W.keepIn K (.ref f4) = true)
    (a5 : PySem.W.nsIn K mainGlobals "_law_is_int" = some (some (.ref f5)))
    (l5 : K.lookup f5 = some ⟨oc5, od5, .func (PySem.W.fnOf "_law_is_int" "_law_is_int" (defArgs s_law_is_int) (defBody s_law_is_int) (defScope s_law_is_int) .none kV5 dc5 pm5 an5 cd5 ct5), sl5⟩) (c5 : PySem.W.codeIn K cd5 "_law_is_int" = true) (k5 : PySem.W.keepIn K (.ref f5) = true)
    (a6 : PySem.W.nsIn K mainGlobals "in_range" = some (some (.ref f6)))
    (l6 : K.lookup f6 = some ⟨oc6, od6, .func (PySem.W.fnOf "in_range" "in_range" (defArgs s_in_range) (defBody s_in_range) (defScope s_in_range) .none kV6 dc6 pm6 an6 cd6 ct6), sl6⟩) (c6 : PySem.W.codeIn K cd6 "in_range" = true) (k6 : PySem.W.keepIn K (.ref f6) = true)
    (a7 : PySem.W.nsIn K mainGlobals "counts" = some (some (.ref f7)))
    (l7 : K.lookup f7 = some ⟨oc7, od7, .func (PySem.W.fnOf "counts" "counts" (defArgs s_counts) (defBody s_counts) (defScope s_counts) .none kV7 dc7 pm7 an7 cd7 ct7), sl7⟩) (c7 : PySem.W.codeIn K cd7 "counts" = true) (k7 : PySem.W.keepIn K (.ref f7) = true)
    (a8 : PySem.W.nsIn K mainGlobals "_law_table" = some (some (.ref f8)))
    (l8 : K.lookup f8 = some ⟨oc8, od8, .func (PySem.W.fnOf "_law_table" "_law_table" (defArgs s_law_table) (defBody s_law_table) (defScope s_law_table) .none kV8 dc8 pm8 an8 cd8 ct8), sl8⟩) (c8 : PySem.W.codeIn K cd8 "_law_table" = true) (k8 : PySem.W.keepIn K (.ref f8) = true)
    (a9 : PySem.W.nsIn K mainGlobals "_law_due" = some (some (.ref f9)))
    (l9 : K.lookup f9 = some ⟨oc9, od9, .func (PySem.W.fnOf "_law_due" "_law_due" (defArgs s_law_due) (defBody s_law_due) (defScope s_law_due) .none kV9 dc9 pm9 an9 cd9 ct9), sl9⟩) (c9 : PySem.W.codeIn K cd9 "_law_due" = true) (k9 : PySem.W.keepIn K (.ref f9) = true)
    (a10 : PySem.W.nsIn K mainGlobals "_law_odd" = some (some (.ref f10)))
    (l10 : K.lookup f10 = some ⟨oc10, od10, .func (PySem.W.fnOf "_law_odd" "_law_odd" (defArgs s_law_odd) (defBody s_law_odd) (defScope s_law_odd) .none kV10 dc10 pm10 an10 cd10 ct10), sl10⟩) (c10 : PySem.W.codeIn K cd10 "_law_odd" = true) (k10 : PySem.W.keepIn K (.ref f10) = true)
    (a11 : PySem.W.nsIn K mainGlobals "_law_edges" = some (some (.ref f11)))
    (l11 : K.lookup f11 = some ⟨oc11, od11, .func (PySem.W.fnOf "_law_edges" "_law_edges" (defArgs s_law_edges) (defBody s_law_edges) (defScope s_law_edges) .none kV11 dc11 pm11 an11 cd11 ct11), sl11⟩) (c11 : PySem.W.codeIn K cd11 "_law_edges" = true) (k11 : PySem.W.keepIn K (.ref f11) = true)
    (a12 : PySem.W.nsIn K mainGlobals "is_ship" = some (some (.ref f12)))
    (l12 : K.lookup f12 = some ⟨oc12, od12, .func (PySem.W.fnOf "is_ship" "is_ship" (defArgs s_is_ship) (defBody s_is_ship) (defScope s_is_ship) .none kV12 dc12 pm12 an12 cd12 ct12), sl12⟩) (c12 : PySem.W.codeIn K cd12 "is_ship" = true) (k12 : PySem.W.keepIn K (.ref f12) = true)
    (a13 : PySem.W.nsIn K mainGlobals "peak_of" = some (some (.ref f13)))
    (l13 : K.lookup f13 = some ⟨oc13, od13, .func (PySem.W.fnOf "peak_of" "peak_of" (defArgs s_peak_of) (defBody s_peak_of) (defScope s_peak_of) .none kV13 dc13 pm13 an13 cd13 ct13), sl13⟩) (c13 : PySem.W.codeIn K cd13 "peak_of" = true) (k13 : PySem.W.keepIn K (.ref f13) = true)
    (a14 : PySem.W.nsIn K mainGlobals "is_table" = some (some (.ref f14)))
    (l14 : K.lookup f14 = some ⟨oc14, od14, .func (PySem.W.fnOf "is_table" "is_table" (defArgs s_is_table) (defBody s_is_table) (defScope s_is_table) .none kV14 dc14 pm14 an14 cd14 ct14), sl14⟩) (c14 : PySem.W.codeIn K cd14 "is_table" = true) (k14 : PySem.W.keepIn K (.ref f14) = true)
    (a15 : PySem.W.nsIn K mainGlobals "_law_bent" = some (some (.ref f15)))
    (l15 : K.lookup f15 = some ⟨oc15, od15, .func (PySem.W.fnOf "_law_bent" "_law_bent" (defArgs s_law_bent) (defBody s_law_bent) (defScope s_law_bent) .none kV15 dc15 pm15 an15 cd15 ct15), sl15⟩) (c15 : PySem.W.codeIn K cd15 "_law_bent" = true) (k15 : PySem.W.keepIn K (.ref f15) = true)
    (a16 : PySem.W.nsIn K mainGlobals "law" = some (some (.ref f16)))
    (l16 : K.lookup f16 = some ⟨oc16, od16, .func (PySem.W.fnOf "law" "law" (defArgs s_law) (defBody s_law) (defScope s_law) .none kV16 dc16 pm16 an16 cd16 ct16), sl16⟩) (c16 : PySem.W.codeIn K cd16 "law" = true) (k16 : PySem.W.keepIn K (.ref f16) = true)
    (z_all : PySem.W.nsIn K mainGlobals "all" = some none)
    (z_bool : PySem.W.nsIn K mainGlobals "bool" = some none)
    (z_divmod : PySem.W.nsIn K mainGlobals "divmod" = some none)
    (z_enumerate : PySem.W.nsIn K mainGlobals "enumerate" = some none)
    (z_int : PySem.W.nsIn K mainGlobals "int" = some none)
    (z_isinstance : PySem.W.nsIn K mainGlobals "isinstance" = some none)
    (z_len : PySem.W.nsIn K mainGlobals "len" = some none)
    (z_list : PySem.W.nsIn K mainGlobals "list" = some none)
    (z_max : PySem.W.nsIn K mainGlobals "max" = some none)
    (z_min : PySem.W.nsIn K mainGlobals "min" = some none)
    (z_range : PySem.W.nsIn K mainGlobals "range" = some none)
    (z_repr : PySem.W.nsIn K mainGlobals "repr" = some none)
    (z_set : PySem.W.nsIn K mainGlobals "set" = some none)
    (z_sorted : PySem.W.nsIn K mainGlobals "sorted" = some none)
    (z_tuple : PySem.W.nsIn K mainGlobals "tuple" = some none)
    (c_ARRIVAL : PySem.W.nsIn K mainGlobals "ARRIVAL" = some (some (.int 1 t_ARRIVAL)))
    (c_DEPARTURE : PySem.W.nsIn K mainGlobals "DEPARTURE" = some (some (.int 0 t_DEPARTURE)))
    (c_MOST_HOURS : PySem.W.nsIn K mainGlobals "MOST_HOURS" = some (some (.int 1000 t_MOST_HOURS)))
    (c_MOST_PEAK : PySem.W.nsIn K mainGlobals "MOST_PEAK" = some (some (.int 60 t_MOST_PEAK)))
    (c_MOST_SHIPS : PySem.W.nsIn K mainGlobals "MOST_SHIPS" = some (some (.int 24 t_MOST_SHIPS)))
    (c_MOST_STAY : PySem.W.nsIn K mainGlobals "MOST_STAY" = some (some (.int 10000 t_MOST_STAY))) :
    ∃ fd : FuncData, (∀ (s : Shared) (v : Value), BindsTo s fd ⟨[v], []⟩ [("_law_script", v)]) ∧ ∀ base : Heap, K.In base → base.Ns mainGlobals mg → FnG l.prog w K mg base CX0 9 fa fd ["_law_script"] (spD ⟨K, w, []⟩ (fnD 8 m_law) 1) := by
  have e := hfa.symm.trans (PySem.W.mg_of X G a16)
  cases e
  exact ⟨_, fun s v => .of_eq rfl, fun base _ _ => ok_law (mkT X G a0 l0 c0 k0 a1 l1 c1 k1 a2 l2 c2 k2 a3 l3 c3 k3 a4 l4 c4 k4 a5 l5 c5 k5 a6 l6 c6 k6 a7 l7 c7 k7 a8 l8 c8 k8 a9 l9 c9 k9 a10 l10 c10 k10 a11 l11 c11 k11 a12 l12 c12 k12 a13 l13 c13 k13 a14 l14 c14 k14 a15 l15 c15 k15 a16 l16 c16 k16 z_all z_bool z_divmod z_enumerate z_int z_isinstance z_len z_list z_max z_min z_range z_repr z_set z_sorted z_tuple c_ARRIVAL c_DEPARTURE c_MOST_HOURS c_MOST_PEAK c_MOST_SHIPS c_MOST_STAY)⟩
end LawK01
open PySem PySem.W PyProof.Rows in
set_option maxRecDepth 100000 in
set_option maxHeartbeats 0 in
theorem PySem.Challenge.cw_berths_k01_valid_timetables_holds : PySem.Challenge.rw_berths_k01_valid_timetables.Holds := by
  w_on; o_law; k_head; (case hw => w_witness2)
  k_fill
  refine Am.walkG (n := 63) (k := 9) (x := "_law_script") (CX := fun _ => L2.CX0) (body := LawK01.m_law) (sn := 8) rfl (by decide) rfl ⟨rfl, by decide, by decide⟩ (fun w h Y => PySem.W.kIn_of Y) ?F LawK01.law_true fun _ _ _ _ _ z => z
  case F =>
    intro w mg fa h KX G hmg
    refine' LawK01.all_mk KX G hmg ?a0 ?l0 ?c0 ?k0 ?a1 ?l1 ?c1 ?k1 ?a2 ?l2 ?c2 ?k2 ?a3 ?l3 ?c3 ?k3 ?a4 ?l4 ?c4 ?k4 ?a5 ?l5 ?c5 ?k5 ?a6 ?l6 ?c6 ?k6 ?a7 ?l7 ?c7 ?k7 ?a8 ?l8 ?c8 ?k8 ?a9 ?l9 ?c9 ?k9 ?a10 ?l10 ?c10 ?k10 ?a11 ?l11 ?c11 ?k11 ?a12 ?l12 ?c12 ?k12 ?a13 ?l13 ?c13 ?k13 ?a14 ?l14 ?c14 ?k14 ?a15 ?l15 ?c15 ?k15 ?a16 ?l16 ?c16 ?k16 ?z_all ?z_bool ?z_divmod ?z_enumerate ?z_int ?z_isinstance ?z_len ?z_list ?z_max ?z_min ?z_range ?z_repr ?z_set ?z_sorted ?z_tuple ?c_ARRIVAL ?c_DEPARTURE ?c_MOST_HOURS ?c_MOST_PEAK ?c_MOST_SHIPS ?c_MOST_STAY
    (case a0 => k_is)
    (case l0 => k_is)
    (case c0 => k_is)
    (case k0 => k_is)
    (case a1 => k_is)
    (case l1 => k_is)
    (case c1 => k_is)
    (case k1 => k_is)
    (case a2 => k_is)
    (case l2 => k_is)
    (case c2 => k_is)
    (case k2 => k_is)
    (case a3 => k_is)
    (case l3 => k_is)
    (case c3 => k_is)
    (case k3 => k_is)
    (case a4 => k_is)
    (case l4 => k_is)
    (case c4 => k_is)
    (case k4 => k_is)
    (case a5 => k_is)
    (case l5 => k_is)
    (case c5 => k_is)
    (case k5 => k_is)
    (case a6 => k_is)
    (case l6 => k_is)
    (case c6 => k_is)
    (case k6 => k_is)
    (case a7 => k_is)
    (case l7 => k_is)
    (case c7 => k_is)
    (case k7 => k_is)
    (case a8 => k_is)
    (case l8 => k_is)
    (case c8 => k_is)
    (case k8 => k_is)
    (case a9 => k_is)
    (case l9 => k_is)
    (case c9 => k_is)
    (case k9 => k_is)
    (case a10 => k_is)
    (case l10 => k_is)
    (case c10 => k_is)
    (case k10 => k_is)
    (case a11 => k_is)
    (case l11 => k_is)
    (case c11 => k_is)
    (case k11 => k_is)
    (case a12 => k_is)
    (case l12 => k_is)
    (case c12 => k_is)
    (case k12 => k_is)
    (case a13 => k_is)
    (case l13 => k_is)
    (case c13 => k_is)
    (case k13 => k_is)
    (case a14 => k_is)
    (case l14 => k_is)
    (case c14 => k_is)
    (case k14 => k_is)
    (case a15 => k_is)
    (case l15 => k_is)
    (case c15 => k_is)
    (case k15 => k_is)
    (case a16 => k_is)
    (case l16 => k_is)
    (case c16 => k_is)
    (case k16 => k_is)
    (case z_all => k_is)
    (case z_bool => k_is)
    (case z_divmod => k_is)
    (case z_enumerate => k_is)
    (case z_int => k_is)
    (case z_isinstance => k_is)
    (case z_len => k_is)
    (case z_list => k_is)
    (case z_max => k_is)
    (case z_min => k_is)
    (case z_range => k_is)
    (case z_repr => k_is)
    (case z_set => k_is)
    (case z_sorted => k_is)
    (case z_tuple => k_is)
    (case c_ARRIVAL => k_is)
    (case c_DEPARTURE => k_is)
    (case c_MOST_HOURS => k_is)
    (case c_MOST_PEAK => k_is)
    (case c_MOST_SHIPS => k_is)
    (case c_MOST_STAY => k_is)
