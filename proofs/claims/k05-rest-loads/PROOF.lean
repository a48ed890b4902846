import PyProof.Rows.All
import Wide.All
import OpenK.AllK
import Wide.FinOn
import HandS.ForMost
import HandS.ForExc
import HandS.Wide
import HandS.Conv
import HandS.IsInst
import HandS.RaiseMore
import PyProof.LongRange
import PyProof.ListRange
import HandS.Iter
import HandS.Style
import HandS.SortInts
import HandS.Deep
import KE.KSortedM
import HandS.SetFor
import HandS.Strs
import KE.DataMinMax
import KE.SortData
import KE.GoesEnum
import KE.KStar
import PySem.Challenge.RW_evenslices_k05_rest_loads
set_option Elab.async false
set_option linter.all false
set_option maxRecDepth 100000
set_option maxHeartbeats 4000000
namespace DL
open PySem PySem.Spec PyProof.Rows L2

/-! ### data -/
inductive Dt where
  | non
  | bl (b : Bool)
  | int (i : Int)
  | str (x : Str)
  | lst (ds : List Dt)
  | tup (ds : List Dt)
  | opq (a : Addr)

/-- a list that is read, its object known to the letter -/
def SqX (K : PySem.W.Frag) (S : Hp) (a : Addr) (xs : List V) : Prop :=
  Rd S a (.lst xs) ∨ ∃ (its : Array Value) (n : Nat), K.lookup a = some { cls := .type "list", data := .seq its n } ∧ its.size ≤ sizeLine ∧ Vals xs its.toList
theorem SqX.l {K : PySem.W.Frag} {S : Hp} {a : Addr} {xs : List V} (h : SqX K S a xs) : SqL K S a xs := by
  rcases h with h | ⟨its, n, h1, h2, h3⟩
  · exact Or.inl h
  · exact Or.inr ⟨_, its, n, h1, rfl, rfl, rfl, h2, h3⟩
theorem SqX.of {K : PySem.W.Frag} {S : Hp} {a : Addr} {xs : List V} (h : S a = some (.lst xs)) : SqX K S a xs := Or.inl (Or.inl h)
theorem SqX.obj {X : Cx} {pins : List (Addr × Obj)} {σ : L2.St} {H : Hp} {s : Shared} {a : Addr} {xs : List V} (I : Inv X pins σ H s) (h : SqX X.K H a xs) :
    ∃ (its : List Value) (n : Nat), Vals xs its ∧ xs.length ≤ sizeLine ∧ s.heap.get? a = some { cls := .type "list", data := .seq its.toArray n } := by
  rcases h with h | ⟨its, n, h1, h2, h3⟩
  · obtain ⟨z, its, n, r, e⟩ := h.ok I.hok
    exact ⟨its, n, r, z, e⟩
  · have e := h3.length
    simp only [Array.length_toList] at e
    exact ⟨its.toList, n, h3, by omega, by simpa using I.kIn a _ h1⟩

mutual
inductive Rp (K : PySem.W.Frag) (S : Hp) : V → Dt → Prop
  | non : Rp K S V.non Dt.non
  | bl (b : Bool) : Rp K S (V.bl b) (Dt.bl b)
  | int (i : Int) : Rp K S (V.int i) (Dt.int i)
  | str (x : Str) : Rp K S (V.str x) (Dt.str x)
  | lst {a : Addr} {xs : List V} {ds : List Dt} : SqX K S a xs → RpAll K S xs ds → Rp K S (V.ref a) (Dt.lst ds)
  | tup {a : Addr} {xs : List V} {ds : List Dt} : SqT K S a xs → RpAll K S xs ds → Rp K S (V.ref a) (Dt.tup ds)
  | opq (a : Addr) : Rp K S (V.ref a) (Dt.opq a)
inductive RpAll (K : PySem.W.Frag) (S : Hp) : List V → List Dt → Prop
  | nil : RpAll K S [] []
  | cons {v : V} {vs : List V} {d : Dt} {ds : List Dt} : Rp K S v d → RpAll K S vs ds → RpAll K S (v :: vs) (d :: ds)
end

section
variable {K : PySem.W.Frag} {S S' : Hp}
theorem sql_mono (e : Same S S') {a : Addr} {xs : List V} (h : SqL K S a xs) : SqL K S' a xs := e.seq h
theorem sqx_mono (e : Same S S') {a : Addr} {xs : List V} (h : SqX K S a xs) : SqX K S' a xs := by
  rcases h with (h | ⟨o, h⟩) | h
  · exact Or.inl (Or.inl (e _ _ h))
  · exact Or.inl (Or.inr ⟨o, e _ _ h⟩)
  · exact Or.inr h
theorem sqt_mono (e : Same S S') {a : Addr} {xs : List V} (h : SqT K S a xs) : SqT K S' a xs := by
  rcases h with (h | ⟨o, h⟩) | h
  · exact Or.inl (Or.inl (e _ _ h))
  · exact Or.inl (Or.inr ⟨o, e _ _ h⟩)
  · exact Or.inr h
mutual
theorem Rp.mono (e : Same S S') : ∀ (d : Dt) (v : V), Rp K S v d → Rp K S' v d
  | .non, _, h => by cases h; exact Rp.non
  | .bl b, _, h => by cases h; exact Rp.bl b
  | .int i, _, h => by cases h; exact Rp.int i
  | .str x, _, h => by cases h; exact Rp.str x
  | .lst ds, _, h => by
    cases h with
    | lst hs ha => exact Rp.lst (sqx_mono e hs) (RpAll.mono e ds _ ha)
  | .tup ds, _, h => by
    cases h with
    | tup hs ha => exact Rp.tup (sqt_mono e hs) (RpAll.mono e ds _ ha)
  | .opq w, _, h => by cases h; exact Rp.opq w
theorem RpAll.mono (e : Same S S') : ∀ (ds : List Dt) (vs : List V), RpAll K S vs ds → RpAll K S' vs ds
  | [], _, h => by cases h; exact RpAll.nil
  | d :: ds, _, h => by
    cases h with
    | cons h1 h2 => exact RpAll.cons (Rp.mono e d _ h1) (RpAll.mono e ds _ h2)
end
theorem RpAll.len : ∀ {vs : List V} {ds : List Dt}, RpAll K S vs ds → vs.length = ds.length
  | _, _, .nil => rfl
  | _, _, .cons _ t => by rw [List.length_cons, List.length_cons, RpAll.len t]
theorem RpAll.at : ∀ {vs : List V} {ds : List Dt} {i : Nat} {d : Dt}, RpAll K S vs ds → ds[i]? = some d → ∃ v, vs[i]? = some v ∧ Rp K S v d
  | _, _, _, _, .nil, e => by simp at e
  | _, _, 0, _, .cons r _, e => by simp at e; subst e; exact ⟨_, rfl, r⟩
  | _, _, i + 1, d, .cons _ t, e => by
    obtain ⟨u, h1, h2⟩ := RpAll.at (i := i) (d := d) t (by simpa using e)
    exact ⟨u, by simpa using h1, h2⟩
theorem RpAll.atV : ∀ {vs : List V} {ds : List Dt} {i : Nat} {v : V}, RpAll K S vs ds → vs[i]? = some v → ∃ d, ds[i]? = some d ∧ Rp K S v d
  | _, _, _, _, .nil, e => by simp at e
  | _, _, 0, _, .cons r _, e => by simp at e; subst e; exact ⟨_, rfl, r⟩
  | _, _, i + 1, v, .cons _ t, e => by
    obtain ⟨u, h1, h2⟩ := RpAll.atV (i := i) (v := v) t (by simpa using e)
    exact ⟨u, by simpa using h1, h2⟩
theorem RpAll.app : ∀ {vs ws : List V} {ds es : List Dt}, RpAll K S vs ds → RpAll K S ws es → RpAll K S (vs ++ ws) (ds ++ es)
  | _, _, _, _, .nil, s => s
  | _, _, _, _, .cons r t, s => .cons r (RpAll.app t s)
theorem RpAll.take : ∀ {vs : List V} {ds : List Dt} (n : Nat), RpAll K S vs ds → RpAll K S (vs.take n) (ds.take n)
  | _, _, 0, _ => .nil
  | _, _, _ + 1, .nil => .nil
  | _, _, n + 1, .cons r t => .cons r (RpAll.take n t)
theorem RpAll.drop : ∀ {vs : List V} {ds : List Dt} (n : Nat), RpAll K S vs ds → RpAll K S (vs.drop n) (ds.drop n)
  | _, _, 0, r => r
  | _, _, _ + 1, .nil => .nil
  | _, _, n + 1, .cons _ t => RpAll.drop n t
theorem RpAll.set {v : V} {d : Dt} (r : Rp K S v d) : ∀ {vs : List V} {ds : List Dt} (i : Nat), RpAll K S vs ds → RpAll K S (vs.set i v) (ds.set i d)
  | _, _, _, .nil => .nil
  | _, _, 0, .cons _ t => .cons r t
  | _, _, i + 1, .cons q t => .cons q (RpAll.set r i t)
theorem RpAll.ints : ∀ {ns : List Int} {vs : List V}, RpAll K S vs (ns.map Dt.int) → vs = ns.map V.int
  | [], _, h => by cases h; rfl
  | n :: ns, _, h => by
    cases h with
    | cons r t =>
      cases r
      rw [List.map_cons, RpAll.ints t]
theorem RpAll.of_ints : ∀ (ns : List Int), RpAll K S (ns.map V.int) (ns.map Dt.int)
  | [] => .nil
  | n :: ns => .cons (.int n) (RpAll.of_ints ns)
theorem RpAll.bls : ∀ {ns : List Bool} {vs : List V}, RpAll K S vs (ns.map Dt.bl) → vs = ns.map V.bl
  | [], _, h => by cases h; rfl
  | n :: ns, _, h => by
    cases h with
    | cons r t =>
      cases r
      rw [List.map_cons, RpAll.bls t]
theorem RpAll.rep {vs : List V} {ds : List Dt} (h : RpAll K S vs ds) : ∀ k : Nat, RpAll K S (List.replicate k vs).flatten (List.replicate k ds).flatten
  | 0 => .nil
  | k + 1 => by
    rw [List.replicate_succ, List.replicate_succ, List.flatten_cons, List.flatten_cons]
    exact h.app (RpAll.rep h k)
end

/-! ### to the library's data -/
mutual
def Dt.py : Dt → PyData
  | .non => .none
  | .bl b => .bool b
  | .int i => .int i
  | .str x => .str x
  | .lst ds => .list (Dt.pyAll ds)
  | .tup ds => .tuple (Dt.pyAll ds)
  | .opq _ => .none
def Dt.pyAll : List Dt → List PyData
  | [] => []
  | d :: ds => Dt.py d :: Dt.pyAll ds
end
mutual
def Dt.plain : Dt → Bool
  | .lst ds => Dt.plainAll ds
  | .tup ds => Dt.plainAll ds
  | .opq _ => false
  | _ => true
def Dt.plainAll : List Dt → Bool
  | [] => true
  | d :: ds => Dt.plain d && Dt.plainAll ds
end
section
variable {K : PySem.W.Frag} {S : Hp}
mutual
theorem Rp.dp : ∀ (d : Dt) (v : V), Dt.plain d = true → Rp K S v d → Dp K S v (Dt.py d)
  | .non, _, _, h => by cases h; exact Dp.non
  | .bl b, _, _, h => by cases h; exact Dp.bl b
  | .int i, _, _, h => by cases h; exact Dp.int i
  | .str x, _, _, h => by cases h; exact Dp.str x
  | .lst ds, _, p, h => by
    cases h with
    | lst hs ha => exact Dp.lst hs.l (RpAll.dp ds _ p ha)
  | .tup ds, _, p, h => by
    cases h with
    | tup hs ha => exact Dp.tup hs (RpAll.dp ds _ p ha)
  | .opq w, _, p, _ => by cases p
theorem RpAll.dp : ∀ (ds : List Dt) (vs : List V), Dt.plainAll ds = true → RpAll K S vs ds → DpAll K S vs (Dt.pyAll ds)
  | [], _, _, h => by cases h; exact DpAll.nil
  | d :: ds, _, p, h => by
    cases h with
    | cons h1 h2 =>
      have q : (Dt.plain d && Dt.plainAll ds) = true := p
      rw [Bool.and_eq_true] at q
      exact DpAll.cons (Rp.dp d _ q.1 h1) (RpAll.dp ds _ q.2 h2)
end
mutual
theorem dp_mono {S' : Hp} (e : Same S S') : ∀ (d : PyData) (v : V), Dp K S v d → Dp K S' v d
  | .none, _, h => by cases h; exact Dp.non
  | .bool b, _, h => by cases h; exact Dp.bl b
  | .int i, _, h => by cases h; exact Dp.int i
  | .str x, _, h => by cases h; exact Dp.str x
  | .list ds, _, h => by
    cases h with
    | lst hs ha => exact Dp.lst (sql_mono e hs) (dpAll_mono e ds _ ha)
  | .tuple ds, _, h => by
    cases h with
    | tup hs ha => exact Dp.tup (sqt_mono e hs) (dpAll_mono e ds _ ha)
  | .dict _, _, h => by cases h
theorem dpAll_mono {S' : Hp} (e : Same S S') : ∀ (ds : List PyData) (vs : List V), DpAll K S vs ds → DpAll K S' vs ds
  | [], _, h => by cases h; exact DpAll.nil
  | d :: ds, _, h => by
    cases h with
    | cons h1 h2 => exact DpAll.cons (dp_mono e d _ h1) (dpAll_mono e ds _ h2)
end
end

/-! ### the state: what stands, and the lists that are changed -/
structure G where
  S : Hp
  M : Addr → Option (List Dt)
def GOk (K : PySem.W.Frag) (g : G) (H : Hp) : Prop :=
  Same g.S H ∧ ∀ p ds, g.M p = some ds → g.S p = none ∧ ∃ xs, H p = some (.lst xs) ∧ RpAll K g.S xs ds
inductive Sl where
  | no
  | d (x : Dt)
  | o (ds : List Dt)
  | i (p : Addr) (ds : List Dt)
  | t (cs : List (Addr × List Dt)) (x : Dt)
def SlOk (K : PySem.W.Frag) (g : G) (v : Option V) : Sl → Prop
  | .no => True
  | .d x => ∃ u, v = some u ∧ Rp K g.S u x
  | .o ds => ∃ p, v = some (V.ref p) ∧ g.M p = some ds
  | .i p ds => v = some (V.ref p) ∧ g.M p = some ds
  | .t cs x => (∃ u, v = some u ∧ Rp K g.S u x) ∧ (cs.map (·.1)).Nodup ∧ ∀ a ds, (a, ds) ∈ cs → g.M a = some ds
def Sl.own : Sl → Bool
  | .o _ => true
  | .i _ _ => true
  | _ => false
/-- the lists that a slot has for its own -/
def Adr (σ : L2.St) (i : Nat) : Sl → Addr → Prop
  | .no, _ => False
  | .d _, _ => False
  | .o _, p => σ[i]? = some (some (V.ref p))
  | .i _ _, p => σ[i]? = some (some (V.ref p))
  | .t cs _, p => p ∈ cs.map (·.1)
theorem adr_set {σ : L2.St} {i j : Nat} {v : Option V} {p : Addr} (h : j ≠ i) : ∀ {s : Sl}, Adr (σ.set i v) j s p ↔ Adr σ j s p
  | .no => Iff.rfl
  | .d _ => Iff.rfl
  | .o _ => by unfold Adr; rw [List.getElem?_set_ne (Ne.symm h)]
  | .i _ _ => by unfold Adr; rw [List.getElem?_set_ne (Ne.symm h)]
  | .t _ _ => Iff.rfl
/-- slots without lists of their own -/
def Sl.bare : Sl → Bool
  | .no => true
  | .d _ => true
  | _ => false
theorem adr_bare {σ : L2.St} {i : Nat} {p : Addr} : ∀ {s : Sl}, s.bare = true → Adr σ i s p → False
  | .no, _, h => h
  | .d _, _, h => h
  | .o _, h, _ => by cases h
  | .i _ _, h, _ => by cases h
  | .t _ _, h, _ => by cases h
theorem adr_own {σ : L2.St} {i : Nat} {p : Addr} : ∀ {s : Sl}, s.own = true → σ[i]? = some (some (V.ref p)) → Adr σ i s p
  | .no, h, _ => by cases h
  | .d _, h, _ => by cases h
  | .o _, _, h => h
  | .i _ _, _, h => h
  | .t _ _, h, _ => by cases h
def OwnAt (σ : L2.St) (ρ : List Sl) (p : Addr) : Prop := ∃ (i : Nat) (s : Sl), ρ[i]? = some s ∧ Adr σ i s p
structure Rep (K : PySem.W.Frag) (g : G) (σ : L2.St) (ρ : List Sl) : Prop where
  len : σ.length = ρ.length
  sl : ∀ (i : Nat) (s : Sl), ρ[i]? = some s → ∃ v, σ[i]? = some v ∧ SlOk K g v s
  ne : ∀ (i j : Nat) (s t : Sl) (p : Addr), i ≠ j → ρ[i]? = some s → ρ[j]? = some t → Adr σ i s p → Adr σ j t p → False
structure Ext (σ : L2.St) (ρ ρ' : List Sl) (g g' : G) : Prop where
  st : Same g.S g'.S
  mu : ∀ p ds, g.M p = some ds → ¬ OwnAt σ ρ p → g'.M p = some ds
  ow : ∀ p, OwnAt σ ρ' p → OwnAt σ ρ p
theorem Ext.refl (σ : L2.St) (ρ : List Sl) (g : G) : Ext σ ρ ρ g g := ⟨Same.refl _, fun _ _ h _ => h, fun _ h => h⟩
theorem Ext.trans {σ : L2.St} {ρ ρ1 ρ2 : List Sl} {g g1 g2 : G} (a : Ext σ ρ ρ1 g g1) (b : Ext σ ρ1 ρ2 g1 g2) : Ext σ ρ ρ2 g g2 :=
  ⟨a.st.trans b.st, fun p ds h n => b.mu p ds (a.mu p ds h n) fun q => n (a.ow p q), fun p h => a.ow p (b.ow p h)⟩
/-- the state only grows, no list is changed -/
structure Gro (g g' : G) : Prop where
  st : Same g.S g'.S
  mu : ∀ p ds, g.M p = some ds → g'.M p = some ds
theorem Gro.refl (g : G) : Gro g g := ⟨Same.refl _, fun _ _ h => h⟩
theorem Gro.trans {g g1 g2 : G} (a : Gro g g1) (b : Gro g1 g2) : Gro g g2 := ⟨a.st.trans b.st, fun p ds h => b.mu p ds (a.mu p ds h)⟩
theorem Gro.ext {g g' : G} (a : Gro g g') (σ : L2.St) (ρ : List Sl) : Ext σ ρ ρ g g' := ⟨a.st, fun p ds h _ => a.mu p ds h, fun _ h => h⟩
section
variable {K : PySem.W.Frag} {g g' : G} {σ : L2.St} {ρ : List Sl} {H : Hp}
theorem SlOk.gro (a : Gro g g') {v : Option V} : ∀ {s : Sl}, SlOk K g v s → SlOk K g' v s
  | .no, _ => trivial
  | .d x, ⟨u, e, r⟩ => ⟨u, e, r.mono a.st⟩
  | .o ds, ⟨p, e, r⟩ => ⟨p, e, a.mu _ _ r⟩
  | .i p ds, ⟨e, r⟩ => ⟨e, a.mu _ _ r⟩
  | .t cs x, ⟨⟨u, e, r⟩, n, h⟩ => ⟨⟨u, e, r.mono a.st⟩, n, fun p ds z => a.mu _ _ (h p ds z)⟩
theorem Rep.gro (r : Rep K g σ ρ) (a : Gro g g') : Rep K g' σ ρ :=
  ⟨r.len, fun i s h => let ⟨v, e, q⟩ := r.sl i s h; ⟨v, e, q.gro a⟩, r.ne⟩
theorem GOk.free (o : GOk K g H) {p : Addr} (h : H p = none) : g.S p = none ∧ g.M p = none := by
  refine ⟨o.1.free h, ?_⟩
  cases q : g.M p with
  | none => rfl
  | some ds =>
    obtain ⟨_, xs, e, _⟩ := o.2 p ds q
    rw [h] at e; cases e
/-- a new object that will stand -/
def G.stand (g : G) (p : Addr) (o : HO) : G := ⟨upd g.S p o, g.M⟩
/-- a new list that may be changed -/
def G.hold (g : G) (p : Addr) (ds : List Dt) : G := ⟨g.S, fun q => if q = p then some ds else g.M q⟩
theorem stand_gro {p : Addr} {o : HO} (h : g.S p = none) : Gro g (g.stand p o) :=
  ⟨fun b u e => by show upd g.S p o b = some u; rw [upd_ne (ne_of_none e h)]; exact e, fun _ _ h => h⟩
theorem stand_ok (k : GOk K g H) {p : Addr} {o : HO} (h : H p = some o) (hs : g.S p = none) (hm : g.M p = none) : GOk K (g.stand p o) H := by
  refine ⟨fun b u e => ?_, fun q ds e => ?_⟩
  · by_cases hb : b = p
    · subst hb
      have e' : upd g.S b o b = some u := e
      rw [upd_same] at e'
      rw [← e', h]
    · have e' : upd g.S p o b = some u := e
      rw [upd_ne hb] at e'
      exact k.1 b u e'
  · have e' : g.M q = some ds := e
    obtain ⟨h1, xs, h2, h3⟩ := k.2 q ds e'
    have hq : q ≠ p := fun z => by rw [z, hm] at e'; cases e'
    exact ⟨by show upd g.S p o q = none; rw [upd_ne hq]; exact h1, xs, h2, h3.mono (stand_gro hs).st⟩
/-- a new object in the heap, untold -/
theorem GOk.upd (k : GOk K g H) {p : Addr} {o : HO} (h : H p = none) : GOk K g (upd H p o) := by
  obtain ⟨hs, hm⟩ := k.free h
  refine ⟨fun b u e => ?_, fun q ds e => ?_⟩
  · rw [upd_ne (ne_of_none e hs)]; exact k.1 b u e
  · obtain ⟨h1, xs, h2, h3⟩ := k.2 q ds e
    exact ⟨h1, xs, by rw [upd_ne (ne_of_none h2 h)]; exact h2, h3⟩
theorem hold_gro {p : Addr} {ds : List Dt} (h : g.M p = none) : Gro g (g.hold p ds) :=
  ⟨Same.refl _, fun q es e => by
    have hq : q ≠ p := fun z => by rw [z, h] at e; cases e
    show (if q = p then some ds else g.M q) = some es
    rw [if_neg hq]; exact e⟩
theorem hold_ok (k : GOk K g H) {p : Addr} {xs : List V} {ds : List Dt} (h : H p = some (.lst xs)) (hs : g.S p = none) (r : RpAll K g.S xs ds) : GOk K (g.hold p ds) H := by
  refine ⟨k.1, fun q es e => ?_⟩
  have e' : (if q = p then some ds else g.M q) = some es := e
  by_cases hq : q = p
  · subst hq
    rw [if_pos rfl] at e'
    cases e'
    exact ⟨hs, xs, h, r⟩
  · rw [if_neg hq] at e'
    exact k.2 q es e'
theorem Rep.get (r : Rep K g σ ρ) {i : Nat} {x : Dt} (h : ρ[i]? = some (.d x)) : ∃ u, σ[i]? = some (some u) ∧ Rp K g.S u x := by
  obtain ⟨v, e, u, rfl, q⟩ := r.sl i _ h
  exact ⟨u, e, q⟩
theorem Rep.getO (r : Rep K g σ ρ) {i : Nat} {ds : List Dt} (h : ρ[i]? = some (.o ds)) : ∃ p, σ[i]? = some (some (V.ref p)) ∧ g.M p = some ds := by
  obtain ⟨v, e, p, rfl, q⟩ := r.sl i _ h
  exact ⟨p, e, q⟩
theorem Rep.getI (r : Rep K g σ ρ) {i : Nat} {p : Addr} {ds : List Dt} (h : ρ[i]? = some (.i p ds)) : σ[i]? = some (some (V.ref p)) ∧ g.M p = some ds := by
  obtain ⟨v, e, rfl, q⟩ := r.sl i _ h
  exact ⟨e, q⟩
end
end DL
namespace DL
open PySem PySem.Spec PyProof.Rows L2

/-! ### judgements over data -/
def RE (K : PySem.W.Frag) (t : TE) (ρ : List Sl) (d : Dt) (ρ' : List Sl) : Prop :=
  ∀ (σ : L2.St) (H : Hp) (g : G) (Q : VK), GOk K g H → Rep K g σ ρ →
    (∀ v H' g', GOk K g' H' → Ext σ ρ ρ' g g' → Rep K g' σ ρ' → Rp K g'.S v d → Q v H') → t σ H Q
/-- a list, to be read at once -/
def RR (K : PySem.W.Frag) (t : TE) (ρ : List Sl) (ds : List Dt) (ρ' : List Sl) : Prop :=
  ∀ (σ : L2.St) (H : Hp) (g : G) (Q : VK), GOk K g H → Rep K g σ ρ →
    (∀ p xs H' g', GOk K g' H' → Ext σ ρ ρ' g g' → Rep K g' σ ρ' → SqX K H' p xs → RpAll K g'.S xs ds → Q (V.ref p) H') → t σ H Q
/-- a new list -/
def RL (K : PySem.W.Frag) (t : TE) (ρ : List Sl) (ds : List Dt) (ρ' : List Sl) : Prop :=
  ∀ (σ : L2.St) (H : Hp) (g : G) (Q : VK), GOk K g H → Rep K g σ ρ →
    (∀ p xs H' g', GOk K g' H' → Ext σ ρ ρ' g g' → Rep K g' σ ρ' → H' p = some (.lst xs) → g'.S p = none → g'.M p = none → RpAll K g'.S xs ds → Q (V.ref p) H') → t σ H Q
def RT (K : PySem.W.Frag) (t : TT) (ρ : List Sl) (b : Bool) (ρ' : List Sl) : Prop :=
  ∀ (σ : L2.St) (H : Hp) (g : G) (Q : Bool → Hp → Prop), GOk K g H → Rep K g σ ρ →
    (∀ H' g', GOk K g' H' → Ext σ ρ ρ' g g' → Rep K g' σ ρ' → Q b H') → t σ H Q
def RA (K : PySem.W.Frag) (t : TA) (ρ : List Sl) (ds : List Dt) (ρ' : List Sl) : Prop :=
  ∀ (σ : L2.St) (H : Hp) (g : G) (Q : List V → Hp → Prop), GOk K g H → Rep K g σ ρ →
    (∀ vs H' g', GOk K g' H' → Ext σ ρ ρ' g g' → Rep K g' σ ρ' → RpAll K g'.S vs ds → Q vs H') → t σ H Q
def VE (X : Cx) (ρ : List Sl) (e : Expr) (d : Dt) (ρ' : List Sl) : Prop := ∃ t, PE X e t ∧ RE X.K t ρ d ρ'
def VR (X : Cx) (ρ : List Sl) (e : Expr) (ds : List Dt) (ρ' : List Sl) : Prop := ∃ t, PE X e t ∧ RR X.K t ρ ds ρ'
def VL (X : Cx) (ρ : List Sl) (e : Expr) (ds : List Dt) (ρ' : List Sl) : Prop := ∃ t, PE X e t ∧ RL X.K t ρ ds ρ'
def VT (X : Cx) (ρ : List Sl) (e : Expr) (b : Bool) (ρ' : List Sl) : Prop := ∃ t, PT X e t ∧ RT X.K t ρ b ρ'
def VW (X : Cx) (ρ : List Sl) (e : Expr) (b : Bool) (ρ' : List Sl) : Prop := ∃ t, PW X e t ∧ RT X.K t ρ b ρ'
def VA (X : Cx) (ρ : List Sl) (es : List Expr) (ds : List Dt) (ρ' : List Sl) : Prop := ∃ t, PA X es t ∧ RA X.K t ρ ds ρ'

/-! ### operations on values -/
def RO (K : PySem.W.Frag) (r : R2) (x y z : Dt) : Prop := ∀ v u H g (Q : VK), GOk K g H → Rp K g.S v x → Rp K g.S u y →
  (∀ w H' g', GOk K g' H' → Gro g g' → Rp K g'.S w z → Q w H') → r v u H Q
def RU1 (K : PySem.W.Frag) (r : V → Hp → VK → Prop) (x z : Dt) : Prop := ∀ v H g (Q : VK), GOk K g H → Rp K g.S v x →
  (∀ w H' g', GOk K g' H' → Gro g g' → Rp K g'.S w z → Q w H') → r v H Q
/-- a call by values -/
def RC (K : PySem.W.Frag) (r : List V → Hp → VK → Prop) (xs : List Dt) (z : Dt) : Prop := ∀ vs H g (Q : VK), GOk K g H → RpAll K g.S vs xs →
  (∀ w H' g', GOk K g' H' → Gro g g' → Rp K g'.S w z → Q w H') → r vs H Q
section
variable {K : PySem.W.Frag} {x y z : Dt}
theorem ro_I0 {f : Int → Int → Int} {i j : Int} : RO K (rI0 fun i j => V.int (f i j)) (.int i) (.int j) (.int (f i j)) := fun v u H g Q k rx ry q => by
  cases rx; cases ry
  exact ⟨i, j, rfl, rfl, q _ H g k (Gro.refl g) (Rp.int _)⟩
theorem ro_I {C : Int → Int → Prop} {f : Int → Int → Int} {i j : Int} (hc : C i j) : RO K (rI C fun i j => V.int (f i j)) (.int i) (.int j) (.int (f i j)) := fun v u H g Q k rx ry q => by
  cases rx; cases ry
  exact ⟨i, j, rfl, rfl, hc, q _ H g k (Gro.refl g) (Rp.int _)⟩
theorem ro_B0 {f : Int → Int → Bool} {i j : Int} : RO K (rI0 fun i j => V.bl (f i j)) (.int i) (.int j) (.bl (f i j)) := fun v u H g Q k rx ry q => by
  cases rx; cases ry
  exact ⟨i, j, rfl, rfl, q _ H g k (Gro.refl g) (Rp.bl _)⟩
theorem dec_i {i j : Int} : decide (V.int i = V.int j) = decide (i = j) := by
  by_cases h : i = j
  · subst h; simp
  · have n : ¬ V.int i = V.int j := fun e => h (V.int.inj e)
    rw [decide_eq_false h, decide_eq_false n]
theorem dec_b {i j : Bool} : decide (V.bl i = V.bl j) = decide (i = j) := by
  by_cases h : i = j
  · subst h; simp
  · have n : ¬ V.bl i = V.bl j := fun e => h (V.bl.inj e)
    rw [decide_eq_false h, decide_eq_false n]
theorem dec_s {i j : Str} : decide (V.str i = V.str j) = decide (i = j) := by
  by_cases h : i = j
  · subst h; simp
  · have n : ¬ V.str i = V.str j := fun e => h (V.str.inj e)
    rw [decide_eq_false h, decide_eq_false n]
theorem ro_eqI {i j : Int} : RO K rEq (.int i) (.int j) (.bl (decide (i = j))) := fun v u H g Q k rx ry q => by
  cases rx; cases ry
  exact ⟨rfl, by rw [dec_i]; exact q _ H g k (Gro.refl g) (Rp.bl _)⟩
theorem ro_neI {i j : Int} : RO K rNe (.int i) (.int j) (.bl (!decide (i = j))) := fun v u H g Q k rx ry q => by
  cases rx; cases ry
  exact ⟨rfl, by rw [dec_i]; exact q _ H g k (Gro.refl g) (Rp.bl _)⟩
theorem ro_eqB {i j : Bool} : RO K rEq (.bl i) (.bl j) (.bl (decide (i = j))) := fun v u H g Q k rx ry q => by
  cases rx; cases ry
  exact ⟨rfl, by rw [dec_b]; exact q _ H g k (Gro.refl g) (Rp.bl _)⟩
theorem ro_eqS {i j : Str} : RO K rEq (.str i) (.str j) (.bl (decide (i = j))) := fun v u H g Q k rx ry q => by
  cases rx; cases ry
  exact ⟨rfl, by rw [dec_s]; exact q _ H g k (Gro.refl g) (Rp.bl _)⟩
theorem ro_neS {i j : Str} : RO K rNe (.str i) (.str j) (.bl (!decide (i = j))) := fun v u H g Q k rx ry q => by
  cases rx; cases ry
  exact ⟨rfl, by rw [dec_s]; exact q _ H g k (Gro.refl g) (Rp.bl _)⟩
def Dt.isNon : Dt → Bool
  | .non => true
  | _ => false
theorem rp_non {S : Hp} {v : V} (r : Rp K S v x) : decide (v = V.non) = x.isNon := by
  cases r <;> simp [Dt.isNon]
theorem ro_isN : RO K (fun x y H Q => y = V.non ∧ Q (.bl (decide (x = V.non))) H) x .non (.bl x.isNon) := fun v u H g Q k rx ry q => by
  cases ry
  exact ⟨rfl, by rw [rp_non rx]; exact q _ H g k (Gro.refl g) (Rp.bl _)⟩
theorem ro_notN : RO K (fun x y H Q => y = V.non ∧ Q (.bl (!decide (x = V.non))) H) x .non (.bl (!x.isNon)) := fun v u H g Q k rx ry q => by
  cases ry
  exact ⟨rfl, by rw [rp_non rx]; exact q _ H g k (Gro.refl g) (Rp.bl _)⟩
theorem ru_neg {i : Int} : RU1 K (rU fun i => V.int (-i)) (.int i) (.int (-i)) := fun v H g Q k rx q => by
  cases rx
  exact ⟨i, rfl, q _ H g k (Gro.refl g) (Rp.int _)⟩
end

section
variable {X : Cx} {ρ ρ1 ρ2 ρ3 : List Sl} {a b c e : Expr} {es : List Expr} {x y z d : Dt} {ds : List Dt} {pos : Pos} {k : Nat}

/-! ### names, constants -/
theorem ve_var {x : Dt} (i : Nat) {nm : Str} (h : ρ[i]? = some (.d x) := by rfl) (hN : X.N[i]? = some nm := by rfl) (hv : Vis X.env.scope nm := by first | exact Or.inl rfl | exact Or.inr (Or.inl rfl) | exact Or.inr (Or.inr rfl))
    (hd : (nm == ("__debug__" : Str)) = false := by decide) (hcd : (nm == ("__classdict__" : Str)) = false := by decide) : VE X ρ (.Name nm pos) x ρ :=
  ⟨_, pe_var hN hv hd hcd, fun σ H g Q k r q => by
    obtain ⟨u, e1, e2⟩ := r.get h
    exact ⟨u, e1, q u H g k (Ext.refl _ _ _) r e2⟩⟩
theorem ve_int {i : Int} {j : Nat} : VE X ρ (.Constant (.int i) j pos) (.int i) ρ := ⟨_, pe_int, fun σ H g Q k r q => q _ H g k (Ext.refl _ _ _) r (Rp.int i)⟩
theorem ve_bl {i : Bool} {j : Nat} : VE X ρ (.Constant (.bool i) j pos) (.bl i) ρ := ⟨_, pe_bl, fun σ H g Q k r q => q _ H g k (Ext.refl _ _ _) r (Rp.bl i)⟩
theorem ve_non {j : Nat} : VE X ρ (.Constant .none j pos) .non ρ := ⟨_, pe_non, fun σ H g Q k r q => q _ H g k (Ext.refl _ _ _) r Rp.non⟩
theorem ve_str {i : Str} {j : Nat} : VE X ρ (.Constant (.str i) j pos) (.str i) ρ := ⟨_, pe_str, fun σ H g Q k r q => q _ H g k (Ext.refl _ _ _) r (Rp.str i)⟩
/-- an int of the module -/
theorem ve_globI {nm : Str} {i : Int} {u : Value} (hg : Gl X nm) (hm : X.mg nm = some u) (r : RelV (V.int i) u) (hd : (nm == ("__debug__" : Str)) = false := by decide) : VE X ρ (.Name nm pos) (.int i) ρ :=
  ⟨_, pe_glob hg hm r hd, fun σ H g Q k r q => q _ H g k (Ext.refl _ _ _) r (Rp.int i)⟩
theorem ve_globS {nm : Str} {i : Str} {u : Value} (hg : Gl X nm) (hm : X.mg nm = some u) (r : RelV (V.str i) u) (hd : (nm == ("__debug__" : Str)) = false := by decide) : VE X ρ (.Name nm pos) (.str i) ρ :=
  ⟨_, pe_glob hg hm r hd, fun σ H g Q k r q => q _ H g k (Ext.refl _ _ _) r (Rp.str i)⟩
theorem VE.to (h : VE X ρ e d ρ1) (e1 : d = x) : VE X ρ e x ρ1 := e1 ▸ h

/-! ### operators -/
theorem RE.op {ta tb : TE} {r : R2} {K : PySem.W.Frag} (ha : RE K ta ρ x ρ1) (hb : RE K tb ρ1 y ρ2) (hr : RO K r x y z) : RE K (tOp r ta tb) ρ z ρ2 := fun σ H g Q k rp q =>
  ha σ H g _ k rp fun v H1 g1 k1 e1 r1 rv => hb σ H1 g1 _ k1 r1 fun u H2 g2 k2 e2 r2 ru => hr v u H2 g2 _ k2 (rv.mono e2.st) ru fun w H3 g3 k3 e3 rw' =>
    q w H3 g3 k3 ((e1.trans e2).trans (e3.ext _ _)) (r2.gro e3) rw'
theorem ve_op {op : Operator} {r : R2} (ho : OpR X (binaryOp op) r) (hr : RO X.K r x y z) (ha : VE X ρ a x ρ1) (hb : VE X ρ1 b y ρ2) : VE X ρ (.BinOp a op b pos) z ρ2 := by
  obtain ⟨ta, pa, qa⟩ := ha
  obtain ⟨tb, pb, qb⟩ := hb
  exact ⟨_, pe_op ho pa pb, qa.op qb hr⟩
theorem ve_un {op : UnaryOp} {r : V → Hp → VK → Prop} (ho : UnR X (unaryOp op) r) (hr : RU1 X.K r x z) (ha : VE X ρ a x ρ1) : VE X ρ (.UnaryOp op a pos) z ρ1 := by
  obtain ⟨ta, pa, qa⟩ := ha
  exact ⟨_, pe_un ho pa, fun σ H g Q k rp q => qa σ H g _ k rp fun v H1 g1 k1 e1 r1 rv => hr v H1 g1 _ k1 rv fun w H2 g2 k2 e2 rw' => q w H2 g2 k2 (e1.trans (e2.ext _ _)) (r1.gro e2) rw'⟩
theorem ve_cmp {op : CmpOp} {r : R2} (ho : OpR X (compareOp op) r) (hr : RO X.K r x y z) (hm : behindInMarks op b = false) (ha : VE X ρ a x ρ1) (hb : VE X ρ1 b y ρ2) : VE X ρ (.Compare a [op] [b] pos) z ρ2 := by
  obtain ⟨ta, pa, qa⟩ := ha
  obtain ⟨tb, pb, qb⟩ := hb
  exact ⟨_, pe_cmpR ho pa pb hm, qa.op qb hr⟩
theorem vt_cmp {op : CmpOp} {r : R2} {w : Bool} (ho : OpR X (compareOp op) r) (hr : RO X.K r x y (.bl w)) (hm : behindInMarks op b = false) (ha : VE X ρ a x ρ1) (hb : VE X ρ1 b y ρ2) : VT X ρ (.Compare a [op] [b] pos) w ρ2 := by
  obtain ⟨ta, pa, qa⟩ := ha
  obtain ⟨tb, pb, qb⟩ := hb
  refine ⟨_, pt_cmpR ho pa pb hm, fun σ H g Q k rp q => qa.op qb hr σ H g _ k rp fun v H1 g1 k1 e1 r1 rv => ?_⟩
  cases rv
  exact ⟨w, rfl, q H1 g1 k1 e1 r1⟩
def CMulD (i j : Int) : Prop := i.natAbs.log2 + j.natAbs.log2 < 1000000
def CPowD (i j : Int) : Prop := 0 ≤ j ∧ (Builtin.Int.intBits i : Int) * j ≤ 2 ^ 27
theorem op_powD : OpR X (binaryOp .Pow) (rI CPowD fun i j => .int (i ^ j.toNat)) := opI fun _ _ _ _ _ _ _ hc q => PyProof.Rows.pow_int hc.1 hc.2 q
theorem ve_add {i j : Int} (ha : VE X ρ a (.int i) ρ1) (hb : VE X ρ1 b (.int j) ρ2) : VE X ρ (.BinOp a .Add b pos) (.int (i + j)) ρ2 := ve_op op_add ro_I0 ha hb
theorem ve_sub {i j : Int} (ha : VE X ρ a (.int i) ρ1) (hb : VE X ρ1 b (.int j) ρ2) : VE X ρ (.BinOp a .Sub b pos) (.int (i - j)) ρ2 := ve_op op_sub ro_I0 ha hb
theorem ve_mul {i j : Int} (ha : VE X ρ a (.int i) ρ1) (hb : VE X ρ1 b (.int j) ρ2) (hc : CMulW i j) : VE X ρ (.BinOp a .Mult b pos) (.int (i * j)) ρ2 := ve_op op_mulW (ro_I hc) ha hb
theorem ve_div {i j : Int} (ha : VE X ρ a (.int i) ρ1) (hb : VE X ρ1 b (.int j) ρ2) (hc : CDivW i j) : VE X ρ (.BinOp a .FloorDiv b pos) (.int (i / j)) ρ2 := ve_op op_fdivW (ro_I hc) ha hb
theorem ve_mod {i j : Int} (ha : VE X ρ a (.int i) ρ1) (hb : VE X ρ1 b (.int j) ρ2) (hc : 0 < j) : VE X ρ (.BinOp a .Mod b pos) (.int (i % j)) ρ2 := ve_op op_mod (ro_I hc) ha hb
theorem ve_pow {i j : Int} (ha : VE X ρ a (.int i) ρ1) (hb : VE X ρ1 b (.int j) ρ2) (hc : CPowD i j) : VE X ρ (.BinOp a .Pow b pos) (.int (i ^ j.toNat)) ρ2 := ve_op op_powD (ro_I hc) ha hb
theorem ve_neg {i : Int} (ha : VE X ρ a (.int i) ρ1) : VE X ρ (.UnaryOp .USub a pos) (.int (-i)) ρ1 := ve_un un_neg ru_neg ha

/-! ### comparisons: as values, as tests -/
theorem ve_lt {i j : Int} (ha : VE X ρ a (.int i) ρ1) (hb : VE X ρ1 b (.int j) ρ2) : VE X ρ (.Compare a [.Lt] [b] pos) (.bl (decide (i < j))) ρ2 := ve_cmp op_lt ro_B0 (nomark _) ha hb
theorem ve_le {i j : Int} (ha : VE X ρ a (.int i) ρ1) (hb : VE X ρ1 b (.int j) ρ2) : VE X ρ (.Compare a [.LtE] [b] pos) (.bl (decide (i ≤ j))) ρ2 := ve_cmp op_le ro_B0 (nomark _) ha hb
theorem ve_gt {i j : Int} (ha : VE X ρ a (.int i) ρ1) (hb : VE X ρ1 b (.int j) ρ2) : VE X ρ (.Compare a [.Gt] [b] pos) (.bl (decide (j < i))) ρ2 := ve_cmp op_gt ro_B0 (nomark _) ha hb
theorem ve_ge {i j : Int} (ha : VE X ρ a (.int i) ρ1) (hb : VE X ρ1 b (.int j) ρ2) : VE X ρ (.Compare a [.GtE] [b] pos) (.bl (decide (j ≤ i))) ρ2 := ve_cmp op_ge ro_B0 (nomark _) ha hb
theorem ve_eqI {i j : Int} (ha : VE X ρ a (.int i) ρ1) (hb : VE X ρ1 b (.int j) ρ2) : VE X ρ (.Compare a [.Eq] [b] pos) (.bl (decide (i = j))) ρ2 := ve_cmp op_eq ro_eqI (nomark _) ha hb
theorem ve_neI {i j : Int} (ha : VE X ρ a (.int i) ρ1) (hb : VE X ρ1 b (.int j) ρ2) : VE X ρ (.Compare a [.NotEq] [b] pos) (.bl (!decide (i = j))) ρ2 := ve_cmp op_ne ro_neI (nomark _) ha hb
theorem ve_isN (ha : VE X ρ a x ρ1) {j : Nat} {p : Pos} : VE X ρ (.Compare a [.Is] [.Constant .none j p] pos) (.bl x.isNon) ρ1 := ve_cmp op_isN ro_isN (nomark _) ha ve_non
theorem ve_notN (ha : VE X ρ a x ρ1) {j : Nat} {p : Pos} : VE X ρ (.Compare a [.IsNot] [.Constant .none j p] pos) (.bl (!x.isNon)) ρ1 := ve_cmp op_notN ro_notN (nomark _) ha ve_non
theorem vt_lt {i j : Int} (ha : VE X ρ a (.int i) ρ1) (hb : VE X ρ1 b (.int j) ρ2) : VT X ρ (.Compare a [.Lt] [b] pos) (decide (i < j)) ρ2 := vt_cmp op_lt ro_B0 (nomark _) ha hb
theorem vt_le {i j : Int} (ha : VE X ρ a (.int i) ρ1) (hb : VE X ρ1 b (.int j) ρ2) : VT X ρ (.Compare a [.LtE] [b] pos) (decide (i ≤ j)) ρ2 := vt_cmp op_le ro_B0 (nomark _) ha hb
theorem vt_gt {i j : Int} (ha : VE X ρ a (.int i) ρ1) (hb : VE X ρ1 b (.int j) ρ2) : VT X ρ (.Compare a [.Gt] [b] pos) (decide (j < i)) ρ2 := vt_cmp op_gt ro_B0 (nomark _) ha hb
theorem vt_ge {i j : Int} (ha : VE X ρ a (.int i) ρ1) (hb : VE X ρ1 b (.int j) ρ2) : VT X ρ (.Compare a [.GtE] [b] pos) (decide (j ≤ i)) ρ2 := vt_cmp op_ge ro_B0 (nomark _) ha hb
theorem vt_eqI {i j : Int} (ha : VE X ρ a (.int i) ρ1) (hb : VE X ρ1 b (.int j) ρ2) : VT X ρ (.Compare a [.Eq] [b] pos) (decide (i = j)) ρ2 := vt_cmp op_eq ro_eqI (nomark _) ha hb
theorem vt_neI {i j : Int} (ha : VE X ρ a (.int i) ρ1) (hb : VE X ρ1 b (.int j) ρ2) : VT X ρ (.Compare a [.NotEq] [b] pos) (!decide (i = j)) ρ2 := vt_cmp op_ne ro_neI (nomark _) ha hb
theorem vt_eqS {i j : Str} (ha : VE X ρ a (.str i) ρ1) (hb : VE X ρ1 b (.str j) ρ2) : VT X ρ (.Compare a [.Eq] [b] pos) (decide (i = j)) ρ2 := vt_cmp op_eq ro_eqS (nomark _) ha hb
theorem vt_neS {i j : Str} (ha : VE X ρ a (.str i) ρ1) (hb : VE X ρ1 b (.str j) ρ2) : VT X ρ (.Compare a [.NotEq] [b] pos) (!decide (i = j)) ρ2 := vt_cmp op_ne ro_neS (nomark _) ha hb
theorem vt_isN (ha : VE X ρ a x ρ1) {j : Nat} {p : Pos} : VT X ρ (.Compare a [.Is] [.Constant .none j p] pos) x.isNon ρ1 := vt_cmp op_isN ro_isN (nomark _) ha ve_non
theorem vt_notN (ha : VE X ρ a x ρ1) {j : Nat} {p : Pos} : VT X ρ (.Compare a [.IsNot] [.Constant .none j p] pos) (!x.isNon) ρ1 := vt_cmp op_notN ro_notN (nomark _) ha ve_non
/-- a < b < c and its like, on ints; the third is not asked where the first answer is no -/
theorem RE.chain {K : PySem.W.Frag} {ta tb tc : TE} {f f' : Int → Int → Bool} {i j l : Int} (ha : RE K ta ρ (.int i) ρ1) (hb : RE K tb ρ1 (.int j) ρ2) (hc : RE K tc ρ2 (.int l) ρ2) :
    RE K (tChain (rI0 fun i j => V.bl (f i j)) (rI0 fun i j => V.bl (f' i j)) ta tb tc) ρ (.bl (f i j && f' j l)) ρ2 := fun σ H g Q k rp q =>
  ha σ H g _ k rp fun v H1 g1 k1 e1 r1 rv => hb σ H1 g1 _ k1 r1 fun u H2 g2 k2 e2 r2 ru => by
    cases rv; cases ru
    refine ⟨i, j, rfl, rfl, f i j, rfl, ?_⟩
    cases h : f i j with
    | true =>
      refine hc σ H2 g2 _ k2 r2 fun w H3 g3 k3 e3 r3 rw' => ?_
      cases rw'
      refine ⟨j, l, rfl, rfl, ?_⟩
      rw [h, Bool.true_and] at q
      exact q _ H3 g3 k3 ((e1.trans e2).trans e3) r3 (Rp.bl _)
    | false =>
      rw [h, Bool.false_and] at q
      exact q _ H2 g2 k2 (e1.trans e2) r2 (Rp.bl _)
end
end DL
namespace DL
open PySem PySem.Spec PyProof.Rows L2
section
variable {X : Cx} {ρ ρ1 ρ2 ρ3 : List Sl} {a b c e : Expr} {es : List Expr} {x y z d : Dt} {ds : List Dt} {pos : Pos} {k : Nat}
/-! ### nothing is asked of what is not reached -/
theorem pe_no : PE X e (fun _ _ _ => False) := ⟨fun _ _ _ _ _ _ h => h.elim⟩
theorem pt_no : PT X e (fun _ _ _ => False) := ⟨fun _ _ _ _ _ _ h => h.elim⟩
theorem pw_no : PW X e (fun _ _ _ => False) := ⟨fun _ _ _ _ _ _ _ h => h.elim⟩
theorem ps_no {st : Stmt} : PS X st (fun _ _ _ => False) := ⟨fun _ _ _ _ _ _ h => h.elim⟩
theorem pss_no {st : List Stmt} : PSs X st (fun _ _ _ => False) := ⟨fun _ _ _ _ _ _ h => h.elim⟩

/-! ### chains -/
theorem ve_chain {o o' : CmpOp} {f f' : Int → Int → Bool} {i j l : Int} (ho : OpR X (compareOp o) (rI0 fun i j => V.bl (f i j))) (ho' : OpR X (compareOp o') (rI0 fun i j => V.bl (f' i j)))
    (ha : VE X ρ a (.int i) ρ1) (hb : VE X ρ1 b (.int j) ρ2) (hc : VE X ρ2 c (.int l) ρ2) (hm : lastMarks [o, o'] [b, c] = false := by with_unfolding_all rfl) : VE X ρ (.Compare a [o, o'] [b, c] pos) (.bl (f i j && f' j l)) ρ2 := by
  obtain ⟨ta, pa, qa⟩ := ha
  obtain ⟨tb, pb, qb⟩ := hb
  obtain ⟨tc, pc, qc⟩ := hc
  exact ⟨_, pe_chain ho ho' pa pb pc hm, qa.chain qb qc⟩
theorem vt_chain {o o' : CmpOp} {f f' : Int → Int → Bool} {i j l : Int} (ho : OpR X (compareOp o) (rI0 fun i j => V.bl (f i j))) (ho' : OpR X (compareOp o') (rI0 fun i j => V.bl (f' i j)))
    (ha : VE X ρ a (.int i) ρ1) (hb : VE X ρ1 b (.int j) ρ2) (hc : VE X ρ2 c (.int l) ρ2) (hm : lastMarks [o, o'] [b, c] = false := by with_unfolding_all rfl) : VT X ρ (.Compare a [o, o'] [b, c] pos) (f i j && f' j l) ρ2 := by
  obtain ⟨ta, pa, qa⟩ := ha
  obtain ⟨tb, pb, qb⟩ := hb
  obtain ⟨tc, pc, qc⟩ := hc
  refine ⟨_, pt_chain ho ho' pa pb pc hm, fun σ H g Q k rp q => qa.chain qb qc σ H g _ k rp fun v H1 g1 k1 e1 r1 rv => ?_⟩
  cases rv
  exact ⟨_, rfl, q H1 g1 k1 e1 r1⟩

/-! ### and, or, not, if -/
theorem VW.t {w : Bool} (h : VW X ρ e w ρ1) : VT X ρ e w ρ1 := let ⟨t, p, q⟩ := h; ⟨t, p.pt, q⟩
theorem vw_and1 {w : Bool} (h : VT X ρ a w ρ1) : VW X ρ (.BoolOp .And [a] pos) w ρ1 := let ⟨t, p, q⟩ := h; ⟨t, pw_and1 p, q⟩
theorem vw_or1 {w : Bool} (h : VT X ρ a w ρ1) : VW X ρ (.BoolOp .Or [a] pos) w ρ1 := let ⟨t, p, q⟩ := h; ⟨t, pw_or1 p, q⟩
theorem vw_and {v w : Bool} (h : VT X ρ a v ρ1) (h2 : v = true → VW X ρ1 (.BoolOp .And (b :: es) pos) w ρ1) : VW X ρ (.BoolOp .And (a :: b :: es) pos) (v && w) ρ1 := by
  obtain ⟨t, p, q⟩ := h
  cases v with
  | true =>
    obtain ⟨u, p2, q2⟩ := h2 rfl
    refine ⟨_, pw_and p p2, fun σ H g Q k rp z => q σ H g _ k rp fun H1 g1 k1 e1 r1 => ?_⟩
    exact iteT (q2 σ H1 g1 Q k1 r1 fun H2 g2 k2 e2 r2 => by rw [Bool.true_and] at z; exact z H2 g2 k2 (e1.trans e2) r2)
  | false =>
    refine ⟨_, pw_and p pw_no, fun σ H g Q k rp z => q σ H g _ k rp fun H1 g1 k1 e1 r1 => ?_⟩
    exact iteF (by rw [Bool.false_and] at z; exact z H1 g1 k1 e1 r1)
theorem vw_or {v w : Bool} (h : VT X ρ a v ρ1) (h2 : v = false → VW X ρ1 (.BoolOp .Or (b :: es) pos) w ρ1) : VW X ρ (.BoolOp .Or (a :: b :: es) pos) (v || w) ρ1 := by
  obtain ⟨t, p, q⟩ := h
  cases v with
  | false =>
    obtain ⟨u, p2, q2⟩ := h2 rfl
    refine ⟨_, pw_or p p2, fun σ H g Q k rp z => q σ H g _ k rp fun H1 g1 k1 e1 r1 => ?_⟩
    exact iteF (q2 σ H1 g1 Q k1 r1 fun H2 g2 k2 e2 r2 => by rw [Bool.false_or] at z; exact z H2 g2 k2 (e1.trans e2) r2)
  | true =>
    refine ⟨_, pw_or p pw_no, fun σ H g Q k rp z => q σ H g _ k rp fun H1 g1 k1 e1 r1 => ?_⟩
    exact iteT (by rw [Bool.true_or] at z; exact z H1 g1 k1 e1 r1)
theorem vw_or0 {v w : Bool} (h : VT X ρ a v ρ1) (hv : v = false) (h2 : VW X ρ1 (.BoolOp .Or (b :: es) pos) w ρ2) : VW X ρ (.BoolOp .Or (a :: b :: es) pos) w ρ2 := by
  subst hv
  obtain ⟨t, p, q⟩ := h
  obtain ⟨u, p2, q2⟩ := h2
  exact ⟨_, pw_or p p2, fun σ H g Q k rp z => q σ H g _ k rp fun H1 g1 k1 e1 r1 => iteF (q2 σ H1 g1 Q k1 r1 fun H2 g2 k2 e2 r2 => z H2 g2 k2 (e1.trans e2) r2)⟩
theorem vw_and0 {v w : Bool} (h : VT X ρ a v ρ1) (hv : v = true) (h2 : VW X ρ1 (.BoolOp .And (b :: es) pos) w ρ2) : VW X ρ (.BoolOp .And (a :: b :: es) pos) w ρ2 := by
  subst hv
  obtain ⟨t, p, q⟩ := h
  obtain ⟨u, p2, q2⟩ := h2
  exact ⟨_, pw_and p p2, fun σ H g Q k rp z => q σ H g _ k rp fun H1 g1 k1 e1 r1 => iteT (q2 σ H1 g1 Q k1 r1 fun H2 g2 k2 e2 r2 => z H2 g2 k2 (e1.trans e2) r2)⟩
/-- the first one decides -/
theorem vw_orT {v : Bool} (h : VT X ρ a v ρ1) (hv : v = true) : VW X ρ (.BoolOp .Or (a :: b :: es) pos) true ρ1 := by
  subst hv
  obtain ⟨t, p, q⟩ := h
  exact ⟨_, pw_or p pw_no, fun σ H g Q k rp z => q σ H g _ k rp fun H1 g1 k1 e1 r1 => iteT (z H1 g1 k1 e1 r1)⟩
theorem vw_andF {v : Bool} (h : VT X ρ a v ρ1) (hv : v = false) : VW X ρ (.BoolOp .And (a :: b :: es) pos) false ρ1 := by
  subst hv
  obtain ⟨t, p, q⟩ := h
  exact ⟨_, pw_and p pw_no, fun σ H g Q k rp z => q σ H g _ k rp fun H1 g1 k1 e1 r1 => iteF (z H1 g1 k1 e1 r1)⟩
theorem vt_not {w : Bool} (h : VT X ρ a w ρ1) : VT X ρ (.UnaryOp .Not a pos) (!w) ρ1 := let ⟨t, p, q⟩ := h; ⟨_, pt_not p, fun σ H g Q k rp z => q σ H g _ k rp fun H1 g1 k1 e1 r1 => z H1 g1 k1 e1 r1⟩
theorem vt_val {w : Bool} (h : VE X ρ e (.bl w) ρ1) (he : ∀ whole, isTrue e X.env whole = (do let v ← whole; standAt e.pos; holding [v] (truthy v)) := by intro _; rfl) : VT X ρ e w ρ1 :=
  let ⟨t, p, q⟩ := h
  ⟨_, pt_val p he, fun σ H g Q k rp z => q σ H g _ k rp fun v H1 g1 k1 e1 r1 rv => by cases rv; exact ⟨w, rfl, z H1 g1 k1 e1 r1⟩⟩
theorem VT.to {v w : Bool} (h : VT X ρ e v ρ1) (e1 : v = w) : VT X ρ e w ρ1 := e1 ▸ h
theorem ve_not {w : Bool} (h : VE X ρ a (.bl w) ρ1) : VE X ρ (.UnaryOp .Not a pos) (.bl (!w)) ρ1 := let ⟨t, p, q⟩ := h; ⟨_, pe_not p, fun σ H g Q k rp z => q σ H g _ k rp fun v H1 g1 k1 e1 r1 rv => by cases rv; exact ⟨w, rfl, z _ H1 g1 k1 e1 r1 (Rp.bl _)⟩⟩
theorem ve_one {o : BoolOp} (h : VE X ρ a x ρ1) : VE X ρ (.BoolOp o [a] pos) x ρ1 := let ⟨t, p, q⟩ := h; ⟨_, pe_one p, q⟩
theorem ve_and {v : Bool} {w : Bool} (h : VE X ρ a (.bl v) ρ1) (h2 : v = true → VE X ρ1 (.BoolOp .And (b :: es) pos) (.bl w) ρ1) : VE X ρ (.BoolOp .And (a :: b :: es) pos) (.bl (v && w)) ρ1 := by
  obtain ⟨t, p, q⟩ := h
  cases v with
  | true =>
    obtain ⟨u, p2, q2⟩ := h2 rfl
    refine ⟨_, pe_and p p2, fun σ H g Q k rp z => q σ H g _ k rp fun vv H1 g1 k1 e1 r1 rv => ?_⟩
    cases rv
    exact ⟨true, rfl, iteT (q2 σ H1 g1 Q k1 r1 fun v2 H2 g2 k2 e2 r2 rv2 => by rw [Bool.true_and] at z; exact z v2 H2 g2 k2 (e1.trans e2) r2 rv2)⟩
  | false =>
    refine ⟨_, pe_and p pe_no, fun σ H g Q k rp z => q σ H g _ k rp fun vv H1 g1 k1 e1 r1 rv => ?_⟩
    cases rv
    exact ⟨false, rfl, iteF (by rw [Bool.false_and] at z; exact z _ H1 g1 k1 e1 r1 (Rp.bl _))⟩
theorem ve_or {v : Bool} {w : Bool} (h : VE X ρ a (.bl v) ρ1) (h2 : v = false → VE X ρ1 (.BoolOp .Or (b :: es) pos) (.bl w) ρ1) : VE X ρ (.BoolOp .Or (a :: b :: es) pos) (.bl (v || w)) ρ1 := by
  obtain ⟨t, p, q⟩ := h
  cases v with
  | false =>
    obtain ⟨u, p2, q2⟩ := h2 rfl
    refine ⟨_, pe_or p p2, fun σ H g Q k rp z => q σ H g _ k rp fun vv H1 g1 k1 e1 r1 rv => ?_⟩
    cases rv
    exact ⟨false, rfl, iteF (q2 σ H1 g1 Q k1 r1 fun v2 H2 g2 k2 e2 r2 rv2 => by rw [Bool.false_or] at z; exact z v2 H2 g2 k2 (e1.trans e2) r2 rv2)⟩
  | true =>
    refine ⟨_, pe_or p pe_no, fun σ H g Q k rp z => q σ H g _ k rp fun vv H1 g1 k1 e1 r1 rv => ?_⟩
    cases rv
    exact ⟨true, rfl, iteT (by rw [Bool.true_or] at z; exact z _ H1 g1 k1 e1 r1 (Rp.bl _))⟩
theorem ve_if {w : Bool} (h : VT X ρ c w ρ1) (h1 : w = true → VE X ρ1 a d ρ2) (h2 : w = false → VE X ρ1 b d ρ2) : VE X ρ (.IfExp c a b pos) d ρ2 := by
  obtain ⟨t, p, q⟩ := h
  cases w with
  | true =>
    obtain ⟨u, p2, q2⟩ := h1 rfl
    exact ⟨_, pe_ifExp p p2 pe_no, fun σ H g Q k rp z => q σ H g _ k rp fun H1 g1 k1 e1 r1 => iteT (q2 σ H1 g1 Q k1 r1 fun v2 H2 g2 k2 e2 r2 rv2 => z v2 H2 g2 k2 (e1.trans e2) r2 rv2)⟩
  | false =>
    obtain ⟨u, p2, q2⟩ := h2 rfl
    exact ⟨_, pe_ifExp p pe_no p2, fun σ H g Q k rp z => q σ H g _ k rp fun H1 g1 k1 e1 r1 => iteF (q2 σ H1 g1 Q k1 r1 fun v2 H2 g2 k2 e2 r2 rv2 => z v2 H2 g2 k2 (e1.trans e2) r2 rv2)⟩

/-! ### arguments, displays -/
theorem va_nil : VA X ρ [] [] ρ := ⟨_, pa_nil, fun σ H g Q k rp q => q _ H g k (Ext.refl _ _ _) rp RpAll.nil⟩
theorem va_cons (h : VE X ρ e d ρ1) (hr : VA X ρ1 es ds ρ2) (hs : starEach (e :: es) X.env = (false, eval e X.env) :: starEach es X.env := by rfl) : VA X ρ (e :: es) (d :: ds) ρ2 := by
  obtain ⟨t, p, q⟩ := h
  obtain ⟨u, p2, q2⟩ := hr
  exact ⟨_, pa_cons p p2 hs, fun σ H g Q k rp z => q σ H g _ k rp fun v H1 g1 k1 e1 r1 rv => q2 σ H1 g1 _ k1 r1 fun vs H2 g2 k2 e2 r2 rv2 => z (v :: vs) H2 g2 k2 (e1.trans e2) r2 (RpAll.cons (rv.mono e2.st) rv2)⟩
theorem le_line {n : Nat} (h : n ≤ 1000000) : n ≤ sizeLine := Nat.le_trans h (by decide)
theorem ve_tup (h : VA X ρ es ds ρ1) (hz : Nat.ble ds.length 1000000 = true := by rfl) : VE X ρ (.Tuple es k pos) (.tup ds) ρ1 := by
  obtain ⟨t, p, q⟩ := h
  refine ⟨_, pe_tup p, fun σ H g Q kk rp z => q σ H g _ kk rp fun vs H1 g1 k1 e1 r1 rv => ⟨by rw [rv.len]; exact le_line (Nat.le_of_ble_eq_true hz), fun p hp => ?_⟩⟩
  obtain ⟨hs, hm⟩ := k1.free hp
  have gr := stand_gro (g := g1) (p := p) (o := .tup vs) hs
  exact z _ _ (g1.stand p (.tup vs)) (stand_ok (k1.upd hp) upd_same hs hm) (e1.trans (gr.ext _ _)) (r1.gro gr) (Rp.tup (SqT.of upd_same) (rv.mono gr.st))
theorem vl_lst (h : VA X ρ es ds ρ1) (hz : Nat.ble ds.length 1000000 = true := by rfl) : VL X ρ (.List es pos) ds ρ1 := by
  obtain ⟨t, p, q⟩ := h
  refine ⟨_, pe_lst p, fun σ H g Q kk rp z => q σ H g _ kk rp fun vs H1 g1 k1 e1 r1 rv => ⟨by rw [rv.len]; exact le_line (Nat.le_of_ble_eq_true hz), fun p hp => ?_⟩⟩
  obtain ⟨hs, hm⟩ := k1.free hp
  exact z _ vs _ g1 (k1.upd hp) e1 r1 upd_same hs hm rv
theorem VL.v (h : VL X ρ e ds ρ1) : VE X ρ e (.lst ds) ρ1 := by
  obtain ⟨t, p, q⟩ := h
  refine ⟨t, p, fun σ H g Q kk rp z => q σ H g Q kk rp fun p xs H1 g1 k1 e1 r1 hp hs hm rv => ?_⟩
  have gr := stand_gro (g := g1) (p := p) (o := .lst xs) hs
  exact z _ H1 (g1.stand p (.lst xs)) (stand_ok k1 hp hs hm) (e1.trans (gr.ext _ _)) (r1.gro gr) (Rp.lst (SqX.of upd_same) (rv.mono gr.st))
theorem VL.r (h : VL X ρ e ds ρ1) : VR X ρ e ds ρ1 := by
  obtain ⟨t, p, q⟩ := h
  exact ⟨t, p, fun σ H g Q kk rp z => q σ H g Q kk rp fun p xs H1 g1 k1 e1 r1 hp hs hm rv => z p xs H1 g1 k1 e1 r1 (SqX.of hp) rv⟩
theorem VE.r (h : VE X ρ e (.lst ds) ρ1) : VR X ρ e ds ρ1 := by
  obtain ⟨t, p, q⟩ := h
  refine ⟨t, p, fun σ H g Q kk rp z => q σ H g Q kk rp fun v H1 g1 k1 e1 r1 rv => ?_⟩
  cases rv with
  | lst hs ha => exact z _ _ H1 g1 k1 e1 r1 (sqx_mono k1.1 hs) ha
theorem VL.to {es' : List Dt} (h : VL X ρ e ds ρ1) (e1 : ds = es') : VL X ρ e es' ρ1 := e1 ▸ h
theorem VR.to {es' : List Dt} (h : VR X ρ e ds ρ1) (e1 : ds = es') : VR X ρ e es' ρ1 := e1 ▸ h
/-- a list that may be changed, read at once -/
def Sl.cont : Sl → Option (List Dt)
  | .o ds => some ds
  | .i _ ds => some ds
  | _ => none
theorem Rep.cont {K : PySem.W.Frag} {g : G} {σ : L2.St} (r : Rep K g σ ρ) {i : Nat} (h : (ρ[i]?.bind Sl.cont) = some ds) : ∃ p s, ρ[i]? = some s ∧ s.own = true ∧ σ[i]? = some (some (V.ref p)) ∧ g.M p = some ds := by
  cases e : ρ[i]? with
  | none => rw [e] at h; cases h
  | some s =>
    rw [e] at h
    cases s with
    | no => cases h
    | d _ => cases h
    | t _ _ => cases h
    | o es =>
      have h' : some es = some ds := h
      cases h'
      obtain ⟨p, q1, q2⟩ := r.getO e
      exact ⟨p, _, rfl, rfl, q1, q2⟩
    | i p es =>
      have h' : some es = some ds := h
      cases h'
      obtain ⟨q1, q2⟩ := r.getI e
      exact ⟨p, _, rfl, rfl, q1, q2⟩
theorem vr_own (i : Nat) {nm : Str} (h : (ρ[i]?.bind Sl.cont) = some ds := by rfl) (hN : X.N[i]? = some nm := by rfl) (hv : Vis X.env.scope nm := by first | exact Or.inl rfl | exact Or.inr (Or.inl rfl) | exact Or.inr (Or.inr rfl))
    (hd : (nm == ("__debug__" : Str)) = false := by decide) (hcd : (nm == ("__classdict__" : Str)) = false := by decide) : VR X ρ (.Name nm pos) ds ρ :=
  ⟨_, pe_var hN hv hd hcd, fun σ H g Q k r q => by
    obtain ⟨p, s, e1, e2, e3, e4⟩ := r.cont h
    obtain ⟨_, xs, e5, e6⟩ := k.2 p _ e4
    exact ⟨_, e3, q p xs H g k (Ext.refl _ _ _) r (SqX.of e5) e6⟩⟩
/-- a list of one's own, handed on: it is not changed any more -/
theorem ve_give (i : Nat) {nm : Str} (h : ρ[i]? = some (.o ds) := by rfl) (hN : X.N[i]? = some nm := by rfl) (hv : Vis X.env.scope nm := by first | exact Or.inl rfl | exact Or.inr (Or.inl rfl) | exact Or.inr (Or.inr rfl))
    (hd : (nm == ("__debug__" : Str)) = false := by decide) (hcd : (nm == ("__classdict__" : Str)) = false := by decide) : VE X ρ (.Name nm pos) (.lst ds) (ρ.set i (.d (.lst ds))) :=
  ⟨_, pe_var hN hv hd hcd, fun σ H g Q k r q => by
    obtain ⟨p, e3, e4⟩ := r.getO h
    obtain ⟨hs, xs, e5, e6⟩ := k.2 p _ e4
    refine ⟨_, e3, ?_⟩
    have il : i < ρ.length := (List.getElem?_eq_some_iff.mp h).1
    let g' : G := ⟨upd g.S p (.lst xs), fun q => if q = p then none else g.M q⟩
    have st : Same g.S g'.S := fun b u e => by show upd g.S p (.lst xs) b = some u; rw [upd_ne (ne_of_none e hs)]; exact e
    have rv : Rp X.K g'.S (V.ref p) (.lst ds) := Rp.lst (SqX.of upd_same) (e6.mono st)
    have mo : ∀ q es, g.M q = some es → q ≠ p → g'.M q = some es := fun q es e n => by show (if q = p then none else g.M q) = some es; rw [if_neg n]; exact e
    have own' : ∀ j s b, (ρ.set i (.d (.lst ds)))[j]? = some s → Adr σ j s b → j ≠ i ∧ ρ[j]? = some s := fun j s b e1 e2 => by
      by_cases hj : j = i
      · subst hj
        rw [List.getElem?_set_self il] at e1
        cases e1
        cases e2
      · rw [List.getElem?_set_ne (Ne.symm hj)] at e1
        exact ⟨hj, e1⟩
    refine q _ H g' ⟨fun b u e => ?_, fun q es e => ?_⟩ ⟨st, fun q es e n => ?_, fun q ⟨j, s, e1, e2⟩ => ?_⟩ ⟨by rw [List.length_set]; exact r.len, fun j s e => ?_, fun j l s t q' n e1 e2 w1 w2 => ?_⟩ rv
    · by_cases hb : b = p
      · subst hb
        have e' : upd g.S b (.lst xs) b = some u := e
        rw [upd_same] at e'
        rw [← e', e5]
      · have e' : upd g.S p (.lst xs) b = some u := e
        rw [upd_ne hb] at e'
        exact k.1 b u e'
    · have e' : (if q = p then none else g.M q) = some es := e
      by_cases hq : q = p
      · rw [if_pos hq] at e'; cases e'
      · rw [if_neg hq] at e'
        obtain ⟨h1, ys, h2, h3⟩ := k.2 q es e'
        exact ⟨by show upd g.S p (.lst xs) q = none; rw [upd_ne hq]; exact h1, ys, h2, h3.mono st⟩
    · exact mo q es e fun z => n ⟨i, _, h, by rw [z]; exact e3⟩
    · exact ⟨j, s, (own' j s _ e1 e2).2, e2⟩
    · by_cases hj : j = i
      · subst hj
        rw [List.getElem?_set_self il] at e
        cases e
        exact ⟨_, e3, _, rfl, rv⟩
      · rw [List.getElem?_set_ne (Ne.symm hj)] at e
        obtain ⟨v, w1, w2⟩ := r.sl j s e
        refine ⟨v, w1, ?_⟩
        cases s with
        | no => trivial
        | d y => obtain ⟨u, z1, z2⟩ := w2; exact ⟨u, z1, z2.mono st⟩
        | o es =>
          obtain ⟨p2, z1, z2⟩ := w2
          refine ⟨p2, z1, mo _ _ z2 fun z => ?_⟩
          subst z
          exact r.ne i j _ _ p2 (Ne.symm hj) h e e3 (show σ[j]? = _ by rw [w1, z1])
        | i p2 es =>
          obtain ⟨z1, z2⟩ := w2
          refine ⟨z1, mo _ _ z2 fun z => ?_⟩
          subst z
          exact r.ne i j _ _ p2 (Ne.symm hj) h e e3 (show σ[j]? = _ by rw [w1, z1])
        | t cs y =>
          obtain ⟨⟨u, z1, z2⟩, nd, z3⟩ := w2
          exact ⟨⟨u, z1, z2.mono st⟩, nd, fun b es hb => mo _ _ (z3 b es hb) fun z => r.ne i j _ _ p (Ne.symm hj) h e e3 (List.mem_map.mpr ⟨(b, es), hb, z⟩)⟩
    · obtain ⟨_, f1⟩ := own' j s _ e1 w1
      obtain ⟨_, f2⟩ := own' l t _ e2 w2
      exact r.ne j l s t q' n f1 f2 w1 w2⟩

/-! ### items -/
theorem at_rp {K : PySem.W.Frag} {S : Hp} {xs : List V} {i : Int} (r : RpAll K S xs ds) (h : atI ds i = some d) : ∃ v, atI xs i = some v ∧ Rp K S v d := by
  unfold atI at h ⊢
  rw [r.len]
  cases e : ixN ds.length i with
  | none => rw [e] at h; cases h
  | some j =>
    rw [e] at h
    exact r.at h
theorem ve_ix {i : Int} (ha : VE X ρ a (.lst ds) ρ1) (hb : VE X ρ1 b (.int i) ρ2) (h : atI ds i = some d) (hs : PlainIx b := by intro _ _; rfl) : VE X ρ (.Subscript a b pos) d ρ2 := by
  obtain ⟨ta, pa, qa⟩ := ha
  obtain ⟨tb, pb, qb⟩ := hb
  refine ⟨_, pe_ix ix_list pa pb hs, fun σ H g Q k rp q => qa σ H g _ k rp fun v H1 g1 k1 e1 r1 rv => qb σ H1 g1 _ k1 r1 fun u H2 g2 k2 e2 r2 ru => ?_⟩
  cases rv with
  | lst h1 h2 =>
    cases ru
    obtain ⟨w, w1, w2⟩ := at_rp h2 h
    exact ⟨_, _, i, w, rfl, rfl, (sqx_mono k2.1 (sqx_mono e2.st h1)).l, w1, q w H2 g2 k2 (e1.trans e2) r2 (w2.mono e2.st)⟩
theorem ve_ixT {i : Int} (ha : VE X ρ a (.tup ds) ρ1) (hb : VE X ρ1 b (.int i) ρ2) (h : atI ds i = some d) (hs : PlainIx b := by intro _ _; rfl) : VE X ρ (.Subscript a b pos) d ρ2 := by
  obtain ⟨ta, pa, qa⟩ := ha
  obtain ⟨tb, pb, qb⟩ := hb
  refine ⟨_, pe_ix ix_tup pa pb hs, fun σ H g Q k rp q => qa σ H g _ k rp fun v H1 g1 k1 e1 r1 rv => qb σ H1 g1 _ k1 r1 fun u H2 g2 k2 e2 r2 ru => ?_⟩
  cases rv with
  | tup h1 h2 =>
    cases ru
    obtain ⟨w, w1, w2⟩ := at_rp h2 h
    exact ⟨_, _, i, w, rfl, rfl, sqt_mono k2.1 (sqt_mono e2.st h1), w1, q w H2 g2 k2 (e1.trans e2) r2 (w2.mono e2.st)⟩
/-- an item of a list that may be changed -/
theorem ve_ixO {i : Int} (j : Nat) {nm : Str} {pos' : Pos} (h0 : (ρ[j]?.bind Sl.cont) = some ds) (hb : VE X ρ b (.int i) ρ) (h : atI ds i = some d) (hs : PlainIx b := by intro _ _; rfl)
    (hN : X.N[j]? = some nm := by rfl) (hv : Vis X.env.scope nm := by first | exact Or.inl rfl | exact Or.inr (Or.inl rfl) | exact Or.inr (Or.inr rfl))
    (hd : (nm == ("__debug__" : Str)) = false := by decide) (hcd : (nm == ("__classdict__" : Str)) = false := by decide) : VE X ρ (.Subscript (.Name nm pos') b pos) d ρ := by
  obtain ⟨tb, pb, qb⟩ := hb
  refine ⟨_, pe_ix ix_list (pe_var hN hv hd hcd) pb hs, fun σ H g Q k rp q => ?_⟩
  obtain ⟨p, s, e1, e2, e3, e4⟩ := rp.cont h0
  refine ⟨_, e3, qb σ H g _ k rp fun u H2 g2 k2 ex r2 ru => ?_⟩
  cases ru
  obtain ⟨p', s', e1', e2', e3', e4'⟩ := r2.cont h0
  rw [e3] at e3'
  cases e3'
  obtain ⟨_, xs, e5, e6⟩ := k2.2 p _ e4'
  obtain ⟨w, w1, w2⟩ := at_rp e6 h
  exact ⟨_, _, i, w, rfl, rfl, SqL.of e5, w1, q w H2 g2 k2 ex r2 w2⟩
end
end DL
namespace DL
open PySem PySem.Spec PyProof.Rows L2

/-! ### defs that run where nothing is being shown (no guard on the way): repr asks that -/
structure FnG (P : Program) (w : World) (K : PySem.W.Frag) (mg : Str → Option Value) (base : Heap) (k : Nat) (f : Addr) (fd : FuncData) (ps : List Str) (sp : Sp) : Prop where
  len : ∀ vs H Q E, sp vs H Q E → vs.length = ps.length
  go : ∀ (A : Around) (outer : List Env) (s : Shared) (H : Hp) (args : Args) (us : List Value) (vs : List V) (Q : VK) (E : XK), A.guards = some [] → Room k A → Env0 P w K mg base A outer s H →
    BindsTo s fd args (ps.zip us) → Vals vs us → sp vs H Q E → codeAny (model P w) A (.call (.ref f) args) (CR (L2.CX P w) outer P w H s Q E) s
theorem FnG.mono {P : Program} {w : World} {K : PySem.W.Frag} {mg : Str → Option Value} {base : Heap} {j k : Nat} {f : Addr} {fd : FuncData} {ps : List Str} {sp : Sp} (F : FnG P w K mg base j f fd ps sp) (h : j ≤ k) :
    FnG P w K mg base k f fd ps sp :=
  ⟨F.len, fun A outer s H args us vs Q E hg hr => F.go A outer s H args us vs Q E hg (hr.mono h)⟩
section
variable {X : Cx} {k : Nat} {f : Addr} {fd : FuncData} {ps ks : List Str} {sp : Sp} {E : XK} {x : Str} {p pos : Pos} {e : Expr} {es : List Expr} {t tk : TA} {kws : List Keyword}
theorem run_g {pins : List (Addr × Obj)} {σ : L2.St} {H : Hp} {s : Shared} {Q : VK} {us : List Value} {ws : List Value} {zs : List V} {kw : List (Str × Value)} (F : FnG X.prog X.w X.K X.mg X.base k f fd ps sp) (hgd : X.A.guards = some []) (hr : Room k X.A)
    (hb : (ws.length = ps.length → BindsTo s fd ⟨us, kw⟩ (ps.zip ws))) (hx : Passes (L2.CX X.prog X.w) X E) (I : Inv X pins σ H s) (r : Vals zs ws) (h : sp zs H Q E) :
    wpAny (model X.prog X.w) X.A (call (.ref f) us kw) (EP X pins σ Q) X.xe s := by
  have hl : ws.length = ps.length := by
    rw [← r.length]
    exact F.len _ _ _ _ h
  refine wpAny_call (codeAny_mono (F.go X.A X.stack s H ⟨us, kw⟩ ws zs Q E hgd hr I.env0 (hb hl) r h) fun res s' hq => ?_)
  cases res with
  | error z =>
    have hq' : L2.CX X.prog X.w X.stack H s E z s' := hq
    exact hx pins σ H s z s' I hq'
  | ok fl =>
    cases fl with
    | ret u =>
      have hq' : CE X.stack X.prog X.w H s Q u s' := hq
      exact I.after hq'
    | next => cases hq
    | brk => cases hq
    | cont => cases hq
theorem pe_callG (F : FnG X.prog X.w X.K X.mg X.base k f fd ps sp) (hgd : X.A.guards = some []) (hr : Room k X.A) (hg : Gl X x) (hm : X.mg x = some (.ref f)) (hk : PySem.W.keepIn X.K (.ref f) = true) (hb : Binds X.K fd ps []) (hx : Passes (L2.CX X.prog X.w) X E)
    (ha : PA X (e :: es) t) (hdb : (x == ("__debug__" : Str)) = false := by decide) (he : starEach (e :: es) X.env = (false, eval e X.env) :: starEach es X.env := by rfl) (hpl : (backTo pos (starEach es X.env)).any (·.1) = false := by rfl) :
    PE X (.Call (.Name x p) (e :: es) [] pos) (fun σ H Q => t σ H fun vs H1 => sp vs H1 Q E) :=
  ⟨fun pins s σ H Q I h => wpAny_Call_Name_kw (ld_glob I hg hm (PySem.W.callWith_K (h₀ := X.base) I.ok.mod.kin hk (thn (ha.run pos pins s σ H _ I h) fun us s1 ⟨vs, H1, I1, r, q⟩ =>
    ⟨I1.kIn, run_g F hgd hr (fun hl => by
      have z := hb s1 us I1.kIn (by rw [List.append_nil]; exact hl)
      rw [List.append_nil] at z
      exact z) hx I1 r q⟩) he hpl) hdb)⟩
theorem pe_callG0 (F : FnG X.prog X.w X.K X.mg X.base k f fd ps sp) (hgd : X.A.guards = some []) (hr : Room k X.A) (hg : Gl X x) (hm : X.mg x = some (.ref f)) (hk : PySem.W.keepIn X.K (.ref f) = true) (hb : Binds X.K fd ps []) (hx : Passes (L2.CX X.prog X.w) X E)
    (hdb : (x == ("__debug__" : Str)) = false := by decide) : PE X (.Call (.Name x p) [] [] pos) (fun σ H Q => sp [] H Q E) :=
  ⟨fun pins s σ H Q I h => wpAny_Call_Name_kw (ld_glob I hg hm (PySem.W.callWith_K0 I.kIn hk (run_g (us := []) (ws := []) F hgd hr (fun hl => by
    have z := hb s [] I.kIn hl
    exact z) hx I .nil h)) hdb)⟩
/-- all by keywords: gV puts their values in the parameters' order -/
theorem pe_callGK {gV : {α : Type} → List α → List α} (F : FnG X.prog X.w X.K X.mg X.base k f fd ps sp) (hgd : X.A.guards = some []) (hr : Room k X.A) (hg : Gl X x) (hm : X.mg x = some (.ref f)) (hk : PySem.W.keepIn X.K (.ref f) = true)
    (hb : ∀ (s : Shared) (ws : List Value), (gV ws).length = ps.length → BindsTo s fd ⟨[], ks.zip ws⟩ (ps.zip (gV ws))) (hv : ∀ {vs : List V} {us : List Value}, Vals vs us → Vals (gV vs) (gV us)) (hx : Passes (L2.CX X.prog X.w) X E)
    (hkw : PK X kws tk) (hall : (backToKw pos (keywordEach kws X.env)).all (·.1.isSome) = true := by rfl) (hks : (backToKw pos (keywordEach kws X.env)).filterMap (·.1) = ks := by rfl)
    (hdb : (x == ("__debug__" : Str)) = false := by decide) (hpl : ((backTo pos (starEach [] X.env)).any (·.1) || (backToKw pos (keywordEach kws X.env)).any (·.1.isNone)) = false := by rfl) :
    PE X (.Call (.Name x p) [] kws pos) (fun σ H Q => tk σ H fun zs H1 => sp (gV zs) H1 Q E) :=
  ⟨fun pins s σ H Q I h => wpAny_Call_Name_kw (ld_glob I hg hm (PySem.W.callWith_KW0 (h₀ := X.base) I.ok.mod.kin hk hall (thn (hkw.run pos pins s σ H _ I h) fun ws s1 ⟨zs, H1, I1, r, q⟩ =>
    ⟨I1.kIn, by
      rw [hks]
      exact run_g F hgd hr (fun hl => hb s1 ws hl) hx I1 (hv r) q⟩) hpl) hdb)⟩
end

/-! ### what a def promises over data -/
/-- what comes of a call: a value, or an error of an own class, with its one field where it has one -/
inductive Res where
  | ret (d : Dt)
  | exc (C : Addr)
  | excF (C : Addr) (f : Str) (d : Dt)
def ResOk (K : PySem.W.Frag) (g : G) (Q : VK) (E : XK) : Res → Prop
  | .ret d => ∀ v H' g', GOk K g' H' → Gro g g' → Rp K g'.S v d → Q v H'
  | .exc C => ∀ H' g', GOk K g' H' → Gro g g' → E (.ref C) none H'
  | .excF C f d => ∀ H' g' a v, GOk K g' H' → Gro g g' → g'.S a = some (.xd [(f, v)]) → Rp K g'.S v d → E (.ref C) (some a) H'
/-- no argument is changed -/
def spD (K : PySem.W.Frag) (n : Nat) (R : List Dt → Res → Prop) : Sp := fun vs H Q E => ∃ g ds r, ds.length = n ∧ GOk K g H ∧ RpAll K g.S vs ds ∧ R ds r ∧ ResOk K g Q E r
/-- the first argument is a list that is changed -/
def spI (K : PySem.W.Frag) (n : Nat) (R : List Dt → List Dt → Dt → List Dt → Prop) : Sp := fun vs H Q _ => ∃ g p ls us ds d ls', vs = V.ref p :: us ∧ ds.length = n ∧ GOk K g H ∧ g.M p = some ls ∧ RpAll K g.S us ds ∧ R ls ds d ls' ∧
  ∀ v H' g', GOk K g' H' → Same g.S g'.S → (∀ q es, q ≠ p → g.M q = some es → g'.M q = some es) → g'.M p = some ls' → Rp K g'.S v d → Q v H'
theorem spD_len {K : PySem.W.Frag} {n : Nat} {R : List Dt → Res → Prop} (vs : List V) (H : Hp) (Q : VK) (E : XK) (h : spD K n R vs H Q E) : vs.length = n := by
  obtain ⟨g, ds, r, h1, h2, h3, _⟩ := h
  rw [h3.len, h1]
theorem spI_len {K : PySem.W.Frag} {n : Nat} {R : List Dt → List Dt → Dt → List Dt → Prop} (vs : List V) (H : Hp) (Q : VK) (E : XK) (h : spI K n R vs H Q E) : vs.length = n + 1 := by
  obtain ⟨g, p, ls, us, ds, d, ls', rfl, h1, h2, h3, h4, _⟩ := h
  rw [List.length_cons, h4.len, h1]

section
variable {X : Cx} {ρ ρ1 ρ2 : List Sl} {k n : Nat} {f : Addr} {fd : FuncData} {ps ks : List Str} {x : Str} {p pos : Pos} {e : Expr} {es : List Expr} {kws : List Keyword} {ds : List Dt} {d : Dt} {R : List Dt → Res → Prop}
/-- a call that comes back -/
theorem ve_call (hgd : X.A.guards = some []) (hr : Room k X.A) (F : FnG X.prog X.w X.K X.mg X.base k f fd ps (spD X.K n R)) (hm : X.mg x = some (.ref f)) (hk : PySem.W.keepIn X.K (.ref f) = true) (hb : Binds X.K fd ps [])
    (ha : VA X ρ (e :: es) ds ρ1) (hR : R ds (.ret d)) (hn : ds.length = n := by rfl) (hg : Gl X x := by rfl) (hdb : (x == ("__debug__" : Str)) = false := by decide) (he : starEach (e :: es) X.env = (false, eval e X.env) :: starEach es X.env := by rfl) (hpl : (backTo pos (starEach es X.env)).any (·.1) = false := by rfl) :
    VE X ρ (.Call (.Name x p) (e :: es) [] pos) d ρ1 := by
  obtain ⟨t, pa, qa⟩ := ha
  refine ⟨_, pe_callG F hgd hr hg hm hk hb passL pa hdb he hpl, fun σ H g Q kk rp q => qa σ H g _ kk rp fun vs H1 g1 k1 e1 r1 rv => ?_⟩
  exact ⟨g1, ds, .ret d, hn, k1, rv, hR, fun v H2 g2 k2 gr rd => q v H2 g2 k2 (e1.trans (gr.ext _ _)) (r1.gro gr) rd⟩
/-- keywords' values -/
def VK' (X : Cx) (ρ : List Sl) (kws : List Keyword) (ds : List Dt) (ρ' : List Sl) : Prop := ∃ t, PK X kws t ∧ RA X.K t ρ ds ρ'
theorem vk_nil : VK' X ρ [] [] ρ := ⟨_, pk_nil, fun σ H g Q k rp q => q _ H g k (Ext.refl _ _ _) rp RpAll.nil⟩
theorem vk_cons {nm : Option Str} {kpos : Pos} (h : VE X ρ e d ρ1) (hr : VK' X ρ1 kws ds ρ2) : VK' X ρ (⟨nm, e, kpos⟩ :: kws) (d :: ds) ρ2 := by
  obtain ⟨t, p, q⟩ := h
  obtain ⟨u, p2, q2⟩ := hr
  exact ⟨_, pk_cons p p2, fun σ H g Q k rp z => q σ H g _ k rp fun v H1 g1 k1 e1 r1 rv => q2 σ H1 g1 _ k1 r1 fun vs H2 g2 k2 e2 r2 rv2 => z (v :: vs) H2 g2 k2 (e1.trans e2) r2 (RpAll.cons (rv.mono e2.st) rv2)⟩
theorem ve_callK {gV : {α : Type} → List α → List α} (hgd : X.A.guards = some []) (hr : Room k X.A) (F : FnG X.prog X.w X.K X.mg X.base k f fd ps (spD X.K n R)) (hm : X.mg x = some (.ref f)) (hk : PySem.W.keepIn X.K (.ref f) = true)
    (hb : ∀ (s : Shared) (ws : List Value), (gV ws).length = ps.length → BindsTo s fd ⟨[], ks.zip ws⟩ (ps.zip (gV ws))) (hv : ∀ {vs : List V} {us : List Value}, Vals vs us → Vals (gV vs) (gV us)) (hv2 : ∀ {K : PySem.W.Frag} {S : Hp} {vs : List V} {us : List Dt}, RpAll K S vs us → RpAll K S (gV vs) (gV us))
    (ha : VK' X ρ kws ds ρ1) (hR : R (gV ds) (.ret d)) (hn : (gV ds).length = n := by rfl) (hg : Gl X x := by rfl) (hall : (backToKw pos (keywordEach kws X.env)).all (·.1.isSome) = true := by rfl) (hks : (backToKw pos (keywordEach kws X.env)).filterMap (·.1) = ks := by rfl)
    (hdb : (x == ("__debug__" : Str)) = false := by decide) (hpl : ((backTo pos (starEach [] X.env)).any (·.1) || (backToKw pos (keywordEach kws X.env)).any (·.1.isNone)) = false := by rfl) :
    VE X ρ (.Call (.Name x p) [] kws pos) d ρ1 := by
  obtain ⟨t, pa, qa⟩ := ha
  refine ⟨_, pe_callGK (gV := gV) F hgd hr hg hm hk hb hv passL pa hall hks hdb hpl, fun σ H g Q kk rp q => qa σ H g _ kk rp fun vs H1 g1 k1 e1 r1 rv => ?_⟩
  exact ⟨g1, gV ds, .ret d, hn, k1, hv2 rv, hR, fun v H2 g2 k2 gr rd => q v H2 g2 k2 (e1.trans (gr.ext _ _)) (r1.gro gr) rd⟩
/-- the list in slot i is handed over to be changed -/
def Sl.put (ls : List Dt) : Sl → Sl
  | .o _ => .o ls
  | .i p _ => .i p ls
  | s => s
theorem Sl.put_own {ls : List Dt} : ∀ {s : Sl}, (s.put ls).own = s.own
  | .no => rfl
  | .d _ => rfl
  | .o _ => rfl
  | .i _ _ => rfl
  | .t _ _ => rfl
theorem Sl.put_adr {ls : List Dt} {σ : L2.St} {i : Nat} {p : Addr} : ∀ {s : Sl}, Adr σ i (s.put ls) p ↔ Adr σ i s p
  | .no => Iff.rfl
  | .d _ => Iff.rfl
  | .o _ => Iff.rfl
  | .i _ _ => Iff.rfl
  | .t _ _ => Iff.rfl
/-- one list is changed, at p -/
theorem Rep.put {K : PySem.W.Frag} {g g' : G} {σ : L2.St} {i : Nat} {pa : Addr} {s : Sl} {ls : List Dt} (r : Rep K g σ ρ) (hs : ρ[i]? = some s) (hw : s.own = true) (hσ : σ[i]? = some (some (V.ref pa))) (st : Same g.S g'.S)
    (mu : ∀ q es, q ≠ pa → g.M q = some es → g'.M q = some es) (hp : g'.M pa = some ls) : Rep K g' σ (ρ.set i (s.put ls)) ∧ Ext σ ρ (ρ.set i (s.put ls)) g g' := by
  have il : i < ρ.length := (List.getElem?_eq_some_iff.mp hs).1
  have ha := adr_own hw hσ
  have bk : ∀ (j : Nat) (t : Sl), (ρ.set i (s.put ls))[j]? = some t → ∃ u, ρ[j]? = some u ∧ ∀ q, Adr σ j t q → Adr σ j u q := fun j t e => by
    by_cases hj : j = i
    · subst hj
      rw [List.getElem?_set_self il] at e
      cases e
      exact ⟨s, hs, fun q z => Sl.put_adr.mp z⟩
    · rw [List.getElem?_set_ne (Ne.symm hj)] at e
      exact ⟨t, e, fun q z => z⟩
  refine ⟨⟨by rw [List.length_set]; exact r.len, fun j t e => ?_, fun j l t u q n e1 e2 w1 w2 => ?_⟩, ⟨st, fun q es e n => mu q es (fun z => n ⟨i, s, hs, by rw [z]; exact ha⟩) e, fun q ⟨j, t, e1, e2⟩ => ?_⟩⟩
  · by_cases hj : j = i
    · subst hj
      rw [List.getElem?_set_self il] at e
      cases e
      refine ⟨_, hσ, ?_⟩
      obtain ⟨v, z1, z2⟩ := r.sl j s hs
      rw [hσ] at z1
      cases z1
      cases s with
      | no => cases hw
      | d _ => cases hw
      | t _ _ => cases hw
      | o es => exact ⟨pa, rfl, hp⟩
      | i p2 es =>
        obtain ⟨y1, y2⟩ := z2
        cases y1
        exact ⟨rfl, hp⟩
    · rw [List.getElem?_set_ne (Ne.symm hj)] at e
      obtain ⟨v, w1, w2⟩ := r.sl j t e
      refine ⟨v, w1, ?_⟩
      cases t with
      | no => trivial
      | d y => obtain ⟨u, z1, z2⟩ := w2; exact ⟨u, z1, z2.mono st⟩
      | o es =>
        obtain ⟨p2, z1, z2⟩ := w2
        refine ⟨p2, z1, mu _ _ (fun z => ?_) z2⟩
        subst z
        exact r.ne i j _ _ p2 (Ne.symm hj) hs e ha (show σ[j]? = _ by rw [w1, z1])
      | i p2 es =>
        obtain ⟨z1, z2⟩ := w2
        refine ⟨z1, mu _ _ (fun z => ?_) z2⟩
        subst z
        exact r.ne i j _ _ p2 (Ne.symm hj) hs e ha (show σ[j]? = _ by rw [w1, z1])
      | t cs y =>
        obtain ⟨⟨u, z1, z2⟩, nd, z3⟩ := w2
        exact ⟨⟨u, z1, z2.mono st⟩, nd, fun b es hb => mu _ _ (fun z => r.ne i j _ _ pa (Ne.symm hj) hs e ha (List.mem_map.mpr ⟨(b, es), hb, z⟩)) (z3 b es hb)⟩
  · obtain ⟨t', a1, a2⟩ := bk j t e1
    obtain ⟨u', b1, b2⟩ := bk l u e2
    exact r.ne j l t' u' q n a1 b1 (a2 q w1) (b2 q w2)
  · obtain ⟨u', a1, a2⟩ := bk j t e1
    exact ⟨j, u', a1, a2 q e2⟩
theorem ve_callI {R : List Dt → List Dt → Dt → List Dt → Prop} {ls ls' : List Dt} {s : Sl} (i : Nat) {nm : Str} {pos' : Pos} (hgd : X.A.guards = some []) (hr : Room k X.A) (F : FnG X.prog X.w X.K X.mg X.base k f fd ps (spI X.K n R)) (hm : X.mg x = some (.ref f)) (hk : PySem.W.keepIn X.K (.ref f) = true) (hb : Binds X.K fd ps [])
    (ha : VA X ρ es ds ρ1) (hs : ρ1[i]? = some s) (hc : s.cont = some ls) (hR : R ls ds d ls') (hn : ds.length = n := by rfl) (hN : X.N[i]? = some nm := by rfl) (hv : Vis X.env.scope nm := by first | exact Or.inl rfl | exact Or.inr (Or.inl rfl) | exact Or.inr (Or.inr rfl))
    (hsl : ∃ s0, ρ[i]? = some s0 ∧ s0.own = true := by exact ⟨_, rfl, rfl⟩) (hg : Gl X x := by rfl) (hdb : (x == ("__debug__" : Str)) = false := by decide) (he : starEach (.Name nm pos' :: es) X.env = (false, eval (.Name nm pos') X.env) :: starEach es X.env := by rfl) (hpl : (backTo pos (starEach es X.env)).any (·.1) = false := by rfl)
    (hd1 : (nm == ("__debug__" : Str)) = false := by decide) (hcd : (nm == ("__classdict__" : Str)) = false := by decide) :
    VE X ρ (.Call (.Name x p) (.Name nm pos' :: es) [] pos) d (ρ1.set i (s.put ls')) := by
  obtain ⟨t, pa, qa⟩ := ha
  refine ⟨_, pe_callG F hgd hr hg hm hk hb passL (pa_cons (pe_var hN hv hd1 hcd) pa he) hdb he hpl, fun σ H g Q kk rp q => ?_⟩
  obtain ⟨s0, e0, w0⟩ := hsl
  obtain ⟨v0, x0, y0⟩ := rp.sl i s0 e0
  obtain ⟨pp, hpp⟩ : ∃ pp, v0 = some (V.ref pp) := by
    cases s0 with
    | no => cases w0
    | d _ => cases w0
    | t _ _ => cases w0
    | o _ => obtain ⟨p2, z, _⟩ := y0; exact ⟨p2, z⟩
    | i p2 _ => exact ⟨p2, y0.1⟩
  subst hpp
  refine ⟨_, x0, qa σ H g _ kk rp fun vs H1 g1 k1 e1 r1 rv => ?_⟩
  obtain ⟨p', s', f1, f2, f3, f4⟩ := r1.cont (i := i) (ds := ls) (by rw [hs]; exact hc)
  rw [x0] at f3
  cases f3
  rw [hs] at f1
  cases f1
  refine ⟨g1, _, ls, vs, ds, d, ls', rfl, hn, k1, f4, rv, hR, fun v H2 g2 k2 st mu hp rd => ?_⟩
  obtain ⟨r2, ex2⟩ := r1.put hs f2 x0 st mu hp
  exact q v H2 g2 k2 (e1.trans ex2) r2 rd
end
end DL
namespace DL
open PySem PySem.Spec PyProof.Rows L2

/-! ### slots -/
section
variable {K : PySem.W.Frag} {g g' : G} {σ σ' : L2.St} {ρ ρ' : List Sl} {H : Hp}
theorem Rep.setS (r : Rep K g σ ρ) (i : Nat) {v : Option V} {s : Sl} (hs : SlOk K g v s) (hw : s.bare = true) : Rep K g (σ.set i v) (ρ.set i s) := by
  refine ⟨by rw [List.length_set, List.length_set]; exact r.len, fun j t e => ?_, fun j l t u q n e1 e2 w1 w2 => ?_⟩
  · by_cases hj : j = i
    · subst hj
      by_cases il : j < ρ.length
      · rw [List.getElem?_set_self il] at e
        cases e
        exact ⟨v, List.getElem?_set_self (by rw [r.len]; exact il), hs⟩
      · rw [List.getElem?_eq_none (by rw [List.length_set]; omega)] at e
        cases e
    · rw [List.getElem?_set_ne (Ne.symm hj)] at e
      obtain ⟨w, w1, w2⟩ := r.sl j t e
      exact ⟨w, by rw [List.getElem?_set_ne (Ne.symm hj)]; exact w1, w2⟩
  · have off : ∀ (m : Nat) (y : Sl), (ρ.set i s)[m]? = some y → Adr (σ.set i v) m y q → ρ[m]? = some y ∧ Adr σ m y q := fun m y a b => by
      by_cases hm : m = i
      · subst hm
        by_cases il : m < ρ.length
        · rw [List.getElem?_set_self il] at a
          cases a
          exact (adr_bare hw b).elim
        · rw [List.getElem?_eq_none (by rw [List.length_set]; omega)] at a
          cases a
      · rw [List.getElem?_set_ne (Ne.symm hm)] at a
        exact ⟨a, (adr_set hm).mp b⟩
    obtain ⟨f1, y1⟩ := off j t e1 w1
    obtain ⟨f2, y2⟩ := off l u e2 w2
    exact r.ne j l t u q n f1 f2 y1 y2
theorem own_setS {i : Nat} {v : Option V} {s : Sl} (hw : s.bare = true) {p : Addr} (h : OwnAt (σ.set i v) (ρ.set i s) p) : OwnAt σ ρ p := by
  obtain ⟨m, y, a, b⟩ := h
  by_cases hm : m = i
  · subst hm
    by_cases il : m < ρ.length
    · rw [List.getElem?_set_self il] at a
      cases a
      exact (adr_bare hw b).elim
    · rw [List.getElem?_eq_none (by rw [List.length_set]; omega)] at a
      cases a
  · rw [List.getElem?_set_ne (Ne.symm hm)] at a
    exact ⟨m, y, a, (adr_set hm).mp b⟩
theorem Rep.setD (r : Rep K g σ ρ) (i : Nat) {v : V} {d : Dt} (h : Rp K g.S v d) : Rep K g (σ.set i (some v)) (ρ.set i (.d d)) := r.setS i ⟨v, rfl, h⟩ rfl
/-- what is told in a slot is in M -/
theorem adr_held (r : Rep K g σ ρ) {m : Nat} {y : Sl} {p : Addr} (a : ρ[m]? = some y) (b : Adr σ m y p) : ∃ es, g.M p = some es := by
  obtain ⟨w, w1, w2⟩ := r.sl m y a
  cases y with
  | no => exact b.elim
  | d _ => exact b.elim
  | o es =>
    obtain ⟨q, z1, z2⟩ := w2
    have b' : σ[m]? = some (some (V.ref p)) := b
    rw [b'] at w1
    cases w1
    cases z1
    exact ⟨es, z2⟩
  | i q es =>
    obtain ⟨z1, z2⟩ := w2
    have b' : σ[m]? = some (some (V.ref p)) := b
    rw [b'] at w1
    cases w1
    cases z1
    exact ⟨es, z2⟩
  | t cs x =>
    obtain ⟨⟨b', es⟩, hb, rfl⟩ := List.mem_map.mp b
    exact ⟨es, w2.2.2 _ _ hb⟩
/-- a new list of one's own -/
theorem Rep.setO (r : Rep K g σ ρ) (i : Nat) {p : Addr} {ds : List Dt} (hm : g.M p = none) : Rep K (g.hold p ds) (σ.set i (some (V.ref p))) (ρ.set i (.o ds)) := by
  have r1 := r.gro (hold_gro (ds := ds) hm)
  have np : ∀ (m : Nat) (y : Sl), ρ[m]? = some y → Adr σ m y p → False := fun m y a b => by
    obtain ⟨es, h⟩ := adr_held r a b
    rw [hm] at h
    cases h
  refine ⟨by rw [List.length_set, List.length_set]; exact r.len, fun j t e => ?_, fun j l t u q n e1 e2 w1 w2 => ?_⟩
  · by_cases hj : j = i
    · subst hj
      by_cases il : j < ρ.length
      · rw [List.getElem?_set_self il] at e
        cases e
        exact ⟨_, List.getElem?_set_self (by rw [r.len]; exact il), p, rfl, if_pos rfl⟩
      · rw [List.getElem?_eq_none (by rw [List.length_set]; omega)] at e
        cases e
    · rw [List.getElem?_set_ne (Ne.symm hj)] at e
      obtain ⟨w, w1, w2⟩ := r1.sl j t e
      exact ⟨w, by rw [List.getElem?_set_ne (Ne.symm hj)]; exact w1, w2⟩
  · have sp : ∀ (m : Nat) (y : Sl) (q : Addr), (ρ.set i (.o ds))[m]? = some y → Adr (σ.set i (some (V.ref p))) m y q → (m = i ∧ q = p) ∨ (m ≠ i ∧ ρ[m]? = some y ∧ Adr σ m y q) := fun m y q a c => by
      by_cases hm' : m = i
      · subst hm'
        by_cases il : m < ρ.length
        · rw [List.getElem?_set_self il] at a
          cases a
          have c' : (σ.set m (some (V.ref p)))[m]? = some (some (V.ref q)) := c
          rw [List.getElem?_set_self (by rw [r.len]; exact il)] at c'
          cases c'
          exact .inl ⟨rfl, rfl⟩
        · rw [List.getElem?_eq_none (by rw [List.length_set]; omega)] at a
          cases a
      · rw [List.getElem?_set_ne (Ne.symm hm')] at a
        exact .inr ⟨hm', a, (adr_set hm').mp c⟩
    rcases sp j t q e1 w1 with ⟨a1, a2⟩ | ⟨a1, a2, a3⟩
    · rcases sp l u q e2 w2 with ⟨b1, b2⟩ | ⟨b1, b2, b3⟩
      · exact n (a1.trans b1.symm)
      · exact np l u b2 (a2 ▸ b3)
    · rcases sp l u q e2 w2 with ⟨b1, b2⟩ | ⟨b1, b2, b3⟩
      · exact np j t a2 (b2 ▸ a3)
      · exact r.ne j l t u q n a2 b2 a3 b3
end

/-! ### statements over data -/
/-- the def's entry: the lists that are handed over to be changed, the state, what is wanted of an error -/
structure Fx where
  I : List Addr
  g0 : G
  E : XK
structure FrOk (Z : Fx) (σ : L2.St) (ρ : List Sl) (g : G) : Prop where
  st : Same Z.g0.S g.S
  mu : ∀ p ds, p ∉ Z.I → Z.g0.M p = some ds → g.M p = some ds
  ow : ∀ p, OwnAt σ ρ p → p ∈ Z.I ∨ Z.g0.M p = none
structure KD where
  nx : List Sl → Prop
  rt : Dt → List Sl → Prop
  bk : List Sl → Prop := fun _ => False
  ct : List Sl → Prop := fun _ => False
  rl : List Dt → List Sl → Prop := fun _ _ => False
/-- what is wanted over data is what is wanted of the machine; S is what stood at the statement's beginning -/
structure KOk (K : PySem.W.Frag) (Z : Fx) (S : Hp) (κ : KD) (D : Ends) : Prop where
  nx : ∀ σ H g ρ, GOk K g H → Rep K g σ ρ → FrOk Z σ ρ g → Same S g.S → κ.nx ρ → D.nx σ H
  rt : ∀ v σ H g ρ d, GOk K g H → Rep K g σ ρ → FrOk Z σ ρ g → Same S g.S → Rp K g.S v d → κ.rt d ρ → D.rt v H
  bk : ∀ σ H g ρ, GOk K g H → Rep K g σ ρ → FrOk Z σ ρ g → Same S g.S → κ.bk ρ → D.bk σ H
  ct : ∀ σ H g ρ, GOk K g H → Rep K g σ ρ → FrOk Z σ ρ g → Same S g.S → κ.ct ρ → D.ct σ H
  rl : ∀ p xs σ H g ρ ds, GOk K g H → Rep K g σ ρ → FrOk Z σ ρ g → Same S g.S → H p = some (.lst xs) → g.S p = none → g.M p = none → RpAll K g.S xs ds → κ.rl ds ρ → D.rt (V.ref p) H
theorem KOk.mono {K : PySem.W.Frag} {Z : Fx} {S S' : Hp} {κ : KD} {D : Ends} (h : KOk K Z S κ D) (e : Same S S') : KOk K Z S' κ D :=
  ⟨fun σ H g ρ k r f s => h.nx σ H g ρ k r f (e.trans s), fun v σ H g ρ d k r f s => h.rt v σ H g ρ d k r f (e.trans s), fun σ H g ρ k r f s => h.bk σ H g ρ k r f (e.trans s), fun σ H g ρ k r f s => h.ct σ H g ρ k r f (e.trans s), fun p xs σ H g ρ ds k r f s => h.rl p xs σ H g ρ ds k r f (e.trans s)⟩
def RS (K : PySem.W.Frag) (Z : Fx) (t : TS) (ρ : List Sl) (κ : KD) : Prop :=
  ∀ (σ : L2.St) (H : Hp) (g : G) (D : Ends), GOk K g H → Rep K g σ ρ → FrOk Z σ ρ g → KOk K Z g.S κ D → t D σ H
def WS (X : Cx) (Z : Fx) (ρ : List Sl) (st : Stmt) (κ : KD) : Prop := ∃ t, PS X st t ∧ RS X.K Z t ρ κ
def WSs (X : Cx) (Z : Fx) (ρ : List Sl) (st : List Stmt) (κ : KD) : Prop := ∃ t, PSs X st t ∧ RS X.K Z t ρ κ
theorem FrOk.ext {Z : Fx} {σ : L2.St} {ρ ρ' : List Sl} {g g' : G} (f : FrOk Z σ ρ g) (e : Ext σ ρ ρ' g g') : FrOk Z σ ρ' g' := by
  refine ⟨f.st.trans e.st, fun p ds h1 h2 => e.mu p ds (f.mu p ds h1 h2) fun z => ?_, fun p h => f.ow p (e.ow p h)⟩
  rcases f.ow p z with q | q
  · exact h1 q
  · rw [q] at h2; cases h2
theorem FrOk.slots {Z : Fx} {σ σ' : L2.St} {ρ ρ' : List Sl} {g : G} (f : FrOk Z σ ρ g) (h : ∀ p, OwnAt σ' ρ' p → OwnAt σ ρ p) : FrOk Z σ' ρ' g := ⟨f.st, f.mu, fun p q => f.ow p (h p q)⟩
/-- the addresses of a frame that has a new list in a slot -/
theorem FrOk.newO {Z : Fx} {σ : L2.St} {ρ : List Sl} {g : G} (f : FrOk Z σ ρ g) (hl : σ.length = ρ.length) {i : Nat} {pa : Addr} {ds : List Dt} (hm : g.M pa = none) {q : Addr} (h : OwnAt (σ.set i (some (V.ref pa))) (ρ.set i (.o ds)) q) : q ∈ Z.I ∨ Z.g0.M q = none := by
  obtain ⟨m, y, a1, a2⟩ := h
  by_cases hmi : m = i
  · subst hmi
    by_cases il : m < ρ.length
    · rw [List.getElem?_set_self il] at a1
      cases a1
      have a3 : (σ.set m (some (V.ref pa)))[m]? = some (some (V.ref q)) := a2
      rw [List.getElem?_set_self (by rw [hl]; exact il)] at a3
      cases a3
      by_cases hI : pa ∈ Z.I
      · exact .inl hI
      · refine .inr ?_
        cases z : Z.g0.M pa with
        | none => rfl
        | some es =>
          have z1 := f.mu pa es hI z
          rw [hm] at z1
          cases z1
    · rw [List.getElem?_eq_none (by rw [List.length_set]; omega)] at a1
      cases a1
  · rw [List.getElem?_set_ne (Ne.symm hmi)] at a1
    exact f.ow q ⟨m, y, a1, (adr_set hmi).mp a2⟩

section
variable {X : Cx} {Z : Fx} {ρ ρ1 ρ2 : List Sl} {κ : KD} {st : Stmt} {rest : List Stmt} {e c : Expr} {d : Dt} {ds : List Dt} {pos : Pos} {a b : List Stmt}
theorem wss_nil (h : κ.nx ρ) : WSs X Z ρ [] κ := ⟨_, pss_nil, fun σ H g D k r f kd => kd.nx σ H g ρ k r f (Same.refl _) h⟩
theorem wss_cons (h : WS X Z ρ st { κ with nx := fun ρ' => WSs X Z ρ' rest κ }) : WSs X Z ρ (st :: rest) κ := by
  obtain ⟨t, p, q⟩ := h
  refine ⟨tSeq t (fun D σ H => ∃ u, PSs X rest u ∧ u D σ H), pss_cons p ⟨fun pins s σ H D I ⟨u, pu, hu⟩ => pu.run pins s σ H D I hu⟩, fun σ H g D k r f kd => ?_⟩
  refine q σ H g _ k r f ⟨fun σ' H' g' ρ' k' r' f' s' h' => ?_, kd.rt, kd.bk, kd.ct, kd.rl⟩
  obtain ⟨u, pu, qu⟩ := h'
  exact ⟨u, pu, qu σ' H' g' D k' r' f' (kd.mono s')⟩
theorem wss_one (h : WS X Z ρ st κ) : WSs X Z ρ [st] κ := by
  obtain ⟨t, p, q⟩ := h
  exact ⟨t, pss_one p, q⟩
theorem ws_pass (h : κ.nx ρ) : WS X Z ρ (.Pass pos) κ := ⟨_, ps_pass, fun σ H g D k r f kd => kd.nx σ H g ρ k r f (Same.refl _) h⟩
theorem ws_break (h : κ.bk ρ) : WS X Z ρ (.Break pos) κ := ⟨_, ps_break, fun σ H g D k r f kd => kd.bk σ H g ρ k r f (Same.refl _) h⟩
theorem ws_continue (h : κ.ct ρ) : WS X Z ρ (.Continue pos) κ := ⟨_, ps_continue, fun σ H g D k r f kd => kd.ct σ H g ρ k r f (Same.refl _) h⟩
theorem ws_ret (h : VE X ρ e d ρ1) (k : κ.rt d ρ1) : WS X Z ρ (.Return (some e) pos) κ := by
  obtain ⟨t, p, q⟩ := h
  exact ⟨_, ps_ret p, fun σ H g D kk r f kd => q σ H g _ kk r fun v H1 g1 k1 e1 r1 rv => kd.rt v σ H1 g1 ρ1 d k1 r1 (f.ext e1) e1.st rv k⟩
/-- a new list is handed back, to be the caller's own -/
theorem ws_retL (h : VL X ρ e ds ρ1) (k : κ.rl ds ρ1) : WS X Z ρ (.Return (some e) pos) κ := by
  obtain ⟨t, p, q⟩ := h
  exact ⟨_, ps_ret p, fun σ H g D kk r f kd => q σ H g _ kk r fun pa xs H1 g1 k1 e1 r1 hp hs hm rv => kd.rl pa xs σ H1 g1 ρ1 ds k1 r1 (f.ext e1) e1.st hp hs hm rv k⟩
theorem ws_retN (k : κ.rt .non ρ) : WS X Z ρ (.Return none pos) κ := ⟨_, ps_retN, fun σ H g D kk r f kd => kd.rt _ σ H g ρ .non kk r f (Same.refl _) Rp.non k⟩
theorem ws_expr (h : VE X ρ e d ρ1) (k : κ.nx ρ1) (hs : swapsWith e none pos.line X.env = pure false := by rfl) : WS X Z ρ (.Expr e pos) κ := by
  obtain ⟨t, p, q⟩ := h
  exact ⟨_, ps_expr p hs, fun σ H g D kk r f kd => q σ H g _ kk r fun v H1 g1 k1 e1 r1 rv => kd.nx σ H1 g1 ρ1 k1 r1 (f.ext e1) e1.st k⟩
theorem ws_if {w : Bool} (h : VT X ρ c w ρ1) (h1 : w = true → WSs X Z ρ1 a κ) (h2 : w = false → WSs X Z ρ1 b κ) : WS X Z ρ (.If c a b pos) κ := by
  obtain ⟨t, p, q⟩ := h
  cases w with
  | true =>
    obtain ⟨u, p1, q1⟩ := h1 rfl
    exact ⟨_, ps_if p p1 pss_no, fun σ H g D k r f kd => q σ H g _ k r fun H1 g1 k1 e1 r1 => iteT (q1 σ H1 g1 D k1 r1 (f.ext e1) (kd.mono e1.st))⟩
  | false =>
    obtain ⟨u, p1, q1⟩ := h2 rfl
    exact ⟨_, ps_if p pss_no p1, fun σ H g D k r f kd => q σ H g _ k r fun H1 g1 k1 e1 r1 => iteF (q1 σ H1 g1 D k1 r1 (f.ext e1) (kd.mono e1.st))⟩
/-- name = e -/
theorem ws_set (i : Nat) {x : Str} {pos' : Pos} (h : VE X ρ e d ρ1) (k : κ.nx (ρ1.set i (.d d))) (hN : X.N.Nodup) (hi : X.N[i]? = some x := by rfl) (hx : Loc X.env.scope x := by first | exact Or.inl rfl | exact Or.inr rfl)
    (hs : swapsWith e (some (.Name x pos')) pos.line X.env = pure false := by rfl) (hf : X.fn x = true ∨ X.env.scope.names.lookup x = some .local := by first | exact .inl rfl | exact .inr rfl) : WS X Z ρ (.Assign [.Name x pos'] e pos) κ := by
  obtain ⟨t, p, q⟩ := h
  exact ⟨_, ps_set hN hi hx p hs hf, fun σ H g D kk r f kd => q σ H g _ kk r fun v H1 g1 k1 e1 r1 rv => kd.nx _ H1 g1 _ k1 (r1.setD i rv) ((f.ext e1).slots fun p h => own_setS rfl h) e1.st k⟩
theorem ws_setO (i : Nat) {x : Str} {pos' : Pos} (h : VL X ρ e ds ρ1) (k : κ.nx (ρ1.set i (.o ds))) (hN : X.N.Nodup) (hi : X.N[i]? = some x := by rfl) (hx : Loc X.env.scope x := by first | exact Or.inl rfl | exact Or.inr rfl)
    (hs : swapsWith e (some (.Name x pos')) pos.line X.env = pure false := by rfl) (hf : X.fn x = true ∨ X.env.scope.names.lookup x = some .local := by first | exact .inl rfl | exact .inr rfl) : WS X Z ρ (.Assign [.Name x pos'] e pos) κ := by
  obtain ⟨t, p, q⟩ := h
  refine ⟨_, ps_set hN hi hx p hs hf, fun σ H g D kk r f kd => q σ H g _ kk r fun pa xs H1 g1 k1 e1 r1 hp hs' hm rv => ?_⟩
  have f1 := f.ext e1
  exact kd.nx _ H1 (g1.hold pa ds) _ (hold_ok k1 hp hs' rv) (r1.setO i hm) ⟨f1.st, fun q es n1 n2 => (hold_gro hm).mu q es (f1.mu q es n1 n2), fun q h => f1.newO r1.len hm h⟩ e1.st k
/-- name op= e, ints -/
theorem ws_aug (i : Nat) {x : Str} {pos' : Pos} {op : Operator} {fn : Int → Int → Int} {m n : Int} (ho : PIp X op (ipI fn)) (h0 : ρ[i]? = some (.d (.int m)) := by rfl) (h : VE X ρ e (.int n) ρ1) (k : κ.nx (ρ1.set i (.d (.int (fn m n))))) (hN : X.N.Nodup) (hi : X.N[i]? = some x := by rfl)
    (hx : Loc X.env.scope x := by first | exact Or.inl rfl | exact Or.inr rfl) (hf : X.fn x = true ∨ X.env.scope.names.lookup x = some .local := by first | exact .inl rfl | exact .inr rfl) : WS X Z ρ (.AugAssign (.Name x pos') op e pos) κ := by
  obtain ⟨t, p, q⟩ := h
  refine ⟨_, ps_aug hN hi hx p ho hf, fun σ H g D kk r f kd => ?_⟩
  obtain ⟨u, e0, e2⟩ := r.get h0
  cases e2
  refine ⟨_, e0, q σ H g _ kk r fun v H1 g1 k1 e1 r1 rv => ?_⟩
  cases rv
  exact ⟨m, n, rfl, rfl, kd.nx _ H1 g1 _ k1 (r1.setD i (Rp.int _)) ((f.ext e1).slots fun p h => own_setS rfl h) e1.st k⟩
/-- xs.append(e), xs a list that may be changed -/
theorem ws_append (i : Nat) {x : Str} {pos' apos cpos : Pos} {s : Sl} (h : VE X ρ e d ρ1) (hs1 : ρ1[i]? = some s := by rfl) (hc : s.cont = some ds := by rfl) (hz : ds.length < 1000000) (k : κ.nx (ρ1.set i (s.put (ds ++ [d])))) (hsl : ∃ s0, ρ[i]? = some s0 ∧ s0.own = true := by exact ⟨_, rfl, rfl⟩) (hN : X.N[i]? = some x := by rfl)
    (hv : Vis X.env.scope x := by first | exact Or.inl rfl | exact Or.inr (Or.inl rfl) | exact Or.inr (Or.inr rfl)) (hd1 : (x == ("__debug__" : Str)) = false := by decide) (hcd : (x == ("__classdict__" : Str)) = false := by decide)
    (hbase : attributeBase (.Name x pos') "append" X.env (eval (.Name x pos') X.env) = eval (.Name x pos') X.env := by rfl)
    (hfew : ((backTo cpos (starEach (e :: []) X.env)).all (fun x => !x.1) && (backToKw cpos (keywordEach [] X.env)).all (fun x => x.1.isSome) && decide ((e :: ([] : List Expr)).length + ([] : List Keyword).length + (if ([] : List Keyword).isEmpty then 0 else 1) < 30)) = true := by rfl)
    (hline : (apos.endLine == cpos.line) = true := by rfl) (hst : starEach (e :: []) X.env = (false, eval e X.env) :: starEach [] X.env := by rfl) (hplain : (backTo cpos (starEach [] X.env)).any (·.1) = false := by rfl)
    (hsw : swapsWith (.Call (.Attribute (.Name x pos') "append" apos) [e] [] cpos) none pos.line X.env = pure false := by rfl) : WS X Z ρ (.Expr (.Call (.Attribute (.Name x pos') "append" apos) [e] [] cpos) pos) κ := by
  obtain ⟨t, p, q⟩ := h
  refine ⟨_, ps_expr (pe_bm PySem.F.plainAttrs_list PySem.F.slot_list_append PySem.F.type_list_append mt_append (pe_var hN hv hd1 hcd) (pa_cons p pa_nil hst) hbase hfew hline hst hplain) hsw, fun σ H g D kk r f kd => ?_⟩
  obtain ⟨s0, e0, w0⟩ := hsl
  obtain ⟨v0, x0, y0⟩ := r.sl i s0 e0
  obtain ⟨pp, hpp, es0, hmm⟩ : ∃ pp, v0 = some (V.ref pp) ∧ ∃ es, g.M pp = some es := by
    cases s0 with
    | no => cases w0
    | d _ => cases w0
    | t _ _ => cases w0
    | o es => obtain ⟨p2, z, z2⟩ := y0; exact ⟨p2, z, es, z2⟩
    | i p2 es => exact ⟨p2, y0.1, es, y0.2⟩
  subst hpp
  obtain ⟨_, xs0, z5, _⟩ := kk.2 pp es0 hmm
  refine ⟨_, x0, .inl ⟨rfl, xs0, SqL.of z5⟩, q σ H g _ kk r fun v H1 g1 k1 e1 r1 rv => ?_⟩
  obtain ⟨p', s', f1, f2, f3, f4⟩ := r1.cont (i := i) (ds := ds) (by rw [hs1]; exact hc)
  rw [x0] at f3
  cases f3
  rw [hs1] at f1
  cases f1
  obtain ⟨n1, xs, n2, n3⟩ := k1.2 _ _ f4
  refine ⟨_, xs, v, rfl, rfl, n2, by rw [n3.len]; exact Nat.lt_of_lt_of_le hz (by decide), ?_⟩
  let g2 : G := ⟨g1.S, fun q => if q = pp then some (ds ++ [d]) else g1.M q⟩
  obtain ⟨r2, ex2⟩ := r1.put (g' := g2) (ls := ds ++ [d]) hs1 f2 x0 (Same.refl _) (fun q es n e => by show (if q = pp then _ else _) = _; rw [if_neg n]; exact e) (if_pos rfl)
  refine kd.nx σ _ g2 _ ⟨fun b u e => ?_, fun q es e => ?_⟩ r2 ((f.ext e1).ext ex2) (e1.st.trans ex2.st) k
  · have nb : b ≠ pp := fun z => by
      have e' : g1.S b = some u := e
      rw [z, n1] at e'
      cases e'
    rw [upd_ne nb]
    exact k1.1 b u e
  · have e' : (if q = pp then some (ds ++ [d]) else g1.M q) = some es := e
    by_cases hq : q = pp
    · subst hq
      rw [if_pos rfl] at e'
      cases e'
      exact ⟨n1, _, upd_same, n3.app (.cons rv .nil)⟩
    · rw [if_neg hq] at e'
      obtain ⟨h1, ys, h2, h3⟩ := k1.2 q es e'
      exact ⟨h1, ys, by rw [upd_ne hq]; exact h2, h3⟩
end
end DL
namespace DL
open PySem PySem.Spec PyProof.Rows L2

/-! ### targets -/
def RG (K : PySem.W.Frag) (t : TG) (is : List Nat) (d : Dt) (ρ ρ' : List Sl) : Prop :=
  ∀ (v : V) (σ : L2.St) (H : Hp) (g : G) (Q : L2.St → Hp → Prop), GOk K g H → Rep K g σ ρ → Rp K g.S v d →
    (∀ σ', Rep K g σ' ρ' → σ'.length = σ.length → (∀ j, j ∉ is → σ'[j]? = σ[j]?) → (∀ p, OwnAt σ' ρ' p → OwnAt σ ρ p) → Q σ' H) → t v σ H Q
def RGs (K : PySem.W.Frag) (t : TGs) (is : List Nat) (ds : List Dt) (ρ ρ' : List Sl) : Prop :=
  ∀ (vs : List V) (σ : L2.St) (H : Hp) (g : G) (Q : L2.St → Hp → Prop), GOk K g H → Rep K g σ ρ → RpAll K g.S vs ds →
    (∀ σ', Rep K g σ' ρ' → σ'.length = σ.length → (∀ j, j ∉ is → σ'[j]? = σ[j]?) → (∀ p, OwnAt σ' ρ' p → OwnAt σ ρ p) → Q σ' H) → t vs σ H Q
/-- a target, whatever it is given: the reading depends on its shape alone -/
inductive Tg where
  | n (i : Nat)
  | t (ts : List Tg)
def VG (X : Cx) (tg : Expr) (is : List Nat) (d : Dt) (ρ ρ' : List Sl) : Prop := ∃ t, PG X tg t ∧ RG X.K t is d ρ ρ'
def VGs (X : Cx) (tgs : List Expr) (is : List Nat) (ds : List Dt) (ρ ρ' : List Sl) : Prop := ∃ t, PGs X tgs t ∧ RGs X.K t is ds ρ ρ'
section
variable {X : Cx} {ρ ρ1 ρ2 : List Sl} {d : Dt} {ds : List Dt} {pos : Pos} {is js : List Nat} {e : Expr} {es : List Expr}
theorem vg_name (i : Nat) {x : Str} (hN : X.N.Nodup) (hi : X.N[i]? = some x := by rfl) (hx : Loc X.env.scope x := by first | exact Or.inl rfl | exact Or.inr rfl)
    (hf : X.fn x = true ∨ X.env.scope.names.lookup x = some .local := by first | exact .inl rfl | exact .inr rfl) : VG X (.Name x pos) [i] d ρ (ρ.set i (.d d)) :=
  ⟨_, pg_name hN hi hx hf, fun v σ H g Q k r rv q => q _ (r.setD i rv) (List.length_set ..) (fun j hj => List.getElem?_set_ne (fun z => hj (by simp [z]))) fun p h => own_setS rfl h⟩
theorem vgs_nil : VGs X [] [] [] ρ ρ := ⟨_, pgs_nil, fun vs σ H g Q k r rv q => by
  cases rv
  exact ⟨rfl, q σ r rfl (fun _ _ => rfl) fun _ h => h⟩⟩
theorem vgs_cons (h : VG X e is d ρ ρ1) (h2 : VGs X es js ds ρ1 ρ2) (hs : (assignEach (e :: es) X.env).map (·.2) = assign e X.env :: (assignEach es X.env).map (·.2) := by rfl) : VGs X (e :: es) (is ++ js) (d :: ds) ρ ρ2 := by
  obtain ⟨t, p, q⟩ := h
  obtain ⟨u, p2, q2⟩ := h2
  refine ⟨_, pgs_cons p p2 hs, fun vs σ H g Q k r rv z => ?_⟩
  cases rv with
  | cons r1 r2 =>
    refine ⟨_, _, rfl, q _ σ H g _ k r r1 fun σ1 a1 a2 a3 a4 => q2 _ σ1 H g _ k a1 r2 fun σ2 b1 b2 b3 b4 => ?_⟩
    refine z σ2 b1 (b2.trans a2) (fun j hj => ?_) fun p h => a4 p (b4 p h)
    have n1 : j ∉ is := fun w => hj (List.mem_append_left _ w)
    have n2 : j ∉ js := fun w => hj (List.mem_append_right _ w)
    rw [b3 j n2, a3 j n1]
theorem vg_tup {k : Nat} {n : Nat} (hc : X.calm = true) (h : VGs X es is ds ρ ρ1) (hn : (assignEach es X.env).length = n := by rfl) (hl : ds.length = n := by rfl) (hst : (assignEach es X.env).findIdx? (·.1) = none := by rfl) : VG X (.Tuple es k pos) is (.tup ds) ρ ρ1 := by
  obtain ⟨t, p, q⟩ := h
  refine ⟨_, pg_tup hc p hn hst, fun v σ H g Q k r rv z => ?_⟩
  cases rv with
  | tup h1 h2 => exact ⟨_, _, rfl, sqt_mono k.1 h1, by rw [h2.len, hl], q _ σ H g Q k r h2 z⟩
/-- target = e -/
theorem ws_asg {Z : Fx} {κ : KD} {tg v : Expr} (h : VE X ρ v d ρ1) (hg : VG X tg is d ρ1 ρ2) (k : κ.nx ρ2) (hs : swapsWithSole [tg] v pos.line X.env = pure false := by rfl) (hw : swappedStores [tg] v X.env = pure none := by rfl)
    (h1 : (assignEach [tg] X.env).map (·.2) = [assign tg X.env] := by rfl) : WS X Z ρ (.Assign [tg] v pos) κ := by
  obtain ⟨t, p, q⟩ := h
  obtain ⟨u, p2, q2⟩ := hg
  exact ⟨_, ps_asg p p2 hs hw h1, fun σ H g D kk r f kd => q σ H g _ kk r fun v H1 g1 k1 e1 r1 rv => q2 v σ H1 g1 _ k1 r1 rv fun σ' a1 a2 a3 a4 => kd.nx σ' H1 g1 ρ2 k1 a1 ((f.ext e1).slots a4) e1.st k⟩
/-- a, b = x, y with plain local names, two data -/
theorem ws_par (i j : Nat) {Z : Fx} {κ : KD} {x y : Str} {a b : Expr} {d2 : Dt} {px py pt : Pos} {kt k2 : Nat} {pt2 : Pos} (h : VA X ρ [a, b] [d, d2] ρ1) (k : κ.nx ((ρ1.set i (.d d)).set j (.d d2))) (hc : X.calm = true) (hN : X.N.Nodup) (hi : X.N[i]? = some x := by rfl) (hj : X.N[j]? = some y := by rfl) (hij : i ≠ j := by decide)
    (hx : X.env.scope.names.lookup x = some .local := by rfl) (hy : X.env.scope.names.lookup y = some .local := by rfl) (hw : swappedStores [.Tuple [.Name x px, .Name y py] kt pt] (.Tuple [a, b] k2 pt2) X.env = pure (some [x, y]) := by rfl)
    (hs : swapsWithSole [.Tuple [.Name x px, .Name y py] kt pt] (.Tuple [a, b] k2 pt2) pos.line X.env = pure false := by rfl) : WS X Z ρ (.Assign [.Tuple [.Name x px, .Name y py] kt pt] (.Tuple [a, b] k2 pt2) pos) κ := by
  obtain ⟨t, p, q⟩ := h
  refine ⟨_, ps_par hc hN hi hj hij hx hy p hw hs, fun σ H g D kk r f kd => q σ H g _ kk r fun vs H1 g1 k1 e1 r1 rv => ?_⟩
  cases rv with
  | cons r1' r2' =>
    cases r2' with
    | cons r2' r3' =>
      cases r3'
      exact ⟨_, _, rfl, kd.nx _ H1 g1 _ k1 ((r1.setD i r1').setD j r2') ((f.ext e1).slots fun p h => own_setS rfl (own_setS rfl h)) e1.st k⟩
/-- the same, the first one a new list of one's own -/
theorem ws_parO (i j : Nat) {Z : Fx} {κ : KD} {x y : Str} {a b : Expr} {d2 : Dt} {px py pt : Pos} {kt k2 : Nat} {pt2 : Pos} (h : VL X ρ a ds ρ1) (hb : VE X ρ1 b d2 ρ1) (k : κ.nx ((ρ1.set i (.o ds)).set j (.d d2))) (hc : X.calm = true) (hN : X.N.Nodup) (hi : X.N[i]? = some x := by rfl) (hj : X.N[j]? = some y := by rfl) (hij : i ≠ j := by decide)
    (hx : X.env.scope.names.lookup x = some .local := by rfl) (hy : X.env.scope.names.lookup y = some .local := by rfl) (hw : swappedStores [.Tuple [.Name x px, .Name y py] kt pt] (.Tuple [a, b] k2 pt2) X.env = pure (some [x, y]) := by rfl)
    (hs : swapsWithSole [.Tuple [.Name x px, .Name y py] kt pt] (.Tuple [a, b] k2 pt2) pos.line X.env = pure false := by rfl) (h1 : starEach [a, b] X.env = (false, eval a X.env) :: starEach [b] X.env := by rfl) (h2 : starEach [b] X.env = (false, eval b X.env) :: starEach [] X.env := by rfl) : WS X Z ρ (.Assign [.Tuple [.Name x px, .Name y py] kt pt] (.Tuple [a, b] k2 pt2) pos) κ := by
  obtain ⟨t, p, q⟩ := h
  obtain ⟨u, pb, qb⟩ := hb
  refine ⟨_, ps_par hc hN hi hj hij hx hy (pa_cons p (pa_cons pb pa_nil h2) h1) hw hs, fun σ H g D kk r f kd => q σ H g _ kk r fun pa xs H1 g1 k1 e1 r1 hp hs' hm rv => ?_⟩
  have f1 := f.ext e1
  have k1' : GOk X.K (g1.hold pa ds) H1 := hold_ok k1 hp hs' rv
  -- the new list is held in a slot of its own while the second one is reckoned
  have gr := hold_gro (g := g1) (ds := ds) hm
  refine qb σ H1 (g1.hold pa ds) _ k1' (r1.gro gr) fun v H2 g2 k2 e2 r2 rv2 => ?_
  refine ⟨_, _, rfl, ?_⟩
  -- pa is no slot of this frame's, so it is as it was
  have npa : ¬ OwnAt σ ρ1 pa := fun ⟨m, y, a1, a2⟩ => by
    obtain ⟨es, h⟩ := adr_held r1 a1 a2
    rw [hm] at h
    cases h
  have hm2 : g2.M pa = some ds := e2.mu pa ds (if_pos rfl) npa
  have r3 : Rep X.K g2 (σ.set i (some (V.ref pa))) (ρ1.set i (.o ds)) := by
    refine ⟨by rw [List.length_set, List.length_set]; exact r2.len, fun m t e => ?_, fun m l t u q' n e1 e2' w1 w2 => ?_⟩
    · by_cases hj : m = i
      · subst hj
        by_cases il : m < ρ1.length
        · rw [List.getElem?_set_self il] at e
          cases e
          exact ⟨_, List.getElem?_set_self (by rw [r2.len]; exact il), pa, rfl, hm2⟩
        · rw [List.getElem?_eq_none (by rw [List.length_set]; omega)] at e
          cases e
      · rw [List.getElem?_set_ne (Ne.symm hj)] at e
        obtain ⟨w, w1, w2⟩ := r2.sl m t e
        exact ⟨w, by rw [List.getElem?_set_ne (Ne.symm hj)]; exact w1, w2⟩
    · have sp : ∀ (m : Nat) (y : Sl) (q : Addr), (ρ1.set i (.o ds))[m]? = some y → Adr (σ.set i (some (V.ref pa))) m y q → (m = i ∧ q = pa) ∨ (m ≠ i ∧ ρ1[m]? = some y ∧ Adr σ m y q) := fun m y q a c => by
        by_cases hm' : m = i
        · subst hm'
          by_cases il : m < ρ1.length
          · rw [List.getElem?_set_self il] at a
            cases a
            have c' : (σ.set m (some (V.ref pa)))[m]? = some (some (V.ref q)) := c
            rw [List.getElem?_set_self (by rw [r2.len]; exact il)] at c'
            cases c'
            exact .inl ⟨rfl, rfl⟩
          · rw [List.getElem?_eq_none (by rw [List.length_set]; omega)] at a
            cases a
        · rw [List.getElem?_set_ne (Ne.symm hm')] at a
          exact .inr ⟨hm', a, (adr_set hm').mp c⟩
      rcases sp m t q' e1 w1 with ⟨a1, a2⟩ | ⟨a1, a2, a3⟩
      · rcases sp l u q' e2' w2 with ⟨b1, b2⟩ | ⟨b1, b2, b3⟩
        · exact n (a1.trans b1.symm)
        · exact npa ⟨l, u, b2, a2 ▸ b3⟩
      · rcases sp l u q' e2' w2 with ⟨b1, b2⟩ | ⟨b1, b2, b3⟩
        · exact npa ⟨m, t, a2, b2 ▸ a3⟩
        · exact r2.ne m l t u q' n a2 b2 a3 b3
  have f2 : FrOk Z σ ρ1 g2 := (FrOk.mk (f1.st.trans gr.st) (fun p ds h1 h2 => gr.mu p ds (f1.mu p ds h1 h2)) f1.ow : FrOk Z σ ρ1 (g1.hold pa ds)).ext e2
  have f3 : FrOk Z (σ.set i (some (V.ref pa))) (ρ1.set i (.o ds)) g2 := ⟨f2.st, f2.mu, fun q' h => f1.newO r1.len hm h⟩
  exact kd.nx _ H2 g2 _ k2 (r3.setD j rv2) (f3.slots fun p h => own_setS rfl h) ((e1.st.trans gr.st).trans e2.st) k
end

/-! ### what is walked -/
/-- J yields the items ds, one a turn, as long as what stands stands -/
def Yields (K : PySem.W.Frag) (J : It) (g : G) (ds : List Dt) : Prop := ∀ g2 H2, GOk K g2 H2 → Same g.S g2.S →
  (∀ j d, ds[j]? = some d → J.go j H2 ∧ ∀ x H3, J.yld j H2 x H3 → ∃ g3, GOk K g3 H3 ∧ Gro g2 g3 ∧ Rp K g3.S x d) ∧ J.stop ds.length H2
def VI (X : Cx) (ρ : List Sl) (tg iter : Expr) (ds : List Dt) (ρ' : List Sl) : Prop := ∃ wi, PI X tg iter wi ∧
  ∀ (σ : L2.St) (H : Hp) (g : G) (R : It → Hp → Prop), GOk X.K g H → Rep X.K g σ ρ → (∀ J H' g', GOk X.K g' H' → Ext σ ρ ρ' g g' → Rep X.K g' σ ρ' → Yields X.K J g' ds → R J H') → wi σ H R
section
variable {X : Cx} {ρ ρ1 ρ2 : List Sl} {d : Dt} {ds es' : List Dt} {pos : Pos} {e e2 tg : Expr}
theorem yields_list {K : PySem.W.Frag} {g : G} {a : Addr} {xs : List V} (hs : SqX K g.S a xs) (rv : RpAll K g.S xs ds) (un : ∀ g2 H2 ys, GOk K g2 H2 → Same g.S g2.S → SqL K H2 a ys → True) : Yields K (Itl K a) g ds := fun g2 H2 k2 st => by
  have hs2 : SqL K H2 a xs := (sqx_mono k2.1 (sqx_mono st hs)).l
  refine ⟨fun j d hj => ?_, ⟨xs, hs2, by rw [rv.len]; exact Nat.le_refl _⟩⟩
  obtain ⟨v, v1, v2⟩ := rv.at hj
  refine ⟨⟨xs, v, hs2, v1⟩, fun x H3 ⟨y1, y2⟩ => ?_⟩
  subst y1
  have e := y2 xs hs2
  rw [v1] at e
  cases e
  exact ⟨g2, k2, Gro.refl g2, v2.mono st⟩
theorem vi_list (h : VE X ρ e (.lst ds) ρ1) : VI X ρ tg e ds ρ1 := by
  obtain ⟨t, p, q⟩ := h
  refine ⟨_, pi_list p, fun σ H g R k r z => q σ H g _ k r fun v H1 g1 k1 e1 r1 rv => ?_⟩
  cases rv with
  | lst h1 h2 => exact ⟨_, rfl, ⟨_, (sqx_mono k1.1 h1).l⟩, z _ H1 g1 k1 e1 r1 (yields_list h1 h2 fun _ _ _ _ _ _ => trivial)⟩
theorem vi_tup (h : VE X ρ e (.tup ds) ρ1) : VI X ρ tg e ds ρ1 := by
  obtain ⟨t, p, q⟩ := h
  refine ⟨_, pi_tup p, fun σ H g R k r z => q σ H g _ k r fun v H1 g1 k1 e1 r1 rv => ?_⟩
  cases rv with
  | tup h1 h2 =>
    refine ⟨_, rfl, ⟨_, sqt_mono k1.1 h1⟩, z _ H1 g1 k1 e1 r1 fun g2 H2 k2 st => ?_⟩
    have hs2 := sqt_mono k2.1 (sqt_mono st h1)
    refine ⟨fun j d hj => ?_, ⟨_, hs2, by rw [h2.len]; exact Nat.le_refl _⟩⟩
    obtain ⟨v, v1, v2⟩ := h2.at hj
    refine ⟨⟨_, v, hs2, v1⟩, fun x H3 ⟨y1, y2⟩ => ?_⟩
    subst y1
    have e := y2 _ hs2
    rw [v1] at e
    cases e
    exact ⟨g2, k2, Gro.refl g2, v2.mono st⟩
/-- lo, lo + 1, .. -/
def rng (lo : Int) (n : Nat) : List Int := (List.range n).map fun (k : Nat) => lo + (k : Int)
theorem rng_get {lo : Int} {n j : Nat} {d : Dt} (h : ((rng lo n).map Dt.int)[j]? = some d) : j < n ∧ d = .int (lo + (j : Int)) := by
  unfold rng at h
  rw [List.getElem?_map, List.getElem?_map] at h
  by_cases hj : j < n
  · rw [List.getElem?_range hj] at h
    cases h
    exact ⟨hj, rfl⟩
  · rw [List.getElem?_eq_none (by rw [List.length_range]; omega)] at h
    cases h
theorem rng_length (lo : Int) (n : Nat) : (rng lo n).length = n := by unfold rng; rw [List.length_map, List.length_range]
theorem yields_rng {K : PySem.W.Frag} {g : G} {lo : Int} {n : Nat} : Yields K (Itr lo n) g ((rng lo n).map Dt.int) := fun g2 H2 k2 st => by
  refine ⟨fun j d hj => ?_, show n ≤ _ by rw [List.length_map, rng_length]; exact Nat.le_refl _⟩
  obtain ⟨h1, rfl⟩ := rng_get hj
  refine ⟨h1, fun x H3 ⟨y1, y2⟩ => ?_⟩
  subst y1
  subst y2
  exact ⟨g2, k2, Gro.refl g2, Rp.int _⟩
theorem vi_range1 {n : Int} {p : Pos} (hm : X.mg "range" = none) (h : VE X ρ e (.int n) ρ1) (hb : -(2 ^ 62) ≤ n ∧ n < 2 ^ 62) (hg : Gl X "range" := by rfl) (hn : starEach [e] X.env = (false, eval e X.env) :: starEach [] X.env := by rfl) (hs : starEach [e] X.env = [(false, eval e X.env)] := by rfl) :
    VI X ρ tg (.Call (.Name "range" p) [e] [] pos) ((rng 0 n.toNat).map Dt.int) ρ1 := by
  obtain ⟨t, p, q⟩ := h
  refine ⟨_, pi_range1 hg hm (pa_cons p pa_nil hn) hs, fun σ H g R k r z => q σ H g _ k r fun v H1 g1 k1 e1 r1 rv => ?_⟩
  cases rv
  exact ⟨n, rfl, hb.1, hb.2, z _ H1 g1 k1 e1 r1 yields_rng⟩
theorem vi_range2 {m n : Int} {p : Pos} (hm : X.mg "range" = none) (h : VE X ρ e (.int m) ρ1) (h2 : VE X ρ1 e2 (.int n) ρ2) (hb : -(2 ^ 62) ≤ m ∧ m < 2 ^ 62 ∧ -(2 ^ 62) ≤ n ∧ n < 2 ^ 62) (hg : Gl X "range" := by rfl) (hn : starEach [e, e2] X.env = (false, eval e X.env) :: starEach [e2] X.env := by rfl) (hn2 : starEach [e2] X.env = (false, eval e2 X.env) :: starEach [] X.env := by rfl)
    (hs : starEach [e, e2] X.env = [(false, eval e X.env), (false, eval e2 X.env)] := by rfl) (hs2 : starEach [e2] X.env = [(false, eval e2 X.env)] := by rfl) :
    VI X ρ tg (.Call (.Name "range" p) [e, e2] [] pos) ((rng m (n - m).toNat).map Dt.int) ρ2 := by
  obtain ⟨t, p, q⟩ := h
  obtain ⟨t2, p2, q2⟩ := h2
  refine ⟨_, pi_range2 hg hm (pa_cons p (pa_cons p2 pa_nil hn2) hn) hs hs2, fun σ H g R k r z => q σ H g _ k r fun v H1 g1 k1 e1 r1 rv => q2 σ H1 g1 _ k1 r1 fun v2 H2 g2 k2 e2 r2 rv2 => ?_⟩
  cases rv
  cases rv2
  exact ⟨m, n, rfl, hb, z _ H2 g2 k2 (e1.trans e2) r2 yields_rng⟩
/-- pairs of a number and an item -/
def enum (ds : List Dt) : List Dt := ds.mapIdx fun j d => .tup [.int (j : Int), d]
theorem enum_get {j : Nat} {d : Dt} (h : (enum ds)[j]? = some d) : ∃ x, ds[j]? = some x ∧ d = .tup [.int (j : Int), x] := by
  unfold enum at h
  rw [List.getElem?_mapIdx] at h
  cases e : ds[j]? with
  | none => rw [e] at h; cases h
  | some x =>
    rw [e] at h
    cases h
    exact ⟨x, rfl, rfl⟩
theorem enum_length : (enum ds).length = ds.length := by unfold enum; rw [List.length_mapIdx]
theorem vi_enum {elts : List Expr} {kk : Nat} {p tpos : Pos} (hm : X.mg "enumerate" = none) (h : VE X ρ e (.lst ds) ρ1) (hg : Gl X "enumerate" := by rfl) (hn : starEach [e] X.env = (false, eval e X.env) :: starEach [] X.env := by rfl) (hs : starEach [e] X.env = [(false, eval e X.env)] := by rfl) :
    VI X ρ (.Tuple elts kk tpos) (.Call (.Name "enumerate" p) [e] [] pos) (enum ds) ρ1 := by
  obtain ⟨t, p, q⟩ := h
  refine ⟨_, pi_enum hg hm (pa_cons p pa_nil hn) hs, fun σ H g R k r z => q σ H g _ k r fun v H1 g1 k1 e1 r1 rv => ?_⟩
  cases rv with
  | lst h1 h2 =>
    refine ⟨_, _, rfl, (sqx_mono k1.1 h1).l, z _ H1 g1 k1 e1 r1 fun g2 H2 k2 st => ?_⟩
    have hs2 := (sqx_mono k2.1 (sqx_mono st h1)).l
    refine ⟨fun j d hj => ?_, ⟨_, hs2, by rw [enum_length, h2.len]; exact Nat.le_refl _⟩⟩
    obtain ⟨y, y1, rfl⟩ := enum_get hj
    obtain ⟨v, v1, v2⟩ := h2.at y1
    refine ⟨⟨_, v, hs2, v1⟩, fun x H3 ⟨T, w, w1, w2, w3, w4⟩ => ?_⟩
    subst w1
    subst w3
    have e := w4 _ hs2
    rw [v1] at e
    cases e
    obtain ⟨f1, f2⟩ := k2.free w2
    have gr := stand_gro (g := g2) (p := T) (o := .tup [.int (j : Int), v]) f1
    exact ⟨g2.stand T (.tup [.int (j : Int), v]), stand_ok (k2.upd w2) upd_same f1 f2, gr, Rp.tup (SqT.of upd_same) (.cons (.int _) (.cons ((v2.mono st).mono gr.st) .nil))⟩
def zip2 (ds es : List Dt) : List Dt := List.zipWith (fun x y => Dt.tup [x, y]) ds es
theorem zip2_get {es : List Dt} {j : Nat} {d : Dt} (h : (zip2 ds es)[j]? = some d) : ∃ x y, ds[j]? = some x ∧ es[j]? = some y ∧ d = .tup [x, y] := by
  unfold zip2 at h
  rw [List.getElem?_zipWith] at h
  cases e : ds[j]? with
  | none => rw [e] at h; cases h
  | some x =>
    cases e' : es[j]? with
    | none => rw [e, e'] at h; cases h
    | some y =>
      rw [e, e'] at h
      cases h
      exact ⟨x, y, rfl, rfl, rfl⟩
theorem vi_zip {elts : List Expr} {kk : Nat} {p tpos : Pos} {es : List Dt} (hm : X.mg "zip" = none) (h : VE X ρ e (.lst ds) ρ1) (h' : VE X ρ1 e2 (.lst es) ρ2) (hg : Gl X "zip" := by rfl) (hn : starEach [e, e2] X.env = (false, eval e X.env) :: starEach [e2] X.env := by rfl) (hn2 : starEach [e2] X.env = (false, eval e2 X.env) :: starEach [] X.env := by rfl)
    (hpl : (backTo pos (starEach [e2] X.env)).any (·.1) = false := by rfl) : VI X ρ (.Tuple elts kk tpos) (.Call (.Name "zip" p) [e, e2] [] pos) (zip2 ds es) ρ2 := by
  obtain ⟨t, p, q⟩ := h
  obtain ⟨t2, p2, q2⟩ := h'
  refine ⟨_, pi_zip hg hm (pa_cons p (pa_cons p2 pa_nil hn2) hn) hn hpl, fun σ H g R k r z => q σ H g _ k r fun v H1 g1 k1 e1 r1 rv => q2 σ H1 g1 _ k1 r1 fun v2 H2 g2 k2 e2 r2 rv2 => ?_⟩
  cases rv with
  | lst h1 h2 =>
    cases rv2 with
    | lst i1 i2 =>
      refine ⟨_, _, _, _, rfl, (sqx_mono k2.1 (sqx_mono e2.st h1)).l, (sqx_mono k2.1 i1).l, z _ H2 g2 k2 (e1.trans e2) r2 fun g3 H3 k3 st => ?_⟩
      have a1 := (sqx_mono k3.1 (sqx_mono st (sqx_mono e2.st h1))).l
      have a2 := (sqx_mono k3.1 (sqx_mono st i1)).l
      refine ⟨fun j d hj => ?_, ⟨_, _, a1, a2, ?_⟩⟩
      · obtain ⟨x, y, x1, y1, rfl⟩ := zip2_get hj
        obtain ⟨v, v1, v2⟩ := h2.at x1
        obtain ⟨u, u1, u2⟩ := i2.at y1
        refine ⟨⟨_, _, v, u, a1, a2, v1, u1⟩, fun x H4 ⟨T, w, w', w1, w2, w3, w4, w5⟩ => ?_⟩
        subst w1
        subst w3
        have e := w4 _ a1
        have e' := w5 _ a2
        rw [v1] at e
        rw [u1] at e'
        cases e
        cases e'
        obtain ⟨f1, f2⟩ := k3.free w2
        have gr := stand_gro (g := g3) (p := T) (o := .tup [v, u]) f1
        exact ⟨g3.stand T (.tup [v, u]), stand_ok (k3.upd w2) upd_same f1 f2, gr, Rp.tup (SqT.of upd_same) (.cons (((v2.mono e2.st).mono st).mono gr.st) (.cons ((u2.mono st).mono gr.st) .nil))⟩
      · unfold zip2
        rw [List.length_zipWith, h2.len, i2.len]
        omega
/-! ### for -/
/-- the body at turn j, over the item's data -/
theorem ws_for {Z : Fx} {κ : KD} {iter : Expr} {body : List Stmt} (hc : X.calm = true) (hi : VI X ρ tg iter ds ρ1) (Pv : Nat → List Sl → Prop) (h0 : Pv 0 ρ1)
    (hs : ∀ j d ρ, ds[j]? = some d → Pv j ρ → ∃ ρ' is, VG X tg is d ρ ρ' ∧ WSs X Z ρ' body { κ with nx := Pv (j + 1), ct := Pv (j + 1), bk := κ.nx }) (hd : ∀ ρ, Pv ds.length ρ → κ.nx ρ)
    (hp : PassesOwn (model X.prog X.w) X.A X.env X.xe) (hf : ∀ x, foldedSetIterable iter X.env x = pure x := by intro _; rfl) : WS X Z ρ (.For tg iter body [] pos) κ := by
  obtain ⟨wi, p, q⟩ := hi
  refine ⟨_, ps_for (g := fun v σ H Q => ∃ t, PG X tg t ∧ t v σ H Q) (tb := fun D σ H => ∃ u, PSs X body u ∧ u D σ H) hp hc p ⟨fun pins s σ H v u Q I r ⟨t, pt, ht⟩ => pt.run pins s σ H v u Q I r ht⟩ ⟨fun pins s σ H D I ⟨u, pu, hu⟩ => pu.run pins s σ H D I hu⟩ hf, fun σ H g D k r f kd => ?_⟩
  refine q σ H g _ k r fun J H1 g1 k1 e1 r1 y => ?_
  have f1 := f.ext e1
  refine ⟨fun i m σ' H' => m = ds.length - i ∧ i ≤ ds.length ∧ ∃ g' ρ', GOk X.K g' H' ∧ Rep X.K g' σ' ρ' ∧ FrOk Z σ' ρ' g' ∧ Same g1.S g'.S ∧ Pv i ρ', ⟨ds.length, by simp, Nat.zero_le _, g1, ρ1, k1, r1, f1, Same.refl _, h0⟩, ?_⟩
  rintro i m σ' H' ⟨rfl, hi, g', ρ', k', r', f', st, pv⟩
  obtain ⟨y1, y2⟩ := y g' H' k' st
  by_cases hlt : i < ds.length
  · obtain ⟨d, hd'⟩ : ∃ d, ds[i]? = some d := ⟨ds[i], List.getElem?_eq_getElem hlt⟩
    obtain ⟨go, yl⟩ := y1 i d hd'
    refine .inr ⟨go, fun σ2 H2 => ∃ g2 ρ2, GOk X.K g2 H2 ∧ Rep X.K g2 σ2 ρ2 ∧ FrOk Z σ2 ρ2 g2 ∧ Same g1.S g2.S ∧ Pv (i + 1) ρ2, fun σ2 H2 z => ⟨ds.length - (i + 1), by omega, rfl, hlt, z⟩, fun x H3 hy => ?_⟩
    obtain ⟨g3, k3, gr3, rv3⟩ := yl x H3 hy
    obtain ⟨ρ4, is, ⟨t, pt, qt⟩, ⟨u, pu, qu⟩⟩ := hs i d ρ' hd' pv
    have r3 := r'.gro gr3
    have f3 : FrOk Z σ' ρ' g3 := f'.ext (gr3.ext _ _)
    refine ⟨t, pt, qt x σ' H3 g3 _ k3 r3 rv3 fun σ4 a1 a2 a3 a4 => ⟨u, pu, ?_⟩⟩
    have s3 : Same g1.S g3.S := st.trans gr3.st
    refine qu σ4 H3 g3 _ k3 a1 (f3.slots a4) ⟨fun σ5 H5 g5 ρ5 k5 r5 f5 s5 z => ?_, fun v σ5 H5 g5 ρ5 d5 k5 r5 f5 s5 z => ?_, fun σ5 H5 g5 ρ5 k5 r5 f5 s5 z => ?_, fun σ5 H5 g5 ρ5 k5 r5 f5 s5 z => ?_, fun pa xs σ5 H5 g5 ρ5 ds5 k5 r5 f5 s5 => kd.rl pa xs σ5 H5 g5 ρ5 ds5 k5 r5 f5 ((e1.st.trans s3).trans s5)⟩
    · exact ⟨g5, ρ5, k5, r5, f5, s3.trans s5, z⟩
    · exact kd.rt v σ5 H5 g5 ρ5 d5 k5 r5 f5 ((e1.st.trans s3).trans s5) z
    · exact kd.nx σ5 H5 g5 ρ5 k5 r5 f5 ((e1.st.trans s3).trans s5) z
    · exact ⟨g5, ρ5, k5, r5, f5, s3.trans s5, z⟩
  · have e : i = ds.length := by omega
    subst e
    exact .inl ⟨y2, kd.nx σ' H' g' ρ' k' r' f' (e1.st.trans st) (hd ρ' pv)⟩
end
end DL
namespace DL
open PySem PySem.Spec PyProof.Rows L2

section
variable {X : Cx} {Z : Fx} {ρ ρ1 ρ2 : List Sl} {κ : KD} {pos : Pos} {c : Expr} {body : List Stmt}
/-! ### while: Pv by a measure -/
theorem ws_while (Pv : Nat → List Sl → Prop) (h0 : ∃ m, Pv m ρ) (hs : ∀ m ρ, Pv m ρ → ∃ b ρ', VT X ρ c b ρ' ∧ (b = true → WSs X Z ρ' body { κ with nx := fun ρ2 => ∃ m', m' < m ∧ Pv m' ρ2, ct := fun ρ2 => ∃ m', m' < m ∧ Pv m' ρ2, bk := κ.nx }) ∧ (b = false → κ.nx ρ'))
    (hp : PassesOwn (model X.prog X.w) X.A X.env X.xe) : WS X Z ρ (.While c body [] pos) κ := by
  refine ⟨_, ps_while (tc := fun σ H Q => ∃ t, PT X c t ∧ t σ H Q) (tb := fun D σ H => ∃ u, PSs X body u ∧ u D σ H) hp ⟨fun pins s σ H Q I ⟨t, pt, ht⟩ => pt.run pins s σ H Q I ht⟩ ⟨fun pins s σ H D I ⟨u, pu, hu⟩ => pu.run pins s σ H D I hu⟩, fun σ H g D k r f kd => ?_⟩
  obtain ⟨m0, p0⟩ := h0
  refine ⟨fun m σ' H' => ∃ g' ρ', GOk X.K g' H' ∧ Rep X.K g' σ' ρ' ∧ FrOk Z σ' ρ' g' ∧ Same g.S g'.S ∧ Pv m ρ', ⟨m0, g, ρ, k, r, f, Same.refl _, p0⟩, ?_⟩
  rintro m σ' H' ⟨g', ρ', k', r', f', st, pv⟩
  obtain ⟨b, ρ3, ⟨t, pt, qt⟩, h1, h2⟩ := hs m ρ' pv
  refine ⟨t, pt, qt σ' H' g' _ k' r' fun H3 g3 k3 e3 r3 => ?_⟩
  cases b with
  | false => exact iteF (kd.nx σ' H3 g3 ρ3 k3 r3 (f'.ext e3) (st.trans e3.st) (h2 rfl))
  | true =>
    obtain ⟨u, pu, qu⟩ := h1 rfl
    refine iteT ⟨fun σ2 H2 => ∃ m', m' < m ∧ ∃ g2 ρ2, GOk X.K g2 H2 ∧ Rep X.K g2 σ2 ρ2 ∧ FrOk Z σ2 ρ2 g2 ∧ Same g.S g2.S ∧ Pv m' ρ2, fun σ2 H2 z => z, u, pu, ?_⟩
    have s3 := st.trans e3.st
    refine qu σ' H3 g3 _ k3 r3 (f'.ext e3) ⟨fun σ5 H5 g5 ρ5 k5 r5 f5 s5 z => ?_, fun v σ5 H5 g5 ρ5 d5 k5 r5 f5 s5 z => ?_, fun σ5 H5 g5 ρ5 k5 r5 f5 s5 z => ?_, fun σ5 H5 g5 ρ5 k5 r5 f5 s5 z => ?_, fun pa xs σ5 H5 g5 ρ5 ds5 k5 r5 f5 s5 => kd.rl pa xs σ5 H5 g5 ρ5 ds5 k5 r5 f5 (s3.trans s5)⟩
    · obtain ⟨m', hm, z⟩ := z
      exact ⟨m', hm, g5, ρ5, k5, r5, f5, s3.trans s5, z⟩
    · exact kd.rt v σ5 H5 g5 ρ5 d5 k5 r5 f5 (s3.trans s5) z
    · exact kd.nx σ5 H5 g5 ρ5 k5 r5 f5 (s3.trans s5) z
    · obtain ⟨m', hm, z⟩ := z
      exact ⟨m', hm, g5, ρ5, k5, r5, f5, s3.trans s5, z⟩
end

/-! ### comprehensions -/
abbrev blkX (X : Cx) (scope : Scope) (s : Shared) (H : Hp) (C : Addr) (cl : List (Str × Addr)) (fp : List Addr) : Cx := X.blk s H scope (compEnvC scope cl C X.env) fp
def VTs (X : Cx) (ρ : List Sl) (ifs : List Expr) (b : Bool) (ρ' : List Sl) : Prop := ∃ t, PTs X ifs t ∧ RT X.K t ρ b ρ'
theorem vts_nil {X : Cx} {ρ : List Sl} : VTs X ρ [] true ρ := ⟨_, pts_nil, fun σ H g Q k r q => q H g k (Ext.refl _ _ _) r⟩
theorem vts_one {X : Cx} {ρ ρ1 : List Sl} {c : Expr} {b : Bool} (h : VT X ρ c b ρ1) : VTs X ρ [c] b ρ1 := let ⟨t, p, q⟩ := h; ⟨t, pts_one p, q⟩
def wipeS (ρ : List Sl) : List Nat → List Sl
  | [] => ρ
  | v :: vs => (wipeS ρ vs).set v .no
section
variable {K : PySem.W.Frag} {g g' : G} {σ σ' : L2.St} {ρ : List Sl}
theorem wipe_rep (r : Rep K g σ ρ) : ∀ vs : List Nat, Rep K g (wipe σ vs) (wipeS ρ vs)
  | [] => r
  | v :: vs => (wipe_rep r vs).setS v (s := .no) trivial rfl
theorem wipe_own {p : Addr} : ∀ vs : List Nat, OwnAt (wipe σ vs) (wipeS ρ vs) p → OwnAt σ ρ p
  | [], h => h
  | v :: vs, h => wipe_own vs (own_setS (s := .no) rfl h)
theorem wipe_in {i : Nat} : ∀ {vs : List Nat}, i ∈ vs → (wipe σ vs)[i]? = if i < σ.length then some none else none
  | [], h => by cases h
  | v :: vs, h => by
    unfold wipe
    by_cases hi : v = i
    · subst hi
      by_cases hl : v < σ.length
      · rw [if_pos hl, List.getElem?_set_self (by rw [wipe_length]; exact hl)]
      · rw [if_neg hl, List.getElem?_eq_none (by rw [List.length_set, wipe_length]; omega)]
    · rw [List.getElem?_set_ne hi]
      rcases List.mem_cons.mp h with z | z
      · exact absurd z.symm hi
      · exact wipe_in z
theorem wipe_eq {vs : List Nat} (hl : σ'.length = σ.length) (h : ∀ j, j ∉ vs → σ'[j]? = (wipe σ vs)[j]?) : wipe σ' vs = wipe σ vs := by
  refine List.ext_getElem? fun j => ?_
  by_cases hj : j ∈ vs
  · rw [wipe_in hj, wipe_in hj, hl]
  · rw [wipe_out hj, h j hj]
/-- where the slots tell the same lists, none was changed -/
theorem Rep.gro_of (r : Rep K g σ ρ) (r' : Rep K g' σ ρ) (e : Ext σ ρ ρ g g') : Gro g g' := ⟨e.st, fun p ds h => by
  by_cases hp : OwnAt σ ρ p
  · obtain ⟨i, s, e1, e2⟩ := hp
    obtain ⟨v, v1, v2⟩ := r.sl i s e1
    obtain ⟨v', w1, w2⟩ := r'.sl i s e1
    cases s with
    | no => exact e2.elim
    | d _ => exact e2.elim
    | o es =>
      have e3 : σ[i]? = some (some (V.ref p)) := e2
      rw [e3] at v1 w1
      cases v1
      cases w1
      obtain ⟨q, z1, z2⟩ := v2
      obtain ⟨q', y1, y2⟩ := w2
      cases z1
      cases y1
      rw [z2] at h
      cases h
      exact y2
    | i q es =>
      have e3 : σ[i]? = some (some (V.ref p)) := e2
      rw [e3] at v1 w1
      cases v1
      cases w1
      obtain ⟨z1, z2⟩ := v2
      obtain ⟨y1, y2⟩ := w2
      cases z1
      rw [z2] at h
      cases h
      exact y2
    | t cs x =>
      obtain ⟨⟨b', es⟩, hb, rfl⟩ := List.mem_map.mp e2
      have z2 := v2.2.2 _ _ hb
      rw [z2] at h
      cases h
      exact w2.2.2 _ _ hb
  · exact e.mu p ds h hp⟩
end
/-- the parts of a comprehension, and the list that it makes -/
structure CompOk (X : Cx) (ρ : List Sl) (elt tg iter : Expr) (ifs : List Expr) (scope : Scope) (own : List (Str × Nat)) (ds : List Dt) (ρ' : List Sl) : Prop where
  ok : ∃ wi g tt te, PI X tg iter wi ∧ (∀ s H C cl fp, PG (blkX X scope s H C cl fp) tg g) ∧ (∀ s H C cl fp, PTs (blkX X scope s H C cl fp) ifs tt) ∧ (∀ s H C cl fp, PE (blkX X scope s H C cl fp) elt te) ∧ RL X.K (tLc wi g tt te (own.map (·.2))) ρ ds ρ'
section
variable {X : Cx} {Z : Fx} {ρ ρ1 ρ2 : List Sl} {κ : KD} {elt tg iter : Expr} {ifs : List Expr} {scope : Scope} {own : List (Str × Nat)} {ds : List Dt} {pos : Pos}
theorem comp_ok {p : Dt → Bool} {f : Dt → Dt} (hi : VI X ρ tg iter ds ρ1) (hz : ds.length ≤ 1000000)
    (ht : ∀ (j : Nat) (d : Dt), ds[j]? = some d → ∃ ρb, (∀ s H C cl fp, VG (blkX X scope s H C cl fp) tg (own.map (·.2)) d (wipeS ρ1 (own.map (·.2))) ρb) ∧ (∀ s H C cl fp, VTs (blkX X scope s H C cl fp) ρb ifs (p d) ρb) ∧ (p d = true → ∀ s H C cl fp, VE (blkX X scope s H C cl fp) ρb elt (f d) ρb)) :
    CompOk X ρ elt tg iter ifs scope own ((ds.filter p).map f) ρ1 := by
  obtain ⟨wi, pi, qi⟩ := hi
  generalize hvs : own.map (·.2) = vs at ht
  refine ⟨wi, fun v σ H Q => ∀ s H0 C cl fp, ∃ t, PG (blkX X scope s H0 C cl fp) tg t ∧ t v σ H Q, fun σ H Q => ∀ s H0 C cl fp, ∃ t, PTs (blkX X scope s H0 C cl fp) ifs t ∧ t σ H Q, fun σ H Q => ∀ s H0 C cl fp, ∃ t, PE (blkX X scope s H0 C cl fp) elt t ∧ t σ H Q, pi,
    fun s H C cl fp => ⟨fun pins s' σ H' v u Q I r h => let ⟨t, pt, q⟩ := h s H C cl fp; pt.run pins s' σ H' v u Q I r q⟩, fun s H C cl fp => ⟨fun pins s' σ H' Q I h => let ⟨t, pt, q⟩ := h s H C cl fp; pt.run pins s' σ H' Q I q⟩,
    fun s H C cl fp => ⟨fun pins s' σ H' Q I h => let ⟨t, pt, q⟩ := h s H C cl fp; pt.run pins s' σ H' Q I q⟩, fun σ H g Q k r q => ?_⟩
  rw [hvs]
  refine qi σ H g _ k r fun J H1 g1 k1 e1 r1 y D hD => ?_
  obtain ⟨hs1, hm1⟩ := k1.free hD
  refine ⟨fun i m H' => m = ds.length - i ∧ i ≤ ds.length ∧ ∃ g', GOk X.K g' H' ∧ Same g1.S g'.S ∧ (∀ p es, p ≠ D → g1.M p = some es → g'.M p = some es) ∧ g'.M D = some (((ds.take i).filter p).map f),
    ⟨ds.length, by simp, Nat.zero_le _, g1.hold D [], hold_ok (k1.upd hD) upd_same hs1 .nil, Same.refl _, fun q es n h => by show (if q = D then _ else _) = _; rw [if_neg n]; exact h, if_pos rfl⟩, ?_⟩
  rintro i m H' ⟨rfl, hi, g', k', st, mu, hmD⟩
  obtain ⟨y1, y2⟩ := y g' H' k' st
  by_cases hlt : i < ds.length
  · obtain ⟨d, hd'⟩ : ∃ d, ds[i]? = some d := ⟨ds[i], List.getElem?_eq_getElem hlt⟩
    obtain ⟨go, yl⟩ := y1 i d hd'
    have htake : ds.take (i + 1) = ds.take i ++ [d] := by
      have z := List.take_succ (l := ds) (i := i)
      rw [hd'] at z
      exact z
    refine .inr ⟨go, fun H2 => ∃ g2, GOk X.K g2 H2 ∧ Same g1.S g2.S ∧ (∀ p es, p ≠ D → g1.M p = some es → g2.M p = some es) ∧ g2.M D = some (((ds.take (i + 1)).filter p).map f), fun H2 z => ⟨ds.length - (i + 1), by omega, rfl, hlt, z⟩, fun x H3 hy => ?_⟩
    obtain ⟨g3, k3, gr3, rv3⟩ := yl x H3 hy
    obtain ⟨ρb, hg, hT, hE⟩ := ht i d hd'
    have g13 : Gro g1 g3 := ⟨st.trans gr3.st, fun p es h => gr3.mu p es (mu p es (fun z => by rw [z, hm1] at h; cases h) h)⟩
    have r3 : Rep X.K g3 (wipe σ vs) (wipeS ρ1 vs) := wipe_rep (r1.gro g13) vs
    have hm3 : g3.M D = some (((ds.take i).filter p).map f) := gr3.mu D _ hmD
    intro s0 H0 C0 cl0 fp0
    obtain ⟨t, pt, qt⟩ := hg s0 H0 C0 cl0 fp0
    refine ⟨t, pt, qt x _ H3 g3 _ k3 r3 rv3 fun σ4 a1 a2 a3 a4 => ⟨wipe_eq (a2.trans (wipe_length σ vs)) a3, fun s5 H5 C5 cl5 fp5 => ?_⟩⟩
    obtain ⟨u, pu, qu⟩ := hT s5 H5 C5 cl5 fp5
    refine ⟨u, pu, qu σ4 H3 g3 _ k3 a1 fun H6 g6 k6 e6 r6 => ?_⟩
    have gr6 := a1.gro_of r6 e6
    cases hb : p d with
    | false =>
      refine iteF ⟨g6, k6, g13.st.trans gr6.st, fun q es n h => gr6.mu q es (g13.mu q es h), ?_⟩
      rw [htake, List.filter_append, List.map_append, List.filter_cons_of_neg (by rw [hb]; exact Bool.false_ne_true), List.filter_nil, List.map_nil, List.append_nil]
      exact gr6.mu D _ hm3
    | true =>
      refine iteT fun s7 H7 C7 cl7 fp7 => ?_
      obtain ⟨w, pw, qw⟩ := hE hb s7 H7 C7 cl7 fp7
      refine ⟨w, pw, qw σ4 H6 g6 _ k6 r6 fun v H8 g8 k8 e8 r8 rv8 => ?_⟩
      have gr8 := r6.gro_of r8 e8
      have hm8 := gr8.mu D _ (gr6.mu D _ hm3)
      obtain ⟨n1, xs, n2, n3⟩ := k8.2 D _ hm8
      refine ⟨xs, n2, ?_, ⟨g8.S, fun q => if q = D then some (((ds.take (i + 1)).filter p).map f) else g8.M q⟩, ⟨fun b u e => ?_, fun q es e => ?_⟩, (g13.st.trans gr6.st).trans gr8.st, fun q es n h => ?_, if_pos rfl⟩
      · rw [n3.len, List.length_map]
        refine Nat.lt_of_le_of_lt (List.length_filter_le _ _) (Nat.lt_of_le_of_lt (by rw [List.length_take]; exact Nat.min_le_right _ _) (Nat.lt_of_le_of_lt hz (by decide)))
      · have nb : b ≠ D := fun z => by
          have e' : g8.S b = some u := e
          rw [z, n1] at e'
          cases e'
        rw [upd_ne nb]
        exact k8.1 b u e
      · have e' : (if q = D then some (((ds.take (i + 1)).filter p).map f) else g8.M q) = some es := e
        by_cases hq : q = D
        · subst hq
          rw [if_pos rfl] at e'
          cases e'
          refine ⟨n1, _, upd_same, ?_⟩
          rw [htake, List.filter_append, List.map_append, List.filter_cons_of_pos hb, List.filter_nil]
          exact n3.app (.cons rv8 .nil)
        · rw [if_neg hq] at e'
          obtain ⟨h1, ys, h2, h3⟩ := k8.2 q es e'
          exact ⟨h1, ys, by rw [upd_ne hq]; exact h2, h3⟩
      · show (if q = D then _ else _) = _
        rw [if_neg n]
        exact gr8.mu q es (gr6.mu q es (g13.mu q es h))
  · have e : i = ds.length := by omega
    subst e
    rw [List.take_length] at hmD
    obtain ⟨n1, xs, n2, n3⟩ := k'.2 D _ hmD
    have gr : Gro g1 ⟨g'.S, fun q => if q = D then none else g'.M q⟩ := ⟨st, fun q es h => by
      have n : q ≠ D := fun z => by rw [z, hm1] at h; cases h
      show (if q = D then none else g'.M q) = some es
      rw [if_neg n]
      exact mu q es n h⟩
    refine .inl ⟨y2, q D xs H' ⟨g'.S, fun q => if q = D then none else g'.M q⟩ ⟨k'.1, fun q es e => ?_⟩ (e1.trans (gr.ext _ _)) (r1.gro gr) n2 n1 (if_pos rfl) n3⟩
    have e' : (if q = D then none else g'.M q) = some es := e
    by_cases hq : q = D
    · rw [if_pos hq] at e'; cases e'
    · rw [if_neg hq] at e'
      exact k'.2 q es e'
theorem vl_comp (h : CompOk X ρ elt tg iter ifs scope own ds ρ1) (hc : X.calm = true) (hN : X.N.Nodup) (ok : BlkOk X.N X.env.scope scope own) (hf : ∀ x, foldedSetIterable iter X.env x = pure x := by intro _; rfl) :
    VL X ρ (.ListComp elt [⟨tg, iter, ifs, 0⟩] scope pos) ds ρ1 := by
  obtain ⟨wi, g, tt, te, h1, h2, h3, h4, h5⟩ := h.ok
  exact ⟨_, pe_lc hc hN h1 ok h2 h3 h4 hf, h5⟩
/-- y = [..] -/
theorem ws_setLc (i : Nat) {y : Str} {py spos : Pos} (h : CompOk X ρ elt tg iter ifs scope own ds ρ1) (k : κ.nx (ρ1.set i (.d (.lst ds)))) (hc : X.calm = true) (hN : X.N.Nodup) (ok : BlkOk X.N X.env.scope scope own) (hy : X.N[i]? = some y := by rfl) (hyl : X.env.scope.names.lookup y = some .local := by rfl)
    (hsw : swapsWith (.ListComp elt [⟨tg, iter, ifs, 0⟩] scope pos) (some (.Name y py)) spos.line X.env = pure true := by exact sw_true rfl rfl rfl (by decide +kernel)) (hf : ∀ x, foldedSetIterable iter X.env x = pure x := by intro _; rfl) : WS X Z ρ (.Assign [.Name y py] (.ListComp elt [⟨tg, iter, ifs, 0⟩] scope pos) spos) κ := by
  obtain ⟨wi, g, tt, te, h1, h2, h3, h4, h5⟩ := h.ok
  refine ⟨_, ps_setLc hc hN hy hyl hsw h1 ok h2 h3 h4 hf, fun σ H g D kk r f kd => h5 σ H g _ kk r fun pa xs H1 g1 k1 e1 r1 hp hs hm rv => ?_⟩
  have gr := stand_gro (g := g1) (p := pa) (o := .lst xs) hs
  exact kd.nx _ H1 _ _ (stand_ok k1 hp hs hm) ((r1.gro gr).setD i (Rp.lst (SqX.of upd_same) (rv.mono gr.st))) ((f.ext (e1.trans (gr.ext _ _))).slots fun p h => own_setS rfl h) (e1.st.trans gr.st) k
end
end DL
namespace DL
open PySem PySem.Spec PyProof.Rows L2

section
variable {X : Cx} {ρ ρ1 ρ2 ρ3 : List Sl} {e e2 : Expr} {es : List Expr} {d z : Dt} {ds : List Dt} {pos p : Pos} {id T : String} {x : Str} {r : List V → Hp → VK → Prop}
/-! ### built-ins by name -/
theorem ve_callB (hc : CallR X (.builtin id) r) (hr : RC X.K r ds z) (hm : X.mg x = none) (hv : bootBuiltins x = some (.builtin id)) (ha : VA X ρ (e :: es) ds ρ1) (hg : Gl X x := by rfl) (hn : x ≠ "__name__" := by decide) (hdb : (x == ("__debug__" : Str)) = false := by decide)
    (he : starEach (e :: es) X.env = (false, eval e X.env) :: starEach es X.env := by rfl) (hpl : (backTo pos (starEach es X.env)).any (·.1) = false := by rfl) : VE X ρ (.Call (.Name x p) (e :: es) [] pos) z ρ1 := by
  obtain ⟨t, pa, qa⟩ := ha
  exact ⟨_, pe_callB hc hg hm hv pa hn hdb he hpl, fun σ H g Q k rp q => qa σ H g _ k rp fun vs H1 g1 k1 e1 r1 rv => hr vs H1 g1 _ k1 rv fun w H2 g2 k2 gr rw' => q w H2 g2 k2 (e1.trans (gr.ext _ _)) (r1.gro gr) rw'⟩
theorem ve_callT (hc : CallR X (.type T) r) (hr : RC X.K r ds z) (hm : X.mg x = none) (hv : bootBuiltins x = some (.type T)) (ha : VA X ρ (e :: es) ds ρ1) (hg : Gl X x := by rfl) (hn : x ≠ "__name__" := by decide) (hdb : (x == ("__debug__" : Str)) = false := by decide)
    (he : starEach (e :: es) X.env = (false, eval e X.env) :: starEach es X.env := by rfl) (hpl : (backTo pos (starEach es X.env)).any (·.1) = false := by rfl) : VE X ρ (.Call (.Name x p) (e :: es) [] pos) z ρ1 := by
  obtain ⟨t, pa, qa⟩ := ha
  exact ⟨_, pe_callTy hc hg hm hv pa hn hdb he hpl, fun σ H g Q k rp q => qa σ H g _ k rp fun vs H1 g1 k1 e1 r1 rv => hr vs H1 g1 _ k1 rv fun w H2 g2 k2 gr rw' => q w H2 g2 k2 (e1.trans (gr.ext _ _)) (r1.gro gr) rw'⟩
/-- a list, read at once by a built-in -/
def RCl (K : PySem.W.Frag) (r : List V → Hp → VK → Prop) (ds : List Dt) (z : Dt) : Prop := ∀ a xs H g (Q : VK), GOk K g H → SqX K H a xs → RpAll K g.S xs ds →
  (∀ w H' g', GOk K g' H' → Gro g g' → Rp K g'.S w z → Q w H') → r [V.ref a] H Q
theorem ve_callL (hc : CallR X (.builtin id) r) (hr : RCl X.K r ds z) (hm : X.mg x = none) (hv : bootBuiltins x = some (.builtin id)) (ha : VR X ρ e ds ρ1) (hg : Gl X x := by rfl) (hn : x ≠ "__name__" := by decide) (hdb : (x == ("__debug__" : Str)) = false := by decide)
    (he : starEach (e :: []) X.env = (false, eval e X.env) :: starEach [] X.env := by rfl) (hpl : (backTo pos (starEach [] X.env)).any (·.1) = false := by rfl) : VE X ρ (.Call (.Name x p) [e] [] pos) z ρ1 := by
  obtain ⟨t, pa, qa⟩ := ha
  exact ⟨_, pe_callB hc hg hm hv (pa_cons pa pa_nil he) hn hdb he hpl, fun σ H g Q k rp q => qa σ H g _ k rp fun a xs H1 g1 k1 e1 r1 hs rv => hr a xs H1 g1 _ k1 hs rv fun w H2 g2 k2 gr rw' => q w H2 g2 k2 (e1.trans (gr.ext _ _)) (r1.gro gr) rw'⟩
theorem ve_len (hm : X.mg "len" = none) (ha : VR X ρ e ds ρ1) (hg : Gl X "len" := by rfl) (he : starEach (e :: []) X.env = (false, eval e X.env) :: starEach [] X.env := by rfl) : VE X ρ (.Call (.Name "len" p) [e] [] pos) (.int (ds.length : Int)) ρ1 :=
  ve_callL call_len_seq (fun a xs H g Q k hs rv q => ⟨a, xs, rfl, .inl hs.l, q _ H g k (Gro.refl g) (by rw [rv.len]; exact Rp.int _)⟩) hm PySem.boot_len ha hg (by decide) (by decide) he
theorem ve_lenT (hm : X.mg "len" = none) (ha : VE X ρ e (.tup ds) ρ1) (hg : Gl X "len" := by rfl) (he : starEach (e :: []) X.env = (false, eval e X.env) :: starEach [] X.env := by rfl) : VE X ρ (.Call (.Name "len" p) [e] [] pos) (.int (ds.length : Int)) ρ1 :=
  ve_callB call_len_seq (fun vs H g Q k rv q => by
    cases rv with
    | cons r1 r2 =>
      cases r2
      cases r1 with
      | tup h1 h2 => exact ⟨_, _, rfl, .inr (sqt_mono k.1 h1), q _ H g k (Gro.refl g) (by rw [h2.len]; exact Rp.int _)⟩) hm PySem.boot_len (va_cons ha va_nil he) hg (by decide) (by decide) he
theorem ve_sum {ns : List Int} (hc : X.calm = true) (hm : X.mg "sum" = none) (ha : VR X ρ e (ns.map Dt.int) ρ1) (hg : Gl X "sum" := by rfl) (he : starEach (e :: []) X.env = (false, eval e X.env) :: starEach [] X.env := by rfl) : VE X ρ (.Call (.Name "sum" p) [e] [] pos) (.int ns.sum) ρ1 :=
  ve_callL (cr_sum hc) (fun a xs H g Q k hs rv q => ⟨a, ns, rfl, by rw [← rv.ints]; exact hs.l, q _ H g k (Gro.refl g) (Rp.int _)⟩) hm (by decide +kernel) ha hg (by decide) (by decide) he
/-- the greatest, the least of some ints -/
def lmax : List Int → Int
  | [] => 0
  | [a] => a
  | a :: b :: r => max a (lmax (b :: r))
def lmin : List Int → Int
  | [] => 0
  | [a] => a
  | a :: b :: r => min a (lmin (b :: r))
theorem lmax_mem : ∀ {ns : List Int}, ns ≠ [] → lmax ns ∈ ns ∧ ∀ y ∈ ns, y ≤ lmax ns
  | [], h => absurd rfl h
  | [a], _ => ⟨by simp [lmax], fun y h => by simp at h; simp [lmax, h]⟩
  | a :: b :: r, _ => by
    have ih := lmax_mem (ns := b :: r) (by simp)
    have e : lmax (a :: b :: r) = max a (lmax (b :: r)) := rfl
    rw [e]
    refine ⟨?_, fun y h => ?_⟩
    · by_cases q : a ≤ lmax (b :: r)
      · rw [Int.max_eq_right q]; exact List.mem_cons_of_mem _ ih.1
      · rw [Int.max_eq_left (by omega)]; exact List.mem_cons_self
    · rcases List.mem_cons.mp h with z | z
      · subst z; omega
      · have := ih.2 y z; omega
theorem lmin_mem : ∀ {ns : List Int}, ns ≠ [] → lmin ns ∈ ns ∧ ∀ y ∈ ns, lmin ns ≤ y
  | [], h => absurd rfl h
  | [a], _ => ⟨by simp [lmin], fun y h => by simp at h; simp [lmin, h]⟩
  | a :: b :: r, _ => by
    have ih := lmin_mem (ns := b :: r) (by simp)
    have e : lmin (a :: b :: r) = min a (lmin (b :: r)) := rfl
    rw [e]
    refine ⟨?_, fun y h => ?_⟩
    · by_cases q : a ≤ lmin (b :: r)
      · rw [Int.min_eq_left q]; exact List.mem_cons_self
      · rw [Int.min_eq_right (by omega)]; exact List.mem_cons_of_mem _ ih.1
    · rcases List.mem_cons.mp h with z | z
      · subst z; omega
      · have := ih.2 y z; omega
theorem lmax_eq {ns : List Int} {m : Int} (h1 : m ∈ ns) (h2 : ∀ y ∈ ns, y ≤ m) : m = lmax ns := by
  have hn : ns ≠ [] := fun z => by rw [z] at h1; cases h1
  obtain ⟨a, b⟩ := lmax_mem hn
  have := h2 _ a
  have := b _ h1
  omega
theorem lmin_eq {ns : List Int} {m : Int} (h1 : m ∈ ns) (h2 : ∀ y ∈ ns, m ≤ y) : m = lmin ns := by
  have hn : ns ≠ [] := fun z => by rw [z] at h1; cases h1
  obtain ⟨a, b⟩ := lmin_mem hn
  have := h2 _ a
  have := b _ h1
  omega
theorem ve_maxL {ns : List Int} (hc : X.calm = true) (hm : X.mg "max" = none) (ha : VR X ρ e (ns.map Dt.int) ρ1) (hz : ns ≠ []) (hg : Gl X "max" := by rfl) (he : starEach (e :: []) X.env = (false, eval e X.env) :: starEach [] X.env := by rfl) : VE X ρ (.Call (.Name "max" p) [e] [] pos) (.int (lmax ns)) ρ1 :=
  ve_callL (cr_max hc) (fun a xs H g Q k hs rv q => ⟨a, ns, rfl, by rw [← rv.ints]; exact hs.l, List.length_pos_iff.mpr hz, fun m h1 h2 => by rw [lmax_eq h1 h2]; exact q _ H g k (Gro.refl g) (Rp.int _)⟩) hm (by decide +kernel) ha hg (by decide) (by decide) he
theorem ve_minL {ns : List Int} (hc : X.calm = true) (hm : X.mg "min" = none) (ha : VR X ρ e (ns.map Dt.int) ρ1) (hz : ns ≠ []) (hg : Gl X "min" := by rfl) (he : starEach (e :: []) X.env = (false, eval e X.env) :: starEach [] X.env := by rfl) : VE X ρ (.Call (.Name "min" p) [e] [] pos) (.int (lmin ns)) ρ1 :=
  ve_callL (cr_min hc) (fun a xs H g Q k hs rv q => ⟨a, ns, rfl, by rw [← rv.ints]; exact hs.l, List.length_pos_iff.mpr hz, fun m h1 h2 => by rw [lmin_eq h1 h2]; exact q _ H g k (Gro.refl g) (Rp.int _)⟩) hm (by decide +kernel) ha hg (by decide) (by decide) he
theorem ve_all {bs : List Bool} (hc : X.calm = true) (hm : X.mg "all" = none) (ha : VR X ρ e (bs.map Dt.bl) ρ1) (hg : Gl X "all" := by rfl) (he : starEach (e :: []) X.env = (false, eval e X.env) :: starEach [] X.env := by rfl) : VE X ρ (.Call (.Name "all" p) [e] [] pos) (.bl (bs.all fun b => b)) ρ1 :=
  ve_callL (cr_all hc) (fun a xs H g Q k hs rv q => ⟨a, bs, rfl, by rw [← rv.bls]; exact hs.l, q _ H g k (Gro.refl g) (Rp.bl _)⟩) hm (by decide +kernel) ha hg (by decide) (by decide) he
theorem ve_any {bs : List Bool} (hc : X.calm = true) (hm : X.mg "any" = none) (ha : VR X ρ e (bs.map Dt.bl) ρ1) (hg : Gl X "any" := by rfl) (he : starEach (e :: []) X.env = (false, eval e X.env) :: starEach [] X.env := by rfl) : VE X ρ (.Call (.Name "any" p) [e] [] pos) (.bl (bs.any fun b => b)) ρ1 :=
  ve_callL (cr_any hc) (fun a xs H g Q k hs rv q => ⟨a, bs, rfl, by rw [← rv.bls]; exact hs.l, q _ H g k (Gro.refl g) (Rp.bl _)⟩) hm (by decide +kernel) ha hg (by decide) (by decide) he
theorem ve_max2 {i j : Int} (hc : X.calm = true) (hm : X.mg "max" = none) (ha : VA X ρ [e, e2] [.int i, .int j] ρ1) (hg : Gl X "max" := by rfl) (he : starEach [e, e2] X.env = (false, eval e X.env) :: starEach [e2] X.env := by rfl) (hpl : (backTo pos (starEach [e2] X.env)).any (·.1) = false := by rfl) : VE X ρ (.Call (.Name "max" p) [e, e2] [] pos) (.int (max i j)) ρ1 :=
  ve_callB (call_max2 hc) (fun vs H g Q k rv q => by
    cases rv with
    | cons r1 r2 =>
      cases r1
      cases r2 with
      | cons r2 r3 =>
        cases r2
        cases r3
        refine ⟨i, j, rfl, ?_⟩
        have z : (if j > i then j else i) = max i j := by split <;> omega
        rw [z]
        exact q _ H g k (Gro.refl g) (Rp.int _)) hm (by decide +kernel) ha hg (by decide) (by decide) he hpl
theorem ve_min2 {i j : Int} (hc : X.calm = true) (hm : X.mg "min" = none) (ha : VA X ρ [e, e2] [.int i, .int j] ρ1) (hg : Gl X "min" := by rfl) (he : starEach [e, e2] X.env = (false, eval e X.env) :: starEach [e2] X.env := by rfl) (hpl : (backTo pos (starEach [e2] X.env)).any (·.1) = false := by rfl) : VE X ρ (.Call (.Name "min" p) [e, e2] [] pos) (.int (min i j)) ρ1 :=
  ve_callB (call_min2 hc) (fun vs H g Q k rv q => by
    cases rv with
    | cons r1 r2 =>
      cases r1
      cases r2 with
      | cons r2 r3 =>
        cases r2
        cases r3
        refine ⟨i, j, rfl, ?_⟩
        have z : (if j < i then j else i) = min i j := by split <;> omega
        rw [z]
        exact q _ H g k (Gro.refl g) (Rp.int _)) hm (by decide +kernel) ha hg (by decide) (by decide) he hpl
theorem ve_abs {i : Int} (hm : X.mg "abs" = none) (ha : VE X ρ e (.int i) ρ1) (hg : Gl X "abs" := by rfl) (he : starEach [e] X.env = (false, eval e X.env) :: starEach [] X.env := by rfl) : VE X ρ (.Call (.Name "abs" p) [e] [] pos) (.int (i.natAbs : Int)) ρ1 :=
  ve_callB call_abs (fun vs H g Q k rv q => by
    cases rv with
    | cons r1 r2 =>
      cases r1
      cases r2
      refine ⟨i, rfl, ?_⟩
      have z : (if i < 0 then -i else i) = (i.natAbs : Int) := by split <;> omega
      rw [z]
      exact q _ H g k (Gro.refl g) (Rp.int _)) hm (by decide +kernel) (va_cons ha va_nil he) hg (by decide) (by decide) he
theorem ve_intI {i : Int} (hm : X.mg "int" = none) (ha : VE X ρ e (.int i) ρ1) (hg : Gl X "int" := by rfl) (he : starEach [e] X.env = (false, eval e X.env) :: starEach [] X.env := by rfl) : VE X ρ (.Call (.Name "int" p) [e] [] pos) (.int i) ρ1 :=
  ve_callT call_int1 (fun vs H g Q k rv q => by
    cases rv with
    | cons r1 r2 =>
      cases r1
      cases r2
      exact .inl ⟨i, rfl, q _ H g k (Gro.refl g) (Rp.int _)⟩) hm (by decide +kernel) (va_cons ha va_nil he) hg (by decide) (by decide) he
def b2n (b : Bool) : Int := if b then 1 else 0
theorem ve_intB {b : Bool} (hm : X.mg "int" = none) (ha : VE X ρ e (.bl b) ρ1) (hg : Gl X "int" := by rfl) (he : starEach [e] X.env = (false, eval e X.env) :: starEach [] X.env := by rfl) : VE X ρ (.Call (.Name "int" p) [e] [] pos) (.int (b2n b)) ρ1 :=
  ve_callT call_int1 (fun vs H g Q k rv q => by
    cases rv with
    | cons r1 r2 =>
      cases r1
      cases r2
      exact .inr ⟨b, rfl, q _ H g k (Gro.refl g) (Rp.int _)⟩) hm (by decide +kernel) (va_cons ha va_nil he) hg (by decide) (by decide) he
/-- list(xs) of a list -/
theorem vl_list (hm : X.mg "list" = none) (ha : VR X ρ e ds ρ1) (hg : Gl X "list" := by rfl) (he : starEach (e :: []) X.env = (false, eval e X.env) :: starEach [] X.env := by rfl) : VL X ρ (.Call (.Name "list" p) [e] [] pos) ds ρ1 := by
  obtain ⟨t, pa, qa⟩ := ha
  refine ⟨_, pe_callTy call_list_of hg hm (by decide +kernel) (pa_cons pa pa_nil he) (by decide) (by decide) he rfl, fun σ H g Q k rp q => qa σ H g _ k rp fun a xs H1 g1 k1 e1 r1 hs rv => ⟨a, xs, rfl, .inl hs.l, fun l hl => ?_⟩⟩
  obtain ⟨f1, f2⟩ := k1.free hl
  exact q l xs _ g1 (k1.upd hl) e1 r1 upd_same f1 f2 rv
theorem vl_listT (hm : X.mg "list" = none) (ha : VE X ρ e (.tup ds) ρ1) (hg : Gl X "list" := by rfl) (he : starEach (e :: []) X.env = (false, eval e X.env) :: starEach [] X.env := by rfl) : VL X ρ (.Call (.Name "list" p) [e] [] pos) ds ρ1 := by
  obtain ⟨t, pa, qa⟩ := ha
  refine ⟨_, pe_callTy call_list_of hg hm (by decide +kernel) (pa_cons pa pa_nil he) (by decide) (by decide) he rfl, fun σ H g Q k rp q => qa σ H g _ k rp fun v H1 g1 k1 e1 r1 rv => ?_⟩
  cases rv with
  | tup h1 h2 =>
    refine ⟨_, _, rfl, .inr (sqt_mono k1.1 h1), fun l hl => ?_⟩
    obtain ⟨f1, f2⟩ := k1.free hl
    exact q l _ _ g1 (k1.upd hl) e1 r1 upd_same f1 f2 h2
theorem rgV_rng (a b : Int) : rgV a b = (rng a (b - a).toNat).map V.int := by
  unfold rgV rng
  rw [List.map_map]
  rfl
/-- list(range(n)), list(range(a, b)) -/
theorem vl_range1 {n : Int} {pr pos' : Pos} (hc : X.calm = true) (hm : X.mg "list" = none) (hm2 : X.mg "range" = none) (ha : VE X ρ e (.int n) ρ1) (hb : -(2 ^ 24) ≤ n ∧ n ≤ 2 ^ 24) (hg : Gl X "list" := by rfl) (hg2 : Gl X "range" := by rfl) (na : starEach [e] X.env = (false, eval e X.env) :: starEach [] X.env := by rfl)
    (na2 : starEach [.Call (.Name "range" pr) [e] [] pos'] X.env = (false, eval (.Call (.Name "range" pr) [e] [] pos') X.env) :: starEach [] X.env := by rfl) : VL X ρ (.Call (.Name "list" p) [.Call (.Name "range" pr) [e] [] pos'] [] pos) ((rng 0 n.toNat).map Dt.int) ρ1 := by
  obtain ⟨t, pa, qa⟩ := ha
  refine ⟨_, pe_listRg hc hg hm (prg_1 hg2 hm2 pa na) na2, fun σ H g Q k rp q => qa σ H g _ k rp fun v H1 g1 k1 e1 r1 rv => ?_⟩
  cases rv
  refine ⟨n, rfl, ⟨by omega, by omega, by omega, by omega, by omega⟩, fun l hl => ?_⟩
  obtain ⟨f1, f2⟩ := k1.free hl
  refine q l _ _ g1 (k1.upd hl) e1 r1 upd_same f1 f2 ?_
  rw [rgV_rng, Int.sub_zero]
  exact RpAll.of_ints _
theorem vl_range2 {m n : Int} {pr pos' : Pos} (hc : X.calm = true) (hm : X.mg "list" = none) (hm2 : X.mg "range" = none) (ha : VE X ρ e (.int m) ρ1) (hb : VE X ρ1 e2 (.int n) ρ2) (hbd : RgOk m n) (hg : Gl X "list" := by rfl) (hg2 : Gl X "range" := by rfl) (na : starEach [e, e2] X.env = (false, eval e X.env) :: starEach [e2] X.env := by rfl) (nb : starEach [e2] X.env = (false, eval e2 X.env) :: starEach [] X.env := by rfl)
    (hp : (backTo pos' (starEach [e2] X.env)).any (·.1) = false := by rfl) (na2 : starEach [.Call (.Name "range" pr) [e, e2] [] pos'] X.env = (false, eval (.Call (.Name "range" pr) [e, e2] [] pos') X.env) :: starEach [] X.env := by rfl) : VL X ρ (.Call (.Name "list" p) [.Call (.Name "range" pr) [e, e2] [] pos'] [] pos) ((rng m (n - m).toNat).map Dt.int) ρ2 := by
  obtain ⟨t, pa, qa⟩ := ha
  obtain ⟨t2, pb, qb⟩ := hb
  refine ⟨_, pe_listRg hc hg hm (prg_2 hg2 hm2 pa pb na nb hp) na2, fun σ H g Q k rp q => qa σ H g _ k rp fun v H1 g1 k1 e1 r1 rv => qb σ H1 g1 _ k1 r1 fun u H2 g2 k2 e2 r2 ru => ?_⟩
  cases rv
  cases ru
  refine ⟨m, n, rfl, rfl, hbd, fun l hl => ?_⟩
  obtain ⟨f1, f2⟩ := k2.free hl
  refine q l _ _ g2 (k2.upd hl) (e1.trans e2) r2 upd_same f1 f2 ?_
  rw [rgV_rng]
  exact RpAll.of_ints _

/-! ### lists: slices, +, * -/
def VO (X : Cx) (ρ : List Sl) (e : Option Expr) (v : Option Int) : Prop := ∃ t, PO X e t ∧ ∀ (σ : L2.St) (H : Hp) (g : G) (Q : Option Int → Hp → Prop), GOk X.K g H → Rep X.K g σ ρ → (∀ H' g', GOk X.K g' H' → Gro g g' → Q v H') → t σ H Q
theorem vo_none : VO X ρ none none := ⟨_, po_none, fun σ H g Q k r q => q H g k (Gro.refl g)⟩
theorem vo_some {i : Int} (h : VE X ρ e (.int i) ρ) : VO X ρ (some e) (some i) := by
  obtain ⟨t, p, q⟩ := h
  exact ⟨_, po_some p, fun σ H g Q k r z => q σ H g _ k r fun v H1 g1 k1 e1 r1 rv => by cases rv; exact ⟨i, rfl, z H1 g1 k1 (r.gro_of r1 e1)⟩⟩
def cutD (ds : List Dt) (lo hi : Option Int) : List Dt := (ds.drop (HT.sIx ds.length 0 lo)).take (HT.sIx ds.length ds.length hi - HT.sIx ds.length 0 lo)
theorem cut_rp {K : PySem.W.Frag} {S : Hp} {xs : List V} {lo hi : Option Int} (r : RpAll K S xs ds) : RpAll K S (cutV xs lo hi) (cutD ds lo hi) := by
  unfold cutV cutD
  rw [r.len]
  exact (r.drop _).take _
theorem vl_slice {lo hi : Option Expr} {a b : Option Int} {p2 : Pos} (h : VE X ρ e (.lst ds) ρ1) (h1 : VO X ρ1 lo a) (h2 : VO X ρ1 hi b) : VL X ρ (.Subscript e (.Slice lo hi none p2) pos) (cutD ds a b) ρ1 := by
  obtain ⟨t, p, q⟩ := h
  obtain ⟨t1, p1, q1⟩ := h1
  obtain ⟨t2, p2', q2⟩ := h2
  refine ⟨_, pe_slice sl_list p p1 p2', fun σ H g Q k r z => q σ H g _ k r fun v H1 g1 k1 e1 r1 rv => q1 σ H1 g1 _ k1 r1 fun H2 g2 k2 gr2 => q2 σ H2 g2 _ k2 (r1.gro gr2) fun H3 g3 k3 gr3 => ?_⟩
  cases rv with
  | lst i1 i2 =>
    have st := gr2.st.trans gr3.st
    refine ⟨_, _, rfl, (sqx_mono k3.1 (sqx_mono st i1)).l, fun l hl => ?_⟩
    obtain ⟨f1, f2⟩ := k3.free hl
    exact z l _ _ g3 (k3.upd hl) (e1.trans ((gr2.trans gr3).ext _ _)) (r1.gro (gr2.trans gr3)) upd_same f1 f2 (cut_rp (i2.mono st))
/-- xs + ys, any lists that stand -/
def rCatX (K : PySem.W.Frag) : R2 := fun x y H Q => ∃ l b xs zs, x = V.ref l ∧ y = V.ref b ∧ SqX K H l xs ∧ SqX K H b zs ∧ xs.length + zs.length ≤ sizeLine ∧ ∀ p, H p = none → Q (V.ref p) (upd H p (.lst (xs ++ zs)))
theorem op_catX : OpR X (binaryOp .Add) (rCatX X.K) := by
  intro pins s σ H x y v u Q I rx ry h
  obtain ⟨l, b, xs, zs, rfl, rfl, hl, hb, hz, q⟩ := h
  cases rx
  cases ry
  obtain ⟨its, n, r1, z1, o1⟩ := SqX.obj I hl
  obtain ⟨its', n', r2, z2, o2⟩ := SqX.obj I hb
  have c1 := r1.length
  have c2 := r2.length
  have en : (its.toArray ++ its'.toArray) = (its ++ its').toArray := by simp
  refine PySem.P.add_list o1 o2 ?_ (by rw [List.size_toArray, List.size_toArray, ← c1, ← c2]; exact hz)
  rw [en]
  exact ⟨V.ref _, _, I.lnew (t' := s.toks) (Vals.append r1 r2) (by rw [List.length_append]; exact hz), rfl, q _ I.fresh⟩
theorem vl_cat {es' : List Dt} (ha : VE X ρ e (.lst ds) ρ1) (hb : VE X ρ1 e2 (.lst es') ρ2) (hz : ds.length + es'.length ≤ 1000000) : VL X ρ (.BinOp e .Add e2 pos) (ds ++ es') ρ2 := by
  obtain ⟨t, p, q⟩ := ha
  obtain ⟨t2, p2, q2⟩ := hb
  refine ⟨_, pe_op op_catX p p2, fun σ H g Q k r z => q σ H g _ k r fun v H1 g1 k1 e1 r1 rv => q2 σ H1 g1 _ k1 r1 fun u H2 g2 k2 e2 r2 ru => ?_⟩
  cases rv with
  | lst i1 i2 =>
    cases ru with
    | lst j1 j2 =>
      refine ⟨_, _, _, _, rfl, rfl, sqx_mono k2.1 (sqx_mono e2.st i1), sqx_mono k2.1 j1, by rw [i2.len, j2.len]; exact le_line hz, fun l hl => ?_⟩
      obtain ⟨f1, f2⟩ := k2.free hl
      exact z l _ _ g2 (k2.upd hl) (e1.trans e2) r2 upd_same f1 f2 ((i2.mono e2.st).app j2)
theorem vl_rep {i : Int} (ha : VL X ρ e ds ρ1) (hb : VE X ρ1 e2 (.int i) ρ1) (hz : -(2 ^ 63) ≤ i ∧ i < 2 ^ 63 ∧ ds.length * i.toNat ≤ 1000000) : VL X ρ (.BinOp e .Mult e2 pos) (List.replicate i.toNat ds).flatten ρ1 := by
  obtain ⟨t, p, q⟩ := ha
  obtain ⟨t2, p2, q2⟩ := hb
  refine ⟨_, pe_op op_rep p p2, fun σ H g Q k r z => q σ H g _ k r fun a xs H1 g1 k1 e1 r1 hp hs hm rv => ?_⟩
  have gr := hold_gro (g := g1) (p := a) (ds := ds) hm
  refine q2 σ H1 (g1.hold a ds) _ (hold_ok k1 hp hs rv) (r1.gro gr) fun u H2 g2 k2 e2 r2 ru => ?_
  cases ru
  have gr2 := (r1.gro gr).gro_of r2 e2
  obtain ⟨n1, ys, n2, n3⟩ := k2.2 a ds (gr2.mu a ds (if_pos rfl))
  refine ⟨a, i, ys, rfl, rfl, n2, hz.1, hz.2.1, by rw [n3.len]; exact le_line hz.2.2, fun l hl => ?_⟩
  obtain ⟨f1, f2⟩ := k2.free hl
  exact z l _ _ g2 (k2.upd hl) (e1.trans ((gr.trans gr2).ext _ _)) r2 upd_same f1 f2 (n3.rep _)
theorem flat_rep1 {α : Type} (a : α) : ∀ n : Nat, (List.replicate n [a]).flatten = List.replicate n a
  | 0 => rfl
  | n + 1 => by rw [List.replicate_succ, List.flatten_cons, flat_rep1 a n]; rfl

/-! ### repr -/
def rRepr (K : PySem.W.Frag) : List V → Hp → VK → Prop := fun xs H Q => ∃ a d, xs = [V.ref a] ∧ Dp K H (V.ref a) d ∧ d.showable = true ∧ d.depth ≤ 100 ∧ d.shown.length ≤ sizeLine ∧ Q (.str d.shown) H
mutual
theorem Dp.noDict {K : PySem.W.Frag} {H : Hp} : ∀ {v : V} {d : PyData}, Dp K H v d → d.hasDict = false
  | _, _, .non => by simp [PyData.hasDict]
  | _, _, .bl _ => by simp [PyData.hasDict]
  | _, _, .int _ => by simp [PyData.hasDict]
  | _, _, .str _ => by simp [PyData.hasDict]
  | _, _, .lst _ h => by simp [PyData.hasDict, DpAll.noDict h]
  | _, _, .tup _ h => by simp [PyData.hasDict, DpAll.noDict h]
theorem DpAll.noDict {K : PySem.W.Frag} {H : Hp} : ∀ {v : List V} {d : List PyData}, DpAll K H v d → PyData.hasDictAll d = false
  | _, _, .nil => by simp [PyData.hasDictAll]
  | _, _, .cons h t => by simp [PyData.hasDictAll, Dp.noDict h, DpAll.noDict t]
end
theorem cr_repr {k : Nat} (hgd : X.A.guards = some []) (hr : Room k X.A) : CallR X (.builtin "repr") (rRepr X.K) := by
  intro pins s σ H xs us Q I r h
  obtain ⟨a, d, rfl, hd, h1, h2, h3, q⟩ := h
  obtain ⟨u, rfl, ru⟩ := vals1 r
  cases ru
  obtain ⟨as, rd⟩ := Dp.reads I d (V.ref a) (Value.ref a) hd rfl
  refine repr_of_reads' rd h1 (fun h' => by rw [Dp.noDict hd] at h'; cases h') hgd (by have := hr.un; omega) (fun b o e => e) (fun h' t tk kp => ?_) h3
  exact ⟨.str d.shown, H, I.kept kp, ⟨t, rfl⟩, q⟩
def Dt.text (d : Dt) : Str := d.py.shown
def Dt.fits (d : Dt) : Bool := d.plain && d.py.showable && decide (d.py.depth ≤ 100) && decide (d.py.shown.length ≤ sizeLine)
theorem ve_repr {k : Nat} (hgd : X.A.guards = some []) (hr : Room k X.A) (hm : X.mg "repr" = none) (ha : VE X ρ e d ρ1) (hk : (∃ ds, d = .lst ds) ∨ ∃ ds, d = .tup ds) (hf : d.fits = true) (hg : Gl X "repr" := by rfl) (he : starEach [e] X.env = (false, eval e X.env) :: starEach [] X.env := by rfl) :
    VE X ρ (.Call (.Name "repr" p) [e] [] pos) (.str d.text) ρ1 :=
  ve_callB (cr_repr hgd hr) (fun vs H g Q kk rv q => by
    cases rv with
    | cons r1 r2 =>
      cases r2
      simp only [Dt.fits, Bool.and_eq_true, decide_eq_true_eq] at hf
      obtain ⟨⟨⟨f1, f2⟩, f3⟩, f4⟩ := hf
      have dp := dp_mono kk.1 _ _ (Rp.dp d _ f1 r1)
      rcases hk with ⟨ds, rfl⟩ | ⟨ds, rfl⟩
      · cases r1 with
        | lst h1 h2 => exact ⟨_, _, rfl, dp, f2, f3, f4, q _ H g kk (Gro.refl g) (Rp.str _)⟩
      · cases r1 with
        | tup h1 h2 => exact ⟨_, _, rfl, dp, f2, f3, f4, q _ H g kk (Gro.refl g) (Rp.str _)⟩) hm (by decide +kernel) (va_cons ha va_nil he) hg (by decide) (by decide) he

/-! ### == of data -/
theorem ve_eqD {k : Nat} {d' : Dt} {e2 : Expr} (hr : Room k X.A) (ha : VE X ρ e d ρ1) (hb : VE X ρ1 e2 d' ρ2) (h1 : d.plain = true) (h2 : d'.plain = true) (h3 : SeqAt.shaped d.py = true) (h4 : SeqAt.shaped d'.py = true) : VE X ρ (.Compare e [.Eq] [e2] pos) (.bl (PyData.eqv d.py d'.py)) ρ2 :=
  ve_cmp (op_eqD hr.units) (fun v u H g Q kk rv ru q => ⟨_, _, dp_mono kk.1 _ _ (Rp.dp d _ h1 rv), dp_mono kk.1 _ _ (Rp.dp d' _ h2 ru), h3, h4, q _ H g kk (Gro.refl g) (Rp.bl _)⟩) (nomark _) ha hb
theorem ve_neD {k : Nat} {d' : Dt} {e2 : Expr} (hr : Room k X.A) (ha : VE X ρ e d ρ1) (hb : VE X ρ1 e2 d' ρ2) (h1 : d.plain = true) (h2 : d'.plain = true) (h3 : SeqAt.shaped d.py = true) (h4 : SeqAt.shaped d'.py = true) : VE X ρ (.Compare e [.NotEq] [e2] pos) (.bl (!PyData.eqv d.py d'.py)) ρ2 :=
  ve_cmp (op_neD hr.units) (fun v u H g Q kk rv ru q => ⟨_, _, dp_mono kk.1 _ _ (Rp.dp d _ h1 rv), dp_mono kk.1 _ _ (Rp.dp d' _ h2 ru), h3, h4, q _ H g kk (Gro.refl g) (Rp.bl _)⟩) (nomark _) ha hb
/-- a test by == of data, and by != -/
theorem vt_eqD {k : Nat} {d' : Dt} {e2 : Expr} (hr : Room k X.A) (ha : VE X ρ e d ρ1) (hb : VE X ρ1 e2 d' ρ2) (h1 : d.plain = true) (h2 : d'.plain = true) (h3 : SeqAt.shaped d.py = true) (h4 : SeqAt.shaped d'.py = true) : VT X ρ (.Compare e [.Eq] [e2] pos) (PyData.eqv d.py d'.py) ρ2 :=
  vt_cmp (op_eqD hr.units) (fun v u H g Q kk rv ru q => ⟨_, _, dp_mono kk.1 _ _ (Rp.dp d _ h1 rv), dp_mono kk.1 _ _ (Rp.dp d' _ h2 ru), h3, h4, q _ H g kk (Gro.refl g) (Rp.bl _)⟩) (nomark _) ha hb
theorem vt_neD {k : Nat} {d' : Dt} {e2 : Expr} (hr : Room k X.A) (ha : VE X ρ e d ρ1) (hb : VE X ρ1 e2 d' ρ2) (h1 : d.plain = true) (h2 : d'.plain = true) (h3 : SeqAt.shaped d.py = true) (h4 : SeqAt.shaped d'.py = true) : VT X ρ (.Compare e [.NotEq] [e2] pos) (!PyData.eqv d.py d'.py) ρ2 :=
  vt_cmp (op_neD hr.units) (fun v u H g Q kk rv ru q => ⟨_, _, dp_mono kk.1 _ _ (Rp.dp d _ h1 rv), dp_mono kk.1 _ _ (Rp.dp d' _ h2 ru), h3, h4, q _ H g kk (Gro.refl g) (Rp.bl _)⟩) (nomark _) ha hb
end

section
variable {X : Cx} {Z : Fx} {ρ ρ1 ρ2 : List Sl} {κ : KD} {e io : Expr} {d : Dt} {ds : List Dt} {pos : Pos}
/-- xs[i] = e, xs a list that may be changed -/
theorem ws_item (i : Nat) {x : Str} {px ps : Pos} {s : Sl} {j : Int} {jn : Nat} (h : VE X ρ e d ρ1) (hi : VE X ρ1 io (.int j) ρ1) (hs1 : ρ1[i]? = some s := by rfl) (hc : s.cont = some ds := by rfl) (hj : ixN ds.length j = some jn) (k : κ.nx (ρ1.set i (s.put (ds.set jn d)))) (hN : X.N[i]? = some x := by rfl)
    (hv : Vis X.env.scope x := by first | exact Or.inl rfl | exact Or.inr (Or.inl rfl) | exact Or.inr (Or.inr rfl)) (hd1 : (x == ("__debug__" : Str)) = false := by decide) (hcd : (x == ("__classdict__" : Str)) = false := by decide)
    (ha : ∀ v, assign (.Subscript (.Name x px) io ps) X.env v = (do
      let ov ← holding [v] (eval (.Name x px) X.env)
      let iv ← holding [v, ov] (eval io X.env)
      standAt ps
      holding [v, ov, iv] (setItem ov iv v)
      release [v, ov, iv] []) := by intro _; rfl)
    (hs : swapsWithSole [.Subscript (.Name x px) io ps] e pos.line X.env = pure false := by rfl) (hw : swappedStores [.Subscript (.Name x px) io ps] e X.env = pure none := by rfl)
    (h1 : (assignEach [.Subscript (.Name x px) io ps] X.env).map (·.2) = [assign (.Subscript (.Name x px) io ps) X.env] := by rfl) : WS X Z ρ (.Assign [.Subscript (.Name x px) io ps] e pos) κ := by
  obtain ⟨t, p, q⟩ := h
  obtain ⟨t2, p2, q2⟩ := hi
  refine ⟨_, ps_asg p (pg_sub (pe_var hN hv hd1 hcd) p2 set_list ha) hs hw h1, fun σ H g D kk r f kd => q σ H g _ kk r fun v H1 g1 k1 e1 r1 rv => ?_⟩
  obtain ⟨pp, s', f1, f2, f3, f4⟩ := r1.cont (i := i) (ds := ds) (by rw [hs1]; exact hc)
  rw [hs1] at f1
  cases f1
  refine ⟨_, f3, q2 σ H1 g1 _ k1 r1 fun u H2 g2 k2 e2 r2 ru => ?_⟩
  cases ru
  have gr := r1.gro_of r2 e2
  have f5 := gr.mu pp ds f4
  obtain ⟨n1, xs, n2, n3⟩ := k2.2 _ _ f5
  refine ⟨_, xs, j, jn, rfl, rfl, n2, by rw [n3.len]; exact hj, ?_⟩
  let g3 : G := ⟨g2.S, fun q => if q = pp then some (ds.set jn d) else g2.M q⟩
  obtain ⟨r3, ex3⟩ := r2.put (g' := g3) (ls := ds.set jn d) hs1 f2 f3 (Same.refl _) (fun q es n e => by show (if q = pp then _ else _) = _; rw [if_neg n]; exact e) (if_pos rfl)
  refine kd.nx σ _ g3 _ ⟨fun b u e => ?_, fun q es e => ?_⟩ r3 (((f.ext e1).ext e2).ext ex3) ((e1.st.trans e2.st).trans ex3.st) k
  · have nb : b ≠ pp := fun z => by
      have e' : g2.S b = some u := e
      rw [z, n1] at e'
      cases e'
    rw [upd_ne nb]
    exact k2.1 b u e
  · have e' : (if q = pp then some (ds.set jn d) else g2.M q) = some es := e
    by_cases hq : q = pp
    · subst hq
      rw [if_pos rfl] at e'
      cases e'
      exact ⟨n1, _, upd_same, n3.set (rv.mono e2.st) jn⟩
    · rw [if_neg hq] at e'
      obtain ⟨h1, ys, h2, h3⟩ := k2.2 q es e'
      exact ⟨h1, ys, by rw [upd_ne hq]; exact h2, h3⟩
end
end DL
namespace DL
open PySem PySem.Spec PyProof.Rows L2

/-! ### a def by its body -/
section
variable {P : Program} {w : World} {K : PySem.W.Frag} {mg : Str → Option Value} {base : Heap}
/-- over readings -/
theorem fnG_of {k : Nat} {f : Addr} {x qual : Str} {st : Stmt} {fd : FuncData} {N ps : List Str} {sp : Sp} (F : Fun K x qual st f fd) (S : FnScope N ps (defScope st)) (len : ∀ vs H Q E, sp vs H Q E → vs.length = ps.length)
    (hbody : ∀ (cdv : Value) (A : Around) (outer : List Env) (s : Shared) (H : Hp) (vs : List V) (Q : VK) (E : XK), (A.deeper (envOfC qual (defScope st) s.heap.objs.size f cdv)).guards = some [] → Room k (A.deeper (envOfC qual (defScope st) s.heap.objs.size f cdv)) → sp vs H Q E →
      ∃ t, PSs (cxOf (L2.CX P w) P w K mg base N qual (defScope st) f cdv A outer s H E) (defBody st) t ∧ t { nx := fun _ H' => Q V.non H', rt := Q } (start N vs) H) : FnG P w K mg base (k + 1) f fd ps sp := by
  obtain ⟨oc, od, kV, doc, pm, an, cdv, ct, osl, rfl, lk, hcd⟩ := F.ex
  refine ⟨len, fun A outer s H args us vs Q E hgd hr e0 hb rv hsp => ?_⟩
  have inK : K.In s.heap := e0.mod.kin.keeps fun b o e => (e0.bs b o e).1
  have lim : s.heap.NoLimit := e0.mod.nolimit.keeps fun b o e => (e0.bs b o e).1
  have places : ∀ y ∈ ps.zip us, (defScope st).names.lookup y.1 = some .local ∨ ((defScope st).names.lookup y.1 = some .cell ∧ ((cellsFrom (s.heap.objs.size + 1) (defScope st).names []).lookup y.1).isSome = true) := by
    rintro ⟨n, v⟩ hy
    rcases S.par n (List.of_mem_zip hy).1 with q | q
    · exact Or.inl q
    · exact Or.inr ⟨q, PySem.W.cellsFrom_some _ _ _ (Or.inl q)⟩
  refine codeAny_call_function hr.depth (inK _ _ lk) rfl S.co S.gen rfl (PySem.W.codeRec_of inK hcd) (hb _ _ _ _ (wpAny_newFunctionEnv_cells S.kind places fun env he s1 xc => ?_))
  subst he
  refine ⟨lim.keeps xc.toInCall.keep, codeAny_func ?_⟩
  obtain ⟨t, ht, hq⟩ := hbody cdv A outer s H vs Q E hgd (hr.deeper _) hsp
  have I := inv_start (CX := L2.CX P w) (E := E) S hr.hd e0 (len _ _ _ _ hsp) rv xc
  refine wpAny_mono (ht.run [] s1 (start N vs) H _ I hq) (fun fl s' hs => ?_) fun _ _ z => z
  cases fl with
  | ret u =>
    obtain ⟨v, σ', H', J, r', q⟩ := hs
    exact ⟨v, H', J.os, J.bare, J.base, J.hok, r', q⟩
  | next =>
    obtain ⟨σ', H', J, q⟩ := hs
    exact ⟨V.non, H', J.os, J.bare, J.base, J.hok, rfl, q⟩
  | brk =>
    obtain ⟨_, _, _, z⟩ := hs
    cases z
  | cont =>
    obtain ⟨_, _, _, z⟩ := hs
    cases z
def startS (N : List Str) (ds : List Dt) : List Sl := ds.map Sl.d ++ List.replicate (N.length - ds.length) Sl.no
theorem start_rep {g : G} {N : List Str} {vs : List V} {ds : List Dt} (h : RpAll K g.S vs ds) (hl : vs.length ≤ N.length) : Rep K g (start N vs) (startS N ds) := by
  have e := h.len
  refine ⟨by unfold L2.start startS; simp [e], fun i s hi => ?_, fun i j s t p n h1 h2 w1 w2 => ?_⟩
  · unfold startS at hi
    unfold L2.start
    by_cases il : i < ds.length
    · rw [List.getElem?_append_left (by simpa using il), List.getElem?_map] at hi
      rw [List.getElem?_append_left (by simpa [e] using il), List.getElem?_map]
      obtain ⟨d, hd⟩ : ∃ d, ds[i]? = some d := ⟨ds[i], List.getElem?_eq_getElem il⟩
      rw [hd] at hi
      cases hi
      obtain ⟨v, v1, v2⟩ := h.at hd
      rw [v1]
      exact ⟨some v, rfl, v, rfl, v2⟩
    · rw [List.getElem?_append_right (by simpa using il), List.getElem?_replicate] at hi
      rw [List.getElem?_append_right (by simpa [e] using il), List.getElem?_replicate]
      split at hi
      · cases hi
        rename_i q
        rw [List.length_map] at q ⊢
        rw [if_pos (by rw [e]; exact q)]
        exact ⟨none, rfl, trivial⟩
      · cases hi
  · have no : s.bare = true := by
      unfold startS at h1
      by_cases il : i < ds.length
      · rw [List.getElem?_append_left (by simpa using il), List.getElem?_map] at h1
        cases q : ds[i]? with
        | none => rw [q] at h1; cases h1
        | some d => rw [q] at h1; cases h1; rfl
      · rw [List.getElem?_append_right (by simpa using il), List.getElem?_replicate] at h1
        split at h1
        · cases h1; rfl
        · cases h1
    exact adr_bare no w1
theorem startS_own {g : G} {N : List Str} {vs : List V} {ds : List Dt} (p : Addr) : ¬ OwnAt (start N vs) (startS N ds) p := by
  rintro ⟨i, s, h1, w1⟩
  have no : s.bare = true := by
    unfold startS at h1
    by_cases il : i < ds.length
    · rw [List.getElem?_append_left (by simpa using il), List.getElem?_map] at h1
      cases q : ds[i]? with
      | none => rw [q] at h1; cases h1
      | some d => rw [q] at h1; cases h1; rfl
    · rw [List.getElem?_append_right (by simpa using il), List.getElem?_replicate] at h1
      split at h1
      · cases h1; rfl
      · cases h1
  exact adr_bare no w1
/-- a def that changes no argument -/
theorem okD {k n : Nat} {f : Addr} {x qual : Str} {st : Stmt} {fd : FuncData} {N ps : List Str} {R : List Dt → Res → Prop} (F : Fun K x qual st f fd) (S : FnScope N ps (defScope st)) (hn : ps.length = n) (hN : ps.length ≤ N.length)
    (hret : ∀ ds r, R ds r → ∃ d, r = .ret d)
    (hbody : ∀ (cdv : Value) (A : Around) (outer : List Env) (s : Shared) (H : Hp) (E : XK) (g0 : G) (ds : List Dt) (d : Dt), (cxOf (L2.CX P w) P w K mg base N qual (defScope st) f cdv A outer s H E).A.guards = some [] → Room k (cxOf (L2.CX P w) P w K mg base N qual (defScope st) f cdv A outer s H E).A → R ds (.ret d) → ds.length = n →
      WSs (cxOf (L2.CX P w) P w K mg base N qual (defScope st) f cdv A outer s H E) ⟨[], g0, E⟩ (startS N ds) (defBody st) { nx := fun _ => d = .non, rt := fun d' _ => d' = d }) : FnG P w K mg base (k + 1) f fd ps (spD K n R) := by
  refine fnG_of F S (fun vs H Q E h => (spD_len vs H Q E h).trans hn.symm) fun cdv A outer s H vs Q E hgd hr h => ?_
  obtain ⟨g, ds, r, hl, ok, rv, hR, hq⟩ := h
  obtain ⟨d, rfl⟩ := hret ds r hR
  obtain ⟨t, p, q⟩ := hbody cdv A outer s H E g ds d hgd hr hR hl
  have rep : Rep K g (start N vs) (startS N ds) := start_rep rv (by rw [rv.len, hl, ← hn]; exact hN)
  refine ⟨t, p, q (start N vs) H g _ ok rep ⟨Same.refl _, fun _ _ _ z => z, fun p z => absurd z (startS_own (g := g) p)⟩ ⟨fun σ H' g' ρ k' r' f' s' z => ?_, fun v σ H' g' ρ d' k' r' f' s' rd z => ?_, fun _ _ _ _ _ _ _ _ z => z.elim, fun _ _ _ _ _ _ _ _ z => z.elim, fun _ _ _ _ _ _ _ _ _ _ _ _ _ _ _ z => z.elim⟩⟩
  · have z' : d = .non := z
    subst z'
    exact hq V.non H' g' k' ⟨f'.st, fun p es => f'.mu p es (by simp)⟩ Rp.non
  · have z' : d' = d := z
    subst z'
    exact hq v H' g' k' ⟨f'.st, fun p es => f'.mu p es (by simp)⟩ rd
/-- a def that hands back a new list, the caller's own -/
def spL (K : PySem.W.Frag) (n : Nat) (R : List Dt → List Dt → Prop) : Sp := fun vs H Q _ => ∃ g ds ls, ds.length = n ∧ GOk K g H ∧ RpAll K g.S vs ds ∧ R ds ls ∧
  ∀ p xs H' g', GOk K g' H' → Gro g g' → H' p = some (.lst xs) → g'.S p = none → g'.M p = none → RpAll K g'.S xs ls → Q (V.ref p) H'
theorem okL {k n : Nat} {f : Addr} {x qual : Str} {st : Stmt} {fd : FuncData} {N ps : List Str} {R : List Dt → List Dt → Prop} (F : Fun K x qual st f fd) (S : FnScope N ps (defScope st)) (hn : ps.length = n) (hN : ps.length ≤ N.length)
    (hbody : ∀ (cdv : Value) (A : Around) (outer : List Env) (s : Shared) (H : Hp) (E : XK) (g0 : G) (ds ls : List Dt), (cxOf (L2.CX P w) P w K mg base N qual (defScope st) f cdv A outer s H E).A.guards = some [] → Room k (cxOf (L2.CX P w) P w K mg base N qual (defScope st) f cdv A outer s H E).A → R ds ls → ds.length = n →
      WSs (cxOf (L2.CX P w) P w K mg base N qual (defScope st) f cdv A outer s H E) ⟨[], g0, E⟩ (startS N ds) (defBody st) { nx := fun _ => False, rt := fun _ _ => False, rl := fun ls' _ => ls' = ls }) : FnG P w K mg base (k + 1) f fd ps (spL K n R) := by
  refine fnG_of F S (fun vs H Q E h => ?_) fun cdv A outer s H vs Q E hgd hr h => ?_
  · obtain ⟨g, ds, ls, hl, _, rv, _⟩ := h
    rw [rv.len, hl, hn]
  obtain ⟨g, ds, ls, hl, ok, rv, hR, hq⟩ := h
  obtain ⟨t, p, q⟩ := hbody cdv A outer s H E g ds ls hgd hr hR hl
  have rep : Rep K g (L2.start N vs) (startS N ds) := start_rep rv (by rw [rv.len, hl, ← hn]; exact hN)
  refine ⟨t, p, q (L2.start N vs) H g _ ok rep ⟨Same.refl _, fun _ _ _ z => z, fun p z => absurd z (startS_own (g := g) p)⟩ ⟨fun _ _ _ _ _ _ _ _ z => z.elim, fun _ _ _ _ _ _ _ _ _ _ _ z => z.elim, fun _ _ _ _ _ _ _ _ z => z.elim, fun _ _ _ _ _ _ _ _ z => z.elim, fun pa xs σ H' g' ρ ds' k' r' f' s' hp hs hm rd z => ?_⟩⟩
  have z' : ds' = ls := z
  subst z'
  exact hq pa xs H' g' k' ⟨f'.st, fun p es => f'.mu p es (by simp)⟩ hp hs hm rd
/-- a def that changes its first argument, a list; it comes back with a value -/
theorem okI {k n : Nat} {f : Addr} {x qual : Str} {st : Stmt} {fd : FuncData} {N ps : List Str} {R : List Dt → List Dt → Dt → List Dt → Prop} (F : Fun K x qual st f fd) (S : FnScope N ps (defScope st)) (hn : ps.length = n + 1) (hN : ps.length ≤ N.length)
    (hbody : ∀ (cdv : Value) (A : Around) (outer : List Env) (s : Shared) (H : Hp) (E : XK) (g0 : G) (p : Addr) (ls ds : List Dt) (d : Dt) (ls' : List Dt), (cxOf (L2.CX P w) P w K mg base N qual (defScope st) f cdv A outer s H E).A.guards = some [] → Room k (cxOf (L2.CX P w) P w K mg base N qual (defScope st) f cdv A outer s H E).A → R ls ds d ls' → ds.length = n →
      WSs (cxOf (L2.CX P w) P w K mg base N qual (defScope st) f cdv A outer s H E) ⟨[p], g0, E⟩ (.i p ls :: startS (N.drop 1) ds) (defBody st) { nx := fun _ => False, rt := fun d' ρ' => d' = d ∧ ρ'[0]? = some (.i p ls') }) : FnG P w K mg base (k + 1) f fd ps (spI K n R) := by
  refine fnG_of F S (fun vs H Q E h => (spI_len vs H Q E h).trans hn.symm) fun cdv A outer s H vs Q E hgd hr h => ?_
  obtain ⟨g, p, ls, us, ds, d, ls', rfl, hl, ok, hM, rv, hR, hq⟩ := h
  obtain ⟨t, pt, q⟩ := hbody cdv A outer s H E g p ls ds d ls' hgd hr hR hl
  have e := rv.len
  have hus : us.length ≤ (N.drop 1).length := by rw [e, hl, List.length_drop]; omega
  have r0 : Rep K g (start (N.drop 1) us) (startS (N.drop 1) ds) := start_rep rv hus
  have es : start N (V.ref p :: us) = some (V.ref p) :: start (N.drop 1) us := by
    unfold L2.start
    rw [List.map_cons, List.cons_append, List.length_cons, List.length_drop, Nat.sub_sub, Nat.add_comm 1]
  have noT : ∀ (i : Nat) (s : Sl), (startS (N.drop 1) ds)[i]? = some s → s.bare = true := fun i s h1 => by
    unfold startS at h1
    by_cases il : i < ds.length
    · rw [List.getElem?_append_left (by simpa using il), List.getElem?_map] at h1
      cases q : ds[i]? with
      | none => rw [q] at h1; cases h1
      | some d => rw [q] at h1; cases h1; rfl
    · rw [List.getElem?_append_right (by simpa using il), List.getElem?_replicate] at h1
      split at h1
      · cases h1; rfl
      · cases h1
  have rep : Rep K g (start N (V.ref p :: us)) (.i p ls :: startS (N.drop 1) ds) := by
    rw [es]
    refine ⟨by rw [List.length_cons, List.length_cons, r0.len], fun i s hi => ?_, fun i j s t q n h1 h2 w1 w2 => ?_⟩
    · cases i with
      | zero => cases hi; exact ⟨_, rfl, rfl, hM⟩
      | succ i => exact r0.sl i s hi
    · cases i with
      | zero =>
        cases j with
        | zero => exact n rfl
        | succ j =>
          have z := noT j t h2
          exact (adr_bare z w2).elim
      | succ i =>
        have z := noT i s h1
        exact (adr_bare z w1).elim
  refine ⟨t, pt, q _ H g _ ok rep ⟨Same.refl _, fun _ _ _ z => z, fun q' ⟨i, s, a1, a2⟩ => ?_⟩ ⟨fun _ _ _ _ _ _ _ _ z => z.elim, fun v σ H' g' ρ d' k' r' f' s' rd z => ?_, fun _ _ _ _ _ _ _ _ z => z.elim, fun _ _ _ _ _ _ _ _ z => z.elim, fun _ _ _ _ _ _ _ _ _ _ _ _ _ _ _ z => z.elim⟩⟩
  · cases i with
    | zero =>
      cases a1
      have a3 : (L2.start N (V.ref p :: us))[0]? = some (some (V.ref q')) := a2
      rw [es] at a3
      cases a3
      exact .inl (by simp)
    | succ i =>
      have z := noT i s a1
      exact (adr_bare z a2).elim
  · obtain ⟨z1, z2⟩ := z
    subst z1
    obtain ⟨y1, y2⟩ := r'.getI z2
    exact hq v H' g' k' f'.st (fun q es n => f'.mu q es (by simpa using n)) y2 rd
end

/-! ### the law -/
theorem sqx_script {K : PySem.W.Frag} {h : Heap} {a : Addr} {vs : List Value} {ns : List Int} (X : K.In h) (ha : h.get? a = some { cls := .type "list", data := .seq vs.toArray }) (hi : IntsAre vs ns) (hl : ns.length ≤ sizeLine) {o : Obj} (hk : K.lookup a = some o) :
    K.lookup a = some { cls := .type "list", data := .seq vs.toArray } := by
  have e := X a o hk
  rw [ha] at e
  rw [hk, e]
/-- the law's def keeps its promise: so the law holds. As the layer's own end, for defs that run where nothing is being shown -/
theorem law_g {P : Program} {w : World} {K : PySem.W.Frag} {mg mb : Str → Option Value} {k : Nat} {fa a : Addr} {fd : FuncData} {x : Str} {R : List Dt → Res → Prop} {s₁ : Shared} {vs : List Value} {ns : List Int}
    (inK : K.In s₁.heap) (hns : s₁.heap.Ns mainGlobals mg) (hb : s₁.heap.Ns builtinsNs mb) (hbb : ∀ y : Str, y ≠ "__name__" → mb y = bootBuiltins y) (hlim : s₁.heap.NoLimit) (hg : s₁.gens = #[])
    (ha : s₁.heap.get? a = some { cls := .type "list", data := .seq vs.toArray }) (hi : IntsAre vs ns) (hl : ns.length ≤ sizeLine) (hr : Room k callerA)
    (F : ∀ base : Heap, K.In base → base.Ns mainGlobals mg → FnG P w K mg base k fa fd [x] (spD K 1 R)) (hbind : ∀ (s : Shared) (u : Value), BindsTo s fd ⟨[u], []⟩ [(x, u)]) (hR : R [.lst (ns.map Dt.int)] (.ret (.bl true))) :
    codeAny (model P w) callerA (.call (.ref fa) ⟨[.ref a], []⟩) (fun r s' => r = .ok (.ret (.bool true)) ∧ OldK s₁.heap s'.heap ∧ s'.os = s₁.os ∧ AllBare s'.gens) s₁ := by
  let lo : HO := .frz { cls := .type "list", data := .seq vs.toArray } (.lst (ns.map V.int))
  -- what is tracked: the script, where it is no object of the module
  obtain ⟨H, hH⟩ : ∃ H : Hp, H = fun b => if b = a ∧ K.lookup a = none then some lo else none := ⟨_, rfl⟩
  have at_ : ∀ b o, H b = some o → b = a ∧ K.lookup a = none ∧ o = lo := fun b o e => by
    rw [hH] at e
    by_cases q : b = a ∧ K.lookup a = none
    · have e' := (if_pos q).symm.trans e
      cases e'
      exact ⟨q.1, q.2, rfl⟩
    · have e' := (if_neg q).symm.trans e
      cases e'
  have rv := vals_ints hi
  have ok : HOk P w H s₁.heap := fun b o e => by
    obtain ⟨rfl, _, rfl⟩ := at_ b o e
    exact ⟨ha, by rw [List.length_map]; exact hl, vs, 0, rv, ha⟩
  have stays : ∀ {b : Addr} {o : Obj}, s₁.heap.get? b = some o → H b = none → (hidT s₁.heap H).get? b = some o := fun e n => hidT_get e n
  have noD : ∀ {b : Addr} {o : Obj} {es : Array DictEntry} {ep : Nat}, s₁.heap.get? b = some o → o.data = .dict es ep → H b = none := fun {b o es ep} e d => by
    cases q : H b with
    | none => rfl
    | some u =>
      obtain ⟨rfl, _, _⟩ := at_ b u q
      rw [ha] at e
      cases e
      cases d
  have space : ∀ {b : Addr} {m : Str → Option Value}, s₁.heap.Ns b m → (hidT s₁.heap H).Ns b m := fun {b m} z => by
    obtain ⟨o, es, ep, e, d, r⟩ := z
    exact ⟨o, es, ep, stays e (noD e d), d, r⟩
  have inB : K.In (hidT s₁.heap H) := fun b o e => stays (inK b o e) (by
    cases q : H b with
    | none => rfl
    | some u =>
      obtain ⟨rfl, z, _⟩ := at_ b u q
      rw [z] at e
      cases e)
  have hM : Mod K mg (hidT s₁.heap H) := ⟨inB, space hns, ⟨mb, space hb, hbb⟩, by obtain ⟨mc, h1, h2⟩ := hlim; exact ⟨mc, space h1, h2⟩⟩
  have e0 : Env0 P w K mg (hidT s₁.heap H) callerA [] s₁ H := ⟨rfl, hM, fun b o e => of_hidT e, Nat.le_of_eq (hidT_size _ _), trivial, fun b z => absurd (show b ∈ ([] : List Addr) from z) (by simp), ok, .of_eq hg⟩
  have sq : SqX K H a (ns.map V.int) := by
    cases hk : K.lookup a with
    | some o => exact .inr ⟨vs.toArray, 0, sqx_script inK ha hi hl hk, by rw [List.size_toArray, hi.length]; exact hl, by simpa using rv⟩
    | none => exact .inl (.inr ⟨_, by rw [hH]; exact if_pos ⟨rfl, hk⟩⟩)
  have sp : spD K 1 R [V.ref a] H (fun v _ => v = V.bl true) fun _ _ _ => False := ⟨⟨H, fun _ => none⟩, [.lst (ns.map Dt.int)], .ret (.bl true), rfl, ⟨fun _ _ e => e, fun _ _ e => by cases e⟩, .cons (.lst sq (RpAll.of_ints ns)) .nil, hR, fun v H' g' k' gr rd => by cases rd; rfl⟩
  refine codeAny_mono ((F _ inB (space hns)).go callerA [] s₁ H ⟨[.ref a], []⟩ [.ref a] [V.ref a] _ _ rfl hr e0 (hbind s₁ (.ref a)) (.cons rfl .nil) sp) fun r s' h => ?_
  cases r with
  | error e =>
    have h' : L2.CX P w [] H s₁ (fun _ _ _ => False) e s' := h
    obtain ⟨_, _, _, _, _, _, _, _, _, _, _, _, z⟩ := h'
    cases z
  | ok fl =>
    cases fl with
    | next => cases h
    | brk => cases h
    | cont => cases h
    | ret u =>
      obtain ⟨v, H', os, bare, un, hok', r', q⟩ := h
      obtain rfl : v = V.bl true := q
      obtain rfl : u = Value.bool true := r'
      refine ⟨rfl, OldK.of_keep fun b o e => ?_, os, bare⟩
      cases q : H b with
      | none => exact un.keep b o e q (fun z => absurd (show b ∈ ([] : List Addr) from z) (by simp)) (by simp)
      | some u =>
        obtain ⟨_, _, rfl⟩ := at_ b u q
        obtain ⟨e1, _⟩ := ok b _ q
        obtain ⟨e2, _⟩ := hok' b _ (un.frzs b _ _ q)
        rw [e] at e1
        cases e1
        exact e2
theorem walk_g {l : PySem.W.OpenLaw} {n k : Nat} {q : Program} {loose : List Str} {XP : (Str → Option Value) → Heap → Prop} {YP : World → Heap → Prop} {d : DefRec} {K : Params → PySem.W.Frag} {x : Str} {R : List Dt → Res → Prop}
    (hn : l.most = some n) (hn2 : n ≤ sizeLine) (hdf : d.params.defaults = []) (hr : Room k callerA) (hY : ∀ (w : World) (h : Heap), YP w h → (K w.params).In h)
    (F : ∀ (w : World) (mg : Str → Option Value) (fa : Addr) (h : Heap), (K w.params).In h → h.Ns mainGlobals mg → mg d.name = some (.ref fa) →
      ∃ fd : FuncData, (∀ (s : Shared) (u : Value), BindsTo s fd ⟨[u], []⟩ [(x, u)]) ∧ ∀ base : Heap, (K w.params).In base → base.Ns mainGlobals mg → FnG l.prog w (K w.params) mg base k fa fd [x] (spD (K w.params) 1 R))
    (hR : ∀ ns : List Int, ns.length ≤ n → R [.lst (ns.map Dt.int)] (.ret (.bl true))) : PySem.W.WalkO q loose XP YP l.row.toRowW d [] (fun f vs => PySem.call f vs) := by
  refine Att.attach_call hn hdf fun w s₀ s₁ mg mb fa o pm cd doc a vs ns G Y ho hd hcd hmg hobj hints hlen hg => ?_
  have inK := hY w _ Y
  obtain ⟨fd, hb, hF⟩ := F w mg fa _ inK G.T.g hmg
  exact law_g inK G.T.g G.T.b G.T.builtins G.T.nolimit hg hobj hints (Nat.le_trans hlen hn2) hr hF hb (hR ns hlen)
end DL
namespace DL
open PySem PySem.Spec PyProof.Rows L2

/-! ### isinstance -/
def Dt.ty : Dt → String
  | .non => "NoneType"
  | .bl _ => "bool"
  | .int _ => "int"
  | .str _ => "str"
  | .lst _ => "list"
  | .tup _ => "tuple"
  | .opq _ => ""
theorem tyN : Dt.non.ty ≠ "" := (show ("NoneType" : String) ≠ "" by decide)
theorem tyB {b : Bool} : (Dt.bl b).ty ≠ "" := (show ("bool" : String) ≠ "" by decide)
theorem tyI {i : Int} : (Dt.int i).ty ≠ "" := (show ("int" : String) ≠ "" by decide)
theorem tyS {x : Str} : (Dt.str x).ty ≠ "" := (show ("str" : String) ≠ "" by decide)
theorem tyL {ds : List Dt} : (Dt.lst ds).ty ≠ "" := (show ("list" : String) ≠ "" by decide)
theorem tyT {ds : List Dt} : (Dt.tup ds).ty ≠ "" := (show ("tuple" : String) ≠ "" by decide)
theorem tyx_list {K : PySem.W.Frag} {H : Hp} {a : Addr} {xs : List V} (h : SqX K H a xs) : TyX K H (V.ref a) (.type "list") := by
  rcases h with (h | ⟨o, h⟩) | ⟨its, n, h, _⟩
  · exact .base (.lst h)
  · exact .base (.frz h)
  · exact .kList h rfl
theorem tyx_tup {K : PySem.W.Frag} {H : Hp} {a : Addr} {xs : List V} (h : SqT K H a xs) : TyX K H (V.ref a) (.type "tuple") := by
  rcases h with (h | ⟨o, h⟩) | ⟨o, its, n, h, c, _⟩
  · exact .base (.tup h)
  · exact .fTuple h
  · exact .kTuple h c
theorem Rp.tyx {K : PySem.W.Frag} {S H : Hp} {v : V} {d : Dt} (e : Same S H) (h : Rp K S v d) (n : d.ty ≠ "") : TyX K H v (.type d.ty) := by
  cases h with
  | non => exact .base .non
  | bl b => exact .base (.bl b)
  | int i => exact .base (.int i)
  | str x => exact .base (.str x)
  | lst h1 _ => exact tyx_list (sqx_mono e h1)
  | tup h1 _ => exact tyx_tup (sqt_mono e h1)
  | opq a => exact absurd rfl n
section
variable {X : Cx} {ρ ρ1 : List Sl} {e : Expr} {d : Dt} {pos p p2 : Pos} {T : String} {tn : Str} {b : Bool}
theorem ve_isi (hm : X.mg "isinstance" = none) (hm2 : X.mg tn = none) (ha : VE X ρ e d ρ1) (hk : kitB d.ty T = some b) (n : d.ty ≠ "") (ht : bootBuiltins tn = some (.type T)) (hg : Gl X "isinstance" := by rfl) (hg2 : Gl X tn := by rfl) (hn2 : tn ≠ "__name__" := by decide) (hd2 : (tn == ("__debug__" : Str)) = false := by decide)
    (he : starEach [e, .Name tn p2] X.env = (false, eval e X.env) :: starEach [.Name tn p2] X.env := by rfl) (he2 : starEach [.Name tn p2] X.env = (false, eval (.Name tn p2) X.env) :: starEach [] X.env := by rfl) (hpl : (backTo pos (starEach [.Name tn p2] X.env)).any (·.1) = false := by rfl) :
    VE X ρ (.Call (.Name "isinstance" p) [e, .Name tn p2] [] pos) (.bl b) ρ1 := by
  obtain ⟨t, pa, qa⟩ := ha
  refine ⟨_, pe_callB call_isi hg hm (by decide +kernel) (pa_cons pa (pa_cons (pe_bltn (v := V.ty T) hg2 hm2 ht rfl hn2 hd2) pa_nil he2) he) (by decide) (by decide) he hpl, fun σ H g Q k rp q => qa σ H g _ k rp fun v H1 g1 k1 e1 r1 rv => ?_⟩
  exact ⟨v, V.ty T, _, _, b, rfl, .ty T, rv.tyx k1.1 n, kit_ty hk, q _ H1 g1 k1 e1 r1 (Rp.bl b)⟩
end
/-- which of its classes a piece of data is an instance of -/
def Dt.isInt : Dt → Bool
  | .int _ => true
  | .bl _ => true
  | _ => false
def Dt.isBool : Dt → Bool
  | .bl _ => true
  | _ => false
def Dt.isLst : Dt → Bool
  | .lst _ => true
  | _ => false
def Dt.isTup : Dt → Bool
  | .tup _ => true
  | _ => false
def Dt.isStr : Dt → Bool
  | .str _ => true
  | _ => false
theorem kit_isInt (d : Dt) (n : d.ty ≠ "") : kitB d.ty "int" = some d.isInt := by
  cases d with
  | non => exact (show kitB "NoneType" "int" = some false by decide +kernel)
  | bl _ => exact (show kitB "bool" "int" = some true by decide +kernel)
  | int _ => exact (show kitB "int" "int" = some true by decide +kernel)
  | str _ => exact (show kitB "str" "int" = some false by decide +kernel)
  | lst _ => exact (show kitB "list" "int" = some false by decide +kernel)
  | tup _ => exact (show kitB "tuple" "int" = some false by decide +kernel)
  | opq _ => exact absurd rfl n
theorem kit_isBool (d : Dt) (n : d.ty ≠ "") : kitB d.ty "bool" = some d.isBool := by
  cases d with
  | non => exact (show kitB "NoneType" "bool" = some false by decide +kernel)
  | bl _ => exact (show kitB "bool" "bool" = some true by decide +kernel)
  | int _ => exact (show kitB "int" "bool" = some false by decide +kernel)
  | str _ => exact (show kitB "str" "bool" = some false by decide +kernel)
  | lst _ => exact (show kitB "list" "bool" = some false by decide +kernel)
  | tup _ => exact (show kitB "tuple" "bool" = some false by decide +kernel)
  | opq _ => exact absurd rfl n
theorem kit_isLst (d : Dt) (n : d.ty ≠ "") : kitB d.ty "list" = some d.isLst := by
  cases d with
  | non => exact (show kitB "NoneType" "list" = some false by decide +kernel)
  | bl _ => exact (show kitB "bool" "list" = some false by decide +kernel)
  | int _ => exact (show kitB "int" "list" = some false by decide +kernel)
  | str _ => exact (show kitB "str" "list" = some false by decide +kernel)
  | lst _ => exact (show kitB "list" "list" = some true by decide +kernel)
  | tup _ => exact (show kitB "tuple" "list" = some false by decide +kernel)
  | opq _ => exact absurd rfl n
theorem kit_isTup (d : Dt) (n : d.ty ≠ "") : kitB d.ty "tuple" = some d.isTup := by
  cases d with
  | non => exact (show kitB "NoneType" "tuple" = some false by decide +kernel)
  | bl _ => exact (show kitB "bool" "tuple" = some false by decide +kernel)
  | int _ => exact (show kitB "int" "tuple" = some false by decide +kernel)
  | str _ => exact (show kitB "str" "tuple" = some false by decide +kernel)
  | lst _ => exact (show kitB "list" "tuple" = some false by decide +kernel)
  | tup _ => exact (show kitB "tuple" "tuple" = some true by decide +kernel)
  | opq _ => exact absurd rfl n
theorem kit_isStr (d : Dt) (n : d.ty ≠ "") : kitB d.ty "str" = some d.isStr := by
  cases d with
  | non => exact (show kitB "NoneType" "str" = some false by decide +kernel)
  | bl _ => exact (show kitB "bool" "str" = some false by decide +kernel)
  | int _ => exact (show kitB "int" "str" = some false by decide +kernel)
  | str _ => exact (show kitB "str" "str" = some true by decide +kernel)
  | lst _ => exact (show kitB "list" "str" = some false by decide +kernel)
  | tup _ => exact (show kitB "tuple" "str" = some false by decide +kernel)
  | opq _ => exact absurd rfl n
section
variable {X : Cx} {ρ ρ1 : List Sl} {e : Expr} {d : Dt} {pos p p2 : Pos}
theorem ve_isInt (hm : X.mg "isinstance" = none) (hm2 : X.mg "int" = none) (ha : VE X ρ e d ρ1) (n : d.ty ≠ "") (hg : Gl X "isinstance" := by rfl) (hg2 : Gl X "int" := by rfl)
    (he : starEach [e, .Name "int" p2] X.env = (false, eval e X.env) :: starEach [.Name "int" p2] X.env := by rfl) : VE X ρ (.Call (.Name "isinstance" p) [e, .Name "int" p2] [] pos) (.bl d.isInt) ρ1 := ve_isi hm hm2 ha (kit_isInt d n) n (by decide +kernel) hg hg2 (by decide) (by decide) he
theorem ve_isBool (hm : X.mg "isinstance" = none) (hm2 : X.mg "bool" = none) (ha : VE X ρ e d ρ1) (n : d.ty ≠ "") (hg : Gl X "isinstance" := by rfl) (hg2 : Gl X "bool" := by rfl)
    (he : starEach [e, .Name "bool" p2] X.env = (false, eval e X.env) :: starEach [.Name "bool" p2] X.env := by rfl) : VE X ρ (.Call (.Name "isinstance" p) [e, .Name "bool" p2] [] pos) (.bl d.isBool) ρ1 := ve_isi hm hm2 ha (kit_isBool d n) n (by decide +kernel) hg hg2 (by decide) (by decide) he
theorem ve_isLst (hm : X.mg "isinstance" = none) (hm2 : X.mg "list" = none) (ha : VE X ρ e d ρ1) (n : d.ty ≠ "") (hg : Gl X "isinstance" := by rfl) (hg2 : Gl X "list" := by rfl)
    (he : starEach [e, .Name "list" p2] X.env = (false, eval e X.env) :: starEach [.Name "list" p2] X.env := by rfl) : VE X ρ (.Call (.Name "isinstance" p) [e, .Name "list" p2] [] pos) (.bl d.isLst) ρ1 := ve_isi hm hm2 ha (kit_isLst d n) n (by decide +kernel) hg hg2 (by decide) (by decide) he
theorem ve_isTup (hm : X.mg "isinstance" = none) (hm2 : X.mg "tuple" = none) (ha : VE X ρ e d ρ1) (n : d.ty ≠ "") (hg : Gl X "isinstance" := by rfl) (hg2 : Gl X "tuple" := by rfl)
    (he : starEach [e, .Name "tuple" p2] X.env = (false, eval e X.env) :: starEach [.Name "tuple" p2] X.env := by rfl) : VE X ρ (.Call (.Name "isinstance" p) [e, .Name "tuple" p2] [] pos) (.bl d.isTup) ρ1 := ve_isi hm hm2 ha (kit_isTup d n) n (by decide +kernel) hg hg2 (by decide) (by decide) he
theorem ve_isStr (hm : X.mg "isinstance" = none) (hm2 : X.mg "str" = none) (ha : VE X ρ e d ρ1) (n : d.ty ≠ "") (hg : Gl X "isinstance" := by rfl) (hg2 : Gl X "str" := by rfl)
    (he : starEach [e, .Name "str" p2] X.env = (false, eval e X.env) :: starEach [.Name "str" p2] X.env := by rfl) : VE X ρ (.Call (.Name "isinstance" p) [e, .Name "str" p2] [] pos) (.bl d.isStr) ρ1 := ve_isi hm hm2 ha (kit_isStr d n) n (by decide +kernel) hg hg2 (by decide) (by decide) he
end

/-! ### a def where it stands, with all that a call of it asks -/
structure FnAt (P : Program) (w : World) (K : PySem.W.Frag) (mg : Str → Option Value) (base : Heap) (x : Str) (st : Stmt) (k : Nat) (ps : List Str) (sp : Sp) : Prop where
  it : ∃ (f : Addr) (fd : FuncData), mg x = some (.ref f) ∧ Fun K x x st f fd ∧ Binds K fd ps [] ∧ FnG P w K mg base k f fd ps sp
/-- a list's items at some places -/
def perm {α : Type} (π : List Nat) (l : List α) : List α := π.filterMap fun i => l[i]?
theorem perm_vals {vs : List V} {us : List Value} (r : Vals vs us) : ∀ π : List Nat, Vals (perm π vs) (perm π us)
  | [] => .nil
  | i :: π => by
    have ih := perm_vals r π
    unfold perm at ih ⊢
    rw [List.filterMap_cons, List.filterMap_cons]
    cases e : vs[i]? with
    | none =>
      rw [Vals.none_of r e]
      exact ih
    | some x =>
      obtain ⟨u, e2, r2⟩ := Vals.get r e
      rw [e2]
      exact .cons r2 ih
theorem perm_rp {K : PySem.W.Frag} {S : Hp} {vs : List V} {us : List Dt} (r : RpAll K S vs us) : ∀ π : List Nat, RpAll K S (perm π vs) (perm π us)
  | [] => .nil
  | i :: π => by
    have ih := perm_rp r π
    unfold perm at ih ⊢
    rw [List.filterMap_cons, List.filterMap_cons]
    cases e : vs[i]? with
    | none =>
      have z : us[i]? = none := by
        rw [List.getElem?_eq_none_iff] at e ⊢
        rw [← r.len]
        exact e
      rw [z]
      exact ih
    | some x =>
      obtain ⟨u, e2, r2⟩ := r.atV e
      rw [e2]
      exact .cons r2 ih
section
variable {X : Cx} {ρ ρ1 : List Sl} {k n : Nat} {ps ks : List Str} {x : Str} {st : Stmt} {p pos : Pos} {e : Expr} {es : List Expr} {kws : List Keyword} {ds : List Dt} {d : Dt} {R : List Dt → Res → Prop}
theorem vc (F : FnAt X.prog X.w X.K X.mg X.base x st k ps (spD X.K n R)) (hgd : X.A.guards = some []) (hr : Room k X.A) (ha : VA X ρ (e :: es) ds ρ1) (hR : R ds (.ret d)) (hn : ds.length = n := by rfl) (hg : Gl X x := by rfl) (hdb : (x == ("__debug__" : Str)) = false := by decide)
    (he : starEach (e :: es) X.env = (false, eval e X.env) :: starEach es X.env := by rfl) (hpl : (backTo pos (starEach es X.env)).any (·.1) = false := by rfl) : VE X ρ (.Call (.Name x p) (e :: es) [] pos) d ρ1 := by
  obtain ⟨f, fd, h1, h2, h3, h4⟩ := F.it
  exact ve_call hgd hr h4 h1 h2.kp h3 ha hR hn hg hdb he hpl
theorem vcL {R : List Dt → List Dt → Prop} {ls : List Dt} (F : FnAt X.prog X.w X.K X.mg X.base x st k ps (spL X.K n R)) (hgd : X.A.guards = some []) (hr : Room k X.A) (ha : VA X ρ (e :: es) ds ρ1) (hR : R ds ls) (hn : ds.length = n := by rfl) (hg : Gl X x := by rfl) (hdb : (x == ("__debug__" : Str)) = false := by decide)
    (he : starEach (e :: es) X.env = (false, eval e X.env) :: starEach es X.env := by rfl) (hpl : (backTo pos (starEach es X.env)).any (·.1) = false := by rfl) : VL X ρ (.Call (.Name x p) (e :: es) [] pos) ls ρ1 := by
  obtain ⟨f, fd, h1, h2, h3, h4⟩ := F.it
  obtain ⟨t, pa, qa⟩ := ha
  refine ⟨_, pe_callG h4 hgd hr hg h1 h2.kp h3 passL pa hdb he hpl, fun σ H g Q kk rp q => qa σ H g _ kk rp fun vs H1 g1 k1 e1 r1 rv => ?_⟩
  exact ⟨g1, ds, ls, hn, k1, rv, hR, fun p xs H2 g2 k2 gr hp hs hm rd => q p xs H2 g2 k2 (e1.trans (gr.ext _ _)) (r1.gro gr) hp hs hm rd⟩
theorem vcI {R : List Dt → List Dt → Dt → List Dt → Prop} {ls ls' : List Dt} {s : Sl} (i : Nat) {nm : Str} {pos' : Pos} (F : FnAt X.prog X.w X.K X.mg X.base x st k ps (spI X.K n R)) (hgd : X.A.guards = some []) (hr : Room k X.A)
    (ha : VA X ρ es ds ρ1) (hs : ρ1[i]? = some s) (hc : s.cont = some ls) (hR : R ls ds d ls') (hn : ds.length = n := by rfl) (hN : X.N[i]? = some nm := by rfl) (hv : Vis X.env.scope nm := by first | exact Or.inl rfl | exact Or.inr (Or.inl rfl) | exact Or.inr (Or.inr rfl))
    (hsl : ∃ s0, ρ[i]? = some s0 ∧ s0.own = true := by exact ⟨_, rfl, rfl⟩) (hg : Gl X x := by rfl) (hdb : (x == ("__debug__" : Str)) = false := by decide) (he : starEach (.Name nm pos' :: es) X.env = (false, eval (.Name nm pos') X.env) :: starEach es X.env := by rfl) (hpl : (backTo pos (starEach es X.env)).any (·.1) = false := by rfl)
    (hd1 : (nm == ("__debug__" : Str)) = false := by decide) (hcd : (nm == ("__classdict__" : Str)) = false := by decide) : VE X ρ (.Call (.Name x p) (.Name nm pos' :: es) [] pos) d (ρ1.set i (s.put ls')) := by
  obtain ⟨f, fd, h1, h2, h3, h4⟩ := F.it
  exact ve_callI i hgd hr h4 h1 h2.kp h3 ha hs hc hR hn hN hv hsl hg hdb he hpl hd1 hcd
/-- all by keywords, π the places of the parameters among them -/
theorem vck (π : List Nat) (F : FnAt X.prog X.w X.K X.mg X.base x st k ps (spD X.K n R)) (hgd : X.A.guards = some []) (hr : Room k X.A)
    (hb : ∀ (kV doc pm : Value) (an : Option Addr) (cdv ct : Value) (ws : List Value), ws.length = ks.length → bindArgs (PySem.W.fnOf x x (defArgs st) (defBody st) (defScope st) .none kV doc pm an cdv ct) ⟨[], ks.zip ws⟩ = pure (ps.zip (perm π ws)))
    (ha : VK' X ρ kws ds ρ1) (hR : R (perm π ds) (.ret d)) (hn : (perm π ds).length = n := by rfl) (hkl : ds.length = ks.length := by rfl) (hg : Gl X x := by rfl) (hall : (backToKw pos (keywordEach kws X.env)).all (·.1.isSome) = true := by rfl) (hks : (backToKw pos (keywordEach kws X.env)).filterMap (·.1) = ks := by rfl)
    (hdb : (x == ("__debug__" : Str)) = false := by decide) (hpl : ((backTo pos (starEach [] X.env)).any (·.1) || (backToKw pos (keywordEach kws X.env)).any (·.1.isNone)) = false := by rfl) : VE X ρ (.Call (.Name x p) [] kws pos) d ρ1 := by
  obtain ⟨f, fd, h1, h2, h3, h4⟩ := F.it
  obtain ⟨oc, od, kV, doc, pm, an, cdv, ct, osl, rfl, lk, hcd⟩ := h2.ex
  obtain ⟨t, pa, qa⟩ := ha
  -- the keywords' values are as many as the names
  let sp' : Sp := spD X.K n R
  refine ⟨fun σ H Q => t σ H fun zs H1 => zs.length = ks.length ∧ sp' (perm π zs) H1 Q E0, ⟨fun pins s σ H Q I h => ?_⟩, fun σ H g Q kk rp q => qa σ H g _ kk rp fun vs H1 g1 k1 e1 r1 rv => ⟨by rw [rv.len]; exact hkl, ?_⟩⟩
  · refine wpAny_Call_Name_kw (ld_glob I hg h1 (PySem.W.callWith_KW0 (h₀ := X.base) I.ok.mod.kin h2.kp hall (thn (pa.run pos pins s σ H _ I h) fun ws s1 ⟨zs, H1, I1, r, hl, q⟩ => ⟨I1.kIn, ?_⟩) hpl) hdb)
    rw [hks]
    exact run_g h4 hgd hr (fun _ => .of_eq (hb kV doc pm an cdv ct ws (by rw [← r.length]; exact hl))) passL I1 (perm_vals r π) q
  · exact ⟨g1, perm π ds, .ret d, hn, k1, perm_rp rv π, hR, fun v H2 g2 k2 gr rd => q v H2 g2 k2 (e1.trans (gr.ext _ _)) (r1.gro gr) rd⟩
end
end DL
namespace DL
open PySem PySem.Spec PyProof.Rows L2

/-! ### bounds on ints, by powers of two -/
def Bd (n : Nat) (i : Int) : Prop := i.natAbs < 2 ^ n
section
variable {a b n : Nat} {i j : Int}
theorem Bd.up (h : Bd a i) (hab : a ≤ b) : Bd b i := Nat.lt_of_lt_of_le h (Nat.pow_le_pow_right (by decide) hab)
theorem Bd.neg (h : Bd a i) : Bd a (-i) := by unfold Bd at *; rw [Int.natAbs_neg]; exact h
theorem two_pow_succ' (n : Nat) : 2 ^ (n + 1) = 2 ^ n + 2 ^ n := by rw [Nat.pow_succ]; omega
theorem Bd.add (h : Bd a i) (h' : Bd b j) : Bd (max a b + 1) (i + j) := by
  have h1 : i.natAbs < 2 ^ (max a b) := h.up (Nat.le_max_left a b)
  have h2 : j.natAbs < 2 ^ (max a b) := h'.up (Nat.le_max_right a b)
  unfold Bd
  rw [two_pow_succ']
  omega
theorem Bd.sub (h : Bd a i) (h' : Bd b j) : Bd (max a b + 1) (i - j) := by
  rw [Int.sub_eq_add_neg]
  exact h.add h'.neg
theorem Bd.mul (h : Bd a i) (h' : Bd b j) : Bd (a + b) (i * j) := by
  unfold Bd at *
  rw [Int.natAbs_mul, Nat.pow_add]
  exact Nat.mul_lt_mul'' h h'
theorem Bd.le (h : Bd a j) (h1 : i.natAbs ≤ j.natAbs) : Bd a i := Nat.lt_of_le_of_lt h1 h
theorem Bd.div (h : Bd a i) (hj : 0 < j) : Bd (a + 1) (i / j) := by
  have e : (i / j).natAbs ≤ i.natAbs + 1 := by
    have h1 : i / j ≤ (i.natAbs : Int) := by
      have z := Int.ediv_le_self (a := (i.natAbs : Int)) j (by omega)
      have z2 : i / j ≤ (i.natAbs : Int) / j := Int.ediv_le_ediv hj (by omega)
      omega
    have h2 : -((i.natAbs : Int)) - 1 ≤ i / j := by
      have z2 : (-(i.natAbs : Int)) / j ≤ i / j := Int.ediv_le_ediv hj (by omega)
      have z3 : -((i.natAbs : Int)) ≤ (-(i.natAbs : Int)) / j := by
        rw [Int.le_ediv_iff_mul_le hj]
        have p : 0 ≤ (i.natAbs : Int) := by omega
        have q : (i.natAbs : Int) * 1 ≤ (i.natAbs : Int) * j := Int.mul_le_mul_of_nonneg_left (by omega) p
        rw [Int.neg_mul]
        omega
      omega
    omega
  have p := two_pow_succ' a
  have q : 0 < 2 ^ a := Nat.pow_pos (by decide)
  unfold Bd at *
  omega
theorem Bd.mod (h : Bd b j) (hj : 0 < j) : Bd b (i % j) := by
  have h1 := Int.emod_nonneg i (show j ≠ 0 by omega)
  have h2 := Int.emod_lt_of_pos i hj
  unfold Bd at *
  omega
theorem Bd.pow (h : Bd a i) (n : Nat) : Bd (a * n + 1) (i ^ n) := by
  unfold Bd at *
  rw [Int.natAbs_pow]
  refine Nat.lt_of_le_of_lt (Nat.pow_le_pow_left (Nat.le_of_lt h) n) ?_
  rw [← Nat.pow_mul]
  exact Nat.pow_lt_pow_right (by decide) (by omega)
theorem Bd.max (h : Bd a i) (h' : Bd b j) : Bd (Nat.max a b) (max i j) := by
  by_cases q : i ≤ j
  · rw [Int.max_eq_right q]; exact h'.up (Nat.le_max_right a b)
  · rw [Int.max_eq_left (by omega)]; exact h.up (Nat.le_max_left a b)
theorem Bd.min (h : Bd a i) (h' : Bd b j) : Bd (Nat.max a b) (min i j) := by
  by_cases q : i ≤ j
  · rw [Int.min_eq_left q]; exact h.up (Nat.le_max_left a b)
  · rw [Int.min_eq_right (by omega)]; exact h'.up (Nat.le_max_right a b)
theorem Bd.b2n (k : Bool) : Bd 1 (b2n k) := by
  cases k with
  | true => exact (show (1 : Nat) < 2 ^ 1 by decide)
  | false => exact (show (0 : Nat) < 2 ^ 1 by decide)
theorem Bd.lit (h : i.natAbs.blt (2 ^ n) = true) : Bd n i := by
  unfold Bd
  exact Nat.blt_eq.mp h
theorem Bd.len {α : Type} {l : List α} (h : l.length ≤ 1000000) : Bd 20 (l.length : Int) := by
  unfold Bd
  omega
theorem Bd.log (h : Bd a i) : i.natAbs.log2 ≤ a := by
  have q : i.natAbs < 2 ^ (a + 1) := Nat.lt_trans h (Nat.pow_lt_pow_right (by decide) (by omega))
  have z := PySem.Flt.log2_lt_of (by omega) q
  omega
theorem bd_mul (h : Bd a i) (h' : Bd b j) (hab : a + b < 1000000) : CMulW i j := by
  have := h.log
  have := h'.log
  unfold CMulW
  omega
theorem bd_div (hj : 0 < j) (h' : Bd b j) (hb : b < 9000) : CDivW i j := ⟨hj, by have := h'.log; omega⟩
theorem bd_pow (h : Bd a i) (hj : 0 ≤ j) (hb : ((a + 1 : Nat) : Int) * j ≤ 2 ^ 27) : CPowD i j := by
  refine ⟨hj, ?_⟩
  have e : Builtin.Int.intBits i ≤ a + 1 := by
    have := h.log
    unfold Builtin.Int.intBits
    split <;> omega
  refine Int.le_trans (Int.mul_le_mul_of_nonneg_right ?_ hj) hb
  omega
end

/-! ### the module's ints -/
theorem ve_gi {X : Cx} {ρ : List Sl} {nm : Str} {i : Int} {pos : Pos} (h : ∃ t, X.mg nm = some (Value.int i t)) (hg : Gl X nm := by rfl) (hd : (nm == ("__debug__" : Str)) = false := by decide) : VE X ρ (.Name nm pos) (.int i) ρ := by
  obtain ⟨t, h⟩ := h
  exact ve_globI hg h ⟨t, rfl⟩ hd
/-! ### least of three -/
section
variable {X : Cx} {ρ ρ1 : List Sl} {e e2 e3 : Expr} {pos p : Pos} {i j l : Int}
theorem vals_3 {x y z : V} {us : List Value} (r : Vals [x, y, z] us) : ∃ a b c, us = [a, b, c] ∧ RelV x a ∧ RelV y b ∧ RelV z c := by
  cases r with
  | cons r1 r =>
    cases r with
    | cons r2 r =>
      cases r with
      | cons r3 r =>
        cases r
        exact ⟨_, _, _, rfl, r1, r2, r3⟩
theorem call_min3 (hc : X.calm = true) : CallR X (.builtin "min") (fun xs H Q => ∃ i j l, xs = [V.int i, V.int j, V.int l] ∧ Q (.int (min i (min j l))) H) := by
  intro pins s σ H xs us Q I r h
  obtain ⟨i, j, l, rfl, q⟩ := h
  obtain ⟨a, b, c, rfl, ⟨t1, rfl⟩, ⟨t2, rfl⟩, ⟨t3, rfl⟩⟩ := vals_3 r
  refine min_three_ints (I.ok.hd hc) fun h' tk k => ⟨_, H, I.kept k, ?_, q⟩
  by_cases h1 : j < i
  · by_cases h2 : l < j
    · rw [if_pos h1, if_pos h2, show min i (min j l) = l by omega]
      exact ⟨t3, rfl⟩
    · rw [if_pos h1, if_neg h2, show min i (min j l) = j by omega]
      exact ⟨t2, rfl⟩
  · by_cases h3 : l < i
    · rw [if_neg h1, if_pos h3, show min i (min j l) = l by omega]
      exact ⟨t3, rfl⟩
    · rw [if_neg h1, if_neg h3, show min i (min j l) = i by omega]
      exact ⟨t1, rfl⟩
theorem ve_min3 (hc : X.calm = true) (hm : X.mg "min" = none) (ha : VA X ρ [e, e2, e3] [.int i, .int j, .int l] ρ1) (hg : Gl X "min" := by rfl) (he : starEach [e, e2, e3] X.env = (false, eval e X.env) :: starEach [e2, e3] X.env := by rfl) (hpl : (backTo pos (starEach [e2, e3] X.env)).any (·.1) = false := by rfl) : VE X ρ (.Call (.Name "min" p) [e, e2, e3] [] pos) (.int (min i (min j l))) ρ1 :=
  ve_callB (call_min3 hc) (fun vs H g Q k rv q => by
    cases rv with
    | cons r1 r2 =>
      cases r1
      cases r2 with
      | cons r2 r3 =>
        cases r2
        cases r3 with
        | cons r3 r4 =>
          cases r3
          cases r4
          exact ⟨i, j, l, rfl, q _ H g k (Gro.refl g) (Rp.int _)⟩) hm (by decide +kernel) ha hg (by decide) (by decide) he hpl
end
/-- what is walked away from: a way that is not taken -/
theorem wss_no {X : Cx} {Z : Fx} {ρ : List Sl} {κ : KD} {st : List Stmt} (h : False) : WSs X Z ρ st κ := h.elim
theorem ve_no {X : Cx} {ρ ρ' : List Sl} {e : Expr} {d : Dt} (h : False) : VE X ρ e d ρ' := h.elim
theorem vw_no {X : Cx} {ρ ρ' : List Sl} {e : Expr} {b : Bool} (h : False) : VW X ρ e b ρ' := h.elim
theorem vt_no {X : Cx} {ρ ρ' : List Sl} {e : Expr} {b : Bool} (h : False) : VT X ρ e b ρ' := h.elim
end DL
/-! what the program's and the laws' common defs compute -/
namespace Ev
open PySem L2 DL
/-- an int that is no bool, between two bounds -/
def hiOk (hi : Option Int) (i : Int) : Bool := match hi with
  | none => true
  | some h => decide (i ≤ h)
def isInt (d : Dt) (lo : Int) (hi : Option Int) : Bool := match d with
  | .int i => decide (lo ≤ i) && hiOk hi i
  | _ => false
def oI : Option Int → Dt
  | none => .non
  | some h => .int h
theorem isInt_yes {i lo hi : Int} (h1 : lo ≤ i) (h2 : i ≤ hi) : isInt (.int i) lo (some hi) = true := by
  simp [isInt, hiOk, h1, h2]
theorem isInt_yesN {i lo : Int} (h1 : lo ≤ i) : isInt (.int i) lo none = true := by
  simp [isInt, hiOk, h1]
abbrev MP : Int := 10 ^ 30 - 1
structure LoadOk (p q : Int) (ss : List Int) : Prop where
  p1 : 1 ≤ p
  p2 : p ≤ 12
  q1 : 1 ≤ q
  q2 : q ≤ MP
  l1 : 1 ≤ ss.length
  l2 : ss.length ≤ 12
  sh : ∀ s ∈ ss, 1 ≤ s ∧ s ≤ q
  sm : ss.sum ≤ p * q
def load (p q : Int) (ss : List Int) : Dt := .tup [.int p, .int q, .lst (ss.map Dt.int)]
theorem LoadOk.bq {p q : Int} {ss : List Int} (h : LoadOk p q ss) : Bd 110 q := by
  have h1 := h.q1
  have h2 := h.q2
  unfold Bd
  show q.natAbs < 2 ^ 110
  have e : (2 : Nat) ^ 110 = 1298074214633706907132624082305024 := by decide
  rw [e]
  unfold MP at h2
  omega
theorem LoadOk.bp {p q : Int} {ss : List Int} (h : LoadOk p q ss) : Bd 4 p := by
  have h1 := h.p1
  have h2 := h.p2
  unfold Bd
  omega
theorem LoadOk.bs {p q : Int} {ss : List Int} (h : LoadOk p q ss) {s : Int} (hs : s ∈ ss) : Bd 110 s := by
  have h1 := h.sh s hs
  refine h.bq.le ?_
  omega
/-! ### the source of drawn numbers -/
structure Src where
  a : Int
  b : Int
  c : Int
def Src.ls (s : Src) : List Dt := [.int s.a, .int s.b, .int s.c]
structure Src.Ok (n : Nat) (s : Src) : Prop where
  a0 : 0 ≤ s.a
  b0 : Bd 200 s.b
  c0 : 0 ≤ s.c
  cn : s.c ≤ (n : Int)
def mix1 (s : Src) : Int := (s.b + 800011 * (s.c + 1)) ^ 3 % (10 ^ 37 + 43)
def mix2 (s : Src) : Int := (mix1 s * (s.c + 1) + 70001) ^ 3 % (10 ^ 39 + 3)
/-- a drawn number below n, and the source behind it -/
def draw (s : Src) (n : Int) : Int × Src := if 0 < s.a then (s.a % n, { s with a := s.a / n }) else (mix2 s / 65521 % n, { s with c := s.c + 1 })
theorem draw_lo (s : Src) {n : Int} (h : 0 < n) : 0 ≤ (draw s n).1 := by
  unfold draw
  split
  · exact Int.emod_nonneg _ (by omega)
  · exact Int.emod_nonneg _ (by omega)
theorem draw_hi (s : Src) {n : Int} (h : 0 < n) : (draw s n).1 < n := by
  unfold draw
  split
  · exact Int.emod_lt_of_pos _ h
  · exact Int.emod_lt_of_pos _ h
theorem draw_ok {s : Src} {m : Nat} {n : Int} (k : s.Ok m) (h : 0 < n) : (draw s n).2.Ok (m + 1) := by
  have h1 := k.a0
  have h2 := k.c0
  have h3 := k.cn
  unfold draw
  split
  · exact ⟨Int.ediv_nonneg h1 (by omega), k.b0, h2, by show s.c ≤ _; omega⟩
  · exact ⟨h1, k.b0, by show 0 ≤ s.c + 1; omega, by show s.c + 1 ≤ _; omega⟩
theorem Src.Ok.up {s : Src} {m n : Nat} (k : s.Ok m) (h : m ≤ n) : s.Ok n := ⟨k.a0, k.b0, k.c0, by have := k.cn; omega⟩
/-- the source of a cell -/
def src (cell k : Int) : Src := ⟨max 0 ((cell.natAbs : Int) - 10 ^ 18), (cell.natAbs : Int) % (10 ^ 41 + 61) * 83 + 2 * k + b2n (decide (cell < 0)), 0⟩
theorem src_ok {cell k : Int} (h0 : 0 ≤ k) (h1 : k ≤ 100) : (src cell k).Ok 0 := by
  refine ⟨by show 0 ≤ max 0 _; omega, ?_, Int.le_refl 0, Int.le_refl 0⟩
  show Bd 200 ((cell.natAbs : Int) % (10 ^ 41 + 61) * 83 + 2 * k + b2n (decide (cell < 0)))
  have a1 := Int.emod_nonneg (cell.natAbs : Int) (show (10 ^ 41 + 61 : Int) ≠ 0 by decide)
  have a2 := Int.emod_lt_of_pos (cell.natAbs : Int) (show (0 : Int) < 10 ^ 41 + 61 by decide)
  have b1 : 0 ≤ b2n (decide (cell < 0)) ∧ b2n (decide (cell < 0)) ≤ 1 := by unfold b2n; split <;> omega
  unfold Bd
  have e : (2 : Nat) ^ 200 = 1606938044258990275541962092341162602522202993782792835301376 := by decide
  rw [e]
  omega
/-! ### drawn parts with a sum -/
/-- the ends of a part, what is left and how many parts follow -/
def lowOf (far left : Int) (rest : Int) : Int := max 1 (left - far * rest)
def highOf (far left : Int) (rest : Int) : Int := min far (left - rest)
/-- m parts -/
def parts (far : Int) : Nat → Int → Src → List Int × Src
  | 0, _, s => ([], s)
  | m + 1, left, s =>
    let lo := lowOf far left m
    let x := draw s (highOf far left m - lo + 1)
    let r := parts far m (left - (lo + x.1)) x.2
    ((lo + x.1) :: r.1, r.2)
/-- a sum of m parts from 1 to far -/
def Fits (far : Int) (m : Nat) (left : Int) : Prop := (m : Int) ≤ left ∧ left ≤ (m : Int) * far
theorem fits_pos {far : Int} {m : Nat} {left : Int} (hf : 1 ≤ far) (h : Fits far (m + 1) left) : lowOf far left m ≤ highOf far left m ∧ 1 ≤ lowOf far left m ∧ highOf far left m ≤ far := by
  obtain ⟨h1, h2⟩ := h
  have e : ((m + 1 : Nat) : Int) * far = far * (m : Int) + far := by rw [Int.natCast_add, Int.add_mul, Int.mul_comm]; simp
  rw [e] at h2
  have p : (m : Int) ≤ far * (m : Int) := by
    have z : 1 * (m : Int) ≤ far * (m : Int) := Int.mul_le_mul_of_nonneg_right hf (by omega)
    omega
  unfold lowOf highOf
  have h1' : (m : Int) + 1 ≤ left := by have := h1; omega
  omega
theorem fits_next {far : Int} {m : Nat} {left x : Int} (hf : 1 ≤ far) (h : Fits far (m + 1) left) (h1 : lowOf far left m ≤ x) (h2 : x ≤ highOf far left m) : Fits far m (left - x) := by
  obtain ⟨a1, a2⟩ := h
  have e : ((m + 1 : Nat) : Int) * far = far * (m : Int) + far := by rw [Int.natCast_add, Int.add_mul, Int.mul_comm]; simp
  rw [e] at a2
  unfold lowOf at h1
  unfold highOf at h2
  unfold Fits
  rw [Int.mul_comm (m : Int) far]
  omega
theorem parts_spec {far : Int} (hf : 1 ≤ far) : ∀ (m : Nat) (left : Int) (s : Src) (n : Nat), Fits far m left → s.Ok n →
    (parts far m left s).1.length = m ∧ (∀ x ∈ (parts far m left s).1, 1 ≤ x ∧ x ≤ far) ∧ (parts far m left s).1.sum = left ∧ (parts far m left s).2.Ok (n + m)
  | 0, left, s, n, h, k => by
    obtain ⟨h1, h2⟩ := h
    have e : left = 0 := by
      have z : ((0 : Nat) : Int) * far = 0 := by simp
      rw [z] at h2
      have := h1
      omega
    subst e
    exact ⟨rfl, (fun x hx => by cases hx), rfl, k⟩
  | m + 1, left, s, n, h, k => by
    obtain ⟨q1, q2, q3⟩ := fits_pos hf h
    have hp : 0 < highOf far left m - lowOf far left m + 1 := by omega
    have d1 := draw_lo s hp
    have d2 := draw_hi s hp
    have kx := draw_ok k hp
    have ih := parts_spec hf m (left - (lowOf far left m + (draw s (highOf far left m - lowOf far left m + 1)).1)) (draw s (highOf far left m - lowOf far left m + 1)).2 (n + 1) (fits_next hf h (by omega) (by omega)) kx
    obtain ⟨i1, i2, i3, i4⟩ := ih
    refine ⟨by show _ + 1 = _; rw [i1], fun x hx => ?_, ?_, i4.up (by omega)⟩
    · rcases List.mem_cons.mp hx with z | z
      · subst z; omega
      · exact i2 x z
    · show (_ :: _).sum = _
      rw [List.sum_cons, i3]
      omega
/-! ### a drawn load -/
def loadOf (s : Src) (units span most : Int) : List Int × Src :=
  let x := draw s most
  let often := min most (min (units * span) (units + x.1))
  if often < units then
    let y := draw x.2 (min units often * span - often + 1)
    parts span often.toNat (often + y.1) y.2
  else
    let z := draw x.2 3
    if z.1 = 0 then
      let y := draw z.2 (min units often * span - often + 1)
      parts span often.toNat (often + y.1) y.2
    else parts span often.toNat (units * span) z.2
theorem loadOf_spec {s : Src} {units span most : Int} {n : Nat} (k : s.Ok n) (h1 : 1 ≤ units) (h2 : units ≤ 12) (h3 : 1 ≤ span) (h4 : span ≤ MP) (h5 : 1 ≤ most) (h6 : most ≤ 12) :
    LoadOk units span (loadOf s units span most).1 ∧ (loadOf s units span most).2.Ok (n + 15) ∧ ((loadOf s units span most).1.length : Int) ≤ most := by
  have hx0 := draw_lo s (show 0 < most by omega)
  have hx1 := draw_hi s (show 0 < most by omega)
  have kx := draw_ok k (show 0 < most by omega)
  have kz := draw_ok kx (show (0 : Int) < 3 by decide)
  have hw : units ≤ units * span := by
    have z : units * 1 ≤ units * span := Int.mul_le_mul_of_nonneg_left h3 (by omega)
    omega
  obtain ⟨often, ho⟩ : ∃ o, o = min most (min (units * span) (units + (draw s most).1)) := ⟨_, rfl⟩
  have o1 : 1 ≤ often := by omega
  have o2 : often ≤ 12 := by omega
  have o3 : often ≤ units * span := by omega
  have o4 : often ≤ most := by omega
  have oc : ((often.toNat : Nat) : Int) = often := by omega
  -- whatever the sum is
  have fin : ∀ (whole : Int) (t : Src), Fits span often.toNat whole → whole ≤ units * span → t.Ok (n + 3) →
      LoadOk units span (parts span often.toNat whole t).1 ∧ (parts span often.toNat whole t).2.Ok (n + 15) ∧ ((parts span often.toNat whole t).1.length : Int) ≤ most := fun whole t f hs kt => by
    obtain ⟨i1, i2, i3, i4⟩ := parts_spec h3 often.toNat whole t (n + 3) f kt
    exact ⟨⟨h1, h2, h3, h4, by rw [i1]; omega, by rw [i1]; omega, i2, by rw [i3]; exact hs⟩, i4.up (by omega), by rw [i1]; omega⟩
  have drawn : ∀ (t : Src) (m : Nat), t.Ok m → m ≤ n + 2 → LoadOk units span (parts span often.toNat (often + (draw t (min units often * span - often + 1)).1) (draw t (min units often * span - often + 1)).2).1 ∧
      (parts span often.toNat (often + (draw t (min units often * span - often + 1)).1) (draw t (min units often * span - often + 1)).2).2.Ok (n + 15) ∧ ((parts span often.toNat (often + (draw t (min units often * span - often + 1)).1) (draw t (min units often * span - often + 1)).2).1.length : Int) ≤ most := fun t m kt hm => by
    have pm : often ≤ min units often * span := by
      by_cases q : units ≤ often
      · rw [Int.min_eq_left q]; exact o3
      · rw [Int.min_eq_right (by omega)]
        have z : often * 1 ≤ often * span := Int.mul_le_mul_of_nonneg_left h3 (by omega)
        omega
    have pu : min units often * span ≤ units * span := Int.mul_le_mul_of_nonneg_right (by omega) (by omega)
    have po : min units often * span ≤ often * span := Int.mul_le_mul_of_nonneg_right (by omega) (by omega)
    have hp : 0 < min units often * span - often + 1 := by omega
    have d1 := draw_lo t hp
    have d2 := draw_hi t hp
    refine fin _ _ ⟨by rw [oc]; omega, by rw [oc]; omega⟩ (by omega) ((draw_ok kt hp).up (by omega))
  have e : loadOf s units span most = if often < units then parts span often.toNat (often + (draw (draw s most).2 (min units often * span - often + 1)).1) (draw (draw s most).2 (min units often * span - often + 1)).2
    else if (draw (draw s most).2 3).1 = 0 then parts span often.toNat (often + (draw (draw (draw s most).2 3).2 (min units often * span - often + 1)).1) (draw (draw (draw s most).2 3).2 (min units often * span - often + 1)).2
    else parts span often.toNat (units * span) (draw (draw s most).2 3).2 := by rw [ho]; rfl
  rw [e]
  by_cases c1 : often < units
  · rw [if_pos c1]
    exact drawn _ (n + 1) kx (by omega)
  · rw [if_neg c1]
    by_cases c2 : (draw (draw s most).2 3).1 = 0
    · rw [if_pos c2]
      exact drawn _ (n + 2) kz (by omega)
    · rw [if_neg c2]
      have z : units * span ≤ often * span := Int.mul_le_mul_of_nonneg_right (by omega) (by omega)
      exact fin _ _ ⟨by rw [oc]; omega, by rw [oc]; exact z⟩ (Int.le_refl _) (kz.up (by omega))
end Ev
namespace DL
open PySem PySem.Spec PyProof.Rows L2
mutual
/-- data whose text fits: ints below 2 ^ 1900, no objects -/
def Dt.Sm : Dt → Prop
  | .int i => Bd 1900 i
  | .str x => (reprText x).length ≤ 10000 ∧ PyData.strOk x = true
  | .lst ds => Dt.SmA ds
  | .tup ds => Dt.SmA ds
  | .opq _ => False
  | _ => True
def Dt.SmA : List Dt → Prop
  | [] => True
  | d :: ds => Dt.Sm d ∧ Dt.SmA ds
end
mutual
/-- a bound of its text's length -/
def Dt.wt : Dt → Nat
  | .non => 4
  | .bl _ => 5
  | .int _ => 1921
  | .str _ => 10000
  | .lst ds => Dt.wtA ds + 2
  | .tup ds => Dt.wtA ds + 3
  | .opq _ => 0
def Dt.wtA : List Dt → Nat
  | [] => 0
  | d :: ds => Dt.wt d + 2 + Dt.wtA ds
end
mutual
def Dt.dep : Dt → Nat
  | .lst ds => Dt.depA ds + 1
  | .tup ds => Dt.depA ds + 1
  | _ => 0
def Dt.depA : List Dt → Nat
  | [] => 0
  | d :: ds => max (Dt.dep d) (Dt.depA ds)
end
theorem SmA.of : ∀ {ds : List Dt}, (∀ d ∈ ds, d.Sm) → Dt.SmA ds
  | [], _ => trivial
  | d :: ds, h => ⟨h d List.mem_cons_self, SmA.of fun x hx => h x (List.mem_cons_of_mem _ hx)⟩
theorem sm_ints {ns : List Int} (h : ∀ n ∈ ns, Bd 1900 n) : Dt.SmA (ns.map Dt.int) := SmA.of fun d hd => by
  obtain ⟨n, hn, rfl⟩ := List.mem_map.mp hd
  exact h n hn
theorem wt_ints : ∀ ns : List Int, Dt.wtA (ns.map Dt.int) = ns.length * 1923
  | [] => rfl
  | n :: ns => by
    show 1921 + 2 + Dt.wtA (ns.map Dt.int) = _
    rw [wt_ints ns, List.length_cons]
    omega
theorem dep_ints : ∀ ns : List Int, Dt.depA (ns.map Dt.int) = 0
  | [] => rfl
  | n :: ns => by
    show max 0 (Dt.depA (ns.map Dt.int)) = 0
    rw [dep_ints ns]
    rfl
theorem piled_le_list (ts : List Str) : (listText ts).length ≤ piled ts + 2 := by
  cases ts with
  | nil => decide
  | cons t r =>
    have h := textFrom_length_pos r 1 (("[" : Str) ++ (if (0 : Nat) > 0 then ", " else "" : String) ++ t) (Nat.succ_pos 0)
    have e : ((("[" : Str) ++ (if (0 : Nat) > 0 then ", " else "" : String) ++ t)).length = 1 + t.length := by
      rw [strLen_append, strLen_append]
      rfl
    have e2 : (listText (t :: r)).length = (textFrom 1 (("[" : Str) ++ (if (0 : Nat) > 0 then ", " else "" : String) ++ t) r).length + 1 := by
      show (textFrom 1 _ r ++ "]").length = _
      rw [strLen_append]
      rfl
    rw [e2, h, e, piled_cons]
    omega
theorem piled_le_tup (ts : List Str) : (tupleText ts).length ≤ piled ts + 3 := by
  unfold tupleText
  rw [strLen_append, strLen_append]
  have e1 : ((("(" : String) : Str)).length = 1 := rfl
  have e3 : (((if ts.length == 1 then ",)" else ")" : String) : Str)).length ≤ 2 := by split <;> decide
  rw [e1]
  by_cases h : ts = []
  · subst h
    have z : (Str.join ", " ([] : List Str)).length = 0 := rfl
    rw [z]
    omega
  · have := join_length_add ts h
    omega
theorem sm_log {i : Int} (h : Bd 1900 i) : i.natAbs.log2 < 1920 := by
  have := h.log
  omega
theorem toStr_len {i : Int} (h : Bd 1900 i) : (PyData.shown (.int i)).length ≤ 1921 := int_text_len_1921 (sm_log h)
mutual
theorem shown_le : ∀ d : Dt, d.Sm → d.py.shown.length ≤ d.wt
  | .non, _ => by decide
  | .bl b, _ => by cases b <;> decide
  | .int i, h => toStr_len h
  | .str x, h => h.1
  | .lst ds, h => by
    show (listText (PyData.shownAll (Dt.pyAll ds))).length ≤ Dt.wtA ds + 2
    have a := piled_le_list (PyData.shownAll (Dt.pyAll ds))
    have b := shownAll_le ds h
    omega
  | .tup ds, h => by
    show (tupleText (PyData.shownAll (Dt.pyAll ds))).length ≤ Dt.wtA ds + 3
    have a := piled_le_tup (PyData.shownAll (Dt.pyAll ds))
    have b := shownAll_le ds h
    omega
  | .opq _, h => h.elim
theorem shownAll_le : ∀ ds : List Dt, Dt.SmA ds → piled (PyData.shownAll (Dt.pyAll ds)) ≤ Dt.wtA ds
  | [], _ => by decide
  | d :: ds, h => by
    have a := shown_le d h.1
    have b := shownAll_le ds h.2
    show piled (d.py.shown :: PyData.shownAll (Dt.pyAll ds)) ≤ d.wt + 2 + Dt.wtA ds
    rw [piled_cons]
    omega
end
mutual
theorem sm_plain : ∀ d : Dt, d.Sm → d.plain = true
  | .non, _ => rfl
  | .bl _, _ => rfl
  | .int _, _ => rfl
  | .str _, _ => rfl
  | .lst ds, h => smA_plain ds h
  | .tup ds, h => smA_plain ds h
  | .opq _, h => h.elim
theorem smA_plain : ∀ ds : List Dt, Dt.SmA ds → Dt.plainAll ds = true
  | [], _ => rfl
  | d :: ds, h => by
    show (d.plain && Dt.plainAll ds) = true
    rw [sm_plain d h.1, smA_plain ds h.2]
    rfl
end
mutual
theorem sm_show : ∀ d : Dt, d.Sm → d.py.showable = true
  | .non, _ => by simp [Dt.py, PyData.showable]
  | .bl _, _ => by simp [Dt.py, PyData.showable]
  | .int i, h => by simp [Dt.py, PyData.showable, sm_log h]
  | .str _, _ => by simp [Dt.py, PyData.showable]
  | .lst ds, h => by simp [Dt.py, PyData.showable, smA_show ds h]
  | .tup ds, h => by simp [Dt.py, PyData.showable, smA_show ds h]
  | .opq _, h => h.elim
theorem smA_show : ∀ ds : List Dt, Dt.SmA ds → PyData.showableAll (Dt.pyAll ds) = true
  | [], _ => by simp [Dt.pyAll, PyData.showableAll]
  | d :: ds, h => by simp [Dt.pyAll, PyData.showableAll, sm_show d h.1, smA_show ds h.2]
end
mutual
theorem dep_py : ∀ d : Dt, d.py.depth = d.dep
  | .non => by simp [Dt.py, PyData.depth, Dt.dep]
  | .bl _ => by simp [Dt.py, PyData.depth, Dt.dep]
  | .int i => by simp [Dt.py, PyData.depth, Dt.dep]
  | .str _ => by simp [Dt.py, PyData.depth, Dt.dep]
  | .lst ds => by simp [Dt.py, PyData.depth, Dt.dep, depA_py ds]
  | .tup ds => by simp [Dt.py, PyData.depth, Dt.dep, depA_py ds]
  | .opq _ => by simp [Dt.py, PyData.depth, Dt.dep]
theorem depA_py : ∀ ds : List Dt, PyData.depthAll (Dt.pyAll ds) = Dt.depA ds
  | [] => by simp [Dt.pyAll, PyData.depthAll, Dt.depA]
  | d :: ds => by simp [Dt.pyAll, PyData.depthAll, Dt.depA, dep_py d, depA_py ds]
end
theorem fits_of {d : Dt} (h : d.Sm) (hd : d.dep ≤ 100) (hw : d.wt ≤ 16777216) : d.fits = true := by
  have h1 := shown_le d h
  have e : sizeLine = 16777216 := sizeLine_eq
  simp only [Dt.fits, Bool.and_eq_true, decide_eq_true_eq]
  exact ⟨⟨⟨sm_plain d h, sm_show d h⟩, by rw [dep_py]; exact hd⟩, by omega⟩
mutual
theorem sm_lay : ∀ d : Dt, d.Sm → d.py.canLay0 = true
  | .non, _ => by simp [Dt.py, PyData.canLay0]
  | .bl _, _ => by simp [Dt.py, PyData.canLay0]
  | .int i, h => by simp [Dt.py, PyData.canLay0]
  | .str x, h => by
    have h' : PyData.strOk x = true := h.2
    simp [Dt.py, PyData.canLay0, h']
  | .lst ds, h => by simp [Dt.py, PyData.canLay0, smA_lay ds h]
  | .tup ds, h => by simp [Dt.py, PyData.canLay0, smA_lay ds h]
  | .opq _, h => h.elim
theorem smA_lay : ∀ ds : List Dt, Dt.SmA ds → PyData.canLayAll0 (Dt.pyAll ds) = true
  | [], _ => by simp [Dt.pyAll, PyData.canLayAll0]
  | d :: ds, h => by simp [Dt.pyAll, PyData.canLayAll0, sm_lay d h.1, smA_lay ds h.2]
end
theorem shaped_of {d : Dt} (h : d.Sm) (hd : d.dep ≤ 64) : SeqAt.shaped d.py = true := by
  unfold SeqAt.shaped
  rw [sm_lay d h, dep_py, decide_eq_true hd]
  rfl
theorem eqv_same {d : Dt} (h : d.Sm) : PyData.eqv d.py d.py = true := SeqAt.eqv_refl d.py (sm_lay d h)
section
variable {X : Cx} {ρ ρ1 ρ2 : List Sl} {e e2 : Expr} {d d' : Dt} {pos p1 p2 q1 q2 : Pos} {k : Nat}
/-- repr(a) != repr(b) of equal data -/
theorem vt_reprNe (hgd : X.A.guards = some []) (hr : Room k X.A) (hm : X.mg "repr" = none) (ha : VE X ρ e d ρ1) (hb : VE X ρ1 e2 d' ρ2) (hdd : d' = d) (hk : (∃ ds, d = .lst ds) ∨ ∃ ds, d = .tup ds) (hs : d.Sm) (hd : Nat.ble d.dep 100 = true) (hw : d.wt ≤ 16777216) (hg : Gl X "repr" := by rfl)
    (he : starEach [e] X.env = (false, eval e X.env) :: starEach [] X.env := by rfl) (he2 : starEach [e2] X.env = (false, eval e2 X.env) :: starEach [] X.env := by rfl) :
    VT X ρ (.Compare (.Call (.Name "repr" p1) [e] [] q1) [.NotEq] [.Call (.Name "repr" p2) [e2] [] q2] pos) false ρ2 := by
  subst hdd
  have f := fits_of hs (Nat.le_of_ble_eq_true hd) hw
  exact VT.to (vt_neS (ve_repr hgd hr hm ha hk f hg he) (ve_repr hgd hr hm hb hk f hg he2)) (by rw [decide_eq_true rfl]; rfl)
end
end DL
namespace Ev
open PySem L2 DL
/-! ### the script's ints as data; pieces of lists -/
theorem plainAll_ints : ∀ ns : List Int, Dt.plainAll (ns.map Dt.int) = true
  | [] => rfl
  | n :: ns => by
    show (Dt.plain (.int n) && Dt.plainAll (ns.map Dt.int)) = true
    rw [plainAll_ints ns]
    rfl
theorem canLayL_ints : ∀ ns : List Int, PyData.canLay0 (Dt.py (.lst (ns.map Dt.int))) = true := fun ns => by
  simp only [Dt.py, PyData.canLay0]
  induction ns with
  | nil => simp [Dt.pyAll, PyData.canLayAll0]
  | cons n ns ih => simp_all [Dt.pyAll, Dt.py, PyData.canLay0, PyData.canLayAll0]
theorem shaped_ints (ns : List Int) : SeqAt.shaped (Dt.py (.lst (ns.map Dt.int))) = true := by
  unfold SeqAt.shaped
  rw [canLayL_ints, dep_py]
  show (true && decide (Dt.depA (ns.map Dt.int) + 1 ≤ 64)) = true
  rw [dep_ints]
  rfl
theorem cut_item {ds : List Dt} {lo hi : Option Int} {j : Nat} {x : Dt} (h : (cutD ds lo hi)[j]? = some x) : x ∈ ds ∧ j < ds.length := by
  unfold cutD at h
  have hm := List.mem_of_getElem? h
  have hl := (List.getElem?_eq_some_iff.mp h).1
  rw [List.length_take, List.length_drop] at hl
  exact ⟨List.mem_of_mem_drop (List.mem_of_mem_take hm), by omega⟩
theorem cut_int {ns : List Int} {y : Int} {lo hi : Option Int} {j : Nat} {x : Dt} (h : (cutD (ns.map Dt.int ++ [.int y]) lo hi)[j]? = some x) : j < ns.length + 1 ∧ ∃ c : Int, x = .int c := by
  obtain ⟨h1, h2⟩ := cut_item h
  rw [List.length_append, List.length_map] at h2
  refine ⟨h2, ?_⟩
  rcases List.mem_append.mp h1 with z | z
  · obtain ⟨n, _, rfl⟩ := List.mem_map.mp z
    exact ⟨n, rfl⟩
  · exact ⟨y, List.mem_singleton.mp z⟩
end Ev
namespace DL
open PySem L2
/-! ### a def that the top has written, and where it stands -/
structure DefIn (K : PySem.W.Frag) (x : Str) (st : Stmt) : Prop where
  it : ∃ (f : Addr) (kV doc pm : Value) (an : Option Addr) (cdv ct : Value), PySem.W.nsIn K mainGlobals x = some (some (.ref f)) ∧ Fun K x x st f (PySem.W.fnOf x x (defArgs st) (defBody st) (defScope st) .none kV doc pm an cdv ct)
theorem def_in {K : PySem.W.Frag} {x : Str} {st : Stmt} {f : Addr} {oc kV doc pm cdv ct : Value} {od an : Option Addr} {osl : Array (Option Value)} (a : PySem.W.nsIn K mainGlobals x = some (some (.ref f)))
    (l : K.lookup f = some ⟨oc, od, .func (PySem.W.fnOf x x (defArgs st) (defBody st) (defScope st) .none kV doc pm an cdv ct), osl⟩) (c : PySem.W.codeIn K cdv x = true) (k : PySem.W.keepIn K (.ref f) = true) : DefIn K x st :=
  ⟨f, kV, doc, pm, an, cdv, ct, a, fun_mk l c k⟩
theorem DefIn.at {K : PySem.W.Frag} {x : Str} {st : Stmt} {P : Program} {w : World} {mg : Str → Option Value} {base h : Heap} {k : Nat} {ps : List Str} {sp : Sp} (D : DefIn K x st) (X : K.In h) (G : h.Ns mainGlobals mg)
    (hb : ∀ (kV doc pm : Value) (an : Option Addr) (cdv ct : Value) (us : List Value), us.length = ps.length → bindArgs (PySem.W.fnOf x x (defArgs st) (defBody st) (defScope st) .none kV doc pm an cdv ct) ⟨us, []⟩ = pure (ps.zip us))
    (ok : ∀ (f : Addr) (fd : FuncData), Fun K x x st f fd → FnG P w K mg base k f fd ps sp) : FnAt P w K mg base x st k ps sp := by
  obtain ⟨f, kV, doc, pm, an, cdv, ct, a, F⟩ := D.it
  exact ⟨f, _, PySem.W.mg_of X G a, F, F.binds hb, ok f _ F⟩
theorem DefIn.law {K : PySem.W.Frag} {x y : Str} {st : Stmt} {P : Program} {w : World} {mg : Str → Option Value} {h : Heap} {k : Nat} {sp : Sp} {fa : Addr} (D : DefIn K x st) (X : K.In h) (G : h.Ns mainGlobals mg) (hfa : mg x = some (.ref fa))
    (hb : ∀ (kV doc pm : Value) (an : Option Addr) (cdv ct : Value) (u : Value), bindArgs (PySem.W.fnOf x x (defArgs st) (defBody st) (defScope st) .none kV doc pm an cdv ct) ⟨[u], []⟩ = pure [(y, u)])
    (ok : ∀ (base : Heap), K.In base → base.Ns mainGlobals mg → ∀ (f : Addr) (fd : FuncData), Fun K x x st f fd → FnG P w K mg base k f fd [y] sp) :
    ∃ fd : FuncData, (∀ (s : Shared) (u : Value), BindsTo s fd ⟨[u], []⟩ [(y, u)]) ∧ ∀ base : Heap, K.In base → base.Ns mainGlobals mg → FnG P w K mg base k fa fd [y] sp := by
  obtain ⟨f, kV, doc, pm, an, cdv, ct, a, F⟩ := D.it
  have e := hfa.symm.trans (PySem.W.mg_of X G a)
  cases e
  exact ⟨_, fun s u => .of_eq (hb kV doc pm an cdv ct u), fun base Xb Gb => ok base Xb Gb _ _ F⟩
end DL
namespace Ev
open PySem L2 DL
/-! ### dues and windows -/
theorem div_eq {a q k : Int} (hq : 0 < q) (h1 : k * q ≤ a) (h2 : a < k * q + q) : a / q = k := by
  have x1 : k ≤ a / q := (Int.le_ediv_iff_mul_le hq).mpr h1
  have x2 : a / q < k + 1 := (Int.ediv_lt_iff_lt_mul hq).mpr (by rw [Int.add_mul]; omega)
  omega
theorem div_lo (a : Int) {q : Int} (hq : 0 < q) : a / q * q ≤ a := (Int.le_ediv_iff_mul_le hq).mp (Int.le_refl _)
theorem div_hi (a : Int) {q : Int} (hq : 0 < q) : a < a / q * q + q := by
  have x2 : a < (a / q + 1) * q := (Int.ediv_lt_iff_lt_mul hq).mp (by omega)
  rw [Int.add_mul] at x2
  omega
/-- rounded up: one more where it does not go up -/
theorem up_eq (a : Int) {q : Int} (hq : 0 < q) : -(-a / q) = a / q + b2n (decide (a / q * q < a)) := by
  have h1 := div_lo a hq
  have h2 := div_hi a hq
  by_cases h : a / q * q < a
  · rw [decide_eq_true h]
    have e : -a / q = -(a / q + 1) := div_eq hq (by rw [Int.neg_mul, Int.add_mul]; omega) (by rw [Int.neg_mul, Int.add_mul]; omega)
    rw [e]
    show - -(a / q + 1) = a / q + 1
    omega
  · rw [decide_eq_false h]
    have e : -a / q = -(a / q) := div_eq hq (by rw [Int.neg_mul]; omega) (by rw [Int.neg_mul]; omega)
    rw [e]
    show - -(a / q) = a / q + 0
    omega
def wFirst (s q n : Int) : Int := n * q / s
def wLast (s q n : Int) : Int := -(-(n + 1) * q / s) - 1
theorem first_iff {s q n t : Int} (hs : 0 < s) : wFirst s q n ≤ t ↔ q * n < s * (t + 1) := by
  unfold wFirst
  have z : n * q / s < t + 1 ↔ n * q < (t + 1) * s := Int.ediv_lt_iff_lt_mul hs
  rw [Int.mul_comm q n, Int.mul_comm s (t + 1)]
  omega
theorem last_iff {s q n t : Int} (hs : 0 < s) : t ≤ wLast s q n ↔ s * t < q * (n + 1) := by
  unfold wLast
  have z : -(n + 1) * q / s < -t ↔ -(n + 1) * q < -t * s := Int.ediv_lt_iff_lt_mul hs
  have e1 : -(n + 1) * q = -(q * (n + 1)) := by rw [Int.neg_mul, Int.mul_comm]
  have e2 : -t * s = -(s * t) := by rw [Int.neg_mul, Int.mul_comm]
  rw [e1, e2] at z
  rw [e1]
  omega
theorem first_nonneg {s q n : Int} (hs : 0 < s) (hq : 0 ≤ q) (hn : 0 ≤ n) : 0 ≤ wFirst s q n := Int.ediv_nonneg (Int.mul_nonneg hn hq) (by omega)
theorem first_le_last {s q n : Int} (hs : 0 < s) (hq : s ≤ q) : wFirst s q n ≤ wLast s q n := by
  rw [last_iff hs]
  have h := div_lo (n * q) hs
  unfold wFirst
  rw [Int.mul_comm s, Int.mul_add, Int.mul_comm q n, Int.mul_one]
  omega
theorem last_lt {s q n : Int} (hs : 0 < s) (hn : n < 2 * s) (hq : 0 < q) : wLast s q n < 2 * q := by
  have h : ¬ 2 * q ≤ wLast s q n := by
    rw [last_iff hs]
    have z : q * (n + 1) ≤ q * (2 * s) := Int.mul_le_mul_of_nonneg_left (by omega) (by omega)
    have e : q * (2 * s) = s * (2 * q) := by
      rw [Int.mul_comm q (2 * s), Int.mul_comm 2 s, Int.mul_assoc]
    omega
  omega
/-! ### stretches of ints -/
theorem rng_succ (a : Int) (n : Nat) : rng a (n + 1) = rng a n ++ [a + (n : Int)] := by
  unfold rng
  rw [List.range_succ, List.map_append]
  rfl
theorem rng_append (a : Int) (m : Nat) : ∀ n : Nat, rng a (m + n) = rng a m ++ rng (a + (m : Int)) n
  | 0 => by
    show rng a m = rng a m ++ []
    rw [List.append_nil]
  | n + 1 => by
    rw [← Nat.add_assoc, rng_succ, rng_append a m n, rng_succ, List.append_assoc]
    have e : a + ((m + n : Nat) : Int) = a + (m : Int) + (n : Int) := by omega
    rw [e]
theorem rng_mem {a : Int} {n : Nat} {x : Int} (h : x ∈ rng a n) : a ≤ x ∧ x < a + (n : Int) := by
  unfold rng at h
  obtain ⟨k, hk, rfl⟩ := List.mem_map.mp h
  have := List.mem_range.mp hk
  omega
/-- those of a stretch that lie in another one -/
theorem filter_rng {p : Int → Bool} {f l : Int} {n : Nat} (h0 : 0 ≤ f) (h1 : f ≤ l) (h2 : l < (n : Int)) (hp : ∀ x, 0 ≤ x → x < (n : Int) → (p x = true ↔ f ≤ x ∧ x ≤ l)) : (rng 0 n).filter p = rng f (l + 1 - f).toNat := by
  obtain ⟨a, ha⟩ : ∃ a : Nat, (a : Int) = f := ⟨f.toNat, by omega⟩
  obtain ⟨b, hb⟩ : ∃ b : Nat, (b : Int) = l + 1 - f := ⟨(l + 1 - f).toNat, by omega⟩
  obtain ⟨c, hc⟩ : ∃ c : Nat, (c : Int) = (n : Int) - (l + 1) := ⟨((n : Int) - (l + 1)).toNat, by omega⟩
  have en : n = a + (b + c) := by omega
  have eb : (l + 1 - f).toNat = b := by omega
  rw [eb, en, rng_append, rng_append, List.filter_append, List.filter_append]
  have e1 : (rng 0 a).filter p = [] := by
    rw [List.filter_eq_nil_iff]
    intro x hx hpx
    have := rng_mem hx
    have := (hp x (by omega) (by omega)).mp hpx
    omega
  have e2 : (rng (0 + (a : Int)) b).filter p = rng (0 + (a : Int)) b := by
    rw [List.filter_eq_self]
    intro x hx
    have := rng_mem hx
    exact (hp x (by omega) (by omega)).mpr (by omega)
  have e3 : (rng (0 + (a : Int) + (b : Int)) c).filter p = [] := by
    rw [List.filter_eq_nil_iff]
    intro x hx hpx
    have := rng_mem hx
    have := (hp x (by omega) (by omega)).mp hpx
    omega
  rw [e1, e2, e3, List.nil_append, List.append_nil, Int.zero_add, ha]
theorem rng_first {a : Int} {n : Nat} (h : 0 < n) : atI ((rng a n).map Dt.int) 0 = some (.int a) := by
  refine atI_nat (j := 0) ?_
  unfold rng
  rw [List.getElem?_map, List.getElem?_map, List.getElem?_range h]
  simp
theorem rng_last {a : Int} {n : Nat} (h : 0 < n) : atI ((rng a n).map Dt.int) (-1) = some (.int (a + (n : Int) - 1)) := by
  obtain ⟨m, rfl⟩ : ∃ m, n = m + 1 := ⟨n - 1, by omega⟩
  rw [rng_succ, List.map_append]
  have e : a + ((m + 1 : Nat) : Int) - 1 = a + (m : Int) := by omega
  rw [e]
  exact atI_last _ _
theorem filter_map_int (p : Dt → Bool) (ns : List Int) : (ns.map Dt.int).filter p = (ns.filter fun n => p (.int n)).map Dt.int := by
  rw [List.filter_map]
  rfl
end Ev
namespace Ev
open PySem L2 DL
def win (s p n : Int) : Dt := .tup [.int (n * p / s), .int (-(-(n + 1) * p / s) - 1)]
theorem comp_ints {ss : List Int} {f : Dt → Dt} {g : Int → Dt} (h : ∀ s ∈ ss, f (.int s) = g s) : (((ss.map Dt.int).filter fun _ => true).map f) = ss.map g := by
  rw [List.filter_eq_self.mpr (fun _ _ => rfl), List.map_map]
  exact List.map_congr_left h
theorem int_at {ss : List Int} {j : Nat} {d : Dt} (h : (ss.map Dt.int)[j]? = some d) : ∃ s, ss[j]? = some s ∧ d = .int s ∧ s ∈ ss := by
  rw [List.getElem?_map] at h
  cases e : ss[j]? with
  | none => rw [e] at h; cases h
  | some s =>
    rw [e] at h
    cases h
    exact ⟨s, rfl, rfl, List.mem_of_getElem? e⟩
theorem share_at {ss : List Int} {i : Int} (h1 : 0 ≤ i) (h2 : i < (ss.length : Int)) : atI (ss.map Dt.int) i = some (.int (ss.getD i.toNat 0)) := by
  obtain ⟨j, rfl⟩ : ∃ j : Nat, i = (j : Int) := ⟨i.toNat, by omega⟩
  have hl : j < ss.length := by omega
  refine atI_nat ?_
  rw [List.getElem?_map, Int.toNat_natCast, List.getD_eq_getElem?_getD, List.getElem?_eq_getElem hl]
  rfl
theorem share_mem {ss : List Int} {i : Int} (h1 : 0 ≤ i) (h2 : i < (ss.length : Int)) : ss.getD i.toNat 0 ∈ ss := by
  have hl : i.toNat < ss.length := by omega
  rw [List.getD_eq_getElem?_getD, List.getElem?_eq_getElem hl]
  exact List.getElem_mem hl
/-- a right load, one of its processes, a moment -/
def LPN (ds : List Dt) (p q : Int) (ss : List Int) (i n : Int) : Prop := LoadOk p q ss ∧ 0 ≤ i ∧ i < (ss.length : Int) ∧ 0 ≤ n ∧ Bd 1500 n ∧ ds = [load p q ss, .int i, .int n]
def due (s q n : Int) : Dt := .tup [.int (s * n / q), .int (-(-s * n / q))]
def R_source (ds ls : List Dt) : Prop := ∃ c k : Int, ds = [.int c, .int k] ∧ 0 ≤ k ∧ k ≤ 100 ∧ ls = (src c k).ls
def R_draw (ls ds : List Dt) (d : Dt) (ls' : List Dt) : Prop := ∃ (s : Src) (n : Int) (m : Nat), s.Ok m ∧ m ≤ 1000000 ∧ 0 < n ∧ Bd 2000 n ∧ ls = s.ls ∧ ds = [.int n] ∧ d = .int (draw s n).1 ∧ ls' = (draw s n).2.ls
def R_parts (ls ds : List Dt) (d : Dt) (ls' : List Dt) : Prop := ∃ (s : Src) (whole often far : Int) (m : Nat), s.Ok m ∧ m ≤ 900000 ∧ 1 ≤ far ∧ far ≤ MP ∧ 0 ≤ often ∧ often ≤ 100 ∧ Fits far often.toNat whole ∧ ls = s.ls ∧ ds = [.int whole, .int often, .int far] ∧
  d = .lst ((parts far often.toNat whole s).1.map Dt.int) ∧ ls' = (parts far often.toNat whole s).2.ls
theorem mp_bd {x : Int} (h1 : 0 ≤ x) (h2 : x ≤ MP) : Bd 110 x := by
  unfold Bd
  have e : (2 : Nat) ^ 110 = 1298074214633706907132624082305024 := by decide
  rw [e]
  unfold MP at h2
  omega
def R_load (ls ds : List Dt) (d : Dt) (ls' : List Dt) : Prop := ∃ (s : Src) (units span most : Int) (m : Nat), s.Ok m ∧ m ≤ 800000 ∧ 1 ≤ units ∧ units ≤ 12 ∧ 1 ≤ span ∧ span ≤ MP ∧ 1 ≤ most ∧ most ≤ 12 ∧ ls = s.ls ∧ ds = [.int units, .int span, .int most] ∧
  d = load units span (loadOf s units span most).1 ∧ ls' = (loadOf s units span most).2.ls
/-- drawn small loads -/
def unitsOf (x : Int) : Int := [1, 1, 2, 3].getD x.toNat 0
theorem units_at {x : Int} (h0 : 0 ≤ x) (h1 : x < 4) : atI [Dt.int 1, Dt.int 1, Dt.int 2, Dt.int 3] x = some (.int (unitsOf x)) ∧ 1 ≤ unitsOf x ∧ unitsOf x ≤ 3 := by
  have h : x = 0 ∨ x = 1 ∨ x = 2 ∨ x = 3 := by omega
  rcases h with rfl | rfl | rfl | rfl <;> exact ⟨rfl, by decide, by decide⟩
structure Sml where
  u : Int
  q : Int
  ss : List Int
  s : Src
def small (s : Src) (far : Int) : Sml :=
  let x := draw s 4
  let y := draw x.2 far
  let r := loadOf y.2 (unitsOf x.1) (1 + y.1) 6
  ⟨unitsOf x.1, 1 + y.1, r.1, r.2⟩
theorem small_ok {s : Src} {far : Int} {n : Nat} (k : s.Ok n) (h1 : 1 ≤ far) (h2 : far ≤ MP) : LoadOk (small s far).u (small s far).q (small s far).ss ∧ (small s far).s.Ok (n + 17) ∧ (small s far).u ≤ 3 ∧ (small s far).q ≤ far ∧ (small s far).ss.length ≤ 6 := by
  have x0 := draw_lo s (show (0 : Int) < 4 by decide)
  have x1 := draw_hi s (show (0 : Int) < 4 by decide)
  have kx := draw_ok k (show (0 : Int) < 4 by decide)
  have y0 := draw_lo (draw s 4).2 (show 0 < far by omega)
  have y1 := draw_hi (draw s 4).2 (show 0 < far by omega)
  have ky := draw_ok kx (show 0 < far by omega)
  obtain ⟨_, u1, u2⟩ := units_at x0 x1
  obtain ⟨l1, l2, l3⟩ := loadOf_spec ky u1 (by omega) (show 1 ≤ 1 + (draw (draw s 4).2 far).1 by omega) (by omega) (show (1 : Int) ≤ 6 by decide) (by decide)
  refine ⟨l1, l2.up (by omega), u2, ?_, ?_⟩
  · show 1 + _ ≤ far
    omega
  · show (loadOf _ _ _ _).1.length ≤ 6
    omega
def R_small (ls ds : List Dt) (d : Dt) (ls' : List Dt) : Prop := ∃ (s : Src) (far : Int) (m : Nat), s.Ok m ∧ m ≤ 700000 ∧ 1 ≤ far ∧ far ≤ MP ∧ ls = s.ls ∧ ds = [.int far] ∧ d = load (small s far).u (small s far).q (small s far).ss ∧ ls' = (small s far).s.ls
def fitsB (s q n t : Int) : Bool := decide (s * t < q * (n + 1)) && decide (q * n < s * (t + 1))
def R_fits (ds : List Dt) (r : Res) : Prop := ∃ s q n t : Int, ds = [.int s, .int q, .int n, .int t] ∧ Bd 200 s ∧ Bd 200 q ∧ Bd 200 n ∧ Bd 200 t ∧ r = .ret (.bl (fitsB s q n t))
theorem CompOk.cast {X : Cx} {ρ ρ1 : List Sl} {elt tg iter : Expr} {ifs : List Expr} {scope : Scope} {own : List (Str × Nat)} {a b : List Dt} (e : a = b) (h : CompOk X ρ elt tg iter ifs scope own a ρ1) : CompOk X ρ elt tg iter ifs scope own b ρ1 := e ▸ h
def right (s : Src) (far : Int) : Src := (draw (small s far).s ((small s far).ss.length : Int)).2
theorem right_ok {s : Src} {far : Int} {n : Nat} (k : s.Ok n) (h1 : 1 ≤ far) (h2 : far ≤ MP) : (right s far).Ok (n + 18) := by
  obtain ⟨l, k2, _⟩ := small_ok k h1 h2
  have := l.l1
  exact (draw_ok k2 (show (0 : Int) < ((small s far).ss.length : Int) by omega)).up (by omega)
def R_right (ls ds : List Dt) (d : Dt) (ls' : List Dt) : Prop := ∃ (s : Src) (far : Int) (m : Nat), s.Ok m ∧ m ≤ 600000 ∧ 1 ≤ far ∧ far ≤ 1000 ∧ ls = s.ls ∧ ds = [.int far] ∧ d = .bl true ∧ ls' = (right s far).ls
theorem due_eq {s q n low : Int} (hq : 0 < q) (h1 : low * q ≤ s * n) (h2 : s * n < low * q + q) : due s q n = .tup [.int low, .int (low + b2n (decide (low * q < s * n)))] := by
  have e := div_eq hq h1 h2
  unfold due
  rw [Int.neg_mul, up_eq (s * n) hq, e]
theorem sml_bd {x : Int} (h : -1000000 ≤ x) (h2 : x ≤ 1000000) : Bd 1900 x := (show Bd 20 x by unfold Bd; omega).up (by decide)
theorem five_ok : LoadOk 1 10 [4, 5, 1] := ⟨by decide, by decide, by decide, by decide, by decide, by decide, by decide, by decide⟩
end Ev
namespace DL
open PySem PySem.Spec PyProof.Rows L2
section
variable {X : Cx} {ρ ρ1 ρ2 : List Sl} {e e2 : Expr} {d d' : Dt} {pos p p1 p2 q1 q2 : Pos} {k : Nat} {i j : Int}
/-- the text of an int -/
theorem ve_reprI (hm : X.mg "repr" = none) (ha : VE X ρ e (.int i) ρ1) (hi : Bd 1900 i) (hg : Gl X "repr" := by rfl) (he : starEach [e] X.env = (false, eval e X.env) :: starEach [] X.env := by rfl) :
    VE X ρ (.Call (.Name "repr" p) [e] [] pos) (.str (toString i)) ρ1 :=
  ve_callB SkE.call_repr_int (fun vs H g Q kk rv q => by
    cases rv with
    | cons r1 r2 =>
      cases r2
      cases r1
      exact ⟨i, rfl, by have := hi.log; omega, q _ H g kk (Gro.refl g) (Rp.str _)⟩) hm (by decide +kernel) (va_cons ha va_nil he) hg (by decide) (by decide) he
theorem vt_reprNeI (hgd : X.A.guards = some []) (hr : Room k X.A) (hm : X.mg "repr" = none) (ha : VE X ρ e (.int i) ρ1) (hb : VE X ρ1 e2 (.int j) ρ2) (hdd : j = i) (hi : Bd 1900 i) (hg : Gl X "repr" := by rfl)
    (he : starEach [e] X.env = (false, eval e X.env) :: starEach [] X.env := by rfl) (he2 : starEach [e2] X.env = (false, eval e2 X.env) :: starEach [] X.env := by rfl) :
    VT X ρ (.Compare (.Call (.Name "repr" p1) [e] [] q1) [.NotEq] [.Call (.Name "repr" p2) [e2] [] q2] pos) false ρ2 := by
  subst hdd
  exact VT.to (vt_neS (ve_reprI hm ha hi hg he) (ve_reprI hm hb hi hg he2)) (by rw [decide_eq_true rfl]; rfl)
/-- == and != of equal small data -/
theorem ve_eqDS {d' : Dt} (hr : Room k X.A) (ha : VE X ρ e d ρ1) (hb : VE X ρ1 e2 d' ρ2) (hdd : d' = d) (hs : d.Sm) (hd : Nat.ble d.dep 64 = true := by rfl) : VE X ρ (.Compare e [.Eq] [e2] pos) (.bl true) ρ2 := by
  subst hdd
  have h := shaped_of hs (Nat.le_of_ble_eq_true hd)
  exact VE.to (ve_eqD hr ha hb (sm_plain _ hs) (sm_plain _ hs) h h) (by rw [eqv_same hs])
theorem vt_eqDS {d' : Dt} (hr : Room k X.A) (ha : VE X ρ e d ρ1) (hb : VE X ρ1 e2 d' ρ2) (hdd : d' = d) (hs : d.Sm) (hd : Nat.ble d.dep 64 = true := by rfl) : VT X ρ (.Compare e [.Eq] [e2] pos) true ρ2 := by
  subst hdd
  have h := shaped_of hs (Nat.le_of_ble_eq_true hd)
  exact VT.to (vt_eqD hr ha hb (sm_plain _ hs) (sm_plain _ hs) h h) (eqv_same hs)
theorem vt_neDS {d' : Dt} (hr : Room k X.A) (ha : VE X ρ e d ρ1) (hb : VE X ρ1 e2 d' ρ2) (hdd : d' = d) (hs : d.Sm) (hd : Nat.ble d.dep 64 = true := by rfl) : VT X ρ (.Compare e [.NotEq] [e2] pos) false ρ2 := by
  subst hdd
  have h := shaped_of hs (Nat.le_of_ble_eq_true hd)
  exact VT.to (vt_neD hr ha hb (sm_plain _ hs) (sm_plain _ hs) h h) (by rw [eqv_same hs]; rfl)
end
end DL
namespace DL
open PySem PySem.Spec PyProof.Rows L2
/-- a list that was changed will stand from now on -/
def G.rest (g : G) (p : Addr) (o : HO) : G := ⟨upd g.S p o, fun q => if q = p then none else g.M q⟩
section
variable {X : Cx} {Z : Fx} {ρ : List Sl} {κ : KD} {ds : List Dt} {st : List Stmt}
theorem wss_frz (i : Nat) (k : WSs X Z (ρ.set i (.d (.lst ds))) st κ) (hi : ρ[i]? = some (.o ds) := by rfl) : WSs X Z ρ st κ := by
  obtain ⟨t, pt, q⟩ := k
  refine ⟨t, pt, fun σ H g D kk r f kd => ?_⟩
  obtain ⟨v, hv, p, rfl, hm⟩ := r.sl i _ hi
  obtain ⟨hs, xs, hx, ra⟩ := kk.2 p ds hm
  have own : OwnAt σ ρ p := ⟨i, _, hi, hv⟩
  have st' : Same g.S (g.rest p (.lst xs)).S := fun b u e => by show upd g.S p _ b = some u; rw [upd_ne (ne_of_none e hs)]; exact e
  have mne : ∀ q, q ≠ p → (g.rest p (.lst xs)).M q = g.M q := fun q hq => by show (if q = p then none else g.M q) = g.M q; rw [if_neg hq]
  have kk' : GOk X.K (g.rest p (.lst xs)) H := by
    refine ⟨fun b u e => ?_, fun q es e => ?_⟩
    · by_cases hb : b = p
      · subst hb
        have e' : upd g.S b (HO.lst xs) b = some u := e
        rw [upd_same] at e'
        rw [← e', hx]
      · have e' : upd g.S p (HO.lst xs) b = some u := e
        rw [upd_ne hb] at e'
        exact kk.1 b u e'
    · have e' : (if q = p then none else g.M q) = some es := e
      by_cases hq : q = p
      · rw [if_pos hq] at e'; cases e'
      · rw [if_neg hq] at e'
        obtain ⟨h1, ys, h2, h3⟩ := kk.2 q es e'
        exact ⟨by show upd g.S p _ q = none; rw [upd_ne hq]; exact h1, ys, h2, h3.mono st'⟩
  have eσ : σ.set i (some (V.ref p)) = σ := by
    refine List.ext_getElem? fun j => ?_
    by_cases hj : i = j
    · subst hj
      rw [List.getElem?_set_self (List.getElem?_eq_some_iff.mp hv).1, hv]
    · rw [List.getElem?_set_ne hj]
  have sl' : ∀ (j : Nat) (s : Sl), (ρ.set i (.d (.lst ds)))[j]? = some s → ∃ v, σ[j]? = some v ∧ SlOk X.K (g.rest p (.lst xs)) v s := fun j s e => by
    by_cases hj : i = j
    · subst hj
      rw [List.getElem?_set_self (List.getElem?_eq_some_iff.mp hi).1] at e
      cases e
      exact ⟨_, hv, V.ref p, rfl, Rp.lst (SqX.of upd_same) (ra.mono st')⟩
    · rw [List.getElem?_set_ne hj] at e
      obtain ⟨w, w1, w2⟩ := r.sl j s e
      refine ⟨w, w1, ?_⟩
      cases s with
      | no => trivial
      | d x =>
        obtain ⟨u, e1, e2⟩ := w2
        exact ⟨u, e1, e2.mono st'⟩
      | o es =>
        obtain ⟨b, rfl, e2⟩ := w2
        have hb : b ≠ p := fun z => r.ne i j _ _ p hj hi e hv (z ▸ w1)
        exact ⟨b, rfl, by rw [mne b hb]; exact e2⟩
      | i b es =>
        obtain ⟨rfl, e2⟩ := w2
        have hb : b ≠ p := fun z => r.ne i j _ _ p hj hi e hv (z ▸ w1)
        exact ⟨rfl, by rw [mne b hb]; exact e2⟩
      | t cs y =>
        obtain ⟨⟨u, z1, z2⟩, nd, z3⟩ := w2
        exact ⟨⟨u, z1, z2.mono st'⟩, nd, fun b es hb => by rw [mne b (fun z => r.ne i j _ _ p hj hi e hv (List.mem_map.mpr ⟨(b, es), hb, z⟩))]; exact z3 b es hb⟩
  have off : ∀ (m : Nat) (y : Sl) (q : Addr), (ρ.set i (.d (.lst ds)))[m]? = some y → Adr σ m y q → m ≠ i ∧ ρ[m]? = some y := fun m y q a b => by
    by_cases hm : i = m
    · subst hm
      rw [List.getElem?_set_self (List.getElem?_eq_some_iff.mp hi).1] at a
      cases a
      cases b
    · rw [List.getElem?_set_ne hm] at a
      exact ⟨fun z => hm z.symm, a⟩
  have r' : Rep X.K (g.rest p (.lst xs)) σ (ρ.set i (.d (.lst ds))) := by
    refine ⟨by rw [List.length_set]; exact r.len, sl', fun j l s t b n h1 h2 w1 w2 => ?_⟩
    exact r.ne j l s t b n (off j s b h1 w1).2 (off l t b h2 w2).2 w1 w2
  have f' : FrOk Z σ (ρ.set i (.d (.lst ds))) (g.rest p (.lst xs)) := by
    refine ⟨f.st.trans st', fun b es n e => ?_, fun b ⟨m, y, a1, a2⟩ => f.ow b ⟨m, y, (off m y b a1 a2).2, a2⟩⟩
    have hb : b ≠ p := fun z => by
      rcases f.ow p own with h | h
      · exact n (z ▸ h)
      · rw [z, h] at e; cases e
    rw [mne b hb]
    exact f.mu b es n e
  exact q σ H _ D kk' r' f' (kd.mono st')
end
end DL
/-! ### list(range(a, b)) for bounds of any size -/
namespace PySem
open Sem (wp)
section
variable {prog : Program} {w : World} {A : Around} {E : Value → Shared → Prop} {s : Shared}
theorem ext_longR {R : Result → Shared → Prop} {rg : Addr} {lo up st : Int} {t1 t2 t3 : Tok} {n : Nat} (hh : A.handled = none) (hg : IsRange s.heap rg lo up st t1 t2 t3) (big : Builtin.Range.small lo up st = false) (hn : Builtin.Range.rangeSize lo up st = n) (hz : n ≤ 2 ^ 24) (L : Addr) (res : Value) (c0 : Nat) (hL : s.heap.get? L = some { cls := .type "list", data := .seq #[] c0 })
    (hR : ∀ (hp : Heap) (tk : Nat) (xs : Array Value) (c : Nat), (∀ b o, b ≠ L → s.heap.get? b = some o → hp.get? b = some o) → hp.get? L = some { cls := .type "list", dict := none, data := .seq xs c, slots := #[] } → ItemsOf (fun i v => ∃ t, v = .int (lo + i * st) t) xs n → R (.ok (.ret res)) { s with heap := hp, toks := tk }) :
    wpAny (model prog w) A.in1 (Builtin.List.listExtendWith (.ref L) (.ref rg) res) (fun fin s' => match fin with | .done f => R (.ok f) s' | .again c' => c'.quiet = true ∧ codeAny (model prog w) A c' R s') (fun e s' => R (.error e) s') s := by
  have dif : L ≠ rg := fun e => by rw [e, hg] at hL; simp at hL
  have old : L < s.heap.objs.size := Heap.lt_size hL
  have dif2 : L ≠ s.heap.objs.size := Nat.ne_of_lt old
  have out : L ∉ [s.heap.objs.size] := fun m => dif2 (List.mem_singleton.mp m)
  have wk := (Walks.longrange (prog := prog) (w := w) (A := A.in1) hh s.heap.objs.size lo st n).toS
  have run : ∀ (hp : Heap) (c1 tk : Nat), IsLongIter hp s.heap.objs.size (lo + ((0 : Nat) : Int) * st) ((n : Int) - ((0 : Nat) : Int)) st → (∀ b o, b ≠ L → s.heap.get? b = some o → hp.get? b = some o) →
      hp.get? L = some { cls := .type "list", data := .seq #[] c1 } → codeAny (model prog w) A (.builtin "list.extend.loop" ⟨[.ref L, .ref s.heap.objs.size, res], []⟩) R { s with heap := hp, toks := tk } := by
    intro hp c1 tk it keep hL1
    refine codeAny_extend_loopS wk (by rw [sizeLine_eq]; omega) L out res n 0 _ #[] c1 rfl (Nat.zero_le _) it hL1 (ItemsOf.nil _) fun s2 xs c mv hL2 ys => ?_
    rw [Moved.eq_with mv]
    refine hR s2.heap s2.toks xs c (fun b o nb e => mv.heap b o (fun m => ?_) (keep b o nb e)) hL2 ys
    rcases List.mem_cons.mp m with z | z
    · exact nb z
    · exact absurd (Heap.lt_size e) (by rw [List.mem_singleton.mp z]; exact Nat.lt_irrefl _)
  unfold Builtin.List.listExtendWith
  refine wpAny_bind (wpAny_typeOf (T := "range") ⟨_, hg, rfl⟩ ?_)
  have n1 : Builtin.List.listSameRef (.ref L) (.ref rg) = false := by simp [Builtin.List.listSameRef, dif]
  have n2 : (Value.type "range" == Value.type "list") = false := by decide
  have n3 : (Value.type "range" == Value.type "tuple") = false := by decide
  simp only [n1, n2, n3, Bool.or_false, Bool.false_eq_true, if_false]
  refine wpAny_bind (wpAny_pyIter_longrange hg big ?_)
  refine wpAny_bind (wpAny_holding (wpAny_hint_range (n := n) (Heap.get?_push_of_some _ hg) hn hz ?_))
  have it1 : IsLongIter (s.heap.push { cls := .type "longrange_iterator", data := .fields #[rawInt lo, rawInt (Builtin.Range.rangeSize lo up st), rawInt st] }) s.heap.objs.size (lo + ((0 : Nat) : Int) * st) ((n : Int) - ((0 : Nat) : Int)) st := by
    show IsLongIter _ _ _ _ _
    rw [hn]
    simpa using Heap.get?_push_size _ rfl
  have hL1 := Heap.get?_push_of_some { cls := .type "longrange_iterator", data := .fields #[rawInt lo, rawInt (Builtin.Range.rangeSize lo up st), rawInt st] } hL
  refine wpAny_ite_split (fun _ => ?_) (fun _ => wpAny_pure ⟨plainId_quiet F.plain_extend_loop _, run _ c0 _ it1 (fun b o _ e => Heap.get?_push_of_some _ e) hL1⟩)
  refine wpAny_bind (wpAny_rule (wpAny_bind ?_))
  show wpAny _ _ (updateSeq L (·.push .none) >>= fun _ => updateSeq L (·.pop)) _ _ _
  refine wpAny_bind (wpAny_updateSeq hL1 rfl ?_)
  have hL2 := Heap.get?_update_self (Obj.mapSeq (·.push Value.none)) hL1 rfl
  refine wpAny_updateSeq (hz := by seq_fits) hL2 rfl ?_
  have hL3 := Heap.get?_update_self (Obj.mapSeq (·.pop)) hL2 rfl
  refine wpAny_pure ⟨plainId_quiet F.plain_extend_loop _, run _ _ _ ?_ (fun b o nb e => ?_) hL3⟩
  · exact (Heap.get?_update_other _ _ dif2).trans ((Heap.get?_update_other _ _ dif2).trans it1)
  · exact (Heap.get?_update_other _ _ (Ne.symm nb)).trans ((Heap.get?_update_other _ _ (Ne.symm nb)).trans (Heap.get?_push_of_some _ e))
theorem init_longR {R : Result → Shared → Prop} {rg : Addr} {lo up st : Int} {t1 t2 t3 : Tok} {n : Nat} (hh : A.handled = none) (hg : IsRange s.heap rg lo up st t1 t2 t3) (big : Builtin.Range.small lo up st = false) (hn : Builtin.Range.rangeSize lo up st = n) (hz : n ≤ 2 ^ 24) (L : Addr) (hL : s.heap.get? L = some { cls := .type "list", data := .seq #[] })
    (hR : ∀ (hp : Heap) (tk : Nat) (xs : Array Value) (c : Nat), (∀ b o, b ≠ L → s.heap.get? b = some o → hp.get? b = some o) → hp.get? L = some { cls := .type "list", dict := none, data := .seq xs c, slots := #[] } → ItemsOf (fun i v => ∃ t, v = .int (lo + i * st) t) xs n → R (.ok (.ret .none)) { s with heap := hp, toks := tk }) :
    wpAny (model prog w) A.in1 (Builtin.«list.__init__» ⟨[.ref L, .ref rg], []⟩) (fun fin s' => match fin with | .done f => R (.ok f) s' | .again c' => c'.quiet = true ∧ codeAny (model prog w) A c' R s') (fun e s' => R (.error e) s') s := by
  have dif : L ≠ rg := fun e => by rw [e, hg] at hL; simp at hL
  show wpAny _ _ (do let old ← Builtin.List.listItems (.ref L); Builtin.List.listUpdate (.ref L) (fun _ => #[]); letGo old.toList.reverse; Builtin.List.listExtendWith (.ref L) (.ref rg) .none) _ _ s
  refine wpAny_bind ?_
  unfold Builtin.List.listItems
  refine wpAny_bind (wpAny_seqItems hL rfl (wpAny_pure ?_))
  show wpAny _ _ (updateSeq L (fun _ => #[]) >>= fun _ => letGo (#[] : Array Value).toList.reverse >>= fun _ => Builtin.List.listExtendWith (.ref L) (.ref rg) .none) _ _ s
  refine wpAny_bind (wpAny_updateSeq hL rfl ?_)
  have hL2 := Heap.get?_update_self (Obj.mapSeq (fun _ => (#[] : Array Value))) hL rfl
  have oth : ∀ b o, b ≠ L → s.heap.get? b = some o → (s.heap.update L (Obj.mapSeq (fun _ => (#[] : Array Value)))).get? b = some o :=
    fun b o nb e => (Heap.get?_update_other _ _ (Ne.symm nb)).trans e
  refine wpAny_bind (wpAny_letGo (ext_longR hh (oth rg _ (Ne.symm dif) hg) big hn hz L .none _ hL2 fun hp tk xs c keep hL3 ys => ?_))
  exact hR hp tk xs c (fun b o nb e => keep b o nb (oth b o nb e)) hL3 ys
theorem call_list_longR {Q : Value → Shared → Prop} {rg : Addr} {lo up st : Int} {t1 t2 t3 : Tok} {n : Nat} (hh : A.handled = none) (hg : IsRange s.heap rg lo up st t1 t2 t3) (big : Builtin.Range.small lo up st = false) (hn : Builtin.Range.rangeSize lo up st = n) (hz : n ≤ 2 ^ 24)
    (hQ : ∀ (hp : Heap) (tk : Nat) (xs : Array Value) (c : Nat), (∀ b o, s.heap.get? b = some o → hp.get? b = some o) → hp.get? s.heap.objs.size = some { cls := .type "list", dict := none, data := .seq xs c, slots := #[] } → ItemsOf (fun i v => ∃ t, v = .int (lo + i * st) t) xs n → Q (.ref s.heap.objs.size) { s with heap := hp, toks := tk }) :
    wpAny (model prog w) A (call (.type "list") [.ref rg]) Q E s := by
  refine callType_codes (Q₁ := fun obj z => obj = .ref s.heap.objs.size ∧ z = { s with heap := s.heap.push { cls := .type "list", data := .seq #[] } }) F.called_list (F.typeCall_list_1 _) F.entry_list_init (code_list_new _ ⟨rfl, rfl⟩) fun obj z hz1 => ?_
  obtain ⟨rfl, rfl⟩ := hz1
  have hL : (s.heap.push { cls := .type "list", data := .seq #[] }).get? s.heap.objs.size = some { cls := .type "list", data := .seq #[] } := Heap.get?_push_size _ rfl
  refine ⟨⟨_, hL, rfl⟩, F.args_list_init_2 _ _, init_longR (A := A.in1) hh (Heap.get?_push_of_some _ hg) big hn hz _ hL fun hp tk xs c keep hL3 ys => ?_⟩
  exact ⟨rfl, hQ hp tk xs c (fun b o e => keep b o (Nat.ne_of_lt (Heap.lt_size e)) (Heap.get?_push_of_some _ e)) hL3 ys⟩
end
end PySem
namespace DL
open PySem PySem.Spec PyProof.Rows L2
def RgAny (a b : Int) : Prop := (b - a).toNat ≤ 2 ^ 24
section
variable {X : Cx} {e : Expr} {te : L2.St → Hp → (Int → Int → Hp → Prop) → Prop}
def tLstAny (te : L2.St → Hp → (Int → Int → Hp → Prop) → Prop) : TE := fun σ H Q => te σ H fun a b H1 => RgAny a b ∧ ∀ q, H1 q = none → Q (.ref q) (upd H1 q (.lst (rgV a b)))
theorem pe_listAny {p pos : Pos} (hc : X.calm = true) (hg : Gl X "list") (hm : X.mg "list" = none) (he : PRg X e te) (na : starEach [e] X.env = (false, eval e X.env) :: starEach [] X.env := by rfl) : PE X (.Call (.Name "list" p) [e] [] pos) (tLstAny te) := by
  refine ⟨fun pins s σ H Q I h => ?_⟩
  refine Call_ (ld_blt I hg hm boot_list (PyProof.Rows.callWith_type1 (args_cons (thn (he pins s σ H _ I h) fun x z ⟨r, a, b, t, u, v, H1, ex, hr, I1, ok, q⟩ => args_nil ?_) na) na))
  subst ex
  have fin : ∀ (h' : Heap) (tk : Nat) (acc : Array Value) (c' : Nat), (∀ b o, z.heap.get? b = some o → h'.get? b = some o) → h'.get? z.heap.objs.size = some { cls := .type "list", dict := none, data := .seq acc c', slots := #[] } → ItemsOf (fun i v => ∃ t, v = .int (a + i * 1) t) acc (b - a).toNat →
      EP X pins σ Q (.ref z.heap.objs.size) { z with heap := h', toks := tk } := fun h' tk acc c' hk e' hi => by
    refine ⟨.ref z.heap.objs.size, upd H1 z.heap.objs.size (.lst (rgV a b)), I1.laid hk (Nat.le_refl _) (show ObjOk X.prog X.w _ _ _ (.lst (rgV a b)) from ⟨?_, acc.toList, c', vals_rg hi, ?_⟩), rfl, q _ (I1.hok.fresh (Nat.le_refl _))⟩
    · have ok' : (b - a).toNat ≤ 2 ^ 24 := ok
      rw [rgV_length, sizeLine_eq]
      omega
    · rw [Array.toArray_toList]
      exact e'
  cases sm : Builtin.Range.small a b 1 with
  | true => exact call_list_range (n := (b - a).toNat) (I1.ok.hd hc) hr sm (rangeSize_nat a b) ok fin
  | false => exact call_list_longR (n := (b - a).toNat) (I1.ok.hd hc) hr sm (rangeSize_nat a b) ok fin
end
section
variable {X : Cx} {ρ ρ1 ρ2 : List Sl} {e e2 : Expr} {pos p : Pos}
theorem vl_rangeAny {m n : Int} {pr pos' : Pos} (hc : X.calm = true) (hm : X.mg "list" = none) (hm2 : X.mg "range" = none) (ha : VE X ρ e (.int m) ρ1) (hb : VE X ρ1 e2 (.int n) ρ2) (hbd : (n - m).toNat ≤ 2 ^ 24) (hg : Gl X "list" := by rfl) (hg2 : Gl X "range" := by rfl) (na : starEach [e, e2] X.env = (false, eval e X.env) :: starEach [e2] X.env := by rfl) (nb : starEach [e2] X.env = (false, eval e2 X.env) :: starEach [] X.env := by rfl)
    (hp : (backTo pos' (starEach [e2] X.env)).any (·.1) = false := by rfl) (na2 : starEach [.Call (.Name "range" pr) [e, e2] [] pos'] X.env = (false, eval (.Call (.Name "range" pr) [e, e2] [] pos') X.env) :: starEach [] X.env := by rfl) : VL X ρ (.Call (.Name "list" p) [.Call (.Name "range" pr) [e, e2] [] pos'] [] pos) ((rng m (n - m).toNat).map Dt.int) ρ2 := by
  obtain ⟨t, pa, qa⟩ := ha
  obtain ⟨t2, pb, qb⟩ := hb
  refine ⟨_, pe_listAny hc hg hm (prg_2 hg2 hm2 pa pb na nb hp) na2, fun σ H g Q k rp q => qa σ H g _ k rp fun v H1 g1 k1 e1 r1 rv => qb σ H1 g1 _ k1 r1 fun u H2 g2 k2 e2 r2 ru => ?_⟩
  cases rv
  cases ru
  refine ⟨m, n, rfl, rfl, hbd, fun l hl => ?_⟩
  obtain ⟨f1, f2⟩ := k2.free hl
  refine q l _ _ g2 (k2.upd hl) (e1.trans e2) r2 upd_same f1 f2 ?_
  rw [rgV_rng]
  exact RpAll.of_ints _
end
end DL
namespace DL
open PySem PySem.Spec PyProof.Rows L2
theorem inV_ints (i : Int) : ∀ ns : List Int, inV (V.int i) (ns.map V.int) = decide (i ∈ ns)
  | [] => by simp [inV]
  | n :: ns => by
    have ih := inV_ints i ns
    unfold inV at ih ⊢
    rw [List.map_cons, List.any_cons, ih]
    show ((n == i) || decide (i ∈ ns)) = decide (i ∈ n :: ns)
    by_cases h : n = i
    · subst h
      simp
    · have h' : ¬ i = n := fun z => h z.symm
      simp [h, h']
theorem flat_ints : ∀ ns : List Int, (ns.map V.int).all flatV = true
  | [] => rfl
  | n :: ns => by rw [List.map_cons, List.all_cons, flat_ints ns]; rfl
section
variable {X : Cx} {ρ ρ1 ρ2 : List Sl} {a b : Expr} {pos : Pos} {i : Int} {ns : List Int}
theorem ve_inI (ha : VE X ρ a (.int i) ρ1) (hb : VE X ρ1 b (.lst (ns.map Dt.int)) ρ2) (hm : behindInMarks .In b = false := by rfl) : VE X ρ (.Compare a [.In] [b] pos) (.bl (decide (i ∈ ns))) ρ2 :=
  ve_cmp op_in_seq (fun v u H g Q kk rv ru q => by
    cases rv
    cases ru with
    | lst h1 h2 =>
      cases RpAll.ints h2
      exact ⟨_, _, rfl, .inl (sqx_mono kk.1 h1).l, rfl, flat_ints ns, q _ H g kk (Gro.refl g) (by rw [inV_ints]; exact Rp.bl _)⟩) hm ha hb
theorem vt_inI (ha : VE X ρ a (.int i) ρ1) (hb : VE X ρ1 b (.lst (ns.map Dt.int)) ρ2) (hm : behindInMarks .In b = false := by rfl) : VT X ρ (.Compare a [.In] [b] pos) (decide (i ∈ ns)) ρ2 :=
  vt_cmp op_in_seq (fun v u H g Q kk rv ru q => by
    cases rv
    cases ru with
    | lst h1 h2 =>
      cases RpAll.ints h2
      exact ⟨_, _, rfl, .inl (sqx_mono kk.1 h1).l, rfl, flat_ints ns, q _ H g kk (Gro.refl g) (by rw [inV_ints]; exact Rp.bl _)⟩) hm ha hb
end
end DL
namespace DL
open PySem PySem.Spec PyProof.Rows L2
/-! ### structures of own lists: cells (address, items), linked by opq -/
abbrev Cells := List (Addr × List Dt)
/-- new cells: this frame's own, in no slot yet -/
structure NewC (K : PySem.W.Frag) (σ : L2.St) (ρ ρ' : List Sl) (g g' : G) (cs : Cells) : Prop where
  nd : (cs.map (·.1)).Nodup
  hd : ∀ a ds, (a, ds) ∈ cs → g'.M a = some ds
  un : ∀ a, a ∈ cs.map (·.1) → ¬ OwnAt σ ρ' a
  mi : ∀ a, a ∈ cs.map (·.1) → ∀ Z : Fx, FrOk Z σ ρ g → a ∈ Z.I ∨ Z.g0.M a = none
  nw : ∀ a, a ∈ cs.map (·.1) → ∀ es, g.M a = some es → OwnAt σ ρ a
def RN (K : PySem.W.Frag) (t : TE) (ρ : List Sl) (T : Cells → Dt → Prop) (ρ' : List Sl) : Prop :=
  ∀ (σ : L2.St) (H : Hp) (g : G) (Q : VK), GOk K g H → Rep K g σ ρ →
    (∀ v H' g' cs x, GOk K g' H' → Ext σ ρ ρ' g g' → Rep K g' σ ρ' → Rp K g'.S v x → NewC K σ ρ ρ' g g' cs → T cs x → Q v H') → t σ H Q
def RNs (K : PySem.W.Frag) (t : TA) (ρ : List Sl) (T : Cells → List Dt → Prop) (ρ' : List Sl) : Prop :=
  ∀ (σ : L2.St) (H : Hp) (g : G) (Q : List V → Hp → Prop), GOk K g H → Rep K g σ ρ →
    (∀ vs H' g' cs xs, GOk K g' H' → Ext σ ρ ρ' g g' → Rep K g' σ ρ' → RpAll K g'.S vs xs → NewC K σ ρ ρ' g g' cs → T cs xs → Q vs H') → t σ H Q
/-- a new structure -/
def VN (X : Cx) (ρ : List Sl) (e : Expr) (T : Cells → Dt → Prop) (ρ' : List Sl) : Prop := ∃ t, PE X e t ∧ RN X.K t ρ T ρ'
def VNs (X : Cx) (ρ : List Sl) (es : List Expr) (T : Cells → List Dt → Prop) (ρ' : List Sl) : Prop := ∃ t, PA X es t ∧ RNs X.K t ρ T ρ'
section
variable {K : PySem.W.Frag} {σ : L2.St} {ρ ρ1 ρ2 : List Sl} {g g1 g2 : G} {cs ds : Cells}
theorem NewC.nil : NewC K σ ρ ρ1 g g1 [] := ⟨List.nodup_nil, fun _ _ h => (by cases h), fun _ h => (by cases h), fun _ h => (by cases h), fun _ h => (by cases h)⟩
theorem NewC.app (a : NewC K σ ρ ρ1 g g1 cs) (e1 : Ext σ ρ ρ1 g g1) (b : NewC K σ ρ1 ρ2 g1 g2 ds) (e2 : Ext σ ρ1 ρ2 g1 g2) : NewC K σ ρ ρ2 g g2 (cs ++ ds) := by
  have inM : ∀ p, p ∈ cs.map (·.1) → ∃ es, g1.M p = some es := fun p hp => by
    obtain ⟨⟨q, es⟩, h1, rfl⟩ := List.mem_map.mp hp
    exact ⟨es, a.hd _ _ h1⟩
  refine ⟨?_, fun p es h => ?_, fun p h => ?_, fun p h Z f => ?_, fun p h es he => ?_⟩
  · rw [List.map_append]
    refine List.nodup_append.mpr ⟨a.nd, b.nd, fun x hx y hy z => ?_⟩
    subst z
    obtain ⟨es, h1⟩ := inM x hx
    exact a.un x hx (b.nw x hy es h1)
  · rcases List.mem_append.mp h with h | h
    · exact e2.mu p es (a.hd p es h) (a.un p (List.mem_map.mpr ⟨_, h, rfl⟩))
    · exact b.hd p es h
  · rw [List.map_append] at h
    rcases List.mem_append.mp h with h | h
    · exact fun z => a.un p h (e2.ow p z)
    · exact b.un p h
  · rw [List.map_append] at h
    rcases List.mem_append.mp h with h | h
    · exact a.mi p h Z f
    · exact b.mi p h Z (f.ext e1)
  · rw [List.map_append] at h
    rcases List.mem_append.mp h with h | h
    · exact a.nw p h es he
    · by_cases hp : OwnAt σ ρ p
      · exact hp
      · exact (hp (e1.ow p (b.nw p h es (e1.mu p es he hp)))).elim
/-- one cell more, held at last -/
theorem NewC.hold (a : NewC K σ ρ ρ1 g g1 cs) (r : Rep K g1 σ ρ1) (e1 : Ext σ ρ ρ1 g g1) {p : Addr} {xs : List Dt} (hm : g1.M p = none) : NewC K σ ρ ρ1 g (g1.hold p xs) ((p, xs) :: cs) := by
  have inM : ∀ q, q ∈ cs.map (·.1) → ∃ es, g1.M q = some es := fun q hq => by
    obtain ⟨⟨b, es⟩, h1, rfl⟩ := List.mem_map.mp hq
    exact ⟨es, a.hd _ _ h1⟩
  refine ⟨?_, fun q es h => ?_, fun q h => ?_, fun q h Z f => ?_, fun q h es he => ?_⟩
  · rw [List.map_cons]
    refine List.nodup_cons.mpr ⟨fun z => ?_, a.nd⟩
    obtain ⟨es, h1⟩ := inM p z
    rw [hm] at h1
    cases h1
  · rcases List.mem_cons.mp h with h | h
    · cases h
      exact if_pos rfl
    · exact (hold_gro hm).mu q es (a.hd q es h)
  · rw [List.map_cons] at h
    rcases List.mem_cons.mp h with h | h
    · rw [h]
      rintro ⟨m, y, a1, a2⟩
      obtain ⟨es, h1⟩ := adr_held r a1 a2
      rw [hm] at h1
      cases h1
    · exact a.un q h
  · rw [List.map_cons] at h
    rcases List.mem_cons.mp h with h | h
    · rw [h]
      by_cases hI : p ∈ Z.I
      · exact .inl hI
      · refine .inr ?_
        cases z : Z.g0.M p with
        | none => rfl
        | some es =>
          have z1 := (f.ext e1).mu p es hI z
          rw [hm] at z1
          cases z1
    · exact a.mi q h Z f
  · rw [List.map_cons] at h
    rcases List.mem_cons.mp h with h | h
    · rw [h] at he ⊢
      by_cases hp : OwnAt σ ρ p
      · exact hp
      · have z1 := e1.mu p es he hp
        rw [hm] at z1
        cases z1
    · exact a.nw q h es he
/-- the slot of a new structure -/
theorem Rep.setT (r : Rep K g σ ρ) (i : Nat) {v : V} {x : Dt} (h : Rp K g.S v x) (nd : (cs.map (·.1)).Nodup) (hd : ∀ a ds, (a, ds) ∈ cs → g.M a = some ds) (un : ∀ a, a ∈ cs.map (·.1) → ¬ OwnAt σ ρ a) : Rep K g (σ.set i (some v)) (ρ.set i (.t cs x)) := by
  refine ⟨by rw [List.length_set, List.length_set]; exact r.len, fun j t e => ?_, fun j l t u q n e1 e2 w1 w2 => ?_⟩
  · by_cases hj : j = i
    · subst hj
      by_cases il : j < ρ.length
      · rw [List.getElem?_set_self il] at e
        cases e
        exact ⟨_, List.getElem?_set_self (by rw [r.len]; exact il), ⟨v, rfl, h⟩, nd, hd⟩
      · rw [List.getElem?_eq_none (by rw [List.length_set]; omega)] at e
        cases e
    · rw [List.getElem?_set_ne (Ne.symm hj)] at e
      obtain ⟨w, w1, w2⟩ := r.sl j t e
      exact ⟨w, by rw [List.getElem?_set_ne (Ne.symm hj)]; exact w1, w2⟩
  · have sp : ∀ (m : Nat) (y : Sl), (ρ.set i (.t cs x))[m]? = some y → Adr (σ.set i (some v)) m y q → (m = i ∧ q ∈ cs.map (·.1)) ∨ (m ≠ i ∧ ρ[m]? = some y ∧ Adr σ m y q) := fun m y a c => by
      by_cases hm' : m = i
      · subst hm'
        by_cases il : m < ρ.length
        · rw [List.getElem?_set_self il] at a
          cases a
          exact .inl ⟨rfl, c⟩
        · rw [List.getElem?_eq_none (by rw [List.length_set]; omega)] at a
          cases a
      · rw [List.getElem?_set_ne (Ne.symm hm')] at a
        exact .inr ⟨hm', a, (adr_set hm').mp c⟩
    rcases sp j t e1 w1 with ⟨a1, a2⟩ | ⟨a1, a2, a3⟩
    · rcases sp l u e2 w2 with ⟨b1, b2⟩ | ⟨b1, b2, b3⟩
      · exact n (a1.trans b1.symm)
      · exact un q a2 ⟨l, u, b2, b3⟩
    · rcases sp l u e2 w2 with ⟨b1, b2⟩ | ⟨b1, b2, b3⟩
      · exact un q b2 ⟨j, t, a2, a3⟩
      · exact r.ne j l t u q n a2 b2 a3 b3
end
section
variable {X : Cx} {Z : Fx} {κ : KD} {ρ ρ1 ρ2 : List Sl} {e : Expr} {es : List Expr} {d : Dt} {ds : List Dt} {pos : Pos} {T : Cells → Dt → Prop} {Ts : Cells → List Dt → Prop}
theorem vn_ve (h : VE X ρ e d ρ1) : VN X ρ e (fun cs x => cs = [] ∧ x = d) ρ1 := by
  obtain ⟨t, p, q⟩ := h
  exact ⟨t, p, fun σ H g Q k r z => q σ H g Q k r fun v H1 g1 k1 e1 r1 rv => z v H1 g1 [] d k1 e1 r1 rv NewC.nil ⟨rfl, rfl⟩⟩
theorem vn_vl (h : VL X ρ e ds ρ1) : VN X ρ e (fun cs x => ∃ a, cs = [(a, ds)] ∧ x = .opq a) ρ1 := by
  obtain ⟨t, p, q⟩ := h
  refine ⟨t, p, fun σ H g Q k r z => q σ H g Q k r fun a xs H1 g1 k1 e1 r1 hp hs hm rv => ?_⟩
  have gr := hold_gro (g := g1) (ds := ds) hm
  exact z _ H1 (g1.hold a ds) [(a, ds)] (.opq a) (hold_ok k1 hp hs rv) (e1.trans (gr.ext _ _)) (r1.gro gr) (Rp.opq a) (NewC.nil.hold r1 e1 hm) ⟨a, rfl, rfl⟩
theorem vns_nil : VNs X ρ [] (fun cs xs => cs = [] ∧ xs = []) ρ := ⟨_, pa_nil, fun σ H g Q k r z => z [] H g [] [] k (Ext.refl _ _ _) r .nil NewC.nil ⟨rfl, rfl⟩⟩
theorem vns_cons (h : VN X ρ e T ρ1) (h2 : VNs X ρ1 es Ts ρ2) (he : starEach (e :: es) X.env = (false, eval e X.env) :: starEach es X.env := by rfl) :
    VNs X ρ (e :: es) (fun cs xs => ∃ c1 x1 c2 x2, T c1 x1 ∧ Ts c2 x2 ∧ cs = c1 ++ c2 ∧ xs = x1 :: x2) ρ2 := by
  obtain ⟨t, p, q⟩ := h
  obtain ⟨u, p2, q2⟩ := h2
  refine ⟨_, pa_cons p p2 he, fun σ H g Q k r z => q σ H g _ k r fun v H1 g1 c1 x1 k1 e1 r1 rv n1 t1 => q2 σ H1 g1 _ k1 r1 fun vs H2 g2 c2 x2 k2 e2 r2 rv2 n2 t2 => ?_⟩
  exact z (v :: vs) H2 g2 (c1 ++ c2) (x1 :: x2) k2 (e1.trans e2) r2 (.cons (rv.mono e2.st) rv2) (n1.app e1 n2 e2) ⟨c1, x1, c2, x2, t1, t2, rfl, rfl⟩
/-- a new list of new structures -/
theorem vn_lst (h : VNs X ρ es Ts ρ1) (hz : ∀ cs xs, Ts cs xs → xs.length ≤ 1000000) : VN X ρ (.List es pos) (fun cs x => ∃ a c2 x2, Ts c2 x2 ∧ cs = (a, x2) :: c2 ∧ x = .opq a) ρ1 := by
  obtain ⟨t, p, q⟩ := h
  refine ⟨_, pe_lst p, fun σ H g Q k r z => q σ H g _ k r fun vs H1 g1 c2 x2 k1 e1 r1 rv n1 t1 => ⟨by rw [rv.len]; exact le_line (hz _ _ t1), fun a ha => ?_⟩⟩
  obtain ⟨hs, hm⟩ := k1.free ha
  have gr := hold_gro (g := g1) (ds := x2) hm
  exact z _ _ (g1.hold a x2) ((a, x2) :: c2) (.opq a) (hold_ok (k1.upd ha) upd_same hs rv) (e1.trans (gr.ext _ _)) (r1.gro gr) (Rp.opq a) (n1.hold r1 e1 hm) ⟨a, c2, x2, t1, rfl, rfl⟩
theorem VN.imp {T' : Cells → Dt → Prop} (h : VN X ρ e T ρ1) (hi : ∀ cs x, T cs x → T' cs x) : VN X ρ e T' ρ1 := by
  obtain ⟨t, p, q⟩ := h
  exact ⟨t, p, fun σ H g Q k r z => q σ H g Q k r fun v H1 g1 cs x k1 e1 r1 rv n1 t1 => z v H1 g1 cs x k1 e1 r1 rv n1 (hi _ _ t1)⟩
/-- name = a new structure -/
theorem ws_setT (i : Nat) {x : Str} {pos' : Pos} (h : VN X ρ e T ρ1) (k : ∀ cs y, T cs y → κ.nx (ρ1.set i (.t cs y))) (hN : X.N.Nodup) (hi : X.N[i]? = some x := by rfl) (hx : Loc X.env.scope x := by first | exact Or.inl rfl | exact Or.inr rfl)
    (hs : swapsWith e (some (.Name x pos')) pos.line X.env = pure false := by rfl) (hf : X.fn x = true ∨ X.env.scope.names.lookup x = some .local := by first | exact .inl rfl | exact .inr rfl) : WS X Z ρ (.Assign [.Name x pos'] e pos) κ := by
  obtain ⟨t, p, q⟩ := h
  refine ⟨_, ps_set hN hi hx p hs hf, fun σ H g D kk r f kd => q σ H g _ kk r fun v H1 g1 cs y k1 e1 r1 rv n1 t1 => ?_⟩
  have f1 := f.ext e1
  refine kd.nx _ H1 g1 _ k1 (r1.setT i rv n1.nd n1.hd n1.un) ⟨f1.st, f1.mu, fun a ⟨m, s, a1, a2⟩ => ?_⟩ e1.st (k cs y t1)
  by_cases hmi : m = i
  · subst hmi
    by_cases il : m < ρ1.length
    · rw [List.getElem?_set_self il] at a1
      cases a1
      exact n1.mi a a2 Z f
    · rw [List.getElem?_eq_none (by rw [List.length_set]; omega)] at a1
      cases a1
  · rw [List.getElem?_set_ne (Ne.symm hmi)] at a1
    exact f1.ow a ⟨m, s, a1, (adr_set hmi).mp a2⟩
/-- the structure's value, its links as they are -/
theorem ve_varT {cs : Cells} (i : Nat) {nm : Str} (h : ρ[i]? = some (.t cs d) := by rfl) (hN : X.N[i]? = some nm := by rfl) (hv : Vis X.env.scope nm := by first | exact Or.inl rfl | exact Or.inr (Or.inl rfl) | exact Or.inr (Or.inr rfl))
    (hd : (nm == ("__debug__" : Str)) = false := by decide) (hcd : (nm == ("__classdict__" : Str)) = false := by decide) : VE X ρ (.Name nm pos) d ρ :=
  ⟨_, pe_var hN hv hd hcd, fun σ H g Q k r q => by
    obtain ⟨v, e1, ⟨u, rfl, e2⟩, _⟩ := r.sl i _ h
    exact ⟨u, e1, q u H g k (Ext.refl _ _ _) r e2⟩⟩
end
end DL
namespace DL
open PySem PySem.Spec PyProof.Rows L2
/-! ### the data that a structure tells, its links followed -/
mutual
inductive Full (cs : Cells) : Dt → Dt → Prop
  | same (d : Dt) : Full cs d d
  | cell {a : Addr} {ds es : List Dt} : (a, ds) ∈ cs → FullA cs ds es → Full cs (.opq a) (.lst es)
  | tup {ds es : List Dt} : FullA cs ds es → Full cs (.tup ds) (.tup es)
inductive FullA (cs : Cells) : List Dt → List Dt → Prop
  | nil : FullA cs [] []
  | cons {d e : Dt} {ds es : List Dt} : Full cs d e → FullA cs ds es → FullA cs (d :: ds) (e :: es)
end
theorem FullA.same {cs : Cells} : ∀ ds : List Dt, FullA cs ds ds
  | [] => .nil
  | d :: ds => .cons (.same d) (FullA.same ds)
/-- what stands, and the own lists as they are now -/
def seeS (g : G) (H : Hp) : Hp := fun b => match g.M b with
  | some _ => H b
  | none => g.S b
section
variable {K : PySem.W.Frag} {g : G} {H : Hp}
theorem see_st (k : GOk K g H) : Same g.S (seeS g H) := fun b u e => by
  unfold seeS
  cases h : g.M b with
  | none => exact e
  | some ds => exact k.1 b u e
theorem see_H (k : GOk K g H) : Same (seeS g H) H := fun b u e => by
  unfold seeS at e
  cases h : g.M b with
  | none => rw [h] at e; exact k.1 b u e
  | some ds => rw [h] at e; exact e
mutual
theorem full_rp (k : GOk K g H) {cs : Cells} (hd : ∀ a ds, (a, ds) ∈ cs → g.M a = some ds) : ∀ {x d : Dt} {v : V}, Full cs x d → Rp K g.S v x → Rp K (seeS g H) v d
  | _, _, _, .same d, r => r.mono (see_st k)
  | _, _, _, .cell h f, r => by
    cases r
    obtain ⟨h1, xs, h2, h3⟩ := k.2 _ _ (hd _ _ h)
    refine Rp.lst (SqX.of ?_) (full_rpA k hd f h3)
    unfold seeS
    rw [hd _ _ h]
    exact h2
  | _, _, _, .tup f, r => by
    cases r with
    | tup h1 h2 => exact Rp.tup (sqt_mono (see_st k) h1) (full_rpA k hd f h2)
theorem full_rpA (k : GOk K g H) {cs : Cells} (hd : ∀ a ds, (a, ds) ∈ cs → g.M a = some ds) : ∀ {xs ds : List Dt} {vs : List V}, FullA cs xs ds → RpAll K g.S vs xs → RpAll K (seeS g H) vs ds
  | _, _, _, .nil, r => by
    cases r
    exact .nil
  | _, _, _, .cons f fs, r => by
    cases r with
    | cons r1 r2 => exact .cons (full_rp k hd f r1) (full_rpA k hd fs r2)
end
end
/-- data that is read at once -/
def RQ (K : PySem.W.Frag) (t : TE) (ρ : List Sl) (d : Dt) (ρ' : List Sl) : Prop :=
  ∀ (σ : L2.St) (H : Hp) (g : G) (Q : VK), GOk K g H → Rep K g σ ρ →
    (∀ v H' g' S', GOk K g' H' → Ext σ ρ ρ' g g' → Rep K g' σ ρ' → Same S' H' → Rp K S' v d → Q v H') → t σ H Q
def VQ (X : Cx) (ρ : List Sl) (e : Expr) (d : Dt) (ρ' : List Sl) : Prop := ∃ t, PE X e t ∧ RQ X.K t ρ d ρ'
section
variable {X : Cx} {ρ ρ1 ρ2 : List Sl} {e e2 : Expr} {x d d' : Dt} {ds : List Dt} {cs : Cells} {y : Dt} {pos p p1 p2 q1 q2 : Pos} {k : Nat}
theorem vq_ve (h : VE X ρ e d ρ1) : VQ X ρ e d ρ1 := by
  obtain ⟨t, p, q⟩ := h
  exact ⟨t, p, fun σ H g Q k r z => q σ H g Q k r fun v H1 g1 k1 e1 r1 rv => z v H1 g1 g1.S k1 e1 r1 k1.1 rv⟩
/-- a part of the structure in slot i -/
theorem vq_cell (i : Nat) (h : VE X ρ e x ρ1) (f : Full cs x d) (hs : ρ1[i]? = some (.t cs y) := by rfl) : VQ X ρ e d ρ1 := by
  obtain ⟨t, p, q⟩ := h
  refine ⟨t, p, fun σ H g Q k r z => q σ H g Q k r fun v H1 g1 k1 e1 r1 rv => ?_⟩
  obtain ⟨w, w1, w2, nd, hd⟩ := r1.sl i _ hs
  exact z v H1 g1 _ k1 e1 r1 (see_H k1) (full_rp k1 hd f rv)
theorem vq_own (i : Nat) {nm : Str} (h : (ρ[i]?.bind Sl.cont) = some ds := by rfl) (hN : X.N[i]? = some nm := by rfl) (hv : Vis X.env.scope nm := by first | exact Or.inl rfl | exact Or.inr (Or.inl rfl) | exact Or.inr (Or.inr rfl))
    (hd : (nm == ("__debug__" : Str)) = false := by decide) (hcd : (nm == ("__classdict__" : Str)) = false := by decide) : VQ X ρ (.Name nm pos) (.lst ds) ρ :=
  ⟨_, pe_var hN hv hd hcd, fun σ H g Q k r q => by
    obtain ⟨p, s, e1, e2, e3, e4⟩ := r.cont h
    obtain ⟨h1, xs, h2, h3⟩ := k.2 p _ e4
    exact ⟨_, e3, q _ H g _ k (Ext.refl _ _ _) r (see_H k) (full_rp (cs := [(p, ds)]) (x := .opq p) k (fun a es z => by cases List.mem_singleton.mp z; exact e4) (.cell (List.mem_singleton.mpr rfl) (FullA.same ds)) (Rp.opq p))⟩⟩
theorem ve_reprQ (hgd : X.A.guards = some []) (hr : Room k X.A) (hm : X.mg "repr" = none) (ha : VQ X ρ e d ρ1) (hk : (∃ ds, d = .lst ds) ∨ ∃ ds, d = .tup ds) (hf : d.fits = true) (hg : Gl X "repr" := by rfl) (he : starEach [e] X.env = (false, eval e X.env) :: starEach [] X.env := by rfl) :
    VE X ρ (.Call (.Name "repr" p) [e] [] pos) (.str d.text) ρ1 := by
  obtain ⟨t, pa, qa⟩ := ha
  refine ⟨_, pe_callB (cr_repr hgd hr) hg hm (by decide +kernel) (pa_cons pa pa_nil he) (by decide) (by decide) he rfl, fun σ H g Q kk rp q => qa σ H g _ kk rp fun v H1 g1 S' k1 e1 r1 st rv => ?_⟩
  simp only [Dt.fits, Bool.and_eq_true, decide_eq_true_eq] at hf
  obtain ⟨⟨⟨f1, f2⟩, f3⟩, f4⟩ := hf
  have dp := dp_mono st _ _ (Rp.dp d _ f1 rv)
  rcases hk with ⟨ds, rfl⟩ | ⟨ds, rfl⟩
  · cases rv with
    | lst h1 h2 => exact ⟨_, _, rfl, dp, f2, f3, f4, q _ H1 g1 k1 e1 r1 (Rp.str _)⟩
  · cases rv with
    | tup h1 h2 => exact ⟨_, _, rfl, dp, f2, f3, f4, q _ H1 g1 k1 e1 r1 (Rp.str _)⟩
/-- repr(a) != repr(b) of equal data, read at once -/
theorem vt_reprNeQ (hgd : X.A.guards = some []) (hr : Room k X.A) (hm : X.mg "repr" = none) (ha : VQ X ρ e d ρ1) (hb : VQ X ρ1 e2 d' ρ2) (hdd : d' = d) (hk : (∃ ds, d = .lst ds) ∨ ∃ ds, d = .tup ds) (hs : d.Sm) (hd : Nat.ble d.dep 100 = true) (hw : d.wt ≤ 16777216) (hg : Gl X "repr" := by rfl)
    (he : starEach [e] X.env = (false, eval e X.env) :: starEach [] X.env := by rfl) (he2 : starEach [e2] X.env = (false, eval e2 X.env) :: starEach [] X.env := by rfl) :
    VT X ρ (.Compare (.Call (.Name "repr" p1) [e] [] q1) [.NotEq] [.Call (.Name "repr" p2) [e2] [] q2] pos) false ρ2 := by
  subst hdd
  have f := fits_of hs (Nat.le_of_ble_eq_true hd) hw
  exact VT.to (vt_neS (ve_reprQ hgd hr hm ha hk f hg he) (ve_reprQ hgd hr hm hb hk f hg he2)) (by rw [decide_eq_true rfl]; rfl)
/-- e[j], e a list of the structure in slot i -/
theorem ve_ixQ (i : Nat) {a : Addr} {j : Int} {b : Expr} (ha : VE X ρ e (.opq a) ρ1) (hb : VE X ρ1 b (.int j) ρ2) (hm : (a, ds) ∈ cs) (h : atI ds j = some d) (hs : ρ2[i]? = some (.t cs y) := by rfl) (hx : PlainIx b := by intro _ _; rfl) : VE X ρ (.Subscript e b pos) d ρ2 := by
  obtain ⟨ta, pa, qa⟩ := ha
  obtain ⟨tb, pb, qb⟩ := hb
  refine ⟨_, pe_ix ix_list pa pb hx, fun σ H g Q k rp q => qa σ H g _ k rp fun v H1 g1 k1 e1 r1 rv => qb σ H1 g1 _ k1 r1 fun u H2 g2 k2 e2 r2 ru => ?_⟩
  cases rv
  cases ru
  obtain ⟨w, w1, w2, nd, hd⟩ := r2.sl i _ hs
  obtain ⟨_, xs, h2, h3⟩ := k2.2 _ _ (hd _ _ hm)
  obtain ⟨z, z1, z2⟩ := at_rp h3 h
  exact ⟨a, xs, j, z, rfl, rfl, SqL.of h2, z1, q z H2 g2 k2 (e1.trans e2) r2 z2⟩
theorem ve_lenQ (i : Nat) {a : Addr} (hm0 : X.mg "len" = none) (ha : VE X ρ e (.opq a) ρ1) (hm : (a, ds) ∈ cs) (hs : ρ1[i]? = some (.t cs y) := by rfl) (hg : Gl X "len" := by rfl) (he : starEach (e :: []) X.env = (false, eval e X.env) :: starEach [] X.env := by rfl) : VE X ρ (.Call (.Name "len" p) [e] [] pos) (.int (ds.length : Int)) ρ1 := by
  obtain ⟨t, pa, qa⟩ := ha
  refine ⟨_, pe_callB call_len_seq hg hm0 PySem.boot_len (pa_cons pa pa_nil he) (by decide) (by decide) he rfl, fun σ H g Q kk rp q => qa σ H g _ kk rp fun v H1 g1 k1 e1 r1 rv => ?_⟩
  cases rv
  obtain ⟨w, w1, w2, nd, hd⟩ := r1.sl i _ hs
  obtain ⟨_, xs, h2, h3⟩ := k1.2 _ _ (hd _ _ hm)
  exact ⟨a, xs, rfl, .inl (SqL.of h2), q _ H1 g1 k1 e1 r1 (by rw [h3.len]; exact Rp.int _)⟩
end
/-! ### one list of a structure is changed -/
inductive UpdC (a : Addr) (ds : List Dt) : Cells → Cells → Prop
  | here {es : List Dt} {cs : Cells} : UpdC a ds ((a, es) :: cs) ((a, ds) :: cs)
  | there {c : Addr × List Dt} {cs cs' : Cells} : UpdC a ds cs cs' → UpdC a ds (c :: cs) (c :: cs')
theorem UpdC.fst {a : Addr} {ds : List Dt} : ∀ {cs cs' : Cells}, UpdC a ds cs cs' → cs'.map (·.1) = cs.map (·.1)
  | _, _, .here => rfl
  | _, _, .there h => by rw [List.map_cons, List.map_cons, h.fst]
theorem UpdC.in {a : Addr} {ds : List Dt} : ∀ {cs cs' : Cells}, UpdC a ds cs cs' → a ∈ cs.map (·.1)
  | _, _, .here => List.mem_cons_self
  | _, _, .there h => List.mem_cons_of_mem _ h.in
theorem UpdC.mem {a : Addr} {ds : List Dt} : ∀ {cs cs' : Cells}, UpdC a ds cs cs' → (cs.map (·.1)).Nodup → ∀ {b : Addr} {es : List Dt}, (b, es) ∈ cs' → (b = a ∧ es = ds) ∨ (b ≠ a ∧ (b, es) ∈ cs)
  | _, _, .here (cs := cs), nd, b, es, h => by
    rcases List.mem_cons.mp h with h1 | h1
    · cases h1
      exact .inl ⟨rfl, rfl⟩
    · exact .inr ⟨fun z => (List.nodup_cons.mp nd).1 (List.mem_map.mpr ⟨_, h1, z⟩), List.mem_cons_of_mem _ h1⟩
  | _, _, .there (c := c) u, nd, b, es, h => by
    rcases List.mem_cons.mp h with h1 | h1
    · refine .inr ⟨fun z => (List.nodup_cons.mp nd).1 ?_, List.mem_cons.mpr (.inl h1)⟩
      have e : c.1 = a := by rw [← h1]; exact z
      show c.1 ∈ _
      rw [e]
      exact u.in
    · rcases u.mem (List.nodup_cons.mp nd).2 h1 with z | ⟨z1, z2⟩
      · exact .inl z
      · exact .inr ⟨z1, List.mem_cons_of_mem _ z2⟩
theorem Rep.putC {K : PySem.W.Frag} {g g' : G} {σ : L2.St} {ρ : List Sl} {i : Nat} {a : Addr} {cs cs' : Cells} {y : Dt} {ls : List Dt} (r : Rep K g σ ρ) (hs : ρ[i]? = some (.t cs y)) (u : UpdC a ls cs cs') (st : Same g.S g'.S)
    (mu : ∀ q es, q ≠ a → g.M q = some es → g'.M q = some es) (hp : g'.M a = some ls) : Rep K g' σ (ρ.set i (.t cs' y)) ∧ Ext σ ρ (ρ.set i (.t cs' y)) g g' := by
  have il : i < ρ.length := (List.getElem?_eq_some_iff.mp hs).1
  have ha : Adr σ i (.t cs y) a := u.in
  have bk : ∀ (j : Nat) (t : Sl), (ρ.set i (.t cs' y))[j]? = some t → ∃ s, ρ[j]? = some s ∧ ∀ q, Adr σ j t q → Adr σ j s q := fun j t e => by
    by_cases hj : j = i
    · subst hj
      rw [List.getElem?_set_self il] at e
      cases e
      exact ⟨_, hs, fun q z => by have z' : q ∈ cs'.map (·.1) := z; rw [u.fst] at z'; exact z'⟩
    · rw [List.getElem?_set_ne (Ne.symm hj)] at e
      exact ⟨t, e, fun q z => z⟩
  refine ⟨⟨by rw [List.length_set]; exact r.len, fun j t e => ?_, fun j l t s q n e1 e2 w1 w2 => ?_⟩, ⟨st, fun q es e n => mu q es (fun z => n ⟨i, _, hs, by rw [z]; exact ha⟩) e, fun q ⟨j, t, e1, e2⟩ => ?_⟩⟩
  · by_cases hj : j = i
    · subst hj
      rw [List.getElem?_set_self il] at e
      cases e
      obtain ⟨v, z1, ⟨w, z2, z3⟩, nd, hd⟩ := r.sl j _ hs
      refine ⟨v, z1, ⟨w, z2, z3.mono st⟩, by rw [u.fst]; exact nd, fun b es hb => ?_⟩
      rcases u.mem nd hb with ⟨h1, h2⟩ | ⟨h1, h2⟩
      · rw [h1, h2]
        exact hp
      · exact mu b es h1 (hd b es h2)
    · rw [List.getElem?_set_ne (Ne.symm hj)] at e
      obtain ⟨v, w1, w2⟩ := r.sl j t e
      refine ⟨v, w1, ?_⟩
      cases t with
      | no => trivial
      | d x => obtain ⟨w, z1, z2⟩ := w2; exact ⟨w, z1, z2.mono st⟩
      | o es =>
        obtain ⟨p2, z1, z2⟩ := w2
        refine ⟨p2, z1, mu _ _ (fun z => ?_) z2⟩
        subst z
        exact r.ne i j _ _ p2 (Ne.symm hj) hs e ha (show σ[j]? = _ by rw [w1, z1])
      | i p2 es =>
        obtain ⟨z1, z2⟩ := w2
        refine ⟨z1, mu _ _ (fun z => ?_) z2⟩
        subst z
        exact r.ne i j _ _ p2 (Ne.symm hj) hs e ha (show σ[j]? = _ by rw [w1, z1])
      | t cs2 x =>
        obtain ⟨⟨w, z1, z2⟩, nd, z3⟩ := w2
        exact ⟨⟨w, z1, z2.mono st⟩, nd, fun b es hb => mu _ _ (fun z => r.ne i j _ _ a (Ne.symm hj) hs e ha (List.mem_map.mpr ⟨(b, es), hb, z⟩)) (z3 b es hb)⟩
  · obtain ⟨t', a1, a2⟩ := bk j t e1
    obtain ⟨s', b1, b2⟩ := bk l s e2
    exact r.ne j l t' s' q n a1 b1 (a2 q w1) (b2 q w2)
  · obtain ⟨s', a1, a2⟩ := bk j t e1
    exact ⟨j, s', a1, a2 q e2⟩
section
variable {X : Cx} {Z : Fx} {κ : KD} {ρ ρ1 ρ2 : List Sl} {e eo : Expr} {d : Dt} {ds : List Dt} {cs cs' : Cells} {y : Dt} {pos apos cpos : Pos} {a : Addr}
/-- E.append(e), E a list of the structure in slot i -/
theorem ws_appQ (i : Nat) {cs0 : Cells} {y0 : Dt} {ds0 : List Dt} (ho : VE X ρ eo (.opq a) ρ1) (h : VE X ρ1 e d ρ2) (hm0 : (a, ds0) ∈ cs0) (hm : (a, ds) ∈ cs) (hz : ds.length < 1000000) (u : UpdC a (ds ++ [d]) cs cs') (k : κ.nx (ρ2.set i (.t cs' y))) (hs0 : ρ1[i]? = some (.t cs0 y0) := by rfl) (hs : ρ2[i]? = some (.t cs y) := by rfl)
    (hbase : attributeBase eo "append" X.env (eval eo X.env) = eval eo X.env := by rfl)
    (hfew : ((backTo cpos (starEach (e :: []) X.env)).all (fun x => !x.1) && (backToKw cpos (keywordEach [] X.env)).all (fun x => x.1.isSome) && decide ((e :: ([] : List Expr)).length + ([] : List Keyword).length + (if ([] : List Keyword).isEmpty then 0 else 1) < 30)) = true := by rfl)
    (hline : (apos.endLine == cpos.line) = true := by rfl) (hst : starEach (e :: []) X.env = (false, eval e X.env) :: starEach [] X.env := by rfl) (hplain : (backTo cpos (starEach [] X.env)).any (·.1) = false := by rfl)
    (hsw : swapsWith (.Call (.Attribute eo "append" apos) [e] [] cpos) none pos.line X.env = pure false := by rfl) : WS X Z ρ (.Expr (.Call (.Attribute eo "append" apos) [e] [] cpos) pos) κ := by
  obtain ⟨to, po, qo⟩ := ho
  obtain ⟨t, p, q⟩ := h
  refine ⟨_, ps_expr (pe_bm PySem.F.plainAttrs_list PySem.F.slot_list_append PySem.F.type_list_append mt_append po (pa_cons p pa_nil hst) hbase hfew hline hst hplain) hsw, fun σ H g D kk r f kd => ?_⟩
  refine qo σ H g _ kk r fun v H1 g1 k1 e1 r1 rv => ?_
  cases rv
  obtain ⟨_, _, _, nd0, hd0⟩ := r1.sl i _ hs0
  obtain ⟨_, xs0, z5, _⟩ := k1.2 a ds0 (hd0 _ _ hm0)
  refine ⟨.inl ⟨rfl, xs0, SqL.of z5⟩, q σ H1 g1 _ k1 r1 fun w H2 g2 k2 e2 r2 rw2 => ?_⟩
  obtain ⟨_, _, _, nd, hd⟩ := r2.sl i _ hs
  obtain ⟨n1, xs, n2, n3⟩ := k2.2 a ds (hd _ _ hm)
  refine ⟨_, xs, w, rfl, rfl, n2, by rw [n3.len]; exact Nat.lt_of_lt_of_le hz (by decide), ?_⟩
  let g3 : G := ⟨g2.S, fun q => if q = a then some (ds ++ [d]) else g2.M q⟩
  obtain ⟨r3, ex3⟩ := r2.putC (g' := g3) hs u (Same.refl _) (fun q es n e => by show (if q = a then _ else _) = _; rw [if_neg n]; exact e) (if_pos rfl)
  refine kd.nx σ _ g3 _ ⟨fun b o eb => ?_, fun q es eq => ?_⟩ r3 ((f.ext (e1.trans e2)).ext ex3) ((e1.st.trans e2.st).trans ex3.st) k
  · have nb : b ≠ a := fun z => by
      have e' : g2.S b = some o := eb
      rw [z, n1] at e'
      cases e'
    rw [upd_ne nb]
    exact k2.1 b o eb
  · have e' : (if q = a then some (ds ++ [d]) else g2.M q) = some es := eq
    by_cases hq : q = a
    · subst hq
      rw [if_pos rfl] at e'
      cases e'
      exact ⟨n1, _, upd_same, n3.app (.cons rw2 .nil)⟩
    · rw [if_neg hq] at e'
      obtain ⟨h1, ys, h2, h3⟩ := k2.2 q es e'
      exact ⟨h1, ys, by rw [upd_ne hq]; exact h2, h3⟩
end
/-! ### the walk over a list of the structure in slot i; the list itself stays -/
section
variable {X : Cx} {ρ ρ1 : List Sl} {tg : Expr} {pos : Pos} {ds : List Dt}
theorem ws_forQ (n : Nat) {Z : Fx} {κ : KD} {iter : Expr} {body : List Stmt} {a : Addr} (hc : X.calm = true) (hi : VE X ρ iter (.opq a) ρ1) (Pv : Nat → List Sl → Prop) (h0 : Pv 0 ρ1) (hq : ∀ i ρ, Pv i ρ → ∃ cs y, ρ[n]? = some (.t cs y) ∧ (a, ds) ∈ cs)
    (hs : ∀ j d ρ, ds[j]? = some d → Pv j ρ → ∃ ρ' is, VG X tg is d ρ ρ' ∧ WSs X Z ρ' body { κ with nx := Pv (j + 1), ct := Pv (j + 1), bk := κ.nx }) (hd : ∀ ρ, Pv ds.length ρ → κ.nx ρ)
    (hp : PassesOwn (model X.prog X.w) X.A X.env X.xe) (hf : ∀ x, foldedSetIterable iter X.env x = pure x := by intro _; rfl) : WS X Z ρ (.For tg iter body [] pos) κ := by
  obtain ⟨wi, p, q⟩ := hi
  refine ⟨_, ps_for (g := fun v σ H Q => ∃ t, PG X tg t ∧ t v σ H Q) (tb := fun D σ H => ∃ u, PSs X body u ∧ u D σ H) hp hc (pi_list p) ⟨fun pins s σ H v u Q I r ⟨t, pt, ht⟩ => pt.run pins s σ H v u Q I r ht⟩ ⟨fun pins s σ H D I ⟨u, pu, hu⟩ => pu.run pins s σ H D I hu⟩ hf, fun σ H g D k r f kd => ?_⟩
  have now : ∀ {i : Nat} {ρ' : List Sl} {g' : G} {H' : Hp} {σ' : L2.St}, Pv i ρ' → GOk X.K g' H' → Rep X.K g' σ' ρ' → ∃ xs, H' a = some (.lst xs) ∧ RpAll X.K g'.S xs ds := fun pv k' r' => by
    obtain ⟨cs, y, e1, e2⟩ := hq _ _ pv
    obtain ⟨_, _, _, nd, hd'⟩ := r'.sl n _ e1
    obtain ⟨_, xs, h2, h3⟩ := k'.2 a ds (hd' _ _ e2)
    exact ⟨xs, h2, h3⟩
  refine q σ H g _ k r fun v H1 g1 k1 e1 r1 rv => ?_
  cases rv
  obtain ⟨xs1, h1, _⟩ := now h0 k1 r1
  refine ⟨a, rfl, ⟨_, SqL.of h1⟩, ?_⟩
  have f1 := f.ext e1
  refine ⟨fun i m σ' H' => m = ds.length - i ∧ i ≤ ds.length ∧ ∃ g' ρ', GOk X.K g' H' ∧ Rep X.K g' σ' ρ' ∧ FrOk Z σ' ρ' g' ∧ Same g1.S g'.S ∧ Pv i ρ', ⟨ds.length, by simp, Nat.zero_le _, g1, ρ1, k1, r1, f1, Same.refl _, h0⟩, ?_⟩
  rintro i m σ' H' ⟨rfl, hi, g', ρ', k', r', f', st, pv⟩
  obtain ⟨xs, hx, rx⟩ := now pv k' r'
  by_cases hlt : i < ds.length
  · obtain ⟨d, hd'⟩ : ∃ d, ds[i]? = some d := ⟨ds[i], List.getElem?_eq_getElem hlt⟩
    obtain ⟨v, v1, v2⟩ := rx.at hd'
    refine .inr ⟨⟨xs, v, SqL.of hx, v1⟩, fun σ2 H2 => ∃ g2 ρ2, GOk X.K g2 H2 ∧ Rep X.K g2 σ2 ρ2 ∧ FrOk Z σ2 ρ2 g2 ∧ Same g1.S g2.S ∧ Pv (i + 1) ρ2, fun σ2 H2 z => ⟨ds.length - (i + 1), by omega, rfl, hlt, z⟩, fun x H3 ⟨y1, y2⟩ => ?_⟩
    subst y1
    have ev := y2 xs (SqL.of hx)
    rw [v1] at ev
    cases ev
    obtain ⟨ρ4, is, ⟨t, pt, qt⟩, ⟨u, pu, qu⟩⟩ := hs i d ρ' hd' pv
    refine ⟨t, pt, qt _ σ' _ g' _ k' r' v2 fun σ4 a1 a2 a3 a4 => ⟨u, pu, ?_⟩⟩
    refine qu σ4 _ g' _ k' a1 (f'.slots a4) ⟨fun σ5 H5 g5 ρ5 k5 r5 f5 s5 z => ?_, fun v σ5 H5 g5 ρ5 d5 k5 r5 f5 s5 z => ?_, fun σ5 H5 g5 ρ5 k5 r5 f5 s5 z => ?_, fun σ5 H5 g5 ρ5 k5 r5 f5 s5 z => ?_, fun pa xs σ5 H5 g5 ρ5 ds5 k5 r5 f5 s5 => kd.rl pa xs σ5 H5 g5 ρ5 ds5 k5 r5 f5 ((e1.st.trans st).trans s5)⟩
    · exact ⟨g5, ρ5, k5, r5, f5, st.trans s5, z⟩
    · exact kd.rt v σ5 H5 g5 ρ5 d5 k5 r5 f5 ((e1.st.trans st).trans s5) z
    · exact kd.nx σ5 H5 g5 ρ5 k5 r5 f5 ((e1.st.trans st).trans s5) z
    · exact ⟨g5, ρ5, k5, r5, f5, st.trans s5, z⟩
  · have e : i = ds.length := by omega
    subst e
    exact .inl ⟨⟨xs, SqL.of hx, by rw [rx.len]; exact Nat.le_refl _⟩, kd.nx σ' H' g' ρ' k' r' f' (e1.st.trans st) (hd ρ' pv)⟩
end
/-! ### a call by keywords that hands back a new list -/
section
variable {X : Cx} {ρ ρ1 : List Sl} {k n : Nat} {x : Str} {st : Stmt} {ps ks : List Str} {kws : List Keyword} {ds ls : List Dt} {p pos : Pos} {R : List Dt → List Dt → Prop}
theorem vckL (π : List Nat) (F : FnAt X.prog X.w X.K X.mg X.base x st k ps (spL X.K n R)) (hgd : X.A.guards = some []) (hr : Room k X.A)
    (hb : ∀ (kV doc pm : Value) (an : Option Addr) (cdv ct : Value) (ws : List Value), ws.length = ks.length → bindArgs (PySem.W.fnOf x x (defArgs st) (defBody st) (defScope st) .none kV doc pm an cdv ct) ⟨[], ks.zip ws⟩ = pure (ps.zip (perm π ws)))
    (ha : VK' X ρ kws ds ρ1) (hR : R (perm π ds) ls) (hn : (perm π ds).length = n := by rfl) (hkl : ds.length = ks.length := by rfl) (hg : Gl X x := by rfl) (hall : (backToKw pos (keywordEach kws X.env)).all (·.1.isSome) = true := by rfl) (hks : (backToKw pos (keywordEach kws X.env)).filterMap (·.1) = ks := by rfl)
    (hdb : (x == ("__debug__" : Str)) = false := by decide) (hpl : ((backTo pos (starEach [] X.env)).any (·.1) || (backToKw pos (keywordEach kws X.env)).any (·.1.isNone)) = false := by rfl) : VL X ρ (.Call (.Name x p) [] kws pos) ls ρ1 := by
  obtain ⟨f, fd, h1, h2, h3, h4⟩ := F.it
  obtain ⟨oc, od, kV, doc, pm, an, cdv, ct, osl, rfl, lk, hcd⟩ := h2.ex
  obtain ⟨t, pa, qa⟩ := ha
  let sp' : Sp := spL X.K n R
  refine ⟨fun σ H Q => t σ H fun zs H1 => zs.length = ks.length ∧ sp' (perm π zs) H1 Q E0, ⟨fun pins s σ H Q I h => ?_⟩, fun σ H g Q kk rp q => qa σ H g _ kk rp fun vs H1 g1 k1 e1 r1 rv => ⟨by rw [rv.len]; exact hkl, ?_⟩⟩
  · refine wpAny_Call_Name_kw (ld_glob I hg h1 (PySem.W.callWith_KW0 (h₀ := X.base) I.ok.mod.kin h2.kp hall (thn (pa.run pos pins s σ H _ I h) fun ws s1 ⟨zs, H1, I1, r, hl, q⟩ => ⟨I1.kIn, ?_⟩) hpl) hdb)
    rw [hks]
    exact run_g h4 hgd hr (fun _ => .of_eq (hb kV doc pm an cdv ct ws (by rw [← r.length]; exact hl))) passL I1 (perm_vals r π) q
  · exact ⟨g1, perm π ds, ls, hn, k1, perm_rp rv π, hR, fun pa2 xs H2 g2 k2 gr hp hs hm rd => q pa2 xs H2 g2 k2 (e1.trans (gr.ext _ _)) (r1.gro gr) hp hs hm rd⟩
end
end DL
namespace DL
open PySem PySem.Spec PyProof.Rows L2
/-- a list let go -/
def G.drop (g : G) (p : Addr) : G := ⟨g.S, fun q => if q = p then none else g.M q⟩
section
variable {X : Cx} {ρ : List Sl} {ds : List Dt} {pos : Pos}
/-- a list of one's own, handed on as a new list: the name is not used any more -/
theorem vl_give (i : Nat) {nm : Str} (h : ρ[i]? = some (.o ds) := by rfl) (hN : X.N[i]? = some nm := by rfl) (hv : Vis X.env.scope nm := by first | exact Or.inl rfl | exact Or.inr (Or.inl rfl) | exact Or.inr (Or.inr rfl))
    (hd : (nm == ("__debug__" : Str)) = false := by decide) (hcd : (nm == ("__classdict__" : Str)) = false := by decide) : VL X ρ (.Name nm pos) ds (ρ.set i .no) :=
  ⟨_, pe_var hN hv hd hcd, fun σ H g Q k r q => by
    obtain ⟨p, e3, e4⟩ := r.getO h
    obtain ⟨hs, xs, e5, e6⟩ := k.2 p _ e4
    refine ⟨_, e3, ?_⟩
    have il : i < ρ.length := (List.getElem?_eq_some_iff.mp h).1
    have mo : ∀ q es, g.M q = some es → q ≠ p → (g.drop p).M q = some es := fun q es e n => by show (if q = p then none else g.M q) = some es; rw [if_neg n]; exact e
    have off : ∀ j s b, (ρ.set i .no)[j]? = some s → Adr σ j s b → j ≠ i ∧ ρ[j]? = some s := fun j s b e1 e2 => by
      by_cases hj : j = i
      · subst hj
        rw [List.getElem?_set_self il] at e1
        cases e1
        exact e2.elim
      · rw [List.getElem?_set_ne (Ne.symm hj)] at e1
        exact ⟨hj, e1⟩
    refine q p xs H (g.drop p) ⟨k.1, fun q es e => ?_⟩ ⟨Same.refl _, fun q es e n => mo q es e fun z => n ⟨i, _, h, by rw [z]; exact e3⟩, fun q ⟨j, s, e1, e2⟩ => ⟨j, s, (off j s _ e1 e2).2, e2⟩⟩ ⟨by rw [List.length_set]; exact r.len, fun j s e => ?_, fun j l s t b n e1 e2 w1 w2 => ?_⟩ e5 hs (if_pos rfl) e6
    · have e' : (if q = p then none else g.M q) = some es := e
      by_cases hq : q = p
      · rw [if_pos hq] at e'; cases e'
      · rw [if_neg hq] at e'
        exact k.2 q es e'
    · by_cases hj : j = i
      · subst hj
        rw [List.getElem?_set_self il] at e
        cases e
        exact ⟨_, e3, trivial⟩
      · rw [List.getElem?_set_ne (Ne.symm hj)] at e
        obtain ⟨v, w1, w2⟩ := r.sl j s e
        refine ⟨v, w1, ?_⟩
        cases s with
        | no => trivial
        | d y => exact w2
        | o es =>
          obtain ⟨p2, z1, z2⟩ := w2
          refine ⟨p2, z1, mo _ _ z2 fun z => ?_⟩
          subst z
          exact r.ne i j _ _ p2 (Ne.symm hj) h e e3 (show σ[j]? = _ by rw [w1, z1])
        | i p2 es =>
          obtain ⟨z1, z2⟩ := w2
          refine ⟨z1, mo _ _ z2 fun z => ?_⟩
          subst z
          exact r.ne i j _ _ p2 (Ne.symm hj) h e e3 (show σ[j]? = _ by rw [w1, z1])
        | t cs y =>
          obtain ⟨z1, nd, z3⟩ := w2
          exact ⟨z1, nd, fun b es hb => mo _ _ (z3 b es hb) fun z => r.ne i j _ _ p (Ne.symm hj) h e e3 (List.mem_map.mpr ⟨(b, es), hb, z⟩)⟩
    · exact r.ne j l s t b n (off j s b e1 w1).2 (off l t b e2 w2).2 w1 w2⟩
end
end DL
namespace DL
open PySem PySem.Spec PyProof.Rows L2
/-- the ints a, a - 1, .. : n of them -/
def dng (a : Int) (n : Nat) : List Int := (List.range n).map fun (k : Nat) => a - (k : Int)
theorem dng_length (a : Int) (n : Nat) : (dng a n).length = n := by unfold dng; rw [List.length_map, List.length_range]
theorem dng_get {a : Int} {n j : Nat} {d : Dt} (h : ((dng a n).map Dt.int)[j]? = some d) : j < n ∧ d = .int (a - (j : Int)) := by
  unfold dng at h
  rw [List.getElem?_map, List.getElem?_map] at h
  by_cases hj : j < n
  · rw [List.getElem?_range hj] at h
    cases h
    exact ⟨hj, rfl⟩
  · rw [List.getElem?_eq_none (by rw [List.length_range]; omega)] at h
    cases h
section
variable {X : Cx} {ρ ρ1 ρ2 ρ3 : List Sl} {d : Dt} {ds : List Dt} {pos p : Pos} {e e2 e3 tg : Expr}
theorem yields_dng {K : PySem.W.Frag} {g : G} {a : Int} {n : Nat} : Yields K (Itc a (-1) n) g ((dng a n).map Dt.int) := fun g2 H2 k2 st => by
  refine ⟨fun j d hj => ?_, show n ≤ _ by rw [List.length_map, dng_length]; exact Nat.le_refl _⟩
  obtain ⟨h1, rfl⟩ := dng_get hj
  refine ⟨h1, fun x H3 ⟨y1, y2⟩ => ?_⟩
  subst y1
  subst y2
  refine ⟨g2, k2, Gro.refl g2, ?_⟩
  have ei : a + (j : Int) * (-1) = a - (j : Int) := by omega
  rw [ei]
  exact Rp.int _
/-- range(m, n, -1) -/
theorem vi_rangeDn {m n : Int} (hm : X.mg "range" = none) (ha : VA X ρ [e, e2, e3] [.int m, .int n, .int (-1)] ρ1) (hb : -(2 ^ 62) ≤ m ∧ m < 2 ^ 62 ∧ -(2 ^ 62) ≤ n ∧ n < 2 ^ 62) (hg : Gl X "range" := by rfl)
    (hs : starEach [e, e2, e3] X.env = (false, eval e X.env) :: starEach [e2, e3] X.env := by rfl) (hpl : (backTo pos (starEach [e2, e3] X.env)).any (·.1) = false := by rfl) :
    VI X ρ tg (.Call (.Name "range" p) [e, e2, e3] [] pos) ((dng m (m - n).toNat).map Dt.int) ρ1 := by
  obtain ⟨t, pa, qa⟩ := ha
  refine ⟨_, pi_range3 hg hm pa hs hpl, fun σ H g R k r z => qa σ H g _ k r fun vs H1 g1 k1 e1 r1 rv => ?_⟩
  cases rv with
  | cons a1 rv =>
    cases a1
    cases rv with
    | cons a2 rv =>
      cases a2
      cases rv with
      | cons a3 rv =>
        cases a3
        cases rv
        exact ⟨m, n, -1, (m - n).toNat, rfl, RgC.neg hb.1 hb.2.1 hb.2.2.1 hb.2.2.2, z _ H1 g1 k1 e1 r1 yields_dng⟩
/-- the text of None -/
theorem call_repr_non : CallR X (.builtin "repr") (fun xs H Q => xs = [V.non] ∧ Q (.str "None") H) := by
  intro pins s σ H xs us Q I r h
  obtain ⟨rfl, q⟩ := h
  obtain ⟨u, rfl, ru⟩ := vals1 r
  cases ru
  exact PySem.P.repr_of_none ⟨.str _, H, I.tok _, ⟨_, rfl⟩, q⟩
theorem ve_reprN (hm : X.mg "repr" = none) (ha : VE X ρ e .non ρ1) (hg : Gl X "repr" := by rfl) (he : starEach [e] X.env = (false, eval e X.env) :: starEach [] X.env := by rfl) :
    VE X ρ (.Call (.Name "repr" p) [e] [] pos) (.str "None") ρ1 :=
  ve_callB call_repr_non (fun vs H g Q kk rv q => by
    cases rv with
    | cons r1 r2 =>
      cases r2
      cases r1
      exact ⟨rfl, q _ H g kk (Gro.refl g) (Rp.str _)⟩) hm (by decide +kernel) (va_cons ha va_nil he) hg (by decide) (by decide) he
theorem ve_eqS {i j : Str} (ha : VE X ρ e (.str i) ρ1) (hb : VE X ρ1 e2 (.str j) ρ2) : VE X ρ (.Compare e [.Eq] [e2] pos) (.bl (decide (i = j))) ρ2 := ve_cmp op_eq ro_eqS (nomark _) ha hb
/-- repr(a) != repr(b), the same int or None -/
theorem vt_reprNeO {k : Nat} {p1 p2 q1 q2 : Pos} {o : Option Int} (hgd : X.A.guards = some []) (hr : Room k X.A) (hm : X.mg "repr" = none) (ha : VE X ρ e (Ev.oI o) ρ1) (hb : VE X ρ1 e2 d ρ2) (hdd : d = Ev.oI o) (hi : ∀ i, o = some i → Bd 1900 i) (hg : Gl X "repr" := by rfl)
    (he : starEach [e] X.env = (false, eval e X.env) :: starEach [] X.env := by rfl) (he2 : starEach [e2] X.env = (false, eval e2 X.env) :: starEach [] X.env := by rfl) :
    VT X ρ (.Compare (.Call (.Name "repr" p1) [e] [] q1) [.NotEq] [.Call (.Name "repr" p2) [e2] [] q2] pos) false ρ2 := by
  subst hdd
  cases o with
  | none => exact VT.to (vt_neS (ve_reprN hm ha hg he) (ve_reprN hm hb hg he2)) (by rw [decide_eq_true rfl]; rfl)
  | some i => exact vt_reprNeI hgd hr hm ha hb rfl (hi i rfl) hg he he2
end
end DL
namespace DL
open PySem PySem.Spec PyProof.Rows L2
/-! ### one slot told in another way -/
section
variable {X : Cx} {Z : Fx} {ρ : List Sl} {κ : KD} {st : List Stmt}
theorem wss_as {s s' : Sl} (i : Nat) (k : WSs X Z (ρ.set i s') st κ) (hi : ρ[i]? = some s) (h1 : ∀ (g : G) (v : Option V), SlOk X.K g v s → SlOk X.K g v s') (h2 : ∀ (σ : L2.St) (g : G) (v : Option V), σ[i]? = some v → SlOk X.K g v s → ∀ p, Adr σ i s' p → Adr σ i s p) : WSs X Z ρ st κ := by
  obtain ⟨t, pt, q⟩ := k
  refine ⟨t, pt, fun σ H g D kk r f kd => ?_⟩
  have il := (List.getElem?_eq_some_iff.mp hi).1
  obtain ⟨v, hv, ok⟩ := r.sl i s hi
  have off : ∀ (m : Nat) (y : Sl) (p : Addr), (ρ.set i s')[m]? = some y → Adr σ m y p → ∃ y', ρ[m]? = some y' ∧ Adr σ m y' p := fun m y p a b => by
    by_cases hm : m = i
    · subst hm
      rw [List.getElem?_set_self il] at a
      cases a
      exact ⟨s, hi, h2 σ g v hv ok p b⟩
    · rw [List.getElem?_set_ne (Ne.symm hm)] at a
      exact ⟨y, a, b⟩
  refine q σ H g D kk ⟨by rw [List.length_set]; exact r.len, fun j y e => ?_, fun j l y z p n e1 e2 w1 w2 => ?_⟩ ⟨f.st, f.mu, fun p ⟨m, y, a1, a2⟩ => ?_⟩ kd
  · by_cases hj : j = i
    · subst hj
      rw [List.getElem?_set_self il] at e
      cases e
      exact ⟨v, hv, h1 g v ok⟩
    · rw [List.getElem?_set_ne (Ne.symm hj)] at e
      exact r.sl j y e
  · obtain ⟨y', a1, a2⟩ := off j y p e1 w1
    obtain ⟨z', b1, b2⟩ := off l z p e2 w2
    exact r.ne j l y' z' p n a1 b1 a2 b2
  · obtain ⟨y', b1, b2⟩ := off m y p a1 a2
    exact f.ow p ⟨m, y', b1, b2⟩
/-- a structure of one list is a list of one's own -/
theorem wss_tO (i : Nat) {a : Addr} {ds : List Dt} (k : WSs X Z (ρ.set i (.o ds)) st κ) (hi : ρ[i]? = some (.t [(a, ds)] (.opq a)) := by rfl) : WSs X Z ρ st κ := by
  refine wss_as i k hi (fun g v ⟨⟨u, e1, e2⟩, nd, hd⟩ => ?_) (fun σ g v hv ⟨⟨u, e1, e2⟩, nd, hd⟩ p hp => ?_)
  · cases e2
    exact ⟨a, e1, hd a ds (List.mem_singleton.mpr rfl)⟩
  · cases e2
    have hp' : σ[i]? = some (some (V.ref p)) := hp
    rw [hv, e1] at hp'
    cases hp'
    exact List.mem_singleton.mpr rfl
/-- a structure without lists is data -/
theorem wss_tD (i : Nat) {d : Dt} (k : WSs X Z (ρ.set i (.d d)) st κ) (hi : ρ[i]? = some (.t [] d) := by rfl) : WSs X Z ρ st κ :=
  wss_as i k hi (fun g v ⟨h, _, _⟩ => h) (fun σ g v hv _ p hp => hp.elim)
end
/-! ### three plain names at once, each a new structure -/
section
variable {X : Cx} {Z : Fx} {ρ ρ1 : List Sl} {κ : KD} {pos : Pos}
theorem ws_par3N (i j l : Nat) {x y z : Str} {a b c : Expr} {px py pz pt pt2 : Pos} {kt k2 : Nat} {T1 T2 T3 : Cells → Dt → Prop} {ρa ρb : List Sl} (ha : VN X ρ a T1 ρa) (hb : VN X ρa b T2 ρb) (hcc : VN X ρb c T3 ρ1)
    (k : ∀ c1 x1 c2 x2 c3 x3, T1 c1 x1 → T2 c2 x2 → T3 c3 x3 → κ.nx (((ρ1.set i (.t c1 x1)).set j (.t c2 x2)).set l (.t c3 x3))) (hc : X.calm = true) (hN : X.N.Nodup) (hi : X.N[i]? = some x := by rfl) (hj : X.N[j]? = some y := by rfl) (hl : X.N[l]? = some z := by rfl) (hij : i ≠ j := by decide) (hil : i ≠ l := by decide) (hjl : j ≠ l := by decide)
    (hx : X.env.scope.names.lookup x = some .local := by rfl) (hy : X.env.scope.names.lookup y = some .local := by rfl) (hz : X.env.scope.names.lookup z = some .local := by rfl)
    (hw : swappedStores [.Tuple [.Name x px, .Name y py, .Name z pz] kt pt] (.Tuple [a, b, c] k2 pt2) X.env = pure (some [x, y, z]) := by rfl)
    (hs : swapsWithSole [.Tuple [.Name x px, .Name y py, .Name z pz] kt pt] (.Tuple [a, b, c] k2 pt2) pos.line X.env = pure false := by rfl)
    (n1 : starEach [a, b, c] X.env = (false, eval a X.env) :: starEach [b, c] X.env := by rfl) (n2 : starEach [b, c] X.env = (false, eval b X.env) :: starEach [c] X.env := by rfl) (n3 : starEach [c] X.env = (false, eval c X.env) :: starEach [] X.env := by rfl) :
    WS X Z ρ (.Assign [.Tuple [.Name x px, .Name y py, .Name z pz] kt pt] (.Tuple [a, b, c] k2 pt2) pos) κ := by
  obtain ⟨t, p, q⟩ := vns_cons ha (vns_cons hb (vns_cons hcc vns_nil n3) n2) n1
  refine ⟨_, ps_par3 hc hN hi hj hl hij hil hjl hx hy hz p hw hs, fun σ H g D kk r f kd => q σ H g _ kk r fun vs H1 g1 cs xs k1 e1 r1 rv nw t1 => ?_⟩
  obtain ⟨c1, x1, _, _, t1, ⟨c2, x2, _, _, t2, ⟨c3, x3, _, _, t3, ⟨rfl, rfl⟩, rfl, rfl⟩, rfl, rfl⟩, rfl, rfl⟩ := t1
  obtain ⟨v1, v2, v3, rfl, a1, a2, a3⟩ : ∃ v1 v2 v3, vs = [v1, v2, v3] ∧ Rp X.K g1.S v1 x1 ∧ Rp X.K g1.S v2 x2 ∧ Rp X.K g1.S v3 x3 := by
    cases rv with
    | cons b1 rv =>
      cases rv with
      | cons b2 rv =>
        cases rv with
        | cons b3 rv =>
          cases rv
          exact ⟨_, _, _, rfl, b1, b2, b3⟩
  refine ⟨v1, v2, v3, rfl, ?_⟩
  have nd := nw.nd
  rw [List.map_append, List.map_append, List.map_append, List.map_nil, List.append_nil] at nd
  obtain ⟨nd1, nd23, dj1⟩ := List.nodup_append.mp nd
  obtain ⟨nd2, nd3, dj2⟩ := List.nodup_append.mp nd23
  have m1 : ∀ p : Addr, p ∈ c1.map (·.1) → p ∈ (c1 ++ (c2 ++ (c3 ++ ([] : Cells)))).map (·.1) := fun p h => by rw [List.map_append]; exact List.mem_append_left _ h
  have m2 : ∀ p : Addr, p ∈ c2.map (·.1) → p ∈ (c1 ++ (c2 ++ (c3 ++ ([] : Cells)))).map (·.1) := fun p h => by rw [List.map_append, List.map_append]; exact List.mem_append_right _ (List.mem_append_left _ h)
  have m3 : ∀ p : Addr, p ∈ c3.map (·.1) → p ∈ (c1 ++ (c2 ++ (c3 ++ ([] : Cells)))).map (·.1) := fun p h => by rw [List.map_append, List.map_append, List.map_append]; exact List.mem_append_right _ (List.mem_append_right _ (List.mem_append_left _ h))
  -- a cell in a slot that was set is one of this slot's
  have own : ∀ {σ' : L2.St} {ρ' : List Sl} {i' : Nat} {v : V} {cs : Cells} {x' : Dt} {p : Addr}, OwnAt (σ'.set i' (some v)) (ρ'.set i' (.t cs x')) p → p ∈ cs.map (·.1) ∨ OwnAt σ' ρ' p := fun {σ' ρ' i' v cs x' p} ⟨m, y', b1, b2⟩ => by
    by_cases hm : m = i'
    · subst hm
      by_cases il : m < ρ'.length
      · rw [List.getElem?_set_self il] at b1
        cases b1
        exact .inl b2
      · rw [List.getElem?_eq_none (by rw [List.length_set]; omega)] at b1
        cases b1
    · rw [List.getElem?_set_ne (Ne.symm hm)] at b1
      exact .inr ⟨m, y', b1, (adr_set hm).mp b2⟩
  have h1 : ∀ a ds, (a, ds) ∈ c1 → g1.M a = some ds := fun a ds h => nw.hd a ds (List.mem_append_left _ h)
  have h2 : ∀ a ds, (a, ds) ∈ c2 → g1.M a = some ds := fun a ds h => nw.hd a ds (List.mem_append_right _ (List.mem_append_left _ h))
  have h3 : ∀ a ds, (a, ds) ∈ c3 → g1.M a = some ds := fun a ds h => nw.hd a ds (List.mem_append_right _ (List.mem_append_right _ (List.mem_append_left _ h)))
  have s1 := r1.setT i a1 nd1 h1 fun p hp => nw.un p (m1 p hp)
  have s2 := s1.setT j a2 nd2 h2 fun p hp z => by
    rcases own z with z | z
    · exact dj1 p z p (List.mem_append_left _ hp) rfl
    · exact nw.un p (m2 p hp) z
  have s3 := s2.setT l a3 nd3 h3 fun p hp z => by
    rcases own z with z | z
    · exact dj2 p z p hp rfl
    · rcases own z with z | z
      · exact dj1 p z p (List.mem_append_right _ hp) rfl
      · exact nw.un p (m3 p hp) z
  have f1 := f.ext e1
  refine kd.nx _ H1 g1 _ k1 s3 ⟨f1.st, f1.mu, fun p hp => ?_⟩ e1.st (k _ _ _ _ _ _ t1 t2 t3)
  rcases own hp with z | z
  · exact nw.mi p (m3 p z) Z f
  · rcases own z with z | z
    · exact nw.mi p (m2 p z) Z f
    · rcases own z with z | z
      · exact nw.mi p (m1 p z) Z f
      · exact f1.ow p z
end
end DL
namespace OW
open PySem PySem.Spec PyProof.Rows L2
open DL (Dt Rp RpAll SqX)

/-! ### values as trees: what is shared stands still, what is owned may be changed -/
inductive Kd where
  | lst
  | ob (c : Str) (ns : List Str)
  | dk (ks : List Key)
  | dt (ks : List (List Key))
  | tp
inductive Ow where
  | no
  | f (d : Dt)
  | n (k : Kd) (os : List Ow)
abbrev Ow.l (os : List Ow) : Ow := .n .lst os
abbrev Ow.i (i : Int) : Ow := .f (.int i)
abbrev Ow.b (i : Bool) : Ow := .f (.bl i)
/-- what stands, and what is owned -/
structure Gs where
  S : Hp
  M : Hp
structure GsOk (g : Gs) (H : Hp) : Prop where
  s : Same g.S H
  m : Same g.M H
  d : ∀ p o, g.M p = some o → g.S p = none
abbrev Fp := Addr → Prop
def Dj (F G : Fp) : Prop := ∀ p, F p → G p → False
def Em (F : Fp) : Prop := ∀ p, ¬ F p
/-- growth: what was owned and is not given is as it was -/
structure Stp (g : Gs) (F : Fp) (g' : Gs) (F' : Fp) : Prop where
  st : Same g.S g'.S
  mu : ∀ p o, g.M p = some o → ¬ F p → g'.M p = some o
  fr : ∀ p, F' p → F p ∨ (g.S p = none ∧ g.M p = none)
/-- kept: what is in F -/
structure Kp (g g' : Gs) (F : Fp) : Prop where
  st : Same g.S g'.S
  mu : ∀ p o, F p → g.M p = some o → g'.M p = some o
section
variable {g g' g1 g2 : Gs} {F F' F1 F2 Fa : Fp} {H H' : Hp}
theorem GsOk.free (k : GsOk g H) {p : Addr} (h : H p = none) : g.S p = none ∧ g.M p = none := ⟨k.s.free h, k.m.free h⟩
theorem same_none {S S' : Hp} (e : Same S S') {p : Addr} (h : S' p = none) : S p = none := by
  cases q : S p with
  | none => rfl
  | some u => rw [e _ _ q] at h; cases h
theorem Stp.refl (h : ∀ p, F' p → F p) : Stp g F g F' := ⟨fun _ _ e => e, fun _ _ e _ => e, fun p z => .inl (h p z)⟩
theorem Stp.sub (a : Stp g F g' F1) (h : ∀ p, F' p → F1 p) : Stp g F g' F' := ⟨a.st, a.mu, fun p z => a.fr p (h p z)⟩
theorem Stp.trans (a : Stp g F g1 fun p => F1 p ∨ Fa p) (b : Stp g1 F1 g2 F2) : Stp g F g2 fun p => F2 p ∨ Fa p := by
  refine ⟨fun p u e => b.st _ _ (a.st _ _ e), fun p o e n => b.mu p o (a.mu p o e n) fun z => ?_, fun p z => ?_⟩
  · rcases a.fr p (.inl z) with y | ⟨_, y⟩
    · exact n y
    · rw [e] at y; cases y
  · rcases z with z | z
    · rcases b.fr p z with y | ⟨y1, y2⟩
      · exact a.fr p (.inl y)
      · by_cases hF : F p
        · exact .inl hF
        · refine .inr ⟨same_none a.st y1, ?_⟩
          cases q : g.M p with
          | none => rfl
          | some o => rw [a.mu p o q hF] at y2; cases y2
    · exact a.fr p (.inr z)
theorem Stp.tr (a : Stp g F g1 F1) (b : Stp g1 F1 g2 F2) : Stp g F g2 F2 :=
  (Stp.trans (Fa := fun _ => False) (a.sub fun p z => z.elim id False.elim) b).sub fun p z => .inl z
/-- what is no part of the step's ground stays -/
theorem Stp.kp (a : Stp g F g' F') (h : Dj F1 F) : Kp g g' F1 := ⟨a.st, fun p o z e => a.mu p o e fun y => h p z y⟩
theorem Kp.refl : Kp g g F := ⟨fun _ _ e => e, fun _ _ _ e => e⟩
theorem Kp.sub (a : Kp g g' F) (h : ∀ p, F' p → F p) : Kp g g' F' := ⟨a.st, fun p o z e => a.mu p o (h p z) e⟩
theorem Kp.trans (a : Kp g g1 F) (b : Kp g1 g2 F) : Kp g g2 F := ⟨fun p u e => b.st _ _ (a.st _ _ e), fun p o z e => b.mu p o z (a.mu p o z e)⟩
/-- a new object that stands, or is owned -/
def Gs.stand (g : Gs) (p : Addr) (o : HO) : Gs := ⟨upd g.S p o, g.M⟩
def Gs.hold (g : Gs) (p : Addr) (o : HO) : Gs := ⟨g.S, upd g.M p o⟩
theorem same_upd {S : Hp} {p : Addr} {o : HO} (h : S p = none) : Same S (upd S p o) := fun b u e => by rw [upd_ne (ne_of_none e h)]; exact e
theorem stand_ok (k : GsOk g H) {p : Addr} {o : HO} (hp : H p = none) : GsOk (g.stand p o) (upd H p o) := by
  obtain ⟨f1, f2⟩ := k.free hp
  refine ⟨fun b u e => ?_, fun b u e => ?_, fun b u e => ?_⟩
  · by_cases hb : b = p
    · subst hb
      have e' : upd g.S b o b = some u := e
      rw [upd_same] at e' ⊢
      exact e'
    · have e' : upd g.S p o b = some u := e
      rw [upd_ne hb] at e' ⊢
      exact k.s b u e'
  · rw [upd_ne (ne_of_none e f2)]
    exact k.m b u e
  · have hb : b ≠ p := ne_of_none e f2
    show upd g.S p o b = none
    rw [upd_ne hb]
    exact k.d b u e
theorem stand_stp {p : Addr} {o : HO} (h : g.S p = none) : Stp g F (g.stand p o) fun _ => False := ⟨same_upd h, fun _ _ e _ => e, fun _ z => z.elim⟩
theorem hold_ok (k : GsOk g H) {p : Addr} {o : HO} (hp : H p = none) : GsOk (g.hold p o) (upd H p o) := by
  obtain ⟨f1, f2⟩ := k.free hp
  refine ⟨fun b u e => ?_, fun b u e => ?_, fun b u e => ?_⟩
  · rw [upd_ne (ne_of_none e f1)]
    exact k.s b u e
  · by_cases hb : b = p
    · subst hb
      have e' : upd g.M b o b = some u := e
      rw [upd_same] at e' ⊢
      exact e'
    · have e' : upd g.M p o b = some u := e
      rw [upd_ne hb] at e' ⊢
      exact k.m b u e'
  · by_cases hb : b = p
    · subst hb
      exact f1
    · have e' : upd g.M p o b = some u := e
      rw [upd_ne hb] at e'
      exact k.d b u e'
/-- an owned object is changed -/
theorem put_ok (k : GsOk g H) {p : Addr} {o o' : HO} (hp : g.M p = some o') : GsOk (g.hold p o) (upd H p o) := by
  refine ⟨fun b u e => ?_, fun b u e => ?_, fun b u e => ?_⟩
  · rw [upd_ne (ne_of_none e (k.d _ _ hp))]
    exact k.s b u e
  · by_cases hb : b = p
    · subst hb
      have e' : upd g.M b o b = some u := e
      rw [upd_same] at e' ⊢
      exact e'
    · have e' : upd g.M p o b = some u := e
      rw [upd_ne hb] at e' ⊢
      exact k.m b u e'
  · by_cases hb : b = p
    · subst hb
      exact k.d _ _ hp
    · have e' : upd g.M p o b = some u := e
      rw [upd_ne hb] at e'
      exact k.d b u e'
theorem hold_kp {p : Addr} {o : HO} (h : ¬ F p) : Kp g (g.hold p o) F := ⟨fun _ _ e => e, fun b u z e => by
  have hb : b ≠ p := fun y => h (y ▸ z)
  show upd g.M p o b = some u
  rw [upd_ne hb]; exact e⟩
end

/-! ### how values tell trees -/
def Cell (mg : Str → Option Value) (g : Gs) (a : Addr) (F0 : Fp) (vs : List V) : Kd → Prop
  | .lst => g.M a = some (.lst vs) ∧ ∀ p, F0 p ↔ p = a
  | .ob c ns => ns.length = vs.length ∧ ∃ C dx, mg c = some (.ref C) ∧ g.M a = some (.ins C dx (ns.zip vs)) ∧ g.M dx = some (.own a) ∧ ∀ p, F0 p ↔ p = a ∨ p = dx
  | .dk ks => ks.length = vs.length ∧ g.M a = some (.dK (ks.zip vs)) ∧ ∀ p, F0 p ↔ p = a
  | .dt ks => ks.length = vs.length ∧ g.M a = some (.dT (ks.zip vs)) ∧ ∀ p, F0 p ↔ p = a
  | .tp => g.M a = some (.tup vs) ∧ ∀ p, F0 p ↔ p = a
mutual
def OwR (mg : Str → Option Value) (K : PySem.W.Frag) (g : Gs) : Ow → V → Fp → Prop
  | .no, _, F => Em F
  | .f d, v, F => Rp K g.S v d ∧ Em F
  | .n k os, v, F => ∃ a vs F0 F1, v = .ref a ∧ Cell mg g a F0 vs k ∧ OwRs mg K g os vs F1 ∧ Dj F0 F1 ∧ ∀ p, F p ↔ F0 p ∨ F1 p
def OwRs (mg : Str → Option Value) (K : PySem.W.Frag) (g : Gs) : List Ow → List V → Fp → Prop
  | [], vs, F => vs = [] ∧ Em F
  | o :: os, vs, F => ∃ v r F1 F2, vs = v :: r ∧ OwR mg K g o v F1 ∧ OwRs mg K g os r F2 ∧ Dj F1 F2 ∧ ∀ p, F p ↔ F1 p ∨ F2 p
end
section
variable {mg : Str → Option Value} {K : PySem.W.Frag} {g g' : Gs} {H : Hp}
theorem Cell.in_ {a : Addr} {F0 : Fp} {vs : List V} : ∀ {k : Kd}, Cell mg g a F0 vs k → ∀ p, F0 p → ∃ o, g.M p = some o
  | .lst, ⟨h, e⟩, p, z => ⟨.lst vs, by have := (e p).mp z; subst this; exact h⟩
  | .tp, ⟨h, e⟩, p, z => ⟨.tup vs, by have := (e p).mp z; subst this; exact h⟩
  | .dk ks, ⟨_, h, e⟩, p, z => ⟨.dK (ks.zip vs), by have := (e p).mp z; subst this; exact h⟩
  | .dt ks, ⟨_, h, e⟩, p, z => ⟨.dT (ks.zip vs), by have := (e p).mp z; subst this; exact h⟩
  | .ob _ _, ⟨_, C, dx, _, h, h2, e⟩, p, z => by
    rcases (e p).mp z with y | y
    · subst y; exact ⟨_, h⟩
    · subst y; exact ⟨_, h2⟩
theorem Cell.kp {a : Addr} {F0 : Fp} {vs : List V} (w : Kp g g' F0) : ∀ {k : Kd}, Cell mg g a F0 vs k → Cell mg g' a F0 vs k
  | .lst, ⟨h, e⟩ => ⟨w.mu _ _ ((e a).mpr rfl) h, e⟩
  | .tp, ⟨h, e⟩ => ⟨w.mu _ _ ((e a).mpr rfl) h, e⟩
  | .dk _, ⟨l, h, e⟩ => ⟨l, w.mu _ _ ((e a).mpr rfl) h, e⟩
  | .dt _, ⟨l, h, e⟩ => ⟨l, w.mu _ _ ((e a).mpr rfl) h, e⟩
  | .ob _ _, ⟨l, C, dx, hc, h, h2, e⟩ => ⟨l, C, dx, hc, w.mu _ _ ((e a).mpr (.inl rfl)) h, w.mu _ _ ((e dx).mpr (.inr rfl)) h2, e⟩
mutual
theorem OwR.in_ : ∀ (o : Ow) {v : V} {F : Fp}, OwR mg K g o v F → ∀ p, F p → ∃ u, g.M p = some u
  | .no, _, _, h, p, z => (h p z).elim
  | .f d, _, _, h, p, z => (h.2 p z).elim
  | .n k os, _, _, ⟨a, vs, F0, F1, _, hc, hs, _, e⟩, p, z => by
    rcases (e p).mp z with y | y
    · exact hc.in_ p y
    · exact OwRs.in_ os hs p y
theorem OwRs.in_ : ∀ (os : List Ow) {vs : List V} {F : Fp}, OwRs mg K g os vs F → ∀ p, F p → ∃ u, g.M p = some u
  | [], _, _, h, p, z => (h.2 p z).elim
  | o :: os, _, _, ⟨v, r, F1, F2, _, h1, h2, _, e⟩, p, z => by
    rcases (e p).mp z with y | y
    · exact OwR.in_ o h1 p y
    · exact OwRs.in_ os h2 p y
end
mutual
theorem OwR.kp : ∀ (o : Ow) {v : V} {F : Fp}, Kp g g' F → OwR mg K g o v F → OwR mg K g' o v F
  | .no, _, _, _, h => h
  | .f d, _, _, w, h => ⟨h.1.mono w.st, h.2⟩
  | .n k os, _, _, w, ⟨a, vs, F0, F1, e1, hc, hs, hd, e⟩ =>
    ⟨a, vs, F0, F1, e1, hc.kp (w.sub fun p z => (e p).mpr (.inl z)), OwRs.kp os (w.sub fun p z => (e p).mpr (.inr z)) hs, hd, e⟩
theorem OwRs.kp : ∀ (os : List Ow) {vs : List V} {F : Fp}, Kp g g' F → OwRs mg K g os vs F → OwRs mg K g' os vs F
  | [], _, _, _, h => h
  | o :: os, _, _, w, ⟨v, r, F1, F2, e1, h1, h2, hd, e⟩ =>
    ⟨v, r, F1, F2, e1, OwR.kp o (w.sub fun p z => (e p).mpr (.inl z)) h1, OwRs.kp os (w.sub fun p z => (e p).mpr (.inr z)) h2, hd, e⟩
end
mutual
theorem OwR.eqv : ∀ (o : Ow) {v : V} {F F' : Fp}, (∀ p, F p ↔ F' p) → OwR mg K g o v F → OwR mg K g o v F'
  | .no, _, _, _, w, h => fun p z => h p ((w p).mpr z)
  | .f d, _, _, _, w, h => ⟨h.1, fun p z => h.2 p ((w p).mpr z)⟩
  | .n k os, _, _, _, w, ⟨a, vs, F0, F1, e1, hc, hs, hd, e⟩ => ⟨a, vs, F0, F1, e1, hc, hs, hd, fun p => (w p).symm.trans (e p)⟩
theorem OwRs.eqv : ∀ (os : List Ow) {vs : List V} {F F' : Fp}, (∀ p, F p ↔ F' p) → OwRs mg K g os vs F → OwRs mg K g os vs F'
  | [], _, _, _, w, h => ⟨h.1, fun p z => h.2 p ((w p).mpr z)⟩
  | o :: os, _, _, _, w, ⟨v, r, F1, F2, e1, h1, h2, hd, e⟩ => ⟨v, r, F1, F2, e1, h1, h2, hd, fun p => (w p).symm.trans (e p)⟩
end
theorem OwRs.len : ∀ {os : List Ow} {vs : List V} {F : Fp}, OwRs mg K g os vs F → vs.length = os.length
  | [], _, _, h => by rw [h.1]; rfl
  | o :: os, _, _, ⟨v, r, F1, F2, e1, h1, h2, hd, e⟩ => by rw [e1, List.length_cons, List.length_cons, OwRs.len h2]
theorem OwRs.app : ∀ {os os' : List Ow} {vs vs' : List V} {F F' : Fp}, OwRs mg K g os vs F → OwRs mg K g os' vs' F' → Dj F F' → OwRs mg K g (os ++ os') (vs ++ vs') fun p => F p ∨ F' p
  | [], _, _, _, _, _, h, h', d => by
    rw [h.1]
    exact OwRs.eqv _ (fun p => ⟨.inr, fun z => z.elim (fun y => (h.2 p y).elim) id⟩) h'
  | o :: os, _, _, _, _, _, ⟨v, r, F1, F2, e1, h1, h2, hd, e⟩, h', d => by
    rw [e1]
    refine ⟨v, _, F1, _, rfl, h1, OwRs.app h2 h' fun p z y => d p ((e p).mpr (.inr z)) y, fun p z y => ?_, fun p => ?_⟩
    · exact y.elim (hd p z) (d p ((e p).mpr (.inl z)))
    · show (_ ∨ _) ↔ _
      rw [e p, or_assoc]
theorem OwRs.one {o : Ow} {v : V} {F : Fp} (h : OwR mg K g o v F) : OwRs mg K g [o] [v] F :=
  ⟨v, [], F, fun _ => False, rfl, h, ⟨rfl, fun _ z => z⟩, fun _ _ z => z, fun p => ⟨.inl, fun z => z.elim id False.elim⟩⟩
theorem OwRs.of_rp : ∀ {ds : List Dt} {vs : List V}, RpAll K g.S vs ds → OwRs mg K g (ds.map .f) vs fun _ => False
  | [], _, .nil => ⟨rfl, fun _ z => z⟩
  | d :: ds, _, .cons h t => ⟨_, _, fun _ => False, fun _ => False, rfl, ⟨h, fun _ z => z⟩, OwRs.of_rp t, fun _ _ z => z, fun p => ⟨.inl, fun z => z.elim id id⟩⟩
theorem OwRs.to_rp : ∀ {ds : List Dt} {vs : List V} {F : Fp}, OwRs mg K g (ds.map .f) vs F → RpAll K g.S vs ds ∧ Em F
  | [], _, _, h => by rw [h.1]; exact ⟨.nil, h.2⟩
  | d :: ds, _, _, ⟨v, r, F1, F2, e1, h1, h2, hd, e⟩ => by
    rw [e1]
    obtain ⟨a, b⟩ := OwRs.to_rp (ds := ds) h2
    exact ⟨.cons h1.1 a, fun p z => ((e p).mp z).elim (h1.2 p) (b p)⟩
/-- an item, and what may be put in its place -/
theorem OwRs.at : ∀ {os : List Ow} {vs : List V} {F : Fp} {i : Nat} {o : Ow}, OwRs mg K g os vs F → os[i]? = some o →
    ∃ v F1 F2, vs[i]? = some v ∧ OwR mg K g o v F1 ∧ Dj F1 F2 ∧ (∀ p, F p ↔ F1 p ∨ F2 p) ∧
      ∀ g' o' v' F1', Kp g g' F2 → OwR mg K g' o' v' F1' → Dj F1' F2 → OwRs mg K g' (os.set i o') (vs.set i v') fun p => F1' p ∨ F2 p
  | [], _, _, _, _, _, e => by simp at e
  | o :: os, _, _, 0, _, ⟨v, r, F1, F2, e1, h1, h2, hd, e⟩, q => by
    rw [e1]
    simp at q
    subst q
    exact ⟨v, F1, F2, rfl, h1, hd, e, fun g' o' v' F1' w h' d' => ⟨v', r, F1', F2, rfl, h', OwRs.kp os w h2, d', fun p => Iff.rfl⟩⟩
  | o :: os, _, _, i + 1, _, ⟨v, r, F1, F2, e1, h1, h2, hd, e⟩, q => by
    rw [e1]
    obtain ⟨v2, G1, G2, f1, f2, f3, f4, f5⟩ := OwRs.at (i := i) h2 (by simpa using q)
    refine ⟨v2, G1, fun p => F1 p ∨ G2 p, by simpa using f1, f2, fun p z y => y.elim (fun y => hd p y ((f4 p).mpr (.inl z))) (f3 p z), fun p => ?_, fun g' o' v' F1' w h' d' => ?_⟩
    · rw [e p, f4 p]
      constructor
      · rintro (z | z | z) <;> simp [z]
      · rintro (z | z | z) <;> simp [z]
    · refine ⟨v, r.set i v', F1, fun p => F1' p ∨ G2 p, by simp, OwR.kp o (w.sub fun p z => .inl z) h1, f5 g' o' v' F1' (w.sub fun p z => .inr z) h' fun p z y => d' p z (.inr y), fun p z y => ?_, fun p => ?_⟩
      · rcases y with y | y
        · exact d' p y (.inl z)
        · exact hd p z ((f4 p).mpr (.inr y))
      · constructor
        · rintro (z | z | z) <;> simp [z]
        · rintro (z | z | z) <;> simp [z]
theorem OwRs.atV {os : List Ow} {vs : List V} {F : Fp} {i : Nat} {v : V} (h : OwRs mg K g os vs F) (e : vs[i]? = some v) : ∃ o, os[i]? = some o := by
  have il := (List.getElem?_eq_some_iff.mp e).1
  rw [h.len] at il
  exact ⟨os[i], List.getElem?_eq_getElem il⟩
end
/-! ### what is owned is given away: it stands from now on -/
mutual
def frz : Ow → Option Dt
  | .no => none
  | .f d => some d
  | .n .lst os => (frzs os).map .lst
  | .n .tp os => (frzs os).map .tup
  | .n _ _ => none
def frzs : List Ow → Option (List Dt)
  | [] => some []
  | o :: os => match frz o, frzs os with
    | some d, some ds => some (d :: ds)
    | _, _ => none
end
section
variable {mg : Str → Option Value} {K : PySem.W.Frag} {g g' : Gs} {H : Hp}
mutual
theorem frz_rp {S' : Hp} (st : Same g.S S') : ∀ (o : Ow) {d : Dt} {v : V} {F : Fp}, frz o = some d → OwR mg K g o v F → (∀ p u, F p → g.M p = some u → S' p = some u) → Rp K S' v d
  | .no, _, _, _, e, _, _ => by simp [frz] at e
  | .f d, _, _, _, e, h, _ => by
    simp [frz] at e
    subst e
    exact h.1.mono st
  | .n .lst os, _, _, _, e, ⟨a, vs, F0, F1, e1, hc, hs, hd, ef⟩, w => by
    simp [frz] at e
    obtain ⟨ds, e2, rfl⟩ := e
    subst e1
    exact .lst (SqX.of (w a _ ((ef a).mpr (.inl ((hc.2 a).mpr rfl))) hc.1)) (frzs_rp st os e2 hs fun p u z => w p u ((ef p).mpr (.inr z)))
  | .n .tp os, _, _, _, e, ⟨a, vs, F0, F1, e1, hc, hs, hd, ef⟩, w => by
    simp [frz] at e
    obtain ⟨ds, e2, rfl⟩ := e
    subst e1
    exact .tup (SqT.of (w a _ ((ef a).mpr (.inl ((hc.2 a).mpr rfl))) hc.1)) (frzs_rp st os e2 hs fun p u z => w p u ((ef p).mpr (.inr z)))
  | .n (.ob _ _) _, _, _, _, e, _, _ => by simp [frz] at e
  | .n (.dk _) _, _, _, _, e, _, _ => by simp [frz] at e
  | .n (.dt _) _, _, _, _, e, _, _ => by simp [frz] at e
theorem frzs_rp {S' : Hp} (st : Same g.S S') : ∀ (os : List Ow) {ds : List Dt} {vs : List V} {F : Fp}, frzs os = some ds → OwRs mg K g os vs F → (∀ p u, F p → g.M p = some u → S' p = some u) → RpAll K S' vs ds
  | [], _, _, _, e, h, _ => by
    simp [frzs] at e
    subst e
    rw [h.1]
    exact .nil
  | o :: os, _, _, _, e, ⟨v, r, F1, F2, e1, h1, h2, hd, ef⟩, w => by
    simp only [frzs] at e
    split at e
    · rename_i d ds q1 q2
      cases e
      subst e1
      exact .cons (frz_rp st o q1 h1 fun p u z => w p u ((ef p).mpr (.inl z))) (frzs_rp st os q2 h2 fun p u z => w p u ((ef p).mpr (.inr z)))
    · cases e
end
open Classical in
noncomputable def frzG (g : Gs) (F : Fp) : Gs := ⟨fun p => if F p ∧ (g.M p).isSome then g.M p else g.S p, fun p => if F p then none else g.M p⟩
open Classical in
theorem frzG_st (k : GsOk g H) {F : Fp} : Same g.S (frzG g F).S := fun p u e => by
  show (if F p ∧ (g.M p).isSome then g.M p else g.S p) = some u
  by_cases h : F p ∧ (g.M p).isSome
  · obtain ⟨o, ho⟩ := Option.isSome_iff_exists.mp h.2
    have := k.d p o ho
    rw [e] at this
    cases this
  · rw [if_neg h]; exact e
open Classical in
theorem frzG_ok (k : GsOk g H) {F : Fp} : GsOk (frzG g F) H := by
  refine ⟨fun p u e => ?_, fun p u e => ?_, fun p u e => ?_⟩
  · have e' : (if F p ∧ (g.M p).isSome then g.M p else g.S p) = some u := e
    by_cases h : F p ∧ (g.M p).isSome
    · rw [if_pos h] at e'; exact k.m p u e'
    · rw [if_neg h] at e'; exact k.s p u e'
  · have e' : (if F p then none else g.M p) = some u := e
    by_cases h : F p
    · rw [if_pos h] at e'; cases e'
    · rw [if_neg h] at e'; exact k.m p u e'
  · have e' : (if F p then none else g.M p) = some u := e
    by_cases h : F p
    · rw [if_pos h] at e'; cases e'
    · rw [if_neg h] at e'
      show (if F p ∧ (g.M p).isSome then g.M p else g.S p) = none
      rw [if_neg fun z => h z.1]
      exact k.d p u e'
open Classical in
theorem frzG_kp (k : GsOk g H) {F F' : Fp} (d : Dj F' F) : Kp g (frzG g F) F' := ⟨frzG_st k, fun p o z e => by
  show (if F p then none else g.M p) = some o
  rw [if_neg fun y => d p z y]; exact e⟩
open Classical in
theorem frzG_stp (k : GsOk g H) {F F' : Fp} (h : ∀ p, F p → F' p) : Stp g F' (frzG g F) fun p => F' p ∧ ¬ F p :=
  ⟨frzG_st k, fun p o e n => by
    show (if F p then none else g.M p) = some o
    rw [if_neg fun y => n (h p y)]; exact e, fun p z => .inl z.1⟩
open Classical in
theorem frzG_rp (k : GsOk g H) {o : Ow} {d : Dt} {v : V} {F : Fp} (e : frz o = some d) (h : OwR mg K g o v F) : Rp K (frzG g F).S v d :=
  frz_rp (frzG_st k) o e h fun p u z q => by
    show (if F p ∧ (g.M p).isSome then g.M p else g.S p) = some u
    rw [if_pos ⟨z, by rw [q]; rfl⟩]; exact q
end
/-! ### slots -/
def SlR (mg : Str → Option Value) (K : PySem.W.Frag) (g : Gs) (o : Ow) (v : Option V) (F : Fp) : Prop := (o = .no ∧ Em F) ∨ ∃ u, v = some u ∧ OwR mg K g o u F
def Srs (mg : Str → Option Value) (K : PySem.W.Frag) (g : Gs) : List Ow → List (Option V) → Fp → Prop
  | [], vs, F => vs = [] ∧ Em F
  | o :: os, vs, F => ∃ v r F1 F2, vs = v :: r ∧ SlR mg K g o v F1 ∧ Srs mg K g os r F2 ∧ Dj F1 F2 ∧ ∀ p, F p ↔ F1 p ∨ F2 p
section
variable {mg : Str → Option Value} {K : PySem.W.Frag} {g g' : Gs} {H : Hp}
theorem SlR.kp {o : Ow} {v : Option V} {F : Fp} (w : Kp g g' F) : SlR mg K g o v F → SlR mg K g' o v F
  | .inl h => .inl h
  | .inr ⟨u, e, h⟩ => .inr ⟨u, e, OwR.kp o w h⟩
theorem SlR.in_ {o : Ow} {v : Option V} {F : Fp} : SlR mg K g o v F → ∀ p, F p → ∃ u, g.M p = some u
  | .inl h, p, z => (h.2 p z).elim
  | .inr ⟨u, e, h⟩, p, z => OwR.in_ o h p z
theorem SlR.get {o : Ow} {v : Option V} {F : Fp} (h : SlR mg K g o v F) (n : o ≠ .no) : ∃ u, v = some u ∧ OwR mg K g o u F := by
  rcases h with h | h
  · exact absurd h.1 n
  · exact h
theorem Srs.kp : ∀ {os : List Ow} {vs : List (Option V)} {F : Fp}, Kp g g' F → Srs mg K g os vs F → Srs mg K g' os vs F
  | [], _, _, _, h => h
  | o :: os, _, _, w, ⟨v, r, F1, F2, e1, h1, h2, hd, e⟩ =>
    ⟨v, r, F1, F2, e1, h1.kp (w.sub fun p z => (e p).mpr (.inl z)), Srs.kp (w.sub fun p z => (e p).mpr (.inr z)) h2, hd, e⟩
theorem Srs.in_ : ∀ {os : List Ow} {vs : List (Option V)} {F : Fp}, Srs mg K g os vs F → ∀ p, F p → ∃ u, g.M p = some u
  | [], _, _, h, p, z => (h.2 p z).elim
  | o :: os, _, _, ⟨v, r, F1, F2, _, h1, h2, _, e⟩, p, z => by
    rcases (e p).mp z with y | y
    · exact h1.in_ p y
    · exact Srs.in_ h2 p y
theorem Srs.eqv : ∀ {os : List Ow} {vs : List (Option V)} {F F' : Fp}, (∀ p, F p ↔ F' p) → Srs mg K g os vs F → Srs mg K g os vs F'
  | [], _, _, _, w, h => ⟨h.1, fun p z => h.2 p ((w p).mpr z)⟩
  | o :: os, _, _, _, w, ⟨v, r, F1, F2, e1, h1, h2, hd, e⟩ => ⟨v, r, F1, F2, e1, h1, h2, hd, fun p => (w p).symm.trans (e p)⟩
theorem Srs.len : ∀ {os : List Ow} {vs : List (Option V)} {F : Fp}, Srs mg K g os vs F → vs.length = os.length
  | [], _, _, h => by rw [h.1]; rfl
  | o :: os, _, _, ⟨v, r, F1, F2, e1, h1, h2, hd, e⟩ => by rw [e1, List.length_cons, List.length_cons, Srs.len h2]
theorem Srs.at : ∀ {os : List Ow} {vs : List (Option V)} {F : Fp} {i : Nat} {o : Ow}, Srs mg K g os vs F → os[i]? = some o →
    ∃ v F1 F2, vs[i]? = some v ∧ SlR mg K g o v F1 ∧ Dj F1 F2 ∧ (∀ p, F p ↔ F1 p ∨ F2 p) ∧
      ∀ g' o' v' F1', Kp g g' F2 → SlR mg K g' o' v' F1' → Dj F1' F2 → Srs mg K g' (os.set i o') (vs.set i v') fun p => F1' p ∨ F2 p
  | [], _, _, _, _, _, e => by simp at e
  | o :: os, _, _, 0, _, ⟨v, r, F1, F2, e1, h1, h2, hd, e⟩, q => by
    rw [e1]
    simp at q
    subst q
    exact ⟨v, F1, F2, rfl, h1, hd, e, fun g' o' v' F1' w h' d' => ⟨v', r, F1', F2, rfl, h', Srs.kp w h2, d', fun p => Iff.rfl⟩⟩
  | o :: os, _, _, i + 1, _, ⟨v, r, F1, F2, e1, h1, h2, hd, e⟩, q => by
    rw [e1]
    obtain ⟨v2, G1, G2, f1, f2, f3, f4, f5⟩ := Srs.at (i := i) h2 (by simpa using q)
    refine ⟨v2, G1, fun p => F1 p ∨ G2 p, by simpa using f1, f2, fun p z y => y.elim (fun y => hd p y ((f4 p).mpr (.inl z))) (f3 p z), fun p => ?_, fun g' o' v' F1' w h' d' => ?_⟩
    · rw [e p, f4 p]
      constructor
      · rintro (z | z | z) <;> simp [z]
      · rintro (z | z | z) <;> simp [z]
    · refine ⟨v, r.set i v', F1, fun p => F1' p ∨ G2 p, by simp, h1.kp (w.sub fun p z => .inl z), f5 g' o' v' F1' (w.sub fun p z => .inr z) h' fun p z y => d' p z (.inr y), fun p z y => ?_, fun p => ?_⟩
      · rcases y with y | y
        · exact d' p y (.inl z)
        · exact hd p z ((f4 p).mpr (.inr y))
      · constructor
        · rintro (z | z | z) <;> simp [z]
        · rintro (z | z | z) <;> simp [z]
/-- the value stays in its slot -/
theorem set_self {α : Type} {vs : List α} {i : Nat} {v : α} (h : vs[i]? = some v) : vs.set i v = vs := by
  apply List.ext_getElem?
  intro j
  by_cases hj : i = j
  · subst hj
    rw [List.getElem?_set_self (List.getElem?_eq_some_iff.mp h).1, h]
  · rw [List.getElem?_set_ne hj]
theorem Srs.bare : ∀ (n : Nat), Srs mg K g (List.replicate n .no) (List.replicate n none) fun _ => False
  | 0 => ⟨rfl, fun _ z => z⟩
  | n + 1 => ⟨none, _, fun _ => False, fun _ => False, rfl, .inl ⟨rfl, fun _ z => z⟩, Srs.bare n, fun _ z _ => z, fun _ => ⟨.inl, fun z => z.elim id id⟩⟩
theorem Srs.of : ∀ {os : List Ow} {vs : List V} {F : Fp} (n : Nat), OwRs mg K g os vs F → Srs mg K g (os ++ List.replicate n .no) (vs.map some ++ List.replicate n none) F
  | [], _, _, n, h => by
    rw [h.1]
    exact Srs.eqv (fun p => ⟨False.elim, fun z => h.2 p z⟩) (Srs.bare n)
  | o :: os, _, _, n, ⟨v, r, F1, F2, e1, h1, h2, hd, e⟩ => by
    rw [e1]
    exact ⟨some v, _, F1, F2, rfl, .inr ⟨v, rfl, h1⟩, Srs.of n h2, hd, e⟩
end
structure Good (X : Cx) (g : Gs) (H : Hp) (σ : L2.St) (ρ : List Ow) (F : Fp) : Prop where
  ok : GsOk g H
  sr : Srs X.mg X.K g ρ σ F
end OW
namespace OW
open PySem PySem.Spec PyProof.Rows L2
open DL (Dt Rp RpAll SqX pe_no pt_no pw_no ps_no pss_no)

/-! ### what comes of a piece of a program -/
abbrev Ev := List Ow
inductive Rs (α : Type) where
  | ok (a : α) (ρ : Ev)
  | ex (c : Str) (d : Option (Str × Dt)) (ρ : Ev)
abbrev Fn (α : Type) := Ev → Option (Rs α)
def bnd {α β : Type} (m : Fn α) (k : α → Fn β) : Fn β := fun ρ => match m ρ with
  | none => none
  | some (.ok a ρ1) => k a ρ1
  | some (.ex c d ρ1) => some (.ex c d ρ1)
def ret {α : Type} (a : α) : Fn α := fun ρ => some (.ok a ρ)
def opt {α : Type} (a : Option α) : Fn α := fun ρ => match a with
  | some x => some (.ok x ρ)
  | none => none
theorem bnd_inv {α β : Type} {m : Fn α} {k : α → Fn β} {ρ : Ev} {r : Rs β} (h : bnd m k ρ = some r) : (∃ a ρ1, m ρ = some (.ok a ρ1) ∧ k a ρ1 = some r) ∨ ∃ c d ρ1, m ρ = some (.ex c d ρ1) ∧ r = .ex c d ρ1 := by
  unfold bnd at h
  split at h
  · cases h
  · rename_i a ρ1 e
    exact .inl ⟨a, ρ1, e, h⟩
  · rename_i c d ρ1 e
    cases h
    exact .inr ⟨c, d, ρ1, e, rfl⟩
theorem opt_inv {α : Type} {a : Option α} {ρ : Ev} {r : Rs α} (h : opt a ρ = some r) : ∃ x, a = some x ∧ r = .ok x ρ := by
  unfold opt at h
  split at h
  · cases h; exact ⟨_, rfl, rfl⟩
  · cases h
def ExR (X : Cx) (g : Gs) (c : Str) (d : Option (Str × Dt)) (cls : Value) (dx : Option Addr) : Prop := ∃ C, X.mg c = some (.ref C) ∧ cls = .ref C ∧ match d with
  | none => dx = none
  | some (f, y) => ∃ a v, dx = some a ∧ g.S a = some (.xd [(f, v)]) ∧ Rp X.K g.S v y
def Pst {α β : Type} (X : Cx) (W : WX) (rel : Gs → α → β → Fp → Prop) (σ : L2.St) (g : Gs) (F : Fp) (Q : β → Hp → Prop) : Rs α → Prop
  | .ok a ρ' => ∀ b H' g' F' Fv, Good X g' H' σ ρ' F' → rel g' a b Fv → Dj F' Fv → Stp g F g' (fun p => F' p ∨ Fv p) → Q b H'
  | .ex c d ρ' => ∀ cls dx H' g' F', Good X g' H' σ ρ' F' → ExR X g' c d cls dx → Stp g F g' F' → W cls dx σ H'
def RX {α β : Type} (X : Cx) (W : WX) (rel : Gs → α → β → Fp → Prop) (t : L2.St → Hp → (β → Hp → Prop) → Prop) (ρ : Ev) (r : Rs α) : Prop :=
  ∀ σ H g F Q, Good X g H σ ρ F → Pst X W rel σ g F Q r → t σ H Q
def rV (X : Cx) (g : Gs) (o : Ow) (v : V) (F : Fp) : Prop := OwR X.mg X.K g o v F
def rA (X : Cx) (g : Gs) (os : List Ow) (vs : List V) (F : Fp) : Prop := OwRs X.mg X.K g os vs F
def rB (g : Gs) (a b : Bool) (F : Fp) : Prop := a = b ∧ Em F
structure Frm {α β : Type} (rel : Gs → α → β → Fp → Prop) : Prop where
  kp : ∀ g g' a b F, Kp g g' F → rel g a b F → rel g' a b F
  in_ : ∀ g a b F, rel g a b F → ∀ p, F p → ∃ u, g.M p = some u
theorem frm_V {X : Cx} : Frm (rV X) := ⟨fun _ _ a _ _ w h => OwR.kp a w h, fun _ a _ _ h => OwR.in_ a h⟩
theorem frm_A {X : Cx} : Frm (rA X) := ⟨fun _ _ a _ _ w h => OwRs.kp a w h, fun _ a _ _ h => OwRs.in_ a h⟩
theorem frm_B : Frm rB := ⟨fun _ _ a _ _ w h => h, fun _ a _ _ h p z => (h.2 p z).elim⟩
def DE (X : Cx) (W : WX) (e : Expr) (f : Fn Ow) : Prop := ∀ ρ r, f ρ = some r → ∃ t, PE X e t ∧ RX X W (rV X) t ρ r
def DT (X : Cx) (W : WX) (e : Expr) (f : Fn Bool) : Prop := ∀ ρ r, f ρ = some r → ∃ t, PT X e t ∧ RX X W rB t ρ r
def DW (X : Cx) (W : WX) (e : Expr) (f : Fn Bool) : Prop := ∀ ρ r, f ρ = some r → ∃ t, PW X e t ∧ RX X W rB t ρ r
def DA (X : Cx) (W : WX) (es : List Expr) (f : Fn (List Ow)) : Prop := ∀ ρ r, f ρ = some r → ∃ t, PA X es t ∧ RX X W (rA X) t ρ r

section
variable {X : Cx} {W : WX} {α β γ δ : Type} {rel : Gs → α → β → Fp → Prop} {rel2 : Gs → γ → δ → Fp → Prop} {σ : L2.St} {g g1 g2 g3 : Gs} {F F1 F2 Fa Fz : Fp} {H H1 H2 H3 : Hp} {ρ ρ1 ρ2 : Ev}
theorem Em.dj (h : Em F2) : Dj F1 F2 := fun p _ z => h p z
theorem Pst.ex {c : Str} {d : Option (Str × Dt)} {Q : β → Hp → Prop} {Q' : δ → Hp → Prop} (h : Pst X W rel σ g F Q (.ex c d ρ1)) (s : Stp g F g1 fun p => F1 p ∨ Fa p) : Pst X W rel2 σ g1 F1 Q' (.ex c d ρ1) :=
  fun cls dx H' g' F' G e z => h cls dx H' g' F' G e ((Stp.trans s z).sub fun _ => .inl)
theorem Pst.ex0 {c : Str} {d : Option (Str × Dt)} {Q : β → Hp → Prop} {Q' : δ → Hp → Prop} (h : Pst X W rel σ g F Q (.ex c d ρ1)) : Pst X W rel2 σ g F Q' (.ex c d ρ1) := h
/-- an operation on values, behind the evaluation of what it takes -/
theorem Good.op (G : Good X g2 H2 σ ρ F2) (s : Stp g F g2 fun p => F2 p ∨ Fa p) (d : Dj F2 Fa) (k : GsOk g3 H3) (z : Stp g2 Fa g3 Fz) : Good X g3 H3 σ ρ F2 ∧ Dj F2 Fz ∧ Stp g F g3 fun p => F2 p ∨ Fz p := by
  refine ⟨⟨k, G.sr.kp (z.kp d)⟩, fun p y w => ?_, (Stp.trans (F1 := Fa) (Fa := F2) (s.sub fun p => Or.symm) z).sub fun p => Or.symm⟩
  rcases z.fr p w with h | ⟨_, h⟩
  · exact d p y h
  · obtain ⟨u, e⟩ := G.sr.in_ p y
    rw [e] at h; cases h
/-- one behind the other, the first one's value is kept meanwhile -/
theorem RX.seq {a : α} {r2 : Rs γ} {t1 : L2.St → Hp → (β → Hp → Prop) → Prop} {t2 : L2.St → Hp → (δ → Hp → Prop) → Prop} {Q : β → δ → Hp → Prop} (fm : Frm rel) (fm2 : Frm rel2) (h1 : RX X W rel t1 ρ (.ok a ρ1)) (h2 : RX X W rel2 t2 ρ1 r2) (G : Good X g H σ ρ F)
    (hq : match r2 with
      | .ok b ρ2 => ∀ x y H2 g2 F2 Fa Fb, Good X g2 H2 σ ρ2 F2 → rel g2 a x Fa → rel2 g2 b y Fb → Dj Fa Fb → Dj F2 (fun p => Fa p ∨ Fb p) → Stp g F g2 (fun p => F2 p ∨ (Fa p ∨ Fb p)) → Q x y H2
      | .ex c d ρ2 => ∀ cls dx H' g' F', Good X g' H' σ ρ2 F' → ExR X g' c d cls dx → Stp g F g' F' → W cls dx σ H') : t1 σ H fun x H1 => t2 σ H1 fun y H2 => Q x y H2 := by
  refine h1 σ H g F _ G fun x H1 g1 F1 Fa G1 r1 d1 s1 => h2 σ H1 g1 F1 _ G1 ?_
  cases r2 with
  | ex c d ρ2 => exact fun cls dx H' g' F' G' e z => hq cls dx H' g' F' G' e ((Stp.trans s1 z).sub fun _ => .inl)
  | ok b ρ2 =>
    intro y H2 g2 F2 Fb G2 r2 d2 s2
    have k : Kp g1 g2 Fa := s2.kp fun p z y => d1 p y z
    have nf : ∀ p, Fa p → ∀ w : g1.S p = none ∧ g1.M p = none, False := fun p z w => by
      obtain ⟨u, e⟩ := fm.in_ _ _ _ _ r1 p z
      rw [e] at w; cases w.2
    refine hq x y H2 g2 F2 Fa Fb G2 (fm.kp _ _ _ _ _ k r1) r2 (fun p z y => ?_) (fun p z y => ?_) ((Stp.trans s1 s2).sub fun p z => ?_)
    · rcases s2.fr p (.inr y) with w | w
      · exact d1 p w z
      · exact nf p z w
    · rcases y with y | y
      · rcases s2.fr p (.inl z) with w | w
        · exact d1 p w y
        · exact nf p y w
      · exact d2 p z y
    · rcases z with z | z | z
      · exact .inl (.inl z)
      · exact .inr z
      · exact .inl (.inr z)
end

/-! ### names, constants -/
def xK (d : Dt) : Fn Ow := ret (.f d)
/-- a name: what it holds is shared from now on -/
def xV (i : Nat) : Fn Ow := fun ρ => match ρ[i]? with
  | some (.f d) => some (.ok (.f d) ρ)
  | some o => match frz o with
    | some d => some (.ok (.f d) (ρ.set i (.f d)))
    | none => none
  | none => none
/-- a name, whose value is taken out of it -/
def xM (i : Nat) : Fn Ow := fun ρ => match ρ[i]? with
  | some (.f d) => some (.ok (.f d) ρ)
  | some (.n k os) => some (.ok (.n k os) (ρ.set i .no))
  | _ => none
section
variable {X : Cx} {W : WX} {pos : Pos}
theorem rx_k {v : V} {d : Dt} {ρ : Ev} (h : ∀ S, Rp X.K S v d) : RX X W (rV X) (tC v) ρ (.ok (.f d) ρ) := fun σ H g F Q G q =>
  q v H g F (fun _ => False) G ⟨h _, fun _ z => z⟩ (fun _ _ z => z) (Stp.refl fun p z => z.elim id False.elim)
theorem de_int {i : Int} {j : Nat} : DE X W (.Constant (.int i) j pos) (xK (.int i)) := fun ρ r h => by cases h; exact ⟨_, pe_int, rx_k fun _ => .int i⟩
theorem de_bl {i : Bool} {j : Nat} : DE X W (.Constant (.bool i) j pos) (xK (.bl i)) := fun ρ r h => by cases h; exact ⟨_, pe_bl, rx_k fun _ => .bl i⟩
theorem de_non {j : Nat} : DE X W (.Constant .none j pos) (xK .non) := fun ρ r h => by cases h; exact ⟨_, pe_non, rx_k fun _ => .non⟩
theorem de_str {i : Str} {j : Nat} : DE X W (.Constant (.str i) j pos) (xK (.str i)) := fun ρ r h => by cases h; exact ⟨_, pe_str, rx_k fun _ => .str i⟩
theorem de_globI {nm : Str} {i : Int} (h : ∃ t, X.mg nm = some (Value.int i t)) (hg : Gl X nm := by rfl) (hd : (nm == ("__debug__" : Str)) = false := by decide) : DE X W (.Name nm pos) (xK (.int i)) := fun ρ r e => by
  cases e
  obtain ⟨t, h⟩ := h
  exact ⟨_, pe_glob (v := .int i) hg h ⟨_, rfl⟩ hd, rx_k fun _ => .int i⟩
theorem de_globS {nm : Str} {i : Str} (h : ∃ t, X.mg nm = some (Value.str i t)) (hg : Gl X nm := by rfl) (hd : (nm == ("__debug__" : Str)) = false := by decide) : DE X W (.Name nm pos) (xK (.str i)) := fun ρ r e => by
  cases e
  obtain ⟨t, h⟩ := h
  exact ⟨_, pe_glob (v := .str i) hg h ⟨_, rfl⟩ hd, rx_k fun _ => .str i⟩
theorem de_v (i : Nat) {nm : Str} (hN : X.N[i]? = some nm := by rfl) (hv : Vis X.env.scope nm := by first | exact Or.inl rfl | exact Or.inr (Or.inl rfl) | exact Or.inr (Or.inr rfl))
    (hd : (nm == ("__debug__" : Str)) = false := by decide) (hcd : (nm == ("__classdict__" : Str)) = false := by decide) : DE X W (.Name nm pos) (xV i) := fun ρ r h => by
  refine ⟨_, pe_var hN hv hd hcd, ?_⟩
  unfold xV at h
  split at h
  · rename_i d e
    cases h
    intro σ H g F Q G q
    obtain ⟨v, F1, F2, e1, e2, e3, e4, e5⟩ := G.sr.at e
    obtain ⟨u, rfl, hu⟩ := e2.get (by simp)
    exact ⟨u, e1, q u H g F (fun _ => False) G ⟨hu.1, fun _ z => z⟩ (fun _ _ z => z) (Stp.refl fun p z => z.elim id False.elim)⟩
  · rename_i o n e
    split at h
    · rename_i d ed
      cases h
      intro σ H g F Q G q
      obtain ⟨v, F1, F2, e1, e2, e3, e4, e5⟩ := G.sr.at e
      obtain ⟨u, rfl, hu⟩ := e2.get (by intro z; subst z; simp [frz] at ed)
      have rp := frzG_rp G.ok ed hu
      have st := frzG_stp G.ok (F := F1) (F' := F) fun p z => (e4 p).mpr (.inl z)
      have sr := e5 (frzG g F1) (.f d) (some u) (fun _ => False) (frzG_kp G.ok fun p y z => e3 p z y) (.inr ⟨u, rfl, rp, fun _ z => z⟩) fun _ z _ => z
      rw [set_self e1] at sr
      exact ⟨u, e1, q u H _ _ (fun _ => False) ⟨frzG_ok G.ok, sr⟩ ⟨rp, fun _ z => z⟩ (fun _ _ z => z) (st.sub fun p z => by
        rcases z with (z | z) | z
        · exact z.elim
        · exact ⟨(e4 p).mpr (.inr z), fun y => e3 p y z⟩
        · exact z.elim)⟩
    · cases h
  · cases h
theorem de_m (i : Nat) {nm : Str} (hN : X.N[i]? = some nm := by rfl) (hv : Vis X.env.scope nm := by first | exact Or.inl rfl | exact Or.inr (Or.inl rfl) | exact Or.inr (Or.inr rfl))
    (hd : (nm == ("__debug__" : Str)) = false := by decide) (hcd : (nm == ("__classdict__" : Str)) = false := by decide) : DE X W (.Name nm pos) (xM i) := fun ρ r h => by
  refine ⟨_, pe_var hN hv hd hcd, ?_⟩
  unfold xM at h
  split at h
  · rename_i d e
    cases h
    intro σ H g F Q G q
    obtain ⟨v, F1, F2, e1, e2, e3, e4, e5⟩ := G.sr.at e
    obtain ⟨u, rfl, hu⟩ := e2.get (by simp)
    exact ⟨u, e1, q u H g F (fun _ => False) G ⟨hu.1, fun _ z => z⟩ (fun _ _ z => z) (Stp.refl fun p z => z.elim id False.elim)⟩
  · rename_i k os e
    cases h
    intro σ H g F Q G q
    obtain ⟨v, F1, F2, e1, e2, e3, e4, e5⟩ := G.sr.at e
    obtain ⟨u, rfl, hu⟩ := e2.get (by simp)
    have sr := e5 g .no (some u) (fun _ => False) Kp.refl (.inl ⟨rfl, fun _ z => z⟩) fun _ z _ => z
    rw [set_self e1] at sr
    refine ⟨u, e1, q u H g (fun p => False ∨ F2 p) F1 ⟨G.ok, sr⟩ hu (fun p z y => z.elim id fun z => e3 p y z) (Stp.refl fun p z => ?_)⟩
    rcases z with (z | z) | z
    · exact z.elim
    · exact (e4 p).mpr (.inr z)
    · exact (e4 p).mpr (.inl z)
  · cases h
end

/-! ### operators -/
def xBin (B : Ow → Ow → Option Ow) (a b : Fn Ow) : Fn Ow := bnd a fun x => bnd b fun y => opt (B x y)
def xUn (B : Ow → Option Ow) (a : Fn Ow) : Fn Ow := bnd a fun x => opt (B x)
/-- a rule by values keeps the word -/
def RO2 (X : Cx) (r : R2) (x y z : Ow) : Prop := ∀ v u H g Fx Fy (Q : VK), GsOk g H → OwR X.mg X.K g x v Fx → OwR X.mg X.K g y u Fy → Dj Fx Fy →
  (∀ w H' g' Fz, GsOk g' H' → OwR X.mg X.K g' z w Fz → Stp g (fun p => Fx p ∨ Fy p) g' Fz → Q w H') → r v u H Q
def RU2 (X : Cx) (r : V → Hp → VK → Prop) (x z : Ow) : Prop := ∀ v H g Fx (Q : VK), GsOk g H → OwR X.mg X.K g x v Fx →
  (∀ w H' g' Fz, GsOk g' H' → OwR X.mg X.K g' z w Fz → Stp g Fx g' Fz → Q w H') → r v H Q
def RC2 (X : Cx) (r : List V → Hp → VK → Prop) (os : List Ow) (z : Ow) : Prop := ∀ vs H g Fx (Q : VK), GsOk g H → OwRs X.mg X.K g os vs Fx →
  (∀ w H' g' Fz, GsOk g' H' → OwR X.mg X.K g' z w Fz → Stp g Fx g' Fz → Q w H') → r vs H Q
section
variable {X : Cx} {W : WX} {pos : Pos} {a b c e : Expr} {es : List Expr} {fa fb fc fe : Fn Ow} {k : Nat}
theorem rx_bin {ta tb : TE} {r : R2} {x y z : Ow} {ρ ρ1 ρ2 : Ev} (ha : RX X W (rV X) ta ρ (.ok x ρ1)) (hb : RX X W (rV X) tb ρ1 (.ok y ρ2)) (hr : RO2 X r x y z) : RX X W (rV X) (tOp r ta tb) ρ (.ok z ρ2) := fun σ H g F Q G q =>
  RX.seq frm_V frm_V ha hb G fun v u H2 g2 F2 Fa Fb G2 r1 r2 d1 d2 s => hr v u H2 g2 Fa Fb Q G2.ok r1 r2 d1 fun w H3 g3 Fz k3 r3 s3 =>
    let ⟨G3, d3, s4⟩ := G2.op s d2 k3 s3
    q w H3 g3 F2 Fz G3 r3 d3 s4
theorem rx_bin_b {ta tb : TE} {r : R2} {x : Ow} {ρ ρ1 ρ2 : Ev} {c : Str} {d : Option (Str × Dt)} (ha : RX X W (rV X) ta ρ (.ok x ρ1)) (hb : RX X W (rV X) tb ρ1 (.ex c d ρ2)) : RX X W (rV X) (tOp r ta tb) ρ (.ex c d ρ2) := fun σ H g F Q G q =>
  RX.seq (Q := fun x y H2 => r x y H2 Q) frm_V frm_V ha hb G q
theorem rx_bin_a {ta tb : TE} {r : R2} {ρ ρ1 : Ev} {c : Str} {d : Option (Str × Dt)} (ha : RX X W (rV X) ta ρ (.ex c d ρ1)) : RX X W (rV X) (tOp r ta tb) ρ (.ex c d ρ1) := fun σ H g F Q G q => ha σ H g F _ G q
/-- two parts, an operator, any form of it -/
theorem de_bin_of {B : Ow → Ow → Option Ow} {T : R2 → TE → TE → TE} (hT : ∀ r ta tb, T r ta tb = tOp r ta tb) {O : R2 → Prop} (hP : ∀ r ta tb, O r → PE X a ta → PE X b tb → PE X e (T r ta tb)) (hB : ∀ x y z, B x y = some z → ∃ r, O r ∧ RO2 X r x y z) (h0 : ∃ r, O r) (ha : DE X W a fa) (hb : DE X W b fb) : DE X W e (xBin B fa fb) := fun ρ q h => by
  obtain ⟨r0, o0⟩ := h0
  rcases bnd_inv h with ⟨x, ρ1, h1, h2⟩ | ⟨c, d, ρ1, h1, rfl⟩
  · obtain ⟨ta, pa, qa⟩ := ha ρ _ h1
    rcases bnd_inv h2 with ⟨y, ρ2, h3, h4⟩ | ⟨c, d, ρ2, h3, rfl⟩
    · obtain ⟨tb, pb, qb⟩ := hb ρ1 _ h3
      obtain ⟨z, h5, rfl⟩ := opt_inv h4
      obtain ⟨r, o, hr⟩ := hB x y z h5
      exact ⟨_, hP r ta tb o pa pb, by rw [hT]; exact rx_bin qa qb hr⟩
    · obtain ⟨tb, pb, qb⟩ := hb ρ1 _ h3
      exact ⟨_, hP r0 ta tb o0 pa pb, by rw [hT]; exact rx_bin_b qa qb⟩
  · obtain ⟨ta, pa, qa⟩ := ha ρ _ h1
    exact ⟨_, hP r0 ta _ o0 pa pe_no, by rw [hT]; exact rx_bin_a qa⟩
theorem de_bin {op : Operator} {B : Ow → Ow → Option Ow} (hB : ∀ x y z, B x y = some z → ∃ r, OpR X (binaryOp op) r ∧ RO2 X r x y z) (h0 : ∃ r, OpR X (binaryOp op) r) (ha : DE X W a fa) (hb : DE X W b fb) : DE X W (.BinOp a op b pos) (xBin B fa fb) :=
  de_bin_of (T := tOp) (fun _ _ _ => rfl) (O := OpR X (binaryOp op)) (fun r ta tb o pa pb => pe_op o pa pb) hB h0 ha hb
theorem de_cmp {op : CmpOp} {B : Ow → Ow → Option Ow} (hB : ∀ x y z, B x y = some z → ∃ r, OpR X (compareOp op) r ∧ RO2 X r x y z) (h0 : ∃ r, OpR X (compareOp op) r) (hm : behindInMarks op b = false) (ha : DE X W a fa) (hb : DE X W b fb) : DE X W (.Compare a [op] [b] pos) (xBin B fa fb) :=
  de_bin_of (T := tOp) (fun _ _ _ => rfl) (O := OpR X (compareOp op)) (fun r ta tb o pa pb => pe_cmpR o pa pb hm) hB h0 ha hb
theorem de_un {op : UnaryOp} {B : Ow → Option Ow} {r : V → Hp → VK → Prop} (ho : UnR X (unaryOp op) r) (hB : ∀ x z, B x = some z → RU2 X r x z) (ha : DE X W a fa) : DE X W (.UnaryOp op a pos) (xUn B fa) := fun ρ q h => by
  rcases bnd_inv h with ⟨x, ρ1, h1, h2⟩ | ⟨c, d, ρ1, h1, rfl⟩
  · obtain ⟨ta, pa, qa⟩ := ha ρ _ h1
    obtain ⟨z, h5, rfl⟩ := opt_inv h2
    refine ⟨_, pe_un ho pa, fun σ H g F Q G q => qa σ H g F _ G fun v H1 g1 F1 Fa G1 r1 d1 s1 => hB x z h5 v H1 g1 Fa Q G1.ok r1 fun w H3 g3 Fz k3 r3 s3 => ?_⟩
    obtain ⟨G3, d3, s4⟩ := G1.op s1 d1 k3 s3
    exact q w H3 g3 F1 Fz G3 r3 d3 s4
  · obtain ⟨ta, pa, qa⟩ := ha ρ _ h1
    exact ⟨_, pe_un ho pa, fun σ H g F Q G q => qa σ H g F _ G q⟩
end
/-! ### the rules of ints -/
section
variable {X : Cx} {x y z : Ow}
/-- what is told of a scalar -/
theorem ro_of {r : R2} {d e c : Dt} (h : ∀ v u H S (Q : VK), Rp X.K S v d → Rp X.K S u e → (∀ w, (∀ S, Rp X.K S w c) → Q w H) → r v u H Q) : RO2 X r (.f d) (.f e) (.f c) := fun v u H g Fx Fy Q k rx ry _ q =>
  h v u H g.S Q rx.1 ry.1 fun w hw => q w H g (fun _ => False) k ⟨hw _, fun _ z => z⟩ (Stp.refl fun _ z => z.elim)
theorem ro_ii {f : Int → Int → Int} {C : Int → Int → Prop} {i j : Int} (hc : C i j) : RO2 X (rI C fun i j => V.int (f i j)) (.i i) (.i j) (.i (f i j)) := ro_of fun v u H S Q rx ry q => by
  cases rx; cases ry
  exact ⟨i, j, rfl, rfl, hc, q _ fun _ => .int _⟩
theorem ro_i0 {f : Int → Int → Int} {i j : Int} : RO2 X (rI0 fun i j => V.int (f i j)) (.i i) (.i j) (.i (f i j)) := ro_of fun v u H S Q rx ry q => by
  cases rx; cases ry
  exact ⟨i, j, rfl, rfl, q _ fun _ => .int _⟩
theorem ro_b0 {f : Int → Int → Bool} {i j : Int} : RO2 X (rI0 fun i j => V.bl (f i j)) (.i i) (.i j) (.b (f i j)) := ro_of fun v u H S Q rx ry q => by
  cases rx; cases ry
  exact ⟨i, j, rfl, rfl, q _ fun _ => .bl _⟩
end
end OW
namespace OW
open PySem PySem.Spec PyProof.Rows L2
open DL (Dt Rp RpAll SqX pe_no pt_no pw_no ps_no pss_no CPowD op_powD)

/-! ### arguments -/
def xA0 : Fn (List Ow) := ret []
def xA1 (f : Fn Ow) (g : Fn (List Ow)) : Fn (List Ow) := bnd f fun o => bnd g fun os => ret (o :: os)
theorem pa_no {X : Cx} {es : List Expr} : PA X es (fun _ _ _ => False) := ⟨fun _ _ _ _ _ _ _ h => h.elim⟩
section
variable {X : Cx} {W : WX} {pos : Pos} {a b c e : Expr} {es : List Expr} {fa fb fc fe : Fn Ow} {fs : Fn (List Ow)} {k : Nat}
theorem rx_ret {α β : Type} {rel : Gs → α → β → Fp → Prop} {t : L2.St → Hp → (β → Hp → Prop) → Prop} {a : α} {b : β} {ρ : Ev} (ht : ∀ σ H Q, Q b H → t σ H Q) (h : ∀ g, rel g a b fun _ => False) : RX X W rel t ρ (.ok a ρ) := fun σ H g F Q G q =>
  ht σ H Q (q b H g F (fun _ => False) G (h g) (fun _ _ z => z) (Stp.refl fun p z => z.elim id False.elim))
theorem da_0 : DA X W [] xA0 := fun ρ r h => by
  cases h
  exact ⟨_, pa_nil, rx_ret (b := []) (fun σ H Q q => q) fun g => ⟨rfl, fun _ z => z⟩⟩
theorem da_1 (ha : DE X W e fe) (hs : DA X W es fs) (hst : starEach (e :: es) X.env = (false, eval e X.env) :: starEach es X.env := by rfl) : DA X W (e :: es) (xA1 fe fs) := fun ρ r h => by
  rcases bnd_inv h with ⟨x, ρ1, h1, h2⟩ | ⟨c, d, ρ1, h1, rfl⟩
  · obtain ⟨ta, pa, qa⟩ := ha ρ _ h1
    rcases bnd_inv h2 with ⟨os, ρ2, h3, h4⟩ | ⟨c, d, ρ2, h3, rfl⟩
    · obtain ⟨tb, pb, qb⟩ := hs ρ1 _ h3
      cases h4
      refine ⟨_, pa_cons pa pb hst, fun σ H g F Q G q => RX.seq (Q := fun x r H2 => Q (x :: r) H2) frm_V frm_A qa qb G fun v vs H2 g2 F2 Fa Fb G2 r1 r2 d1 d2 s => ?_⟩
      exact q (v :: vs) H2 g2 F2 (fun p => Fa p ∨ Fb p) G2 ⟨v, vs, Fa, Fb, rfl, r1, r2, d1, fun p => Iff.rfl⟩ d2 s
    · obtain ⟨tb, pb, qb⟩ := hs ρ1 _ h3
      exact ⟨_, pa_cons pa pb hst, fun σ H g F Q G q => RX.seq (Q := fun x r H2 => Q (x :: r) H2) frm_V frm_A qa qb G q⟩
  · obtain ⟨ta, pa, qa⟩ := ha ρ _ h1
    exact ⟨_, pa_cons pa pa_no hst, fun σ H g F Q G q => qa σ H g F _ G q⟩
end
/-! ### new lists and tuples -/
def LIM : Nat := 1000000
theorem lim_line {n : Nat} (h : n ≤ LIM) : n ≤ sizeLine := Nat.le_trans h (by decide)
section
variable {X : Cx} {W : WX} {pos : Pos} {a b c e : Expr} {es : List Expr} {fa fb fc fe : Fn Ow} {fs : Fn (List Ow)} {k : Nat} {mg : Str → Option Value} {K : PySem.W.Frag} {g : Gs} {H : Hp} {F : Fp} {vs : List V} {os : List Ow} {ds : List Dt}
theorem new_l (k : GsOk g H) (h : OwRs mg K g os vs F) {p : Addr} (hp : H p = none) :
    GsOk (g.hold p (.lst vs)) (upd H p (.lst vs)) ∧ OwR mg K (g.hold p (.lst vs)) (.l os) (.ref p) (fun q => q = p ∨ F q) ∧ Stp g F (g.hold p (.lst vs)) fun q => q = p ∨ F q := by
  obtain ⟨f1, f2⟩ := k.free hp
  have nF : ¬ F p := fun z => by
    obtain ⟨u, e⟩ := OwRs.in_ os h p z
    rw [f2] at e; cases e
  refine ⟨hold_ok k hp, ⟨p, vs, fun q => q = p, F, rfl, ⟨upd_same, fun q => Iff.rfl⟩, OwRs.kp os (hold_kp nF) h, fun q z y => nF (by rw [← show q = p from z]; exact y), fun q => Iff.rfl⟩, ⟨fun _ _ e => e, fun q u e n => ?_, fun q z => ?_⟩⟩
  · show upd g.M p _ q = _
    rw [upd_ne (ne_of_none e f2)]; exact e
  · rcases z with rfl | z
    · exact .inr ⟨f1, f2⟩
    · exact .inl z
theorem new_t (k : GsOk g H) (h : RpAll K g.S vs ds) {p : Addr} (hp : H p = none) :
    GsOk (g.stand p (.tup vs)) (upd H p (.tup vs)) ∧ Rp K (g.stand p (.tup vs)).S (.ref p) (.tup ds) ∧ Stp g F (g.stand p (.tup vs)) fun _ => False := by
  obtain ⟨f1, f2⟩ := k.free hp
  exact ⟨stand_ok k hp, .tup (SqT.of upd_same) (RpAll.mono (same_upd f1) _ _ h), stand_stp f1⟩
/-- what is given stands: the arguments of what reads alone -/
theorem frzs_ok (k : GsOk g H) (e : frzs os = some ds) (h : OwRs mg K g os vs F) : GsOk (frzG g F) H ∧ RpAll K (frzG g F).S vs ds ∧ Stp g F (frzG g F) fun _ => False := by
  classical
  refine ⟨frzG_ok k, frzs_rp (frzG_st k) os e h fun p u z q => ?_, (frzG_stp k fun _ z => z).sub fun p z => z.elim⟩
  show (if F p ∧ (g.M p).isSome then g.M p else g.S p) = some u
  rw [if_pos ⟨z, by rw [q]; rfl⟩]; exact q
def xLst (f : Fn (List Ow)) : Fn Ow := bnd f fun os => opt (if os.length ≤ LIM then some (.l os) else none)
def xTup (f : Fn (List Ow)) : Fn Ow := bnd f fun os => opt (if os.length ≤ LIM then (frzs os).map (fun ds => .f (.tup ds)) else none)
theorem de_lst (hs : DA X W es fs) : DE X W (.List es pos) (xLst fs) := fun ρ r h => by
  rcases bnd_inv h with ⟨os, ρ1, h1, h2⟩ | ⟨c, d, ρ1, h1, rfl⟩
  · obtain ⟨ta, pa, qa⟩ := hs ρ _ h1
    obtain ⟨z, h3, rfl⟩ := opt_inv h2
    split at h3
    · rename_i hl
      cases h3
      refine ⟨_, pe_lst pa, fun σ H g F Q G q => qa σ H g F _ G fun vs H1 g1 F1 Fa G1 r1 d1 s1 => ⟨by rw [OwRs.len r1]; exact lim_line hl, fun p hp => ?_⟩⟩
      obtain ⟨k, r, s⟩ := new_l G1.ok r1 hp
      obtain ⟨G3, d3, s3⟩ := G1.op s1 d1 k s
      exact q _ _ _ F1 _ G3 r d3 s3
    · cases h3
  · obtain ⟨ta, pa, qa⟩ := hs ρ _ h1
    exact ⟨_, pe_lst pa, fun σ H g F Q G q => qa σ H g F _ G q⟩
theorem de_tup (hs : DA X W es fs) : DE X W (.Tuple es k pos) (xTup fs) := fun ρ r h => by
  rcases bnd_inv h with ⟨os, ρ1, h1, h2⟩ | ⟨c, d, ρ1, h1, rfl⟩
  · obtain ⟨ta, pa, qa⟩ := hs ρ _ h1
    obtain ⟨z, h3, rfl⟩ := opt_inv h2
    split at h3
    · rename_i hl
      obtain ⟨ds, h4, rfl⟩ := Option.map_eq_some_iff.mp h3
      refine ⟨_, pe_tup pa, fun σ H g F Q G q => qa σ H g F _ G fun vs H1 g1 F1 Fa G1 r1 d1 s1 => ⟨by rw [OwRs.len r1]; exact lim_line hl, fun p hp => ?_⟩⟩
      obtain ⟨k1, r2, s2⟩ := frzs_ok G1.ok h4 r1
      obtain ⟨k, r, s⟩ := new_t (F := fun _ => False) k1 r2 hp
      obtain ⟨G3, d3, s3⟩ := G1.op s1 d1 k (s2.tr s)
      exact q _ _ _ F1 _ G3 ⟨r, fun _ z => z⟩ d3 s3
    · cases h3
  · obtain ⟨ta, pa, qa⟩ := hs ρ _ h1
    exact ⟨_, pe_tup pa, fun σ H g F Q G q => qa σ H g F _ G q⟩
end
/-! ### reading operations: what they take stands -/
def oB1 (B : Dt → Option Ow) (x : Ow) : Option Ow := match frz x with
  | some d => B d
  | none => none
def oB2 (B : Dt → Dt → Option Ow) (x y : Ow) : Option Ow := match frz x, frz y with
  | some d, some e => B d e
  | _, _ => none
def oBs (B : List Dt → Option Ow) (os : List Ow) : Option Ow := match frzs os with
  | some ds => B ds
  | none => none
def RF (X : Cx) (r : List V → Hp → VK → Prop) (ds : List Dt) (z : Ow) : Prop := ∀ vs H g (Q : VK), GsOk g H → RpAll X.K g.S vs ds →
  (∀ w H' g' Fz, GsOk g' H' → OwR X.mg X.K g' z w Fz → Stp g (fun _ => False) g' Fz → Q w H') → r vs H Q
section
variable {X : Cx} {W : WX} {pos p : Pos} {a b c e : Expr} {es : List Expr} {fa fb fc fe : Fn Ow} {fs : Fn (List Ow)} {k : Nat} {r : List V → Hp → VK → Prop} {os : List Ow} {ds : List Dt} {x y z : Ow}
theorem rf_rc (h : RF X r ds z) (e : frzs os = some ds) : RC2 X r os z := fun vs H g Fx Q k rv q => by
  obtain ⟨k1, r2, s2⟩ := frzs_ok k e rv
  exact h vs H _ Q k1 r2 fun w H' g' Fz k3 r3 s3 => q w H' g' Fz k3 r3 (s2.tr s3)
theorem oBs_rc {B : List Dt → Option Ow} {R : (List V → Hp → VK → Prop) → Prop} (hB : ∀ ds z, B ds = some z → ∃ r, R r ∧ RF X r ds z) {os : List Ow} {z : Ow} (h : oBs B os = some z) : ∃ r, R r ∧ RC2 X r os z := by
  unfold oBs at h
  split at h
  · rename_i ds e
    obtain ⟨r, o, hr⟩ := hB ds z h
    exact ⟨r, o, rf_rc hr e⟩
  · cases h
theorem oB2_ro {B : Dt → Dt → Option Ow} {R : R2 → Prop} (hB : ∀ d e z, B d e = some z → ∃ r, R r ∧ ∀ v u H g (Q : VK), GsOk g H → Rp X.K g.S v d → Rp X.K g.S u e → (∀ w H' g' Fz, GsOk g' H' → OwR X.mg X.K g' z w Fz → Stp g (fun _ => False) g' Fz → Q w H') → r v u H Q)
    {x y z : Ow} (h : oB2 B x y = some z) : ∃ r, R r ∧ RO2 X r x y z := by
  unfold oB2 at h
  split at h
  · rename_i d e e1 e2
    obtain ⟨r, o, hr⟩ := hB d e z h
    refine ⟨r, o, fun v u H g Fx Fy Q k rx ry dj q => ?_⟩
    have ef : frzs [x, y] = some [d, e] := by simp [frzs, e1, e2]
    have ow : OwRs X.mg X.K g [x, y] [v, u] fun p => Fx p ∨ Fy p := ⟨v, [u], Fx, Fy, rfl, rx, OwRs.one ry, dj, fun p => Iff.rfl⟩
    obtain ⟨k1, r2, s2⟩ := frzs_ok k ef ow
    cases r2 with
    | cons r3 r4 =>
      cases r4 with
      | cons r5 r6 => exact hr v u H _ Q k1 r3 r5 fun w H' g' Fz k3 r3 s3 => q w H' g' Fz k3 r3 (s2.tr s3)
  · cases h
/-- calls of what is built in -/
def xC (B : List Ow → Option Ow) (f : Fn (List Ow)) : Fn Ow := bnd f fun os => opt (B os)
theorem de_callB {id : String} {x : Str} {B : List Ow → Option Ow} (h0 : ∃ r, CallR X (.builtin id) r) (hB : ∀ os z, B os = some z → ∃ r, CallR X (.builtin id) r ∧ RC2 X r os z) (hm : X.mg x = none) (hv : bootBuiltins x = some (.builtin id)) (ha : DA X W (e :: es) fs)
    (hg : Gl X x := by rfl) (hn : x ≠ "__name__" := by decide) (hdb : (x == ("__debug__" : Str)) = false := by decide)
    (he : starEach (e :: es) X.env = (false, eval e X.env) :: starEach es X.env := by rfl) (hpl : (backTo pos (starEach es X.env)).any (·.1) = false := by rfl) : DE X W (.Call (.Name x p) (e :: es) [] pos) (xC B fs) := fun ρ r h => by
  obtain ⟨r0, o0⟩ := h0
  rcases bnd_inv h with ⟨os, ρ1, h1, h2⟩ | ⟨c, d, ρ1, h1, rfl⟩
  · obtain ⟨ta, pa, qa⟩ := ha ρ _ h1
    obtain ⟨z, h3, rfl⟩ := opt_inv h2
    obtain ⟨r, o, hr⟩ := hB os z h3
    refine ⟨_, pe_callB o hg hm hv pa hn hdb he hpl, fun σ H g F Q G q => qa σ H g F _ G fun vs H1 g1 F1 Fa G1 r1 d1 s1 => hr vs H1 g1 Fa Q G1.ok r1 fun w H3 g3 Fz k3 r3 s3 => ?_⟩
    obtain ⟨G3, d3, s4⟩ := G1.op s1 d1 k3 s3
    exact q w H3 g3 F1 Fz G3 r3 d3 s4
  · obtain ⟨ta, pa, qa⟩ := ha ρ _ h1
    exact ⟨_, pe_callB o0 hg hm hv pa hn hdb he hpl, fun σ H g F Q G q => qa σ H g F _ G q⟩
theorem de_callT {id : String} {x : Str} {B : List Ow → Option Ow} (h0 : ∃ r, CallR X (.type id) r) (hB : ∀ os z, B os = some z → ∃ r, CallR X (.type id) r ∧ RC2 X r os z) (hm : X.mg x = none) (hv : bootBuiltins x = some (.type id)) (ha : DA X W (e :: es) fs)
    (hg : Gl X x := by rfl) (hn : x ≠ "__name__" := by decide) (hdb : (x == ("__debug__" : Str)) = false := by decide)
    (he : starEach (e :: es) X.env = (false, eval e X.env) :: starEach es X.env := by rfl) (hpl : (backTo pos (starEach es X.env)).any (·.1) = false := by rfl) : DE X W (.Call (.Name x p) (e :: es) [] pos) (xC B fs) := fun ρ r h => by
  obtain ⟨r0, o0⟩ := h0
  rcases bnd_inv h with ⟨os, ρ1, h1, h2⟩ | ⟨c, d, ρ1, h1, rfl⟩
  · obtain ⟨ta, pa, qa⟩ := ha ρ _ h1
    obtain ⟨z, h3, rfl⟩ := opt_inv h2
    obtain ⟨r, o, hr⟩ := hB os z h3
    refine ⟨_, pe_callTy o hg hm hv pa hn hdb he hpl, fun σ H g F Q G q => qa σ H g F _ G fun vs H1 g1 F1 Fa G1 r1 d1 s1 => hr vs H1 g1 Fa Q G1.ok r1 fun w H3 g3 Fz k3 r3 s3 => ?_⟩
    obtain ⟨G3, d3, s4⟩ := G1.op s1 d1 k3 s3
    exact q w H3 g3 F1 Fz G3 r3 d3 s4
  · obtain ⟨ta, pa, qa⟩ := ha ρ _ h1
    exact ⟨_, pe_callTy o0 hg hm hv pa hn hdb he hpl, fun σ H g F Q G q => qa σ H g F _ G q⟩
theorem de_ix {B : Ow → Ow → Option Ow} (hB : ∀ x y z, B x y = some z → ∃ r, IxR X r ∧ RO2 X r x y z) (hs : PlainIx b) (ha : DE X W a fa) (hb : DE X W b fb) : DE X W (.Subscript a b pos) (xBin B fa fb) :=
  de_bin_of (T := tOp) (fun _ _ _ => rfl) (O := IxR X) (fun r ta tb o pa pb => pe_ix o pa pb hs) hB ⟨_, ix_list⟩ ha hb
end
end OW
namespace OW
open PySem PySem.Spec PyProof.Rows L2
open DL (Dt Rp RpAll SqX pe_no pt_no pw_no ps_no pss_no CPowD op_powD Bd bd_pow)

/-! ### ints -/
/-- a bound that all numbers keep -/
def Bn (i : Int) : Bool := decide (i.natAbs.log2 < 4000)
theorem bn_of {i : Int} (h1 : -(10 ^ 250) ≤ i) (h2 : i ≤ 10 ^ 250) : Bn i = true := by
  unfold Bn
  have h : i.natAbs < 2 ^ 1000 := by
    have e : (10 : Int) ^ 300 < 2 ^ 1000 := by decide
    have e2 : ((2 ^ 1000 : Nat) : Int) = 2 ^ 1000 := by norm_cast
    omega
  rw [decide_eq_true_eq]
  by_cases h0 : i.natAbs = 0
  · rw [h0]; decide
  · have := (Nat.log2_lt h0).mpr h
    omega
theorem bn_bd {i : Int} (h : Bn i = true) : Bd 4000 i := by
  unfold Bn at h
  rw [decide_eq_true_eq] at h
  unfold Bd
  by_cases h0 : i.natAbs = 0
  · rw [h0]; exact Nat.pow_pos (by decide)
  · exact (Nat.log2_lt h0).mp h
def its : Ow → Option (List Ow)
  | .n .lst os => some os
  | .f (.lst ds) => some (ds.map .f)
  | _ => none
def bLists (x y : Ow) : Option Ow := match its x, its y with
  | some a, some b => if a.length + b.length ≤ LIM then some (.l (a ++ b)) else none
  | _, _ => none
def bAdd : Ow → Ow → Option Ow
  | .f (.int i), .f (.int j) => some (.f (.int (i + j)))
  | .f (.str i), .f (.str j) => if i.length + j.length ≤ LIM then some (.f (.str (i ++ j))) else none
  | .f (.tup a), .f (.tup b) => if a ≠ [] ∧ b ≠ [] ∧ a.length + b.length ≤ LIM then some (.f (.tup (a ++ b))) else none
  | x, y => bLists x y
def bSub : Ow → Ow → Option Ow
  | .f (.int i), .f (.int j) => some (.f (.int (i - j)))
  | _, _ => none
def bRep (x : Ow) (j : Int) : Option Ow := match x with
  | .n .lst os => match frzs os with
    | some ds => if j ≤ LIM ∧ -LIM ≤ j ∧ ds.length * j.toNat ≤ LIM then some (.l ((List.replicate j.toNat ds).flatten.map .f)) else none
    | none => none
  | _ => none
def bMul : Ow → Ow → Option Ow
  | .f (.int i), .f (.int j) => if Bn i ∧ Bn j then some (.f (.int (i * j))) else none
  | x, .f (.int j) => bRep x j
  | _, _ => none
def bDiv : Ow → Ow → Option Ow
  | .f (.int i), .f (.int j) => if 0 < j ∧ Bn j then some (.f (.int (i / j))) else none
  | _, _ => none
def bMod : Ow → Ow → Option Ow
  | .f (.int i), .f (.int j) => if 0 < j then some (.f (.int (i % j))) else none
  | _, _ => none
def bPow : Ow → Ow → Option Ow
  | .f (.int i), .f (.int j) => if Bn i ∧ 0 ≤ j ∧ j ≤ 1000 then some (.f (.int (i ^ j.toNat))) else none
  | _, _ => none
def bNeg : Ow → Option Ow
  | .f (.int i) => some (.f (.int (-i)))
  | _ => none
section
variable {X : Cx} {W : WX} {pos : Pos} {a b : Expr} {fa fb : Fn Ow}
theorem its_get {mg : Str → Option Value} {K : PySem.W.Frag} {g : Gs} {H : Hp} {x : Ow} {os : List Ow} {v : V} {F : Fp} (k : GsOk g H) (e : its x = some os) (h : OwR mg K g x v F) : ∃ a vs F1, v = .ref a ∧ SqX K H a vs ∧ OwRs mg K g os vs F1 ∧ ∀ p, F1 p → F p := by
  match x, e, h with
  | .n .lst os, e, ⟨a, vs, F0, F1, e1, hc, hs, hd, ef⟩ =>
    cases e
    exact ⟨a, vs, F1, e1, SqX.of (k.m _ _ hc.1), hs, fun p z => (ef p).mpr (.inr z)⟩
  | .f (.lst ds), e, ⟨h1, h2⟩ =>
    cases e
    cases h1 with
    | lst hs ha => exact ⟨_, _, fun _ => False, rfl, sqx_mono' k.s hs, OwRs.of_rp ha, fun p z => z.elim⟩
where sqx_mono' {K : PySem.W.Frag} {S S' : Hp} (e : Same S S') {a : Addr} {xs : List V} (h : SqX K S a xs) : SqX K S' a xs := DL.sqx_mono e h
theorem lists_ro {x y z : Ow} (h : bLists x y = some z) : ∃ r, OpR X (binaryOp .Add) r ∧ RO2 X r x y z := by
  unfold bLists at h
  split at h
  · rename_i xs ys e1 e2
    split at h
    · rename_i hl
      cases h
      refine ⟨_, DL.op_catX, fun v u H g Fx Fy Q k rx ry dj q => ?_⟩
      obtain ⟨a, vs, F1, rfl, sx, hx, w1⟩ := its_get k e1 rx
      obtain ⟨b, us, F2, rfl, sy, hy, w2⟩ := its_get k e2 ry
      refine ⟨a, b, vs, us, rfl, rfl, sx, sy, by rw [hx.len, hy.len]; exact lim_line hl, fun p hp => ?_⟩
      obtain ⟨k3, r3, s3⟩ := new_l k (OwRs.app hx hy fun p z y => dj p (w1 p z) (w2 p y)) hp
      exact q _ _ _ _ k3 r3 ⟨s3.st, fun p o e n => s3.mu p o e fun z => n (z.elim (fun z => .inl (w1 p z)) fun z => .inr (w2 p z)), fun p z => (s3.fr p z).elim (fun z => .inl (z.elim (fun z => .inl (w1 p z)) fun z => .inr (w2 p z))) .inr⟩
    · cases h
  · cases h
theorem de_add (ha : DE X W a fa) (hb : DE X W b fb) : DE X W (.BinOp a .Add b pos) (xBin bAdd fa fb) := de_bin (fun x y z h => by
  unfold bAdd at h
  split at h
  · cases h; exact ⟨_, op_add, ro_i0⟩
  · rename_i i j
    split at h
    · rename_i hl
      cases h
      exact ⟨_, op_add_str, ro_of fun v u H S Q rx ry q => by cases rx; cases ry; exact ⟨i, j, rfl, rfl, lim_line hl, q _ fun _ => .str _⟩⟩
    · cases h
  · rename_i xs ys
    split at h
    · rename_i hl
      cases h
      refine ⟨_, op_catT, fun v u H g Fx Fy Q k rx ry dj q => ?_⟩
      obtain ⟨rx, _⟩ := rx
      obtain ⟨ry, _⟩ := ry
      cases rx with
      | tup h1 h2 =>
        cases ry with
        | tup h3 h4 =>
          refine ⟨_, _, _, _, rfl, rfl, DL.sqt_mono k.s h1, DL.sqt_mono k.s h3, fun z => ?_, by rw [h2.len, h4.len]; exact lim_line hl.2.2, fun z => ?_, fun _ p hp => ?_⟩
          · have e := h2.len
            rw [z] at e
            exact hl.1 (List.length_eq_zero_iff.mp e.symm)
          · have e := h4.len
            rw [z] at e
            exact absurd (List.length_eq_zero_iff.mp e.symm) hl.2.1
          · obtain ⟨k3, r3, s3⟩ := new_t (F := fun p => Fx p ∨ Fy p) k (h2.app h4) hp
            exact q _ _ _ (fun _ => False) k3 ⟨r3, fun _ z => z⟩ s3
    · cases h
  · exact lists_ro h) ⟨_, op_add⟩ ha hb
theorem de_sub (ha : DE X W a fa) (hb : DE X W b fb) : DE X W (.BinOp a .Sub b pos) (xBin bSub fa fb) := de_bin (fun x y z h => by
  unfold bSub at h
  split at h
  · cases h; exact ⟨_, op_sub, ro_i0⟩
  · cases h) ⟨_, op_sub⟩ ha hb
theorem de_div (ha : DE X W a fa) (hb : DE X W b fb) : DE X W (.BinOp a .FloorDiv b pos) (xBin bDiv fa fb) := de_bin (fun x y z h => by
  unfold bDiv at h
  split at h
  · split at h
    · rename_i hc
      cases h
      exact ⟨_, op_fdivW, ro_ii ⟨hc.1, by have := hc.2; unfold Bn at this; rw [decide_eq_true_eq] at this; omega⟩⟩
    · cases h
  · cases h) ⟨_, op_fdivW⟩ ha hb
theorem de_mod (ha : DE X W a fa) (hb : DE X W b fb) : DE X W (.BinOp a .Mod b pos) (xBin bMod fa fb) := de_bin (fun x y z h => by
  unfold bMod at h
  split at h
  · split at h
    · rename_i hc
      cases h
      exact ⟨_, op_mod, ro_ii hc⟩
    · cases h
  · cases h) ⟨_, op_mod⟩ ha hb
theorem de_pow (ha : DE X W a fa) (hb : DE X W b fb) : DE X W (.BinOp a .Pow b pos) (xBin bPow fa fb) := de_bin (fun x y z h => by
  unfold bPow at h
  split at h
  · split at h
    · rename_i hc
      cases h
      exact ⟨_, op_powD, ro_ii (bd_pow (bn_bd hc.1) hc.2.1 (by have := hc.2.2; have := hc.2.1; omega))⟩
    · cases h
  · cases h) ⟨_, op_powD⟩ ha hb
theorem rep_ro {x z : Ow} {j : Int} (h : bRep x j = some z) : RO2 X rRep x (.f (.int j)) z := by
  unfold bRep at h
  split at h
  · rename_i os
    split at h
    · rename_i ds ed
      split at h
      · rename_i hl
        cases h
        intro v u H g Fx Fy Q k rx ry dj q
        obtain ⟨a, vs, F0, F1, e1, hc, hs, hd, ef⟩ := rx
        obtain ⟨ry, _⟩ := ry
        cases ry
        subst e1
        obtain ⟨k1, r1, s1⟩ := frzs_ok k ed hs
        refine ⟨a, _, vs, rfl, rfl, k.m _ _ hc.1, by unfold LIM at hl; omega, by unfold LIM at hl; omega, by rw [r1.len]; exact lim_line hl.2.2, fun p hp => ?_⟩
        obtain ⟨k3, r3, s3⟩ := new_l k1 (OwRs.of_rp (r1.rep j.toNat)) hp
        refine q _ _ _ _ k3 r3 ⟨fun p u e => s3.st _ _ (s1.st _ _ e), fun p o e n => s3.mu p o (s1.mu p o e fun z => n (.inl ((ef p).mpr (.inr z)))) fun z => z, fun p z => ?_⟩
        rcases s3.fr p z with z | ⟨z1, z2⟩
        · exact z.elim
        · rcases z with rfl | z
          · exact .inr (k.free hp)
          · exact z.elim
      · cases h
    · cases h
  · cases h
theorem de_mul (ha : DE X W a fa) (hb : DE X W b fb) : DE X W (.BinOp a .Mult b pos) (xBin bMul fa fb) := de_bin (fun x y z h => by
  unfold bMul at h
  split at h
  · split at h
    · rename_i hc
      cases h
      exact ⟨_, op_mulW, ro_ii (by have h1 := hc.1; have h2 := hc.2; unfold Bn at h1 h2; rw [decide_eq_true_eq] at h1 h2; unfold CMulW; omega)⟩
    · cases h
  · exact ⟨_, op_rep, rep_ro h⟩
  · cases h) ⟨_, op_mulW⟩ ha hb
theorem de_neg (ha : DE X W a fa) : DE X W (.UnaryOp .USub a pos) (xUn bNeg fa) := de_un un_neg (fun x z h => by
  unfold bNeg at h
  split at h
  · cases h
    exact fun v H g Fx Q k rx q => by
      obtain ⟨rx, _⟩ := rx
      cases rx
      exact ⟨_, rfl, q _ H g (fun _ => False) k ⟨.int _, fun _ z => z⟩ (Stp.refl fun _ z => z.elim)⟩
  · cases h) ha
end

/-! ### comparisons -/
/-- a comparison: a value, or a test -/
def DC (X : Cx) (W : WX) (e : Expr) (f : Fn Ow) : Prop := ∀ ρ r, f ρ = some r → ∃ t, PE X e t ∧ PT X e (tTest t) ∧ RX X W (rV X) t ρ r
theorem DC.e {X : Cx} {W : WX} {e : Expr} {f : Fn Ow} (h : DC X W e f) : DE X W e f := fun ρ r hr => let ⟨t, p, _, q⟩ := h ρ r hr; ⟨t, p, q⟩
theorem dc_cmp {X : Cx} {W : WX} {pos : Pos} {a b : Expr} {fa fb : Fn Ow} {op : CmpOp} {B : Ow → Ow → Option Ow} (hB : ∀ x y z, B x y = some z → ∃ r, OpR X (compareOp op) r ∧ RO2 X r x y z) (h0 : ∃ r, OpR X (compareOp op) r) (hm : behindInMarks op b = false) (ha : DE X W a fa) (hb : DE X W b fb) : DC X W (.Compare a [op] [b] pos) (xBin B fa fb) := fun ρ q h => by
  obtain ⟨r0, o0⟩ := h0
  rcases bnd_inv h with ⟨x, ρ1, h1, h2⟩ | ⟨c, d, ρ1, h1, rfl⟩
  · obtain ⟨ta, pa, qa⟩ := ha ρ _ h1
    rcases bnd_inv h2 with ⟨y, ρ2, h3, h4⟩ | ⟨c, d, ρ2, h3, rfl⟩
    · obtain ⟨tb, pb, qb⟩ := hb ρ1 _ h3
      obtain ⟨z, h5, rfl⟩ := opt_inv h4
      obtain ⟨r, o, hr⟩ := hB x y z h5
      exact ⟨_, pe_cmpR o pa pb hm, pt_cmpR o pa pb hm, rx_bin qa qb hr⟩
    · obtain ⟨tb, pb, qb⟩ := hb ρ1 _ h3
      exact ⟨_, pe_cmpR o0 pa pb hm, pt_cmpR o0 pa pb hm, rx_bin_b qa qb⟩
  · obtain ⟨ta, pa, qa⟩ := ha ρ _ h1
    exact ⟨_, pe_cmpR o0 pa pe_no hm, pt_cmpR o0 pa pe_no hm, rx_bin_a qa⟩
/-- data that == can compare -/
def eqOk (d : Dt) : Bool := d.plain && SeqAt.shaped d.py
def deq (d e : Dt) : Bool := PyData.eqv d.py e.py
def cI (f : Int → Int → Bool) : Ow → Ow → Option Ow
  | .f (.int i), .f (.int j) => some (.f (.bl (f i j)))
  | _, _ => none
def cLt : Ow → Ow → Option Ow := cI fun i j => decide (i < j)
def cLe : Ow → Ow → Option Ow := cI fun i j => decide (i ≤ j)
def cGt : Ow → Ow → Option Ow := cI fun i j => decide (j < i)
def cGe : Ow → Ow → Option Ow := cI fun i j => decide (j ≤ i)
def cEq : Ow → Ow → Option Ow := oB2 fun d e => match d, e with
  | .str a, .str b => some (.f (.bl (decide (a = b))))
  | d, e => if eqOk d ∧ eqOk e then some (.f (.bl (deq d e))) else none
def cNe : Ow → Ow → Option Ow := oB2 fun d e => match d, e with
  | .str a, .str b => some (.f (.bl (!decide (a = b))))
  | d, e => if eqOk d ∧ eqOk e then some (.f (.bl (!deq d e))) else none
def cIs : Ow → Ow → Option Ow := oB2 fun d e => match e with
  | .non => some (.f (.bl d.isNon))
  | _ => none
def cIsN : Ow → Ow → Option Ow := oB2 fun d e => match e with
  | .non => some (.f (.bl (!d.isNon)))
  | _ => none
def flat : Dt → Bool
  | .non => true
  | .bl _ => true
  | .int _ => true
  | .str _ => true
  | _ => false
def dIn (d : Dt) (ds : List Dt) : Bool := ds.any fun z => deq z d
def cIn' (neg : Bool) : Ow → Ow → Option Ow := oB2 fun d e => match e with
  | .lst ds => if eqOk d ∧ eqOk (.lst ds) then some (.f (.bl (if neg then !dIn d ds else dIn d ds))) else none
  | .tup ds => if flat d ∧ ds.all flat then some (.f (.bl (if neg then !dIn d ds else dIn d ds))) else none
  | _ => none
def cIn : Ow → Ow → Option Ow := cIn' false
def cNi : Ow → Ow → Option Ow := cIn' true
theorem eqv_flat {K : PySem.W.Frag} {S : Hp} {v u : V} {d e : Dt} (h : Rp K S v d) (h' : Rp K S u e) (f : flat d = true) (f' : flat e = true) : flatV v = true ∧ flatV u = true ∧ eqV v u = deq d e := by
  cases h with
  | non => cases h' with
    | non => exact ⟨rfl, rfl, by unfold deq Dt.py PyData.eqv; rfl⟩
    | bl _ => exact ⟨rfl, rfl, by unfold deq Dt.py PyData.eqv; rfl⟩
    | int _ => exact ⟨rfl, rfl, by unfold deq Dt.py PyData.eqv; rfl⟩
    | str _ => exact ⟨rfl, rfl, by unfold deq Dt.py PyData.eqv; rfl⟩
    | _ => cases f'
  | bl _ => cases h' with
    | non => exact ⟨rfl, rfl, by unfold deq Dt.py PyData.eqv; rfl⟩
    | bl _ => exact ⟨rfl, rfl, by unfold deq Dt.py PyData.eqv; rfl⟩
    | int _ => exact ⟨rfl, rfl, by unfold deq Dt.py PyData.eqv; rfl⟩
    | str _ => exact ⟨rfl, rfl, by unfold deq Dt.py PyData.eqv; rfl⟩
    | _ => cases f'
  | int _ => cases h' with
    | non => exact ⟨rfl, rfl, by unfold deq Dt.py PyData.eqv; rfl⟩
    | bl _ => exact ⟨rfl, rfl, by unfold deq Dt.py PyData.eqv; rfl⟩
    | int _ => exact ⟨rfl, rfl, by unfold deq Dt.py PyData.eqv; rfl⟩
    | str _ => exact ⟨rfl, rfl, by unfold deq Dt.py PyData.eqv; rfl⟩
    | _ => cases f'
  | str _ => cases h' with
    | non => exact ⟨rfl, rfl, by unfold deq Dt.py PyData.eqv; rfl⟩
    | bl _ => exact ⟨rfl, rfl, by unfold deq Dt.py PyData.eqv; rfl⟩
    | int _ => exact ⟨rfl, rfl, by unfold deq Dt.py PyData.eqv; rfl⟩
    | str _ => exact ⟨rfl, rfl, by unfold deq Dt.py PyData.eqv; rfl⟩
    | _ => cases f'
  | _ => cases f
theorem flat_rp {K : PySem.W.Frag} {S : Hp} {v : V} {d : Dt} (h : Rp K S v d) (f : flat d = true) : flatV v = true := by
  cases h with
  | non => rfl
  | bl _ => rfl
  | int _ => rfl
  | str _ => rfl
  | _ => cases f
theorem in_flat {K : PySem.W.Frag} {S : Hp} {v : V} {d : Dt} (h : Rp K S v d) (f : flat d = true) : ∀ {us : List V} {ds : List Dt}, RpAll K S us ds → ds.all flat = true → us.all flatV = true ∧ inV v us = dIn d ds
  | _, _, .nil, _ => ⟨rfl, rfl⟩
  | _, _, .cons h1 h2, fs => by
    rw [List.all_cons, Bool.and_eq_true] at fs
    obtain ⟨a1, a2⟩ := in_flat h f h2 fs.2
    obtain ⟨b1, b2, b3⟩ := eqv_flat h1 h fs.1 f
    refine ⟨by rw [List.all_cons, b1, a1]; rfl, ?_⟩
    unfold inV dIn at *
    rw [List.any_cons, List.any_cons, a2, b3]
section
variable {X : Cx} {W : WX} {pos : Pos} {a b c : Expr} {fa fb fc : Fn Ow} {k : Nat}
theorem ci_ro {f : Int → Int → Bool} {R : R2 → Prop} (h0 : R (rI0 fun i j => V.bl (f i j))) {x y z : Ow} (h : cI f x y = some z) : ∃ r, R r ∧ RO2 X r x y z := by
  unfold cI at h
  split at h
  · cases h; exact ⟨_, h0, ro_b0⟩
  · cases h
theorem dc_lt (ha : DE X W a fa) (hb : DE X W b fb) : DC X W (.Compare a [.Lt] [b] pos) (xBin cLt fa fb) := dc_cmp (fun x y z h => ci_ro op_lt h) ⟨_, op_lt⟩ (nomark _) ha hb
theorem dc_le (ha : DE X W a fa) (hb : DE X W b fb) : DC X W (.Compare a [.LtE] [b] pos) (xBin cLe fa fb) := dc_cmp (fun x y z h => ci_ro op_le h) ⟨_, op_le⟩ (nomark _) ha hb
theorem dc_gt (ha : DE X W a fa) (hb : DE X W b fb) : DC X W (.Compare a [.Gt] [b] pos) (xBin cGt fa fb) := dc_cmp (fun x y z h => ci_ro op_gt h) ⟨_, op_gt⟩ (nomark _) ha hb
theorem dc_ge (ha : DE X W a fa) (hb : DE X W b fb) : DC X W (.Compare a [.GtE] [b] pos) (xBin cGe fa fb) := dc_cmp (fun x y z h => ci_ro op_ge h) ⟨_, op_ge⟩ (nomark _) ha hb
theorem rpE_dp {K : PySem.W.Frag} {g : Gs} {H : Hp} {v : V} {d : Dt} (k : GsOk g H) (h : eqOk d = true) (r : Rp K g.S v d) : Dp K H v d.py ∧ SeqAt.shaped d.py = true := by
  unfold eqOk at h
  rw [Bool.and_eq_true] at h
  exact ⟨DL.dp_mono k.s _ _ (DL.Rp.dp d _ h.1 r), h.2⟩
theorem dc_eq (hr : Room k X.A) (ha : DE X W a fa) (hb : DE X W b fb) : DC X W (.Compare a [.Eq] [b] pos) (xBin cEq fa fb) := dc_cmp (fun x y z h => oB2_ro (fun d e z h => by
  split at h
  · cases h
    refine ⟨_, op_eq, fun v u H g Q k rv ru q => ?_⟩
    cases rv
    cases ru
    exact ⟨rfl, by rw [DL.dec_s]; exact q _ H g (fun _ => False) k ⟨.bl _, fun _ z => z⟩ (Stp.refl fun _ z => z)⟩
  split at h
  · rename_i hc
    cases h
    refine ⟨_, op_eqD hr.units, fun v u H g Q k rv ru q => ?_⟩
    obtain ⟨d1, s1⟩ := rpE_dp k hc.1 rv
    obtain ⟨d2, s2⟩ := rpE_dp k hc.2 ru
    exact ⟨_, _, d1, d2, s1, s2, q _ H g (fun _ => False) k ⟨.bl _, fun _ z => z⟩ (Stp.refl fun _ z => z)⟩
  · cases h) h) ⟨_, op_eqD hr.units⟩ (nomark _) ha hb
theorem dc_ne (hr : Room k X.A) (ha : DE X W a fa) (hb : DE X W b fb) : DC X W (.Compare a [.NotEq] [b] pos) (xBin cNe fa fb) := dc_cmp (fun x y z h => oB2_ro (fun d e z h => by
  split at h
  · cases h
    refine ⟨_, op_ne, fun v u H g Q k rv ru q => ?_⟩
    cases rv
    cases ru
    exact ⟨rfl, by rw [DL.dec_s]; exact q _ H g (fun _ => False) k ⟨.bl _, fun _ z => z⟩ (Stp.refl fun _ z => z)⟩
  split at h
  · rename_i hc
    cases h
    refine ⟨_, op_neD hr.units, fun v u H g Q k rv ru q => ?_⟩
    obtain ⟨d1, s1⟩ := rpE_dp k hc.1 rv
    obtain ⟨d2, s2⟩ := rpE_dp k hc.2 ru
    exact ⟨_, _, d1, d2, s1, s2, q _ H g (fun _ => False) k ⟨.bl _, fun _ z => z⟩ (Stp.refl fun _ z => z)⟩
  · cases h) h) ⟨_, op_neD hr.units⟩ (nomark _) ha hb
theorem dc_is (ha : DE X W a fa) (hb : DE X W b fb) : DC X W (.Compare a [.Is] [b] pos) (xBin cIs fa fb) := dc_cmp (fun x y z h => oB2_ro (fun d e z h => by
  split at h
  · cases h
    refine ⟨_, op_isN, fun v u H g Q k rv ru q => ?_⟩
    cases ru
    exact ⟨rfl, by rw [DL.rp_non rv]; exact q _ H g (fun _ => False) k ⟨.bl _, fun _ z => z⟩ (Stp.refl fun _ z => z)⟩
  · cases h) h) ⟨_, op_isN⟩ (nomark _) ha hb
theorem dc_isN (ha : DE X W a fa) (hb : DE X W b fb) : DC X W (.Compare a [.IsNot] [b] pos) (xBin cIsN fa fb) := dc_cmp (fun x y z h => oB2_ro (fun d e z h => by
  split at h
  · cases h
    refine ⟨_, op_notN, fun v u H g Q k rv ru q => ?_⟩
    cases ru
    exact ⟨rfl, by rw [DL.rp_non rv]; exact q _ H g (fun _ => False) k ⟨.bl _, fun _ z => z⟩ (Stp.refl fun _ z => z)⟩
  · cases h) h) ⟨_, op_notN⟩ (nomark _) ha hb
theorem any_py {d : Dt} : ∀ ds : List Dt, ((DL.Dt.pyAll ds).any fun z => PyData.eqv z d.py) = dIn d ds
  | [] => by unfold DL.Dt.pyAll dIn; rfl
  | e :: ds => by
    unfold DL.Dt.pyAll dIn
    rw [List.any_cons, List.any_cons, any_py ds]
    rfl
theorem dc_in (hr : Room k X.A) (hu : X.A.units + 65 < cLine) (ha : DE X W a fa) (hb : DE X W b fb) (hm : behindInMarks .In b = false := by rfl) : DC X W (.Compare a [.In] [b] pos) (xBin cIn fa fb) := dc_cmp (fun x y z h => oB2_ro (fun d e z h => by
  split at h
  · rename_i ds
    split at h
    · rename_i hc
      cases h
      refine ⟨_, op_inD hu, fun v u H g Q k rv ru q => ?_⟩
      obtain ⟨d1, s1⟩ := rpE_dp k hc.1 rv
      obtain ⟨d2, s2⟩ := rpE_dp k hc.2 ru
      unfold DL.Dt.py at d2 s2
      exact ⟨_, _, d1, d2, s1, s2, by rw [any_py]; exact q _ H g (fun _ => False) k ⟨.bl _, fun _ z => z⟩ (Stp.refl fun _ z => z)⟩
    · cases h
  · rename_i ds
    split at h
    · rename_i hc
      cases h
      refine ⟨_, op_in_seq, fun v u H g Q k rv ru q => ?_⟩
      cases ru with
      | tup h1 h2 =>
        obtain ⟨f1, f2⟩ := in_flat rv hc.1 h2 hc.2
        have f0 := flat_rp rv hc.1
        exact ⟨_, _, rfl, .inr (DL.sqt_mono k.s h1), f0, f1, by rw [f2]; exact q _ H g (fun _ => False) k ⟨.bl _, fun _ z => z⟩ (Stp.refl fun _ z => z)⟩
    · cases h
  · cases h) h) ⟨_, op_in_seq⟩ hm ha hb
theorem dc_ni (hr : Room k X.A) (hu : X.A.units + 65 < cLine) (ha : DE X W a fa) (hb : DE X W b fb) (hm : behindInMarks .NotIn b = false := by rfl) : DC X W (.Compare a [.NotIn] [b] pos) (xBin cNi fa fb) := dc_cmp (fun x y z h => oB2_ro (fun d e z h => by
  split at h
  · rename_i ds
    split at h
    · rename_i hc
      cases h
      refine ⟨_, op_notInD hu, fun v u H g Q k rv ru q => ?_⟩
      obtain ⟨d1, s1⟩ := rpE_dp k hc.1 rv
      obtain ⟨d2, s2⟩ := rpE_dp k hc.2 ru
      unfold DL.Dt.py at d2 s2
      exact ⟨_, _, d1, d2, s1, s2, by rw [any_py]; exact q _ H g (fun _ => False) k ⟨.bl _, fun _ z => z⟩ (Stp.refl fun _ z => z)⟩
    · cases h
  · rename_i ds
    split at h
    · rename_i hc
      cases h
      refine ⟨_, op_notIn_seq, fun v u H g Q k rv ru q => ?_⟩
      cases ru with
      | tup h1 h2 =>
        obtain ⟨f1, f2⟩ := in_flat rv hc.1 h2 hc.2
        have f0 := flat_rp rv hc.1
        exact ⟨_, _, rfl, .inr (DL.sqt_mono k.s h1), f0, f1, by rw [f2]; exact q _ H g (fun _ => False) k ⟨.bl _, fun _ z => z⟩ (Stp.refl fun _ z => z)⟩
    · cases h
  · cases h) h) ⟨_, op_notIn_seq⟩ hm ha hb
end
end OW
namespace OW
open PySem PySem.Spec PyProof.Rows L2
open DL (Dt Rp RpAll SqX pe_no pt_no pw_no ps_no pss_no)

/-! ### tests -/
def tV (f : Fn Ow) : Fn Bool := bnd f fun o => opt (match o with
  | .f (.bl b) => some b
  | _ => none)
def tAnd (f g : Fn Bool) : Fn Bool := bnd f fun b => if b then g else ret false
def tOr (f g : Fn Bool) : Fn Bool := bnd f fun b => if b then ret true else g
def tNot (f : Fn Bool) : Fn Bool := bnd f fun b => ret (!b)
def xNot (f : Fn Ow) : Fn Ow := bnd f fun o => opt (match o with
  | .f (.bl b) => some (.f (.bl (!b)))
  | _ => none)
def xAnd (f g : Fn Ow) : Fn Ow := bnd f fun o => match o with
  | .f (.bl true) => g
  | .f (.bl false) => ret (.f (.bl false))
  | _ => fun _ => none
def xOr (f g : Fn Ow) : Fn Ow := bnd f fun o => match o with
  | .f (.bl true) => ret (.f (.bl true))
  | .f (.bl false) => g
  | _ => fun _ => none
def xIf (c : Fn Bool) (f g : Fn Ow) : Fn Ow := bnd c fun b => if b then f else g
def xCh (p q : Int → Int → Bool) (f g h : Fn Ow) : Fn Ow := bnd f fun x => bnd g fun y => match x, y with
  | .f (.int i), .f (.int j) => if p i j then bnd h fun z => opt (match z with
    | .f (.int l) => some (.f (.bl (q j l)))
    | _ => none) else ret (.f (.bl false))
  | _, _ => fun _ => none
section
variable {X : Cx} {W : WX} {pos : Pos} {a b c e : Expr} {es : List Expr} {fa fb fc fe : Fn Ow} {ta tb tc : Fn Bool} {k : Nat}
/-- a value that is a scalar takes no room -/
theorem good_drop {g g' : Gs} {H' : Hp} {σ : L2.St} {ρ : Ev} {F F' Fv : Fp} (s : Stp g F g' fun p => F' p ∨ Fv p) : Stp g F g' fun p => F' p ∨ False := s.sub fun p z => z.elim .inl False.elim
theorem dt_v (h : DE X W e fe) (he : ∀ whole, isTrue e X.env whole = (do let v ← whole; standAt e.pos; holding [v] (truthy v)) := by intro _; rfl) : DT X W e (tV fe) := fun ρ r hr => by
  rcases bnd_inv hr with ⟨o, ρ1, h1, h2⟩ | ⟨c, d, ρ1, h1, rfl⟩
  · obtain ⟨t, p, q⟩ := h ρ _ h1
    obtain ⟨b, h3, rfl⟩ := opt_inv h2
    split at h3
    · rename_i w
      cases h3
      refine ⟨_, pt_val p he, fun σ H g F Q G z => q σ H g F _ G fun v H1 g1 F1 Fv G1 rv d1 s1 => ?_⟩
      obtain ⟨rv, ev⟩ := rv
      cases rv
      exact ⟨_, rfl, z _ H1 g1 F1 (fun _ => False) G1 ⟨rfl, fun _ z => z⟩ (fun _ _ z => z) (good_drop (H' := H1) (σ := σ) (ρ := ρ1) s1)⟩
    · cases h3
  · obtain ⟨t, p, q⟩ := h ρ _ h1
    exact ⟨_, pt_val p he, fun σ H g F Q G z => q σ H g F _ G z⟩
theorem DW.t (h : DW X W e ta) : DT X W e ta := fun ρ r hr => let ⟨t, p, q⟩ := h ρ r hr; ⟨t, p.pt, q⟩
theorem dt_not (h : DT X W a ta) : DT X W (.UnaryOp .Not a pos) (tNot ta) := fun ρ r hr => by
  rcases bnd_inv hr with ⟨o, ρ1, h1, h2⟩ | ⟨c, d, ρ1, h1, rfl⟩
  · obtain ⟨t, p, q⟩ := h ρ _ h1
    cases h2
    refine ⟨_, pt_not p, fun σ H g F Q G z => q σ H g F _ G fun v H1 g1 F1 Fv G1 rv d1 s1 => ?_⟩
    obtain ⟨rfl, ev⟩ := rv
    exact z _ H1 g1 F1 Fv G1 ⟨rfl, ev⟩ d1 s1
  · obtain ⟨t, p, q⟩ := h ρ _ h1
    exact ⟨_, pt_not p, fun σ H g F Q G z => q σ H g F _ G z⟩
theorem dw_and1 (h : DT X W a ta) : DW X W (.BoolOp .And [a] pos) ta := fun ρ r hr => let ⟨t, p, q⟩ := h ρ r hr; ⟨t, pw_and1 p, q⟩
theorem dw_or1 (h : DT X W a ta) : DW X W (.BoolOp .Or [a] pos) ta := fun ρ r hr => let ⟨t, p, q⟩ := h ρ r hr; ⟨t, pw_or1 p, q⟩
theorem dw_and (h : DT X W a ta) (h2 : DW X W (.BoolOp .And (b :: es) pos) tb) : DW X W (.BoolOp .And (a :: b :: es) pos) (tAnd ta tb) := fun ρ r hr => by
  rcases bnd_inv hr with ⟨o, ρ1, h1, hk⟩ | ⟨c, d, ρ1, h1, rfl⟩
  · obtain ⟨t, p, q⟩ := h ρ _ h1
    cases o with
    | false =>
      cases hk
      refine ⟨_, pw_and p pw_no, fun σ H g F Q G z => q σ H g F _ G fun v H1 g1 F1 Fv G1 rv d1 s1 => ?_⟩
      obtain ⟨rfl, ev⟩ := rv
      exact iteF (z _ H1 g1 F1 Fv G1 ⟨rfl, ev⟩ d1 s1)
    | true =>
      have hk' : tb ρ1 = some r := hk
      obtain ⟨u, p2, q2⟩ := h2 ρ1 _ hk'
      refine ⟨_, pw_and p p2, fun σ H g F Q G z => q σ H g F _ G fun v H1 g1 F1 Fv G1 rv d1 s1 => ?_⟩
      obtain ⟨rfl, ev⟩ := rv
      refine iteT (q2 σ H1 g1 F1 Q G1 ?_)
      cases r with
      | ok x ρ2 => exact fun b H2 g2 F2 Fb G2 r2 d2 s2 => z b H2 g2 F2 Fb G2 r2 d2 ((Stp.trans s1 s2).sub fun p => .inl)
      | ex c d ρ2 => exact fun cls dx H2 g2 F2 G2 e2 s2 => z cls dx H2 g2 F2 G2 e2 ((Stp.trans s1 s2).sub fun p => .inl)
  · obtain ⟨t, p, q⟩ := h ρ _ h1
    exact ⟨_, pw_and p pw_no, fun σ H g F Q G z => q σ H g F _ G z⟩
theorem dw_or (h : DT X W a ta) (h2 : DW X W (.BoolOp .Or (b :: es) pos) tb) : DW X W (.BoolOp .Or (a :: b :: es) pos) (tOr ta tb) := fun ρ r hr => by
  rcases bnd_inv hr with ⟨o, ρ1, h1, hk⟩ | ⟨c, d, ρ1, h1, rfl⟩
  · obtain ⟨t, p, q⟩ := h ρ _ h1
    cases o with
    | true =>
      cases hk
      refine ⟨_, pw_or p pw_no, fun σ H g F Q G z => q σ H g F _ G fun v H1 g1 F1 Fv G1 rv d1 s1 => ?_⟩
      obtain ⟨rfl, ev⟩ := rv
      exact iteT (z _ H1 g1 F1 Fv G1 ⟨rfl, ev⟩ d1 s1)
    | false =>
      have hk' : tb ρ1 = some r := hk
      obtain ⟨u, p2, q2⟩ := h2 ρ1 _ hk'
      refine ⟨_, pw_or p p2, fun σ H g F Q G z => q σ H g F _ G fun v H1 g1 F1 Fv G1 rv d1 s1 => ?_⟩
      obtain ⟨rfl, ev⟩ := rv
      refine iteF (q2 σ H1 g1 F1 Q G1 ?_)
      cases r with
      | ok x ρ2 => exact fun b H2 g2 F2 Fb G2 r2 d2 s2 => z b H2 g2 F2 Fb G2 r2 d2 ((Stp.trans s1 s2).sub fun p => .inl)
      | ex c d ρ2 => exact fun cls dx H2 g2 F2 G2 e2 s2 => z cls dx H2 g2 F2 G2 e2 ((Stp.trans s1 s2).sub fun p => .inl)
  · obtain ⟨t, p, q⟩ := h ρ _ h1
    exact ⟨_, pw_or p pw_no, fun σ H g F Q G z => q σ H g F _ G z⟩
theorem Pst.next {α β : Type} {rel : Gs → α → β → Fp → Prop} {σ : L2.St} {g g1 : Gs} {F F1 Fv : Fp} {Q : β → Hp → Prop} {r : Rs α} (z : Pst X W rel σ g F Q r) (s1 : Stp g F g1 fun p => F1 p ∨ Fv p) : Pst X W rel σ g1 F1 Q r := by
  cases r with
  | ok x ρ2 => exact fun b H2 g2 F2 Fb G2 r2 d2 s2 => z b H2 g2 F2 Fb G2 r2 d2 ((Stp.trans s1 s2).sub fun p => .inl)
  | ex c d ρ2 => exact fun cls dx H2 g2 F2 G2 e2 s2 => z cls dx H2 g2 F2 G2 e2 ((Stp.trans s1 s2).sub fun p => .inl)
theorem de_not (h : DE X W a fa) : DE X W (.UnaryOp .Not a pos) (xNot fa) := fun ρ r hr => by
  rcases bnd_inv hr with ⟨o, ρ1, h1, h2⟩ | ⟨c, d, ρ1, h1, rfl⟩
  · obtain ⟨t, p, q⟩ := h ρ _ h1
    obtain ⟨b, h3, rfl⟩ := opt_inv h2
    split at h3
    · rename_i w
      cases h3
      refine ⟨_, pe_not p, fun σ H g F Q G z => q σ H g F _ G fun v H1 g1 F1 Fv G1 rv d1 s1 => ?_⟩
      obtain ⟨rv, ev⟩ := rv
      cases rv
      exact ⟨_, rfl, z _ H1 g1 F1 Fv G1 ⟨.bl _, ev⟩ d1 s1⟩
    · cases h3
  · obtain ⟨t, p, q⟩ := h ρ _ h1
    exact ⟨_, pe_not p, fun σ H g F Q G z => q σ H g F _ G z⟩
theorem de_one {o : BoolOp} (h : DE X W a fa) : DE X W (.BoolOp o [a] pos) fa := fun ρ r hr => let ⟨t, p, q⟩ := h ρ r hr; ⟨t, pe_one p, q⟩
theorem de_and (h : DE X W a fa) (h2 : DE X W (.BoolOp .And (b :: es) pos) fb) : DE X W (.BoolOp .And (a :: b :: es) pos) (xAnd fa fb) := fun ρ r hr => by
  rcases bnd_inv hr with ⟨o, ρ1, h1, hk⟩ | ⟨c, d, ρ1, h1, rfl⟩
  · obtain ⟨t, p, q⟩ := h ρ _ h1
    split at hk
    · obtain ⟨u, p2, q2⟩ := h2 ρ1 _ hk
      refine ⟨_, pe_and p p2, fun σ H g F Q G z => q σ H g F _ G fun v H1 g1 F1 Fv G1 rv d1 s1 => ?_⟩
      obtain ⟨rv, ev⟩ := rv
      cases rv
      exact ⟨_, rfl, iteT (q2 σ H1 g1 F1 Q G1 (z.next s1))⟩
    · cases hk
      refine ⟨_, pe_and p pe_no, fun σ H g F Q G z => q σ H g F _ G fun v H1 g1 F1 Fv G1 rv d1 s1 => ?_⟩
      obtain ⟨rv, ev⟩ := rv
      cases rv
      exact ⟨_, rfl, iteF (z _ H1 g1 F1 Fv G1 ⟨.bl _, ev⟩ d1 s1)⟩
    · cases hk
  · obtain ⟨t, p, q⟩ := h ρ _ h1
    exact ⟨_, pe_and p pe_no, fun σ H g F Q G z => q σ H g F _ G z⟩
theorem de_or (h : DE X W a fa) (h2 : DE X W (.BoolOp .Or (b :: es) pos) fb) : DE X W (.BoolOp .Or (a :: b :: es) pos) (xOr fa fb) := fun ρ r hr => by
  rcases bnd_inv hr with ⟨o, ρ1, h1, hk⟩ | ⟨c, d, ρ1, h1, rfl⟩
  · obtain ⟨t, p, q⟩ := h ρ _ h1
    split at hk
    · cases hk
      refine ⟨_, pe_or p pe_no, fun σ H g F Q G z => q σ H g F _ G fun v H1 g1 F1 Fv G1 rv d1 s1 => ?_⟩
      obtain ⟨rv, ev⟩ := rv
      cases rv
      exact ⟨_, rfl, iteT (z _ H1 g1 F1 Fv G1 ⟨.bl _, ev⟩ d1 s1)⟩
    · obtain ⟨u, p2, q2⟩ := h2 ρ1 _ hk
      refine ⟨_, pe_or p p2, fun σ H g F Q G z => q σ H g F _ G fun v H1 g1 F1 Fv G1 rv d1 s1 => ?_⟩
      obtain ⟨rv, ev⟩ := rv
      cases rv
      exact ⟨_, rfl, iteF (q2 σ H1 g1 F1 Q G1 (z.next s1))⟩
    · cases hk
  · obtain ⟨t, p, q⟩ := h ρ _ h1
    exact ⟨_, pe_or p pe_no, fun σ H g F Q G z => q σ H g F _ G z⟩
theorem de_if (h : DT X W c ta) (h1 : DE X W a fa) (h2 : DE X W b fb) : DE X W (.IfExp c a b pos) (xIf ta fa fb) := fun ρ r hr => by
  rcases bnd_inv hr with ⟨o, ρ1, h3, hk⟩ | ⟨c, d, ρ1, h3, rfl⟩
  · obtain ⟨t, p, q⟩ := h ρ _ h3
    cases o with
    | true =>
      obtain ⟨u, p2, q2⟩ := h1 ρ1 _ (show fa ρ1 = some r from hk)
      refine ⟨_, pe_ifExp p p2 pe_no, fun σ H g F Q G z => q σ H g F _ G fun v H1 g1 F1 Fv G1 rv d1 s1 => ?_⟩
      obtain ⟨rfl, ev⟩ := rv
      exact iteT (q2 σ H1 g1 F1 Q G1 (z.next s1))
    | false =>
      obtain ⟨u, p2, q2⟩ := h2 ρ1 _ (show fb ρ1 = some r from hk)
      refine ⟨_, pe_ifExp p pe_no p2, fun σ H g F Q G z => q σ H g F _ G fun v H1 g1 F1 Fv G1 rv d1 s1 => ?_⟩
      obtain ⟨rfl, ev⟩ := rv
      exact iteF (q2 σ H1 g1 F1 Q G1 (z.next s1))
  · obtain ⟨t, p, q⟩ := h ρ _ h3
    exact ⟨_, pe_ifExp p pe_no pe_no, fun σ H g F Q G z => q σ H g F _ G z⟩
theorem dc_ch {o o' : CmpOp} {p q : Int → Int → Bool} (ho : OpR X (compareOp o) (rI0 fun i j => V.bl (p i j))) (ho' : OpR X (compareOp o') (rI0 fun i j => V.bl (q i j)))
    (ha : DE X W a fa) (hb : DE X W b fb) (hc : DE X W c fc) (hm : lastMarks [o, o'] [b, c] = false := by with_unfolding_all rfl) : DC X W (.Compare a [o, o'] [b, c] pos) (xCh p q fa fb fc) := fun ρ r hr => by
  rcases bnd_inv hr with ⟨x, ρ1, h1, hk1⟩ | ⟨c, d, ρ1, h1, rfl⟩
  · obtain ⟨ta, pa, qa⟩ := ha ρ _ h1
    rcases bnd_inv hk1 with ⟨y, ρ2, h2, hk⟩ | ⟨c, d, ρ2, h2, rfl⟩
    · obtain ⟨tb, pb, qb⟩ := hb ρ1 _ h2
      split at hk
      · rename_i i j
        by_cases hp : p i j = true
        · rw [if_pos hp] at hk
          rcases bnd_inv hk with ⟨z, ρ3, h3, hk3⟩ | ⟨c, d, ρ3, h3, rfl⟩
          · obtain ⟨tc, pc, qc⟩ := hc ρ2 _ h3
            obtain ⟨w, h5, rfl⟩ := opt_inv hk3
            split at h5
            · rename_i l
              cases h5
              refine ⟨_, pe_chain ho ho' pa pb pc hm, pt_chain ho ho' pa pb pc hm, fun σ H g F Q G z => qa σ H g F _ G fun v H1 g1 F1 Fa G1 r1 d1 s1 => qb σ H1 g1 F1 _ G1 fun u H2 g2 F2 Fb G2 r2 d2 s2 => ?_⟩
              obtain ⟨r1, e1⟩ := r1
              obtain ⟨r2, e2⟩ := r2
              cases r1
              cases r2
              refine ⟨i, j, rfl, rfl, p i j, rfl, ?_⟩
              rw [if_pos hp]
              refine qc σ H2 g2 F2 _ G2 fun w H3 g3 F3 Fc G3 r3 d3 s3 => ?_
              obtain ⟨r3, e3⟩ := r3
              cases r3
              exact ⟨j, l, rfl, rfl, z _ H3 g3 F3 Fc G3 ⟨.bl _, e3⟩ d3 ((Stp.trans ((Stp.trans s1 s2).sub fun p => .inl) s3).sub fun p => .inl)⟩
            · cases h5
          · obtain ⟨tc, pc, qc⟩ := hc ρ2 _ h3
            refine ⟨_, pe_chain ho ho' pa pb pc hm, pt_chain ho ho' pa pb pc hm, fun σ H g F Q G z => qa σ H g F _ G fun v H1 g1 F1 Fa G1 r1 d1 s1 => qb σ H1 g1 F1 _ G1 fun u H2 g2 F2 Fb G2 r2 d2 s2 => ?_⟩
            obtain ⟨r1, e1⟩ := r1
            obtain ⟨r2, e2⟩ := r2
            cases r1
            cases r2
            refine ⟨i, j, rfl, rfl, p i j, rfl, ?_⟩
            rw [if_pos hp]
            exact qc σ H2 g2 F2 _ G2 ((Pst.next (rel := rV X) (Q := Q) (r := .ex c d ρ3) z s1).next s2)
        · rw [if_neg hp] at hk
          cases hk
          refine ⟨_, pe_chain ho ho' pa pb pe_no hm, pt_chain ho ho' pa pb pe_no hm, fun σ H g F Q G z => qa σ H g F _ G fun v H1 g1 F1 Fa G1 r1 d1 s1 => qb σ H1 g1 F1 _ G1 fun u H2 g2 F2 Fb G2 r2 d2 s2 => ?_⟩
          obtain ⟨r1, e1⟩ := r1
          obtain ⟨r2, e2⟩ := r2
          cases r1
          cases r2
          refine ⟨i, j, rfl, rfl, p i j, rfl, ?_⟩
          rw [if_neg hp]
          exact z _ H2 g2 F2 Fb G2 ⟨.bl _, e2⟩ d2 ((Stp.trans s1 s2).sub fun p => .inl)
      · cases hk
    · obtain ⟨tb, pb, qb⟩ := hb ρ1 _ h2
      exact ⟨_, pe_chain ho ho' pa pb pe_no hm, pt_chain ho ho' pa pb pe_no hm, fun σ H g F Q G z => qa σ H g F _ G fun v H1 g1 F1 Fa G1 r1 d1 s1 => qb σ H1 g1 F1 _ G1 (Pst.next (rel := rV X) (Q := Q) (r := .ex c d ρ2) z s1)⟩
  · obtain ⟨ta, pa, qa⟩ := ha ρ _ h1
    exact ⟨_, pe_chain ho ho' pa pe_no pe_no hm, pt_chain ho ho' pa pe_no pe_no hm, fun σ H g F Q G z => qa σ H g F _ G z⟩
theorem DC.t (h : DC X W e fe) : DT X W e (tV fe) := fun ρ r hr => by
  rcases bnd_inv hr with ⟨o, ρ1, h1, h2⟩ | ⟨c, d, ρ1, h1, rfl⟩
  · obtain ⟨t, p, p', q⟩ := h ρ _ h1
    obtain ⟨b, h3, rfl⟩ := opt_inv h2
    split at h3
    · rename_i w
      cases h3
      refine ⟨_, p', fun σ H g F Q G z => q σ H g F _ G fun v H1 g1 F1 Fv G1 rv d1 s1 => ?_⟩
      obtain ⟨rv, ev⟩ := rv
      cases rv
      exact ⟨_, rfl, z _ H1 g1 F1 (fun _ => False) G1 ⟨rfl, fun _ z => z⟩ (fun _ _ z => z) (good_drop (H' := H1) (σ := σ) (ρ := ρ1) s1)⟩
    · cases h3
  · obtain ⟨t, p, p', q⟩ := h ρ _ h1
    exact ⟨_, p', fun σ H g F Q G z => q σ H g F _ G z⟩
end
end OW
namespace OW
open PySem PySem.Spec PyProof.Rows L2
open DL (Dt Rp RpAll SqX pe_no pt_no pw_no ps_no pss_no FnG FnAt perm perm_vals)

/-! ### statements -/
inductive So where
  | nx (ρ : Ev)
  | rt (o : Ow) (ρ : Ev)
  | bk (ρ : Ev)
  | ct (ρ : Ev)
  | ex (c : Str) (d : Option (Str × Dt)) (ρ : Ev)
abbrev SF := Ev → Option So
def Zok (Z : List (Nat × V)) (σ : L2.St) : Prop := ∀ i v, (i, v) ∈ Z → σ[i]? = some (some v)
def SPst (X : Cx) (W : WX) (Z : List (Nat × V)) (g : Gs) (F : Fp) (D : Ends) : So → Prop
  | .nx ρ' => ∀ σ' H' g' F', Good X g' H' σ' ρ' F' → Zok Z σ' → Stp g F g' F' → D.nx σ' H'
  | .bk ρ' => ∀ σ' H' g' F', Good X g' H' σ' ρ' F' → Zok Z σ' → Stp g F g' F' → D.bk σ' H'
  | .ct ρ' => ∀ σ' H' g' F', Good X g' H' σ' ρ' F' → Zok Z σ' → Stp g F g' F' → D.ct σ' H'
  | .rt o ρ' => ∀ v σ' H' g' F' Fv, Good X g' H' σ' ρ' F' → Zok Z σ' → rV X g' o v Fv → Dj F' Fv → Stp g F g' (fun p => F' p ∨ Fv p) → D.rt v H'
  | .ex c d ρ' => ∀ cls dx σ' H' g' F', Good X g' H' σ' ρ' F' → Zok Z σ' → ExR X g' c d cls dx → Stp g F g' F' → W cls dx σ' H'
def RS (X : Cx) (W : WX) (Z : List (Nat × V)) (t : TS) (ρ : Ev) (r : So) : Prop := ∀ σ H g F D, Good X g H σ ρ F → Zok Z σ → SPst X W Z g F D r → t D σ H
def DS (X : Cx) (W : WX) (Z : List (Nat × V)) (st : Stmt) (f : SF) : Prop := ∀ ρ r, f ρ = some r → ∃ t, PS X st t ∧ RS X W Z t ρ r
def DSs (X : Cx) (W : WX) (Z : List (Nat × V)) (st : List Stmt) (f : SF) : Prop := ∀ ρ r, f ρ = some r → ∃ t, PSs X st t ∧ RS X W Z t ρ r
section
variable {X : Cx} {W : WX} {Z : List (Nat × V)} {g g1 : Gs} {F F1 Fa : Fp} {D D' : Ends} {r : So}
theorem SPst.next (h : SPst X W Z g F D r) (s : Stp g F g1 fun p => F1 p ∨ Fa p) : SPst X W Z g1 F1 D r := by
  cases r with
  | nx ρ => exact fun σ' H' g' F' G z w => h σ' H' g' F' G z ((Stp.trans s w).sub fun p => .inl)
  | bk ρ => exact fun σ' H' g' F' G z w => h σ' H' g' F' G z ((Stp.trans s w).sub fun p => .inl)
  | ct ρ => exact fun σ' H' g' F' G z w => h σ' H' g' F' G z ((Stp.trans s w).sub fun p => .inl)
  | rt o ρ => exact fun v σ' H' g' F' Fv G z r d w => h v σ' H' g' F' Fv G z r d ((Stp.trans s w).sub fun p => .inl)
  | ex c d ρ => exact fun cls dx σ' H' g' F' G z e w => h cls dx σ' H' g' F' G z e ((Stp.trans s w).sub fun p => .inl)
theorem SPst.next0 (h : SPst X W Z g F D r) (s : Stp g F g1 F1) : SPst X W Z g1 F1 D r := h.next (Fa := fun _ => False) (s.sub fun p z => z.elim id False.elim)
def sNil : SF := fun ρ => some (.nx ρ)
def sSeq (f h : SF) : SF := fun ρ => match f ρ with
  | some (.nx ρ1) => h ρ1
  | r => r
def sPass : SF := sNil
def sBrk : SF := fun ρ => some (.bk ρ)
def sCnt : SF := fun ρ => some (.ct ρ)
/-- an expression's value and its ways out -/
def sVal {α : Type} (f : Fn α) (k : α → SF) : SF := fun ρ => match f ρ with
  | none => none
  | some (.ok a ρ1) => k a ρ1
  | some (.ex c d ρ1) => some (.ex c d ρ1)
theorem sVal_inv {α : Type} {f : Fn α} {k : α → SF} {ρ : Ev} {r : So} (h : sVal f k ρ = some r) : (∃ a ρ1, f ρ = some (.ok a ρ1) ∧ k a ρ1 = some r) ∨ ∃ c d ρ1, f ρ = some (.ex c d ρ1) ∧ r = .ex c d ρ1 := by
  unfold sVal at h
  split at h
  · cases h
  · rename_i a ρ1 e
    exact .inl ⟨a, ρ1, e, h⟩
  · rename_i c d ρ1 e
    cases h
    exact .inr ⟨c, d, ρ1, e, rfl⟩
def sRet (f : Fn Ow) : SF := sVal f fun o ρ => some (.rt o ρ)
def sRetN : SF := fun ρ => some (.rt (.f .non) ρ)
def sExpr (f : Fn Ow) : SF := sVal f fun _ ρ => some (.nx ρ)
def sIf (t : Fn Bool) (f h : SF) : SF := sVal t fun b => if b then f else h
def setO (i : Nat) (o : Ow) (ρ : Ev) : Option Ev := if i < ρ.length then some (ρ.set i o) else none
def sSet (i : Nat) (f : Fn Ow) : SF := sVal f fun o ρ => (setO i o ρ).map .nx
end
section
variable {X : Cx} {W : WX} {Z : List (Nat × V)} {e c : Expr} {fe : Fn Ow} {tc : Fn Bool} {st : Stmt} {rest : List Stmt} {f h : SF} {pos : Pos} {body orelse : List Stmt}
theorem dss_nil : DSs X W Z [] sNil := fun ρ r e => by
  cases e
  exact ⟨_, pss_nil, fun σ H g F D G z q => q σ H g F G z (Stp.refl fun _ z => z)⟩
theorem dss_cons (h1 : DS X W Z st f) (h2 : DSs X W Z rest h) : DSs X W Z (st :: rest) (sSeq f h) := fun ρ r e => by
  unfold sSeq at e
  split at e
  · rename_i ρ1 e1
    obtain ⟨t, p, q⟩ := h1 ρ _ e1
    obtain ⟨u, p2, q2⟩ := h2 ρ1 _ e
    exact ⟨_, pss_cons p p2, fun σ H g F D G z k => q σ H g F { D with nx := u D } G z fun σ1 H1 g1 F1 G1 z1 s1 => q2 σ1 H1 g1 F1 D G1 z1 (k.next0 s1)⟩
  · rename_i n1
    obtain ⟨t, p, q⟩ := h1 ρ r e
    refine ⟨_, pss_cons p (pss_no (st := rest)), fun σ H g F D G z k => q σ H g F _ G z ?_⟩
    cases r with
    | nx ρ2 => exact (n1 _ e).elim
    | bk ρ2 => exact k
    | ct ρ2 => exact k
    | rt o ρ2 => exact k
    | ex c d ρ2 => exact k
theorem ds_pass : DS X W Z (.Pass pos) sPass := fun ρ r e => by
  cases e
  exact ⟨_, ps_pass, fun σ H g F D G z q => q σ H g F G z (Stp.refl fun _ z => z)⟩
theorem ds_brk : DS X W Z (.Break pos) sBrk := fun ρ r e => by
  cases e
  exact ⟨_, ps_break, fun σ H g F D G z q => q σ H g F G z (Stp.refl fun _ z => z)⟩
theorem ds_cnt : DS X W Z (.Continue pos) sCnt := fun ρ r e => by
  cases e
  exact ⟨_, ps_continue, fun σ H g F D G z q => q σ H g F G z (Stp.refl fun _ z => z)⟩
theorem ds_retN : DS X W Z (.Return none pos) sRetN := fun ρ r e => by
  cases e
  exact ⟨_, ps_retN, fun σ H g F D G z q => q V.non σ H g F (fun _ => False) G z ⟨.non, fun _ z => z⟩ (fun _ _ z => z) (Stp.refl fun p z => z.elim id False.elim)⟩
theorem ds_ret (he : DE X W e fe) : DS X W Z (.Return (some e) pos) (sRet fe) := fun ρ r h => by
  rcases sVal_inv h with ⟨o, ρ1, h1, hk⟩ | ⟨c, d, ρ1, h1, rfl⟩
  · cases hk
    obtain ⟨t, p, q⟩ := he ρ _ h1
    exact ⟨_, ps_ret p, fun σ H g F D G z k => q σ H g F _ G fun v H1 g1 F1 Fv G1 r1 d1 s1 => k v σ H1 g1 F1 Fv G1 z r1 d1 s1⟩
  · obtain ⟨t, p, q⟩ := he ρ _ h1
    exact ⟨_, ps_ret p, fun σ H g F D G z k => q σ H g F _ G fun cls dx H1 g1 F1 G1 e1 s1 => k cls dx σ H1 g1 F1 G1 z e1 s1⟩
theorem ds_expr (he : DE X W e fe) (hs : swapsWith e none pos.line X.env = pure false := by rfl) : DS X W Z (.Expr e pos) (sExpr fe) := fun ρ r h => by
  rcases sVal_inv h with ⟨o, ρ1, h1, hk⟩ | ⟨c, d, ρ1, h1, rfl⟩
  · cases hk
    obtain ⟨t, p, q⟩ := he ρ _ h1
    exact ⟨_, ps_expr p hs, fun σ H g F D G z k => q σ H g F _ G fun v H1 g1 F1 Fv G1 r1 d1 s1 => k σ H1 g1 F1 G1 z (s1.sub fun p => .inl)⟩
  · obtain ⟨t, p, q⟩ := he ρ _ h1
    exact ⟨_, ps_expr p hs, fun σ H g F D G z k => q σ H g F _ G fun cls dx H1 g1 F1 G1 e1 s1 => k cls dx σ H1 g1 F1 G1 z e1 s1⟩
theorem ds_if (hc : DT X W c tc) (h1 : DSs X W Z body f) (h2 : DSs X W Z orelse h) : DS X W Z (.If c body orelse pos) (sIf tc f h) := fun ρ r hr => by
  rcases sVal_inv hr with ⟨b, ρ1, h3, hk⟩ | ⟨c, d, ρ1, h3, rfl⟩
  · obtain ⟨t, p, q⟩ := hc ρ _ h3
    cases b with
    | true =>
      obtain ⟨u, p1, q1⟩ := h1 ρ1 _ (show f ρ1 = some r from hk)
      refine ⟨_, ps_if p p1 (pss_no (st := orelse)), fun σ H g F D G z k => q σ H g F _ G fun v H1 g1 F1 Fv G1 r1 d1 s1 => ?_⟩
      obtain ⟨rfl, _⟩ := r1
      exact iteT (q1 σ H1 g1 F1 D G1 z (k.next s1))
    | false =>
      obtain ⟨u, p1, q1⟩ := h2 ρ1 _ (show h ρ1 = some r from hk)
      refine ⟨_, ps_if p (pss_no (st := body)) p1, fun σ H g F D G z k => q σ H g F _ G fun v H1 g1 F1 Fv G1 r1 d1 s1 => ?_⟩
      obtain ⟨rfl, _⟩ := r1
      exact iteF (q1 σ H1 g1 F1 D G1 z (k.next s1))
  · obtain ⟨t, p, q⟩ := hc ρ _ h3
    exact ⟨_, ps_if p (pss_no (st := body)) (pss_no (st := orelse)), fun σ H g F D G z k => q σ H g F _ G fun cls dx H1 g1 F1 G1 e1 s1 => k cls dx σ H1 g1 F1 G1 z e1 s1⟩
/-- a slot is given a value -/
theorem Good.set {g : Gs} {H : Hp} {σ : L2.St} {ρ ρ' : Ev} {F Fv : Fp} {o : Ow} {v : V} {i : Nat} (G : Good X g H σ ρ F) (hs : setO i o ρ = some ρ') (h : OwR X.mg X.K g o v Fv) (d : Dj F Fv) : ∃ F', Good X g H (σ.set i (some v)) ρ' F' ∧ ∀ p, F' p → F p ∨ Fv p := by
  unfold setO at hs
  split at hs
  · rename_i hi
    cases hs
    obtain ⟨v0, F1, F2, e1, e2, e3, e4, e5⟩ := G.sr.at (List.getElem?_eq_getElem hi)
    exact ⟨_, ⟨G.ok, e5 g o (some v) Fv Kp.refl (.inr ⟨v, rfl, h⟩) fun p z y => d p ((e4 p).mpr (.inr y)) z⟩, fun p z => z.elim .inr fun y => .inl ((e4 p).mpr (.inr y))⟩
  · cases hs
theorem Zok.set {σ : L2.St} {i : Nat} {v : Option V} (z : Zok Z σ) (h : i ∉ Z.map (·.1)) : Zok Z (σ.set i v) := fun j w hj => by
  have n : i ≠ j := fun e => h (by rw [e]; exact List.mem_map.mpr ⟨(j, w), hj, rfl⟩)
  rw [List.getElem?_set_ne n]
  exact z j w hj
theorem ds_set (i : Nat) {y : Str} {py : Pos} (he : DE X W e fe) (nd : X.N.Nodup) (hz : i ∉ Z.map (·.1) := by decide) (hy : X.N[i]? = some y := by rfl) (hv : Loc X.env.scope y := by first | exact Or.inl rfl | exact Or.inr rfl)
    (hsw : swapsWith e (some (.Name y py)) pos.line X.env = pure false := by rfl) (hf : X.fn y = true ∨ X.env.scope.names.lookup y = some .local := by first | exact .inl rfl | exact .inr rfl) : DS X W Z (.Assign [.Name y py] e pos) (sSet i fe) := fun ρ r h => by
  rcases sVal_inv h with ⟨o, ρ1, h1, hk⟩ | ⟨c, d, ρ1, h1, rfl⟩
  · obtain ⟨ρ2, h2, rfl⟩ := Option.map_eq_some_iff.mp hk
    obtain ⟨t, p, q⟩ := he ρ _ h1
    refine ⟨_, ps_set (i := i) nd hy hv p hsw hf, fun σ H g F D G z k => q σ H g F _ G fun v H1 g1 F1 Fv G1 r1 d1 s1 => ?_⟩
    obtain ⟨F2, G2, hF⟩ := G1.set h2 r1 d1
    exact k _ H1 g1 F2 G2 (z.set hz) (s1.sub hF)
  · obtain ⟨t, p, q⟩ := he ρ _ h1
    exact ⟨_, ps_set (i := i) nd hy hv p hsw hf, fun σ H g F D G z k => q σ H g F _ G fun cls dx H1 g1 F1 G1 e1 s1 => k cls dx σ H1 g1 F1 G1 z e1 s1⟩
end
end OW
namespace OW
open PySem PySem.Spec PyProof.Rows L2
open DL (Dt Rp RpAll SqX pe_no pt_no pw_no ps_no pss_no FnG FnAt perm perm_vals)

/-! ### targets -/
abbrev GF := Dt → Ev → Option Ev
def gN (i : Nat) : GF := fun d ρ => setO i (.f d) ρ
def gs0 : List Dt → Ev → Option Ev
  | [], ρ => some ρ
  | _, _ => none
def gs1 (f : GF) (h : List Dt → Ev → Option Ev) : List Dt → Ev → Option Ev
  | d :: ds, ρ => (f d ρ).bind (h ds)
  | [], _ => none
def gT (h : List Dt → Ev → Option Ev) : GF
  | .tup ds, ρ => h ds ρ
  | _, _ => none
/-- only the slots of vs are given -/
def Out (vs : List Nat) (σ σ' : L2.St) : Prop := σ'.length = σ.length ∧ ∀ j, j ∉ vs → σ'[j]? = σ[j]?
def DG (X : Cx) (Z : List (Nat × V)) (vs : List Nat) (tg : Expr) (f : GF) : Prop := ∀ d ρ ρ', f d ρ = some ρ' → ∃ t, PG X tg t ∧ ∀ v σ H g F (Q : L2.St → Hp → Prop), Good X g H σ ρ F → Zok Z σ → Rp X.K g.S v d →
  (∀ σ' F', Good X g H σ' ρ' F' → Zok Z σ' → (∀ p, F' p → F p) → Out vs σ σ' → Q σ' H) → t v σ H Q
def DGs (X : Cx) (Z : List (Nat × V)) (vs : List Nat) (tgs : List Expr) (f : List Dt → Ev → Option Ev) : Prop := ∀ ds ρ ρ', f ds ρ = some ρ' → ∃ t, PGs X tgs t ∧ ∀ us σ H g F (Q : L2.St → Hp → Prop), Good X g H σ ρ F → Zok Z σ → RpAll X.K g.S us ds →
  (∀ σ' F', Good X g H σ' ρ' F' → Zok Z σ' → (∀ p, F' p → F p) → Out vs σ σ' → Q σ' H) → t us σ H Q
theorem Out.refl {vs : List Nat} {σ : L2.St} : Out vs σ σ := ⟨rfl, fun _ _ => rfl⟩
theorem Out.trans {vs : List Nat} {σ σ1 σ2 : L2.St} (a : Out vs σ σ1) (b : Out vs σ1 σ2) : Out vs σ σ2 := ⟨b.1.trans a.1, fun j h => (b.2 j h).trans (a.2 j h)⟩
theorem Out.set {vs : List Nat} {σ : L2.St} {i : Nat} {v : Option V} (h : i ∈ vs) : Out vs σ (σ.set i v) := ⟨List.length_set, fun j n => List.getElem?_set_ne (by intro e; subst e; exact n h)⟩
section
variable {X : Cx} {W : WX} {Z : List (Nat × V)} {e c a b : Expr} {fe fa fb fc : Fn Ow} {tc : Fn Bool} {st : Stmt} {rest : List Stmt} {f h : SF} {pos : Pos} {body orelse : List Stmt} {vs : List Nat} {gf : GF} {tg : Expr}
theorem dg_n (i : Nat) {y : Str} {py : Pos} (nd : X.N.Nodup) (hv0 : i ∈ vs := by decide) (hz : i ∉ Z.map (·.1) := by decide) (hy : X.N[i]? = some y := by rfl) (hv : Loc X.env.scope y := by first | exact Or.inl rfl | exact Or.inr rfl)
    (hf : X.fn y = true ∨ X.env.scope.names.lookup y = some .local := by first | exact .inl rfl | exact .inr rfl) : DG X Z vs (.Name y py) (gN i) := fun d ρ ρ' e => by
  refine ⟨_, pg_name (i := i) nd hy hv hf, fun v σ H g F Q G z r q => ?_⟩
  obtain ⟨F2, G2, hF⟩ := G.set e (show OwR X.mg X.K g (.f d) v fun _ => False from ⟨r, fun _ z => z⟩) fun _ _ z => z
  exact q _ F2 G2 (z.set hz) (fun p w => (hF p w).elim id False.elim) (Out.set hv0)
theorem dgs_0 : DGs X Z vs [] gs0 := fun ds ρ ρ' e => by
  cases ds with
  | nil =>
    cases e
    exact ⟨_, pgs_nil, fun us σ H g F Q G z r q => by
      cases r
      exact ⟨rfl, q σ F G z (fun _ w => w) Out.refl⟩⟩
  | cons _ _ => cases e
theorem dgs_1 {es : List Expr} {hf : List Dt → Ev → Option Ev} (h1 : DG X Z vs e gf) (h2 : DGs X Z vs es hf) (hs : (assignEach (e :: es) X.env).map (·.2) = assign e X.env :: (assignEach es X.env).map (·.2) := by rfl) : DGs X Z vs (e :: es) (gs1 gf hf) := fun ds ρ ρ' e => by
  cases ds with
  | nil => cases e
  | cons d ds =>
    obtain ⟨ρ1, e1, e2⟩ := Option.bind_eq_some_iff.mp e
    obtain ⟨t, p, q⟩ := h1 d ρ ρ1 e1
    obtain ⟨u, p2, q2⟩ := h2 ds ρ1 ρ' e2
    refine ⟨_, pgs_cons p p2 hs, fun us σ H g F Q G z r k => ?_⟩
    cases r with
    | cons r1 r2 =>
      exact ⟨_, _, rfl, q _ σ H g F _ G z r1 fun σ1 F1 G1 z1 w1 o1 => q2 _ σ1 H g F1 _ G1 z1 r2 fun σ2 F2 G2 z2 w2 o2 => k σ2 F2 G2 z2 (fun p y => w1 p (w2 p y)) (o1.trans o2)⟩
theorem dgs_len {es : List Expr} {hf : List Dt → Ev → Option Ev} {ds : List Dt} {ρ ρ' : Ev} (h : hf ds ρ = some ρ') (hl : ∀ ds ρ ρ', hf ds ρ = some ρ' → ds.length = es.length) : ds.length = es.length := hl ds ρ ρ' h
theorem gs0_len {ds : List Dt} {ρ ρ' : Ev} (h : gs0 ds ρ = some ρ') : ds.length = 0 := by
  cases ds with
  | nil => rfl
  | cons _ _ => cases h
theorem gs1_len {f : GF} {hf : List Dt → Ev → Option Ev} {n : Nat} (hl : ∀ ds ρ ρ', hf ds ρ = some ρ' → ds.length = n) {ds : List Dt} {ρ ρ' : Ev} (h : gs1 f hf ds ρ = some ρ') : ds.length = n + 1 := by
  cases ds with
  | nil => cases h
  | cons d ds =>
    obtain ⟨ρ1, e1, e2⟩ := Option.bind_eq_some_iff.mp h
    rw [List.length_cons, hl _ _ _ e2]
theorem dg_t {es : List Expr} {k n : Nat} {hf : List Dt → Ev → Option Ev} (hc : X.calm = true) (h : DGs X Z vs es hf) (hl : ∀ ds ρ ρ', hf ds ρ = some ρ' → ds.length = n) (hn : (assignEach es X.env).length = n := by rfl) (hst : (assignEach es X.env).findIdx? (·.1) = none := by rfl) : DG X Z vs (.Tuple es k pos) (gT hf) := fun d ρ ρ' e => by
  unfold gT at e
  split at e
  · rename_i ds
    obtain ⟨t, p, q⟩ := h ds ρ ρ' e
    refine ⟨_, pg_tup hc p hn hst, fun v σ H g F Q G z r k => ?_⟩
    cases r with
    | tup h1 h2 => exact ⟨_, _, rfl, DL.sqt_mono G.ok.s h1, by rw [h2.len]; exact hl _ _ _ e, q _ σ H g F Q G z h2 k⟩
  · cases e
def sTgt (gf : GF) (f : Fn Ow) : SF := sVal f fun o ρ => match frz o with
  | some d => (gf d ρ).map .nx
  | none => none
theorem ds_tgt (he : DE X W e fe) (hg : DG X Z vs tg gf) (hs : swapsWithSole [tg] e pos.line X.env = pure false := by rfl) (hw : swappedStores [tg] e X.env = pure none := by rfl)
    (h1 : (assignEach [tg] X.env).map (·.2) = [assign tg X.env] := by rfl) : DS X W Z (.Assign [tg] e pos) (sTgt gf fe) := fun ρ r hr => by
  rcases sVal_inv hr with ⟨o, ρ1, h3, hk⟩ | ⟨c, d, ρ1, h3, rfl⟩
  · obtain ⟨t, p, q⟩ := he ρ _ h3
    split at hk
    · rename_i d ed
      obtain ⟨ρ2, h2, rfl⟩ := Option.map_eq_some_iff.mp hk
      obtain ⟨u, pu, qu⟩ := hg d ρ1 ρ2 h2
      refine ⟨_, ps_asg p pu hs hw h1, fun σ H g F D G z k => q σ H g F _ G fun v H1 g1 F1 Fv G1 r1 d1 s1 => ?_⟩
      have r2 := frzG_rp G1.ok ed r1
      have st := frzG_stp G1.ok (F := Fv) (F' := Fv) fun _ z => z
      obtain ⟨G2, d2, s2⟩ := G1.op s1 d1 (frzG_ok G1.ok) (st.sub (F' := fun _ => False) fun p z => z.elim)
      exact qu v σ H1 _ F1 _ G2 z r2 fun σ' F' G3 z3 w3 o3 => k σ' H1 _ F' G3 z3 (s2.sub fun p y => .inl (w3 p y))
    · cases hk
  · obtain ⟨t, p, q⟩ := he ρ _ h3
    exact ⟨_, ps_asg (g := fun _ _ _ _ => False) p ⟨fun _ _ _ _ _ _ _ _ _ h => h.elim⟩ hs hw h1, fun σ H g F D G z k => q σ H g F _ G fun cls dx H1 g1 F1 G1 e1 s1 => k cls dx σ H1 g1 F1 G1 z e1 s1⟩
/-- x, y = a, b: no tuple is made -/
def sPar (i j : Nat) (fa fb : Fn Ow) : SF := sVal (bnd fa fun x => bnd fb fun y => ret (x, y)) fun (xy : Ow × Ow) ρ => ((setO i xy.1 ρ).bind (setO j xy.2)).map .nx
theorem ds_par (i j : Nat) {x y : Str} {px py pt : Pos} {kt k2 pt2} (hc : X.calm = true) (nd : X.N.Nodup) (ha : DE X W a fa) (hb : DE X W b fb) (hzi : i ∉ Z.map (·.1) := by decide) (hzj : j ∉ Z.map (·.1) := by decide) (hi : X.N[i]? = some x := by rfl) (hj : X.N[j]? = some y := by rfl) (hij : i ≠ j := by decide)
    (hx : X.env.scope.names.lookup x = some .local := by rfl) (hy : X.env.scope.names.lookup y = some .local := by rfl)
    (hw : swappedStores [.Tuple [.Name x px, .Name y py] kt pt] (.Tuple [a, b] k2 pt2) X.env = pure (some [x, y]) := by rfl)
    (hs : swapsWithSole [.Tuple [.Name x px, .Name y py] kt pt] (.Tuple [a, b] k2 pt2) pos.line X.env = pure false := by rfl)
    (h1 : starEach [a, b] X.env = (false, eval a X.env) :: starEach [b] X.env := by rfl) (h2 : starEach [b] X.env = (false, eval b X.env) :: starEach [] X.env := by rfl) : DS X W Z (.Assign [.Tuple [.Name x px, .Name y py] kt pt] (.Tuple [a, b] k2 pt2) pos) (sPar i j fa fb) := fun ρ r hr => by
  rcases sVal_inv hr with ⟨o, ρ2, h3, hk⟩ | ⟨c, d, ρ1, h3, rfl⟩
  · rcases bnd_inv h3 with ⟨xo, ρ1, h4, h5⟩ | ⟨_, _, _, _, q⟩
    rotate_left
    · cases q
    rcases bnd_inv h5 with ⟨yo, ρ1', h6, h7⟩ | ⟨_, _, _, _, q⟩
    rotate_left
    · cases q
    cases h7
    obtain ⟨ρ3, h8, rfl⟩ := Option.map_eq_some_iff.mp hk
    obtain ⟨ρ4, h9, h10⟩ := Option.bind_eq_some_iff.mp h8
    obtain ⟨ta, pa, qa⟩ := ha ρ _ h4
    obtain ⟨tb, pb, qb⟩ := hb ρ1 _ h6
    refine ⟨_, ps_par hc nd hi hj hij hx hy (pa_cons pa (pa_cons pb pa_nil h2) h1) hw hs, fun σ H g F D G z k => ?_⟩
    refine RX.seq (Q := fun v u H2 => ∃ v' w', [v, u] = [v', w'] ∧ D.nx ((σ.set i (some v')).set j (some w')) H2) frm_V frm_V qa qb G fun v u H2 g2 F2 Fa Fb G2 r1 r2 d1 d2 s => ⟨v, u, rfl, ?_⟩
    obtain ⟨F3, G3, w3⟩ := G2.set h9 r1 fun p z y => d2 p z (.inl y)
    obtain ⟨F4, G4, w4⟩ := G3.set h10 r2 fun p z y => (w3 p z).elim (fun z => d2 p z (.inr y)) fun z => d1 p z y
    exact k _ H2 g2 F4 G4 ((z.set hzi).set hzj) (s.sub fun p z => (w4 p z).elim (fun z => (w3 p z).elim .inl fun z => .inr (.inl z)) fun z => .inr (.inr z))
  · rcases bnd_inv h3 with ⟨xo, ρ1', h4, h5⟩ | ⟨c', d', ρ', h4, q⟩
    · rcases bnd_inv h5 with ⟨yo, ρ1'', h6, h7⟩ | ⟨c', d', ρ', h6, q⟩
      · cases h7
      · cases q
        obtain ⟨ta, pa, qa⟩ := ha ρ _ h4
        obtain ⟨tb, pb, qb⟩ := hb _ _ h6
        exact ⟨_, ps_par hc nd hi hj hij hx hy (pa_cons pa (pa_cons pb pa_nil h2) h1) hw hs, fun σ H g F D G z k => RX.seq (Q := fun v u H2 => ∃ v' w', [v, u] = [v', w'] ∧ D.nx ((σ.set i (some v')).set j (some w')) H2) frm_V frm_V qa qb G fun cls dx H1 g1 F1 G1 e1 s1 => k cls dx σ H1 g1 F1 G1 z e1 s1⟩
    · cases q
      obtain ⟨ta, pa, qa⟩ := ha ρ _ h4
      exact ⟨_, ps_par hc nd hi hj hij hx hy (pa_cons pa (pa_cons (pe_no (e := b)) pa_nil h2) h1) hw hs, fun σ H g F D G z k => qa σ H g F _ G fun cls dx H1 g1 F1 G1 e1 s1 => k cls dx σ H1 g1 F1 G1 z e1 s1⟩
/-- x += e, ints -/
def sAug (i : Nat) (B : Int → Int → Int) (f : Fn Ow) : SF := fun ρ => match ρ[i]? with
  | some (.f (.int m)) => sVal f (fun o ρ => match o with
    | .f (.int n) => (setO i (.f (.int (B m n))) ρ).map .nx
    | _ => none) ρ
  | _ => none
theorem ds_aug (i : Nat) {y : Str} {py : Pos} {op : Operator} {B : Int → Int → Int} (ho : PIp X op (ipI B)) (nd : X.N.Nodup) (he : DE X W e fe) (hz : i ∉ Z.map (·.1) := by decide) (hy : X.N[i]? = some y := by rfl) (hv : Loc X.env.scope y := by first | exact Or.inl rfl | exact Or.inr rfl)
    (hf : X.fn y = true ∨ X.env.scope.names.lookup y = some .local := by first | exact .inl rfl | exact .inr rfl) : DS X W Z (.AugAssign (.Name y py) op e pos) (sAug i B fe) := fun ρ r hr => by
  unfold sAug at hr
  split at hr
  · rename_i m em
    rcases sVal_inv hr with ⟨o, ρ1, h1, hk⟩ | ⟨c, d, ρ1, h1, rfl⟩
    · split at hk
      · rename_i n
        obtain ⟨ρ2, h2, rfl⟩ := Option.map_eq_some_iff.mp hk
        obtain ⟨t, p, q⟩ := he ρ _ h1
        refine ⟨_, ps_aug (i := i) nd hy hv p ho hf, fun σ H g F D G z k => ?_⟩
        obtain ⟨v, F1, F2, e1, e2, e3, e4, e5⟩ := G.sr.at em
        obtain ⟨u, rfl, hu⟩ := e2.get (by simp)
        obtain ⟨hu, _⟩ := hu
        cases hu
        refine ⟨_, e1, q σ H g F _ G fun v H1 g1 F1 Fv G1 r1 d1 s1 => ?_⟩
        obtain ⟨r1, ev⟩ := r1
        cases r1
        refine ⟨m, n, rfl, rfl, ?_⟩
        obtain ⟨F3, G3, w3⟩ := G1.set h2 (show OwR X.mg X.K g1 (.f (.int (B m n))) (V.int (B m n)) fun _ => False from ⟨.int _, fun _ z => z⟩) fun _ _ z => z
        exact k _ H1 g1 F3 G3 (z.set hz) (s1.sub fun p y => .inl ((w3 p y).elim id False.elim))
      · cases hk
    · obtain ⟨t, p, q⟩ := he ρ _ h1
      refine ⟨_, ps_aug (i := i) nd hy hv p ho hf, fun σ H g F D G z k => ?_⟩
      obtain ⟨v, F1, F2, e1, e2, e3, e4, e5⟩ := G.sr.at em
      obtain ⟨u, rfl, hu⟩ := e2.get (by simp)
      exact ⟨u, e1, q σ H g F _ G fun cls dx H1 g1 F1 G1 e1 s1 => k cls dx σ H1 g1 F1 G1 z e1 s1⟩
  · cases hr
end

/-! ### defs and their calls -/
inductive Fr where
  | rt (o : Ow) (ps : List Ow)
  | ex (c : Str) (d : Option (Str × Dt)) (ps : List Ow)
abbrev FO := List Ow → Option Fr
def ExK (K : PySem.W.Frag) (mg : Str → Option Value) (g : Gs) (c : Str) (d : Option (Str × Dt)) (cls : Value) (dx : Option Addr) : Prop := ∃ C, mg c = some (.ref C) ∧ cls = .ref C ∧ match d with
  | none => dx = none
  | some (f, y) => ∃ a v, dx = some a ∧ g.S a = some (.xd [(f, v)]) ∧ Rp K g.S v y
def FPst (mg : Str → Option Value) (K : PySem.W.Frag) (vs : List V) (g : Gs) (F : Fp) (Q : VK) (E : XK) : Fr → Prop
  | .rt o ps => ∀ v H' g' Fp Fv, GsOk g' H' → OwRs mg K g' ps vs Fp → OwR mg K g' o v Fv → Dj Fp Fv → Stp g F g' (fun p => Fp p ∨ Fv p) → Q v H'
  | .ex c d ps => ∀ cls dx H' g' Fp, GsOk g' H' → OwRs mg K g' ps vs Fp → ExK K mg g' c d cls dx → Stp g F g' Fp → E cls dx H'
def spO (mg : Str → Option Value) (K : PySem.W.Frag) (n : Nat) (fn : FO) : Sp := fun vs H Q E => ∃ g os F r, os.length = n ∧ OwRs mg K g os vs F ∧ GsOk g H ∧ fn os = some r ∧ FPst mg K vs g F Q E r
theorem spO_len {mg : Str → Option Value} {K : PySem.W.Frag} {n : Nat} {fn : FO} (vs : List V) (H : Hp) (Q : VK) (E : XK) (h : spO mg K n fn vs H Q E) : vs.length = n := by
  obtain ⟨g, os, F, r, h1, h2, _⟩ := h
  rw [h2.len, h1]
/-- what stands in the parameters' slots at the end: of those that are handed back -/
def outs : List Bool → Ev → List Ow
  | [], _ => []
  | b :: bs, o :: ρ => (if b then o else .no) :: outs bs ρ
  | _ :: bs, [] => .no :: outs bs []
def fnOf (nv : Nat) (io : List Bool) (body : SF) : FO := fun os => match body (os ++ List.replicate (nv - os.length) .no) with
  | some (.nx ρ) => some (.rt (.f .non) (outs io ρ))
  | some (.rt o ρ) => some (.rt o (outs io ρ))
  | some (.ex c d ρ) => some (.ex c d (outs io ρ))
  | _ => none
section
variable {mg : Str → Option Value} {K : PySem.W.Frag} {g : Gs}
theorem outs_rs : ∀ {io : List Bool} {ρ : Ev} {σ : L2.St} {F : Fp} {vs : List V}, Srs mg K g ρ σ F → vs.length = io.length → (∀ i : Nat, io[i]? = some true → ∃ v, vs[i]? = some v ∧ σ[i]? = some (some v)) →
    ∃ F', OwRs mg K g (outs io ρ) vs F' ∧ ∀ p, F' p → F p
  | [], ρ, σ, F, vs, h, hl, hp => ⟨fun _ => False, ⟨List.length_eq_zero_iff.mp hl, fun _ z => z⟩, fun _ z => z.elim⟩
  | b :: bs, [], σ, F, v :: vs, h, hl, hp => by
    obtain ⟨F', h1, h2⟩ := outs_rs (io := bs) (ρ := []) (σ := []) (F := F) (vs := vs) ⟨rfl, h.2⟩ (by simpa using hl) fun i hi => by
      obtain ⟨w, w1, w2⟩ := hp (i + 1) (by simpa using hi)
      rw [h.1] at w2
      simp at w2
    exact ⟨F', ⟨v, vs, fun _ => False, F', rfl, fun _ z => z, h1, fun _ z => z.elim, fun p => ⟨.inr, fun z => z.elim False.elim id⟩⟩, h2⟩
  | b :: bs, o :: ρ, _, F, v :: vs, ⟨s, r, F1, F2, e1, h1, h2, hd, e⟩, hl, hp => by
    subst e1
    obtain ⟨F', a1, a2⟩ := outs_rs (io := bs) h2 (by simpa using hl) fun i hi => by
      obtain ⟨w, w1, w2⟩ := hp (i + 1) (by simpa using hi)
      exact ⟨w, by simpa using w1, by simpa using w2⟩
    cases b with
    | false => exact ⟨F', ⟨v, vs, fun _ => False, F', rfl, fun _ z => z, a1, fun _ z => z.elim, fun p => ⟨.inr, fun z => z.elim False.elim id⟩⟩, fun p z => (e p).mpr (.inr (a2 p z))⟩
    | true =>
      obtain ⟨w, w1, w2⟩ := hp 0 rfl
      have w1' : v = w := by simpa using w1
      have w2' : s = some w := by simpa using w2
      subst w1'
      subst w2'
      have ho : OwR mg K g o v F1 := by
        rcases h1 with ⟨rfl, h⟩ | ⟨u, hu, h⟩
        · exact h
        · cases hu; exact h
      exact ⟨fun p => F1 p ∨ F' p, ⟨v, vs, F1, F', rfl, ho, a1, fun p z y => hd p z (a2 p y), fun p => Iff.rfl⟩, fun p z => (e p).mpr (z.elim .inl fun z => .inr (a2 p z))⟩
  | b :: bs, ρ, σ, F, [], h, hl, hp => by simp at hl
end
section
variable {P : Program} {w : World} {K : PySem.W.Frag} {mg : Str → Option Value} {base : Heap}
/-- the slots that are handed back keep their values -/
def pinsOf : Nat → List Bool → List V → List (Nat × V)
  | i, true :: bs, v :: vs => (i, v) :: pinsOf (i + 1) bs vs
  | i, false :: bs, _ :: vs => pinsOf (i + 1) bs vs
  | _, _, _ => []
theorem pinsOf_get : ∀ {io : List Bool} {vs : List V} {k i : Nat} {v : V}, io[i]? = some true → vs[i]? = some v → (k + i, v) ∈ pinsOf k io vs
  | [], _, _, _, _, h, _ => by simp at h
  | b :: bs, [], _, _, _, _, h => by simp at h
  | b :: bs, u :: vs, k, 0, v, h, h' => by
    simp at h h'
    subst h
    subst h'
    exact List.mem_cons_self
  | b :: bs, u :: vs, k, i + 1, v, h, h' => by
    have q := pinsOf_get (io := bs) (vs := vs) (k := k + 1) (i := i) (v := v) (by simpa using h) (by simpa using h')
    have e : k + 1 + i = k + (i + 1) := by omega
    rw [e] at q
    cases b
    · exact q
    · exact List.mem_cons_of_mem _ q
theorem pinsOf_mem : ∀ {io : List Bool} {vs : List V} {k j : Nat} {v : V}, (j, v) ∈ pinsOf k io vs → ∃ i, j = k + i ∧ vs[i]? = some v
  | [], _, _, _, _, h => by simp [pinsOf] at h
  | b :: bs, [], _, _, _, h => by cases b <;> simp [pinsOf] at h
  | true :: bs, u :: vs, k, j, v, h => by
    rcases List.mem_cons.mp h with e | h
    · cases e; exact ⟨0, rfl, rfl⟩
    · obtain ⟨i, e1, e2⟩ := pinsOf_mem h
      exact ⟨i + 1, by omega, by simpa using e2⟩
  | false :: bs, u :: vs, k, j, v, h => by
    obtain ⟨i, e1, e2⟩ := pinsOf_mem (k := k + 1) (show (j, v) ∈ pinsOf (k + 1) bs vs from h)
    exact ⟨i + 1, by omega, by simpa using e2⟩
theorem pinsOf_fst : ∀ {io : List Bool} {vs : List V} {k : Nat}, vs.length = io.length → (pinsOf k io vs).map (·.1) = (pinsOf k io (List.replicate io.length V.non)).map (·.1)
  | [], vs, k, h => by
    cases vs with
    | nil => rfl
    | cons _ _ => simp at h
  | b :: bs, [], k, h => by simp at h
  | true :: bs, u :: vs, k, h => by
    show k :: _ = k :: _
    rw [pinsOf_fst (by simpa using h)]
  | false :: bs, u :: vs, k, h => by
    show (pinsOf (k + 1) bs vs).map _ = (pinsOf (k + 1) bs (List.replicate bs.length V.non)).map _
    exact pinsOf_fst (by simpa using h)
theorem okO {k n : Nat} {f : Addr} {x qual : Str} {st : Stmt} {fd : FuncData} {N ps : List Str} {io : List Bool} {body : SF} (F : Fun K x qual st f fd) (S : FnScope N ps (defScope st)) (hn : ps.length = n) (hio : io.length = n) (hN : ps.length ≤ N.length)
    (hbody : ∀ (cdv : Value) (A : Around) (outer : List Env) (s : Shared) (H : Hp) (E : XK) (Z : List (Nat × V)) (W : WX), (cxOf (L2.CX P w) P w K mg base N qual (defScope st) f cdv A outer s H E).A.guards = some [] → Room k (cxOf (L2.CX P w) P w K mg base N qual (defScope st) f cdv A outer s H E).A →
      Takes (cxOf (L2.CX P w) P w K mg base N qual (defScope st) f cdv A outer s H E) W → Z.map (·.1) = (pinsOf 0 io (List.replicate io.length V.non)).map (·.1) →
      DSs (cxOf (L2.CX P w) P w K mg base N qual (defScope st) f cdv A outer s H E) W Z (defBody st) body) : FnG P w K mg base (k + 1) f fd ps (spO mg K n (fnOf N.length io body)) := by
  refine DL.fnG_of F S (fun vs H Q E h => (spO_len vs H Q E h).trans hn.symm) fun cdv A outer s H vs Q E hgd hr h => ?_
  obtain ⟨g, os, Fp, r, hl, rv, ok, hf, hq⟩ := h
  have lv : vs.length = n := by rw [rv.len, hl]
  have st0 : start N vs = vs.map some ++ List.replicate (N.length - os.length) none := by
    unfold L2.start
    rw [rv.len]
  have sr := Srs.of (N.length - os.length) rv
  rw [← st0] at sr
  obtain ⟨Z, hZ⟩ : ∃ Z, Z = pinsOf 0 io vs := ⟨_, rfl⟩
  have zok : Zok Z (start N vs) := fun j v hj => by
    rw [hZ] at hj
    obtain ⟨i, e1, e2⟩ := pinsOf_mem hj
    have il := (List.getElem?_eq_some_iff.mp e2).1
    rw [e1, st0, Nat.zero_add, List.getElem?_append_left (by simpa using il), List.getElem?_map, e2]
    rfl
  have zf : Z.map (·.1) = (pinsOf 0 io (List.replicate io.length V.non)).map (·.1) := by rw [hZ]; exact pinsOf_fst (by omega)
  have back : ∀ {σ' : L2.St} {g' : Gs} {ρ' : Ev} {F' : OW.Fp}, Srs mg K g' ρ' σ' F' → Zok Z σ' → ∃ F2, OwRs mg K g' (outs io ρ') vs F2 ∧ ∀ p, F2 p → F' p := fun sr z => outs_rs sr (by omega) fun i hi => by
    have il : i < vs.length := by
      have := (List.getElem?_eq_some_iff.mp hi).1
      omega
    refine ⟨vs[i], List.getElem?_eq_getElem il, z i _ ?_⟩
    rw [hZ]
    have q := pinsOf_get (k := 0) hi (List.getElem?_eq_getElem il)
    rw [Nat.zero_add] at q
    exact q
  unfold fnOf at hf
  have tk : Takes (cxOf (L2.CX P w) P w K mg base N qual (defScope st) f cdv A outer s H E) (fun c d _ H => E c d H) := takes_of rfl rfl rfl rfl
  have hb := hbody cdv A outer s H E Z _ hgd hr tk zf
  have X0 : Good (cxOf (L2.CX P w) P w K mg base N qual (defScope st) f cdv A outer s H E) g H (start N vs) (os ++ List.replicate (N.length - os.length) .no) Fp := ⟨ok, sr⟩
  split at hf
  · rename_i ρ' hb1
    cases hf
    obtain ⟨t, p, q⟩ := hb _ _ hb1
    refine ⟨t, p, q _ H g Fp _ X0 zok fun σ' H' g' F' G' z' s' => ?_⟩
    obtain ⟨F2, r2, w2⟩ := back G'.sr z'
    exact hq V.non H' g' F2 (fun _ => False) G'.ok r2 ⟨.non, fun _ z => z⟩ (fun _ _ z => z) (s'.sub fun p z => z.elim (w2 p) False.elim)
  · rename_i o ρ' hb1
    cases hf
    obtain ⟨t, p, q⟩ := hb _ _ hb1
    refine ⟨t, p, q _ H g Fp _ X0 zok fun v σ' H' g' F' Fv G' z' r' d' s' => ?_⟩
    obtain ⟨F2, r2, w2⟩ := back G'.sr z'
    exact hq v H' g' F2 Fv G'.ok r2 r' (fun p z y => d' p (w2 p z) y) (s'.sub fun p z => z.elim (fun z => .inl (w2 p z)) .inr)
  · rename_i c d ρ' hb1
    cases hf
    obtain ⟨t, p, q⟩ := hb _ _ hb1
    refine ⟨t, p, q _ H g Fp _ X0 zok fun cls dx σ' H' g' F' G' z' e' s' => ?_⟩
    obtain ⟨F2, r2, w2⟩ := back G'.sr z'
    exact hq cls dx H' g' F2 G'.ok r2 e' (s'.sub w2)
  · cases hf
end
end OW
namespace OW
open PySem PySem.Spec PyProof.Rows L2
open DL (Dt Rp RpAll SqX pe_no pt_no pw_no ps_no pss_no FnG FnAt perm perm_vals)

section
variable {X : Cx} {k : Nat} {f : Addr} {fd : FuncData} {ps ks : List Str} {sp : Sp} {E : L2.St → XK} {x : Str} {p pos : Pos} {e : Expr} {es : List Expr} {t tk : TA} {kws : List Keyword}
theorem run_gS {pins : List (Addr × Obj)} {σ : L2.St} {H : Hp} {s : Shared} {Q : VK} {us : List Value} {ws : List Value} {zs : List V} {kw : List (Str × Value)} (F : FnG X.prog X.w X.K X.mg X.base k f fd ps sp) (hgd : X.A.guards = some []) (hr : Room k X.A)
    (hb : (ws.length = ps.length → BindsTo s fd ⟨us, kw⟩ (ps.zip ws))) (hx : PassesAt (L2.CX X.prog X.w) X σ (E σ)) (I : Inv X pins σ H s) (r : Vals zs ws) (h : sp zs H Q (E σ)) :
    wpAny (model X.prog X.w) X.A (call (.ref f) us kw) (EP X pins σ Q) X.xe s := by
  have hl : ws.length = ps.length := by
    rw [← r.length]
    exact F.len _ _ _ _ h
  refine wpAny_call (codeAny_mono (F.go X.A X.stack s H ⟨us, kw⟩ ws zs Q (E σ) hgd hr I.env0 (hb hl) r h) fun res s' hq => ?_)
  cases res with
  | error z =>
    have hq' : L2.CX X.prog X.w X.stack H s (E σ) z s' := hq
    exact hx pins H s z s' I hq'
  | ok fl =>
    cases fl with
    | ret u =>
      have hq' : CE X.stack X.prog X.w H s Q u s' := hq
      exact I.after hq'
    | next => cases hq
    | brk => cases hq
    | cont => cases hq
theorem pe_callGS (F : FnG X.prog X.w X.K X.mg X.base k f fd ps sp) (hgd : X.A.guards = some []) (hr : Room k X.A) (hg : Gl X x) (hm : X.mg x = some (.ref f)) (hk : PySem.W.keepIn X.K (.ref f) = true) (hb : Binds X.K fd ps []) (hx : ∀ σ, PassesAt (L2.CX X.prog X.w) X σ (E σ))
    (ha : PA X (e :: es) t) (hdb : (x == ("__debug__" : Str)) = false := by decide) (he : starEach (e :: es) X.env = (false, eval e X.env) :: starEach es X.env := by rfl) (hpl : (backTo pos (starEach es X.env)).any (·.1) = false := by rfl) :
    PE X (.Call (.Name x p) (e :: es) [] pos) (fun σ H Q => t σ H fun vs H1 => sp vs H1 Q (E σ)) :=
  ⟨fun pins s σ H Q I h => wpAny_Call_Name_kw (ld_glob I hg hm (PySem.W.callWith_K (h₀ := X.base) I.ok.mod.kin hk (thn (ha.run pos pins s σ H _ I h) fun us s1 ⟨vs, H1, I1, r, q⟩ =>
    ⟨I1.kIn, run_gS F hgd hr (fun hl => by
      have z := hb s1 us I1.kIn (by rw [List.append_nil]; exact hl)
      rw [List.append_nil] at z
      exact z) (hx σ) I1 r q⟩) he hpl) hdb)⟩
theorem pe_callGS0 (F : FnG X.prog X.w X.K X.mg X.base k f fd ps sp) (hgd : X.A.guards = some []) (hr : Room k X.A) (hg : Gl X x) (hm : X.mg x = some (.ref f)) (hk : PySem.W.keepIn X.K (.ref f) = true) (hb : Binds X.K fd ps []) (hx : ∀ σ, PassesAt (L2.CX X.prog X.w) X σ (E σ))
    (hdb : (x == ("__debug__" : Str)) = false := by decide) : PE X (.Call (.Name x p) [] [] pos) (fun σ H Q => sp [] H Q (E σ)) :=
  ⟨fun pins s σ H Q I h => wpAny_Call_Name_kw (ld_glob I hg hm (PySem.W.callWith_K0 I.kIn hk (run_gS (us := []) (ws := []) F hgd hr (fun hl => by
    have z := hb s [] I.kIn hl
    exact z) (hx σ) I .nil h)) hdb)⟩
theorem pe_callGKS {gV : {α : Type} → List α → List α} (F : FnG X.prog X.w X.K X.mg X.base k f fd ps sp) (hgd : X.A.guards = some []) (hr : Room k X.A) (hg : Gl X x) (hm : X.mg x = some (.ref f)) (hk : PySem.W.keepIn X.K (.ref f) = true)
    (hb : ∀ (s : Shared) (ws : List Value), (gV ws).length = ps.length → BindsTo s fd ⟨[], ks.zip ws⟩ (ps.zip (gV ws))) (hv : ∀ {vs : List V} {us : List Value}, Vals vs us → Vals (gV vs) (gV us)) (hx : ∀ σ, PassesAt (L2.CX X.prog X.w) X σ (E σ))
    (hkw : PK X kws tk) (hall : (backToKw pos (keywordEach kws X.env)).all (·.1.isSome) = true := by rfl) (hks : (backToKw pos (keywordEach kws X.env)).filterMap (·.1) = ks := by rfl)
    (hdb : (x == ("__debug__" : Str)) = false := by decide) (hpl : ((backTo pos (starEach [] X.env)).any (·.1) || (backToKw pos (keywordEach kws X.env)).any (·.1.isNone)) = false := by rfl) :
    PE X (.Call (.Name x p) [] kws pos) (fun σ H Q => tk σ H fun zs H1 => sp (gV zs) H1 Q (E σ)) :=
  ⟨fun pins s σ H Q I h => wpAny_Call_Name_kw (ld_glob I hg hm (PySem.W.callWith_KW0 (h₀ := X.base) I.ok.mod.kin hk hall (thn (hkw.run pos pins s σ H _ I h) fun ws s1 ⟨zs, H1, I1, r, q⟩ =>
    ⟨I1.kIn, by
      rw [hks]
      exact run_gS F hgd hr (fun hl => hb s1 ws hl) (hx σ) I1 (hv r) q⟩) hpl) hdb)⟩
end

/-! ### arguments: values, and names whose object is handed over to be changed -/
inductive Ar where
  | v (o : Ow)
  | io (i : Nat)
def rAr (X : Cx) (σ : L2.St) (g : Gs) : List Ar → List V → Fp → Prop
  | [], vs, F => vs = [] ∧ Em F
  | .v o :: as, vs, F => ∃ v r F1 F2, vs = v :: r ∧ OwR X.mg X.K g o v F1 ∧ rAr X σ g as r F2 ∧ Dj F1 F2 ∧ ∀ p, F p ↔ F1 p ∨ F2 p
  | .io i :: as, vs, F => ∃ v r, vs = v :: r ∧ σ[i]? = some (some v) ∧ rAr X σ g as r F
theorem frm_Ar {X : Cx} {σ : L2.St} : Frm (rAr X σ) := by
  refine ⟨fun g g' as => ?_, fun g as => ?_⟩
  · induction as with
    | nil => exact fun _ _ _ h => h
    | cons a as ih =>
      intro b F w h
      cases a with
      | v o =>
        obtain ⟨v, r, F1, F2, e, h1, h2, d, ef⟩ := h
        exact ⟨v, r, F1, F2, e, OwR.kp o (w.sub fun p z => (ef p).mpr (.inl z)) h1, ih _ _ (w.sub fun p z => (ef p).mpr (.inr z)) h2, d, ef⟩
      | io i =>
        obtain ⟨v, r, e, h1, h2⟩ := h
        exact ⟨v, r, e, h1, ih _ _ w h2⟩
  · induction as with
    | nil => exact fun _ _ h p z => (h.2 p z).elim
    | cons a as ih =>
      intro b F h p z
      cases a with
      | v o =>
        obtain ⟨v, r, F1, F2, e, h1, h2, d, ef⟩ := h
        rcases (ef p).mp z with y | y
        · exact OwR.in_ o h1 p y
        · exact ih _ _ h2 p y
      | io i =>
        obtain ⟨v, r, e, h1, h2⟩ := h
        exact ih _ _ h2 p z
/-- a reading at the slots σ -/
def RXa {α β : Type} (X : Cx) (W : WX) (rel : Gs → α → β → Fp → Prop) (σ : L2.St) (t : L2.St → Hp → (β → Hp → Prop) → Prop) (ρ : Ev) (r : Rs α) : Prop :=
  ∀ H g F Q, Good X g H σ ρ F → Pst X W rel σ g F Q r → t σ H Q
def DR (X : Cx) (W : WX) (es : List Expr) (f : Fn (List Ar)) : Prop := ∀ ρ r, f ρ = some r → ∃ t, PA X es t ∧ ∀ σ, RXa X W (rAr X σ) σ t ρ r
def xR0 : Fn (List Ar) := ret []
def xRv (f : Fn Ow) (h : Fn (List Ar)) : Fn (List Ar) := bnd f fun o => bnd h fun as => ret (.v o :: as)
def xRi (i : Nat) (h : Fn (List Ar)) : Fn (List Ar) := fun ρ => match ρ[i]? with
  | some .no => none
  | none => none
  | some _ => bnd h (fun as => ret (.io i :: as)) ρ
section
variable {X : Cx} {W : WX} {α β γ δ : Type} {rel : Gs → α → β → Fp → Prop} {σ : L2.St} {g : Gs} {F : Fp} {H : Hp} {ρ ρ1 : Ev}
theorem RX.seqA {rel2 : Gs → γ → δ → Fp → Prop} {a : α} {r2 : Rs γ} {t1 : L2.St → Hp → (β → Hp → Prop) → Prop} {t2 : L2.St → Hp → (δ → Hp → Prop) → Prop} {Q : β → δ → Hp → Prop} (fm : Frm rel) (h1 : RX X W rel t1 ρ (.ok a ρ1)) (h2 : RXa X W rel2 σ t2 ρ1 r2) (G : Good X g H σ ρ F)
    (hq : match r2 with
      | .ok b ρ2 => ∀ x y H2 g2 F2 Fa Fb, Good X g2 H2 σ ρ2 F2 → rel g2 a x Fa → rel2 g2 b y Fb → Dj Fa Fb → Dj F2 (fun p => Fa p ∨ Fb p) → Stp g F g2 (fun p => F2 p ∨ (Fa p ∨ Fb p)) → Q x y H2
      | .ex c d ρ2 => ∀ cls dx H' g' F', Good X g' H' σ ρ2 F' → ExR X g' c d cls dx → Stp g F g' F' → W cls dx σ H') : t1 σ H fun x H1 => t2 σ H1 fun y H2 => Q x y H2 := by
  refine h1 σ H g F _ G fun x H1 g1 F1 Fa G1 r1 d1 s1 => h2 H1 g1 F1 _ G1 ?_
  cases r2 with
  | ex c d ρ2 => exact fun cls dx H' g' F' G' e z => hq cls dx H' g' F' G' e ((Stp.trans s1 z).sub fun _ => .inl)
  | ok b ρ2 =>
    intro y H2 g2 F2 Fb G2 r2 d2 s2
    have k : Kp g1 g2 Fa := s2.kp fun p z y => d1 p y z
    have nf : ∀ p, Fa p → ∀ w : g1.S p = none ∧ g1.M p = none, False := fun p z w => by
      obtain ⟨u, e⟩ := fm.in_ _ _ _ _ r1 p z
      rw [e] at w; cases w.2
    refine hq x y H2 g2 F2 Fa Fb G2 (fm.kp _ _ _ _ _ k r1) r2 (fun p z y => ?_) (fun p z y => ?_) ((Stp.trans s1 s2).sub fun p z => ?_)
    · rcases s2.fr p (.inr y) with w | w
      · exact d1 p w z
      · exact nf p z w
    · rcases y with y | y
      · rcases s2.fr p (.inl z) with w | w
        · exact d1 p w y
        · exact nf p y w
      · exact d2 p z y
    · rcases z with z | z | z
      · exact .inl (.inl z)
      · exact .inr z
      · exact .inl (.inr z)
end
section
variable {X : Cx} {W : WX} {e : Expr} {es : List Expr} {fe : Fn Ow} {fs : Fn (List Ar)} {pos : Pos}
theorem dr_0 : DR X W [] xR0 := fun ρ r h => by
  cases h
  exact ⟨_, pa_nil, fun σ H g F Q G q => q [] H g F (fun _ => False) G ⟨rfl, fun _ z => z⟩ (fun _ _ z => z) (Stp.refl fun p z => z.elim id False.elim)⟩
theorem dr_v (ha : DE X W e fe) (hs : DR X W es fs) (hst : starEach (e :: es) X.env = (false, eval e X.env) :: starEach es X.env := by rfl) : DR X W (e :: es) (xRv fe fs) := fun ρ r h => by
  rcases bnd_inv h with ⟨x, ρ1, h1, h2⟩ | ⟨c, d, ρ1, h1, rfl⟩
  · obtain ⟨ta, pa, qa⟩ := ha ρ _ h1
    rcases bnd_inv h2 with ⟨os, ρ2, h3, h4⟩ | ⟨c, d, ρ2, h3, rfl⟩
    · obtain ⟨tb, pb, qb⟩ := hs ρ1 _ h3
      cases h4
      refine ⟨_, pa_cons pa pb hst, fun σ H g F Q G q => RX.seqA (Q := fun x r H2 => Q (x :: r) H2) frm_V qa (qb σ) G fun v vs H2 g2 F2 Fa Fb G2 r1 r2 d1 d2 s => ?_⟩
      exact q (v :: vs) H2 g2 F2 (fun p => Fa p ∨ Fb p) G2 ⟨v, vs, Fa, Fb, rfl, r1, r2, d1, fun p => Iff.rfl⟩ d2 s
    · obtain ⟨tb, pb, qb⟩ := hs ρ1 _ h3
      exact ⟨_, pa_cons pa pb hst, fun σ H g F Q G q => RX.seqA (Q := fun x r H2 => Q (x :: r) H2) frm_V qa (qb σ) G q⟩
  · obtain ⟨ta, pa, qa⟩ := ha ρ _ h1
    exact ⟨_, pa_cons pa pa_no hst, fun σ H g F Q G q => qa σ H g F _ G q⟩
theorem dr_i (i : Nat) {nm : Str} (hs : DR X W es fs) (hN : X.N[i]? = some nm := by rfl) (hv : Vis X.env.scope nm := by first | exact Or.inl rfl | exact Or.inr (Or.inl rfl) | exact Or.inr (Or.inr rfl))
    (hd : (nm == ("__debug__" : Str)) = false := by decide) (hcd : (nm == ("__classdict__" : Str)) = false := by decide) (hst : starEach (.Name nm pos :: es) X.env = (false, eval (.Name nm pos) X.env) :: starEach es X.env := by rfl) : DR X W (.Name nm pos :: es) (xRi i fs) := fun ρ r h => by
  unfold xRi at h
  split at h
  · cases h
  · cases h
  · rename_i o no e
    have get : ∀ {σ : L2.St} {H : Hp} {g : Gs} {F : Fp}, Good X g H σ ρ F → ∃ v, σ[i]? = some (some v) := fun G => by
      obtain ⟨v, F1, F2, e1, e2, _⟩ := G.sr.at e
      obtain ⟨u, rfl, _⟩ := e2.get fun z => no (by rw [z])
      exact ⟨u, e1⟩
    rcases bnd_inv h with ⟨os, ρ2, h3, h4⟩ | ⟨c, d, ρ2, h3, rfl⟩
    · obtain ⟨tb, pb, qb⟩ := hs ρ _ h3
      cases h4
      refine ⟨_, pa_cons (pe_var hN hv hd hcd) pb hst, fun σ H g F Q G q => ?_⟩
      obtain ⟨v, hvv⟩ := get G
      exact ⟨v, hvv, qb σ H g F _ G fun vs H2 g2 F2 Fb G2 r2 d2 s => q (v :: vs) H2 g2 F2 Fb G2 ⟨v, vs, rfl, hvv, r2⟩ d2 s⟩
    · obtain ⟨tb, pb, qb⟩ := hs ρ _ h3
      refine ⟨_, pa_cons (pe_var hN hv hd hcd) pb hst, fun σ H g F Q G q => ?_⟩
      obtain ⟨v, hvv⟩ := get G
      exact ⟨v, hvv, qb σ H g F _ G q⟩
end
/-- what is handed over leaves its slot meanwhile -/
def takeA : List Ar → Ev → Option (List Ow × Ev)
  | [], ρ => some ([], ρ)
  | .v o :: as, ρ => (takeA as ρ).map fun r => (o :: r.1, r.2)
  | .io i :: as, ρ => match ρ[i]? with
    | some .no => none
    | none => none
    | some o => (takeA as (ρ.set i .no)).map fun r => (o :: r.1, r.2)
def putA : List Ar → List Ow → Ev → Ev
  | .v _ :: as, _ :: ps, ρ => putA as ps ρ
  | .io i :: as, p :: ps, ρ => putA as ps (ρ.set i p)
  | _, _, ρ => ρ
section
variable {X : Cx} {σ : L2.St} {g : Gs} {H : Hp}
theorem takeA_ok : ∀ {as : List Ar} {ρ ρ' : Ev} {os : List Ow} {vs : List V} {F Fa : Fp}, takeA as ρ = some (os, ρ') → Good X g H σ ρ F → rAr X σ g as vs Fa → Dj F Fa →
    ∃ F' Fb, Good X g H σ ρ' F' ∧ OwRs X.mg X.K g os vs Fb ∧ Dj F' Fb ∧ ∀ p, F' p ∨ Fb p → F p ∨ Fa p
  | [], ρ, _, _, vs, F, Fa, e, G, h, d => by
    cases e
    exact ⟨F, Fa, G, h, d, fun p z => z⟩
  | .v o :: as, ρ, _, _, vs, F, Fa, e, G, ⟨v, r, F1, F2, e1, h1, h2, hd, ef⟩, d => by
    obtain ⟨⟨os, ρ'⟩, e2, e3⟩ := Option.map_eq_some_iff.mp e
    cases e3
    obtain ⟨F', Fb, a1, a2, a3, a4⟩ := takeA_ok e2 G h2 fun p z y => d p z ((ef p).mpr (.inr y))
    refine ⟨F', fun p => F1 p ∨ Fb p, a1, ⟨v, r, F1, Fb, e1, h1, a2, fun p z y => ?_, fun p => Iff.rfl⟩, fun p z y => ?_, fun p z => ?_⟩
    · rcases a4 p (.inr y) with w | w
      · exact d p w ((ef p).mpr (.inl z))
      · exact hd p z w
    · rcases y with y | y
      · rcases a4 p (.inl z) with w | w
        · exact d p w ((ef p).mpr (.inl y))
        · exact hd p y w
      · exact a3 p z y
    · rcases z with z | z | z
      · exact (a4 p (.inl z)).elim .inl fun w => .inr ((ef p).mpr (.inr w))
      · exact .inr ((ef p).mpr (.inl z))
      · exact (a4 p (.inr z)).elim .inl fun w => .inr ((ef p).mpr (.inr w))
  | .io i :: as, ρ, _, _, vs, F, Fa, e, G, ⟨v, r, e1, h1, h2⟩, d => by
    unfold takeA at e
    split at e
    · cases e
    · cases e
    · rename_i o no eo
      obtain ⟨⟨os, ρ'⟩, e2, e3⟩ := Option.map_eq_some_iff.mp e
      cases e3
      obtain ⟨v0, G1, G2, f1, f2, f3, f4, f5⟩ := G.sr.at eo
      obtain ⟨u, rfl, hu⟩ := f2.get fun z => no (by rw [z])
      rw [f1] at h1
      cases h1
      have sr := f5 g .no (some v) (fun _ => False) Kp.refl (.inl ⟨rfl, fun _ z => z⟩) fun _ z _ => z
      rw [set_self f1] at sr
      have Gn : Good X g H σ (ρ.set i .no) (fun p => False ∨ G2 p) := ⟨G.ok, sr⟩
      obtain ⟨F', Fb, a1, a2, a3, a4⟩ := takeA_ok e2 Gn h2 fun p z y => z.elim id fun z => d p ((f4 p).mpr (.inr z)) y
      have nFb : ∀ p, G1 p → Fb p → False := fun p z y => by
        rcases a4 p (.inr y) with (w | w) | w
        · exact w
        · exact f3 p z w
        · exact d p ((f4 p).mpr (.inl z)) w
      have nF' : ∀ p, F' p → G1 p → False := fun p y z => by
        rcases a4 p (.inl y) with (w | w) | w
        · exact w
        · exact f3 p z w
        · exact d p ((f4 p).mpr (.inl z)) w
      refine ⟨F', fun p => G1 p ∨ Fb p, a1, ⟨v, r, G1, Fb, e1, hu, a2, nFb, fun p => Iff.rfl⟩, fun p z y => y.elim (nF' p z) (a3 p z), fun p z => ?_⟩
      rcases z with z | z | z
      · rcases a4 p (.inl z) with (w | w) | w
        · exact w.elim
        · exact .inl ((f4 p).mpr (.inr w))
        · exact .inr w
      · exact .inl ((f4 p).mpr (.inl z))
      · rcases a4 p (.inr z) with (w | w) | w
        · exact w.elim
        · exact .inl ((f4 p).mpr (.inr w))
        · exact .inr w
/-- and comes back -/
theorem putA_ok : ∀ {as : List Ar} {ρ : Ev} {ps : List Ow} {vs : List V} {F Fa Fp' : Fp} {g0 : Gs}, Good X g H σ ρ F → rAr X σ g0 as vs Fa → OwRs X.mg X.K g ps vs Fp' → Dj F Fp' →
    ∃ F', Good X g H σ (putA as ps ρ) F' ∧ ∀ p, F' p → F p ∨ Fp' p
  | [], ρ, ps, vs, F, Fa, Fq, g0, G, h, hp, d => ⟨F, by cases ps <;> exact G, fun p z => .inl z⟩
  | .v o :: as, ρ, [], vs, F, Fa, Fq, g0, G, h, hp, d => ⟨F, G, fun p z => .inl z⟩
  | .io i :: as, ρ, [], vs, F, Fa, Fq, g0, G, h, hp, d => ⟨F, G, fun p z => .inl z⟩
  | .v o :: as, ρ, q :: ps, vs, F, Fa, Fq, g0, G, ⟨v, r, F1, F2, e1, h1, h2, hd, ef⟩, ⟨v', r', G1, G2, e1', h1', h2', hd', ef'⟩, d => by
    rw [e1] at e1'
    cases e1'
    obtain ⟨F', a1, a2⟩ := putA_ok G h2 h2' fun p z y => d p z ((ef' p).mpr (.inr y))
    exact ⟨F', a1, fun p z => (a2 p z).elim .inl fun z => .inr ((ef' p).mpr (.inr z))⟩
  | .io i :: as, ρ, q :: ps, vs, F, Fa, Fq, g0, G, ⟨v, r, e1, h1, h2⟩, ⟨v', r', G1, G2, e1', h1', h2', hd', ef'⟩, d => by
    rw [e1] at e1'
    cases e1'
    by_cases il : i < ρ.length
    · obtain ⟨v0, K1, K2, f1, f2, f3, f4, f5⟩ := G.sr.at (List.getElem?_eq_getElem il)
      rw [f1] at h1
      cases h1
      have sr := f5 g q (some v) G1 Kp.refl (.inr ⟨v, rfl, h1'⟩) fun p z y => d p ((f4 p).mpr (.inr y)) ((ef' p).mpr (.inl z))
      rw [set_self f1] at sr
      obtain ⟨F', a1, a2⟩ := putA_ok (F := fun p => G1 p ∨ K2 p) ⟨G.ok, sr⟩ h2 h2' fun p z y => by
        rcases z with z | z
        · exact hd' p z y
        · exact d p ((f4 p).mpr (.inr z)) ((ef' p).mpr (.inr y))
      refine ⟨F', a1, fun p z => ?_⟩
      rcases a2 p z with (z | z) | z
      · exact .inr ((ef' p).mpr (.inl z))
      · exact .inl ((f4 p).mpr (.inr z))
      · exact .inr ((ef' p).mpr (.inr z))
    · have e0 : ρ.set i q = ρ := List.set_eq_of_length_le (by omega)
      show ∃ F', Good X g H σ (putA as ps (ρ.set i q)) F' ∧ _
      rw [e0]
      obtain ⟨F', a1, a2⟩ := putA_ok G h2 h2' fun p z y => d p z ((ef' p).mpr (.inr y))
      exact ⟨F', a1, fun p z => (a2 p z).elim .inl fun z => .inr ((ef' p).mpr (.inr z))⟩
end
/-- a call: what is handed over, the def's own function, what comes back -/
def app (n : Nat) (fn : FO) (as : List Ar) : Fn Ow := fun ρ => match takeA as ρ with
  | none => none
  | some (os, ρ1) => if os.length = n then match fn os with
    | some (.rt o ps) => some (.ok o (putA as ps ρ1))
    | some (.ex c d ps) => some (.ex c d (putA as ps ρ1))
    | none => none
  else none
def xCall (n : Nat) (fn : FO) (f : Fn (List Ar)) : Fn Ow := bnd f (app n fn)
section
variable {X : Cx} {W : WX} {k n : Nat} {f : Addr} {fd : FuncData} {ps ks : List Str} {x : Str} {st : Stmt} {p pos : Pos} {e : Expr} {es : List Expr} {fs : Fn (List Ar)} {fn : FO} {kws : List Keyword}
theorem app_ok {σ : L2.St} {H : Hp} {g : Gs} {F Fa : Fp} {vs : List V} {as : List Ar} {ρ : Ev} {r : Rs Ow} {Q : VK} {g0 : Gs} {F0 : Fp} (h : app n fn as ρ = some r) (G : Good X g H σ ρ F) (ra : rAr X σ g as vs Fa) (d : Dj F Fa) (s : Stp g0 F0 g fun p => F p ∨ Fa p) (q : Pst X W (rV X) σ g0 F0 Q r) :
    spO X.mg X.K n fn vs H Q (WE W σ) := by
  unfold app at h
  split at h
  · cases h
  · rename_i os ρ1 et
    obtain ⟨F', Fb, G1, ro, d1, w1⟩ := takeA_ok et G ra d
    split at h
    rotate_left
    · cases h
    rename_i hl
    split at h
    · rename_i o ps' ef
      cases h
      refine ⟨g, os, Fb, _, hl, ro, G.ok, ef, fun v H' g' Fp Fv k' rp rv dj st => ?_⟩
      have G2 : Good X g' H' σ ρ1 F' := ⟨k', G1.sr.kp (st.kp d1)⟩
      have dF : ∀ p, F' p → Fp p ∨ Fv p → False := fun p z y => by
        rcases st.fr p y with w | ⟨_, w⟩
        · exact d1 p z w
        · obtain ⟨u, eu⟩ := G1.sr.in_ p z
          rw [eu] at w; cases w
      obtain ⟨F3, G3, w3⟩ := putA_ok G2 ra rp fun p z y => dF p z (.inl y)
      refine q v H' g' F3 Fv G3 rv (fun p z y => (w3 p z).elim (fun z => dF p z (.inr y)) fun z => dj p z y) ?_
      have t1 : Stp g0 F0 g fun p => Fb p ∨ F' p := s.sub fun p z => w1 p z.symm
      refine (Stp.trans t1 st).sub fun p z => ?_
      rcases z with z | z
      · exact (w3 p z).elim .inr fun z => .inl (.inl z)
      · exact .inl (.inr z)
    · rename_i c dd ps' ef
      cases h
      refine ⟨g, os, Fb, _, hl, ro, G.ok, ef, fun cls dx H' g' Fp k' rp re st => ?_⟩
      have G2 : Good X g' H' σ ρ1 F' := ⟨k', G1.sr.kp (st.kp d1)⟩
      have dF : ∀ p, F' p → Fp p → False := fun p z y => by
        rcases st.fr p y with w | ⟨_, w⟩
        · exact d1 p z w
        · obtain ⟨u, eu⟩ := G1.sr.in_ p z
          rw [eu] at w; cases w
      obtain ⟨F3, G3, w3⟩ := putA_ok G2 ra rp dF
      refine q cls dx H' g' F3 G3 re ?_
      have t1 : Stp g0 F0 g fun p => Fb p ∨ F' p := s.sub fun p z => w1 p z.symm
      exact (Stp.trans t1 st).sub fun p z => (w3 p z).elim .inr .inl
    · cases h
theorem de_call0 {FX : FnAt X.prog X.w X.K X.mg X.base x st k ps (spO X.mg X.K n fn)} (tk : Takes X W) (hgd : X.A.guards = some []) (hr : Room k X.A) (ha : DR X W (e :: es) fs) (hg : Gl X x := by rfl) (hdb : (x == ("__debug__" : Str)) = false := by decide)
    (he : starEach (e :: es) X.env = (false, eval e X.env) :: starEach es X.env := by rfl) (hpl : (backTo pos (starEach es X.env)).any (·.1) = false := by rfl) : DE X W (.Call (.Name x p) (e :: es) [] pos) (xCall n fn fs) := fun ρ r h => by
  obtain ⟨f, fd, m1, m2, m3, m4⟩ := FX.it
  rcases bnd_inv h with ⟨as, ρ1, h1, h2⟩ | ⟨c, d, ρ1, h1, rfl⟩
  · obtain ⟨t, pa, qa⟩ := ha ρ _ h1
    exact ⟨_, pe_callGS m4 hgd hr hg m1 m2.kp m3 (fun σ => passAt tk σ) pa hdb he hpl, fun σ H g F Q G q => qa σ H g F _ G fun vs H1 g1 F1 Fa G1 r1 d1 s1 => app_ok h2 G1 r1 d1 s1 q⟩
  · obtain ⟨t, pa, qa⟩ := ha ρ _ h1
    exact ⟨_, pe_callGS m4 hgd hr hg m1 m2.kp m3 (fun σ => passAt tk σ) pa hdb he hpl, fun σ H g F Q G q => qa σ H g F _ G q⟩
theorem de_call (FX : FnAt X.prog X.w X.K X.mg X.base x st k ps (spO X.mg X.K n fn)) (tk : Takes X W) (hgd : X.A.guards = some []) (hr : Room k X.A) (ha : DR X W (e :: es) fs) (hg : Gl X x := by rfl) (hdb : (x == ("__debug__" : Str)) = false := by decide)
    (he : starEach (e :: es) X.env = (false, eval e X.env) :: starEach es X.env := by rfl) (hpl : (backTo pos (starEach es X.env)).any (·.1) = false := by rfl) : DE X W (.Call (.Name x p) (e :: es) [] pos) (xCall n fn fs) := de_call0 (FX := FX) tk hgd hr ha hg hdb he hpl
/-- without arguments -/
theorem de_callN (FX : FnAt X.prog X.w X.K X.mg X.base x st k ps (spO X.mg X.K n fn)) (tk : Takes X W) (hgd : X.A.guards = some []) (hr : Room k X.A) (hg : Gl X x := by rfl) (hdb : (x == ("__debug__" : Str)) = false := by decide) : DE X W (.Call (.Name x p) [] [] pos) (xCall n fn xR0) := fun ρ r h => by
  obtain ⟨f, fd, m1, m2, m3, m4⟩ := FX.it
  rcases bnd_inv h with ⟨as, ρ1, h1, h2⟩ | ⟨c, d, ρ1, h1, rfl⟩
  · cases h1
    exact ⟨_, pe_callGS0 m4 hgd hr hg m1 m2.kp m3 (fun σ => passAt tk σ) hdb, fun σ H g F Q G q => app_ok (Fa := fun _ => False) (vs := []) h2 G ⟨rfl, fun _ z => z⟩ (fun _ _ z => z) (Stp.refl fun p z => z.elim id False.elim) q⟩
  · cases h1
/-- all by keywords -/
def DKw (X : Cx) (W : WX) (kws : List Keyword) (f : Fn (List Ow)) : Prop := ∀ ρ r, f ρ = some r → ∃ t, PK X kws t ∧ RX X W (rA X) t ρ r
theorem pk_no {X : Cx} {kws : List Keyword} : PK X kws (fun _ _ _ => False) := ⟨fun _ _ _ _ _ _ _ h => h.elim⟩
theorem dk_0 : DKw X W [] xA0 := fun ρ r h => by
  cases h
  exact ⟨_, pk_nil, rx_ret (b := []) (fun σ H Q q => q) fun g => ⟨rfl, fun _ z => z⟩⟩
theorem dk_1 {fe : Fn Ow} {fl : Fn (List Ow)} {nm : Option Str} {kpos : Pos} (ha : DE X W e fe) (hs : DKw X W kws fl) : DKw X W (⟨nm, e, kpos⟩ :: kws) (xA1 fe fl) := fun ρ r h => by
  rcases bnd_inv h with ⟨x, ρ1, h1, h2⟩ | ⟨c, d, ρ1, h1, rfl⟩
  · obtain ⟨ta, pa, qa⟩ := ha ρ _ h1
    rcases bnd_inv h2 with ⟨os, ρ2, h3, h4⟩ | ⟨c, d, ρ2, h3, rfl⟩
    · obtain ⟨tb, pb, qb⟩ := hs ρ1 _ h3
      cases h4
      refine ⟨_, pk_cons pa pb, fun σ H g F Q G q => RX.seq (Q := fun x r H2 => Q (x :: r) H2) frm_V frm_A qa qb G fun v vs H2 g2 F2 Fa Fb G2 r1 r2 d1 d2 s => ?_⟩
      exact q (v :: vs) H2 g2 F2 (fun p => Fa p ∨ Fb p) G2 ⟨v, vs, Fa, Fb, rfl, r1, r2, d1, fun p => Iff.rfl⟩ d2 s
    · obtain ⟨tb, pb, qb⟩ := hs ρ1 _ h3
      exact ⟨_, pk_cons pa pb, fun σ H g F Q G q => RX.seq (Q := fun x r H2 => Q (x :: r) H2) frm_V frm_A qa qb G q⟩
  · obtain ⟨ta, pa, qa⟩ := ha ρ _ h1
    exact ⟨_, pk_cons pa pk_no, fun σ H g F Q G q => qa σ H g F _ G q⟩
/-- the values in the parameters' order; what they hold stands from now on -/
def xCallK (n m : Nat) (π : List Nat) (fn : FO) (f : Fn (List Ow)) : Fn Ow := bnd f fun os => match frzs os with
  | some ds => if ds.length = m then app n fn ((perm π ds).map fun d => .v (.f d)) else fun _ => none
  | none => fun _ => none
theorem rAr_of {σ : L2.St} {g : Gs} : ∀ {ds : List Dt} {vs : List V}, RpAll X.K g.S vs ds → rAr X σ g (ds.map fun d => .v (.f d)) vs fun _ => False
  | [], _, .nil => ⟨rfl, fun _ z => z⟩
  | d :: ds, _, .cons h t => ⟨_, _, fun _ => False, fun _ => False, rfl, ⟨h, fun _ z => z⟩, rAr_of t, fun _ z _ => z, fun p => ⟨.inl, fun z => z.elim id id⟩⟩
theorem de_callK {fl : Fn (List Ow)} {m : Nat} (π : List Nat) (FX : FnAt X.prog X.w X.K X.mg X.base x st k ps (spO X.mg X.K n fn)) (tk : Takes X W) (hgd : X.A.guards = some []) (hr : Room k X.A)
    (hb : ∀ (kV doc pm : Value) (an : Option Addr) (cdv ct : Value) (ws : List Value), ws.length = ks.length → bindArgs (PySem.W.fnOf x x (defArgs st) (defBody st) (defScope st) .none kV doc pm an cdv ct) ⟨[], ks.zip ws⟩ = pure (ps.zip (perm π ws)))
    (ha : DKw X W kws fl) (hm : m = ks.length := by rfl) (hg : Gl X x := by rfl) (hall : (backToKw pos (keywordEach kws X.env)).all (·.1.isSome) = true := by rfl) (hks : (backToKw pos (keywordEach kws X.env)).filterMap (·.1) = ks := by rfl)
    (hdb : (x == ("__debug__" : Str)) = false := by decide) (hpl : ((backTo pos (starEach [] X.env)).any (·.1) || (backToKw pos (keywordEach kws X.env)).any (·.1.isNone)) = false := by rfl) : DE X W (.Call (.Name x p) [] kws pos) (xCallK n m π fn fl) := fun ρ r h => by
  obtain ⟨f, fd, h1, h2, h3, h4⟩ := FX.it
  obtain ⟨oc, od, kV, doc, pm, an, cdv, ct, osl, rfl, lk, hcd⟩ := h2.ex
  have pe : ∀ t, PK X kws t → PE X (.Call (.Name x p) [] kws pos) (fun σ H Q => t σ H fun zs H1 => zs.length = ks.length ∧ spO X.mg X.K n fn (perm π zs) H1 Q (WE W σ)) := fun t pa => ⟨fun pins s σ H Q I h => by
    refine wpAny_Call_Name_kw (ld_glob I hg h1 (PySem.W.callWith_KW0 (h₀ := X.base) I.ok.mod.kin h2.kp hall (thn (pa.run pos pins s σ H _ I h) fun ws s1 ⟨zs, H1, I1, r, hl, q⟩ => ⟨I1.kIn, ?_⟩) hpl) hdb)
    rw [hks]
    exact run_gS (E := WE W) h4 hgd hr (fun _ => .of_eq (hb kV doc pm an cdv ct ws (by rw [← r.length]; exact hl))) (passAt tk σ) I1 (perm_vals r π) q⟩
  rcases bnd_inv h with ⟨os, ρ1, h5, h6⟩ | ⟨c, d, ρ1, h5, rfl⟩
  · obtain ⟨t, pa, qa⟩ := ha ρ _ h5
    cases ed : frzs os with
    | none => rw [ed] at h6; cases h6
    | some ds =>
      rw [ed] at h6
      by_cases hl : ds.length = m
      · have h6 : app n fn ((perm π ds).map fun d => Ar.v (.f d)) ρ1 = some r := by
          have z : (if ds.length = m then app n fn ((perm π ds).map fun d => Ar.v (.f d)) else fun _ => none) ρ1 = some r := h6
          rw [if_pos hl] at z
          exact z
        refine ⟨_, pe t pa, fun σ H g F Q G q => qa σ H g F _ G fun vs H1 g1 F1 Fa G1 r1 d1 s1 => ?_⟩
        obtain ⟨k2, r2, s2⟩ := frzs_ok G1.ok ed r1
        obtain ⟨G3, d3, s3⟩ := G1.op s1 d1 k2 s2
        exact ⟨by rw [r2.len, hl, hm], app_ok h6 G3 (rAr_of (DL.perm_rp r2 π)) d3 s3 q⟩
      · have z : (if ds.length = m then app n fn ((perm π ds).map fun d => Ar.v (.f d)) else fun _ => none) ρ1 = some r := h6
        rw [if_neg hl] at z
        cases z
  · obtain ⟨t, pa, qa⟩ := ha ρ _ h5
    exact ⟨_, pe t pa, fun σ H g F Q G q => qa σ H g F _ G q⟩
end
end OW
/-! ranges between numbers of any size -/
namespace OW
open PySem PySem.Spec PyProof.Rows L2
theorem turn_long {P : Program} {w : World} {K : PySem.W.Frag} {tg : Expr} (it : Addr) (lo c : Int) (n : Nat) : Turn P w K tg (Itc lo c n) [it] it (fun i h => IsLongIter h it (lo + (i : Nat) * c) ((n : Int) - (i : Nat)) c) where
  mem := by simp
  obj := fun i h st b hb => by
    have e : b = it := by simpa using hb
    subst e
    exact ⟨_, st, fun v z => nomatch z⟩
  keep := fun i h h' st k => k it (by simp) _ st
  item := by
    intro X hP hw hK hc i pins s σ H E I hf st hg
    subst hP hw hK
    obtain ⟨f0, f1, f2, f3, f4, f5⟩ := hf it (by simp)
    have W := Walks.longrange (prog := X.prog) (w := X.w) (I.ok.hd hc) it lo c n
    refine W.item i s _ _ hg st fun v h' tk hv st' kk => ?_
    obtain ⟨t, rfl⟩ := hv
    have I1 : Inv X pins σ H { s with heap := h', toks := tk } := I.turned (fun b o hb e => kk b o (by simpa using hb) e) f0 f1 f3 f4 f5
    exact ⟨_, rfl, go_of (s := { s with heap := h', toks := tk }) (n := "longrange_iterator") st' rfl rfl (by decide) ⟨.int (lo + (i : Nat) * c), H, I1, ⟨t, rfl⟩, ⟨rfl, rfl⟩, st', fun b hb => (hf b hb).1⟩⟩
  done := by
    intro X hP hw hK hc i pins s σ H E I hf st hg
    subst hP hw hK
    obtain ⟨f0, f1, f2, f3, f4, f5⟩ := hf it (by simp)
    exact wpAny_pyNext_long_end (I.ok.hd hc) st (by have : n ≤ i := hg; omega) fun h' eb => ⟨rfl, I.turned (t' := s.toks) (fun b o hb e => eb b o hb e) f0 f1 f3 f4 f5⟩
  self := fun A i s Q E st h => wpAny_pyIter_longiter st h
section
variable {X : Cx} {tg : Expr}
theorem range_itL {pins : List (Addr × Obj)} {σ : L2.St} {H : Hp} {s : Shared} {R : It → Hp → Prop} {E : Value → Shared → Prop} {i j c : Int} {n : Nat} {t u v : Tok} {tk : Nat} (I : Inv X pins σ H s) (hn : Builtin.Range.rangeSize i j c = (n : Int))
    (q : R (Itc i c n) H) : wpAny (model X.prog X.w) X.A (pyIter (.ref s.heap.objs.size)) (PIE X pins σ tg R) E { s with heap := s.heap.push { cls := .type "range", data := .fields #[.int i t, .int j u, .int c v] }, toks := tk } := by
  have I2 : Inv X pins σ H { s with heap := s.heap.push { cls := .type "range", data := .fields #[.int i t, .int j u, .int c v] }, toks := tk } := I.kept (t' := tk) fun b o e => Heap.get?_push_of_some _ e
  have e1 : i + ((0 : Nat) : Int) * c = i := by simp
  have e2 : (n : Int) - ((0 : Nat) : Int) = Builtin.Range.rangeSize i j c := by rw [hn]; simp
  cases hs : Builtin.Range.small i j c with
  | true =>
    refine wpAny_pyIter_range (IsRange.new ..) hs ?_
    refine pi_one (tk := tk) I2 _ (turn_rangeC _ i c n) ?_ q
    show IsRangeIter _ _ (i + ((0 : Nat) : Int) * c) ((n : Int) - ((0 : Nat) : Int)) c
    rw [e1, e2]
    exact Heap.get?_push_size _ rfl
  | false =>
    refine wpAny_pyIter_longrange (IsRange.new ..) hs ?_
    refine pi_one (tk := tk) I2 _ (turn_long _ i c n) ?_ q
    show IsLongIter _ _ (i + ((0 : Nat) : Int) * c) ((n : Int) - ((0 : Nat) : Int)) c
    rw [e1, e2]
    exact Heap.get?_push_size _ rfl
def iRng1L (ta : TA) : TI := fun σ H R => ta σ H fun vs H1 => ∃ j : Int, vs = [.int j] ∧ R (Itc 0 1 j.toNat) H1
def iRng2L (ta : TA) : TI := fun σ H R => ta σ H fun vs H1 => ∃ i j : Int, vs = [.int i, .int j] ∧ R (Itc i 1 (j - i).toNat) H1
def iRngDL (ta : TA) : TI := fun σ H R => ta σ H fun vs H1 => ∃ i j : Int, vs = [.int i, .int j, .int (-1)] ∧ R (Itc i (-1) (i - j).toNat) H1
theorem size_one {i j : Int} : Builtin.Range.rangeSize i j 1 = (((j - i).toNat : Nat) : Int) := by rw [rangeSize_one]; split <;> omega
theorem pi_range1L {a : Expr} {ta : TA} {p pos : Pos} (hg : Gl X "range") (hm : X.mg "range" = none) (ha : PA X [a] ta) (hs : starEach [a] X.env = [(false, eval a X.env)] := by rfl) : PI X tg (.Call (.Name "range" p) [a] [] pos) (iRng1L ta) := by
  refine ⟨fun pins s σ H R I h => ?_⟩
  refine Call_ (ld_blt I hg hm boot_range (PyProof.Rows.callWith_type1 (thn (ha.run pos pins s σ H _ I h) fun us s1 ⟨vs, H1, I1, r1, q1⟩ => ?_) hs rfl))
  obtain ⟨j, e, q⟩ := q1
  subst e
  cases r1 with
  | cons r rr =>
    cases rr
    obtain ⟨t, rfl⟩ := r
    exact call_range_1 (range_itL I1 (by rw [size_one, Int.sub_zero]) q)
theorem pi_range2L {a b : Expr} {ta : TA} {p pos : Pos} (hg : Gl X "range") (hm : X.mg "range" = none) (ha : PA X [a, b] ta) (hs : starEach [a, b] X.env = [(false, eval a X.env), (false, eval b X.env)] := by rfl) (hs2 : starEach [b] X.env = [(false, eval b X.env)] := by rfl) :
    PI X tg (.Call (.Name "range" p) [a, b] [] pos) (iRng2L ta) := by
  refine ⟨fun pins s σ H R I h => ?_⟩
  refine Call_ (ld_blt I hg hm boot_range (PyProof.Rows.callWith_type1 (thn (ha.run pos pins s σ H _ I h) fun us s1 ⟨vs, H1, I1, r1, q1⟩ => ?_) (by rw [hs, hs2]) (by rw [hs2]; rfl)))
  obtain ⟨i, j, e, q⟩ := q1
  subst e
  cases r1 with
  | cons r rr =>
    cases rr with
    | cons r' rr =>
      cases rr
      obtain ⟨t, rfl⟩ := r
      obtain ⟨t', rfl⟩ := r'
      exact call_range_2 (range_itL I1 size_one q)
theorem pi_rangeDL {a b c : Expr} {ta : TA} {p pos : Pos} (hg : Gl X "range") (hm : X.mg "range" = none) (ha : PA X [a, b, c] ta)
    (hs : starEach [a, b, c] X.env = (false, eval a X.env) :: starEach [b, c] X.env := by rfl) (hpl : (backTo pos (starEach [b, c] X.env)).any (·.1) = false := by rfl) :
    PI X tg (.Call (.Name "range" p) [a, b, c] [] pos) (iRngDL ta) := by
  refine ⟨fun pins s σ H R I h => ?_⟩
  refine Call_ (ld_blt I hg hm boot_range (PyProof.Rows.callWith_type1 (thn (ha.run pos pins s σ H _ I h) fun us s1 ⟨vs, H1, I1, r1, q1⟩ => ?_) hs hpl))
  obtain ⟨i, j, e, q⟩ := q1
  subst e
  cases r1 with
  | cons r rr =>
    cases rr with
    | cons r' rr =>
      cases rr with
      | cons r'' rr =>
        cases rr
        obtain ⟨t, rfl⟩ := r
        obtain ⟨t', rfl⟩ := r'
        obtain ⟨t'', rfl⟩ := r''
        exact call_range_3 (by decide) (range_itL I1 (PySem.W.rangeSize_downNat i j) q) (.inl (PyProof.noPylong_small (by decide)))
end
end OW
/-! set(..) of a list of ints -/
namespace OW
open PySem PySem.Spec PyProof.Rows L2
/-- a new set -/
abbrev mt0 (w : World) : Obj := { cls := .type "set", dict := none, data := .set #[] 0 (.fresh 0 0 (!w.params.followText "set-order")) }
section
variable {P : Program} {w : World} {A : Around} {E : Value → Shared → Prop} {s : Shared}
/-- the laying of a list's ints into the set just made -/
theorem fill_set {l : Addr} {xs : Array Value} {ns : List Int} (e0 : A.handled = none) (hl : s.heap.IsList l xs) (hi : IntsAre xs.toList ns) (hb : ns.length + 1 < scanBound) {R : Result → Shared → Prop}
    (z : ∀ (h' : Heap) (tk c : Nat), SetR w h' s.heap.objs.size (fun j => decide (j ∈ ns)) c → c ≤ ns.length → (∀ b o, s.heap.get? b = some o → h'.get? b = some o) → R (.ok (.ret .none)) { s with heap := h', toks := tk }) :
    codeAny (model P w) A (.builtin "set.update.loop" ⟨[.ref s.heap.objs.size, .ref (s.heap.push (mt0 w)).objs.size], []⟩) R { s with heap := (s.heap.push (mt0 w)).push { cls := .type "list_iterator", data := .fields #[.ref l, .int 0 0] } } := by
  have n1 : xs.size = ns.length := by
    have := IntsAre.length hi
    rwa [Array.length_toList] at this
  have l0 : l < s.heap.objs.size := by
    obtain ⟨o, ho, _⟩ := hl
    exact Heap.lt_size ho
  have l1 : (s.heap.push (mt0 w)).IsList l xs := hl.push _
  have sz : (s.heap.push (mt0 w)).objs.size = s.heap.objs.size + 1 := Heap.size_push ..
  have d1 : l ≠ (s.heap.push (mt0 w)).objs.size := by rw [sz]; exact Nat.ne_of_lt (Nat.lt_succ_of_lt l0)
  have d2 : s.heap.objs.size ∉ [(s.heap.push (mt0 w)).objs.size, l] := by
    intro q
    rcases List.mem_cons.mp q with q | q
    · exact Nat.ne_of_lt (Nat.lt_succ_self _) (q.trans sz)
    · exact Nat.ne_of_lt l0 (List.mem_singleton.mp q).symm
  have at_ : ∀ (i : Nat) (v : Value), xs[i]? = some v → ∃ k t, ns[i]? = some k ∧ v = .int k t := fun i v hv => by
    have il : i < ns.length := n1 ▸ (Array.getElem?_eq_some_iff.mp hv).1
    obtain ⟨t, e⟩ := PyProof.Rows.IntsAre.int_at hi i v (by rw [Array.getElem?_toList]; exact hv)
    exact ⟨ns[i], t, List.getElem?_eq_getElem il, by rw [e, List.getD_eq_getElem?_getD, List.getElem?_eq_getElem il]; rfl⟩
  have g0 : ((s.heap.push (mt0 w)).push { cls := .type "list_iterator", data := .fields #[.ref l, .int 0 0] }).get? s.heap.objs.size = some (mt0 w) := Heap.get?_push_of_some _ (Heap.get?_push_size _ rfl)
  refine set_update_ints ((Walks.list (A := A.in1) (by simp [e0]) _ l d1 xs).toS) _ d2 ns n1 hb at_ (xs.size - 0) 0 _ (by omega) (Nat.zero_le _) ⟨⟨_, Heap.get?_push_size _ rfl, rfl, rfl⟩, l1.push _⟩ ⟨0, Nat.le_refl 0, setR_new_at g0⟩ fun s' c mv hc hs => ?_
  obtain ⟨h', a1, a2, tk, a3⟩ := s'
  have b1 : a1 = s.gens := mv.gens
  have b2 : a2 = s.drawn := mv.drawn
  have b3 : a3 = s.os := mv.os
  subst b1 b2 b3
  refine z h' tk c hs (n1 ▸ hc) fun b o e => mv.heap b o ?_ (Heap.get?_push_of_some _ (Heap.get?_push_of_some _ e))
  have bl := Heap.lt_size e
  intro q
  rcases List.mem_cons.mp q with q | q
  · exact Nat.ne_of_lt bl q
  · exact Nat.ne_of_lt (Nat.lt_succ_of_lt bl) ((List.mem_singleton.mp q).trans sz)
set_option maxHeartbeats 6400000 in
theorem set_ints_of {l : Addr} {xs : Array Value} (ns : List Int) {Q : Value → Shared → Prop} (e0 : A.handled = none) (hl : s.heap.IsList l xs) (hi : IntsAre xs.toList ns) (hb : ns.length + 1 < scanBound)
    (z : ∀ (h' : Heap) (tk c : Nat), SetR w h' s.heap.objs.size (fun j => decide (j ∈ ns)) c → c ≤ ns.length → (∀ b o, s.heap.get? b = some o → h'.get? b = some o) → Q (.ref s.heap.objs.size) { s with heap := h', toks := tk }) :
    wpAny (model P w) A (call (.type "set") [.ref l]) Q E s := by
  have F1 := F.called_set
  obtain ⟨m1, m2, hm⟩ := F1.mro
  have k1 := F1.made
  have k2 := F1.sub
  have k3 := F1.notType
  have k4 := F1.canCreate
  have k5 := F.typeCall_set_1 (.ref l)
  refine wpAny_call (codeAny_of_tree (show wpAny _ _ (callAny (.type "set") _) _ _ _ from wpAny_pure ⟨Code.quiet_builtin _ (by decide +kernel), codeAny_builtin F.entry_type_call ?_⟩))
  rw [Around.under_plain (weight_type_call_type "set" [.ref l] []) rfl]
  repeat (any_goals (first | assumption | wp_step))
  refine codeAny_mono (code_set_led1 (.ref l) (Q₁ := fun v t => v = .ref s.heap.objs.size ∧ t = { s with heap := s.heap.push (mt0 w) }) (E := E) ⟨rfl, rfl⟩) fun r t hr => ?_
  match r, hr with
  | .error _, hr => exact hr
  | .ok (.ret _), ⟨u1, u2⟩ =>
    subst u1 u2
    have o1 : (s.heap.push (mt0 w)).get? s.heap.objs.size = some (mt0 w) := Heap.get?_push_size _ rfl
    have o2 : Shared.TypeIs { s with heap := s.heap.push (mt0 w) } (.ref s.heap.objs.size) "set" := ⟨_, o1, rfl⟩
    have k6 := F1.init.lookup
    have k7 := F1.init.bind (.ref s.heap.objs.size)
    repeat (any_goals (first | assumption | wp_step))
    refine codeAny_mono (codeAny_call_builtin (R := wants (fun v t => v = .none ∧ ∃ h' tk c, t = { s with heap := h', toks := tk } ∧ SetR w h' s.heap.objs.size (fun j => decide (j ∈ ns)) c ∧ c ≤ ns.length ∧ ∀ b o, s.heap.get? b = some o → h'.get? b = some o) E) F1.init.plain F.entry_set_init (check_set_init_1 o2 ?_)) fun r t hr => ?_
    · have l1 : (s.heap.push (mt0 w)).IsList l xs := hl.push _
      obtain ⟨⟨c1, c2, c3, c4⟩, g1, g2, g3, g4⟩ := l1
      simp only at g2 g4
      subst g2
      subst g4
      have k8 := F.sub_list_set
      have k9 := F.sub_list_frozenset
      have k10 : (Value.type "list" == Value.type "dict") = false := by decide
      have l2 : (s.heap.push (mt0 w)).IsList l xs := hl.push _
      unfold Builtin.«set.__init__» noKeywords Builtin.Frozenset.updateFrom
      generalize hPI : pyIter = PI
      wp_walk
      subst hPI
      refine wpAny_pyIter_list l2 (wpAny_bind (wpAny_runValue (fill_set (by simp [e0]) hl hi hb fun h' tk c y1 y2 y3 => ?_)))
      show wpAny _ _ _ _ _ _
      refine wpAny_pure ?_
      show wpAny _ _ (PySem.ret Value.none) _ _ _
      exact wpAny_pure ⟨rfl, h', tk, c, rfl, y1, y2, y3⟩
    · match r, hr with
      | .error _, hr => exact hr
      | .ok (.ret _), ⟨u1, h', tk, c, u2, y1, y2, y3⟩ =>
        subst u1 u2
        repeat (any_goals (first | assumption | wp_step))
        exact z _ _ _ y1 y2 y3
end
end OW
namespace OW
open PySem PySem.Spec PyProof.Rows L2
section
variable {X : Cx}
/-- set(xs) of a list of ints, fewer than 60 -/
def rSetL (K : PySem.W.Frag) (w : World) : List V → Hp → VK → Prop := fun vs H Q => ∃ (p : Addr) (ns : List Int), vs = [.ref p] ∧ SqL K H p (ns.map V.int) ∧ ns.length < 60 ∧
  ∀ (a : Addr) (c : Nat), H a = none → c ≤ ns.length → Q (.ref a) (upd H a (SetO w a (fun j => decide (j ∈ ns)) c))
theorem cr_setL (hc : X.calm = true) : CallR X (.type "set") (rSetL X.K X.w) := by
  intro pins s σ H vs us Q I r h
  obtain ⟨p, ns, rfl, hq, h60, q⟩ := h
  rw [Vals.ref1 r]
  obtain ⟨its, rv, pl, hz⟩ := I.list hq
  have hi : IntsAre its.toArray.toList ns := by simpa using ints_of_vals rv
  refine set_ints_of ns (I.ok.hd hc) pl.isList hi (by unfold scanBound; omega) fun h' tk c R hcl kk => ?_
  exact ⟨.ref _, upd H s.heap.objs.size (SetO X.w s.heap.objs.size (fun j => decide (j ∈ ns)) c), I.laid (t' := tk) kk (Nat.le_refl _) (setO_new R), rfl, q _ c (I.hok.fresh (Nat.le_refl _)) hcl⟩
end
end OW
namespace OW
open PySem PySem.Spec PyProof.Rows L2
open DL (Dt Rp RpAll SqX pe_no pt_no pw_no ps_no pss_no FnG FnAt perm perm_vals rng enum zip2 blkX)

/-! ### what is walked -/
def Yld (K : PySem.W.Frag) (g : Gs) (ds : List Dt) (J : It) : Prop := ∀ g2 H2, GsOk g2 H2 → Same g.S g2.S →
  (∀ j d, ds[j]? = some d → J.go j H2 ∧ ∀ x H3, J.yld j H2 x H3 → ∃ g3, GsOk g3 H3 ∧ Same g2.S g3.S ∧ Same g2.M g3.M ∧ Rp K g3.S x d) ∧ J.stop ds.length H2
def rI (X : Cx) (g : Gs) (ds : List Dt) (J : It) (F : Fp) : Prop := Yld X.K g ds J ∧ Em F
def DI (X : Cx) (W : WX) (tg iter : Expr) (f : Fn (List Dt)) : Prop := ∀ ρ r, f ρ = some r → ∃ wi, PI X tg iter wi ∧ RX X W (rI X) wi ρ r
def iL (f : Fn Ow) : Fn (List Dt) := bnd f fun o => opt (match frz o with
  | some (.lst ds) => some ds
  | some (.tup ds) => some ds
  | _ => none)
def iR1 (f : Fn Ow) : Fn (List Dt) := bnd f fun o => opt (match o with
  | .f (.int n) => some ((rng 0 n.toNat).map .int)
  | _ => none)
def iR2 (f h : Fn Ow) : Fn (List Dt) := bnd f fun o => bnd h fun q => opt (match o, q with
  | .f (.int m), .f (.int n) => some ((rng m (n - m).toNat).map .int)
  | _, _ => none)
def iE (f : Fn Ow) : Fn (List Dt) := bnd f fun o => opt (match frz o with
  | some (.lst ds) => some (enum ds)
  | _ => none)
def iZ (f h : Fn Ow) : Fn (List Dt) := bnd f fun o => bnd h fun q => opt (match frz o, frz q with
  | some (.lst ds), some (.lst es) => some (zip2 ds es)
  | _, _ => none)
section
variable {X : Cx} {W : WX} {tg e e2 : Expr} {fe fe2 : Fn Ow} {pos p : Pos}
theorem pi_no {tg e : Expr} : PI X tg e (fun _ _ _ => False) := ⟨fun _ _ _ _ _ _ h => h.elim⟩
/-- what is walked stands -/
theorem wlk {σ : L2.St} {g g1 : Gs} {H1 : Hp} {F F1 Fv : Fp} {ρ1 : Ev} {o : Ow} {d : Dt} {v : V} (G1 : Good X g1 H1 σ ρ1 F1) (ed : frz o = some d) (r1 : OwR X.mg X.K g1 o v Fv) (d1 : Dj F1 Fv) (s1 : Stp g F g1 fun p => F1 p ∨ Fv p) :
    ∃ g2, Good X g2 H1 σ ρ1 F1 ∧ Rp X.K g2.S v d ∧ Stp g F g2 F1 ∧ Same g1.S g2.S := by
  have r2 := frzG_rp G1.ok ed r1
  have st := frzG_stp G1.ok (F := Fv) (F' := Fv) fun _ z => z
  obtain ⟨G2, d2, s2⟩ := G1.op s1 d1 (frzG_ok G1.ok) (st.sub (F' := fun _ => False) fun p z => z.elim)
  exact ⟨_, G2, r2, s2.sub fun p => .inl, frzG_st G1.ok⟩
theorem yld_list {K : PySem.W.Frag} {g : Gs} {a : Addr} {xs : List V} {ds : List Dt} (hs : SqX K g.S a xs) (rv : RpAll K g.S xs ds) : Yld K g ds (Itl K a) := fun g2 H2 k2 st => by
  have hs2 : SqL K H2 a xs := (DL.sqx_mono k2.s (DL.sqx_mono st hs)).l
  refine ⟨fun j d hj => ?_, ⟨xs, hs2, by rw [rv.len]; exact Nat.le_refl _⟩⟩
  obtain ⟨v, v1, v2⟩ := rv.at hj
  refine ⟨⟨xs, v, hs2, v1⟩, fun x H3 ⟨y1, y2⟩ => ?_⟩
  subst y1
  have e := y2 xs hs2
  rw [v1] at e
  cases e
  exact ⟨g2, k2, fun _ _ e => e, fun _ _ e => e, v2.mono st⟩
theorem yld_tup {K : PySem.W.Frag} {g : Gs} {a : Addr} {xs : List V} {ds : List Dt} (hs : SqT K g.S a xs) (rv : RpAll K g.S xs ds) : Yld K g ds (Itt K a) := fun g2 H2 k2 st => by
  have hs2 := DL.sqt_mono k2.s (DL.sqt_mono st hs)
  refine ⟨fun j d hj => ?_, ⟨xs, hs2, by rw [rv.len]; exact Nat.le_refl _⟩⟩
  obtain ⟨v, v1, v2⟩ := rv.at hj
  refine ⟨⟨xs, v, hs2, v1⟩, fun x H3 ⟨y1, y2⟩ => ?_⟩
  subst y1
  have e := y2 xs hs2
  rw [v1] at e
  cases e
  exact ⟨g2, k2, fun _ _ e => e, fun _ _ e => e, v2.mono st⟩
theorem yld_rng {K : PySem.W.Frag} {g : Gs} {lo : Int} {n : Nat} : Yld K g ((rng lo n).map Dt.int) (Itr lo n) := fun g2 H2 k2 st => by
  refine ⟨fun j d hj => ?_, show n ≤ _ by rw [List.length_map, DL.rng_length]; exact Nat.le_refl _⟩
  obtain ⟨h1, rfl⟩ := DL.rng_get hj
  refine ⟨h1, fun x H3 ⟨y1, y2⟩ => ?_⟩
  subst y1
  subst y2
  exact ⟨g2, k2, fun _ _ e => e, fun _ _ e => e, Rp.int _⟩
theorem yld_rngC {K : PySem.W.Frag} {g : Gs} {lo : Int} {n : Nat} : Yld K g ((rng lo n).map Dt.int) (Itc lo 1 n) := fun g2 H2 k2 st => by
  refine ⟨fun j d hj => ?_, show n ≤ _ by rw [List.length_map, DL.rng_length]; exact Nat.le_refl _⟩
  obtain ⟨h1, rfl⟩ := DL.rng_get hj
  refine ⟨h1, fun x H3 ⟨y1, y2⟩ => ?_⟩
  subst y1
  subst y2
  rw [Int.mul_one]
  exact ⟨g2, k2, fun _ _ e => e, fun _ _ e => e, Rp.int _⟩
theorem di_l (h : DE X W e fe) : DI X W tg e (iL fe) := fun ρ r hr => by
  rcases bnd_inv hr with ⟨o, ρ1, h1, h2⟩ | ⟨c, d, ρ1, h1, rfl⟩
  · obtain ⟨t, p, q⟩ := h ρ _ h1
    obtain ⟨ds, h3, rfl⟩ := opt_inv h2
    split at h3
    · rename_i ds' ed
      cases h3
      refine ⟨_, pi_list p, fun σ H g F R G z => q σ H g F _ G fun v H1 g1 F1 Fv G1 r1 d1 s1 => ?_⟩
      obtain ⟨g2, G2, rv, s2, st⟩ := wlk G1 ed r1 d1 s1
      cases rv with
      | lst a1 a2 => exact ⟨_, rfl, ⟨_, (DL.sqx_mono G2.ok.s a1).l⟩, z _ H1 g2 F1 (fun _ => False) G2 ⟨yld_list a1 a2, fun _ z => z⟩ (fun _ _ z => z) (s2.sub fun p y => y.elim id False.elim)⟩
    · rename_i ds' ed
      cases h3
      refine ⟨_, pi_tup p, fun σ H g F R G z => q σ H g F _ G fun v H1 g1 F1 Fv G1 r1 d1 s1 => ?_⟩
      obtain ⟨g2, G2, rv, s2, st⟩ := wlk G1 ed r1 d1 s1
      cases rv with
      | tup a1 a2 => exact ⟨_, rfl, ⟨_, DL.sqt_mono G2.ok.s a1⟩, z _ H1 g2 F1 (fun _ => False) G2 ⟨yld_tup a1 a2, fun _ z => z⟩ (fun _ _ z => z) (s2.sub fun p y => y.elim id False.elim)⟩
    · cases h3
  · obtain ⟨t, p, q⟩ := h ρ _ h1
    exact ⟨_, pi_list p, fun σ H g F R G z => q σ H g F _ G z⟩
theorem di_r1 {p : Pos} (hm : X.mg "range" = none) (h : DE X W e fe) (hg : Gl X "range" := by rfl) (hn : starEach [e] X.env = (false, eval e X.env) :: starEach [] X.env := by rfl) (hs : starEach [e] X.env = [(false, eval e X.env)] := by rfl) : DI X W tg (.Call (.Name "range" p) [e] [] pos) (iR1 fe) := fun ρ r hr => by
  rcases bnd_inv hr with ⟨o, ρ1, h1, h2⟩ | ⟨c, d, ρ1, h1, rfl⟩
  · obtain ⟨t, p, q⟩ := h ρ _ h1
    obtain ⟨ds, h3, rfl⟩ := opt_inv h2
    split at h3
    · cases h3
      refine ⟨_, pi_range1L hg hm (pa_cons p pa_nil hn) hs, fun σ H g F R G z => q σ H g F _ G fun v H1 g1 F1 Fv G1 r1 d1 s1 => ?_⟩
      obtain ⟨r1, ev⟩ := r1
      cases r1
      exact ⟨_, rfl, z _ H1 g1 F1 Fv G1 ⟨yld_rngC, ev⟩ d1 s1⟩
    · cases h3
  · obtain ⟨t, p, q⟩ := h ρ _ h1
    exact ⟨_, pi_range1L hg hm (pa_cons p pa_nil hn) hs, fun σ H g F R G z => q σ H g F _ G z⟩
theorem di_r2 {p : Pos} (hm : X.mg "range" = none) (h : DE X W e fe) (h' : DE X W e2 fe2) (hg : Gl X "range" := by rfl) (hn : starEach [e, e2] X.env = (false, eval e X.env) :: starEach [e2] X.env := by rfl) (hn2 : starEach [e2] X.env = (false, eval e2 X.env) :: starEach [] X.env := by rfl)
    (hs : starEach [e, e2] X.env = [(false, eval e X.env), (false, eval e2 X.env)] := by rfl) (hs2 : starEach [e2] X.env = [(false, eval e2 X.env)] := by rfl) : DI X W tg (.Call (.Name "range" p) [e, e2] [] pos) (iR2 fe fe2) := fun ρ r hr => by
  rcases bnd_inv hr with ⟨o, ρ1, h1, h2⟩ | ⟨c, d, ρ1, h1, rfl⟩
  · obtain ⟨t, p, q⟩ := h ρ _ h1
    rcases bnd_inv h2 with ⟨o2, ρ2, h3, h4⟩ | ⟨c, d, ρ2, h3, rfl⟩
    · obtain ⟨t2, p2, q2⟩ := h' ρ1 _ h3
      obtain ⟨ds, h5, rfl⟩ := opt_inv h4
      split at h5
      · cases h5
        · refine ⟨_, pi_range2L hg hm (pa_cons p (pa_cons p2 pa_nil hn2) hn) hs hs2, fun σ H g F R G z => q σ H g F _ G fun v H1 g1 F1 Fv G1 r1 d1 s1 => q2 σ H1 g1 F1 _ G1 fun v2 H2 g2 F2 Fw G2 r2 d2 s2 => ?_⟩
          obtain ⟨r1, ev⟩ := r1
          obtain ⟨r2, ev2⟩ := r2
          cases r1
          cases r2
          exact ⟨_, _, rfl, z _ H2 g2 F2 Fw G2 ⟨yld_rngC, ev2⟩ d2 ((Stp.trans s1 s2).sub fun p => .inl)⟩
      · cases h5
    · obtain ⟨t2, p2, q2⟩ := h' ρ1 _ h3
      exact ⟨_, pi_range2L hg hm (pa_cons p (pa_cons p2 pa_nil hn2) hn) hs hs2, fun σ H g F R G z => q σ H g F _ G fun v H1 g1 F1 Fv G1 r1 d1 s1 => q2 σ H1 g1 F1 _ G1 (Pst.next (rel := rI X) (Q := R) (r := .ex c d ρ2) z s1)⟩
  · obtain ⟨t, p, q⟩ := h ρ _ h1
    exact ⟨_, pi_range2L hg hm (pa_cons p (pa_cons (pe_no (e := e2)) pa_nil hn2) hn) hs hs2, fun σ H g F R G z => q σ H g F _ G z⟩
theorem di_e {elts : List Expr} {kk : Nat} {p tpos : Pos} (hm : X.mg "enumerate" = none) (h : DE X W e fe) (hg : Gl X "enumerate" := by rfl) (hn : starEach [e] X.env = (false, eval e X.env) :: starEach [] X.env := by rfl) (hs : starEach [e] X.env = [(false, eval e X.env)] := by rfl) :
    DI X W (.Tuple elts kk tpos) (.Call (.Name "enumerate" p) [e] [] pos) (iE fe) := fun ρ r hr => by
  rcases bnd_inv hr with ⟨o, ρ1, h1, h2⟩ | ⟨c, d, ρ1, h1, rfl⟩
  · obtain ⟨t, p, q⟩ := h ρ _ h1
    obtain ⟨ds, h3, rfl⟩ := opt_inv h2
    split at h3
    · rename_i ds' ed
      cases h3
      refine ⟨_, pi_enum hg hm (pa_cons p pa_nil hn) hs, fun σ H g F R G z => q σ H g F _ G fun v H1 g1 F1 Fv G1 r1 d1 s1 => ?_⟩
      obtain ⟨g2, G2, rv, s2, st⟩ := wlk G1 ed r1 d1 s1
      cases rv with
      | lst a1 a2 =>
        refine ⟨_, _, rfl, (DL.sqx_mono G2.ok.s a1).l, z _ H1 g2 F1 (fun _ => False) G2 ⟨fun g3 H3 k3 st3 => ?_, fun _ z => z⟩ (fun _ _ z => z) (s2.sub fun p y => y.elim id False.elim)⟩
        have hs2 := (DL.sqx_mono k3.s (DL.sqx_mono st3 a1)).l
        refine ⟨fun j d hj => ?_, ⟨_, hs2, by rw [DL.enum_length, a2.len]; exact Nat.le_refl _⟩⟩
        obtain ⟨y, y1, rfl⟩ := DL.enum_get hj
        obtain ⟨v, v1, v2⟩ := a2.at y1
        refine ⟨⟨_, v, hs2, v1⟩, fun x H4 ⟨T, w, w1, w2, w3, w4⟩ => ?_⟩
        subst w1
        subst w3
        have e := w4 _ hs2
        rw [v1] at e
        cases e
        obtain ⟨b1, b2, b3⟩ := new_t (F := fun _ => False) k3 (vs := [.int (j : Int), v]) (ds := [.int (j : Int), y]) (.cons (.int _) (.cons (v2.mono st3) .nil)) w2
        exact ⟨_, b1, b3.st, fun p o e => b3.mu p o e fun z => z, b2⟩
    · cases h3
  · obtain ⟨t, p, q⟩ := h ρ _ h1
    exact ⟨_, pi_enum hg hm (pa_cons p pa_nil hn) hs, fun σ H g F R G z => q σ H g F _ G z⟩
theorem di_z {elts : List Expr} {kk : Nat} {p tpos : Pos} (hm : X.mg "zip" = none) (h : DE X W e fe) (h' : DE X W e2 fe2) (hg : Gl X "zip" := by rfl) (hn : starEach [e, e2] X.env = (false, eval e X.env) :: starEach [e2] X.env := by rfl) (hn2 : starEach [e2] X.env = (false, eval e2 X.env) :: starEach [] X.env := by rfl)
    (hpl : (backTo pos (starEach [e2] X.env)).any (·.1) = false := by rfl) : DI X W (.Tuple elts kk tpos) (.Call (.Name "zip" p) [e, e2] [] pos) (iZ fe fe2) := fun ρ r hr => by
  rcases bnd_inv hr with ⟨o, ρ1, h1, h2⟩ | ⟨c, d, ρ1, h1, rfl⟩
  · obtain ⟨t, p, q⟩ := h ρ _ h1
    rcases bnd_inv h2 with ⟨o2, ρ2, h3, h4⟩ | ⟨c, d, ρ2, h3, rfl⟩
    · obtain ⟨t2, p2, q2⟩ := h' ρ1 _ h3
      obtain ⟨ds, h5, rfl⟩ := opt_inv h4
      split at h5
      · rename_i ds' es' ed ee
        cases h5
        refine ⟨_, pi_zip hg hm (pa_cons p (pa_cons p2 pa_nil hn2) hn) hn hpl, fun σ H g F R G z => RX.seq (Q := fun v u H2 => ∃ a b xs ys, [v, u] = [V.ref a, V.ref b] ∧ SqL X.K H2 a xs ∧ SqL X.K H2 b ys ∧ R _ H2) frm_V frm_V q q2 G fun v u H2 g2 F2 Fa Fb G2 r1 r2 d1 d2 s => ?_⟩
        have eo : frzs [o, o2] = some [.lst ds', .lst es'] := by simp [frzs, ed, ee]
        have ow : OwRs X.mg X.K g2 [o, o2] [v, u] fun p => Fa p ∨ Fb p := ⟨v, [u], Fa, Fb, rfl, r1, OwRs.one r2, d1, fun p => Iff.rfl⟩
        obtain ⟨k1, r3, s3⟩ := frzs_ok G2.ok eo ow
        obtain ⟨G3, d3, s4⟩ := G2.op s d2 k1 s3
        cases r3 with
        | cons r4 r5 =>
          cases r5 with
          | cons r6 r7 =>
            cases r4 with
            | lst h1 h2 =>
              cases r6 with
              | lst i1 i2 =>
                refine ⟨_, _, _, _, rfl, (DL.sqx_mono G3.ok.s h1).l, (DL.sqx_mono G3.ok.s i1).l, z _ H2 _ F2 (fun _ => False) G3 ⟨fun g3 H3 k3 st => ?_, fun _ z => z⟩ (fun _ _ z => z) s4⟩
                have a1 := (DL.sqx_mono k3.s (DL.sqx_mono st h1)).l
                have a2 := (DL.sqx_mono k3.s (DL.sqx_mono st i1)).l
                refine ⟨fun j d hj => ?_, ⟨_, _, a1, a2, ?_⟩⟩
                · obtain ⟨x, y, x1, y1, rfl⟩ := DL.zip2_get hj
                  obtain ⟨v, v1, v2⟩ := h2.at x1
                  obtain ⟨u, u1, u2⟩ := i2.at y1
                  refine ⟨⟨_, _, v, u, a1, a2, v1, u1⟩, fun x H4 ⟨T, w, w', w1, w2, w3, w4, w5⟩ => ?_⟩
                  subst w1
                  subst w3
                  have e := w4 _ a1
                  have e' := w5 _ a2
                  rw [v1] at e
                  rw [u1] at e'
                  cases e
                  cases e'
                  obtain ⟨b1, b2, b3⟩ := new_t (F := fun _ => False) k3 (RpAll.cons (v2.mono st) (.cons (u2.mono st) .nil)) w2
                  exact ⟨_, b1, b3.st, fun p o e => b3.mu p o e fun z => z, b2⟩
                · unfold zip2
                  rw [List.length_zipWith, h2.len, i2.len]
                  omega
      · cases h5
    · obtain ⟨t2, p2, q2⟩ := h' ρ1 _ h3
      exact ⟨_, pi_zip hg hm (pa_cons p (pa_cons p2 pa_nil hn2) hn) hn hpl, fun σ H g F R G z => q σ H g F _ G fun v H1 g1 F1 Fv G1 r1 d1 s1 => q2 σ H1 g1 F1 _ G1 (Pst.next (rel := rI X) (Q := R) (r := .ex c d ρ2) z s1)⟩
  · obtain ⟨t, p, q⟩ := h ρ _ h1
    exact ⟨_, pi_zip hg hm (pa_cons p (pa_cons (pe_no (e := e2)) pa_nil hn2) hn) hn hpl, fun σ H g F R G z => q σ H g F _ G z⟩
end

/-! ### for -/
def forL (gf : GF) (b : SF) : List Dt → SF
  | [], ρ => some (.nx ρ)
  | d :: ds, ρ => match gf d ρ with
    | none => none
    | some ρ1 => match b ρ1 with
      | some (.nx ρ2) => forL gf b ds ρ2
      | some (.ct ρ2) => forL gf b ds ρ2
      | some (.bk ρ2) => some (.nx ρ2)
      | r => r
def sFor (fi : Fn (List Dt)) (gf : GF) (b : SF) : SF := sVal fi fun ds => forL gf b ds
section
variable {X : Cx} {W : WX} {Z : List (Nat × V)} {tg iter c : Expr} {body : List Stmt} {fi : Fn (List Dt)} {gf : GF} {b : SF} {tc : Fn Bool} {pos : Pos} {vs : List Nat}
theorem ds_for (hc : X.calm = true) (hi : DI X W tg iter fi) (hg : DG X Z vs tg gf) (hb : DSs X W Z body b) (hp : PassesOwn (model X.prog X.w) X.A X.env X.xe) (hf : ∀ x, foldedSetIterable iter X.env x = pure x := by intro _; rfl) : DS X W Z (.For tg iter body [] pos) (sFor fi gf b) := fun ρ r hr => by
  have fp : ∀ {wi : TI}, PI X tg iter wi → PS X (.For tg iter body [] pos) (tFor wi (fun v σ H Q => ∃ t, PG X tg t ∧ t v σ H Q) (fun D σ H => ∃ u, PSs X body u ∧ u D σ H)) := fun p =>
    ps_for (g := fun v σ H Q => ∃ t, PG X tg t ∧ t v σ H Q) (tb := fun D σ H => ∃ u, PSs X body u ∧ u D σ H) hp hc p ⟨fun pins s σ H v u Q I r ⟨t, pt, ht⟩ => pt.run pins s σ H v u Q I r ht⟩ ⟨fun pins s σ H D I ⟨u, pu, hu⟩ => pu.run pins s σ H D I hu⟩ hf
  rcases sVal_inv hr with ⟨ds, ρ1, h1, h2⟩ | ⟨c, d, ρ1, h1, rfl⟩
  · obtain ⟨wi, pi, qi⟩ := hi ρ _ h1
    refine ⟨_, fp pi, fun σ H g F D G z k => qi σ H g F _ G fun J H1 g1 F1 Fv G1 ⟨y, ev⟩ d1 s1 => ?_⟩
    have s1' : Stp g F g1 F1 := s1.sub fun p => .inl
    refine ⟨fun i m σ' H' => m = ds.length - i ∧ i ≤ ds.length ∧ ∃ g' F' ρ', Good X g' H' σ' ρ' F' ∧ Zok Z σ' ∧ Stp g1 F1 g' F' ∧ forL gf b (ds.drop i) ρ' = some r, ⟨ds.length, by simp, Nat.zero_le _, g1, F1, ρ1, G1, z, Stp.refl fun _ z => z, by simpa using h2⟩, ?_⟩
    rintro i m σ' H' ⟨rfl, hi, g', F', ρ', G', z', st, hl⟩
    obtain ⟨y1, y2⟩ := y g' H' G'.ok st.st
    by_cases hlt : i < ds.length
    · obtain ⟨d, hd'⟩ : ∃ d, ds[i]? = some d := ⟨ds[i], List.getElem?_eq_getElem hlt⟩
      have hdrop : ds.drop i = d :: ds.drop (i + 1) := by
        rw [List.drop_eq_getElem_cons hlt]
        rw [List.getElem?_eq_getElem hlt] at hd'
        cases hd'
        rfl
      rw [hdrop] at hl
      obtain ⟨go, yl⟩ := y1 i d hd'
      unfold forL at hl
      cases eg : gf d ρ' with
      | none => rw [eg] at hl; cases hl
      | some ρ2 =>
        rw [eg] at hl
        refine .inr ⟨go, fun σ2 H2 => ∃ g2 F2 ρ3, Good X g2 H2 σ2 ρ3 F2 ∧ Zok Z σ2 ∧ Stp g1 F1 g2 F2 ∧ forL gf b (ds.drop (i + 1)) ρ3 = some r, fun σ2 H2 zz => ⟨ds.length - (i + 1), by omega, rfl, hlt, zz⟩, fun x H3 hy => ?_⟩
        obtain ⟨g3, k3, ss, sm, rv3⟩ := yl x H3 hy
        have G3 : Good X g3 H3 σ' ρ' F' := ⟨k3, G'.sr.kp ⟨ss, fun p o _ e => sm p o e⟩⟩
        have st3 : Stp g1 F1 g3 F' := st.tr ⟨ss, fun p o e _ => sm p o e, fun p z => .inl z⟩
        obtain ⟨t, pt, qt⟩ := hg d ρ' ρ2 eg
        refine ⟨t, pt, qt x σ' H3 g3 F' _ G3 z' rv3 fun σ4 F4 G4 z4 w4 o4 => ?_⟩
        have st4 : Stp g1 F1 g3 F4 := st3.sub w4
        cases eb : b ρ2 with
        | none => simp only [eb] at hl; cases hl
        | some r2 =>
          simp only [eb] at hl
          obtain ⟨u, pu, qu⟩ := hb ρ2 r2 eb
          refine ⟨u, pu, qu σ4 H3 g3 F4 _ G4 z4 ?_⟩
          have sb : Stp g F g3 F4 := s1'.tr st4
          cases r2 with
          | nx ρ5 => exact fun σ5 H5 g5 F5 G5 z5 s5 => ⟨g5, F5, ρ5, G5, z5, st4.tr s5, hl⟩
          | ct ρ5 => exact fun σ5 H5 g5 F5 G5 z5 s5 => ⟨g5, F5, ρ5, G5, z5, st4.tr s5, hl⟩
          | bk ρ5 =>
            cases hl
            exact fun σ5 H5 g5 F5 G5 z5 s5 => k σ5 H5 g5 F5 G5 z5 (sb.tr s5)
          | rt o ρ5 =>
            cases hl
            exact k.next0 sb
          | ex c d ρ5 =>
            cases hl
            exact k.next0 sb
    · have e : i = ds.length := by omega
      subst e
      rw [List.drop_length] at hl
      cases hl
      exact .inl ⟨y2, k σ' H' g' F' G' z' (s1'.tr st)⟩
  · obtain ⟨wi, pi, qi⟩ := hi ρ _ h1
    exact ⟨_, fp pi, fun σ H g F D G z k => qi σ H g F _ G fun cls dx H1 g1 F1 G1 e1 s1 => k cls dx σ H1 g1 F1 G1 z e1 s1⟩
/-! ### while -/
def whN (t : Fn Bool) (b : SF) : Nat → SF
  | 0, _ => none
  | n + 1, ρ => match t ρ with
    | none => none
    | some (.ex c d ρ1) => some (.ex c d ρ1)
    | some (.ok false ρ1) => some (.nx ρ1)
    | some (.ok true ρ1) => match b ρ1 with
      | some (.nx ρ2) => whN t b n ρ2
      | some (.ct ρ2) => whN t b n ρ2
      | some (.bk ρ2) => some (.nx ρ2)
      | r => r
open Classical in
noncomputable def sWh (t : Fn Bool) (b : SF) : SF := fun ρ => if h : ∃ r, ∃ n, whN t b n ρ = some r then some (Classical.choose h) else none
theorem whN_up {t : Fn Bool} {b : SF} : ∀ {n m : Nat} {ρ : Ev} {r : So}, n ≤ m → whN t b n ρ = some r → whN t b m ρ = some r
  | 0, _, _, _, _, h => by cases h
  | n + 1, 0, _, _, hl, _ => by omega
  | n + 1, m + 1, ρ, r, hl, h => by
    unfold whN at h ⊢
    split at h
    · cases h
    · rename_i c d ρ1 e1; first | exact h | (simp only [e1]; exact h)
    · rename_i ρ1 e1; first | exact h | (simp only [e1]; exact h)
    · rename_i ρ1 e1
      try simp only [e1]
      split at h
      · rename_i ρ2 e2; first | exact whN_up (by omega) h | (simp only [e2]; exact whN_up (by omega) h)
      · rename_i ρ2 e2; first | exact whN_up (by omega) h | (simp only [e2]; exact whN_up (by omega) h)
      · rename_i ρ2 e2; first | exact h | (simp only [e2]; exact h)
      · rename_i q1 q2 q3
        cases e2 : b ρ1 with
        | none => rw [e2] at h; cases h
        | some r2 =>
          rw [e2] at h
          cases r2 with
          | nx ρ2 => exact (q1 _ e2).elim
          | ct ρ2 => exact (q2 _ e2).elim
          | bk ρ2 => exact (q3 _ e2).elim
          | rt o ρ2 => exact h
          | ex c d ρ2 => exact h
theorem sWh_of {t : Fn Bool} {b : SF} {n : Nat} {ρ : Ev} {r : So} (h : whN t b n ρ = some r) : sWh t b ρ = some r := by
  have hx : ∃ r, ∃ n, whN t b n ρ = some r := ⟨r, n, h⟩
  unfold sWh
  rw [dif_pos hx]
  obtain ⟨m, hm⟩ := Classical.choose_spec hx
  have a := whN_up (Nat.le_max_left n m) h
  have b := whN_up (Nat.le_max_right n m) hm
  rw [a] at b
  exact b.symm
theorem sWh_inv {t : Fn Bool} {b : SF} {ρ : Ev} {r : So} (h : sWh t b ρ = some r) : ∃ n, whN t b n ρ = some r := by
  unfold sWh at h
  split at h
  · rename_i hx
    cases h
    exact Classical.choose_spec hx
  · cases h
theorem ds_wh (hc : DT X W c tc) (hb : DSs X W Z body b) (hp : PassesOwn (model X.prog X.w) X.A X.env X.xe) : DS X W Z (.While c body [] pos) (sWh tc b) := fun ρ r hr => by
  obtain ⟨n, hn⟩ := sWh_inv hr
  refine ⟨_, ps_while (tc := fun σ H Q => ∃ t, PT X c t ∧ t σ H Q) (tb := fun D σ H => ∃ u, PSs X body u ∧ u D σ H) hp ⟨fun pins s σ H Q I ⟨t, pt, ht⟩ => pt.run pins s σ H Q I ht⟩ ⟨fun pins s σ H D I ⟨u, pu, hu⟩ => pu.run pins s σ H D I hu⟩, fun σ H g F D G z k => ?_⟩
  refine ⟨fun m σ' H' => ∃ g' F' ρ', Good X g' H' σ' ρ' F' ∧ Zok Z σ' ∧ Stp g F g' F' ∧ whN tc b m ρ' = some r, ⟨n, g, F, ρ, G, z, Stp.refl fun _ z => z, hn⟩, ?_⟩
  rintro m σ' H' ⟨g', F', ρ', G', z', st, hl⟩
  cases m with
  | zero => cases hl
  | succ m =>
    unfold whN at hl
    split at hl
    · cases hl
    · rename_i c d ρ1 e1
      cases hl
      obtain ⟨t, pt, qt⟩ := hc ρ' _ e1
      exact ⟨t, pt, qt σ' H' g' F' _ G' fun cls dx H1 g1 F1 G1 e1 s1 => k cls dx σ' H1 g1 F1 G1 z' e1 (st.tr s1)⟩
    · rename_i ρ1 e1
      cases hl
      obtain ⟨t, pt, qt⟩ := hc ρ' _ e1
      refine ⟨t, pt, qt σ' H' g' F' _ G' fun v H1 g1 F1 Fv G1 rv d1 s1 => ?_⟩
      obtain ⟨rfl, _⟩ := rv
      exact iteF (k σ' H1 g1 F1 G1 z' (st.tr (s1.sub fun p => .inl)))
    · rename_i ρ1 e1
      obtain ⟨t, pt, qt⟩ := hc ρ' _ e1
      refine ⟨t, pt, qt σ' H' g' F' _ G' fun v H1 g1 F1 Fv G1 rv d1 s1 => ?_⟩
      obtain ⟨rfl, _⟩ := rv
      have s1' : Stp g F g1 F1 := st.tr (s1.sub fun p => .inl)
      cases eb : b ρ1 with
      | none => simp only [eb] at hl; cases hl
      | some r2 =>
        simp only [eb] at hl
        obtain ⟨u, pu, qu⟩ := hb ρ1 r2 eb
        refine iteT ⟨fun σ2 H2 => ∃ m', m' < m + 1 ∧ ∃ g' F' ρ', Good X g' H2 σ2 ρ' F' ∧ Zok Z σ2 ∧ Stp g F g' F' ∧ whN tc b m' ρ' = some r, fun σ2 H2 zz => zz, u, pu, qu σ' H1 g1 F1 _ G1 z' ?_⟩
        cases r2 with
        | nx ρ5 => exact fun σ5 H5 g5 F5 G5 z5 s5 => ⟨m, by omega, g5, F5, ρ5, G5, z5, s1'.tr s5, hl⟩
        | ct ρ5 => exact fun σ5 H5 g5 F5 G5 z5 s5 => ⟨m, by omega, g5, F5, ρ5, G5, z5, s1'.tr s5, hl⟩
        | bk ρ5 =>
          cases hl
          exact fun σ5 H5 g5 F5 G5 z5 s5 => k σ5 H5 g5 F5 G5 z5 (s1'.tr s5)
        | rt o ρ5 =>
          cases hl
          exact k.next0 s1'
        | ex c d ρ5 =>
          cases hl
          exact k.next0 s1'
end
end OW
namespace OW
open PySem PySem.Spec PyProof.Rows L2
open DL (Dt Rp RpAll SqX pe_no pt_no pw_no ps_no pss_no FnG FnAt perm perm_vals rng enum zip2 blkX)

/-! ### comprehensions -/
def wipeO (ρ : Ev) : List Nat → Ev
  | [] => ρ
  | v :: vs => (wipeO ρ vs).set v .no
/-- the names of the block are what they were, where that was shared -/
def back (ρ0 ρ : Ev) : List Nat → Ev
  | [] => ρ
  | v :: vs => (back ρ0 ρ vs).set v (match ρ0[v]? with
    | some (.f d) => .f d
    | _ => .no)
def DTs (X : Cx) (W : WX) (ifs : List Expr) (f : Fn Bool) : Prop := ∀ ρ r, f ρ = some r → ∃ t, PTs X ifs t ∧ RX X W rB t ρ r
def tY : Fn Bool := ret true
abbrev W0 : WX := fun _ _ _ _ => False
theorem dts_0 {X : Cx} {W : WX} : DTs X W [] tY := fun ρ r h => by
  cases h
  exact ⟨_, pts_nil, rx_ret (b := true) (fun σ H Q q => q) fun g => ⟨rfl, fun _ z => z⟩⟩
theorem dts_1 {X : Cx} {W : WX} {c : Expr} {f : Fn Bool} (h : DT X W c f) : DTs X W [c] f := fun ρ r hr => let ⟨t, p, q⟩ := h ρ r hr; ⟨t, pts_one p, q⟩
def compL (vs : List Nat) (gf : GF) (tc : Fn Bool) (fe : Fn Ow) : List Dt → List Ow → Fn (List Ow)
  | [], acc, ρ => some (.ok acc ρ)
  | d :: ds, acc, ρ => match gf d (wipeO ρ vs) with
    | none => none
    | some ρ1 => match tc ρ1 with
      | some (.ok true ρ2) => match fe ρ2 with
        | some (.ok o ρ3) => compL vs gf tc fe ds (acc ++ [o]) (back ρ ρ3 vs)
        | _ => none
      | some (.ok false ρ2) => compL vs gf tc fe ds acc (back ρ ρ2 vs)
      | _ => none
def xComp (vs : List Nat) (fi : Fn (List Dt)) (gf : GF) (tc : Fn Bool) (fe : Fn Ow) : Fn Ow := bnd fi fun ds => if ds.length ≤ LIM then bnd (compL vs gf tc fe ds []) fun os => ret (.l os) else fun _ => none
section
variable {mg : Str → Option Value} {K : PySem.W.Frag} {g : Gs}
theorem Srs.setNo {ρ : Ev} {σ : L2.St} {F : Fp} (h : Srs mg K g ρ σ F) (i : Nat) (v : Option V) : ∃ F', Srs mg K g (ρ.set i .no) (σ.set i v) F' ∧ ∀ p, F' p → F p := by
  by_cases il : i < ρ.length
  · obtain ⟨v0, F1, F2, e1, e2, e3, e4, e5⟩ := h.at (List.getElem?_eq_getElem il)
    exact ⟨_, e5 g .no v (fun _ => False) Kp.refl (.inl ⟨rfl, fun _ z => z⟩) fun _ z _ => z, fun p z => (e4 p).mpr (.inr (z.elim False.elim id))⟩
  · have l := h.len
    rw [List.set_eq_of_length_le (by omega), List.set_eq_of_length_le (by omega)]
    exact ⟨F, h, fun _ z => z⟩
theorem Srs.wipe : ∀ {vs : List Nat} {ρ : Ev} {σ : L2.St} {F : Fp}, Srs mg K g ρ σ F → ∃ F', Srs mg K g (wipeO ρ vs) (L2.wipe σ vs) F' ∧ ∀ p, F' p → F p
  | [], _, _, F, h => ⟨F, h, fun _ z => z⟩
  | v :: vs, ρ, σ, F, h => by
    obtain ⟨F1, h1, w1⟩ := Srs.wipe (vs := vs) h
    obtain ⟨F2, h2, w2⟩ := h1.setNo v none
    exact ⟨F2, h2, fun p z => w1 p (w2 p z)⟩
theorem wipe_get {σ : L2.St} {i : Nat} : ∀ {vs : List Nat}, i ∈ vs → (L2.wipe σ vs)[i]? = if i < σ.length then some none else none := DL.wipe_in
/-- outside of the block: its own names have their former values -/
theorem Srs.back {ρ0 : Ev} {σ0 : L2.St} {F0 : Fp} {g0 : Gs} (h0 : Srs mg K g0 ρ0 σ0 F0) (st : Same g0.S g.S) : ∀ {vs : List Nat} {ρ : Ev} {σ : L2.St} {F : Fp}, Srs mg K g ρ σ F → σ.length = σ0.length → (∀ j, j ∉ vs → σ[j]? = σ0[j]?) →
    ∃ F', Srs mg K g (OW.back ρ0 ρ vs) σ0 F' ∧ ∀ p, F' p → F p := by
  -- one by one: the slots of a list are set to what they were
  have step : ∀ (vs : List Nat) (ρ : Ev) (σ : L2.St) (F : Fp), Srs mg K g ρ σ F → σ.length = σ0.length → ∃ σ' F', Srs mg K g (OW.back ρ0 ρ vs) σ' F' ∧ (∀ p, F' p → F p) ∧ σ'.length = σ.length ∧ (∀ j, j ∈ vs → j < σ0.length → σ'[j]? = σ0[j]?) ∧ ∀ j, j ∉ vs → σ'[j]? = σ[j]? := by
    intro vs
    induction vs with
    | nil => exact fun ρ σ F h _ => ⟨σ, F, h, fun _ z => z, rfl, fun j z => by simp at z, fun j _ => rfl⟩
    | cons v vs ih =>
      intro ρ σ F h hL
      obtain ⟨σ1, F1, h1, w1, l1, m1, n1⟩ := ih ρ σ F h hL
      have hlen : σ1.length = (OW.back ρ0 ρ vs).length := h1.len
      by_cases il : v < (OW.back ρ0 ρ vs).length
      · obtain ⟨v0, G1, G2, e1, e2, e3, e4, e5⟩ := h1.at (List.getElem?_eq_getElem il)
        have upd : ∀ (o : Ow) (x : Option V), σ0[v]? = some x → SlR mg K g o x (fun _ => False) → ∃ σ' F', Srs mg K g ((OW.back ρ0 ρ vs).set v o) σ' F' ∧ (∀ p, F' p → F p) ∧ σ'.length = σ.length ∧ (∀ j, j ∈ v :: vs → j < σ0.length → σ'[j]? = σ0[j]?) ∧ ∀ j, j ∉ v :: vs → σ'[j]? = σ[j]? := fun o x hx hs => by
          refine ⟨σ1.set v x, _, e5 g o x (fun _ => False) Kp.refl hs fun _ z _ => z, fun p z => w1 p ((e4 p).mpr (.inr (z.elim False.elim id))), by rw [List.length_set, l1], fun j hj hl => ?_, fun j hj => ?_⟩
          · by_cases hjv : v = j
            · subst hjv
              rw [List.getElem?_set_self (by omega), hx]
            · rw [List.getElem?_set_ne hjv]
              exact m1 j ((List.mem_cons.mp hj).resolve_left fun z => hjv z.symm) hl
          · rw [List.getElem?_set_ne fun z => hj (by rw [← z]; exact List.mem_cons_self)]
            exact n1 j fun z => hj (List.mem_cons_of_mem _ z)
        unfold OW.back
        by_cases i0 : v < σ0.length
        · have hx : σ0[v]? = some σ0[v] := List.getElem?_eq_getElem i0
          split
          · rename_i d ed
            refine upd _ _ hx ?_
            obtain ⟨w0, K1, K2, f1, f2, f3, f4, f5⟩ := h0.at ed
            rw [hx] at f1
            cases f1
            obtain ⟨u, hu, hr⟩ := f2.get (by simp)
            exact .inr ⟨u, hu, hr.1.mono st, fun _ z => z⟩
          · exact upd _ _ hx (.inl ⟨rfl, fun _ z => z⟩)
        · have e0 : ρ0[v]? = none := List.getElem?_eq_none (by have := h0.len; omega)
          rw [e0]
          obtain ⟨F2, a1, a2⟩ := h1.setNo v (σ1.getD v none)
          refine ⟨σ1.set v (σ1.getD v none), F2, a1, fun p z => w1 p (a2 p z), by rw [List.length_set, l1], fun j hj hl => ?_, fun j hj => ?_⟩
          · have hjv : v ≠ j := by omega
            rw [List.getElem?_set_ne hjv]
            exact m1 j ((List.mem_cons.mp hj).resolve_left fun z => hjv z.symm) hl
          · rw [List.getElem?_set_ne fun z => hj (by rw [← z]; exact List.mem_cons_self)]
            exact n1 j fun z => hj (List.mem_cons_of_mem _ z)
      · unfold OW.back
        rw [List.set_eq_of_length_le (by omega)]
        refine ⟨σ1, F1, h1, w1, l1, fun j hj hl => ?_, fun j hj => n1 j fun z => hj (List.mem_cons_of_mem _ z)⟩
        rcases List.mem_cons.mp hj with rfl | hj
        · omega
        · exact m1 j hj hl
  intro vs ρ σ F h hl ho
  obtain ⟨σ', F', h1, w1, l1, m1, n1⟩ := step vs ρ σ F h hl
  have e : σ' = σ0 := by
    apply List.ext_getElem?
    intro j
    by_cases hj : j ∈ vs
    · by_cases jl : j < σ0.length
      · exact m1 j hj jl
      · rw [List.getElem?_eq_none (by omega), List.getElem?_eq_none (by omega)]
    · rw [n1 j hj, ho j hj]
  rw [← e]
  exact ⟨F', h1, w1⟩
end
section
variable {X : Cx} {W : WX} {Z : List (Nat × V)} {elt tg iter : Expr} {ifs : List Expr} {scope : Scope} {own : List (Str × Nat)} {fi : Fn (List Dt)} {gf : GF} {tc : Fn Bool} {fe : Fn Ow} {pos : Pos}
/-- the reading of a comprehension -/
theorem comp_rx (hg : ∀ s H C cl fp, DG (blkX X scope s H C cl fp) [] (own.map (·.2)) tg gf) (ht : ∀ s H C cl fp, DTs (blkX X scope s H C cl fp) W0 ifs tc) (he : ∀ s H C cl fp, DE (blkX X scope s H C cl fp) W0 elt fe)
    {wi : TI} {ρ : Ev} {r : Rs Ow} (h : ∃ ds ρ1, RX X W (rI X) wi ρ (.ok ds ρ1) ∧ ds.length ≤ LIM ∧ ∃ out ρ2, compL (own.map (·.2)) gf tc fe ds [] ρ1 = some (.ok out ρ2) ∧ r = .ok (.l out) ρ2) :
    RX X W (rV X) (tLc wi (fun v σ H Q => ∀ s H0 C cl fp, ∃ t, PG (blkX X scope s H0 C cl fp) tg t ∧ t v σ H Q) (fun σ H Q => ∀ s H0 C cl fp, ∃ t, PTs (blkX X scope s H0 C cl fp) ifs t ∧ t σ H Q) (fun σ H Q => ∀ s H0 C cl fp, ∃ t, PE (blkX X scope s H0 C cl fp) elt t ∧ t σ H Q) (own.map (·.2))) ρ r := by
  obtain ⟨ds, ρ1, qi, hz, out, ρ2, hl0, rfl⟩ := h
  generalize hvs : own.map (·.2) = vs at *
  intro σ H g F Q G q
  refine qi σ H g F _ G fun J H1 g1 F1 Fv G1 ⟨y, ev⟩ d1 s1 D hD => ?_
  have s1' : Stp g F g1 F1 := s1.sub fun p => .inl
  obtain ⟨fS, fM⟩ := G1.ok.free hD
  have nF1 : ¬ F1 D := fun z => by
    obtain ⟨u, e⟩ := G1.sr.in_ D z
    rw [fM] at e; cases e
  refine ⟨fun i m H' => m = ds.length - i ∧ i ≤ ds.length ∧ ∃ g' F' ρ' acc va Fa, Good X g' H' σ ρ' F' ∧ g'.M D = some (.lst va) ∧ OwRs X.mg X.K g' acc va Fa ∧ acc.length ≤ i ∧ Dj F' Fa ∧ ¬ F' D ∧ ¬ Fa D ∧ Stp g1 F1 g' (fun p => F' p ∨ (p = D ∨ Fa p)) ∧ compL vs gf tc fe (ds.drop i) acc ρ' = some (.ok out ρ2),
    ⟨ds.length, by simp, Nat.zero_le _, g1.hold D (.lst []), F1, ρ1, [], [], fun _ => False, ⟨hold_ok G1.ok hD, G1.sr.kp (hold_kp nF1)⟩, upd_same, ⟨rfl, fun _ z => z⟩, Nat.le_refl _, fun _ _ z => z, nF1, fun z => z, ?_, by simpa using hl0⟩, ?_⟩
  · refine ⟨fun _ _ e => e, fun p o e n => ?_, fun p z => ?_⟩
    · show upd g1.M D _ p = _
      rw [upd_ne (ne_of_none e fM)]; exact e
    · rcases z with z | z | z
      · exact .inl z
      · subst z; exact .inr ⟨fS, fM⟩
      · exact z.elim
  rintro i m H' ⟨rfl, hi, g', F', ρ', acc, va, Fa, G', hm, ra, la, da, nD, nA, st, hl⟩
  obtain ⟨y1, y2⟩ := y g' H' G'.ok st.st
  by_cases hlt : i < ds.length
  · obtain ⟨d, hd'⟩ : ∃ d, ds[i]? = some d := ⟨ds[i], List.getElem?_eq_getElem hlt⟩
    have hdrop : ds.drop i = d :: ds.drop (i + 1) := by
      rw [List.drop_eq_getElem_cons hlt]
      rw [List.getElem?_eq_getElem hlt] at hd'
      cases hd'
      rfl
    rw [hdrop] at hl
    obtain ⟨go, yl⟩ := y1 i d hd'
    unfold compL at hl
    cases eg : gf d (wipeO ρ' vs) with
    | none => rw [eg] at hl; cases hl
    | some ρa =>
      rw [eg] at hl
      refine .inr ⟨go, fun H2 => ∃ g2 F2 ρ3 acc2 va2 Fa2, Good X g2 H2 σ ρ3 F2 ∧ g2.M D = some (.lst va2) ∧ OwRs X.mg X.K g2 acc2 va2 Fa2 ∧ acc2.length ≤ i + 1 ∧ Dj F2 Fa2 ∧ ¬ F2 D ∧ ¬ Fa2 D ∧ Stp g1 F1 g2 (fun p => F2 p ∨ (p = D ∨ Fa2 p)) ∧ compL vs gf tc fe (ds.drop (i + 1)) acc2 ρ3 = some (.ok out ρ2), fun H2 zz => ⟨ds.length - (i + 1), by omega, rfl, hlt, zz⟩, fun x H3 hy => ?_⟩
      obtain ⟨g3, k3, ss, sm, rv3⟩ := yl x H3 hy
      have kp3 : ∀ {A : Fp}, Kp g' g3 A := ⟨ss, fun p o _ e => sm p o e⟩
      have sr3 : Srs X.mg X.K g3 ρ' σ F' := G'.sr.kp kp3
      obtain ⟨Fw, srw, ww⟩ := sr3.wipe (vs := vs)
      have Gw : Good X g3 H3 (L2.wipe σ vs) (wipeO ρ' vs) Fw := ⟨k3, srw⟩
      intro s0 H0 C0 cl0 fp0
      obtain ⟨t, pt, qt⟩ := hg s0 H0 C0 cl0 fp0 d _ _ eg
      refine ⟨t, pt, qt x _ H3 g3 Fw _ ⟨Gw.ok, Gw.sr⟩ (fun _ _ z => by simp at z) rv3 fun σ4 F4 G4 z4 w4 o4 => ⟨?_, ?_⟩⟩
      · exact DL.wipe_eq (o4.1.trans (L2.wipe_length σ vs)) fun j hj => o4.2 j hj
      have len4 : σ4.length = σ.length := o4.1.trans (L2.wipe_length σ vs)
      have out4 : ∀ j, j ∉ vs → σ4[j]? = σ[j]? := fun j hj => (o4.2 j hj).trans (L2.wipe_out hj)
      intro s5 H5 C5 cl5 fp5
      have st3 : Stp g1 F1 g3 fun p => F4 p ∨ (p = D ∨ Fa p) := (st.tr (g2 := g3) (F2 := fun p => F' p ∨ (p = D ∨ Fa p)) ⟨ss, fun p o e _ => sm p o e, fun p z => .inl z⟩).sub fun p z => z.elim (fun z => .inl (ww p (w4 p z))) .inr
      have da4 : Dj F4 Fa := fun p z y => da p (ww p (w4 p z)) y
      have nD4 : ¬ F4 D := fun z => nD (ww D (w4 D z))
      have ra3 : OwRs X.mg X.K g3 acc va Fa := OwRs.kp acc kp3 ra
      -- what is kept while the block's own parts are reckoned
      have keep : ∀ {g6 : Gs} {F6 : Fp}, Stp g3 F4 g6 F6 → g6.M D = some (.lst va) ∧ OwRs X.mg X.K g6 acc va Fa ∧ Dj F6 Fa ∧ ¬ F6 D := fun {g6 F6} s6 => by
        have kA : Kp g3 g6 Fa := s6.kp fun p z y => da4 p y z
        have hD3 : g3.M D = some (.lst va) := sm D _ hm
        refine ⟨s6.mu D _ hD3 nD4, OwRs.kp acc kA ra3, fun p z y => ?_, fun z => ?_⟩
        · rcases s6.fr p z with w | ⟨_, w⟩
          · exact da4 p w y
          · obtain ⟨u, e⟩ := OwRs.in_ acc ra3 p y
            rw [e] at w; cases w
        · rcases s6.fr D z with w | ⟨_, w⟩
          · exact nD4 w
          · rw [hD3] at w; cases w
      cases et : tc ρa with
      | none => simp only [et] at hl; cases hl
      | some rt =>
        cases rt with
        | ex c dd ρt => simp only [et] at hl; cases hl
        | ok bb ρt =>
          simp only [et] at hl
          obtain ⟨u, pu, qu⟩ := ht s5 H5 C5 cl5 fp5 ρa _ et
          refine ⟨u, pu, qu σ4 H3 g3 F4 _ ⟨G4.ok, G4.sr⟩ fun b6 H6 g6 F6 Fb6 G6 rb6 d6 s6 => ?_⟩
          obtain ⟨rfl, _⟩ := rb6
          have s6' : Stp g3 F4 g6 F6 := s6.sub fun p => .inl
          obtain ⟨k1, k2, k3', k4⟩ := keep s6'
          have st6 : Stp g1 F1 g6 fun p => F6 p ∨ (p = D ∨ Fa p) := Stp.trans st3 s6'
          cases bb with
          | false =>
            simp only at hl
            obtain ⟨F7, sr7, w7⟩ := sr3.back (vs := vs) s6'.st G6.sr len4 out4
            refine iteF ⟨g6, F7, _, acc, va, Fa, ⟨G6.ok, sr7⟩, k1, k2, by omega, fun p z y => k3' p (w7 p z) y, fun z => k4 (w7 D z), nA, st6.sub fun p z => z.elim (fun z => .inl (w7 p z)) .inr, hl⟩
          | true =>
            simp only at hl
            cases ee : fe ρt with
            | none => simp only [ee] at hl; cases hl
            | some re =>
              cases re with
              | ex c dd ρe => simp only [ee] at hl; cases hl
              | ok o ρe =>
                simp only [ee] at hl
                refine iteT fun s7 H7 C7 cl7 fp7 => ?_
                obtain ⟨w, pw, qw⟩ := he s7 H7 C7 cl7 fp7 ρt _ ee
                refine ⟨w, pw, qw σ4 H6 g6 F6 _ ⟨G6.ok, G6.sr⟩ fun v8 H8 g8 F8 Fv8 G8 rv8 d8 s8 => ?_⟩
                have s68 : Stp g3 F4 g8 fun p => F8 p ∨ Fv8 p := s6'.tr s8
                obtain ⟨k1, k2, k3', k4⟩ := keep s68
                have st8 : Stp g1 F1 g8 fun p => (F8 p ∨ Fv8 p) ∨ (p = D ∨ Fa p) := Stp.trans st3 s68
                obtain ⟨F9, sr9, w9⟩ := sr3.back (vs := vs) s68.st G8.sr len4 out4
                have nV : ¬ Fv8 D := fun z => k4 (.inr z)
                refine ⟨va, G8.ok.m _ _ k1, by rw [k2.len]; exact Nat.lt_of_le_of_lt (Nat.le_trans la (Nat.le_of_lt (Nat.lt_of_lt_of_le hlt hz))) (by decide), g8.hold D (.lst (va ++ [v8])), F9, _, acc ++ [o], va ++ [v8], fun p => Fa p ∨ Fv8 p, ⟨put_ok G8.ok k1, sr9.kp (hold_kp fun z => k4 (.inl (w9 D z)))⟩, upd_same, ?_, by rw [List.length_append]; simp only [List.length_cons, List.length_nil]; omega, ?_, fun z => k4 (.inl (w9 D z)), fun z => z.elim nA nV, ?_, hl⟩
                · have kk : Kp g8 (g8.hold D (.lst (va ++ [v8]))) fun p => Fa p ∨ Fv8 p := hold_kp fun z => z.elim nA nV
                  exact OwRs.app (OwRs.kp acc (kk.sub fun p => .inl) k2) (OwRs.one (OwR.kp o (kk.sub fun p => .inr) rv8)) fun p z y => k3' p (.inr y) z
                · exact fun p z y => y.elim (k3' p (.inl (w9 p z))) (d8 p (w9 p z))
                · refine ⟨st8.st, fun p o' e n => ?_, fun p z => ?_⟩
                  · have e8 := st8.mu p o' e n
                    show upd g8.M D _ p = _
                    have hp : p ≠ D := fun z => by rw [z, fM] at e; cases e
                    rw [upd_ne hp]; exact e8
                  · refine st8.fr p ?_
                    rcases z with z | z | z | z
                    · exact .inl (.inl (w9 p z))
                    · exact .inr (.inl z)
                    · exact .inr (.inr z)
                    · exact .inl (.inr z)
  · have e : i = ds.length := by omega
    subst e
    rw [List.drop_length] at hl
    unfold compL at hl
    cases hl
    refine .inl ⟨y2, q (.ref D) H' g' F' (fun p => p = D ∨ Fa p) G' ⟨D, va, fun p => p = D, Fa, rfl, ⟨hm, fun p => Iff.rfl⟩, ra, fun p z y => nA (by rw [← show p = D from z]; exact y), fun p => Iff.rfl⟩ (fun p z y => y.elim (fun y => nD (by rw [← y]; exact z)) (da p z)) (s1'.tr st)⟩
theorem comp_inv {ρ : Ev} {r : Rs Ow} {vs : List Nat} (h : xComp vs fi gf tc fe ρ = some r) : (∃ ds ρ1, fi ρ = some (.ok ds ρ1) ∧ ds.length ≤ LIM ∧ ∃ out ρ2, compL vs gf tc fe ds [] ρ1 = some (.ok out ρ2) ∧ r = .ok (.l out) ρ2) ∨ ∃ c d ρ1, fi ρ = some (.ex c d ρ1) ∧ r = .ex c d ρ1 := by
  rcases bnd_inv h with ⟨ds, ρ1, h1, h2⟩ | z
  · by_cases hz : ds.length ≤ LIM
    · rw [if_pos hz] at h2
      rcases bnd_inv h2 with ⟨out, ρ2, h3, h4⟩ | ⟨c, d, ρ2, h3, h4⟩
      · cases h4
        exact .inl ⟨ds, ρ1, h1, hz, out, ρ2, h3, rfl⟩
      · exfalso
        have no : ∀ (ds : List Dt) (acc : List Ow) (ρ : Ev), compL vs gf tc fe ds acc ρ ≠ some (.ex c d ρ2) := by
          intro ds
          induction ds with
          | nil => intro acc ρ z; cases z
          | cons d ds ih =>
            intro acc ρ z
            unfold compL at z
            split at z
            · cases z
            · split at z
              · split at z
                · exact ih _ _ z
                · cases z
              · exact ih _ _ z
              · cases z
        exact no _ _ _ h3
    · rw [if_neg hz] at h2
      cases h2
  · exact .inr z
theorem de_comp (hc : X.calm = true) (hi : DI X W tg iter fi) (ok : BlkOk X.N X.env.scope scope own) (hN : X.N.Nodup) (hg : ∀ s H C cl fp, DG (blkX X scope s H C cl fp) [] (own.map (·.2)) tg gf) (ht : ∀ s H C cl fp, DTs (blkX X scope s H C cl fp) W0 ifs tc) (he : ∀ s H C cl fp, DE (blkX X scope s H C cl fp) W0 elt fe)
    (hf : ∀ x, foldedSetIterable iter X.env x = pure x := by intro _; rfl) : DE X W (.ListComp elt [⟨tg, iter, ifs, 0⟩] scope pos) (xComp (own.map (·.2)) fi gf tc fe) := fun ρ r h => by
  have pe : ∀ {wi : TI}, PI X tg iter wi → PE X (.ListComp elt [⟨tg, iter, ifs, 0⟩] scope pos) (tLc wi (fun v σ H Q => ∀ s H0 C cl fp, ∃ t, PG (blkX X scope s H0 C cl fp) tg t ∧ t v σ H Q) (fun σ H Q => ∀ s H0 C cl fp, ∃ t, PTs (blkX X scope s H0 C cl fp) ifs t ∧ t σ H Q) (fun σ H Q => ∀ s H0 C cl fp, ∃ t, PE (blkX X scope s H0 C cl fp) elt t ∧ t σ H Q) (own.map (·.2))) := fun p =>
    pe_lc hc hN p ok (fun s H C cl fp => ⟨fun pins s' σ H' v u Q I r h => let ⟨t, pt, q⟩ := h s H C cl fp; pt.run pins s' σ H' v u Q I r q⟩) (fun s H C cl fp => ⟨fun pins s' σ H' Q I h => let ⟨t, pt, q⟩ := h s H C cl fp; pt.run pins s' σ H' Q I q⟩) (fun s H C cl fp => ⟨fun pins s' σ H' Q I h => let ⟨t, pt, q⟩ := h s H C cl fp; pt.run pins s' σ H' Q I q⟩) hf
  rcases comp_inv h with ⟨ds, ρ1, h1, hz, out, ρ2, h2, rfl⟩ | ⟨c, d, ρ1, h1, rfl⟩
  · obtain ⟨wi, pi, qi⟩ := hi ρ _ h1
    exact ⟨_, pe pi, comp_rx hg ht he ⟨ds, ρ1, qi, hz, out, ρ2, h2, rfl⟩⟩
  · obtain ⟨wi, pi, qi⟩ := hi ρ _ h1
    exact ⟨_, pe pi, fun σ H g F Q G q => qi σ H g F _ G q⟩
/-- y = [..] -/
theorem ds_setLc (i : Nat) {y : Str} {py spos : Pos} (hc : X.calm = true) (hi : DI X W tg iter fi) (ok : BlkOk X.N X.env.scope scope own) (hN : X.N.Nodup) (hg : ∀ s H C cl fp, DG (blkX X scope s H C cl fp) [] (own.map (·.2)) tg gf) (ht : ∀ s H C cl fp, DTs (blkX X scope s H C cl fp) W0 ifs tc) (he : ∀ s H C cl fp, DE (blkX X scope s H C cl fp) W0 elt fe)
    (hz : i ∉ Z.map (·.1) := by decide) (hy : X.N[i]? = some y := by rfl) (hyl : X.env.scope.names.lookup y = some .local := by rfl)
    (hsw : swapsWith (.ListComp elt [⟨tg, iter, ifs, 0⟩] scope pos) (some (.Name y py)) spos.line X.env = pure true := by exact sw_true rfl rfl rfl (by decide +kernel)) (hf : ∀ x, foldedSetIterable iter X.env x = pure x := by intro _; rfl) : DS X W Z (.Assign [.Name y py] (.ListComp elt [⟨tg, iter, ifs, 0⟩] scope pos) spos) (sSet i (xComp (own.map (·.2)) fi gf tc fe)) := fun ρ r h => by
  have pe : ∀ {wi : TI} (p : PI X tg iter wi), PS X (.Assign [.Name y py] (.ListComp elt [⟨tg, iter, ifs, 0⟩] scope pos) spos) (tAsg (tLc wi (fun v σ H Q => ∀ s H0 C cl fp, ∃ t, PG (blkX X scope s H0 C cl fp) tg t ∧ t v σ H Q) (fun σ H Q => ∀ s H0 C cl fp, ∃ t, PTs (blkX X scope s H0 C cl fp) ifs t ∧ t σ H Q) (fun σ H Q => ∀ s H0 C cl fp, ∃ t, PE (blkX X scope s H0 C cl fp) elt t ∧ t σ H Q) (own.map (·.2))) (gName i)) := fun p =>
    ps_setLc hc hN hy hyl hsw p ok (fun s H C cl fp => ⟨fun pins s' σ H' v u Q I r h => let ⟨t, pt, q⟩ := h s H C cl fp; pt.run pins s' σ H' v u Q I r q⟩) (fun s H C cl fp => ⟨fun pins s' σ H' Q I h => let ⟨t, pt, q⟩ := h s H C cl fp; pt.run pins s' σ H' Q I q⟩) (fun s H C cl fp => ⟨fun pins s' σ H' Q I h => let ⟨t, pt, q⟩ := h s H C cl fp; pt.run pins s' σ H' Q I q⟩) hf
  rcases sVal_inv h with ⟨o, ρ2, h1, hk⟩ | ⟨c, d, ρ1, h1, rfl⟩
  · obtain ⟨ρ3, h2, rfl⟩ := Option.map_eq_some_iff.mp hk
    rcases comp_inv h1 with ⟨ds, ρ1, h3, hz', out, ρ2', h4, e⟩ | ⟨c, d, ρ1, h3, e⟩
    · cases e
      obtain ⟨wi, pi, qi⟩ := hi ρ _ h3
      refine ⟨_, pe pi, fun σ H g F D G z k => comp_rx hg ht he ⟨ds, ρ1, qi, hz', out, ρ2, h4, rfl⟩ σ H g F _ G fun v H1 g1 F1 Fv G1 r1 d1 s1 => ?_⟩
      obtain ⟨F2, G2, hF⟩ := G1.set h2 r1 d1
      exact k _ H1 g1 F2 G2 (z.set hz) (s1.sub hF)
    · cases e
  · rcases comp_inv h1 with ⟨ds, ρ1', h3, hz', out, ρ2', h4, e⟩ | ⟨c', d', ρ1', h3, e⟩
    · cases e
    · cases e
      obtain ⟨wi, pi, qi⟩ := hi ρ _ h3
      exact ⟨_, pe pi, fun σ H g F D G z k => qi σ H g F _ G fun cls dx H1 g1 F1 G1 e1 s1 => k cls dx σ H1 g1 F1 G1 z e1 s1⟩
end
end OW
namespace OW
open PySem PySem.Spec PyProof.Rows L2
open DL (Dt Rp RpAll SqX pe_no pt_no pw_no ps_no pss_no)

/-! ### a reading that leaves all as it was -/
def scal : Dt → Bool
  | .non => true
  | .bl _ => true
  | .int _ => true
  | .str _ => true
  | _ => false
mutual
def safe : Ow → Bool
  | .no => false
  | .f d => scal d
  | .n _ os => safes os
def safes : List Ow → Bool
  | [] => true
  | o :: os => safe o && safes os
end
/-- all that may be shared is shared, what else there is is hidden -/
def frzS (o : Ow) : Ow := match frz o with
  | some d => .f d
  | none => .no
def xBor (f : Fn Ow) : Fn Ow := fun ρ => match f (ρ.map frzS) with
  | some (.ok o _) => if safe o then some (.ok o ρ) else none
  | _ => none
theorem scal_rp {K : PySem.W.Frag} {S S' : Hp} {v : V} : ∀ {d : Dt}, scal d = true → Rp K S v d → Rp K S' v d
  | .non, _, h => by cases h; exact .non
  | .bl _, _, h => by cases h; exact .bl _
  | .int _, _, h => by cases h; exact .int _
  | .str _, _, h => by cases h; exact .str _
  | .lst _, h, _ => by cases h
  | .tup _, h, _ => by cases h
  | .opq _, h, _ => by cases h
section
variable {mg : Str → Option Value} {K : PySem.W.Frag} {g g' : Gs}
mutual
/-- what holds scalars alone does not ask what stands -/
theorem safe_rp : ∀ (o : Ow) {v : V} {F : Fp}, safe o = true → (∀ p u, F p → g.M p = some u → g'.M p = some u) → OwR mg K g o v F → OwR mg K g' o v F
  | .no, _, _, h, _, _ => by cases h
  | .f d, _, _, h, _, r => ⟨scal_rp h r.1, r.2⟩
  | .n k os, _, _, h, w, ⟨a, vs, F0, F1, e1, hc, hs, hd, e⟩ => by
    have k0 : Cell mg g' a F0 vs k := by
      have w0 : ∀ p u, F0 p → g.M p = some u → g'.M p = some u := fun p u z => w p u ((e p).mpr (.inl z))
      cases k with
      | lst => exact ⟨w0 _ _ ((hc.2 a).mpr rfl) hc.1, hc.2⟩
      | tp => exact ⟨w0 _ _ ((hc.2 a).mpr rfl) hc.1, hc.2⟩
      | dk ks => exact ⟨hc.1, w0 _ _ ((hc.2.2 a).mpr rfl) hc.2.1, hc.2.2⟩
      | dt ks => exact ⟨hc.1, w0 _ _ ((hc.2.2 a).mpr rfl) hc.2.1, hc.2.2⟩
      | ob c ns =>
        obtain ⟨l, C, dx, hm, h1, h2, e0⟩ := hc
        exact ⟨l, C, dx, hm, w0 _ _ ((e0 a).mpr (.inl rfl)) h1, w0 _ _ ((e0 dx).mpr (.inr rfl)) h2, e0⟩
    exact ⟨a, vs, F0, F1, e1, k0, safes_rp os h (fun p u z => w p u ((e p).mpr (.inr z))) hs, hd, e⟩
theorem safes_rp : ∀ (os : List Ow) {vs : List V} {F : Fp}, safes os = true → (∀ p u, F p → g.M p = some u → g'.M p = some u) → OwRs mg K g os vs F → OwRs mg K g' os vs F
  | [], _, _, _, _, r => r
  | o :: os, _, _, h, w, ⟨v, r, F1, F2, e1, h1, h2, hd, e⟩ => by
    have h' : (safe o && safes os) = true := h
    rw [Bool.and_eq_true] at h'
    exact ⟨v, r, F1, F2, e1, safe_rp o h'.1 (fun p u z => w p u ((e p).mpr (.inl z))) h1, safes_rp os h'.2 (fun p u z => w p u ((e p).mpr (.inr z))) h2, hd, e⟩
end
theorem frzS_sl {S' : Gs} (st : Same g.S S'.S) {o : Ow} {v : Option V} {F : Fp} (w : ∀ p u, F p → g.M p = some u → S'.S p = some u) (h : SlR mg K g o v F) : SlR mg K S' (frzS o) v fun _ => False := by
  unfold frzS
  split
  · rename_i d ed
    rcases h with ⟨rfl, _⟩ | ⟨u, rfl, h⟩
    · simp [frz] at ed
    · exact .inr ⟨u, rfl, frz_rp st o ed h w, fun _ z => z⟩
  · exact .inl ⟨rfl, fun _ z => z⟩
theorem frzS_srs {S' : Gs} (st : Same g.S S'.S) : ∀ {ρ : Ev} {σ : L2.St} {F : Fp}, (∀ p u, F p → g.M p = some u → S'.S p = some u) → Srs mg K g ρ σ F → Srs mg K S' (ρ.map frzS) σ fun _ => False
  | [], _, _, _, h => ⟨h.1, fun _ z => z⟩
  | o :: ρ, _, _, w, ⟨v, r, F1, F2, e1, h1, h2, hd, e⟩ => ⟨v, r, fun _ => False, fun _ => False, e1, frzS_sl st (fun p u z => w p u ((e p).mpr (.inl z))) h1, frzS_srs st (fun p u z => w p u ((e p).mpr (.inr z))) h2, fun _ z => z.elim, fun p => ⟨.inl, fun z => z.elim id id⟩⟩
end
section
variable {X : Cx} {W : WX} {e : Expr} {fe : Fn Ow}
theorem de_bor (h : DE X W e fe) : DE X W e (xBor fe) := fun ρ r hr => by
  classical
  unfold xBor at hr
  split at hr
  · rename_i o ρ1 e1
    split at hr
    · rename_i hs
      cases hr
      obtain ⟨t, p, q⟩ := h _ _ e1
      refine ⟨t, p, fun σ H g F Q G k => ?_⟩
      have ok1 := frzG_ok (F := F) G.ok
      have toS : ∀ p u, F p → g.M p = some u → (frzG g F).S p = some u := fun p u z w => by
        show (if F p ∧ (g.M p).isSome then g.M p else g.S p) = some u
        rw [if_pos ⟨z, by rw [w]; rfl⟩]; exact w
      have G1 : Good X (frzG g F) H σ (ρ.map frzS) fun _ => False := ⟨ok1, frzS_srs (frzG_st G.ok) toS G.sr⟩
      refine q σ H _ _ Q G1 fun v H' g' F' Fv G' rv dj st => ?_
      -- the owned objects are as they were
      have kept : ∀ p u, g.M p = some u → H' p = some u := fun p u w => by
        by_cases hF : F p
        · exact G'.ok.s p u (st.st _ _ (toS p u hF w))
        · refine G'.ok.m p u (st.mu p u ?_ fun z => z)
          show (if F p then none else g.M p) = some u
          rw [if_neg hF]; exact w
      have fresh : ∀ p, Fv p → g.S p = none ∧ g.M p = none := fun p z => by
        rcases st.fr p (.inr z) with w | ⟨w1, w2⟩
        · exact w.elim
        · refine ⟨same_none (frzG_st G.ok) w1, ?_⟩
          cases hm : g.M p with
          | none => rfl
          | some u =>
            by_cases hF : F p
            · rw [toS p u hF hm] at w1; cases w1
            · have e2 : (frzG g F).M p = some u := by
                show (if F p then none else g.M p) = some u
                rw [if_neg hF]; exact hm
              rw [e2] at w2; cases w2
      let g3 : Gs := ⟨g.S, fun p => if Fv p then g'.M p else g.M p⟩
      have ok3 : GsOk g3 H' := by
        refine ⟨fun p u w => G'.ok.s p u (st.st _ _ (frzG_st G.ok _ _ w)), fun p u w => ?_, fun p u w => ?_⟩
        · have w' : (if Fv p then g'.M p else g.M p) = some u := w
          by_cases hv : Fv p
          · rw [if_pos hv] at w'; exact G'.ok.m p u w'
          · rw [if_neg hv] at w'; exact kept p u w'
        · have w' : (if Fv p then g'.M p else g.M p) = some u := w
          by_cases hv : Fv p
          · exact (fresh p hv).1
          · rw [if_neg hv] at w'; exact G.ok.d p u w'
      have r3 : OwR X.mg X.K g3 o v Fv := safe_rp o hs (fun p u z w => by
        show (if Fv p then g'.M p else g.M p) = some u
        rw [if_pos z]; exact w) rv
      have keep3 : ∀ p u, g.M p = some u → g3.M p = some u := fun p u w => by
        show (if Fv p then g'.M p else g.M p) = some u
        rw [if_neg fun z => by rw [(fresh p z).2] at w; cases w]; exact w
      refine k v H' g3 F Fv ⟨ok3, G.sr.kp (show Kp g g3 F from ⟨fun _ _ w => w, fun p u _ w => keep3 p u w⟩)⟩ r3 (fun p z y => ?_) ⟨fun _ _ w => w, fun p u w _ => keep3 p u w, fun p z => ?_⟩
      · obtain ⟨u, w⟩ := G.sr.in_ p z
        rw [(fresh p y).2] at w; cases w
      · exact z.elim .inl fun z => .inr (fresh p z)
    · cases hr
  · cases hr
end

/-- a test that leaves all as it was -/
def tBor (f : Fn Bool) : Fn Bool := fun ρ => match f (ρ.map frzS) with
  | some (.ok b _) => some (.ok b ρ)
  | _ => none
theorem dt_bor {X : Cx} {W : WX} {e : Expr} {ft : Fn Bool} (h : DT X W e ft) : DT X W e (tBor ft) := fun ρ r hr => by
  unfold tBor at hr
  split at hr
  · rename_i o ρ1 e1
    cases hr
    obtain ⟨t, p, q⟩ := h _ _ e1
    refine ⟨t, p, fun σ H g F Q G k => ?_⟩
    have ok1 := frzG_ok (F := F) G.ok
    have toS : ∀ p u, F p → g.M p = some u → (frzG g F).S p = some u := fun p u z w => by
      classical
      show (if F p ∧ (g.M p).isSome then g.M p else g.S p) = some u
      rw [if_pos ⟨z, by rw [w]; rfl⟩]; exact w
    have G1 : Good X (frzG g F) H σ (ρ.map frzS) fun _ => False := ⟨ok1, frzS_srs (frzG_st G.ok) toS G.sr⟩
    refine q σ H _ _ Q G1 fun v H' g' F' Fv G' rv dj st => ?_
    have kept : ∀ p u, g.M p = some u → H' p = some u := fun p u w => by
      classical
      by_cases hF : F p
      · exact G'.ok.s p u (st.st _ _ (toS p u hF w))
      · refine G'.ok.m p u (st.mu p u ?_ fun z => z)
        show (if F p then none else g.M p) = some u
        rw [if_neg hF]; exact w
    exact k v H' g F (fun _ => False) ⟨⟨fun p u w => G'.ok.s p u (st.st _ _ (frzG_st G.ok _ _ w)), kept, G.ok.d⟩, G.sr⟩ ⟨rv.1, fun _ z => z⟩ (fun _ _ z => z) (Stp.refl fun p z => z.elim id False.elim)
  · cases hr

/-! ### places within trees -/
def subO : Ow → List Nat → Option Ow
  | o, [] => some o
  | .n _ os, i :: π => match os[i]? with
    | some o => subO o π
    | none => none
  | _, _ :: _ => none
def setP : Ow → List Nat → Ow → Ow
  | _, [], x => x
  | .n k os, i :: π, x => match os[i]? with
    | some o => .n k (os.set i (setP o π x))
    | none => .n k os
  | o, _ :: _, _ => o
section
variable {mg : Str → Option Value} {K : PySem.W.Frag} {g : Gs}
theorem focus : ∀ (π : List Nat) {o o1 : Ow} {v : V} {F : Fp}, OwR mg K g o v F → subO o π = some o1 →
    ∃ v1 F1 F2, OwR mg K g o1 v1 F1 ∧ Dj F1 F2 ∧ (∀ p, F p ↔ F1 p ∨ F2 p) ∧ (π = [] → v1 = v) ∧ ∀ g' o' F1', Kp g g' F2 → OwR mg K g' o' v1 F1' → Dj F1' F2 → OwR mg K g' (setP o π o') v fun p => F1' p ∨ F2 p
  | [], o, o1, v, F, h, e => by
    cases e
    refine ⟨v, F, fun _ => False, h, fun _ _ z => z, fun p => ⟨.inl, fun z => z.elim id False.elim⟩, fun _ => rfl, fun g' o' F1' _ h' _ => ?_⟩
    have : setP o [] o' = o' := by cases o <;> rfl
    rw [this]
    exact OwR.eqv o' (fun p => ⟨.inl, fun z => z.elim id False.elim⟩) h'
  | i :: π, .no, _, _, _, _, e => by cases e
  | i :: π, .f _, _, _, _, _, e => by cases e
  | i :: π, .n k os, o1, v, F, ⟨a, vs, F0, Fc, e1, hc, hs, hd, ef⟩, e => by
    unfold subO at e
    split at e
    · rename_i oi ei
      obtain ⟨vi, G1, G2, f1, f2, f3, f4, f5⟩ := hs.at ei
      obtain ⟨v1, F1, F2, a1, a2, a3, _, a4⟩ := focus π f2 e
      refine ⟨v1, F1, fun p => F0 p ∨ (F2 p ∨ G2 p), a1, fun p z y => ?_, fun p => ?_, fun z => (by cases z), fun g' o' F1' w h' d' => ?_⟩
      · rcases y with y | y | y
        · exact hd p y ((f4 p).mpr (.inl ((a3 p).mpr (.inl z))))
        · exact a2 p z y
        · exact f3 p ((a3 p).mpr (.inl z)) y
      · rw [ef p, f4 p, a3 p]
        constructor
        · rintro (z | (z | z) | z) <;> simp [z]
        · rintro (z | z | z | z) <;> simp [z]
      · have q := a4 g' o' F1' (w.sub fun p z => .inr (.inl z)) h' fun p z y => d' p z (.inr (.inl y))
        have sr := f5 g' (setP oi π o') vi (fun p => F1' p ∨ F2 p) (w.sub fun p z => .inr (.inr z)) q fun p z y => z.elim (fun z => d' p z (.inr (.inr y))) fun z => f3 p ((a3 p).mpr (.inr z)) y
        rw [set_self f1] at sr
        have es : setP (.n k os) (i :: π) o' = .n k (os.set i (setP oi π o')) := by
          conv => lhs; unfold setP
          rw [ei]
        rw [es]
        refine ⟨a, vs, F0, _, e1, hc.kp (w.sub fun p z => .inl z), sr, fun p z y => ?_, fun p => ?_⟩
        · rcases y with (y | y) | y
          · exact d' p y (.inl z)
          · exact hd p z ((f4 p).mpr (.inl ((a3 p).mpr (.inr y))))
          · exact hd p z ((f4 p).mpr (.inr y))
        · constructor
          · rintro (z | z | z | z) <;> simp [z]
          · rintro (z | (z | z) | z) <;> simp [z]
    · cases e
end
def getE (ρ : Ev) (i : Nat) (π : List Nat) : Option Ow := match ρ[i]? with
  | some o => subO o π
  | none => none
def setE (ρ : Ev) (i : Nat) (π : List Nat) (x : Ow) : Ev := match ρ[i]? with
  | some o => ρ.set i (setP o π x)
  | none => ρ
/-- the object at a place, which may be changed -/
structure RefAt (X : Cx) (g : Gs) (σ : L2.St) (ρ : Ev) (F : Fp) (i : Nat) (π : List Nat) (v : V) : Prop where
  it : ∃ o F1 F2, getE ρ i π = some o ∧ OwR X.mg X.K g o v F1 ∧ Dj F1 F2 ∧ (∀ p, F p ↔ F1 p ∨ F2 p) ∧ ∀ g' o' F1', Kp g g' F2 → OwR X.mg X.K g' o' v F1' → Dj F1' F2 → Srs X.mg X.K g' (setE ρ i π o') σ fun p => F1' p ∨ F2 p
theorem ref_of {X : Cx} {g : Gs} {H : Hp} {σ : L2.St} {ρ : Ev} {F : Fp} {i : Nat} {π : List Nat} {o : Ow} (G : Good X g H σ ρ F) (h : getE ρ i π = some o) (n : o ≠ .no) : ∃ v, RefAt X g σ ρ F i π v ∧ (π = [] → σ[i]? = some (some v)) := by
  unfold getE at h
  split at h
  · rename_i o0 e0
    obtain ⟨v0, F1, F2, e1, e2, e3, e4, e5⟩ := G.sr.at e0
    have n0 : o0 ≠ .no := by
      intro z
      subst z
      cases π with
      | nil => cases h; exact n rfl
      | cons _ _ => cases h
    obtain ⟨u, rfl, hu⟩ := e2.get n0
    obtain ⟨v1, K1, K2, a1, a2, a3, a0, a4⟩ := focus π hu h
    refine ⟨v1, ⟨o, K1, fun p => K2 p ∨ F2 p, by unfold getE; rw [e0]; exact h, a1, fun p z y => y.elim (a2 p z) fun y => e3 p ((a3 p).mpr (.inl z)) y, fun p => ?_, fun g' o' F1' w h' d' => ?_⟩, fun z => by rw [a0 z]; exact e1⟩
    · rw [e4 p, a3 p]
      constructor
      · rintro ((z | z) | z) <;> simp [z]
      · rintro (z | z | z) <;> simp [z]
    · have q := a4 g' o' F1' (w.sub fun p z => .inl z) h' fun p z y => d' p z (.inl y)
      have sr := e5 g' (setP o0 π o') (some u) (fun p => F1' p ∨ K2 p) (w.sub fun p z => .inr z) (.inr ⟨u, rfl, q⟩) fun p z y => z.elim (fun z => d' p z (.inr y)) fun z => e3 p ((a3 p).mpr (.inr z)) y
      rw [set_self e1] at sr
      have es : setE ρ i π o' = ρ.set i (setP o0 π o') := by unfold setE; rw [e0]
      rw [es]
      refine Srs.eqv (fun p => ?_) sr
      constructor
      · rintro ((z | z) | z) <;> simp [z]
      · rintro (z | z | z) <;> simp [z]
  · cases h
/-- an expression that tells a place: names, subscripts by what is simple -/
def DP (X : Cx) (e : Expr) (f : Ev → Option (Nat × List Nat)) : Prop := ∀ ρ i π, f ρ = some (i, π) → ∃ t, PE X e t ∧ ∀ σ H g F (Q : VK), Good X g H σ ρ F → (∀ v, RefAt X g σ ρ F i π v → (π = [] → σ[i]? = some (some v)) → Q v H) → t σ H Q
/-- an expression that is reckoned at once, of what stands -/
def DQ (X : Cx) (e : Expr) (f : Ev → Option Dt) : Prop := ∀ ρ d, f ρ = some d → ∃ t, PE X e t ∧ ∀ σ H g F (Q : VK), Good X g H σ ρ F → (∀ v, Rp X.K g.S v d → Q v H) → t σ H Q
def qK (d : Dt) : Ev → Option Dt := fun _ => some d
def qV (i : Nat) : Ev → Option Dt := fun ρ => match ρ[i]? with
  | some (.f d) => some d
  | _ => none
def qB (B : Int → Int → Option Int) (f h : Ev → Option Dt) : Ev → Option Dt := fun ρ => match f ρ, h ρ with
  | some (.int i), some (.int j) => (B i j).map .int
  | _, _ => none
/-- an item of what a place holds, which stands -/
def qIx (f : Ev → Option (Nat × List Nat)) (h : Ev → Option Dt) : Ev → Option Dt := fun ρ => match f ρ, h ρ with
  | some (i, π), some (.int k) => match getE ρ i π with
    | some (.n .lst os) => match atI os k with
      | some (.f d) => some d
      | _ => none
    | some (.f (.lst ds)) => atI ds k
    | some (.f (.tup ds)) => atI ds k
    | _ => none
  | _, _ => none
def qI (f h : Ev → Option Dt) : Ev → Option Dt := fun ρ => match f ρ, h ρ with
  | some (.lst ds), some (.int k) => atI ds k
  | some (.tup ds), some (.int k) => atI ds k
  | _, _ => none
def qLen (f : Ev → Option (Nat × List Nat)) : Ev → Option Dt := fun ρ => match f ρ with
  | some (i, π) => match getE ρ i π with
    | some (.n .lst os) => some (.int os.length)
    | some (.f (.lst ds)) => some (.int ds.length)
    | some (.f (.tup ds)) => some (.int ds.length)
    | _ => none
  | none => none
def pV (i : Nat) : Ev → Option (Nat × List Nat) := fun ρ => match ρ[i]? with
  | some .no => none
  | none => none
  | some _ => some (i, [])
def pI (f : Ev → Option (Nat × List Nat)) (h : Ev → Option Dt) : Ev → Option (Nat × List Nat) := fun ρ => match f ρ, h ρ with
  | some (i, π), some (.int k) => match getE ρ i π with
    | some (.n .lst os) => match ixN os.length k with
      | some j => match os[j]? with
        | some .no => none
        | none => none
        | some _ => some (i, π ++ [j])
      | none => none
    | some (.n .tp os) => match ixN os.length k with
      | some j => match os[j]? with
        | some .no => none
        | none => none
        | some _ => some (i, π ++ [j])
      | none => none
    | _ => none
  | _, _ => none
/-- the value of what is reckoned at once -/
def xQ (f : Ev → Option Dt) : Fn Ow := fun ρ => match f ρ with
  | some d => some (.ok (.f d) ρ)
  | none => none
theorem sub_app : ∀ (π : List Nat) {o o1 : Ow} {j : Nat}, subO o π = some o1 → subO o (π ++ [j]) = subO o1 [j]
  | [], o, o1, j, e => by cases e; rfl
  | i :: π, .no, _, _, e => by cases e
  | i :: π, .f _, _, _, e => by cases e
  | i :: π, .n k os, o1, j, e => by
    unfold subO at e
    split at e
    · rename_i oi ei
      show subO (.n k os) (i :: (π ++ [j])) = _
      rw [show subO (.n k os) (i :: (π ++ [j])) = subO oi (π ++ [j]) by conv => lhs; unfold subO; rw [ei]]
      exact sub_app π e
    · cases e
theorem set_app : ∀ (π : List Nat) {o : Ow} {k : Kd} {os : List Ow} {j : Nat} {oj x : Ow}, subO o π = some (.n k os) → os[j]? = some oj → setP o (π ++ [j]) x = setP o π (.n k (os.set j x))
  | [], o, k, os, j, oj, x, e, ej => by
    cases e
    show setP (.n k os) [j] x = setP (.n k os) [] _
    have a : setP (.n k os) [j] x = .n k (os.set j (setP oj [] x)) := by conv => lhs; unfold setP; rw [ej]
    have b : setP oj [] x = x := by cases oj <;> rfl
    rw [a, b]
    rfl
  | i :: π, .no, _, _, _, _, _, e, _ => by cases e
  | i :: π, .f _, _, _, _, _, _, e, _ => by cases e
  | i :: π, .n k0 os0, k, os, j, oj, x, e, ej => by
    unfold subO at e
    split at e
    · rename_i oi ei
      show setP (.n k0 os0) (i :: (π ++ [j])) x = _
      have a : setP (.n k0 os0) (i :: (π ++ [j])) x = .n k0 (os0.set i (setP oi (π ++ [j]) x)) := by conv => lhs; unfold setP; rw [ei]
      have b : setP (.n k0 os0) (i :: π) (.n k (os.set j x)) = .n k0 (os0.set i (setP oi π (.n k (os.set j x)))) := by conv => lhs; unfold setP; rw [ei]
      rw [a, b, set_app π e ej]
    · cases e
theorem atI_len {α β : Type} {xs : List α} {ys : List β} (h : ys.length = xs.length) {k : Int} {x : α} (e : atI xs k = some x) : ∃ j : Nat, ixN xs.length k = some j ∧ xs[j]? = some x ∧ atI ys k = ys[j]? := by
  unfold atI at e ⊢
  rw [h]
  cases q : ixN xs.length k with
  | none => rw [q] at e; cases e
  | some j => rw [q] at e; exact ⟨j, rfl, e, rfl⟩
section
variable {X : Cx} {W : WX} {pos : Pos} {e a b : Expr} {fq fq2 : Ev → Option Dt} {fp : Ev → Option (Nat × List Nat)}
theorem de_q (h : DQ X e fq) : DE X W e (xQ fq) := fun ρ r hr => by
  unfold xQ at hr
  split at hr
  · rename_i d ed
    cases hr
    obtain ⟨t, p, q⟩ := h ρ d ed
    exact ⟨t, p, fun σ H g F Q G k => q σ H g F Q G fun v rv => k v H g F (fun _ => False) G ⟨rv, fun _ z => z⟩ (fun _ _ z => z) (Stp.refl fun p z => z.elim id False.elim)⟩
  · cases hr
theorem dq_int {i : Int} {j : Nat} : DQ X (.Constant (.int i) j pos) (qK (.int i)) := fun ρ d h => by cases h; exact ⟨_, pe_int, fun σ H g F Q G k => k _ (.int i)⟩
theorem dq_globI {nm : Str} {i : Int} (h : ∃ t, X.mg nm = some (Value.int i t)) (hg : Gl X nm := by rfl) (hd : (nm == ("__debug__" : Str)) = false := by decide) : DQ X (.Name nm pos) (qK (.int i)) := fun ρ d e => by
  cases e
  obtain ⟨t, h⟩ := h
  exact ⟨_, pe_glob (v := .int i) hg h ⟨_, rfl⟩ hd, fun σ H g F Q G k => k _ (.int i)⟩
theorem dq_v (i : Nat) {nm : Str} (hN : X.N[i]? = some nm := by rfl) (hv : Vis X.env.scope nm := by first | exact Or.inl rfl | exact Or.inr (Or.inl rfl) | exact Or.inr (Or.inr rfl))
    (hd : (nm == ("__debug__" : Str)) = false := by decide) (hcd : (nm == ("__classdict__" : Str)) = false := by decide) : DQ X (.Name nm pos) (qV i) := fun ρ d h => by
  unfold qV at h
  split at h
  · rename_i d' e
    cases h
    refine ⟨_, pe_var hN hv hd hcd, fun σ H g F Q G k => ?_⟩
    obtain ⟨v, F1, F2, e1, e2, _⟩ := G.sr.at e
    obtain ⟨u, rfl, hu⟩ := e2.get (by simp)
    exact ⟨u, e1, k u hu.1⟩
  · cases h
theorem dq_b {op : Operator} {B : Int → Int → Option Int} (hB : ∀ i j z, B i j = some z → ∃ r, OpR X (binaryOp op) r ∧ ∀ (H : Hp) (Q : VK), Q (.int z) H → r (.int i) (.int j) H Q) (ha : DQ X a fq) (hb : DQ X b fq2) : DQ X (.BinOp a op b pos) (qB B fq fq2) := fun ρ d h => by
  unfold qB at h
  split at h
  · rename_i i j e1 e2
    obtain ⟨z, e3, rfl⟩ := Option.map_eq_some_iff.mp h
    obtain ⟨ta, pa, qa⟩ := ha ρ _ e1
    obtain ⟨tb, pb, qb⟩ := hb ρ _ e2
    obtain ⟨r, o, hr⟩ := hB i j z e3
    refine ⟨_, pe_op o pa pb, fun σ H g F Q G k => qa σ H g F _ G fun v rv => qb σ H g F _ G fun u ru => ?_⟩
    cases rv
    cases ru
    exact hr H Q (k _ (.int z))
  · cases h
theorem dq_add (ha : DQ X a fq) (hb : DQ X b fq2) : DQ X (.BinOp a .Add b pos) (qB (fun i j => some (i + j)) fq fq2) := dq_b (fun i j z h => ⟨_, op_add, fun H Q q => by cases h; exact ⟨i, j, rfl, rfl, q⟩⟩) ha hb
theorem dq_sub (ha : DQ X a fq) (hb : DQ X b fq2) : DQ X (.BinOp a .Sub b pos) (qB (fun i j => some (i - j)) fq fq2) := dq_b (fun i j z h => ⟨_, op_sub, fun H Q q => by cases h; exact ⟨i, j, rfl, rfl, q⟩⟩) ha hb
theorem dq_mod (ha : DQ X a fq) (hb : DQ X b fq2) : DQ X (.BinOp a .Mod b pos) (qB (fun i j => if 0 < j then some (i % j) else none) fq fq2) := dq_b (fun i j z h => ⟨_, op_mod, fun H Q q => by
  split at h
  · rename_i hj
    cases h
    exact ⟨i, j, rfl, rfl, hj, q⟩
  · cases h⟩) ha hb
theorem dq_neg {i : Int} {j : Nat} {p : Pos} : DQ X (.UnaryOp .USub (.Constant (.int i) j p) pos) (qK (.int (-i))) := fun ρ d h => by
  cases h
  exact ⟨_, pe_un un_neg pe_int, fun σ H g F Q G k => ⟨i, rfl, k _ (.int (-i))⟩⟩
theorem dp_v (i : Nat) {nm : Str} (hN : X.N[i]? = some nm := by rfl) (hv : Vis X.env.scope nm := by first | exact Or.inl rfl | exact Or.inr (Or.inl rfl) | exact Or.inr (Or.inr rfl))
    (hd : (nm == ("__debug__" : Str)) = false := by decide) (hcd : (nm == ("__classdict__" : Str)) = false := by decide) : DP X (.Name nm pos) (pV i) := fun ρ i' π h => by
  unfold pV at h
  split at h
  · cases h
  · cases h
  · rename_i o n e
    cases h
    refine ⟨_, pe_var hN hv hd hcd, fun σ H g F Q G k => ?_⟩
    obtain ⟨v, hv, hs⟩ := ref_of (i := i) (π := []) (o := o) G (by unfold getE; rw [e]; cases o <;> rfl) fun z => n (by rw [z])
    exact ⟨v, hs rfl, k v hv hs⟩
theorem dp_i (ha : DP X a fp) (hb : DQ X b fq) (hs : PlainIx b := by exact fun _ _ => rfl) : DP X (.Subscript a b pos) (pI fp fq) := fun ρ i π h => by
  unfold pI at h
  split at h
  · rename_i i0 π0 k e1 e2
    split at h
    · rename_i os e3
      split at h
      · rename_i j ej
        split at h
        · cases h
        · cases h
        · rename_i oj nj eoj
          injection h with h
          injection h with h1 h2
          subst h1
          subst h2
          obtain ⟨ta, pa, qa⟩ := ha ρ _ _ e1
          obtain ⟨tb, pb, qb⟩ := hb ρ _ e2
          refine ⟨_, pe_ix ix_list pa pb hs, fun σ H g F Q G kk => qa σ H g F _ G fun v rv sv => qb σ H g F _ G fun u ru => ?_⟩
          cases ru
          obtain ⟨o, F1, F2, a1, a2, a3, a4, a5⟩ := rv.it
          rw [e3] at a1
          cases a1
          obtain ⟨l, vs, F0, Fc, b1, b2, b3, b4, b5⟩ := a2
          subst b1
          obtain ⟨w, K1, K2, c1, c2, c3, c4, c5⟩ := b3.at eoj
          have ge : getE ρ i0 (π0 ++ [j]) = some oj := by
            unfold getE at e3 ⊢
            split at e3
            · rename_i o0 eo0
              rw [sub_app π0 e3]
              unfold subO
              rw [eoj]
              cases oj <;> rfl
            · cases e3
          refine ⟨l, vs, k, w, rfl, rfl, (SqX.of (G.ok.m _ _ b2.1)).l, ?_, kk w ?_ fun z => by simp at z⟩
          · unfold atI
            rw [b3.len, ej]
            exact c1
          · obtain ⟨w', hw', _⟩ := ref_of (i := i0) (π := π0 ++ [j]) G ge fun z => nj (by rw [z])
            refine ⟨oj, K1, fun p => F0 p ∨ (K2 p ∨ F2 p), ge, c2, fun p z y => ?_, fun p => ?_, fun g' o' F1' w1 h' d' => ?_⟩
            · rcases y with y | y | y
              · exact b4 p y ((c4 p).mpr (.inl z))
              · exact c3 p z y
              · exact a3 p ((b5 p).mpr (.inr ((c4 p).mpr (.inl z)))) y
            · rw [a4 p, b5 p, c4 p]
              constructor
              · rintro ((z | z | z) | z) <;> simp [z]
              · rintro (z | z | z | z) <;> simp [z]
            · have sr := c5 g' o' w F1' (w1.sub fun p z => .inr (.inl z)) h' fun p z y => d' p z (.inr (.inl y))
              rw [set_self c1] at sr
              have nd : OwR X.mg X.K g' (.n .lst (os.set j o')) (.ref l) fun p => F0 p ∨ (F1' p ∨ K2 p) := ⟨l, vs, F0, _, rfl, b2.kp (w1.sub fun p z => .inl z), sr, fun p z y => y.elim (fun y => d' p y (.inl z)) fun y => b4 p z ((c4 p).mpr (.inr y)), fun p => Iff.rfl⟩
              have q := a5 g' _ _ (w1.sub fun p z => .inr (.inr z)) nd fun p z y => by
                rcases z with z | z | z
                · exact a3 p ((b5 p).mpr (.inl z)) y
                · exact d' p z (.inr (.inr y))
                · exact a3 p ((b5 p).mpr (.inr ((c4 p).mpr (.inr z)))) y
              have es : setE ρ i0 (π0 ++ [j]) o' = setE ρ i0 π0 (.n .lst (os.set j o')) := by
                unfold setE
                unfold getE at e3
                split at e3
                · rename_i o0 eo0
                  rw [set_app π0 e3 eoj]
                · cases e3
              rw [es]
              refine Srs.eqv (fun p => ?_) q
              constructor
              · rintro ((z | z | z) | z) <;> simp [z]
              · rintro (z | z | z | z) <;> simp [z]
      · cases h
    · rename_i os e3
      split at h
      · rename_i j ej
        split at h
        · cases h
        · cases h
        · rename_i oj nj eoj
          injection h with h
          injection h with h1 h2
          subst h1
          subst h2
          obtain ⟨ta, pa, qa⟩ := ha ρ _ _ e1
          obtain ⟨tb, pb, qb⟩ := hb ρ _ e2
          refine ⟨_, pe_ix ix_tup pa pb hs, fun σ H g F Q G kk => qa σ H g F _ G fun v rv sv => qb σ H g F _ G fun u ru => ?_⟩
          cases ru
          obtain ⟨o, F1, F2, a1, a2, a3, a4, a5⟩ := rv.it
          rw [e3] at a1
          cases a1
          obtain ⟨l, vs, F0, Fc, b1, b2, b3, b4, b5⟩ := a2
          subst b1
          obtain ⟨w, K1, K2, c1, c2, c3, c4, c5⟩ := b3.at eoj
          have ge : getE ρ i0 (π0 ++ [j]) = some oj := by
            unfold getE at e3 ⊢
            split at e3
            · rename_i o0 eo0
              rw [sub_app π0 e3]
              unfold subO
              rw [eoj]
              cases oj <;> rfl
            · cases e3
          refine ⟨l, vs, k, w, rfl, rfl, SqT.of (G.ok.m _ _ b2.1), ?_, kk w ?_ fun z => by simp at z⟩
          · unfold atI
            rw [b3.len, ej]
            exact c1
          · obtain ⟨w', hw', _⟩ := ref_of (i := i0) (π := π0 ++ [j]) G ge fun z => nj (by rw [z])
            refine ⟨oj, K1, fun p => F0 p ∨ (K2 p ∨ F2 p), ge, c2, fun p z y => ?_, fun p => ?_, fun g' o' F1' w1 h' d' => ?_⟩
            · rcases y with y | y | y
              · exact b4 p y ((c4 p).mpr (.inl z))
              · exact c3 p z y
              · exact a3 p ((b5 p).mpr (.inr ((c4 p).mpr (.inl z)))) y
            · rw [a4 p, b5 p, c4 p]
              constructor
              · rintro ((z | z | z) | z) <;> simp [z]
              · rintro (z | z | z | z) <;> simp [z]
            · have sr := c5 g' o' w F1' (w1.sub fun p z => .inr (.inl z)) h' fun p z y => d' p z (.inr (.inl y))
              rw [set_self c1] at sr
              have nd : OwR X.mg X.K g' (.n .tp (os.set j o')) (.ref l) fun p => F0 p ∨ (F1' p ∨ K2 p) := ⟨l, vs, F0, _, rfl, b2.kp (w1.sub fun p z => .inl z), sr, fun p z y => y.elim (fun y => d' p y (.inl z)) fun y => b4 p z ((c4 p).mpr (.inr y)), fun p => Iff.rfl⟩
              have q := a5 g' _ _ (w1.sub fun p z => .inr (.inr z)) nd fun p z y => by
                rcases z with z | z | z
                · exact a3 p ((b5 p).mpr (.inl z)) y
                · exact d' p z (.inr (.inr y))
                · exact a3 p ((b5 p).mpr (.inr ((c4 p).mpr (.inr z)))) y
              have es : setE ρ i0 (π0 ++ [j]) o' = setE ρ i0 π0 (.n .tp (os.set j o')) := by
                unfold setE
                unfold getE at e3
                split at e3
                · rename_i o0 eo0
                  rw [set_app π0 e3 eoj]
                · cases e3
              rw [es]
              refine Srs.eqv (fun p => ?_) q
              constructor
              · rintro ((z | z | z) | z) <;> simp [z]
              · rintro (z | z | z | z) <;> simp [z]
      · cases h
    · cases h
  · cases h
theorem dq_ix (ha : DP X a fp) (hb : DQ X b fq) (hs : PlainIx b := by exact fun _ _ => rfl) : DQ X (.Subscript a b pos) (qIx fp fq) := fun ρ d h => by
  unfold qIx at h
  split at h
  · rename_i i0 π0 k e1 e2
    obtain ⟨ta, pa, qa⟩ := ha ρ _ _ e1
    obtain ⟨tb, pb, qb⟩ := hb ρ _ e2
    split at h
    · rename_i os e3
      split at h
      · rename_i d' e4
        cases h
        refine ⟨_, pe_ix ix_list pa pb hs, fun σ H g F Q G kk => qa σ H g F _ G fun v rv sv => qb σ H g F _ G fun u ru => ?_⟩
        cases ru
        obtain ⟨o, F1, F2, a1, a2, _⟩ := rv.it
        rw [e3] at a1
        cases a1
        obtain ⟨l, vs, F0, Fc, b1, b2, b3, b4, b5⟩ := a2
        subst b1
        obtain ⟨j, j1, j2, j3⟩ := atI_len b3.len e4
        obtain ⟨w, K1, K2, c1, c2, _⟩ := b3.at j2
        exact ⟨l, vs, k, w, rfl, rfl, (SqX.of (G.ok.m _ _ b2.1)).l, by rw [j3]; exact c1, kk w c2.1⟩
      · cases h
    · rename_i ds e3
      refine ⟨_, pe_ix ix_list pa pb hs, fun σ H g F Q G kk => qa σ H g F _ G fun v rv sv => qb σ H g F _ G fun u ru => ?_⟩
      cases ru
      obtain ⟨o, F1, F2, a1, a2, _⟩ := rv.it
      rw [e3] at a1
      cases a1
      obtain ⟨a2, _⟩ := a2
      cases a2 with
      | lst h1 h2 =>
        obtain ⟨j, j1, j2, j3⟩ := atI_len h2.len h
        obtain ⟨w, w1, w2⟩ := h2.at j2
        exact ⟨_, _, k, w, rfl, rfl, (DL.sqx_mono G.ok.s h1).l, by rw [j3]; exact w1, kk w w2⟩
    · rename_i ds e3
      refine ⟨_, pe_ix ix_tup pa pb hs, fun σ H g F Q G kk => qa σ H g F _ G fun v rv sv => qb σ H g F _ G fun u ru => ?_⟩
      cases ru
      obtain ⟨o, F1, F2, a1, a2, _⟩ := rv.it
      rw [e3] at a1
      cases a1
      obtain ⟨a2, _⟩ := a2
      cases a2 with
      | tup h1 h2 =>
        obtain ⟨j, j1, j2, j3⟩ := atI_len h2.len h
        obtain ⟨w, w1, w2⟩ := h2.at j2
        exact ⟨_, _, k, w, rfl, rfl, DL.sqt_mono G.ok.s h1, by rw [j3]; exact w1, kk w w2⟩
    · cases h
  · cases h
theorem dq_i (ha : DQ X a fq) (hb : DQ X b fq2) (hs : PlainIx b := by exact fun _ _ => rfl) : DQ X (.Subscript a b pos) (qI fq fq2) := fun ρ d h => by
  unfold qI at h
  split at h
  · rename_i ds k e1 e2
    obtain ⟨ta, pa, qa⟩ := ha ρ _ e1
    obtain ⟨tb, pb, qb⟩ := hb ρ _ e2
    refine ⟨_, pe_ix ix_list pa pb hs, fun σ H g F Q G kk => qa σ H g F _ G fun v rv => qb σ H g F _ G fun u ru => ?_⟩
    cases ru
    cases rv with
    | lst h1 h2 =>
      obtain ⟨j, j1, j2, j3⟩ := atI_len h2.len h
      obtain ⟨w, w1, w2⟩ := h2.at j2
      exact ⟨_, _, k, w, rfl, rfl, (DL.sqx_mono G.ok.s h1).l, by rw [j3]; exact w1, kk w w2⟩
  · rename_i ds k e1 e2
    obtain ⟨ta, pa, qa⟩ := ha ρ _ e1
    obtain ⟨tb, pb, qb⟩ := hb ρ _ e2
    refine ⟨_, pe_ix ix_tup pa pb hs, fun σ H g F Q G kk => qa σ H g F _ G fun v rv => qb σ H g F _ G fun u ru => ?_⟩
    cases ru
    cases rv with
    | tup h1 h2 =>
      obtain ⟨j, j1, j2, j3⟩ := atI_len h2.len h
      obtain ⟨w, w1, w2⟩ := h2.at j2
      exact ⟨_, _, k, w, rfl, rfl, DL.sqt_mono G.ok.s h1, by rw [j3]; exact w1, kk w w2⟩
  · cases h
end
end OW
namespace OW
open PySem PySem.Spec PyProof.Rows L2
open DL (Dt Rp RpAll SqX pe_no pt_no pw_no ps_no pss_no)

section
variable {X : Cx} {W : WX} {Z : List (Nat × V)} {pos apos cpos tpos : Pos} {e a b o : Expr} {fe : Fn Ow} {fq fq2 : Ev → Option Dt} {fp : Ev → Option (Nat × List Nat)}
/-- a list at a place gets other items -/
theorem ref_put {g : Gs} {H : Hp} {σ : L2.St} {ρ : Ev} {F : Fp} {i : Nat} {π : List Nat} {v : V} {os : List Ow} (R : RefAt X g σ ρ F i π v) (h : getE ρ i π = some (.n .lst os)) (k : GsOk g H) :
    ∃ l vs Fc, v = .ref l ∧ g.M l = some (.lst vs) ∧ H l = some (.lst vs) ∧ OwRs X.mg X.K g os vs Fc ∧ (∀ p, Fc p → F p) ∧ F l ∧ ¬ Fc l ∧ ∀ vs' os' Fn, OwRs X.mg X.K g os' vs' Fn → (∀ p, Fn p → Fc p ∨ ¬ F p) → ¬ Fn l →
      ∃ F', Good X (g.hold l (.lst vs')) (upd H l (.lst vs')) σ (setE ρ i π (.l os')) F' ∧ (∀ p, F' p → F p ∨ Fn p) ∧ ∀ Fx : Fp, (∀ p, Fn p → F p ∨ Fx p) → Stp g (fun p => F p ∨ Fx p) (g.hold l (.lst vs')) F' := by
  obtain ⟨o, F1, F2, a1, a2, a3, a4, a5⟩ := R.it
  rw [h] at a1
  cases a1
  obtain ⟨l, vs, F0, Fc, b1, b2, b3, b4, b5⟩ := a2
  obtain ⟨b2, b2'⟩ := b2
  have hl0 : F0 l := (b2' l).mpr rfl
  have hl1 : F1 l := (b5 l).mpr (.inl hl0)
  have hF : F l := (a4 l).mpr (.inl hl1)
  refine ⟨l, vs, Fc, b1, b2, k.m _ _ b2, b3, fun p z => (a4 p).mpr (.inl ((b5 p).mpr (.inr z))), hF, fun z => b4 l hl0 z, fun vs' os' Fn ro w nl => ?_⟩
  have n2 : ¬ F2 l := fun z => a3 l hl1 z
  have rn : OwR X.mg X.K (g.hold l (.lst vs')) (.n .lst os') v fun p => F0 p ∨ Fn p := ⟨l, vs', F0, Fn, b1, ⟨upd_same, b2'⟩, OwRs.kp os' (hold_kp nl) ro, fun p z y => nl (by rw [← (b2' p).mp z]; exact y), fun p => Iff.rfl⟩
  have sr := a5 _ _ _ (hold_kp n2) rn fun p z y => by
    rcases z with z | z
    · exact a3 p ((b5 p).mpr (.inl z)) y
    · rcases w p z with q | q
      · exact a3 p ((b5 p).mpr (.inr q)) y
      · exact q ((a4 p).mpr (.inr y))
  have hsub : ∀ p, (F0 p ∨ Fn p) ∨ F2 p → F p ∨ Fn p := fun p z => by
    rcases z with (z | z) | z
    · exact .inl ((a4 p).mpr (.inl ((b5 p).mpr (.inl z))))
    · exact .inr z
    · exact .inl ((a4 p).mpr (.inr z))
  refine ⟨_, ⟨put_ok k b2, sr⟩, hsub, fun Fx wx => ⟨fun _ _ e => e, fun p u e n => ?_, fun p z => .inl ((hsub p z).elim .inl (wx p))⟩⟩
  show upd g.M l _ p = _
  rw [upd_ne fun z => n (by rw [z]; exact .inl hF)]
  exact e
/-- x.append(e) -/
def sApp (i : Nat) (f : Fn Ow) : SF := fun ρ => match ρ[i]? with
  | some (.n .lst _) => sVal f (fun o ρ1 => match ρ1[i]? with
    | some (.n .lst os) => if os.length < LIM then some (.nx (ρ1.set i (.l (os ++ [o])))) else none
    | _ => none) ρ
  | _ => none
theorem getE_nil {ρ : Ev} {i : Nat} {o : Ow} (h : ρ[i]? = some o) : getE ρ i [] = some o := by
  unfold getE
  rw [h]
  cases o <;> rfl
theorem setE_nil {ρ : Ev} {i : Nat} {o x : Ow} (h : ρ[i]? = some o) : setE ρ i [] x = ρ.set i x := by
  unfold setE
  rw [h]
  have : setP o [] x = x := by cases o <;> rfl
  show ρ.set i (setP o [] x) = _
  rw [this]
theorem ds_app (i : Nat) {nm : Str} {p2 : Pos} (he : DE X W e fe) (hN : X.N[i]? = some nm := by rfl) (hv : Vis X.env.scope nm := by first | exact Or.inl rfl | exact Or.inr (Or.inl rfl) | exact Or.inr (Or.inr rfl))
    (hd : (nm == ("__debug__" : Str)) = false := by decide) (hcd : (nm == ("__classdict__" : Str)) = false := by decide)
    (hbase : attributeBase (.Name nm p2) "append" X.env (eval (.Name nm p2) X.env) = eval (.Name nm p2) X.env := by rfl)
    (hfew : ((backTo cpos (starEach [e] X.env)).all (fun x => !x.1) && (backToKw cpos (keywordEach [] X.env)).all (fun x => x.1.isSome) && decide (([e] : List Expr).length + ([] : List Keyword).length + (if ([] : List Keyword).isEmpty then 0 else 1) < 30)) = true := by rfl)
    (hline : (apos.endLine == cpos.line) = true := by rfl) (hs : starEach [e] X.env = (false, eval e X.env) :: starEach [] X.env := by rfl) (hplain : (backTo cpos (starEach [] X.env)).any (·.1) = false := by rfl)
    (hsw : swapsWith (.Call (.Attribute (.Name nm p2) "append" apos) [e] [] cpos) none pos.line X.env = pure false := by rfl) : DS X W Z (.Expr (.Call (.Attribute (.Name nm p2) "append" apos) [e] [] cpos) pos) (sApp i fe) := fun ρ r h => by
  have pe : ∀ {t : TE}, PE X e t → PS X (.Expr (.Call (.Attribute (.Name nm p2) "append" apos) [e] [] cpos) pos) _ := fun {t} p => ps_expr (pe_bm PySem.F.plainAttrs_list PySem.F.slot_list_append PySem.F.type_list_append mt_append (pe_var hN hv hd hcd) (pa_cons p pa_nil hs) hbase hfew hline hs hplain) hsw
  unfold sApp at h
  split at h
  · rename_i os0 e0
    have st : ∀ {σ : L2.St} {H : Hp} {g : Gs} {F : Fp}, Good X g H σ ρ F → ∃ l, σ[i]? = some (some (V.ref l)) ∧ tyV X.K "list" (V.ref l) H := fun G => by
      obtain ⟨v, R, sv⟩ := ref_of (i := i) (π := []) G (getE_nil e0) (by simp)
      obtain ⟨l, vs, Fc, rfl, h1, h2, _⟩ := ref_put R (getE_nil e0) G.ok
      exact ⟨l, sv rfl, .inl ⟨rfl, vs, (SqX.of h2).l⟩⟩
    rcases sVal_inv h with ⟨x, ρ1, h1, hk⟩ | ⟨c, d, ρ1, h1, rfl⟩
    · obtain ⟨t, p, q⟩ := he ρ _ h1
      split at hk
      · rename_i os e1
        split at hk
        · rename_i hz
          cases hk
          refine ⟨_, pe p, fun σ H g F D G z k => ?_⟩
          obtain ⟨l, sl, ty⟩ := st G
          refine ⟨_, sl, ty, q σ H g F _ G fun w H1 g1 F1 Fw G1 rw' d1 s1 => ?_⟩
          obtain ⟨v, R, sv⟩ := ref_of (i := i) (π := []) G1 (getE_nil e1) (by simp)
          obtain ⟨l', vs, Fc, rfl, m1, m2, ro, wc, hF, nFc, up⟩ := ref_put R (getE_nil e1) G1.ok
          have := sv rfl
          rw [sl] at this
          cases this
          obtain ⟨F', G', w', st'⟩ := up (vs ++ [w]) (os ++ [x]) (fun p => Fc p ∨ Fw p) (OwRs.app ro (OwRs.one rw') fun p y z => d1 p (wc p y) z) (fun p z => z.elim .inl fun z => .inr fun y => d1 p y z) (fun z => by
            rcases z with z | z
            · exact nFc z
            · exact d1 _ hF z)
          refine ⟨l, vs, w, rfl, rfl, m2, by rw [ro.len]; exact Nat.lt_of_lt_of_le hz (by decide), ?_⟩
          rw [setE_nil e1] at G'
          exact k σ _ _ F' G' z (s1.tr ((st' Fw fun p z => z.elim (fun z => .inl (wc p z)) .inr)))
        · cases hk
      · cases hk
    · obtain ⟨t, p, q⟩ := he ρ _ h1
      refine ⟨_, pe p, fun σ H g F D G z k => ?_⟩
      obtain ⟨l, sl, ty⟩ := st G
      exact ⟨_, sl, ty, q σ H g F _ G fun cls dx H1 g1 F1 G1 e1 s1 => k cls dx σ H1 g1 F1 G1 z e1 s1⟩
  · cases h
/-- x[..].append(e), e reckoned at once -/
def sAppP (f : Ev → Option (Nat × List Nat)) (h : Ev → Option Dt) : SF := fun ρ => match f ρ, h ρ with
  | some (i, π), some d => match getE ρ i π with
    | some (.n .lst os) => if os.length < LIM then some (.nx (setE ρ i π (.l (os ++ [.f d])))) else none
    | _ => none
  | _, _ => none
theorem ds_appP (ho : DP X o fp) (he : DQ X e fq)
    (hbase : attributeBase o "append" X.env (eval o X.env) = eval o X.env := by rfl)
    (hfew : ((backTo cpos (starEach [e] X.env)).all (fun x => !x.1) && (backToKw cpos (keywordEach [] X.env)).all (fun x => x.1.isSome) && decide (([e] : List Expr).length + ([] : List Keyword).length + (if ([] : List Keyword).isEmpty then 0 else 1) < 30)) = true := by rfl)
    (hline : (apos.endLine == cpos.line) = true := by rfl) (hs : starEach [e] X.env = (false, eval e X.env) :: starEach [] X.env := by rfl) (hplain : (backTo cpos (starEach [] X.env)).any (·.1) = false := by rfl)
    (hsw : swapsWith (.Call (.Attribute o "append" apos) [e] [] cpos) none pos.line X.env = pure false := by rfl) : DS X W Z (.Expr (.Call (.Attribute o "append" apos) [e] [] cpos) pos) (sAppP fp fq) := fun ρ r h => by
  unfold sAppP at h
  split at h
  · rename_i i π d e1 e2
    split at h
    · rename_i os e3
      split at h
      · rename_i hz
        cases h
        obtain ⟨ta, pa, qa⟩ := ho ρ _ _ e1
        obtain ⟨tb, pb, qb⟩ := he ρ _ e2
        refine ⟨_, ps_expr (pe_bm PySem.F.plainAttrs_list PySem.F.slot_list_append PySem.F.type_list_append mt_append pa (pa_cons pb pa_nil hs) hbase hfew hline hs hplain) hsw, fun σ H g F D G z k => qa σ H g F _ G fun v R sv => ?_⟩
        obtain ⟨l, vs, Fc, rfl, m1, m2, ro, wc, hF, nFc, up⟩ := ref_put R e3 G.ok
        refine ⟨.inl ⟨rfl, vs, (SqX.of m2).l⟩, qb σ H g F _ G fun w rw' => ?_⟩
        have rw2 : OwR X.mg X.K g (.f d) w fun _ => False := ⟨rw', fun _ z => z⟩
        obtain ⟨F', G', w', st'⟩ := up (vs ++ [w]) (os ++ [.f d]) (fun p => Fc p ∨ False) (OwRs.app ro (OwRs.one rw2) fun p y z => z) (fun p z => z.elim .inl False.elim) (fun z => z.elim nFc id)
        refine ⟨l, vs, w, rfl, rfl, m2, by rw [ro.len]; exact Nat.lt_of_lt_of_le hz (by decide), k σ _ _ F' G' z ?_⟩
        have s2 := st' (fun _ => False) fun p z => z.elim (fun z => .inl (wc p z)) .inr
        exact Stp.tr (Stp.refl fun p z => z.elim id False.elim) s2
      · cases h
    · cases h
  · cases h
/-- x[..][k] = e -/
def sItem (f : Ev → Option (Nat × List Nat)) (h : Ev → Option Dt) (fe : Fn Ow) : SF := sVal fe fun x ρ => match f ρ, h ρ with
  | some (i, π), some (.int k) => match getE ρ i π with
    | some (.n .lst os) => match ixN os.length k with
      | some j => some (.nx (setE ρ i π (.l (os.set j x))))
      | none => none
    | _ => none
  | _, _ => none
theorem ds_item (ho : DP X o fp) (hi : DQ X b fq) (he : DE X W e fe) (hs : swapsWithSole [.Subscript o b tpos] e pos.line X.env = pure false := by rfl) (hw : swappedStores [.Subscript o b tpos] e X.env = pure none := by rfl)
    (h1 : (assignEach [.Subscript o b tpos] X.env).map (·.2) = [assign (.Subscript o b tpos) X.env] := by rfl)
    (ha : ∀ v, assign (.Subscript o b tpos) X.env v = (do
      let ov ← holding [v] (eval o X.env)
      let iv ← holding [v, ov] (eval b X.env)
      standAt tpos
      holding [v, ov, iv] (setItem ov iv v)
      release [v, ov, iv] []) := by intro v; rfl) : DS X W Z (.Assign [.Subscript o b tpos] e pos) (sItem fp fq fe) := fun ρ r hr => by
  rcases sVal_inv hr with ⟨x, ρ1, h3, hk⟩ | ⟨c, d, ρ1, h3, rfl⟩
  · obtain ⟨t, p, q⟩ := he ρ _ h3
    split at hk
    · rename_i i π kk e1 e2
      split at hk
      · rename_i os e3
        split at hk
        · rename_i j ej
          cases hk
          obtain ⟨ta, pa, qa⟩ := ho ρ1 _ _ e1
          obtain ⟨tb, pb, qb⟩ := hi ρ1 _ e2
          refine ⟨_, ps_asg p (pg_sub pa pb set_list ha) hs hw h1, fun σ H g F D G z k => q σ H g F _ G fun w H1 g1 F1 Fw G1 rw' d1 s1 => qa σ H1 g1 F1 _ G1 fun v R sv => qb σ H1 g1 F1 _ G1 fun u ru => ?_⟩
          cases ru
          obtain ⟨l, vs, Fc, rfl, m1, m2, ro, wc, hF, nFc, up⟩ := ref_put R e3 G1.ok
          have jl : j < os.length := (ixN_seq ej).2.1
          obtain ⟨vj, K1, K2, c1, c2, c3, c4, c5⟩ := ro.at (List.getElem?_eq_getElem jl)
          have rset := c5 g1 x w Fw Kp.refl rw' fun p y z => d1 p (wc p ((c4 p).mpr (.inr z))) y
          obtain ⟨F', G', w', st'⟩ := up (vs.set j w) (os.set j x) (fun p => Fw p ∨ K2 p) rset (fun p z => z.elim (fun z => .inr fun y => d1 p y z) fun z => .inl ((c4 p).mpr (.inr z))) (fun z => z.elim (d1 _ hF) fun z => nFc ((c4 _).mpr (.inr z)))
          refine ⟨l, vs, kk, j, rfl, rfl, m2, by rw [ro.len]; exact ej, k σ _ _ F' G' z (s1.tr (st' Fw fun p z => z.elim .inr fun z => .inl (wc p ((c4 p).mpr (.inr z)))))⟩
        · cases hk
      · cases hk
    · cases hk
  · obtain ⟨t, p, q⟩ := he ρ _ h3
    exact ⟨_, ps_asg (g := fun _ _ _ _ => False) p ⟨fun _ _ _ _ _ _ _ _ _ h => h.elim⟩ hs hw h1, fun σ H g F D G z k => q σ H g F _ G fun cls dx H1 g1 F1 G1 e1 s1 => k cls dx σ H1 g1 F1 G1 z e1 s1⟩
theorem get_list : PGet X (fun x y H Q => rIxL X.K x y H Q) := by
  intro pins s σ H o i ov iv Q I ro ri h
  obtain ⟨p, xs, k, z, rfl, rfl, hq, he, q⟩ := h
  cases ro
  obtain ⟨t, rfl⟩ := ri
  obtain ⟨its, r, pl, hz⟩ := I.list hq
  obtain ⟨j, h1, h2, h3, h4, h5⟩ := atI_get he
  obtain ⟨w, ew, rw'⟩ := r.get h2
  have hl := r.length
  have hn := line63
  have fin : EP X pins σ Q w s := ⟨z, H, I, rw', q⟩
  by_cases h0 : 0 ≤ k
  · have hj : k.toNat = j := by
      rw [seqIndex_of h0 h5] at h1
      exact Option.some.inj h1
    exact wpAny_getItem_list pl.isList h0 (by omega) (by rw [hj]; simpa using ew) fin
  · have hj : (k + (its.toArray.size : Int)).toNat = j := by
      rw [seqIndex_neg (by omega) h4] at h1
      rw [List.size_toArray, ← hl]
      exact Option.some.inj h1
    exact wpAny_getItem_list_neg pl.isList (by omega) (by rw [List.size_toArray] <;> omega) (by omega) (by rw [hj]; simpa using ew) fin
/-- x[..][k] += e, ints -/
def sAugI (B : Int → Int → Int) (f : Ev → Option (Nat × List Nat)) (h h2 : Ev → Option Dt) : SF := fun ρ => match f ρ, h ρ, h2 ρ with
  | some (i, π), some (.int k), some (.int n) => match getE ρ i π with
    | some (.n .lst os) => match ixN os.length k with
      | some j => match os[j]? with
        | some (.f (.int m)) => some (.nx (setE ρ i π (.l (os.set j (.f (.int (B m n)))))))
        | _ => none
      | none => none
    | _ => none
  | _, _, _ => none
theorem ds_augI {op : Operator} {B : Int → Int → Int} (hop : PIp X op (ipI B)) (ho : DP X o fp) (hi : DQ X b fq) (he : DQ X e fq2)
    (ha : ∀ ov iv new, augStore b ov iv new = (do holding [new, ov, iv] (setItem ov iv new); release [new, ov, iv] []; pure .next) := by intros; rfl) : DS X W Z (.AugAssign (.Subscript o b tpos) op e pos) (sAugI B fp fq fq2) := fun ρ r h => by
  unfold sAugI at h
  split at h
  · rename_i i π kk n e1 e2 e5
    split at h
    · rename_i os e3
      split at h
      · rename_i j ej
        split at h
        · rename_i m em
          cases h
          obtain ⟨ta, pa, qa⟩ := ho ρ _ _ e1
          obtain ⟨tb, pb, qb⟩ := hi ρ _ e2
          obtain ⟨tc, pc, qc⟩ := he ρ _ e5
          refine ⟨_, ps_augS pa pb get_list pc hop set_list ha, fun σ H g F D G z k => qa σ H g F _ G fun v R sv => qb σ H g F _ G fun u ru => ?_⟩
          cases ru
          obtain ⟨l, vs, Fc, rfl, m1, m2, ro, wc, hF, nFc, up⟩ := ref_put R e3 G.ok
          obtain ⟨vj, K1, K2, c1, c2, c3, c4, c5⟩ := ro.at em
          obtain ⟨c2, c2'⟩ := c2
          cases c2
          refine ⟨l, vs, kk, _, rfl, rfl, (SqX.of m2).l, by unfold atI; rw [ro.len, ej]; exact c1, qc σ H g F _ G fun y ry => ?_⟩
          cases ry
          refine ⟨m, n, rfl, rfl, ?_⟩
          have rset := c5 g (.f (.int (B m n))) (V.int (B m n)) (fun _ => False) Kp.refl ⟨.int _, fun _ z => z⟩ fun _ z _ => z
          obtain ⟨F', G', w', st'⟩ := up _ _ _ rset (fun p z => z.elim False.elim fun z => .inl ((c4 p).mpr (.inr z))) (fun z => z.elim id fun z => nFc ((c4 _).mpr (.inr z)))
          refine ⟨l, vs, kk, j, rfl, rfl, m2, by rw [ro.len]; exact ej, k σ _ _ F' G' z ?_⟩
          have s2 := st' (fun _ => False) fun p z => z.elim False.elim fun z => .inl (wc p ((c4 p).mpr (.inr z)))
          exact Stp.tr (Stp.refl fun p z => z.elim id False.elim) s2
        · cases h
      · cases h
    · cases h
  · cases h
/-- x[..].clear() -/
def sClr (f : Ev → Option (Nat × List Nat)) : SF := fun ρ => match f ρ with
  | some (i, π) => match getE ρ i π with
    | some (.n .lst _) => some (.nx (setE ρ i π (.l [])))
    | _ => none
  | none => none
theorem ds_clr (ho : DP X o fp) (hbase : attributeBase o "clear" X.env (eval o X.env) = eval o X.env := by rfl) (hline : (apos.endLine == cpos.line) = true := by rfl)
    (hsw : swapsWith (.Call (.Attribute o "clear" apos) [] [] cpos) none pos.line X.env = pure false := by rfl) : DS X W Z (.Expr (.Call (.Attribute o "clear" apos) [] [] cpos) pos) (sClr fp) := fun ρ r h => by
  unfold sClr at h
  split at h
  · rename_i i π e1
    split at h
    · rename_i os e3
      cases h
      obtain ⟨ta, pa, qa⟩ := ho ρ _ _ e1
      refine ⟨_, ps_expr (pe_bm0 PySem.F.plainAttrs_list PySem.F.slot_list_clear PySem.F.type_list_clear mt_clear pa hbase hline) hsw, fun σ H g F D G z k => qa σ H g F _ G fun v R sv => ?_⟩
      obtain ⟨l, vs, Fc, rfl, m1, m2, ro, wc, hF, nFc, up⟩ := ref_put R e3 G.ok
      obtain ⟨F', G', w', st'⟩ := up [] [] (fun _ => False) ⟨rfl, fun _ z => z⟩ (fun _ z => z.elim) (fun z => z)
      refine ⟨.inl ⟨rfl, vs, (SqX.of m2).l⟩, l, vs, rfl, rfl, m2, k σ _ _ F' G' z ?_⟩
      exact Stp.tr (Stp.refl fun p z => z.elim id False.elim) (st' (fun _ => False) fun p z => z.elim)
    · cases h
  · cases h
end
end OW
namespace OW
open PySem PySem.Spec PyProof.Rows L2
open DL (Dt Rp RpAll SqX pe_no pt_no pw_no ps_no pss_no rng cutD)

/-! ### what is built in, over data -/
def intsOf : List Dt → Option (List Int)
  | [] => some []
  | .int i :: r => match intsOf r with
    | some ns => some (i :: ns)
    | none => none
  | _ => none
def blsOf : List Dt → Option (List Bool)
  | [] => some []
  | .bl i :: r => match blsOf r with
    | some ns => some (i :: ns)
    | none => none
  | _ => none
theorem intsOf_eq : ∀ {ds : List Dt} {ns : List Int}, intsOf ds = some ns → ds = ns.map .int
  | [], ns, h => by cases h; rfl
  | .int i :: r, ns, h => by
    unfold intsOf at h
    split at h
    · rename_i ms e
      cases h
      rw [List.map_cons, intsOf_eq e]
    · cases h
  | .non :: _, _, h => by cases h
  | .bl _ :: _, _, h => by cases h
  | .str _ :: _, _, h => by cases h
  | .lst _ :: _, _, h => by cases h
  | .tup _ :: _, _, h => by cases h
  | .opq _ :: _, _, h => by cases h
theorem blsOf_eq : ∀ {ds : List Dt} {ns : List Bool}, blsOf ds = some ns → ds = ns.map .bl
  | [], ns, h => by cases h; rfl
  | .bl i :: r, ns, h => by
    unfold blsOf at h
    split at h
    · rename_i ms e
      cases h
      rw [List.map_cons, blsOf_eq e]
    · cases h
  | .non :: _, _, h => by cases h
  | .int _ :: _, _, h => by cases h
  | .str _ :: _, _, h => by cases h
  | .lst _ :: _, _, h => by cases h
  | .tup _ :: _, _, h => by cases h
  | .opq _ :: _, _, h => by cases h
theorem intsOf_map (ns : List Int) : intsOf (ns.map .int) = some ns := by
  induction ns with
  | nil => rfl
  | cons n ns ih => rw [List.map_cons]; unfold intsOf; rw [ih]
theorem blsOf_map (ns : List Bool) : blsOf (ns.map .bl) = some ns := by
  induction ns with
  | nil => rfl
  | cons n ns ih => rw [List.map_cons]; unfold blsOf; rw [ih]
/-- the greatest and the least of some ints -/
def gst : List Int → Int
  | [] => 0
  | [x] => x
  | x :: xs => max x (gst xs)
def lst' : List Int → Int
  | [] => 0
  | [x] => x
  | x :: xs => min x (lst' xs)
theorem gst_mem : ∀ {xs : List Int}, xs ≠ [] → gst xs ∈ xs
  | [], h => (h rfl).elim
  | [x], _ => List.mem_cons_self
  | x :: y :: r, _ => by
    have ih := gst_mem (xs := y :: r) (by simp)
    show max x (gst (y :: r)) ∈ _
    by_cases h : x ≤ gst (y :: r)
    · rw [Int.max_eq_right h]; exact List.mem_cons_of_mem _ ih
    · rw [Int.max_eq_left (by omega)]; exact List.mem_cons_self
theorem gst_le : ∀ {xs : List Int} {z : Int}, z ∈ xs → z ≤ gst xs
  | [x], z, h => by simp at h; subst h; exact Int.le_refl _
  | x :: y :: r, z, h => by
    show z ≤ max x (gst (y :: r))
    rcases List.mem_cons.mp h with rfl | h
    · exact Int.le_max_left _ _
    · exact Int.le_trans (gst_le h) (Int.le_max_right _ _)
theorem lst_mem : ∀ {xs : List Int}, xs ≠ [] → lst' xs ∈ xs
  | [], h => (h rfl).elim
  | [x], _ => List.mem_cons_self
  | x :: y :: r, _ => by
    have ih := lst_mem (xs := y :: r) (by simp)
    show min x (lst' (y :: r)) ∈ _
    by_cases h : x ≤ lst' (y :: r)
    · rw [Int.min_eq_left h]; exact List.mem_cons_self
    · rw [Int.min_eq_right (by omega)]; exact List.mem_cons_of_mem _ ih
theorem lst_le : ∀ {xs : List Int} {z : Int}, z ∈ xs → lst' xs ≤ z
  | [x], z, h => by simp at h; subst h; exact Int.le_refl _
  | x :: y :: r, z, h => by
    show min x (lst' (y :: r)) ≤ z
    rcases List.mem_cons.mp h with rfl | h
    · exact Int.min_le_left _ _
    · exact Int.le_trans (Int.min_le_right _ _) (lst_le h)
def srt (ns : List Int) : List Int := ns.mergeSort fun a b => decide (a ≤ b)
theorem srt_eq {ns ms : List Int} (h : ms.Perm ns) (s : ms.Pairwise (· ≤ ·)) : ms = srt ns := by
  have p : (srt ns).Perm ns := List.mergeSort_perm ns _
  have q : (srt ns).Pairwise (· ≤ ·) := by
    have z := List.pairwise_mergeSort (le := fun a b : Int => decide (a ≤ b)) (fun a b c h1 h2 => by simp at *; omega) (fun a b => by simp; omega) ns
    exact z.imp fun h => by simpa using h
  exact PySem.W.ksm_same (h.trans p.symm) s q
def kLen : List Dt → Option Ow
  | [.lst ds] => some (.f (.int ds.length))
  | [.tup ds] => some (.f (.int ds.length))
  | [.str s] => if s.length ≤ LIM then some (.f (.int s.length)) else none
  | _ => none
def kAbs : List Dt → Option Ow
  | [.int i] => some (.f (.int (i.natAbs : Int)))
  | _ => none
def kMax : List Dt → Option Ow
  | [.int i, .int j] => some (.f (.int (max i j)))
  | [.lst ds] => match intsOf ds with
    | some ns => if ns ≠ [] then some (.f (.int (gst ns))) else none
    | none => none
  | _ => none
def kMin : List Dt → Option Ow
  | [.int i, .int j] => some (.f (.int (min i j)))
  | [.int i, .int j, .int l] => some (.f (.int (min i (min j l))))
  | [.lst ds] => match intsOf ds with
    | some ns => if ns ≠ [] then some (.f (.int (lst' ns))) else none
    | none => none
  | _ => none
def kSum : List Dt → Option Ow
  | [.lst ds] => match intsOf ds with
    | some ns => some (.f (.int ns.sum))
    | none => none
  | _ => none
def kSort : List Dt → Option Ow
  | [.lst ds] => match intsOf ds with
    | some ns => some (.l ((srt ns).map fun n => .f (.int n)))
    | none => none
  | _ => none
def kAll : List Dt → Option Ow
  | [.lst ds] => match blsOf ds with
    | some bs => some (.f (.bl (bs.all id)))
    | none => none
  | _ => none
def kAny : List Dt → Option Ow
  | [.lst ds] => match blsOf ds with
    | some bs => some (.f (.bl (bs.any id)))
    | none => none
  | _ => none
def kInt : List Dt → Option Ow
  | [.int i] => some (.f (.int i))
  | [.bl b] => some (.f (.int (if b then 1 else 0)))
  | _ => none
def kBool : List Dt → Option Ow
  | [.int i] => some (.f (.bl (i != 0)))
  | [.bl b] => some (.f (.bl b))
  | _ => none
def kStr : List Dt → Option Ow
  | [.int i] => if i.natAbs.log2 < 1920 then some (.f (.str (toString i))) else none
  | _ => none
def kList : List Dt → Option Ow
  | [.lst ds] => some (.l (ds.map .f))
  | [.tup ds] => some (.l (ds.map .f))
  | _ => none
def kTuple : List Dt → Option Ow
  | [.lst ds] => some (.f (.tup ds))
  | [.tup ds] => some (.f (.tup ds))
  | _ => none
def kDivmod : List Dt → Option Ow
  | [.int i, .int j] => if 0 < j ∧ j < 1073741824 then some (.f (.tup [.int (i / j), .int (i % j)])) else none
  | _ => none
def fitsR (d : Dt) : Bool := DL.Dt.fits d
def kRepr : List Dt → Option Ow
  | [.lst ds] => if fitsR (.lst ds) then some (.f (.str (Dt.text (.lst ds)))) else none
  | [.tup ds] => if fitsR (.tup ds) then some (.f (.str (Dt.text (.tup ds)))) else none
  | [.int i] => if i.natAbs.log2 < 1920 then some (.f (.str (toString i))) else none
  | [.non] => some (.f (.str "None"))
  | _ => none
section
variable {X : Cx} {W : WX} {pos p : Pos} {e : Expr} {es : List Expr} {fs : Fn (List Ow)} {k : Nat}
theorem rf_s {r : List V → Hp → VK → Prop} {ds : List Dt} {c : Dt} (h : ∀ vs H S (Q : VK), Same S H → RpAll X.K S vs ds → (∀ w, (∀ S, Rp X.K S w c) → Q w H) → r vs H Q) : RF X r ds (.f c) := fun vs H g Q k rv q =>
  h vs H g.S Q k.s rv fun w hw => q w H g (fun _ => False) k ⟨hw _, fun _ z => z⟩ (Stp.refl fun _ z => z)
theorem rf_l {r : List V → Hp → VK → Prop} {ds : List Dt} {cs : List Dt} (h : ∀ vs H S (Q : VK), Same S H → RpAll X.K S vs ds → (∀ p us, H p = none → RpAll X.K S us cs → Q (.ref p) (upd H p (.lst us))) → r vs H Q) : RF X r ds (.l (cs.map .f)) := fun vs H g Q k rv q =>
  h vs H g.S Q k.s rv fun p us hp ru => by
    obtain ⟨a, b, c⟩ := new_l k (OwRs.of_rp ru) hp
    exact q _ _ _ _ a b c
theorem one_lst {K : PySem.W.Frag} {S H : Hp} {vs : List V} {ds : List Dt} (st : Same S H) (h : RpAll K S vs [.lst ds]) : ∃ a xs, vs = [.ref a] ∧ SqX K H a xs ∧ RpAll K S xs ds := by
  cases h with
  | cons h1 h2 =>
    cases h2
    cases h1 with
    | lst a b => exact ⟨_, _, rfl, DL.sqx_mono st a, b⟩
theorem one_tup {K : PySem.W.Frag} {S H : Hp} {vs : List V} {ds : List Dt} (st : Same S H) (h : RpAll K S vs [.tup ds]) : ∃ a xs, vs = [.ref a] ∧ SqT K H a xs ∧ RpAll K S xs ds := by
  cases h with
  | cons h1 h2 =>
    cases h2
    cases h1 with
    | tup a b => exact ⟨_, _, rfl, DL.sqt_mono st a, b⟩
theorem one_int {K : PySem.W.Frag} {S : Hp} {vs : List V} {i : Int} (h : RpAll K S vs [.int i]) : vs = [.int i] := by
  cases h with
  | cons h1 h2 => cases h2; cases h1; rfl
theorem one_bl {K : PySem.W.Frag} {S : Hp} {vs : List V} {i : Bool} (h : RpAll K S vs [.bl i]) : vs = [.bl i] := by
  cases h with
  | cons h1 h2 => cases h2; cases h1; rfl
theorem one_str {K : PySem.W.Frag} {S : Hp} {vs : List V} {i : Str} (h : RpAll K S vs [.str i]) : vs = [.str i] := by
  cases h with
  | cons h1 h2 => cases h2; cases h1; rfl
theorem one_non {K : PySem.W.Frag} {S : Hp} {vs : List V} (h : RpAll K S vs [.non]) : vs = [.non] := by
  cases h with
  | cons h1 h2 => cases h2; cases h1; rfl
theorem two_int {K : PySem.W.Frag} {S : Hp} {vs : List V} {i j : Int} (h : RpAll K S vs [.int i, .int j]) : vs = [.int i, .int j] := by
  cases h with
  | cons h1 h2 =>
    cases h1
    rw [one_int h2]
theorem three_int {K : PySem.W.Frag} {S : Hp} {vs : List V} {i j l : Int} (h : RpAll K S vs [.int i, .int j, .int l]) : vs = [.int i, .int j, .int l] := by
  cases h with
  | cons h1 h2 =>
    cases h1
    rw [two_int h2]
theorem sq_ints {K : PySem.W.Frag} {S H : Hp} {vs : List V} {ds : List Dt} {ns : List Int} (st : Same S H) (e : intsOf ds = some ns) (h : RpAll K S vs [.lst ds]) : ∃ a, vs = [.ref a] ∧ SqL K H a (ns.map V.int) := by
  obtain ⟨a, xs, rfl, h1, h2⟩ := one_lst st h
  have := intsOf_eq e
  subst this
  rw [RpAll.ints h2] at h1
  exact ⟨a, rfl, h1.l⟩
theorem sq_bls {K : PySem.W.Frag} {S H : Hp} {vs : List V} {ds : List Dt} {ns : List Bool} (st : Same S H) (e : blsOf ds = some ns) (h : RpAll K S vs [.lst ds]) : ∃ a, vs = [.ref a] ∧ SqL K H a (ns.map V.bl) := by
  obtain ⟨a, xs, rfl, h1, h2⟩ := one_lst st h
  have := blsOf_eq e
  subst this
  rw [RpAll.bls h2] at h1
  exact ⟨a, rfl, h1.l⟩
theorem rf_len {ds : List Dt} {z : Ow} (h : kLen ds = some z) : ∃ r, CallR X (.builtin "len") r ∧ RF X r ds z := by
  unfold kLen at h
  split at h
  · cases h
    refine ⟨_, call_len_seq, rf_s fun vs H S Q st rv q => ?_⟩
    obtain ⟨a, xs, rfl, h1, h2⟩ := one_lst st rv
    refine ⟨a, xs, rfl, .inl h1.l, ?_⟩
    rw [h2.len]
    exact q _ fun _ => .int _
  · cases h
    refine ⟨_, call_len_seq, rf_s fun vs H S Q st rv q => ?_⟩
    obtain ⟨a, xs, rfl, h1, h2⟩ := one_tup st rv
    refine ⟨a, xs, rfl, .inr h1, ?_⟩
    rw [h2.len]
    exact q _ fun _ => .int _
  · split at h
    · rename_i hz
      cases h
      refine ⟨_, call_len_str, rf_s fun vs H S Q st rv q => ?_⟩
      exact ⟨_, one_str rv, lim_line hz, q _ fun _ => .int _⟩
    · cases h
  · cases h
theorem rf_abs {ds : List Dt} {z : Ow} (h : kAbs ds = some z) : ∃ r, CallR X (.builtin "abs") r ∧ RF X r ds z := by
  unfold kAbs at h
  split at h
  · rename_i i
    cases h
    refine ⟨_, call_abs, rf_s fun vs H S Q st rv q => ⟨_, one_int rv, ?_⟩⟩
    have e : (if i < 0 then -i else i) = (i.natAbs : Int) := by split <;> omega
    rw [e]
    exact q _ fun _ => .int _
  · cases h
theorem rf_max (hc : X.calm = true) {ds : List Dt} {z : Ow} (h : kMax ds = some z) : ∃ r, CallR X (.builtin "max") r ∧ RF X r ds z := by
  unfold kMax at h
  split at h
  · rename_i i j
    cases h
    refine ⟨_, call_max2 hc, rf_s fun vs H S Q st rv q => ⟨_, _, two_int rv, ?_⟩⟩
    have e : (if j > i then j else i) = max i j := by split <;> omega
    rw [e]
    exact q _ fun _ => .int _
  · split at h
    · rename_i ns e
      split at h
      · rename_i hne
        cases h
        refine ⟨_, cr_max hc, rf_s fun vs H S Q st rv q => ?_⟩
        obtain ⟨a, rfl, h1⟩ := sq_ints st e rv
        refine ⟨a, ns, rfl, h1, List.length_pos_iff.mpr hne, fun m hm hle => ?_⟩
        have : m = gst ns := Int.le_antisymm (gst_le hm) (hle _ (gst_mem hne))
        rw [this]
        exact q _ fun _ => .int _
      · cases h
    · cases h
  · cases h
theorem rf_min (hc : X.calm = true) {ds : List Dt} {z : Ow} (h : kMin ds = some z) : ∃ r, CallR X (.builtin "min") r ∧ RF X r ds z := by
  unfold kMin at h
  split at h
  · rename_i i j
    cases h
    refine ⟨_, call_min2 hc, rf_s fun vs H S Q st rv q => ⟨_, _, two_int rv, ?_⟩⟩
    have e : (if j < i then j else i) = min i j := by split <;> omega
    rw [e]
    exact q _ fun _ => .int _
  · rename_i i j l
    cases h
    exact ⟨_, DL.call_min3 hc, rf_s fun vs H S Q st rv q => ⟨_, _, _, three_int rv, q _ fun _ => .int _⟩⟩
  · split at h
    · rename_i ns e
      split at h
      · rename_i hne
        cases h
        refine ⟨_, cr_min hc, rf_s fun vs H S Q st rv q => ?_⟩
        obtain ⟨a, rfl, h1⟩ := sq_ints st e rv
        refine ⟨a, ns, rfl, h1, List.length_pos_iff.mpr hne, fun m hm hle => ?_⟩
        have : m = lst' ns := Int.le_antisymm (hle _ (lst_mem hne)) (lst_le hm)
        rw [this]
        exact q _ fun _ => .int _
      · cases h
    · cases h
  · cases h
theorem rf_sum (hc : X.calm = true) {ds : List Dt} {z : Ow} (h : kSum ds = some z) : ∃ r, CallR X (.builtin "sum") r ∧ RF X r ds z := by
  unfold kSum at h
  split at h
  · split at h
    · rename_i ns e
      cases h
      refine ⟨_, cr_sum hc, rf_s fun vs H S Q st rv q => ?_⟩
      obtain ⟨a, rfl, h1⟩ := sq_ints st e rv
      exact ⟨a, ns, rfl, h1, q _ fun _ => .int _⟩
    · cases h
  · cases h
theorem rf_sort {ds : List Dt} {z : Ow} (h : kSort ds = some z) : ∃ r, CallR X (.builtin "sorted") r ∧ RF X r ds z := by
  unfold kSort at h
  split at h
  · split at h
    · rename_i ns e
      cases h
      have em : ((srt ns).map fun n => Ow.f (.int n)) = ((srt ns).map Dt.int).map Ow.f := by rw [List.map_map]; rfl
      rw [em]
      refine ⟨_, cr_sortedI, rf_l fun vs H S Q st rv q => ?_⟩
      obtain ⟨a, rfl, h1⟩ := sq_ints st e rv
      refine ⟨a, ns, rfl, h1, fun ns' p hp hs hn => ?_⟩
      rw [srt_eq hp hs]
      exact q p _ hn (RpAll.of_ints _)
    · cases h
  · cases h
theorem rf_all (hc : X.calm = true) {ds : List Dt} {z : Ow} (h : kAll ds = some z) : ∃ r, CallR X (.builtin "all") r ∧ RF X r ds z := by
  unfold kAll at h
  split at h
  · split at h
    · rename_i ns e
      cases h
      refine ⟨_, cr_all hc, rf_s fun vs H S Q st rv q => ?_⟩
      obtain ⟨a, rfl, h1⟩ := sq_bls st e rv
      exact ⟨a, ns, rfl, h1, q _ fun _ => .bl _⟩
    · cases h
  · cases h
theorem rf_any (hc : X.calm = true) {ds : List Dt} {z : Ow} (h : kAny ds = some z) : ∃ r, CallR X (.builtin "any") r ∧ RF X r ds z := by
  unfold kAny at h
  split at h
  · split at h
    · rename_i ns e
      cases h
      refine ⟨_, cr_any hc, rf_s fun vs H S Q st rv q => ?_⟩
      obtain ⟨a, rfl, h1⟩ := sq_bls st e rv
      exact ⟨a, ns, rfl, h1, q _ fun _ => .bl _⟩
    · cases h
  · cases h
theorem rf_int {ds : List Dt} {z : Ow} (h : kInt ds = some z) : ∃ r, CallR X (.type "int") r ∧ RF X r ds z := by
  unfold kInt at h
  split at h
  · cases h
    exact ⟨_, call_int1, rf_s fun vs H S Q st rv q => .inl ⟨_, one_int rv, q _ fun _ => .int _⟩⟩
  · cases h
    exact ⟨_, call_int1, rf_s fun vs H S Q st rv q => .inr ⟨_, one_bl rv, q _ fun _ => .int _⟩⟩
  · cases h
theorem rf_bool {ds : List Dt} {z : Ow} (h : kBool ds = some z) : ∃ r, CallR X (.type "bool") r ∧ RF X r ds z := by
  unfold kBool at h
  split at h
  · cases h
    exact ⟨_, call_bool1, rf_s fun vs H S Q st rv q => .inl ⟨_, one_int rv, q _ fun _ => .bl _⟩⟩
  · cases h
    exact ⟨_, call_bool1, rf_s fun vs H S Q st rv q => .inr ⟨_, one_bl rv, q _ fun _ => .bl _⟩⟩
  · cases h
theorem rf_str {ds : List Dt} {z : Ow} (h : kStr ds = some z) : ∃ r, CallR X (.type "str") r ∧ RF X r ds z := by
  unfold kStr at h
  split at h
  · split at h
    · rename_i hz
      cases h
      exact ⟨_, call_str_int, rf_s fun vs H S Q st rv q => ⟨_, one_int rv, hz, q _ fun _ => .str _⟩⟩
    · cases h
  · cases h
theorem rf_list {ds : List Dt} {z : Ow} (h : kList ds = some z) : ∃ r, CallR X (.type "list") r ∧ RF X r ds z := by
  unfold kList at h
  split at h
  · cases h
    refine ⟨_, call_list_of, rf_l fun vs H S Q st rv q => ?_⟩
    obtain ⟨a, xs, rfl, h1, h2⟩ := one_lst st rv
    exact ⟨a, xs, rfl, .inl h1.l, fun l hl => q l xs hl h2⟩
  · cases h
    refine ⟨_, call_list_of, rf_l fun vs H S Q st rv q => ?_⟩
    obtain ⟨a, xs, rfl, h1, h2⟩ := one_tup st rv
    exact ⟨a, xs, rfl, .inr h1, fun l hl => q l xs hl h2⟩
  · cases h
theorem rf_tuple {ds : List Dt} {z : Ow} (h : kTuple ds = some z) : ∃ r, CallR X (.type "tuple") r ∧ RF X r ds z := by
  unfold kTuple at h
  split at h
  · cases h
    refine ⟨_, call_tuple_of, fun vs H g Q k rv q => ?_⟩
    obtain ⟨a, xs, rfl, h1, h2⟩ := one_lst k.s rv
    refine ⟨a, xs, rfl, .inl ⟨h1.l, fun l hl => ?_⟩⟩
    obtain ⟨b1, b2, b3⟩ := new_t (F := fun _ => False) k h2 hl
    exact q _ _ _ (fun _ => False) b1 ⟨b2, fun _ z => z⟩ b3
  · cases h
    refine ⟨_, call_tuple_of, fun vs H g Q k rv q => ?_⟩
    cases rv with
    | cons r1 r2 =>
      cases r2
      cases r1 with
      | tup h1 h2 => exact ⟨_, _, rfl, .inr ⟨DL.sqt_mono k.s h1, q _ H g (fun _ => False) k ⟨.tup h1 h2, fun _ z => z⟩ (Stp.refl fun _ z => z)⟩⟩
  · cases h
theorem rf_divmod {ds : List Dt} {z : Ow} (h : kDivmod ds = some z) : ∃ r, CallR X (.builtin "divmod") r ∧ RF X r ds z := by
  unfold kDivmod at h
  split at h
  · split at h
    · rename_i hz
      cases h
      refine ⟨_, call_divmod, fun vs H g Q k rv q => ⟨_, _, two_int rv, hz, fun l hl => ?_⟩⟩
      obtain ⟨b1, b2, b3⟩ := new_t (F := fun _ => False) k (RpAll.cons (.int _) (.cons (.int _) .nil)) hl
      exact q _ _ _ (fun _ => False) b1 ⟨b2, fun _ z => z⟩ b3
    · cases h
  · cases h
theorem rf_repr {k : Nat} (hgd : X.A.guards = some []) (hr : Room k X.A) {ds : List Dt} {z : Ow} (h : kRepr ds = some z) : ∃ r, CallR X (.builtin "repr") r ∧ RF X r ds z := by
  have both : ∀ {d : Dt} {vs : List V} {H : Hp} {S : Hp}, fitsR d = true → Same S H → RpAll X.K S vs [d] → (∃ a, vs = [V.ref a]) → ∃ a, vs = [V.ref a] ∧ Dp X.K H (.ref a) d.py ∧ d.py.showable = true ∧ d.py.depth ≤ 100 ∧ d.py.shown.length ≤ sizeLine := fun {d vs H S} hf st rv ⟨a, ha⟩ => by
    unfold fitsR DL.Dt.fits at hf
    simp only [Bool.and_eq_true, decide_eq_true_eq] at hf
    obtain ⟨⟨⟨f1, f2⟩, f3⟩, f4⟩ := hf
    cases rv with
    | cons r1 r2 =>
      cases r2
      cases ha
      exact ⟨a, rfl, DL.dp_mono st _ _ (DL.Rp.dp d _ f1 r1), f2, f3, f4⟩
  unfold kRepr at h
  split at h
  · split at h
    · rename_i hf
      cases h
      refine ⟨_, DL.cr_repr hgd hr, rf_s fun vs H S Q st rv q => ?_⟩
      obtain ⟨a, xs, e, _, _⟩ := one_lst st rv
      obtain ⟨a, rfl, h1, h2, h3, h4⟩ := both hf st rv ⟨a, e⟩
      exact ⟨a, _, rfl, h1, h2, h3, h4, q _ fun _ => .str _⟩
    · cases h
  · split at h
    · rename_i hf
      cases h
      refine ⟨_, DL.cr_repr hgd hr, rf_s fun vs H S Q st rv q => ?_⟩
      obtain ⟨a, xs, e, _, _⟩ := one_tup st rv
      obtain ⟨a, rfl, h1, h2, h3, h4⟩ := both hf st rv ⟨a, e⟩
      exact ⟨a, _, rfl, h1, h2, h3, h4, q _ fun _ => .str _⟩
    · cases h
  · split at h
    · rename_i hz
      cases h
      exact ⟨_, SkE.call_repr_int, rf_s fun vs H S Q st rv q => ⟨_, one_int rv, hz, q _ fun _ => .str _⟩⟩
    · cases h
  · cases h
    exact ⟨_, DL.call_repr_non, rf_s fun vs H S Q st rv q => ⟨one_non rv, q _ fun _ => .str _⟩⟩
  · cases h
/-! the calls -/
theorem de_kB {id : String} {x : Str} {B : List Dt → Option Ow} (hB : ∀ ds z, B ds = some z → ∃ r, CallR X (.builtin id) r ∧ RF X r ds z) (h0 : ∃ r, CallR X (.builtin id) r) (hm : X.mg x = none) (ha : DA X W (e :: es) fs) (hv : bootBuiltins x = some (.builtin id) := by decide +kernel)
    (hg : Gl X x := by rfl) (hn : x ≠ "__name__" := by decide) (hdb : (x == ("__debug__" : Str)) = false := by decide)
    (he : starEach (e :: es) X.env = (false, eval e X.env) :: starEach es X.env := by rfl) (hpl : (backTo pos (starEach es X.env)).any (·.1) = false := by rfl) : DE X W (.Call (.Name x p) (e :: es) [] pos) (xC (oBs B) fs) :=
  de_callB h0 (fun os z h => oBs_rc hB h) hm hv ha hg hn hdb he hpl
theorem de_kT {id : String} {x : Str} {B : List Dt → Option Ow} (hB : ∀ ds z, B ds = some z → ∃ r, CallR X (.type id) r ∧ RF X r ds z) (h0 : ∃ r, CallR X (.type id) r) (hm : X.mg x = none) (ha : DA X W (e :: es) fs) (hv : bootBuiltins x = some (.type id) := by decide +kernel)
    (hg : Gl X x := by rfl) (hn : x ≠ "__name__" := by decide) (hdb : (x == ("__debug__" : Str)) = false := by decide)
    (he : starEach (e :: es) X.env = (false, eval e X.env) :: starEach es X.env := by rfl) (hpl : (backTo pos (starEach es X.env)).any (·.1) = false := by rfl) : DE X W (.Call (.Name x p) (e :: es) [] pos) (xC (oBs B) fs) :=
  de_callT h0 (fun os z h => oBs_rc hB h) hm hv ha hg hn hdb he hpl
end
/-! ### isinstance -/
def kIs (P : Dt → Bool) (o : Ow) : Option Ow := match frz o with
  | some d => if d.ty ≠ "" then some (.f (.bl (P d))) else none
  | none => none
def xIs (P : Dt → Bool) (f : Fn Ow) : Fn Ow := bnd f fun o => opt (kIs P o)
section
variable {X : Cx} {W : WX} {pos p p2 : Pos} {e : Expr} {fe : Fn Ow} {tn : Str} {T : String} {P : Dt → Bool}
theorem de_isi (hk : ∀ d : Dt, d.ty ≠ "" → kitB d.ty T = some (P d)) (hm : X.mg "isinstance" = none) (hm2 : X.mg tn = none) (ha : DE X W e fe) (ht : bootBuiltins tn = some (.type T) := by decide +kernel) (hg : Gl X "isinstance" := by rfl) (hg2 : Gl X tn := by rfl) (hn2 : tn ≠ "__name__" := by decide) (hd2 : (tn == ("__debug__" : Str)) = false := by decide)
    (he : starEach [e, .Name tn p2] X.env = (false, eval e X.env) :: starEach [.Name tn p2] X.env := by rfl) (he2 : starEach [.Name tn p2] X.env = (false, eval (.Name tn p2) X.env) :: starEach [] X.env := by rfl) (hpl : (backTo pos (starEach [.Name tn p2] X.env)).any (·.1) = false := by rfl) :
    DE X W (.Call (.Name "isinstance" p) [e, .Name tn p2] [] pos) (xIs P fe) := fun ρ r hr => by
  have pe : ∀ {t : TE}, PE X e t → PE X (.Call (.Name "isinstance" p) [e, .Name tn p2] [] pos) _ := fun {t} pa => pe_callB call_isi hg hm (by decide +kernel) (pa_cons pa (pa_cons (pe_bltn (v := V.ty T) hg2 hm2 ht rfl hn2 hd2) pa_nil he2) he) (by decide) (by decide) he hpl
  rcases bnd_inv hr with ⟨o, ρ1, h1, h2⟩ | ⟨c, d, ρ1, h1, rfl⟩
  · obtain ⟨t, pa, qa⟩ := ha ρ _ h1
    obtain ⟨z, h3, rfl⟩ := opt_inv h2
    unfold kIs at h3
    split at h3
    · rename_i d ed
      split at h3
      · rename_i hn
        cases h3
        refine ⟨_, pe pa, fun σ H g F Q G q => qa σ H g F _ G fun v H1 g1 F1 Fv G1 r1 d1 s1 => ?_⟩
        obtain ⟨g2, G2, rv, s2, st⟩ := wlk G1 ed r1 d1 s1
        exact ⟨v, V.ty T, _, _, P d, rfl, .ty T, DL.Rp.tyx G2.ok.s rv hn, kit_ty (hk d hn), q _ H1 g2 F1 (fun _ => False) G2 ⟨.bl _, fun _ z => z⟩ (fun _ _ z => z) (s2.sub fun p z => z.elim id False.elim)⟩
      · cases h3
    · cases h3
  · obtain ⟨t, pa, qa⟩ := ha ρ _ h1
    exact ⟨_, pe pa, fun σ H g F Q G q => qa σ H g F _ G q⟩
end
/-! ### subscripts of what is made -/
def bIx : Ow → Ow → Option Ow
  | .n .lst os, .f (.int k) => match atI os k with
    | some .no => none
    | r => r
  | .n .tp os, .f (.int k) => match atI os k with
    | some .no => none
    | r => r
  | .f (.lst ds), .f (.int k) => (atI ds k).map .f
  | .f (.tup ds), .f (.int k) => (atI ds k).map .f
  | .f (.str s), .f (.int k) => if s.length ≤ LIM then (atI s.cps.toList k).map fun c => .f (.str ⟨#[c]⟩) else none
  | _, _ => none
section
variable {X : Cx} {W : WX} {pos p p2 : Pos} {a b e : Expr} {fa fb fe : Fn Ow}
theorem ix_ro {x y z : Ow} (h : bIx x y = some z) : ∃ r, IxR X r ∧ RO2 X r x y z := by
  unfold bIx at h
  split at h
  · rename_i os k
    refine ⟨_, ix_list, fun v u H g Fx Fy Q kk rx ry dj q => ?_⟩
    obtain ⟨l, vs, F0, F1, e1, hc, hs, hd, ef⟩ := rx
    obtain ⟨ry, _⟩ := ry
    cases ry
    subst e1
    cases ea : atI os k with
    | none => rw [ea] at h; cases h
    | some o =>
      have hz : o = z ∧ o ≠ .no := by
        rw [ea] at h
        cases o with
        | no => cases h
        | f _ => cases h; exact ⟨rfl, by simp⟩
        | n _ _ => cases h; exact ⟨rfl, by simp⟩
      obtain ⟨rfl, _⟩ := hz
      obtain ⟨j, j1, j2, j3⟩ := atI_len hs.len ea
      obtain ⟨w, K1, K2, c1, c2, c3, c4, c5⟩ := hs.at j2
      refine ⟨l, vs, k, w, rfl, rfl, (SqX.of (kk.m _ _ hc.1)).l, by rw [j3]; exact c1, q w H g K1 kk c2 ⟨fun _ _ e => e, fun p o e n => e, fun p z => .inl (.inl ((ef p).mpr (.inr ((c4 p).mpr (.inl z)))))⟩⟩
  · rename_i os k
    refine ⟨_, ix_tup, fun v u H g Fx Fy Q kk rx ry dj q => ?_⟩
    obtain ⟨l, vs, F0, F1, e1, hc, hs, hd, ef⟩ := rx
    obtain ⟨ry, _⟩ := ry
    cases ry
    subst e1
    cases ea : atI os k with
    | none => rw [ea] at h; cases h
    | some o =>
      have hz : o = z ∧ o ≠ .no := by
        rw [ea] at h
        cases o with
        | no => cases h
        | f _ => cases h; exact ⟨rfl, by simp⟩
        | n _ _ => cases h; exact ⟨rfl, by simp⟩
      obtain ⟨rfl, _⟩ := hz
      obtain ⟨j, j1, j2, j3⟩ := atI_len hs.len ea
      obtain ⟨w, K1, K2, c1, c2, c3, c4, c5⟩ := hs.at j2
      refine ⟨l, vs, k, w, rfl, rfl, SqT.of (kk.m _ _ hc.1), by rw [j3]; exact c1, q w H g K1 kk c2 ⟨fun _ _ e => e, fun p o e n => e, fun p z => .inl (.inl ((ef p).mpr (.inr ((c4 p).mpr (.inl z)))))⟩⟩
  · rename_i ds k
    obtain ⟨d, ed, rfl⟩ := Option.map_eq_some_iff.mp h
    refine ⟨_, ix_list, fun v u H g Fx Fy Q kk rx ry dj q => ?_⟩
    obtain ⟨rx, _⟩ := rx
    obtain ⟨ry, _⟩ := ry
    cases ry
    cases rx with
    | lst h1 h2 =>
      obtain ⟨j, j1, j2, j3⟩ := atI_len h2.len ed
      obtain ⟨w, w1, w2⟩ := h2.at j2
      exact ⟨_, _, k, w, rfl, rfl, (DL.sqx_mono kk.s h1).l, by rw [j3]; exact w1, q w H g (fun _ => False) kk ⟨w2, fun _ z => z⟩ (Stp.refl fun _ z => z.elim)⟩
  · rename_i ds k
    obtain ⟨d, ed, rfl⟩ := Option.map_eq_some_iff.mp h
    refine ⟨_, ix_tup, fun v u H g Fx Fy Q kk rx ry dj q => ?_⟩
    obtain ⟨rx, _⟩ := rx
    obtain ⟨ry, _⟩ := ry
    cases ry
    cases rx with
    | tup h1 h2 =>
      obtain ⟨j, j1, j2, j3⟩ := atI_len h2.len ed
      obtain ⟨w, w1, w2⟩ := h2.at j2
      exact ⟨_, _, k, w, rfl, rfl, DL.sqt_mono kk.s h1, by rw [j3]; exact w1, q w H g (fun _ => False) kk ⟨w2, fun _ z => z⟩ (Stp.refl fun _ z => z.elim)⟩
  · rename_i s k
    split at h
    · rename_i hz
      obtain ⟨c, ec, rfl⟩ := Option.map_eq_some_iff.mp h
      refine ⟨_, ix_str, fun v u H g Fx Fy Q kk rx ry dj q => ?_⟩
      obtain ⟨rx, _⟩ := rx
      obtain ⟨ry, _⟩ := ry
      cases ry
      cases rx
      exact ⟨s, k, c, rfl, rfl, lim_line hz, ec, q _ H g (fun _ => False) kk ⟨.str _, fun _ z => z⟩ (Stp.refl fun _ z => z.elim)⟩
    · cases h
  · cases h
theorem de_ixx (ha : DE X W a fa) (hb : DE X W b fb) (hs : PlainIx b := by exact fun _ _ => rfl) : DE X W (.Subscript a b pos) (xBin bIx fa fb) := de_ix (fun x y z h => ix_ro h) hs ha hb
/-! ### slices -/
def partI (o : Ow) : Option (Option Int) := match o with
  | .f (.int i) => some (some i)
  | _ => none
/-- a part of a slice: an int, or none -/
def DO (X : Cx) (W : WX) (e : Option Expr) (f : Fn (Option Int)) : Prop := ∀ ρ r, f ρ = some r → ∃ t, PO X e t ∧ RX X W (fun _ a b F => a = b ∧ Em F) t ρ r
def oN : Fn (Option Int) := ret none
def oS (f : Fn Ow) : Fn (Option Int) := bnd f fun o => opt (partI o)
theorem do_n : DO X W none oN := fun ρ r h => by
  cases h
  exact ⟨_, po_none, rx_ret (b := none) (fun σ H Q q => q) fun g => ⟨rfl, fun _ z => z⟩⟩
theorem do_s (h : DE X W e fe) : DO X W (some e) (oS fe) := fun ρ r hr => by
  rcases bnd_inv hr with ⟨o, ρ1, h1, h2⟩ | ⟨c, d, ρ1, h1, rfl⟩
  · obtain ⟨t, p, q⟩ := h ρ _ h1
    obtain ⟨z, h3, rfl⟩ := opt_inv h2
    unfold partI at h3
    split at h3
    · cases h3
      refine ⟨_, po_some p, fun σ H g F Q G k => q σ H g F _ G fun v H1 g1 F1 Fv G1 r1 d1 s1 => ?_⟩
      obtain ⟨r1, ev⟩ := r1
      cases r1
      exact ⟨_, rfl, k _ H1 g1 F1 Fv G1 ⟨rfl, ev⟩ d1 s1⟩
    · cases h3
  · obtain ⟨t, p, q⟩ := h ρ _ h1
    exact ⟨_, po_some p, fun σ H g F Q G k => q σ H g F _ G k⟩
def bSl (o : Ow) (lo hi : Option Int) : Option Ow := match frz o with
  | some (.lst ds) => some (.l ((cutD ds lo hi).map .f))
  | _ => none
def xSl (f : Fn Ow) (lo hi : Fn (Option Int)) : Fn Ow := bnd f fun o => match frz o with
  | some d => bnd lo fun l => bnd hi fun h => opt (bSl (.f d) l h)
  | none => fun _ => none
theorem po_no {e : Option Expr} : PO X e (fun _ _ _ => False) := ⟨fun _ _ _ _ _ _ h => h.elim⟩
theorem de_sl {lo hi : Option Expr} {fl fh : Fn (Option Int)} (ha : DE X W a fa) (h1 : DO X W lo fl) (h2 : DO X W hi fh) : DE X W (.Subscript a (.Slice lo hi none p2) pos) (xSl fa fl fh) := fun ρ r hr => by
  rcases bnd_inv hr with ⟨o, ρ1, e1, k1⟩ | ⟨c, d, ρ1, e1, rfl⟩
  · obtain ⟨t, p, q⟩ := ha ρ _ e1
    cases ed : frz o with
    | none => rw [ed] at k1; cases k1
    | some d =>
      rw [ed] at k1
      rcases bnd_inv k1 with ⟨l, ρ2, e2, k2⟩ | ⟨c, d', ρ2, e2, rfl⟩
      · obtain ⟨t1, p1, q1⟩ := h1 ρ1 _ e2
        rcases bnd_inv k2 with ⟨u, ρ3, e3, k3⟩ | ⟨c, d', ρ3, e3, rfl⟩
        · obtain ⟨t2, p2', q2⟩ := h2 ρ2 _ e3
          obtain ⟨z, e4, rfl⟩ := opt_inv k3
          unfold bSl at e4
          split at e4
          · rename_i ds ed2
            cases ed2
            cases e4
            refine ⟨_, pe_slice sl_list p p1 p2', fun σ H g F Q G k => q σ H g F _ G fun v H1 g1 F1 Fv G1 r1 d1 s1 => ?_⟩
            obtain ⟨g2, G2, rv, s2, st⟩ := wlk G1 ed r1 d1 s1
            refine q1 σ H1 g2 F1 _ G2 fun l' H3 g3 F3 Fl G3 ⟨rl, el⟩ d3 s3 => q2 σ H3 g3 F3 _ G3 fun u' H4 g4 F4 Fu G4 ⟨ru, eu⟩ d4 s4 => ?_
            subst rl
            subst ru
            have s34 := Stp.trans s3 s4
            have st4 : Same g2.S g4.S := s34.st
            cases rv with
            | lst i1 i2 =>
              refine ⟨_, _, rfl, (DL.sqx_mono G4.ok.s (DL.sqx_mono st4 i1)).l, fun pp hp => ?_⟩
              obtain ⟨b1, b2, b3⟩ := new_l G4.ok (OwRs.of_rp (DL.cut_rp (i2.mono st4) (lo := l) (hi := u))) hp
              have sAll : Stp g F g4 F4 := s2.tr ((s34.sub fun p => fun z => .inl (.inl z)) : Stp g2 F1 g4 F4)
              obtain ⟨G5, d5, s5⟩ := G4.op (Fa := fun _ => False) (g := g) (F := F) (sAll.sub fun p z => z.elim id False.elim) (fun _ _ z => z) b1 b3
              exact k _ _ _ F4 _ G5 b2 d5 s5
          · cases e4
        · obtain ⟨t2, p2', q2⟩ := h2 ρ2 _ e3
          refine ⟨_, pe_slice sl_list p p1 p2', fun σ H g F Q G k => q σ H g F _ G fun v H1 g1 F1 Fv G1 r1 d1 s1 => q1 σ H1 g1 F1 _ G1 fun l' H3 g3 F3 Fl G3 ⟨rl, el⟩ d3 s3 => q2 σ H3 g3 F3 _ G3 fun cls dx H4 g4 F4 G4 e4 s4 => k cls dx H4 g4 F4 G4 e4 ?_⟩
          have a1 : Stp g F g1 F1 := s1.sub fun p => .inl
          have a3 : Stp g1 F1 g3 F3 := s3.sub fun p => .inl
          exact (a1.tr a3).tr s4
      · obtain ⟨t1, p1, q1⟩ := h1 ρ1 _ e2
        refine ⟨_, pe_slice sl_list p p1 po_no, fun σ H g F Q G k => q σ H g F _ G fun v H1 g1 F1 Fv G1 r1 d1 s1 => q1 σ H1 g1 F1 _ G1 fun cls dx H4 g4 F4 G4 e4 s4 => k cls dx H4 g4 F4 G4 e4 ((s1.sub fun p => .inl).tr s4)⟩
  · obtain ⟨t, p, q⟩ := ha ρ _ e1
    exact ⟨_, pe_slice sl_list p po_no po_no, fun σ H g F Q G k => q σ H g F _ G k⟩
/-! ### list(range(..)) -/
def kRg1 (o : Ow) : Option Ow := match o with
  | .f (.int n) => if -LIM ≤ n ∧ n ≤ LIM then some (.l (((rng 0 n.toNat).map Dt.int).map .f)) else none
  | _ => none
def kRg2 (o q : Ow) : Option Ow := match o, q with
  | .f (.int m), .f (.int n) => if -(2 ^ 62) ≤ m ∧ m < 2 ^ 62 ∧ -(2 ^ 62) ≤ n ∧ n < 2 ^ 62 ∧ (n - m).toNat ≤ LIM then some (.l (((rng m (n - m).toNat).map Dt.int).map .f)) else none
  | _, _ => none
def xRg1 (f : Fn Ow) : Fn Ow := bnd f fun o => opt (kRg1 o)
def xRg2 (f h : Fn Ow) : Fn Ow := bnd f fun o => bnd h fun q => opt (kRg2 o q)
theorem de_rg1 {pr pos' : Pos} (hc : X.calm = true) (hm : X.mg "list" = none) (hm2 : X.mg "range" = none) (ha : DE X W e fe) (hg : Gl X "list" := by rfl) (hg2 : Gl X "range" := by rfl) (na : starEach [e] X.env = (false, eval e X.env) :: starEach [] X.env := by rfl)
    (na2 : starEach [.Call (.Name "range" pr) [e] [] pos'] X.env = (false, eval (.Call (.Name "range" pr) [e] [] pos') X.env) :: starEach [] X.env := by rfl) : DE X W (.Call (.Name "list" p) [.Call (.Name "range" pr) [e] [] pos'] [] pos) (xRg1 fe) := fun ρ r hr => by
  rcases bnd_inv hr with ⟨o, ρ1, h1, h2⟩ | ⟨c, d, ρ1, h1, rfl⟩
  · obtain ⟨t, pa, qa⟩ := ha ρ _ h1
    obtain ⟨z, h3, rfl⟩ := opt_inv h2
    unfold kRg1 at h3
    split at h3
    · rename_i n
      split at h3
      · rename_i hb
        cases h3
        refine ⟨_, pe_listRg hc hg hm (prg_1 hg2 hm2 pa na) na2, fun σ H g F Q G q => qa σ H g F _ G fun v H1 g1 F1 Fv G1 r1 d1 s1 => ?_⟩
        obtain ⟨r1, ev⟩ := r1
        cases r1
        unfold LIM at hb
        refine ⟨n, rfl, ⟨by omega, by omega, by omega, by omega, by omega⟩, fun l hl => ?_⟩
        have e0 : rgV 0 n = (rng 0 n.toNat).map V.int := by rw [DL.rgV_rng, Int.sub_zero]
        rw [e0]
        obtain ⟨b1, b2, b3⟩ := new_l G1.ok (OwRs.of_rp (RpAll.of_ints (rng 0 n.toNat))) hl
        obtain ⟨G5, d5, s5⟩ := G1.op (Fa := fun _ => False) (s1.sub fun p z => z.elim .inl False.elim) (fun _ _ z => z) b1 b3
        exact q _ _ _ F1 _ G5 b2 d5 s5
      · cases h3
    · cases h3
  · obtain ⟨t, pa, qa⟩ := ha ρ _ h1
    exact ⟨_, pe_listRg hc hg hm (prg_1 hg2 hm2 pa na) na2, fun σ H g F Q G q => qa σ H g F _ G q⟩
theorem de_rg2 {pr pos' : Pos} (hc : X.calm = true) (hm : X.mg "list" = none) (hm2 : X.mg "range" = none) (ha : DE X W a fa) (hb : DE X W b fb) (hg : Gl X "list" := by rfl) (hg2 : Gl X "range" := by rfl) (na : starEach [a, b] X.env = (false, eval a X.env) :: starEach [b] X.env := by rfl) (nb : starEach [b] X.env = (false, eval b X.env) :: starEach [] X.env := by rfl)
    (hp : (backTo pos' (starEach [b] X.env)).any (·.1) = false := by rfl) (na2 : starEach [.Call (.Name "range" pr) [a, b] [] pos'] X.env = (false, eval (.Call (.Name "range" pr) [a, b] [] pos') X.env) :: starEach [] X.env := by rfl) : DE X W (.Call (.Name "list" p) [.Call (.Name "range" pr) [a, b] [] pos'] [] pos) (xRg2 fa fb) := fun ρ r hr => by
  rcases bnd_inv hr with ⟨o, ρ1, h1, h2⟩ | ⟨c, d, ρ1, h1, rfl⟩
  · obtain ⟨t, pa, qa⟩ := ha ρ _ h1
    rcases bnd_inv h2 with ⟨o2, ρ2, h4, h5⟩ | ⟨c, d, ρ2, h4, rfl⟩
    · obtain ⟨t2, pb, qb⟩ := hb ρ1 _ h4
      obtain ⟨z, h3, rfl⟩ := opt_inv h5
      unfold kRg2 at h3
      split at h3
      · rename_i m n
        split at h3
        · rename_i hbd
          cases h3
          refine ⟨_, pe_listRg hc hg hm (prg_2 hg2 hm2 pa pb na nb hp) na2, fun σ H g F Q G q => qa σ H g F _ G fun v H1 g1 F1 Fv G1 r1 d1 s1 => qb σ H1 g1 F1 _ G1 fun u H2 g2 F2 Fu G2 r2 d2 s2 => ?_⟩
          obtain ⟨r1, ev⟩ := r1
          obtain ⟨r2, eu⟩ := r2
          cases r1
          cases r2
          unfold LIM at hbd
          refine ⟨m, n, rfl, rfl, ⟨hbd.1, hbd.2.1, hbd.2.2.1, hbd.2.2.2.1, by omega⟩, fun l hl => ?_⟩
          rw [DL.rgV_rng]
          obtain ⟨b1, b2, b3⟩ := new_l G2.ok (OwRs.of_rp (RpAll.of_ints (rng m (n - m).toNat))) hl
          have sAll : Stp g F g2 F2 := (s1.sub fun p => .inl : Stp g F g1 F1).tr (s2.sub fun p => .inl)
          obtain ⟨G5, d5, s5⟩ := G2.op (Fa := fun _ => False) (sAll.sub fun p z => z.elim id False.elim) (fun _ _ z => z) b1 b3
          exact q _ _ _ F2 _ G5 b2 d5 s5
        · cases h3
      · cases h3
    · obtain ⟨t2, pb, qb⟩ := hb ρ1 _ h4
      exact ⟨_, pe_listRg hc hg hm (prg_2 hg2 hm2 pa pb na nb hp) na2, fun σ H g F Q G q => qa σ H g F _ G fun v H1 g1 F1 Fv G1 r1 d1 s1 => qb σ H1 g1 F1 _ G1 (Pst.next (rel := rV X) (Q := Q) (r := .ex c d ρ2) q s1)⟩
  · obtain ⟨t, pa, qa⟩ := ha ρ _ h1
    exact ⟨_, pe_listRg hc hg hm (prg_2 hg2 hm2 pa (pe_no (e := b)) na nb hp) na2, fun σ H g F Q G q => qa σ H g F _ G q⟩
end
end OW
namespace OW
open PySem PySem.Spec PyProof.Rows L2
open DL (Dt Rp RpAll SqX pe_no pt_no pw_no ps_no pss_no rng dng FnG FnAt spD)

section
variable {X : Cx} {W : WX} {Z : List (Nat × V)} {pos : Pos} {a b c e : Expr} {st : Stmt} {fp : Ev → Option (Nat × List Nat)} {fq : Ev → Option Dt} {k : Nat}
theorem ds_never : DS X W Z st (fun _ => none) := fun _ _ h => by cases h
theorem de_never {e : Expr} : DE X W e (fun _ => none) := fun _ _ h => by cases h
theorem un65 (hr : Room k X.A) : X.A.units + 65 < cLine := by have := hr.un; omega
/-- an item of a list of one's own, or of what stands; if it is a list of one's own it stands from now on -/
def xGet (f : Ev → Option (Nat × List Nat)) (h : Ev → Option Dt) : Fn Ow := fun ρ => match qIx f h ρ with
  | some d => some (.ok (.f d) ρ)
  | none => match pI f h ρ with
    | some (i, π) => match getE ρ i π with
      | some o => match frz o with
        | some d => some (.ok (.f d) (setE ρ i π (.f d)))
        | none => none
      | none => none
    | none => none
theorem de_get (ha : DP X a fp) (hb : DQ X b fq) (hs : PlainIx b := by exact fun _ _ => rfl) : DE X W (.Subscript a b pos) (xGet fp fq) := fun ρ r hr => by
  unfold xGet at hr
  split at hr
  · rename_i d ed
    cases hr
    obtain ⟨t, p, q⟩ := dq_ix (pos := pos) ha hb hs ρ d ed
    exact ⟨t, p, fun σ H g F Q G k => q σ H g F Q G fun v rv => k v H g F (fun _ => False) G ⟨rv, fun _ z => z⟩ (fun _ _ z => z) (Stp.refl fun p z => z.elim id False.elim)⟩
  · split at hr
    · rename_i i π ep
      split at hr
      · rename_i o eo
        split at hr
        · rename_i d ed
          cases hr
          obtain ⟨t, p, q⟩ := dp_i (pos := pos) ha hb hs ρ _ _ ep
          refine ⟨t, p, fun σ H g F Q G k => q σ H g F Q G fun v R _ => ?_⟩
          obtain ⟨o', F1, F2, a1, a2, a3, a4, a5⟩ := R.it
          rw [eo] at a1
          cases a1
          have rp := frzG_rp G.ok ed a2
          have st := frzG_stp G.ok (F := F1) (F' := F) fun p z => (a4 p).mpr (.inl z)
          have sr := a5 (frzG g F1) (.f d) (fun _ => False) (frzG_kp G.ok fun p y z => a3 p z y) ⟨rp, fun _ z => z⟩ fun _ z => z.elim
          exact k v H _ _ (fun _ => False) ⟨frzG_ok G.ok, sr⟩ ⟨rp, fun _ z => z⟩ (fun _ _ z => z) (st.sub fun p z => by
            rcases z with (z | z) | z
            · exact z.elim
            · exact ⟨(a4 p).mpr (.inr z), fun y => a3 p y z⟩
            · exact z.elim)
        · cases hr
      · cases hr
    · cases hr
/-- range(m, n, -1) -/
def iRd (f h : Fn Ow) : Fn (List Dt) := bnd f fun o => bnd h fun q => opt (match o, q with
  | .f (.int m), .f (.int n) => some ((dng m (m - n).toNat).map .int)
  | _, _ => none)
theorem yld_dng {K : PySem.W.Frag} {g : Gs} {a : Int} {n : Nat} : Yld K g ((dng a n).map Dt.int) (Itc a (-1) n) := fun g2 H2 k2 st => by
  refine ⟨fun j d hj => ?_, show n ≤ _ by rw [List.length_map, DL.dng_length]; exact Nat.le_refl _⟩
  obtain ⟨h1, rfl⟩ := DL.dng_get hj
  refine ⟨h1, fun x H3 ⟨y1, y2⟩ => ?_⟩
  subst y1
  subst y2
  have ei : a + (j : Int) * (-1) = a - (j : Int) := by omega
  rw [ei]
  exact ⟨g2, k2, fun _ _ e => e, fun _ _ e => e, Rp.int _⟩
theorem di_rd {tg e e2 : Expr} {fe fe2 : Fn Ow} {p p3 p4 : Pos} {j : Nat} (hm : X.mg "range" = none) (h : DE X W e fe) (h' : DE X W e2 fe2) (hg : Gl X "range" := by rfl)
    (hs : starEach [e, e2, .UnaryOp .USub (.Constant (.int 1) j p3) p4] X.env = (false, eval e X.env) :: starEach [e2, .UnaryOp .USub (.Constant (.int 1) j p3) p4] X.env := by rfl) (hs2 : starEach [e2, .UnaryOp .USub (.Constant (.int 1) j p3) p4] X.env = (false, eval e2 X.env) :: starEach [.UnaryOp .USub (.Constant (.int 1) j p3) p4] X.env := by rfl)
    (hpl : (backTo pos (starEach [e2, .UnaryOp .USub (.Constant (.int 1) j p3) p4] X.env)).any (·.1) = false := by rfl) : DI X W tg (.Call (.Name "range" p) [e, e2, .UnaryOp .USub (.Constant (.int 1) j p3) p4] [] pos) (iRd fe fe2) := fun ρ r hr => by
  have pi : ∀ {t1 t2 : TE}, PE X e t1 → PE X e2 t2 → PI X tg (.Call (.Name "range" p) [e, e2, .UnaryOp .USub (.Constant (.int 1) j p3) p4] [] pos) _ := fun {t1 t2} p1 p2 => pi_rangeDL hg hm (pa_cons p1 (pa_cons p2 (pa_cons (pe_un un_neg pe_int) pa_nil) hs2) hs) hs hpl
  rcases bnd_inv hr with ⟨o, ρ1, h1, h2⟩ | ⟨c, d, ρ1, h1, rfl⟩
  · obtain ⟨t, pa, q⟩ := h ρ _ h1
    rcases bnd_inv h2 with ⟨o2, ρ2, h3, h4⟩ | ⟨c, d, ρ2, h3, rfl⟩
    · obtain ⟨t2, pb, q2⟩ := h' ρ1 _ h3
      obtain ⟨ds, h5, rfl⟩ := opt_inv h4
      split at h5
      · rename_i m n
        cases h5
        · refine ⟨_, pi pa pb, fun σ H g F R G z => q σ H g F _ G fun v H1 g1 F1 Fv G1 r1 d1 s1 => q2 σ H1 g1 F1 _ G1 fun v2 H2 g2 F2 Fw G2 r2 d2 s2 => ?_⟩
          obtain ⟨r1, ev⟩ := r1
          obtain ⟨r2, ev2⟩ := r2
          cases r1
          cases r2
          exact ⟨1, rfl, m, n, rfl, z _ H2 g2 F2 Fw G2 ⟨yld_dng, ev2⟩ d2 ((Stp.trans s1 s2).sub fun p => .inl)⟩
      · cases h5
    · obtain ⟨t2, pb, q2⟩ := h' ρ1 _ h3
      exact ⟨_, pi pa pb, fun σ H g F R G z => q σ H g F _ G fun v H1 g1 F1 Fv G1 r1 d1 s1 => q2 σ H1 g1 F1 _ G1 (Pst.next (rel := rI X) (Q := R) (r := .ex c d ρ2) z s1)⟩
  · obtain ⟨t, pa, q⟩ := h ρ _ h1
    exact ⟨_, pi pa (pe_no (e := e2)), fun σ H g F R G z => q σ H g F _ G z⟩
/-- x, y, z = a, b, c: no tuple is made -/
def sPar3 (i j l : Nat) (fa fb fc : Fn Ow) : SF := sVal (xA1 fa (xA1 fb (xA1 fc xA0))) fun xs ρ => match xs with
  | [x, y, z] => (((setO i x ρ).bind (setO j y)).bind (setO l z)).map .nx
  | _ => none
theorem ds_par3 (i j l : Nat) {fa fb fc : Fn Ow} {x y z : Str} {px py pz pt : Pos} {kt k2 pt2} (hc : X.calm = true) (nd : X.N.Nodup) (ha : DE X W a fa) (hb : DE X W b fb) (hcc : DE X W c fc) (hzi : i ∉ Z.map (·.1) := by decide) (hzj : j ∉ Z.map (·.1) := by decide) (hzl : l ∉ Z.map (·.1) := by decide) (hi : X.N[i]? = some x := by rfl) (hj : X.N[j]? = some y := by rfl) (hl : X.N[l]? = some z := by rfl) (hij : i ≠ j := by decide) (hil : i ≠ l := by decide) (hjl : j ≠ l := by decide)
    (hx : X.env.scope.names.lookup x = some .local := by rfl) (hy : X.env.scope.names.lookup y = some .local := by rfl) (hzz : X.env.scope.names.lookup z = some .local := by rfl)
    (hw : swappedStores [.Tuple [.Name x px, .Name y py, .Name z pz] kt pt] (.Tuple [a, b, c] k2 pt2) X.env = pure (some [x, y, z]) := by rfl)
    (hs : swapsWithSole [.Tuple [.Name x px, .Name y py, .Name z pz] kt pt] (.Tuple [a, b, c] k2 pt2) pos.line X.env = pure false := by rfl)
    (h1 : starEach [a, b, c] X.env = (false, eval a X.env) :: starEach [b, c] X.env := by rfl) (h2 : starEach [b, c] X.env = (false, eval b X.env) :: starEach [c] X.env := by rfl) (h3 : starEach [c] X.env = (false, eval c X.env) :: starEach [] X.env := by rfl) : DS X W Z (.Assign [.Tuple [.Name x px, .Name y py, .Name z pz] kt pt] (.Tuple [a, b, c] k2 pt2) pos) (sPar3 i j l fa fb fc) := fun ρ r hr => by
  have da : DA X W [a, b, c] (xA1 fa (xA1 fb (xA1 fc xA0))) := da_1 ha (da_1 hb (da_1 hcc da_0 h3) h2) h1
  rcases sVal_inv hr with ⟨xs, ρ2, h4, hk⟩ | ⟨c', d, ρ1, h4, rfl⟩
  · obtain ⟨t, pa, qa⟩ := da ρ _ h4
    split at hk
    · rename_i xo yo zo
      obtain ⟨ρ5, h8, rfl⟩ := Option.map_eq_some_iff.mp hk
      obtain ⟨ρ4, h9, h10⟩ := Option.bind_eq_some_iff.mp h8
      obtain ⟨ρ3, h11, h12⟩ := Option.bind_eq_some_iff.mp h9
      refine ⟨_, ps_par3 hc nd hi hj hl hij hil hjl hx hy hzz pa hw hs, fun σ H g F D G zk k => qa σ H g F _ G fun vs H1 g1 F1 Fv G1 r1 d1 s1 => ?_⟩
      obtain ⟨v, r, K1, L1, e1, a1, a2, a3, a4⟩ := r1
      obtain ⟨v2, r2, K2, L2, e2, b1, b2, b3, b4⟩ := a2
      obtain ⟨v3, r3, K3, L3, e3, c1, c2, c3, c4⟩ := b2
      obtain ⟨e4, e5⟩ := c2
      subst e4; subst e3; subst e2; subst e1
      refine ⟨v, v2, v3, rfl, ?_⟩
      obtain ⟨F3, G3, w3⟩ := G1.set h11 a1 fun p u w => d1 p u ((a4 p).mpr (.inl w))
      obtain ⟨F4, G4, w4⟩ := G3.set h12 b1 fun p u w => (w3 p u).elim (fun u => d1 p u ((a4 p).mpr (.inr ((b4 p).mpr (.inl w))))) fun u => a3 p u ((b4 p).mpr (.inl w))
      obtain ⟨F5, G5, w5⟩ := G4.set h10 c1 fun p u w => by
        rcases w4 p u with u | u
        · rcases w3 p u with u | u
          · exact d1 p u ((a4 p).mpr (.inr ((b4 p).mpr (.inr ((c4 p).mpr (.inl w))))))
          · exact a3 p u ((b4 p).mpr (.inr ((c4 p).mpr (.inl w))))
        · exact b3 p u ((c4 p).mpr (.inl w))
      refine k _ H1 g1 F5 G5 (((zk.set hzi).set hzj).set hzl) (s1.sub fun p u => ?_)
      rcases w5 p u with u | u
      · rcases w4 p u with u | u
        · rcases w3 p u with u | u
          · exact .inl u
          · exact .inr ((a4 p).mpr (.inl u))
        · exact .inr ((a4 p).mpr (.inr ((b4 p).mpr (.inl u))))
      · exact .inr ((a4 p).mpr (.inr ((b4 p).mpr (.inr ((c4 p).mpr (.inl u))))))
    · cases hk
  · obtain ⟨t, pa, qa⟩ := da ρ _ h4
    exact ⟨_, ps_par3 hc nd hi hj hl hij hil hjl hx hy hzz pa hw hs, fun σ H g F D G zk k => qa σ H g F _ G fun cls dx H1 g1 F1 G1 e1 s1 => k cls dx σ H1 g1 F1 G1 zk e1 s1⟩
end
/-! ### the law's end -/
section
variable {P : Program} {w : World} {K : PySem.W.Frag} {mg : Str → Option Value} {base : Heap} {k : Nat} {f : Addr} {fd : FuncData} {ps : List Str}
theorem fnG_weak {sp sp' : Sp} (h : ∀ vs H Q E, sp' vs H Q E → sp vs H Q E) (F : FnG P w K mg base k f fd ps sp) : FnG P w K mg base k f fd ps sp' :=
  ⟨fun vs H Q E q => F.len vs H Q E (h _ _ _ _ q), fun A outer s H args us vs Q E hg hr e0 hb r q => F.go A outer s H args us vs Q E hg hr e0 hb r (h _ _ _ _ q)⟩
end
end OW
namespace Ev
open PySem PySem.Spec PyProof.Rows L2 OW
open DL (Dt Rp RpAll SqX FnG spD)
def lawR (fn : FO) (ds : List Dt) (r : DL.Res) : Prop := ∃ ns : List Int, ds = [.lst (ns.map .int)] ∧ r = .ret (.bl true) ∧ ∃ ps, fn [.f (.lst (ns.map .int))] = some (.rt (.f (.bl true)) ps)
theorem lawR_of {fn : FO} {ns : List Int} (h : ∃ ps, fn [.f (.lst (ns.map .int))] = some (.rt (.f (.bl true)) ps)) : lawR fn [.lst (ns.map Dt.int)] (.ret (.bl true)) := ⟨ns, rfl, rfl, h⟩
theorem lawG {P : Program} {w : World} {K : PySem.W.Frag} {mg : Str → Option Value} {base : Heap} {k : Nat} {f : Addr} {fd : FuncData} {ps : List Str} {fn : FO} (F : FnG P w K mg base k f fd ps (spO mg K 1 fn)) : FnG P w K mg base k f fd ps (spD K 1 (lawR fn)) := by
  classical
  refine fnG_weak (fun vs H Q E h => ?_) F
  obtain ⟨g, ds, r, hl, ok, rv, ⟨ns, rfl, rfl, pp, hf⟩, hq⟩ := h
  let g0 : Gs := ⟨g.S, fun p => if (g.M p).isSome then H p else none⟩
  have k0 : GsOk g0 H := by
    refine ⟨ok.1, fun p u e => ?_, fun p u e => ?_⟩
    · have e' : (if (g.M p).isSome then H p else none) = some u := e
      split at e'
      · exact e'
      · cases e'
    · have e' : (if (g.M p).isSome then H p else none) = some u := e
      split at e'
      · rename_i hm
        obtain ⟨d, hd⟩ := Option.isSome_iff_exists.mp hm
        exact (ok.2 p d hd).1
      · cases e'
  refine ⟨g0, [.f (.lst (ns.map .int))], fun _ => False, _, rfl, OwRs.of_rp (ds := [.lst (ns.map .int)]) rv, k0, hf, fun v H' g' Fp Fv k' rp rv' dj st => ?_⟩
  obtain ⟨rv', _⟩ := rv'
  cases rv'
  refine hq (V.bl true) H' ⟨g'.S, g.M⟩ ⟨k'.s, fun p d hd => ?_⟩ ⟨st.st, fun _ _ e => e⟩ (.bl _)
  obtain ⟨h1, xs, h2, h3⟩ := ok.2 p d hd
  have e0 : g0.M p = some (.lst xs) := by
    show (if (g.M p).isSome then H p else none) = _
    rw [if_pos (by rw [hd]; rfl)]; exact h2
  have e1 := st.mu p _ e0 fun z => z
  exact ⟨k'.d p _ e1, xs, k'.m p _ e1, h3.mono st.st⟩
end Ev
/-! what the functions of defs come to: equations for simp -/
namespace OW
open DL (Dt)
def kB {α β : Type} (r : Option (Rs α)) (k : α → Fn β) : Option (Rs β) := match r with
  | none => none
  | some (.ok a ρ1) => k a ρ1
  | some (.ex c d ρ1) => some (.ex c d ρ1)
def kV {α : Type} (r : Option (Rs α)) (k : α → SF) : Option So := match r with
  | none => none
  | some (.ok a ρ1) => k a ρ1
  | some (.ex c d ρ1) => some (.ex c d ρ1)
def kS (r : Option So) (h : SF) : Option So := match r with
  | some (.nx ρ1) => h ρ1
  | r => r
def kF (io : List Bool) (r : Option So) : Option Fr := match r with
  | some (.nx ρ) => some (.rt (.f .non) (outs io ρ))
  | some (.rt o ρ) => some (.rt o (outs io ρ))
  | some (.ex c d ρ) => some (.ex c d (outs io ρ))
  | _ => none
def kA (as : List Ar) (ρ1 : Ev) (r : Option Fr) : Option (Rs Ow) := match r with
  | some (.rt o ps) => some (.ok o (putA as ps ρ1))
  | some (.ex c d ps) => some (.ex c d (putA as ps ρ1))
  | none => none
def kO {α : Type} (r : Option α) (ρ : Ev) : Option (Rs α) := match r with
  | some x => some (.ok x ρ)
  | none => none
section
variable {α β : Type} {f : Fn α} {k : α → Fn β} {kv : α → SF} {ρ ρ1 : Ev} {a : α} {c : PySem.Str} {d : Option (PySem.Str × Dt)} {g h : SF} {o : Ow} {os ps : List Ow} {io : List Bool} {as : List Ar} {fn : FO} {n nv : Nat}
theorem e_bnd : bnd f k ρ = kB (f ρ) k := rfl
theorem e_ret : OW.ret a ρ = some (.ok a ρ) := rfl
theorem e_opt {r : Option α} : opt r ρ = kO r ρ := rfl
theorem kO_s {x : α} : kO (some x) ρ = some (.ok x ρ) := rfl
theorem kO_n : kO (none : Option α) ρ = none := rfl
theorem kO_i {p : Prop} [Decidable p] {x y : Option α} : kO (if p then x else y) ρ = if p then kO x ρ else kO y ρ := by split <;> rfl
theorem kB_n : kB (none : Option (Rs α)) k = none := rfl
theorem kB_o : kB (some (.ok a ρ)) k = k a ρ := rfl
theorem kB_x : kB (some (.ex c d ρ : Rs α)) k = some (.ex c d ρ) := rfl
theorem kB_i {p : Prop} [Decidable p] {x y : Option (Rs α)} : kB (if p then x else y) k = if p then kB x k else kB y k := by split <;> rfl
theorem e_val : sVal f kv ρ = kV (f ρ) kv := rfl
theorem kV_n : kV (none : Option (Rs α)) kv = none := rfl
theorem kV_o : kV (some (.ok a ρ)) kv = kv a ρ := rfl
theorem kV_x : kV (some (.ex c d ρ : Rs α)) kv = some (.ex c d ρ) := rfl
theorem kV_i {p : Prop} [Decidable p] {x y : Option (Rs α)} : kV (if p then x else y) kv = if p then kV x kv else kV y kv := by split <;> rfl
theorem e_seq : sSeq g h ρ = kS (g ρ) h := rfl
theorem kS_n : kS none h = none := rfl
theorem kS_nx : kS (some (.nx ρ)) h = h ρ := rfl
theorem kS_rt : kS (some (.rt o ρ)) h = some (.rt o ρ) := rfl
theorem kS_bk : kS (some (.bk ρ)) h = some (.bk ρ) := rfl
theorem kS_ct : kS (some (.ct ρ)) h = some (.ct ρ) := rfl
theorem kS_ex : kS (some (.ex c d ρ)) h = some (.ex c d ρ) := rfl
theorem kS_i {p : Prop} [Decidable p] {x y : Option So} : kS (if p then x else y) h = if p then kS x h else kS y h := by split <;> rfl
theorem e_nil : sNil ρ = some (.nx ρ) := rfl
theorem e_pass : sPass ρ = some (.nx ρ) := rfl
theorem e_brk : sBrk ρ = some (.bk ρ) := rfl
theorem e_cnt : sCnt ρ = some (.ct ρ) := rfl
theorem e_sret {f : Fn Ow} : sRet f ρ = kV (f ρ) fun o ρ => some (.rt o ρ) := rfl
theorem e_sretN : sRetN ρ = some (.rt (.f .non) ρ) := rfl
theorem e_expr {f : Fn Ow} : sExpr f ρ = kV (f ρ) fun _ ρ => some (.nx ρ) := rfl
theorem e_if {t : Fn Bool} : sIf t g h ρ = kV (t ρ) fun b ρ => if b = true then g ρ else h ρ := by
  show kV (t ρ) _ = _
  congr 1
  funext b ρ
  cases b <;> rfl
theorem e_set {i : Nat} {f : Fn Ow} : sSet i f ρ = kV (f ρ) fun o ρ => if i < ρ.length then some (.nx (ρ.set i o)) else none := by
  show kV (f ρ) _ = _
  congr 1
  funext o ρ
  unfold setO
  split <;> rfl
theorem e_par {i j : Nat} {fa fb : Fn Ow} : sPar i j fa fb ρ = kV (kB (fa ρ) fun x => fun ρ => kB (fb ρ) fun y => fun ρ => some (.ok (x, y) ρ)) fun xy ρ => if i < ρ.length ∧ j < ρ.length then some (.nx ((ρ.set i xy.1).set j xy.2)) else none := by
  show kV _ _ = _
  congr 1
  funext xy ρ
  unfold setO
  by_cases h1 : i < ρ.length <;> by_cases h2 : j < ρ.length <;> simp [h1, h2]
def kP3 (i j l : Nat) (xs : List Ow) (ρ : Ev) : Option So := match xs with
  | [x, y, z] => (((setO i x ρ).bind (setO j y)).bind (setO l z)).map So.nx
  | _ => none
theorem e_par3 {i j l : Nat} {fa fb fc : Fn Ow} : sPar3 i j l fa fb fc ρ = kV (xA1 fa (xA1 fb (xA1 fc xA0)) ρ) fun xs ρ => kP3 i j l xs ρ := rfl
theorem kP3_3 {i j l : Nat} {x y z : Ow} : kP3 i j l [x, y, z] ρ = if i < ρ.length ∧ j < ρ.length ∧ l < ρ.length then some (.nx (((ρ.set i x).set j y).set l z)) else none := by
  show (((setO i x ρ).bind (setO j y)).bind (setO l z)).map So.nx = _
  unfold setO
  by_cases h1 : i < ρ.length <;> by_cases h2 : j < ρ.length <;> by_cases h3 : l < ρ.length <;> simp [h1, h2, h3]
def kTg (gf : GF) (o : Ow) (ρ : Ev) : Option So := match frz o with
  | some d => (gf d ρ).map So.nx
  | none => none
theorem e_tgt {gf : GF} {f : Fn Ow} : sTgt gf f ρ = kV (f ρ) fun o ρ => kTg gf o ρ := rfl
theorem kTg_f {gf : GF} {x : Dt} : kTg gf (.f x) ρ = (gf x ρ).map So.nx := rfl
theorem kTg_n {gf : GF} {kd : Kd} {x : Dt} (h : frz (.n kd os) = some x) : kTg gf (.n kd os) ρ = (gf x ρ).map So.nx := by unfold kTg; rw [h]
theorem e_gN {i : Nat} {d : Dt} : gN i d ρ = if i < ρ.length then some (ρ.set i (.f d)) else none := rfl
theorem e_gT {gs : List Dt → Ev → Option Ev} {ds : List Dt} : gT gs (.tup ds) ρ = gs ds ρ := rfl
theorem e_gs0 : gs0 [] ρ = some ρ := rfl
theorem e_gs1 {gf : GF} {gs : List Dt → Ev → Option Ev} {x : Dt} {ds : List Dt} : gs1 gf gs (x :: ds) ρ = (gf x ρ).bind (gs ds) := rfl
def kAg (i : Nat) (B : Int → Int → Int) (m : Int) (o : Ow) (ρ : Ev) : Option So := match o with
  | .f (.int n) => (setO i (.f (.int (B m n))) ρ).map So.nx
  | _ => none
theorem e_aug {i : Nat} {B : Int → Int → Int} {f : Fn Ow} {m : Int} (h : ρ[i]? = some (.f (.int m))) : sAug i B f ρ = kV (f ρ) fun o ρ => kAg i B m o ρ := by
  unfold sAug
  rw [h]
  rfl
theorem kAg_i {i : Nat} {B : Int → Int → Int} {m n : Int} : kAg i B m (.f (.int n)) ρ = if i < ρ.length then some (.nx (ρ.set i (.f (.int (B m n))))) else none := by
  show (setO i _ ρ).map _ = _
  unfold setO
  split <;> rfl
def kAp (i : Nat) (o : Ow) (ρ1 : Ev) : Option So := match ρ1[i]? with
  | some (.n .lst os) => if os.length < LIM then some (.nx (ρ1.set i (.l (os ++ [o])))) else none
  | _ => none
theorem e_app {i : Nat} {f : Fn Ow} (h : ρ[i]? = some (.n .lst os)) : sApp i f ρ = kV (f ρ) fun o ρ1 => kAp i o ρ1 := by
  unfold sApp
  rw [h]
  rfl
theorem kAp_l {i : Nat} (h : ρ[i]? = some (.n .lst os)) : kAp i o ρ = if os.length < LIM then some (.nx (ρ.set i (.n .lst (os ++ [o])))) else none := by
  unfold kAp
  rw [h]
def kIt (p : Ev → Option (Nat × List Nat)) (q : Ev → Option Dt) (x : Ow) (ρ : Ev) : Option So := match p ρ, q ρ with
  | some (i, π), some (.int k) => match getE ρ i π with
    | some (.n .lst os) => match L2.ixN os.length k with
      | some j => some (.nx (setE ρ i π (.l (os.set j x))))
      | none => none
    | _ => none
  | _, _ => none
theorem e_item {p : Ev → Option (Nat × List Nat)} {q : Ev → Option Dt} {f : Fn Ow} : sItem p q f ρ = kV (f ρ) fun x ρ => kIt p q x ρ := rfl
theorem kIt_l {p : Ev → Option (Nat × List Nat)} {q : Ev → Option Dt} {x : Ow} {i j : Nat} {π : List Nat} {k : Int} (h1 : p ρ = some (i, π)) (h2 : q ρ = some (.int k)) (h3 : getE ρ i π = some (.n .lst os)) (h4 : L2.ixN os.length k = some j) : kIt p q x ρ = some (.nx (setE ρ i π (.n .lst (os.set j x)))) := by
  unfold kIt
  simp only [h1, h2, h3, h4]
theorem e_for {fi : Fn (List Dt)} {gf : GF} : sFor fi gf g ρ = kV (fi ρ) fun ds => forL gf g ds := rfl
theorem e_forN {gf : GF} : forL gf g [] ρ = some (.nx ρ) := rfl
theorem e_fn {b : SF} : fnOf nv io b os = kF io (b (os ++ List.replicate (nv - os.length) .no)) := rfl
theorem kF_n : kF io none = none := rfl
theorem kF_nx : kF io (some (.nx ρ)) = some (.rt (.f .non) (outs io ρ)) := rfl
theorem kF_rt : kF io (some (.rt o ρ)) = some (.rt o (outs io ρ)) := rfl
theorem kF_ex : kF io (some (.ex c d ρ)) = some (.ex c d (outs io ρ)) := rfl
theorem kF_i {p : Prop} [Decidable p] {x y : Option So} : kF io (if p then x else y) = if p then kF io x else kF io y := by split <;> rfl
theorem e_outs0 : outs [] ρ = [] := rfl
theorem e_outsT {b : List Bool} : outs (true :: b) (o :: ρ) = o :: outs b ρ := rfl
theorem e_outsF {b : List Bool} : outs (false :: b) (o :: ρ) = .no :: outs b ρ := rfl
/-! expressions -/
theorem e_K {x : Dt} : xK x ρ = some (.ok (.f x) ρ) := rfl
theorem e_Vf {i : Nat} {x : Dt} (h : ρ[i]? = some (.f x)) : xV i ρ = some (.ok (.f x) ρ) := by unfold xV; rw [h]
theorem e_Vn {i : Nat} {kd : Kd} {x : Dt} (h : ρ[i]? = some (.n kd os)) (hf : frz (.n kd os) = some x) : xV i ρ = some (.ok (.f x) (ρ.set i (.f x))) := by unfold xV; rw [h]; simp only [hf]
theorem e_Mf {i : Nat} {x : Dt} (h : ρ[i]? = some (.f x)) : xM i ρ = some (.ok (.f x) ρ) := by unfold xM; rw [h]
theorem e_Mn {i : Nat} {kd : Kd} (h : ρ[i]? = some (.n kd os)) : xM i ρ = some (.ok (.n kd os) (ρ.set i .no)) := by unfold xM; rw [h]
theorem e_bin {B : Ow → Ow → Option Ow} {fa fb : Fn Ow} : xBin B fa fb ρ = kB (fa ρ) fun x ρ => kB (fb ρ) fun y ρ => kO (B x y) ρ := rfl
theorem e_un {B : Ow → Option Ow} {fa : Fn Ow} : xUn B fa ρ = kB (fa ρ) fun x ρ => kO (B x) ρ := rfl
theorem e_A0 : xA0 ρ = some (.ok [] ρ) := rfl
theorem e_A1 {fa : Fn Ow} {fs : Fn (List Ow)} : xA1 fa fs ρ = kB (fa ρ) fun o ρ => kB (fs ρ) fun os ρ => some (.ok (o :: os) ρ) := rfl
theorem e_lst {fs : Fn (List Ow)} : xLst fs ρ = kB (fs ρ) fun os ρ => if os.length ≤ LIM then some (.ok (.n .lst os) ρ) else none := by
  show kB _ _ = _
  congr 1
  funext os ρ
  show kO _ _ = _
  split <;> rfl
theorem e_tup {fs : Fn (List Ow)} : xTup fs ρ = kB (fs ρ) fun os ρ => if os.length ≤ LIM then kO ((frzs os).map fun ds => .f (.tup ds)) ρ else none := by
  show kB _ _ = _
  congr 1
  funext os ρ
  show kO _ _ = _
  split <;> rfl
theorem e_C {B : List Ow → Option Ow} {fs : Fn (List Ow)} : xC B fs ρ = kB (fs ρ) fun os ρ => kO (B os) ρ := rfl
def kT (o : Ow) (ρ : Ev) : Option (Rs Bool) := kO (match o with
  | .f (.bl b) => some b
  | _ => none) ρ
theorem e_tV {f : Fn Ow} : tV f ρ = kB (f ρ) fun o ρ => kT o ρ := rfl
theorem kT_b {b : Bool} : kT (.f (.bl b)) ρ = some (.ok b ρ) := rfl
theorem e_tAnd {s t : Fn Bool} : tAnd s t ρ = kB (s ρ) fun b ρ => if b = true then t ρ else some (.ok false ρ) := by
  show kB _ _ = _
  congr 1
  funext b ρ
  cases b <;> rfl
theorem e_tOr {s t : Fn Bool} : OW.tOr s t ρ = kB (s ρ) fun b ρ => if b = true then some (.ok true ρ) else t ρ := by
  show kB _ _ = _
  congr 1
  funext b ρ
  cases b <;> rfl
theorem e_tNot {s : Fn Bool} : OW.tNot s ρ = kB (s ρ) fun b ρ => some (.ok (!b) ρ) := rfl
def kNt (o : Ow) (ρ : Ev) : Option (Rs Ow) := kO (match o with
  | .f (.bl b) => some (.f (.bl (!b)))
  | _ => none) ρ
theorem e_xNot {f : Fn Ow} : xNot f ρ = kB (f ρ) fun o ρ => kNt o ρ := rfl
theorem kNt_b {b : Bool} : kNt (.f (.bl b)) ρ = some (.ok (.f (.bl (!b))) ρ) := rfl
def kAn (f2 : Fn Ow) (o : Ow) : Fn Ow := match o with
  | .f (.bl true) => f2
  | .f (.bl false) => OW.ret (.f (.bl false))
  | _ => fun _ => none
theorem e_xAnd {f f2 : Fn Ow} : xAnd f f2 ρ = kB (f ρ) fun o ρ => kAn f2 o ρ := rfl
theorem kAn_b {f2 : Fn Ow} {b : Bool} : kAn f2 (.f (.bl b)) ρ = if b = true then f2 ρ else some (.ok (.f (.bl false)) ρ) := by cases b <;> rfl
def kOr (f2 : Fn Ow) (o : Ow) : Fn Ow := match o with
  | .f (.bl true) => OW.ret (.f (.bl true))
  | .f (.bl false) => f2
  | _ => fun _ => none
theorem e_xOr {f f2 : Fn Ow} : xOr f f2 ρ = kB (f ρ) fun o ρ => kOr f2 o ρ := rfl
theorem kOr_b {f2 : Fn Ow} {b : Bool} : kOr f2 (.f (.bl b)) ρ = if b = true then some (.ok (.f (.bl true)) ρ) else f2 ρ := by cases b <;> rfl
theorem e_xIf {t : Fn Bool} {f f2 : Fn Ow} : xIf t f f2 ρ = kB (t ρ) fun b ρ => if b = true then f ρ else f2 ρ := by
  show kB _ _ = _
  congr 1
  funext b ρ
  cases b <;> rfl
def kCz (q : Int → Int → Bool) (j : Int) (z : Ow) (ρ : Ev) : Option (Rs Ow) := kO (match z with
  | .f (.int l) => some (.f (.bl (q j l)))
  | _ => none) ρ
def kCh (p q : Int → Int → Bool) (f3 : Fn Ow) (x y : Ow) : Fn Ow := match x, y with
  | .f (.int i), .f (.int j) => if p i j then bnd f3 fun z => OW.opt (match z with
    | .f (.int l) => some (.f (.bl (q j l)))
    | _ => none) else OW.ret (.f (.bl false))
  | _, _ => fun _ => none
theorem e_ch {p q : Int → Int → Bool} {f f2 f3 : Fn Ow} : xCh p q f f2 f3 ρ = kB (f ρ) fun x ρ => kB (f2 ρ) fun y ρ => kCh p q f3 x y ρ := rfl
theorem kCh_i {p q : Int → Int → Bool} {f3 : Fn Ow} {i j : Int} : kCh p q f3 (.f (.int i)) (.f (.int j)) ρ = if p i j = true then kB (f3 ρ) fun z ρ => kCz q j z ρ else some (.ok (.f (.bl false)) ρ) := by
  show (if p i j = true then _ else _ : Fn Ow) ρ = _
  split <;> rfl
theorem kCz_i {q : Int → Int → Bool} {j l : Int} : kCz q j (.f (.int l)) ρ = some (.ok (.f (.bl (q j l))) ρ) := rfl
theorem e_is {P : Dt → Bool} {f : Fn Ow} : xIs P f ρ = kB (f ρ) fun o ρ => kO (kIs P o) ρ := rfl
theorem e_Q {q : Ev → Option Dt} : xQ q ρ = kO ((q ρ).map .f) ρ := by
  unfold xQ kO
  cases q ρ <;> rfl
theorem e_Rg1 {f : Fn Ow} : xRg1 f ρ = kB (f ρ) fun o ρ => kO (kRg1 o) ρ := rfl
theorem e_Rg2 {f f2 : Fn Ow} : xRg2 f f2 ρ = kB (f ρ) fun o ρ => kB (f2 ρ) fun q ρ => kO (kRg2 o q) ρ := rfl
def kSl (lo hi : Fn (Option Int)) (o : Ow) : Fn Ow := match frz o with
  | some d => bnd lo fun l => bnd hi fun h => OW.opt (bSl (.f d) l h)
  | none => fun _ => none
theorem e_Sl {f : Fn Ow} {lo hi : Fn (Option Int)} : xSl f lo hi ρ = kB (f ρ) fun o ρ => kSl lo hi o ρ := rfl
theorem kSl_f {lo hi : Fn (Option Int)} {x : Dt} : kSl lo hi (.f x) ρ = kB (lo ρ) fun l ρ => kB (hi ρ) fun h ρ => kO (bSl (.f x) l h) ρ := rfl
theorem kSl_n {lo hi : Fn (Option Int)} {kd : Kd} {x : Dt} (h : frz (.n kd os) = some x) : kSl lo hi (.n kd os) ρ = kB (lo ρ) fun l ρ => kB (hi ρ) fun h ρ => kO (bSl (.f x) l h) ρ := by unfold kSl; rw [h]; rfl
theorem e_oN : oN ρ = some (.ok none ρ) := rfl
theorem e_oS {f : Fn Ow} : oS f ρ = kB (f ρ) fun o ρ => kO (partI o) ρ := rfl
/-! calls -/
theorem e_call {fs : Fn (List Ar)} : xCall n fn fs ρ = kB (fs ρ) fun as ρ => app n fn as ρ := rfl
theorem e_apply {ρ1 : Ev} (h : takeA as ρ = some (os, ρ1)) (hn : os.length = n) : app n fn as ρ = kA as ρ1 (fn os) := by
  unfold app
  rw [h]
  simp only
  rw [if_pos hn]
  rfl
theorem kA_rt : kA as ρ (some (.rt o ps)) = some (.ok o (putA as ps ρ)) := rfl
theorem kA_ex : kA as ρ (some (.ex c d ps)) = some (.ex c d (putA as ps ρ)) := rfl
theorem kA_n : kA as ρ none = none := rfl
theorem kA_i {p : Prop} [Decidable p] {x y : Option Fr} : kA as ρ (if p then x else y) = if p then kA as ρ x else kA as ρ y := by split <;> rfl
theorem e_R0 : xR0 ρ = some (.ok [] ρ) := rfl
theorem e_Rv {f : Fn Ow} {fs : Fn (List Ar)} : xRv f fs ρ = kB (f ρ) fun o ρ => kB (fs ρ) fun as ρ => some (.ok (.v o :: as) ρ) := rfl
theorem e_Ri {i : Nat} {fs : Fn (List Ar)} (h : ρ[i]? = some o) (hn : o ≠ .no) : xRi i fs ρ = kB (fs ρ) fun as ρ => some (.ok (.io i :: as) ρ) := by
  unfold xRi
  rw [h]
  cases o with
  | no => exact (hn rfl).elim
  | f _ => rfl
  | n _ _ => rfl
def kCK (n m : Nat) (π : List Nat) (fn : FO) (os : List Ow) : Fn Ow := match frzs os with
  | some ds => if ds.length = m then app n fn ((DL.perm π ds).map fun d => .v (.f d)) else fun _ => none
  | none => fun _ => none
theorem e_callK {m : Nat} {π : List Nat} {fs : Fn (List Ow)} : xCallK n m π fn fs ρ = kB (fs ρ) fun os ρ => kCK n m π fn os ρ := rfl
theorem kCK_f {m : Nat} {π : List Nat} {ds : List Dt} (h : frzs os = some ds) (hl : ds.length = m) : kCK n m π fn os ρ = app n fn ((DL.perm π ds).map fun d => .v (.f d)) ρ := by
  unfold kCK
  rw [h]
  simp only
  rw [if_pos hl]
theorem e_take0 : takeA [] ρ = some ([], ρ) := rfl
theorem e_takeV : takeA (.v o :: as) ρ = (takeA as ρ).map fun r => (o :: r.1, r.2) := rfl
theorem e_takeI {i : Nat} (h : ρ[i]? = some o) (hn : o ≠ .no) : takeA (.io i :: as) ρ = (takeA as (ρ.set i .no)).map fun r => (o :: r.1, r.2) := by
  conv => lhs; unfold takeA
  rw [h]
  cases o with
  | no => exact (hn rfl).elim
  | f _ => rfl
  | n _ _ => rfl
theorem e_put0 : putA [] ps ρ = ρ := by cases ps <;> rfl
theorem e_putV {p : Ow} : putA (.v o :: as) (p :: ps) ρ = putA as ps ρ := rfl
theorem e_putI {p : Ow} {i : Nat} : putA (.io i :: as) (p :: ps) ρ = putA as ps (ρ.set i p) := rfl
theorem fz_f {x : Dt} : frz (.f x) = some x := rfl
theorem fz_l : frz (.n .lst os) = (frzs os).map .lst := by unfold frz; rfl
theorem fzs_0 : frzs [] = some [] := rfl
theorem fzs_1 {x : Dt} : frzs (.f x :: os) = (frzs os).map fun ds => x :: ds := by
  conv => lhs; unfold frzs
  rw [fz_f]
  cases frzs os <;> rfl
theorem fzs_map {ds : List Dt} : frzs (ds.map .f) = some ds := by
  induction ds with
  | nil => rfl
  | cons d ds ih => rw [List.map_cons, fzs_1, ih]; rfl
theorem fzs_mapI {ns : List Int} : frzs (ns.map fun n => .f (.int n)) = some (ns.map .int) := by
  have e : (ns.map fun n => Ow.f (.int n)) = (ns.map Dt.int).map .f := by rw [List.map_map]; rfl
  rw [e, fzs_map]
theorem fzs_1l {xs : List Ow} {a b : List Dt} (h1 : frzs xs = some a) (h2 : frzs os = some b) : frzs (.n .lst xs :: os) = some (.lst a :: b) := by
  conv => lhs; unfold frzs
  rw [fz_l, h1, h2]
  rfl
theorem e_b1 {B : Dt → Option Ow} {x : Dt} : oB1 B (.f x) = B x := rfl
theorem e_b2 {B : Dt → Dt → Option Ow} {x y : Dt} : oB2 B (.f x) (.f y) = B x y := rfl
theorem e_b2g {B : Dt → Dt → Option Ow} {x y : Ow} {a b : Dt} (h1 : frz x = some a) (h2 : frz y = some b) : oB2 B x y = B a b := by
  unfold oB2
  rw [h1, h2]
theorem e_bs {B : List Dt → Option Ow} {ds : List Dt} (h : frzs os = some ds) : oBs B os = B ds := by
  unfold oBs
  rw [h]
theorem e_getE0 {i : Nat} (h : ρ[i]? = some o) : getE ρ i [] = some o := getE_nil h
theorem e_setE0 {i : Nat} {x : Ow} (h : ρ[i]? = some o) : setE ρ i [] x = ρ.set i x := setE_nil h
end
end OW
/-! what is wanted behind statements: a calculus over the functions of defs -/
namespace OW
open DL (Dt)
structure Po where
  N : Ev → Prop
  R : Ow → Ev → Prop
  B : Ev → Prop := fun _ => False
  C : Ev → Prop := fun _ => False
  E : PySem.Str → Option (PySem.Str × Dt) → Ev → Prop := fun _ _ _ => False
def wp (x : Option So) (P : Po) : Prop := match x with
  | some (.nx ρ) => P.N ρ
  | some (.rt o ρ) => P.R o ρ
  | some (.bk ρ) => P.B ρ
  | some (.ct ρ) => P.C ρ
  | some (.ex c d ρ) => P.E c d ρ
  | none => False
section
variable {α β : Type} {f : Fn α} {k : α → Fn β} {kv : α → SF} {ρ ρ1 : Ev} {a : α} {c : PySem.Str} {d : Option (PySem.Str × Dt)} {g h b : SF} {o : Ow} {os ps : List Ow} {io : List Bool} {as : List Ar} {fn : FO} {n nv : Nat} {P : Po} {gf : GF} {ds : List Dt}
theorem fn_wp (hb : wp (b (os ++ List.replicate (nv - os.length) .no)) { N := fun ρ => o = .f .non ∧ outs io ρ = ps, R := fun o' ρ => o' = o ∧ outs io ρ = ps }) : fnOf nv io b os = some (.rt o ps) := by
  rw [e_fn]
  unfold wp at hb
  split at hb
  · rename_i e
    rw [e, kF_nx, hb.1, hb.2]
  · rename_i e
    rw [e, kF_rt, hb.1, hb.2]
  · cases hb
  · cases hb
  · cases hb
  · cases hb
theorem fn_wpx {dx : Option (PySem.Str × Dt)} (hb : wp (b (os ++ List.replicate (nv - os.length) .no)) { N := fun ρ => False, R := fun o' ρ => False, E := fun c' d' ρ => c' = c ∧ d' = dx ∧ outs io ρ = ps }) : fnOf nv io b os = some (.ex c dx ps) := by
  rw [e_fn]
  unfold wp at hb
  split at hb
  · cases hb
  · cases hb
  · cases hb
  · cases hb
  · rename_i e
    rw [e, kF_ex, hb.1, hb.2.1, hb.2.2]
  · cases hb
/-- some value, of which much is known -/
theorem fn_ex {Q : Ow → List Ow → Prop} (hb : wp (b (os ++ List.replicate (nv - os.length) .no)) { N := fun ρ => Q (.f .non) (outs io ρ), R := fun o' ρ => Q o' (outs io ρ) }) : ∃ o ps, fnOf nv io b os = some (.rt o ps) ∧ Q o ps := by
  rw [e_fn]
  unfold wp at hb
  split at hb
  · rename_i e
    rw [e, kF_nx]
    exact ⟨_, _, rfl, hb⟩
  · rename_i e
    rw [e, kF_rt]
    exact ⟨_, _, rfl, hb⟩
  · cases hb
  · cases hb
  · cases hb
  · cases hb
theorem w_nx : wp (some (.nx ρ)) P = P.N ρ := rfl
theorem w_rt : wp (some (.rt o ρ)) P = P.R o ρ := rfl
theorem w_bk : wp (some (.bk ρ)) P = P.B ρ := rfl
theorem w_ct : wp (some (.ct ρ)) P = P.C ρ := rfl
theorem w_ex : wp (some (.ex c d ρ)) P = P.E c d ρ := rfl
theorem w_ite {p : Prop} [Decidable p] {x y : Option So} : wp (if p then x else y) P = ((p → wp x P) ∧ (¬ p → wp y P)) := by
  by_cases hp : p
  · rw [if_pos hp]; exact propext ⟨fun z => ⟨fun _ => z, fun n => absurd hp n⟩, fun z => z.1 hp⟩
  · rw [if_neg hp]; exact propext ⟨fun z => ⟨fun n => absurd n hp, fun _ => z⟩, fun z => z.2 hp⟩
theorem w_seq : wp (sSeq g h ρ) P = wp (g ρ) { P with N := fun ρ => wp (h ρ) P } := by
  unfold sSeq wp
  cases g ρ with
  | none => rfl
  | some r => cases r <;> rfl
theorem w_kS {x : Option So} : wp (kS x h) P = wp x { P with N := fun ρ => wp (h ρ) P } := by
  unfold kS wp
  cases x with
  | none => rfl
  | some r => cases r <;> rfl
/-- for: an invariant by the turn -/
theorem w_for (Pv : Nat → Ev → Prop) (h0 : Pv 0 ρ) (hs : ∀ j d ρ, ds[j]? = some d → Pv j ρ → ∃ ρ1, gf d ρ = some ρ1 ∧ wp (b ρ1) { P with N := Pv (j + 1), C := Pv (j + 1), B := P.N }) (hd : ∀ ρ, Pv ds.length ρ → P.N ρ) : wp (forL gf b ds ρ) P := by
  have main : ∀ (l : List Dt) (j : Nat) (ρ : Ev), ds.drop j = l → j ≤ ds.length → Pv j ρ → wp (forL gf b l ρ) P := by
    intro l
    induction l with
    | nil =>
      intro j ρ e hj hp
      have : j = ds.length := by
        have := congrArg List.length e
        simp at this
        omega
      subst this
      exact hd ρ hp
    | cons d l ih =>
      intro j ρ e hj hp
      have hjl : j < ds.length := by
        by_cases h : j < ds.length
        · exact h
        · rw [List.drop_eq_nil_of_le (by omega)] at e
          cases e
      have hd' : ds[j]? = some d := by
        rw [List.drop_eq_getElem_cons hjl] at e
        cases e
        exact List.getElem?_eq_getElem hjl
      have hl : ds.drop (j + 1) = l := by
        rw [List.drop_eq_getElem_cons hjl] at e
        cases e
        rfl
      obtain ⟨ρ1, e1, w1⟩ := hs j d ρ hd' hp
      unfold forL
      rw [e1]
      cases eb : b ρ1 with
      | none => simp only [eb]; rw [eb] at w1; exact w1.elim
      | some r =>
        simp only [eb]
        rw [eb] at w1
        cases r with
        | nx ρ2 => exact ih (j + 1) ρ2 hl (by omega) w1
        | ct ρ2 => exact ih (j + 1) ρ2 hl (by omega) w1
        | bk ρ2 => exact w1
        | rt o ρ2 => exact w1
        | ex c d ρ2 => exact w1
  exact main ds 0 ρ rfl (Nat.zero_le _) h0
/-- while: an invariant by a measure -/
theorem w_wh {t : Fn Bool} (Pv : Nat → Ev → Prop) (m : Nat) (h0 : Pv m ρ) (hs : ∀ m ρ, Pv m ρ → (∃ ρ1, t ρ = some (.ok true ρ1) ∧ wp (b ρ1) { P with N := fun ρ => ∃ m', m' < m ∧ Pv m' ρ, C := fun ρ => ∃ m', m' < m ∧ Pv m' ρ, B := P.N }) ∨ ∃ ρ1, t ρ = some (.ok false ρ1) ∧ P.N ρ1) : wp (sWh t b ρ) P := by
  have main : ∀ (m : Nat) (ρ : Ev), Pv m ρ → ∃ n r, whN t b n ρ = some r ∧ wp (some r) P := by
    intro m
    induction m using Nat.strongRecOn with
    | ind m ih =>
      intro ρ hp
      rcases hs m ρ hp with ⟨ρ1, e1, w1⟩ | ⟨ρ1, e1, w1⟩
      · cases eb : b ρ1 with
        | none => rw [eb] at w1; exact w1.elim
        | some r =>
          rw [eb] at w1
          have on : ∀ ρ2, (∃ m', m' < m ∧ Pv m' ρ2) → (b ρ1 = some (.nx ρ2) ∨ b ρ1 = some (.ct ρ2)) → ∃ n r, whN t b n ρ = some r ∧ wp (some r) P := fun ρ2 ⟨m', hm, hp'⟩ he => by
            obtain ⟨n, r, e2, w2⟩ := ih m' hm ρ2 hp'
            refine ⟨n + 1, r, ?_, w2⟩
            unfold whN
            rcases he with he | he <;> simp only [e1, he, e2]
          cases r with
          | nx ρ2 => exact on ρ2 w1 (.inl eb)
          | ct ρ2 => exact on ρ2 w1 (.inr eb)
          | bk ρ2 => exact ⟨1, .nx ρ2, by unfold whN; simp only [e1, eb], w1⟩
          | rt o ρ2 => exact ⟨1, .rt o ρ2, by unfold whN; simp only [e1, eb], w1⟩
          | ex c d ρ2 => exact ⟨1, .ex c d ρ2, by unfold whN; simp only [e1, eb], w1⟩
      · exact ⟨1, .nx ρ1, by unfold whN; simp only [e1], w1⟩
  obtain ⟨n, r, e, w⟩ := main m ρ h0
  rw [sWh_of e]
  exact w
end
/-! comprehensions that leave the slots as they are -/
theorem compL_ok {vs : List Nat} {gf : GF} {tc : Fn Bool} {fe : Fn Ow} {ρ : Ev} {p : Dt → Bool} {f : Dt → Ow} : ∀ {ds : List Dt} {acc : List Ow},
    (∀ d ∈ ds, ∃ ρ1 ρ2, gf d (wipeO ρ vs) = some ρ1 ∧ tc ρ1 = some (.ok (p d) ρ2) ∧ (p d = false → back ρ ρ2 vs = ρ) ∧ (p d = true → ∃ ρ3, fe ρ2 = some (.ok (f d) ρ3) ∧ back ρ ρ3 vs = ρ)) →
    compL vs gf tc fe ds acc ρ = some (.ok (acc ++ (ds.filter p).map f) ρ)
  | [], acc, _ => by unfold compL; simp
  | d :: ds, acc, h => by
    obtain ⟨ρ1, ρ2, e1, e2, e3, e4⟩ := h d List.mem_cons_self
    have ih := fun acc => compL_ok (ds := ds) (acc := acc) fun x hx => h x (List.mem_cons_of_mem _ hx)
    unfold compL
    cases hp : p d with
    | false =>
      rw [hp] at e2
      simp only [e1, e2, e3 hp]
      rw [ih, List.filter_cons_of_neg (by rw [hp]; decide)]
    | true =>
      rw [hp] at e2
      obtain ⟨ρ3, e5, e6⟩ := e4 hp
      simp only [e1, e2, e5, e6]
      rw [ih, List.filter_cons_of_pos hp]
      simp
theorem comp_ok {vs : List Nat} {fi : Fn (List Dt)} {gf : GF} {tc : Fn Bool} {fe : Fn Ow} {ρ ρ0 : Ev} {p : Dt → Bool} {f : Dt → Ow} {ds : List Dt} (hi : fi ρ0 = some (.ok ds ρ)) (hl : ds.length ≤ LIM)
    (h : ∀ d ∈ ds, ∃ ρ1 ρ2, gf d (wipeO ρ vs) = some ρ1 ∧ tc ρ1 = some (.ok (p d) ρ2) ∧ (p d = false → back ρ ρ2 vs = ρ) ∧ (p d = true → ∃ ρ3, fe ρ2 = some (.ok (f d) ρ3) ∧ back ρ ρ3 vs = ρ)) :
    xComp vs fi gf tc fe ρ0 = some (.ok (.n .lst ((ds.filter p).map f)) ρ) := by
  unfold xComp
  rw [e_bnd, hi, kB_o]
  simp only [if_pos hl]
  rw [e_bnd, compL_ok h, kB_o, List.nil_append]
  rfl
theorem comp_map {vs : List Nat} {fi : Fn (List Dt)} {gf : GF} {fe : Fn Ow} {ρ ρ0 : Ev} {f : Dt → Ow} {ds : List Dt} (hi : fi ρ0 = some (.ok ds ρ)) (hl : ds.length ≤ LIM)
    (h : ∀ d ∈ ds, ∃ ρ1 ρ3, gf d (wipeO ρ vs) = some ρ1 ∧ fe ρ1 = some (.ok (f d) ρ3) ∧ back ρ ρ3 vs = ρ) :
    xComp vs fi gf tY fe ρ0 = some (.ok (.n .lst (ds.map f)) ρ) := by
  have e := comp_ok (tc := tY) (p := fun _ => true) (f := f) hi hl (fe := fe) (gf := gf) (vs := vs) fun d hd => by
    obtain ⟨ρ1, ρ3, e1, e2, e3⟩ := h d hd
    exact ⟨ρ1, ρ1, e1, rfl, fun z => (by cases z), fun _ => ⟨ρ3, e2, e3⟩⟩
  rw [e, List.filter_eq_self.mpr fun _ _ => rfl]
theorem iL_f {f : Fn Ow} {ρ ρ1 : Ev} {ds : List Dt} (h : f ρ = some (.ok (.f (.lst ds)) ρ1)) : iL f ρ = some (.ok ds ρ1) := by
  unfold iL
  rw [e_bnd, h, kB_o]
  rfl
theorem iL_t {f : Fn Ow} {ρ ρ1 : Ev} {ds : List Dt} (h : f ρ = some (.ok (.f (.tup ds)) ρ1)) : iL f ρ = some (.ok ds ρ1) := by
  unfold iL
  rw [e_bnd, h, kB_o]
  rfl
theorem iL_n {f : Fn Ow} {ρ ρ1 : Ev} {os : List Ow} {ds : List Dt} (h : f ρ = some (.ok (.n .lst os) ρ1)) (hf : frzs os = some ds) : iL f ρ = some (.ok ds ρ1) := by
  unfold iL
  rw [e_bnd, h, kB_o]
  show kO (match frz _ with | some (.lst ds) => some ds | some (.tup ds) => some ds | _ => none) ρ1 = _
  rw [fz_l, hf]
  rfl
theorem iR1_f {f : Fn Ow} {ρ ρ1 : Ev} {n : Int} (h : f ρ = some (.ok (.f (.int n)) ρ1)) : iR1 f ρ = some (.ok ((DL.rng 0 n.toNat).map .int) ρ1) := by
  unfold iR1
  rw [e_bnd, h, kB_o]
  rfl
theorem iR2_f {f f2 : Fn Ow} {ρ ρ1 ρ2 : Ev} {m n : Int} (h : f ρ = some (.ok (.f (.int m)) ρ1)) (h2 : f2 ρ1 = some (.ok (.f (.int n)) ρ2)) : iR2 f f2 ρ = some (.ok ((DL.rng m (n - m).toNat).map .int) ρ2) := by
  unfold iR2
  rw [e_bnd, h, kB_o, e_bnd, h2, kB_o]
  rfl
theorem iRd_f {f f2 : Fn Ow} {ρ ρ1 ρ2 : Ev} {m n : Int} (h : f ρ = some (.ok (.f (.int m)) ρ1)) (h2 : f2 ρ1 = some (.ok (.f (.int n)) ρ2)) : iRd f f2 ρ = some (.ok ((DL.dng m (m - n).toNat).map .int) ρ2) := by
  unfold iRd
  rw [e_bnd, h, kB_o, e_bnd, h2, kB_o]
  rfl
theorem iE_f {f : Fn Ow} {ρ ρ1 : Ev} {o : Ow} {ds : List Dt} (h : f ρ = some (.ok o ρ1)) (hf : frz o = some (.lst ds)) : iE f ρ = some (.ok (DL.enum ds) ρ1) := by
  unfold iE
  rw [e_bnd, h, kB_o]
  show kO (match frz _ with | some (.lst ds) => some (DL.enum ds) | _ => none) ρ1 = _
  rw [hf]
  rfl
theorem iZ_f {f f2 : Fn Ow} {ρ ρ1 ρ2 : Ev} {o o2 : Ow} {ds es : List Dt} (h : f ρ = some (.ok o ρ1)) (h2 : f2 ρ1 = some (.ok o2 ρ2)) (hf : frz o = some (.lst ds)) (hf2 : frz o2 = some (.lst es)) : iZ f f2 ρ = some (.ok (DL.zip2 ds es) ρ2) := by
  unfold iZ
  rw [e_bnd, h, kB_o, e_bnd, h2, kB_o]
  show kO (match frz _, frz _ with | some (.lst ds), some (.lst es) => some (DL.zip2 ds es) | _, _ => none) ρ2 = _
  rw [hf, hf2]
  rfl
end OW
/-! what built-in things come to, for simp; sizes of numbers by instances -/
namespace OW
open DL (Dt)
/-! ### sizes -/
class Sz (n : outParam Nat) (i : Int) : Prop where
  lt : i.natAbs < 2 ^ n
theorem Sz.up {n m : Nat} {i : Int} (h : Sz n i) (k : n ≤ m) : Sz m i := ⟨Nat.lt_of_lt_of_le h.lt (Nat.pow_le_pow_right (by decide) k)⟩
theorem Sz.of {n : Nat} {i j : Int} (h : Sz n j) (k : i.natAbs ≤ j.natAbs) : Sz n i := ⟨Nat.lt_of_le_of_lt k h.lt⟩
theorem Sz.of0 {n : Nat} {i j : Int} (h : Sz n j) (h0 : 0 ≤ i) (k : i ≤ j) : Sz n i := h.of (by omega)
theorem two_pos (n : Nat) : 0 < 2 ^ n := Nat.pow_pos (by decide)
instance sz_lit (n : Nat) : Sz (n.log2 + 1) (no_index (OfNat.ofNat n : Int)) := ⟨by
  show (n : Int).natAbs < _
  rw [Int.natAbs_natCast]
  by_cases h : n = 0
  · subst h; decide
  · exact (Nat.log2_lt h).mp (Nat.lt_succ_self _)⟩
instance sz_neg {n : Nat} {i : Int} [h : Sz n i] : Sz n (-i) := ⟨by rw [Int.natAbs_neg]; exact h.lt⟩
instance sz_add {n m : Nat} {i j : Int} [h : Sz n i] [k : Sz m j] : Sz (n + m + 1) (i + j) := ⟨by
  have h1 := h.lt
  have h2 := k.lt
  have a := Int.natAbs_add_le i j
  have b1 : 2 ^ n ≤ 2 ^ (n + m) := Nat.pow_le_pow_right (by decide) (by omega)
  have b2 : 2 ^ m ≤ 2 ^ (n + m) := Nat.pow_le_pow_right (by decide) (by omega)
  rw [Nat.pow_succ]
  omega⟩
instance sz_sub {n m : Nat} {i j : Int} [h : Sz n i] [k : Sz m j] : Sz (n + m + 1) (i - j) := by
  rw [Int.sub_eq_add_neg]
  infer_instance
instance sz_mul {n m : Nat} {i j : Int} [h : Sz n i] [k : Sz m j] : Sz (n + m) (i * j) := ⟨by
  rw [Int.natAbs_mul, Nat.pow_add]
  have h1 := h.lt
  have h2 := k.lt
  calc i.natAbs * j.natAbs ≤ i.natAbs * 2 ^ m := Nat.mul_le_mul_left _ (Nat.le_of_lt h2)
    _ < 2 ^ n * 2 ^ m := (Nat.mul_lt_mul_right (two_pos m)).mpr h1⟩
instance sz_div {n : Nat} {i j : Int} [h : Sz n i] : Sz (n + 1) (i / j) := ⟨by
  have h1 := h.lt
  have a : (i / j).natAbs ≤ i.natAbs + 1 := by
    have := Int.natAbs_ediv_le_natAbs i j
    omega
  have b := two_pos n
  rw [Nat.pow_succ]
  omega⟩
instance sz_mod {n m : Nat} {i j : Int} [h : Sz n i] [k : Sz m j] : Sz (n + m + 1) (i % j) := ⟨by
  have h1 := h.lt
  have h2 := k.lt
  have b1 : 2 ^ n ≤ 2 ^ (n + m) := Nat.pow_le_pow_right (by decide) (by omega)
  have b2 : 2 ^ m ≤ 2 ^ (n + m) := Nat.pow_le_pow_right (by decide) (by omega)
  rw [Nat.pow_succ]
  by_cases h0 : j = 0
  · subst h0
    rw [Int.emod_zero]
    omega
  · have c1 := Int.emod_nonneg i h0
    have c2 := Int.emod_lt i h0
    omega⟩
instance (priority := 2000) sz_modL {n : Nat} [h : NeZero n] {i : Int} : Sz (n.log2 + 1) (i % (no_index (OfNat.ofNat n : Int))) := ⟨by
  have h0 : n ≠ 0 := h.out
  have l := (Nat.log2_lt h0).mp (Nat.lt_succ_self _)
  have h0' : (n : Int) ≠ 0 := by omega
  have c1 := Int.emod_nonneg i h0'
  have c2 := Int.emod_lt i h0'
  show (i % (n : Int)).natAbs < _
  omega⟩
instance sz_max {n m : Nat} {i j : Int} [h : Sz n i] [k : Sz m j] : Sz (n + m) (max i j) := ⟨by
  have h1 := h.lt
  have h2 := k.lt
  have b1 : 2 ^ n ≤ 2 ^ (n + m) := Nat.pow_le_pow_right (by decide) (by omega)
  have b2 : 2 ^ m ≤ 2 ^ (n + m) := Nat.pow_le_pow_right (by decide) (by omega)
  omega⟩
instance sz_min {n m : Nat} {i j : Int} [h : Sz n i] [k : Sz m j] : Sz (n + m) (min i j) := ⟨by
  have h1 := h.lt
  have h2 := k.lt
  have b1 : 2 ^ n ≤ 2 ^ (n + m) := Nat.pow_le_pow_right (by decide) (by omega)
  have b2 : 2 ^ m ≤ 2 ^ (n + m) := Nat.pow_le_pow_right (by decide) (by omega)
  omega⟩
instance sz_abs {n : Nat} {i : Int} [h : Sz n i] : Sz n (i.natAbs : Int) := ⟨by rw [Int.natAbs_natCast]; exact h.lt⟩
instance sz_ite {n m : Nat} {p : Prop} [Decidable p] {i j : Int} [h : Sz n i] [k : Sz m j] : Sz (n + m) (if p then i else j) := by
  split
  · exact h.up (by omega)
  · exact k.up (by omega)
instance sz_pow {n k : Nat} {i : Int} [h : Sz n i] : Sz (n * k + 1) (i ^ k) := ⟨by
  have h1 := h.lt
  rw [Int.natAbs_pow, Nat.pow_succ, Nat.pow_mul]
  have a : i.natAbs ^ k ≤ (2 ^ n) ^ k := Nat.pow_le_pow_left (Nat.le_of_lt h1) k
  have b : 0 < (2 ^ n) ^ k := Nat.pow_pos (two_pos n)
  omega⟩
theorem bn_sz {n : Nat} {i : Int} [h : Sz n i] (k : n ≤ 3900) : Bn i = true := by
  unfold Bn
  rw [decide_eq_true_eq]
  by_cases h0 : i.natAbs = 0
  · rw [h0]; decide
  · have a := (Nat.log2_lt h0).mpr h.lt
    omega
theorem v_bn {n : Nat} {i : Int} [h : Sz n i] (k : n ≤ 3900) : Bn i = true := bn_sz k
theorem sz_of {n : Nat} {i : Int} (h1 : -(2 ^ n) < i) (h2 : i < 2 ^ n) : Sz n i := ⟨by
  have e : ((2 ^ n : Nat) : Int) = 2 ^ n := by norm_cast
  omega⟩
section
variable {ρ : Ev} {os ps : List Ow} {i j k : Int} {ds es : List Dt} {d e : Dt} {x y : Ow} {n : Nat} {kd : Kd}
/-! ### arithmetic -/
theorem v_add : bAdd (.f (.int i)) (.f (.int j)) = some (.f (.int (i + j))) := rfl
theorem v_sub : bSub (.f (.int i)) (.f (.int j)) = some (.f (.int (i - j))) := rfl
theorem v_mul (h1 : Bn i = true) (h2 : Bn j = true) : bMul (.f (.int i)) (.f (.int j)) = some (.f (.int (i * j))) := by
  show (if _ then _ else _) = _
  rw [if_pos ⟨h1, h2⟩]
theorem v_div (h : 0 < j) (h2 : Bn j = true) : bDiv (.f (.int i)) (.f (.int j)) = some (.f (.int (i / j))) := by
  show (if _ then _ else _) = _
  rw [if_pos ⟨h, h2⟩]
theorem v_mod (h : 0 < j) : bMod (.f (.int i)) (.f (.int j)) = some (.f (.int (i % j))) := by
  show (if _ then _ else _) = _
  rw [if_pos h]
theorem v_pow (h1 : Bn i = true) (h2 : 0 ≤ j) (h3 : j ≤ 1000) : bPow (.f (.int i)) (.f (.int j)) = some (.f (.int (i ^ j.toNat))) := by
  show (if _ then _ else _) = _
  rw [if_pos ⟨h1, h2, h3⟩]
theorem v_neg : bNeg (.f (.int i)) = some (.f (.int (-i))) := rfl
theorem v_catNN (h : os.length + ps.length ≤ LIM) : bAdd (.n .lst os) (.n .lst ps) = some (.n .lst (os ++ ps)) := by
  simp [bAdd, bLists, its, h]
theorem v_catFN (h : ds.length + ps.length ≤ LIM) : bAdd (.f (.lst ds)) (.n .lst ps) = some (.n .lst (ds.map .f ++ ps)) := by
  simp [bAdd, bLists, its, h]
theorem v_catNF (h : os.length + ds.length ≤ LIM) : bAdd (.n .lst os) (.f (.lst ds)) = some (.n .lst (os ++ ds.map .f)) := by
  simp [bAdd, bLists, its, h]
theorem v_catFF (h : ds.length + es.length ≤ LIM) : bAdd (.f (.lst ds)) (.f (.lst es)) = some (.n .lst (ds.map .f ++ es.map .f)) := by
  simp [bAdd, bLists, its, h]
theorem v_rep (hf : frzs os = some ds) (h : j ≤ LIM ∧ -LIM ≤ j ∧ ds.length * j.toNat ≤ LIM) : bMul (.n .lst os) (.f (.int j)) = some (.n .lst ((List.replicate j.toNat ds).flatten.map .f)) := by
  simp [bMul, bRep, hf, h]
/-! ### comparisons -/
theorem v_lt : cLt (.f (.int i)) (.f (.int j)) = some (.f (.bl (decide (i < j)))) := rfl
theorem v_le : cLe (.f (.int i)) (.f (.int j)) = some (.f (.bl (decide (i ≤ j)))) := rfl
theorem v_gt : cGt (.f (.int i)) (.f (.int j)) = some (.f (.bl (decide (j < i)))) := rfl
theorem v_ge : cGe (.f (.int i)) (.f (.int j)) = some (.f (.bl (decide (j ≤ i)))) := rfl
theorem v_is : cIs (.f d) (.f .non) = some (.f (.bl d.isNon)) := rfl
theorem v_isN : cIsN (.f d) (.f .non) = some (.f (.bl (!d.isNon))) := rfl
theorem v_isO (h : frz x = some d) : cIs x (.f .non) = some (.f (.bl d.isNon)) := by
  unfold cIs oB2
  rw [h]
  rfl
theorem v_isNO (h : frz x = some d) : cIsN x (.f .non) = some (.f (.bl (!d.isNon))) := by
  unfold cIsN oB2
  rw [h]
  rfl
theorem v_non : (Dt.non).isNon = true := rfl
theorem v_nonI : (Dt.int i).isNon = false := rfl
theorem v_nonL : (Dt.lst ds).isNon = false := rfl
theorem v_nonT : (Dt.tup ds).isNon = false := rfl
theorem v_nonB {b : Bool} : (Dt.bl b).isNon = false := rfl
theorem ok_int : eqOk (.int i) = true := by simp [eqOk, Dt.plain, DL.Dt.py, PySem.SeqAt.shaped, PySem.PyData.canLay0, PySem.PyData.depth]
theorem v_eqI : cEq (.f (.int i)) (.f (.int j)) = some (.f (.bl (decide (i = j)))) := by
  unfold cEq
  rw [e_b2]
  simp only [ok_int, deq, DL.Dt.py, PySem.PyData.eqv, (show ∀ a b : Int, (a == b) = decide (a = b) from fun a b => rfl), and_self, if_true]
theorem v_neI : cNe (.f (.int i)) (.f (.int j)) = some (.f (.bl (!decide (i = j)))) := by
  unfold cNe
  rw [e_b2]
  simp only [ok_int, deq, DL.Dt.py, PySem.PyData.eqv, (show ∀ a b : Int, (a == b) = decide (a = b) from fun a b => rfl), and_self, if_true]
theorem v_eqS {a b : PySem.Str} : cEq (.f (.str a)) (.f (.str b)) = some (.f (.bl (decide (a = b)))) := rfl
theorem v_neS {a b : PySem.Str} : cNe (.f (.str a)) (.f (.str b)) = some (.f (.bl (!decide (a = b)))) := rfl
/-- what is the same is equal -/
theorem eq_same (h1 : frz x = some d) (h2 : frz y = some d) (h : d.Sm) (hd : d.dep ≤ 64) : cEq x y = some (.f (.bl true)) := by
  have ok : eqOk d = true := by unfold eqOk; rw [DL.sm_plain d h, DL.shaped_of h hd]; rfl
  have e : deq d d = true := DL.eqv_same h
  unfold cEq oB2
  rw [h1, h2]
  simp only
  split
  · rename_i a b e1
    cases e1
    rw [decide_eq_true rfl]
  · rw [if_pos ⟨ok, ok⟩, e]
theorem ne_same (h1 : frz x = some d) (h2 : frz y = some d) (h : d.Sm) (hd : d.dep ≤ 64) : cNe x y = some (.f (.bl false)) := by
  have ok : eqOk d = true := by unfold eqOk; rw [DL.sm_plain d h, DL.shaped_of h hd]; rfl
  have e : deq d d = true := DL.eqv_same h
  unfold cNe oB2
  rw [h1, h2]
  simp only
  split
  · rename_i a b e1
    cases e1
    rw [decide_eq_true rfl]
    rfl
  · rw [if_pos ⟨ok, ok⟩, e]
    rfl
/-! ### what is built in -/
theorem v_lenL : kLen [.lst ds] = some (.f (.int ds.length)) := rfl
theorem v_lenT : kLen [.tup ds] = some (.f (.int ds.length)) := rfl
theorem v_abs : kAbs [.int i] = some (.f (.int (i.natAbs : Int))) := rfl
theorem v_max2 : kMax [.int i, .int j] = some (.f (.int (max i j))) := rfl
theorem v_min2 : kMin [.int i, .int j] = some (.f (.int (min i j))) := rfl
theorem v_min3 : kMin [.int i, .int j, .int k] = some (.f (.int (min i (min j k)))) := rfl
theorem v_intsM {ns : List Int} : intsOf (ns.map .int) = some ns := intsOf_map ns
theorem v_ints0 : intsOf [] = some [] := rfl
theorem v_ints1 : intsOf (.int i :: ds) = (intsOf ds).map fun ns => i :: ns := by
  show (match intsOf ds with | some ns => _ | none => _) = _
  cases intsOf ds <;> rfl
theorem v_blsM {ns : List Bool} : blsOf (ns.map .bl) = some ns := blsOf_map ns
theorem v_blsF {α : Type} {p : α → Bool} {l : List α} : blsOf (l.map fun a => .bl (p a)) = some (l.map p) := by
  have := blsOf_map (l.map p)
  rw [List.map_map] at this
  exact this
theorem v_intsF {α : Type} {p : α → Int} {l : List α} : intsOf (l.map fun a => .int (p a)) = some (l.map p) := by
  have := intsOf_map (l.map p)
  rw [List.map_map] at this
  exact this
theorem v_maxL {ns : List Int} (h : intsOf ds = some ns) (h0 : ns ≠ []) : kMax [.lst ds] = some (.f (.int (gst ns))) := by
  show (match intsOf ds with | some ns => _ | none => _) = _
  rw [h]
  simp only [if_pos h0]
theorem v_minL {ns : List Int} (h : intsOf ds = some ns) (h0 : ns ≠ []) : kMin [.lst ds] = some (.f (.int (lst' ns))) := by
  show (match intsOf ds with | some ns => _ | none => _) = _
  rw [h]
  simp only [if_pos h0]
theorem v_sum {ns : List Int} (h : intsOf ds = some ns) : kSum [.lst ds] = some (.f (.int ns.sum)) := by
  show (match intsOf ds with | some ns => _ | none => _) = _
  rw [h]
theorem v_sort {ns : List Int} (h : intsOf ds = some ns) : kSort [.lst ds] = some (.n .lst ((srt ns).map fun n => .f (.int n))) := by
  show (match intsOf ds with | some ns => _ | none => _) = _
  rw [h]
theorem v_all {ns : List Bool} (h : blsOf ds = some ns) : kAll [.lst ds] = some (.f (.bl (ns.all id))) := by
  show (match blsOf ds with | some ns => _ | none => _) = _
  rw [h]
theorem v_any {ns : List Bool} (h : blsOf ds = some ns) : kAny [.lst ds] = some (.f (.bl (ns.any id))) := by
  show (match blsOf ds with | some ns => _ | none => _) = _
  rw [h]
theorem v_int : kInt [.int i] = some (.f (.int i)) := rfl
theorem v_intB {b : Bool} : kInt [.bl b] = some (.f (.int (if b then 1 else 0))) := rfl
theorem v_list : kList [.lst ds] = some (.n .lst (ds.map .f)) := rfl
theorem v_listT : kList [.tup ds] = some (.n .lst (ds.map .f)) := rfl
theorem v_tuple : kTuple [.lst ds] = some (.f (.tup ds)) := rfl
theorem v_kIsN {P : Dt → Bool} (h : frz x = some d) (h2 : d.ty ≠ "") : kIs P x = some (.f (.bl (P d))) := by unfold kIs; rw [h]; simp only [if_pos h2]
theorem v_kIsI {P : Dt → Bool} : kIs P (.f (.int i)) = some (.f (.bl (P (.int i)))) := v_kIsN rfl DL.tyI
theorem v_kIsL {P : Dt → Bool} : kIs P (.f (.lst ds)) = some (.f (.bl (P (.lst ds)))) := v_kIsN rfl DL.tyL
theorem v_kIsT {P : Dt → Bool} : kIs P (.f (.tup ds)) = some (.f (.bl (P (.tup ds)))) := v_kIsN rfl DL.tyT
theorem v_kIsB {P : Dt → Bool} {b : Bool} : kIs P (.f (.bl b)) = some (.f (.bl (P (.bl b)))) := v_kIsN rfl DL.tyB
theorem v_isInt : (Dt.int i).isInt = true := rfl
theorem v_isBool : (Dt.int i).isBool = false := rfl
theorem v_isLst : (Dt.lst ds).isLst = true := rfl
theorem v_isTup : (Dt.tup ds).isTup = true := rfl
theorem v_repr (h : d.fits = true) (hk : (∃ ds, d = .lst ds) ∨ ∃ ds, d = .tup ds) : kRepr [d] = some (.f (.str d.text)) := by
  rcases hk with ⟨ds, rfl⟩ | ⟨ds, rfl⟩
  · show (if fitsR _ then _ else _) = _
    rw [if_pos (show fitsR _ = true from h)]
  · show (if fitsR _ then _ else _) = _
    rw [if_pos (show fitsR _ = true from h)]
/-! ### items -/
theorem atI_nat {α : Type} {xs : List α} {i : Int} (h : 0 ≤ i) : L2.atI xs i = xs[i.toNat]? := by
  unfold L2.atI L2.ixN
  rw [if_pos h]
  by_cases hl : i < xs.length
  · rw [if_pos hl]; rfl
  · rw [if_neg hl, List.getElem?_eq_none (by omega)]; rfl
theorem v_at {α : Type} {xs : List α} {n : Nat} : L2.atI xs (n : Int) = xs[n]? := by rw [atI_nat (Int.natCast_nonneg n)]; rfl
theorem v_atL {α : Type} {xs : List α} {n : Nat} : L2.atI xs (no_index (OfNat.ofNat n : Int)) = xs[n]? := v_at
theorem v_atN {α : Type} {xs : List α} : L2.atI xs (-1) = xs[xs.length - 1]? := by
  unfold L2.atI L2.ixN
  rw [if_neg (by decide)]
  by_cases hl : xs.length = 0
  · rw [if_neg (by omega), List.getElem?_eq_none (by omega)]; rfl
  · rw [if_pos (by omega)]
    show xs[((-1 : Int) + xs.length).toNat]? = _
    have e : ((-1 : Int) + xs.length).toNat = xs.length - 1 := by omega
    rw [e]
theorem v_ixT : bIx (.f (.tup ds)) (.f (.int k)) = (L2.atI ds k).map .f := rfl
theorem v_ixL : bIx (.f (.lst ds)) (.f (.int k)) = (L2.atI ds k).map .f := rfl
theorem v_ixN (h : L2.atI os k = some x) (hn : x ≠ .no) : bIx (.n .lst os) (.f (.int k)) = some x := by
  show (match L2.atI os k with | some .no => none | r => r) = _
  rw [h]
  split
  · rename_i e
    cases e
    exact (hn rfl).elim
  · rfl
theorem e_qK {d : Dt} : qK d ρ = some d := rfl
theorem e_qV {n : Nat} (h : ρ[n]? = some (.f d)) : qV n ρ = some d := by unfold qV; rw [h]
/-! what simp finds step by step: each hypothesis tells one thing -/
def gKd : Ow → Option Kd
  | .n k _ => some k
  | _ => none
def gOs : Ow → Option (List Ow)
  | .n _ os => some os
  | _ => none
def gLs : Ow → Option (List Ow)
  | .n .lst os => some os
  | _ => none
def gDs : Dt → Option (List Dt)
  | .lst ds => some ds
  | .tup ds => some ds
  | _ => none
def gF : Ow → Option Dt
  | .f d => some d
  | _ => none
def gI : Dt → Option Int
  | .int i => some i
  | _ => none
theorem v_gKd : gKd (.n kd os) = some kd := rfl
theorem v_gOs : gOs (.n kd os) = some os := rfl
theorem v_gLs : gLs (.n .lst os) = some os := rfl
theorem v_gDs : gDs (.lst ds) = some ds := rfl
theorem v_gDsT : gDs (.tup ds) = some ds := rfl
theorem v_gF : gF (.f d) = some d := rfl
theorem v_gI : gI (.int i) = some i := rfl
def isN : Ow → Bool
  | .n _ _ => true
  | _ => false
theorem v_isNn : isN (.n kd os) = true := rfl
theorem isN_ex (h : isN x = true) : ∃ kd os, x = .n kd os := by
  cases x with
  | n k o => exact ⟨k, o, rfl⟩
  | no => cases h
  | f d => cases h
theorem e_Vn' {n : Nat} (h : ρ[n]? = some x) (h1 : isN x = true) (hf : frz x = some d) : xV n ρ = some (.ok (.f d) (ρ.set n (.f d))) := by
  obtain ⟨kd, os, rfl⟩ := isN_ex h1
  exact e_Vn h hf
theorem e_Mn' {n : Nat} (h : ρ[n]? = some x) (h1 : isN x = true) : xM n ρ = some (.ok x (ρ.set n .no)) := by
  obtain ⟨kd, os, rfl⟩ := isN_ex h1
  exact e_Mn h
def isNo : Ow → Bool
  | .no => true
  | _ => false
theorem v_isNo1 : isNo (.f d) = false := rfl
theorem v_isNo2 : isNo (.n kd os) = false := rfl
theorem e_pV {n : Nat} (h : ρ[n]? = some x) (h2 : isNo x = false) : pV n ρ = some (n, []) := by
  unfold pV
  rw [h]
  cases x with
  | no => cases h2
  | n k o => rfl
  | f d => rfl
theorem gI_eq (h : gI d = some i) : d = .int i := by
  cases d <;> cases h
  rfl
theorem gLs_eq (h : gLs x = some os) : x = .n .lst os := by
  cases x with
  | no => cases h
  | f d => cases h
  | n k o =>
    cases k <;> cases h
    rfl
theorem gF_eq (h : gF x = some d) : x = .f d := by
  cases x <;> cases h
  rfl
variable {p : Ev → Option (Nat × List Nat)} {q q2 : Ev → Option Dt} {r : Nat × List Nat}
theorem e_qIxF (h1 : p ρ = some r) (h0 : r.2 = []) (h2 : q ρ = some e) (h2' : gI e = some k) (h3 : ρ[r.1]? = some x) (h4 : gF x = some d) (h5 : gDs d = some ds) : qIx p q ρ = L2.atI ds k := by
  obtain ⟨n, π⟩ := r
  subst h0
  cases gI_eq h2'
  cases gF_eq h4
  have h3' : ρ[n]? = some (.f d) := h3
  unfold qIx
  cases d <;> cases h5
  · simp only [h1, h2, e_getE0 h3']
  · simp only [h1, h2, e_getE0 h3']
theorem e_qIxN (h1 : p ρ = some r) (h0 : r.2 = []) (h2 : q ρ = some e) (h2' : gI e = some k) (h3 : ρ[r.1]? = some x) (h3' : gLs x = some os) (h4 : L2.atI os k = some y) (h5 : gF y = some d) : qIx p q ρ = some d := by
  obtain ⟨n, π⟩ := r
  subst h0
  cases gI_eq h2'
  cases gLs_eq h3'
  cases gF_eq h5
  have h3' : ρ[n]? = some (.n .lst os) := h3
  unfold qIx
  simp only [h1, h2, e_getE0 h3', h4]
theorem e_qI (h1 : q ρ = some d) (h1' : gDs d = some ds) (h2 : q2 ρ = some e) (h2' : gI e = some k) : qI q q2 ρ = L2.atI ds k := by
  cases gI_eq h2'
  unfold qI
  cases d <;> cases h1'
  · simp only [h1, h2]
  · simp only [h1, h2]
theorem e_qB {B : Int → Int → Option Int} (h1 : q ρ = some d) (h1' : gI d = some i) (h2 : q2 ρ = some e) (h2' : gI e = some j) : qB B q q2 ρ = (B i j).map .int := by
  cases gI_eq h2'
  cases gI_eq h1'
  unfold qB
  simp only [h1, h2]
theorem e_get (h : qIx p q ρ = some d) : xGet p q ρ = some (.ok (.f d) ρ) := by
  unfold xGet
  simp only [h]
theorem kIt_l' {j : Nat} (h1 : p ρ = some r) (h0 : r.2 = []) (h2 : q ρ = some e) (h2' : gI e = some k) (h3 : ρ[r.1]? = some y) (h3' : gLs y = some os) (h4 : L2.ixN os.length k = some j) : kIt p q x ρ = some (.nx (ρ.set r.1 (.n .lst (os.set j x)))) := by
  obtain ⟨n, π⟩ := r
  subst h0
  cases gI_eq h2'
  cases gLs_eq h3'
  rw [kIt_l h1 h2 (e_getE0 h3) h4, e_setE0 h3]
theorem ixN_nat {n : Nat} {i : Int} (h : 0 ≤ i) (hl : i.toNat < n) : L2.ixN n i = some i.toNat := by
  unfold L2.ixN
  rw [if_pos h, if_pos (by omega)]
theorem v_ixLit {n m : Nat} (h : m < n) : L2.ixN n (no_index (OfNat.ofNat m : Int)) = some m := ixN_nat (i := (m : Int)) (Int.natCast_nonneg m) (by show m < n; exact h)
theorem v_ix0 {n : Nat} (h : 0 < n) : L2.ixN n 0 = some 0 := ixN_nat (i := 0) (by decide) h
theorem v_at0 {α : Type} {xs : List α} : L2.atI xs 0 = xs[0]? := atI_nat (by decide)
theorem v_at1 {α : Type} {xs : List α} : L2.atI xs 1 = xs[1]? := atI_nat (by decide)
theorem v_ix1 {n : Nat} (h : 1 < n) : L2.ixN n 1 = some 1 := ixN_nat (i := 1) (by decide) h
theorem e_apply' {n : Nat} {fn : FO} {as : List Ar} {s : List Ow × Ev} (h : takeA as ρ = some s) (hn : s.1.length = n) : app n fn as ρ = kA as s.2 (fn s.1) := e_apply h hn
end
/-! ### ends of statements -/
theorem wp_nx {x : Option So} {N : Ev → Prop} (h : wp x { N := N, R := fun _ _ => False }) : ∃ ρ, x = some (.nx ρ) ∧ N ρ := by
  unfold wp at h
  split at h
  · exact ⟨_, rfl, h⟩
  all_goals cases h
theorem wp_or {x : Option So} {N : Ev → Prop} {R : Ow → Ev → Prop} (h : wp x { N := N, R := R }) : (∃ ρ, x = some (.nx ρ) ∧ N ρ) ∨ ∃ o ρ, x = some (.rt o ρ) ∧ R o ρ := by
  unfold wp at h
  split at h
  · exact .inl ⟨_, rfl, h⟩
  · exact .inr ⟨_, _, rfl, h⟩
  all_goals cases h
theorem wp_eq {x : Option So} {P : Po} (r : So) (e : x = some r) (h : wp (some r) P) : wp x P := e ▸ h
end OW
/-! comprehensions, one turn by one equation; lists that functions make -/
namespace OW
open DL (Dt)
def cK (vs : List Nat) (ρ : Ev) (r : Option (Rs Ow)) : Option (Ow × Ev) := match r with
  | some (.ok o ρ3) => some (o, back ρ ρ3 vs)
  | _ => none
def cT (vs : List Nat) (fe : Fn Ow) (ρ : Ev) (r : Option (Rs Bool)) : Option (Option Ow × Ev) := match r with
  | some (.ok true ρ2) => (cK vs ρ (fe ρ2)).map fun x => (some x.1, x.2)
  | some (.ok false ρ2) => some (none, back ρ ρ2 vs)
  | _ => none
def eB {α : Type} (r : Option Ev) (f : Ev → Option α) : Option α := match r with
  | some ρ => f ρ
  | none => none
section
variable {α : Type} {vs : List Nat} {gf : GF} {tc : Fn Bool} {fe : Fn Ow} {ρ ρ0 ρ1 ρ2 : Ev} {o : Ow} {l : List α} {g : α → Dt} {i n : Nat}
theorem e_eB {f : Ev → Option α} : eB (some ρ) f = f ρ := rfl
theorem e_cK : cK vs ρ (some (.ok o ρ1)) = some (o, back ρ ρ1 vs) := rfl
theorem e_cT1 : cT vs fe ρ (some (.ok true ρ1)) = (cK vs ρ (fe ρ1)).map fun x => (some x.1, x.2) := rfl
theorem e_cT2 : cT vs fe ρ (some (.ok false ρ1)) = some (none, back ρ ρ1 vs) := rfl
theorem e_cTb {b : Bool} : cT vs fe ρ (some (.ok b ρ1)) = if b = true then (cK vs ρ (fe ρ1)).map fun x => (some x.1, x.2) else some (none, back ρ ρ1 vs) := by cases b <;> rfl
theorem comp_mapT {fi : Fn (List Dt)} {f : α → Ow} {ds : List Dt} (hi : fi ρ0 = some (.ok ds ρ)) (hd : ds = l.map g) (hl : l.length ≤ LIM)
    (h : ∀ a ∈ l, eB (gf (g a) (wipeO ρ vs)) (fun ρ1 => cK vs ρ (fe ρ1)) = some (f a, ρ)) : xComp vs fi gf tY fe ρ0 = some (.ok (.n .lst (l.map f)) ρ) := by
  subst hd
  unfold xComp
  rw [e_bnd, hi, kB_o]
  simp only [List.length_map, if_pos hl]
  have main : ∀ (l : List α) (acc : List Ow), (∀ a ∈ l, eB (gf (g a) (wipeO ρ vs)) (fun ρ1 => cK vs ρ (fe ρ1)) = some (f a, ρ)) → compL vs gf tY fe (l.map g) acc ρ = some (.ok (acc ++ l.map f) ρ) := by
    intro l
    induction l with
    | nil => intro acc _; unfold compL; simp
    | cons a l ih =>
      intro acc h
      have h1 := h a List.mem_cons_self
      have h2 := ih (acc ++ [f a]) fun x hx => h x (List.mem_cons_of_mem _ hx)
      unfold eB at h1
      split at h1
      · rename_i r1 e1
        dsimp only at h1
        unfold cK at h1
        split at h1
        · rename_i o2 r2 e2
          simp only [Option.some.injEq, Prod.mk.injEq] at h1
          rw [List.map_cons]
          unfold compL
          have et : tY r1 = some (.ok true r1) := rfl
          simp only [e1, et, e2, h1]
          rw [h2]
          simp
        · cases h1
      · cases h1
  rw [e_bnd, main l [] h, kB_o, List.nil_append]
  rfl
theorem comp_filT {fi : Fn (List Dt)} {p : α → Bool} {f : α → Ow} {ds : List Dt} (hi : fi ρ0 = some (.ok ds ρ)) (hd : ds = l.map g) (hl : l.length ≤ LIM)
    (h : ∀ a ∈ l, eB (gf (g a) (wipeO ρ vs)) (fun ρ1 => cT vs fe ρ (tc ρ1)) = some (if p a = true then some (f a) else none, ρ)) : xComp vs fi gf tc fe ρ0 = some (.ok (.n .lst ((l.filter p).map f)) ρ) := by
  subst hd
  unfold xComp
  rw [e_bnd, hi, kB_o]
  simp only [List.length_map, if_pos hl]
  have main : ∀ (l : List α) (acc : List Ow), (∀ a ∈ l, eB (gf (g a) (wipeO ρ vs)) (fun ρ1 => cT vs fe ρ (tc ρ1)) = some (if p a = true then some (f a) else none, ρ)) → compL vs gf tc fe (l.map g) acc ρ = some (.ok (acc ++ (l.filter p).map f) ρ) := by
    intro l
    induction l with
    | nil => intro acc _; unfold compL; simp
    | cons a l ih =>
      intro acc h
      have h1 := h a List.mem_cons_self
      have h2 := fun acc => ih acc fun x hx => h x (List.mem_cons_of_mem _ hx)
      unfold eB at h1
      split at h1
      · rename_i r1 e1
        dsimp only at h1
        rw [List.map_cons]
        unfold compL
        unfold cT at h1
        split at h1
        · rename_i r2 e2
          unfold cK at h1
          split at h1
          · rename_i o2 r3 e3
            simp only [Option.map_some, Option.some.injEq, Prod.mk.injEq] at h1
            obtain ⟨h1, h3⟩ := h1
            by_cases hp : p a = true
            · rw [if_pos hp] at h1
              cases h1
              simp only [e1, e2, e3, h3]
              rw [h2, List.filter_cons_of_pos hp]
              simp
            · rw [if_neg hp] at h1
              cases h1
          · cases h1
        · rename_i r2 e2
          simp only [Option.some.injEq, Prod.mk.injEq] at h1
          obtain ⟨h1, h3⟩ := h1
          by_cases hp : p a = true
          · rw [if_pos hp] at h1
            cases h1
          · simp only [e1, e2, h3]
            rw [h2, List.filter_cons_of_neg hp]
        · cases h1
      · cases h1
  rw [e_bnd, main l [] h, kB_o, List.nil_append]
  rfl
theorem e_wipe0 : wipeO ρ [] = ρ := rfl
theorem e_wipe1 {v : Nat} : wipeO ρ (v :: vs) = (wipeO ρ vs).set v .no := rfl
def bk (o : Option Ow) : Ow := match o with
  | some (.f d) => .f d
  | _ => .no
theorem e_back0 : back ρ0 ρ [] = ρ := rfl
theorem e_back1 {v : Nat} : back ρ0 ρ (v :: vs) = (back ρ0 ρ vs).set v (bk ρ0[v]?) := rfl
theorem v_bkF {d : Dt} : bk (some (.f d)) = .f d := rfl
theorem v_bkNo : bk (some .no) = .no := rfl
theorem v_bkN {k : Kd} {os : List Ow} : bk (some (.n k os)) = .no := rfl
theorem v_tY : tY ρ = some (.ok true ρ) := rfl
theorem v_Vg {o : Ow} {d : Dt} (h : ρ[n]? = some o) (hf : frz o = some d) : xV n ρ = some (.ok (.f d) (ρ.set n (.f d))) := by
  cases o with
  | no => cases hf
  | f x =>
    cases hf
    rw [e_Vf h]
    have e : ρ.set n (.f d) = ρ := by
      obtain ⟨h1, h2⟩ := List.getElem?_eq_some_iff.mp h
      rw [← h2, List.set_getElem_self]
    rw [e]
  | n k os => exact e_Vn h hf
theorem v_atLast {β : Type} {m : List β} {a : β} : L2.atI (m ++ [a]) (-1) = some a := by
  rw [v_atN, List.length_append]
  simp
theorem v_ixS {n : Nat} : L2.ixN (n + 1) (-1) = some n := by
  unfold L2.ixN
  rw [if_neg (by decide), if_pos (by omega)]
  congr 1
  omega
theorem v_setLast {β : Type} {m : List β} {a b : β} {n : Nat} (h : n = m.length) : (m ++ [a]).set n b = m ++ [b] := by
  subst h
  simp
theorem v_fzSnoc {f : α → Dt} {d : Dt} : frzs (l.map (fun a => .f (f a)) ++ [.f d]) = some (l.map f ++ [d]) := by
  have := fzs_map (ds := l.map f ++ [d])
  rw [List.map_append, List.map_map] at this
  exact this
theorem v_fzSnocC {f : α → Dt} {d : Dt} : frzs (l.map (Ow.f ∘ f) ++ [.f d]) = some (l.map f ++ [d]) := v_fzSnoc
theorem v_LIM : LIM = 1000000 := by unfold LIM; rfl
/-! lists -/
theorem v_fzF {f : α → Dt} : frzs (l.map fun a => .f (f a)) = some (l.map f) := by
  have := fzs_map (ds := l.map f)
  rw [List.map_map] at this
  exact this
theorem v_fzC {f : α → Dt} : frzs (l.map (Ow.f ∘ f)) = some (l.map f) := v_fzF
theorem v_fzFF {β : Type} {m : α → List β} {f : α → β → Dt} : frzs (l.map fun a => .n .lst ((m a).map fun b => .f (f a b))) = some (l.map fun a => .lst ((m a).map (f a))) := by
  induction l with
  | nil => rfl
  | cons a l ih => exact fzs_1l v_fzF ih
theorem v_intsC {f : α → Int} : intsOf (l.map (Dt.int ∘ f)) = some (l.map f) := v_intsF
theorem v_blsC {f : α → Bool} : blsOf (l.map (Dt.bl ∘ f)) = some (l.map f) := v_blsF
theorem rng0_map {n : Nat} : (DL.rng 0 n).map Dt.int = (List.range n).map fun k => .int (k : Int) := by
  unfold DL.rng
  rw [List.map_map]
  refine List.map_congr_left fun k _ => ?_
  show Dt.int (0 + (k : Int)) = _
  rw [Int.zero_add]
theorem rng_map {a : Int} {n : Nat} : (DL.rng a n).map Dt.int = (List.range n).map fun k => .int (a + (k : Int)) := by
  unfold DL.rng
  rw [List.map_map]
  rfl
theorem zip_map {β : Type} {h : β → Dt} {m : List β} : DL.zip2 (l.map g) (m.map h) = (l.zip m).map fun x => .tup [g x.1, h x.2] := by
  unfold DL.zip2
  rw [List.zipWith_map, List.map_zip_eq_zipWith]
  rfl
theorem enum_map : DL.enum (l.map g) = l.zipIdx.map fun x => .tup [.int (x.2 : Int), g x.1] := by
  unfold DL.enum
  rw [List.mapIdx_eq_zipIdx_map, List.zipIdx_map, List.map_map]
  rfl
theorem zip_mem {β : Type} {x : α × β} {m : List β} (h : x ∈ l.zip m) : x.1 ∈ l ∧ x.2 ∈ m := by
  obtain ⟨a, b⟩ := x
  exact List.of_mem_zip h
end
end OW
/-! sorted(set(xs)) of ints -/
namespace OW
open PySem PySem.Spec PyProof.Rows L2
open DL (Dt Rp RpAll SqX)
/-- put in where it belongs, once -/
def ins (k : Int) : List Int → List Int
  | [] => [k]
  | x :: xs => if k < x then k :: x :: xs else if k = x then x :: xs else x :: ins k xs
def ssort (ns : List Int) : List Int := ns.foldr ins []
theorem ins_mem {k j : Int} : ∀ {l : List Int}, j ∈ ins k l ↔ j = k ∨ j ∈ l
  | [] => by simp [ins]
  | x :: xs => by
    unfold ins
    split
    · simp
    · split
      · rename_i h
        subst h
        simp
      · rw [List.mem_cons, ins_mem, List.mem_cons]
        constructor
        · rintro (h | h | h) <;> simp [h]
        · rintro (h | h | h) <;> simp [h]
theorem ins_lt {k : Int} : ∀ {l : List Int}, l.Pairwise (· < ·) → (ins k l).Pairwise (· < ·)
  | [], _ => by simp [ins]
  | x :: xs, h => by
    obtain ⟨h1, h2⟩ := List.pairwise_cons.mp h
    unfold ins
    split
    · rename_i hk
      exact List.pairwise_cons.mpr ⟨fun y hy => by
        rcases List.mem_cons.mp hy with rfl | hy
        · exact hk
        · have := h1 y hy; omega, h⟩
    · split
      · exact h
      · refine List.pairwise_cons.mpr ⟨fun y hy => ?_, ins_lt h2⟩
        rcases ins_mem.mp hy with rfl | hy
        · omega
        · exact h1 y hy
theorem ssort_mem {ns : List Int} {k : Int} : k ∈ ssort ns ↔ k ∈ ns := by
  induction ns with
  | nil => simp [ssort]
  | cons n ns ih =>
    show k ∈ ins n (ssort ns) ↔ _
    rw [ins_mem, ih, List.mem_cons]
theorem ssort_lt : ∀ (ns : List Int), (ssort ns).Pairwise (· < ·)
  | [] => List.Pairwise.nil
  | n :: ns => ins_lt (ssort_lt ns)
theorem strict_eq : ∀ {a b : List Int}, a.Pairwise (· < ·) → b.Pairwise (· < ·) → (∀ k, k ∈ a ↔ k ∈ b) → a = b
  | [], [], _, _, _ => rfl
  | [], y :: b, _, _, h => by have := (h y).mpr List.mem_cons_self; cases this
  | x :: a, [], _, _, h => by have := (h x).mp List.mem_cons_self; cases this
  | x :: a, y :: b, ha, hb, h => by
    obtain ⟨a1, a2⟩ := List.pairwise_cons.mp ha
    obtain ⟨b1, b2⟩ := List.pairwise_cons.mp hb
    have e : x = y := by
      rcases List.mem_cons.mp ((h x).mp List.mem_cons_self) with e | e
      · exact e
      · rcases List.mem_cons.mp ((h y).mpr List.mem_cons_self) with f | f
        · exact f.symm
        · have := a1 y f
          have := b1 x e
          omega
    subst e
    rw [strict_eq a2 b2 fun k => ?_]
    constructor
    · intro hk
      rcases List.mem_cons.mp ((h k).mp (List.mem_cons_of_mem _ hk)) with e | e
      · have := a1 k hk; omega
      · exact e
    · intro hk
      rcases List.mem_cons.mp ((h k).mpr (List.mem_cons_of_mem _ hk)) with e | e
      · have := b1 k hk; omega
      · exact e
def kSS : List Dt → Option Ow
  | [.lst ds] => match intsOf ds with
    | some ns => if ns.length < 60 then some (.l ((ssort ns).map fun n => .f (.int n))) else none
    | none => none
  | _ => none
def xSrtSet (f : Fn Ow) : Fn Ow := xC (oBs kSS) (xA1 f xA0)
section
variable {X : Cx} {W : WX} {pos pos2 p p2 : Pos} {e : Expr} {fe : Fn Ow}
theorem lay_ok {g : Gs} {H : Hp} {a : Addr} {o : HO} (k : GsOk g H) (h : H a = none) : GsOk g (upd H a o) :=
  ⟨fun q u z => by rw [upd_ne (ne_of_none z (k.free h).1)]; exact k.s q u z, fun q u z => by rw [upd_ne (ne_of_none z (k.free h).2)]; exact k.m q u z, k.d⟩
theorem rf_ss {ds : List Dt} {z : Ow} (h : kSS ds = some z) : RF X (fun vs H Q => rSetL X.K X.w vs H fun v H' => rSortedSet X.w [v] H' Q) ds z := by
  unfold kSS at h
  split at h
  · split at h
    · rename_i ns e
      split at h
      · rename_i hl
        cases h
        intro vs H g Q k rv q
        obtain ⟨a, rfl, h1⟩ := sq_ints k.s e rv
        refine ⟨a, ns, rfl, h1, hl, fun b c hb hc => ⟨b, _, c, rfl, upd_same, by omega, fun out p' hs hm hlen hp => ?_⟩⟩
        have eo : out = ssort ns := strict_eq hs (ssort_lt ns) fun k => by rw [hm, ssort_mem, decide_eq_true_iff]
        subst eo
        have em : ((ssort ns).map fun n => Ow.f (.int n)) = ((ssort ns).map Dt.int).map Ow.f := by rw [List.map_map]; rfl
        rw [em] at q
        obtain ⟨x1, x2, x3⟩ := new_l (mg := X.mg) (K := X.K) (lay_ok k hb) (OwRs.of_rp (RpAll.of_ints (K := X.K) (S := g.S) (ssort ns))) hp
        exact q _ _ _ _ x1 x2 x3
      · cases h
    · cases h
  · cases h
theorem de_srtSet (hc : X.calm = true) (hm : X.mg "sorted" = none) (hm2 : X.mg "set" = none) (ha : DE X W e fe) (hg : Gl X "sorted" := by rfl) (hg2 : Gl X "set" := by rfl)
    (hv : bootBuiltins "sorted" = some (.builtin "sorted") := by decide +kernel) (hv2 : bootBuiltins "set" = some (.type "set") := by decide +kernel)
    (he2 : starEach [e] X.env = (false, eval e X.env) :: starEach [] X.env := by rfl)
    (he : starEach [.Call (.Name "set" p2) [e] [] pos2] X.env = (false, eval (.Call (.Name "set" p2) [e] [] pos2) X.env) :: starEach [] X.env := by rfl)
    (hpl : (backTo pos2 (starEach [] X.env)).any (·.1) = false := by rfl) (hpl2 : (backTo pos (starEach [] X.env)).any (·.1) = false := by rfl) : DE X W (.Call (.Name "sorted" p) [.Call (.Name "set" p2) [e] [] pos2] [] pos) (xSrtSet fe) := fun ρ r h => by
  have pe : ∀ {ta : TA}, PA X [e] ta → PE X (.Call (.Name "sorted" p) [.Call (.Name "set" p2) [e] [] pos2] [] pos) _ := fun {ta} pa => pe_callB (cr_sortedSet hc) hg hm hv (pa_cons (pe_callTy (cr_setL hc) hg2 hm2 hv2 pa (by decide) (by decide) he2 hpl) pa_nil he) (by decide) (by decide) he hpl2
  have da : DA X W [e] (xA1 fe xA0) := da_1 ha da_0 he2
  rcases bnd_inv h with ⟨os, ρ1, h1, h2⟩ | ⟨c, d, ρ1, h1, rfl⟩
  · obtain ⟨ta, pa, qa⟩ := da ρ _ h1
    obtain ⟨z, h3, rfl⟩ := opt_inv h2
    unfold oBs at h3
    split at h3
    · rename_i ds ed
      refine ⟨_, pe pa, fun σ H g F Q G q => qa σ H g F _ G fun vs H1 g1 F1 Fa G1 r1 d1 s1 => rf_rc (rf_ss h3) ed vs H1 g1 Fa Q G1.ok r1 fun w H3 g3 Fz k3 r3 s3 => ?_⟩
      obtain ⟨G3, d3, s4⟩ := G1.op s1 d1 k3 s3
      exact q w H3 g3 F1 Fz G3 r3 d3 s4
    · cases h3
  · obtain ⟨ta, pa, qa⟩ := da ρ _ h1
    exact ⟨_, pe pa, fun σ H g F Q G q => qa σ H g F _ G q⟩
theorem e_SrtSet {ρ : Ev} : xSrtSet fe ρ = xC (oBs kSS) (xA1 fe xA0) ρ := rfl
theorem v_ss {ds : List Dt} {ns : List Int} (h : intsOf ds = some ns) (hl : ns.length < 60) : kSS [.lst ds] = some (.n .lst ((ssort ns).map fun n => .f (.int n))) := by
  unfold kSS
  simp only [h, if_pos hl]
end
end OW
/-! x, y = (a, b) where a tuple is really made: each name takes what is its own -/
namespace OW
open PySem PySem.Spec PyProof.Rows L2
open DL (Dt Rp RpAll SqX)
def sTup2 (i j : Nat) (fa fb : Fn Ow) : SF := sVal (xA1 fa (xA1 fb xA0)) fun xs ρ => match xs with
  | [x, y] => ((setO i x ρ).bind (setO j y)).map .nx
  | _ => none
section
variable {X : Cx} {W : WX} {Z : List (Nat × V)} {pos : Pos} {a b : Expr} {fa fb : Fn Ow}
theorem ds_tup2 (i j : Nat) {x y : Str} {px py pt : Pos} {kt k2 pt2} (hc : X.calm = true) (nd : X.N.Nodup) (ha : DE X W a fa) (hb : DE X W b fb) (hzi : i ∉ Z.map (·.1) := by decide) (hzj : j ∉ Z.map (·.1) := by decide) (hi : X.N[i]? = some x := by rfl) (hj : X.N[j]? = some y := by rfl)
    (lx : Loc X.env.scope x := by first | exact Or.inl rfl | exact Or.inr rfl) (ly : Loc X.env.scope y := by first | exact Or.inl rfl | exact Or.inr rfl)
    (fx : X.fn x = true ∨ X.env.scope.names.lookup x = some .local := by first | exact .inl rfl | exact .inr rfl) (fy : X.fn y = true ∨ X.env.scope.names.lookup y = some .local := by first | exact .inl rfl | exact .inr rfl)
    (hn : (assignEach [.Name x px, .Name y py] X.env).length = 2 := by rfl) (hst : (assignEach [.Name x px, .Name y py] X.env).findIdx? (·.1) = none := by rfl)
    (m1 : (assignEach [.Name x px, .Name y py] X.env).map (·.2) = assign (.Name x px) X.env :: (assignEach [.Name y py] X.env).map (·.2) := by rfl) (m2 : (assignEach [.Name y py] X.env).map (·.2) = assign (.Name y py) X.env :: (assignEach [] X.env).map (·.2) := by rfl)
    (hs : swapsWithSole [.Tuple [.Name x px, .Name y py] kt pt] (.Tuple [a, b] k2 pt2) pos.line X.env = pure false := by rfl) (hw : swappedStores [.Tuple [.Name x px, .Name y py] kt pt] (.Tuple [a, b] k2 pt2) X.env = pure none := by rfl)
    (h0 : (assignEach [.Tuple [.Name x px, .Name y py] kt pt] X.env).map (·.2) = [assign (.Tuple [.Name x px, .Name y py] kt pt) X.env] := by rfl)
    (h1 : starEach [a, b] X.env = (false, eval a X.env) :: starEach [b] X.env := by rfl) (h2 : starEach [b] X.env = (false, eval b X.env) :: starEach [] X.env := by rfl) : DS X W Z (.Assign [.Tuple [.Name x px, .Name y py] kt pt] (.Tuple [a, b] k2 pt2) pos) (sTup2 i j fa fb) := fun ρ r hr => by
  have da : DA X W [a, b] (xA1 fa (xA1 fb xA0)) := da_1 ha (da_1 hb da_0 h2) h1
  have ps : ∀ {ta : TA}, PA X [a, b] ta → PS X (.Assign [.Tuple [.Name x px, .Name y py] kt pt] (.Tuple [a, b] k2 pt2) pos) _ := fun {ta} pa => ps_asg (pe_tup pa) (pg_tup hc (pgs_cons (pg_name (i := i) nd hi lx fx) (pgs_cons (pg_name (i := j) nd hj ly fy) pgs_nil m2) m1) hn hst) hs hw h0
  rcases sVal_inv hr with ⟨xs, ρ2, h4, hk⟩ | ⟨c', d, ρ1, h4, rfl⟩
  · obtain ⟨t, pa, qa⟩ := da ρ _ h4
    split at hk
    · rename_i xo yo
      obtain ⟨ρ4, h9, rfl⟩ := Option.map_eq_some_iff.mp hk
      obtain ⟨ρ3, h11, h12⟩ := Option.bind_eq_some_iff.mp h9
      refine ⟨_, ps pa, fun σ H g F D G zk k => qa σ H g F _ G fun vs H1 g1 F1 Fv G1 r1 d1 s1 => ⟨by rw [OwRs.len r1]; show 2 ≤ sizeLine; rw [sizeLine_eq]; decide, fun p hp => ?_⟩⟩
      obtain ⟨v, r, K1, L1, e1, a1, a2, a3, a4⟩ := r1
      obtain ⟨v2, r2, K2, L2, e2, b1, b2, b3, b4⟩ := a2
      obtain ⟨e4, e5⟩ := b2
      subst e4; subst e2; subst e1
      have G2 : Good X g1 (upd H1 p (.tup [v, v2])) σ ρ2 F1 := ⟨lay_ok G1.ok hp, G1.sr⟩
      obtain ⟨F3, G3, w3⟩ := G2.set h11 a1 fun p u w => d1 p u ((a4 p).mpr (.inl w))
      obtain ⟨F4, G4, w4⟩ := G3.set h12 b1 fun p u w => (w3 p u).elim (fun u => d1 p u ((a4 p).mpr (.inr ((b4 p).mpr (.inl w))))) fun u => a3 p u ((b4 p).mpr (.inl w))
      refine ⟨_, _, rfl, SqT.of upd_same, rfl, _, _, rfl, _, _, rfl, rfl, ?_⟩
      refine k _ _ g1 F4 G4 ((zk.set hzi).set hzj) (s1.sub fun p u => ?_)
      rcases w4 p u with u | u
      · rcases w3 p u with u | u
        · exact .inl u
        · exact .inr ((a4 p).mpr (.inl u))
      · exact .inr ((a4 p).mpr (.inr ((b4 p).mpr (.inl u))))
    · cases hk
  · obtain ⟨t, pa, qa⟩ := da ρ _ h4
    exact ⟨_, ps pa, fun σ H g F D G zk k => qa σ H g F _ G fun cls dx H1 g1 F1 G1 e1 s1 => k cls dx σ H1 g1 F1 G1 zk e1 s1⟩
def kT2 (i j : Nat) (xs : List Ow) (ρ : Ev) : Option So := match xs with
  | [x, y] => ((setO i x ρ).bind (setO j y)).map .nx
  | _ => none
theorem e_tup2 {i j : Nat} {ρ : Ev} : sTup2 i j fa fb ρ = kV (xA1 fa (xA1 fb xA0) ρ) fun xs ρ => kT2 i j xs ρ := rfl
theorem kT2_2 {i j : Nat} {x y : Ow} {ρ : Ev} : kT2 i j [x, y] ρ = if i < ρ.length ∧ j < ρ.length then some (.nx ((ρ.set i x).set j y)) else none := by
  unfold kT2 setO
  by_cases hi : i < ρ.length
  · by_cases hj : j < ρ.length
    · simp [hi, hj]
    · simp [hi, hj]
  · simp [hi]
end
end OW
/-! min of a list of pairs of ints -/
namespace OW
open PySem PySem.Spec PySem.W PyProof.Rows L2
open DL (Dt Rp RpAll SqX)
def pD (p : Int × Int) : Dt := .tup [.int p.1, .int p.2]
def pairsOf : List Dt → Option (List (Int × Int))
  | [] => some []
  | .tup [.int i, .int j] :: r => match pairsOf r with
    | some ps => some ((i, j) :: ps)
    | none => none
  | _ => none
theorem pairsOf_eq : ∀ {ds : List Dt} {ps : List (Int × Int)}, pairsOf ds = some ps → ds = ps.map pD
  | [], ps, h => by cases h; rfl
  | d :: r, ps, h => by
    unfold pairsOf at h
    split at h
    · rename_i e
      cases e
    · rename_i i j r' e
      cases e
      split at h
      · rename_i qs e2
        cases h
        rw [pairsOf_eq e2]
        rfl
      · cases h
    · cases h
theorem pairsOf_map : ∀ (ps : List (Int × Int)), pairsOf (ps.map pD) = some ps
  | [] => rfl
  | p :: ps => by
    show (match pairsOf (ps.map pD) with | some ps => some ((p.1, p.2) :: ps) | none => none) = _
    rw [pairsOf_map ps]
def ltP (a b : Int × Int) : Bool := decide (a.1 < b.1 ∨ (a.1 = b.1 ∧ a.2 < b.2))
def minP (x : Int × Int) (xs : List (Int × Int)) : Int × Int := xs.foldl (fun a y => if ltP y a = true then y else a) x
theorem py_pD {p : Int × Int} : (pD p).py = .tuple [.int p.1, .int p.2] := by simp [pD, DL.Dt.py, DL.Dt.pyAll]
theorem lt_pD {a b : Int × Int} : dataLt (pD a).py (pD b).py = ltP a b := by
  rw [py_pD, py_pD, dataLt_ii]
  rfl
theorem min_pD : ∀ (xs : List (Int × Int)) (x : Int × Int), minD (pD x).py (xs.map fun p => (pD p).py) = (pD (minP x xs)).py
  | [], x => rfl
  | y :: xs, x => by
    have e : minD (pD x).py ((y :: xs).map fun p => (pD p).py) = minD (if dataLt (pD y).py (pD x).py = true then (pD y).py else (pD x).py) (xs.map fun p => (pD p).py) := rfl
    have e2 : minP x (y :: xs) = minP (if ltP y x = true then y else x) xs := rfl
    rw [e, e2, lt_pD]
    by_cases h : ltP y x = true
    · rw [if_pos h, if_pos h, min_pD xs y]
    · rw [if_neg h, if_neg h, min_pD xs x]
section
variable {X : Cx}
/-- min of a list of alike data: one of the items -/
def rMinD (K : PySem.W.Frag) : List V → Hp → VK → Prop := fun vs H Q => ∃ (a : Addr) (xs : List V) (d : PyData) (ds : List PyData), vs = [.ref a] ∧ SqL K H a xs ∧ DpAll K H xs (d :: ds) ∧ AlikeAll (d :: ds) ∧ PyData.depthAll (d :: ds) ≤ 60 ∧
  ∀ (i : Nat) v, xs[i]? = some v → (d :: ds)[i]? = some (minD d ds) → Q v H
theorem cr_minD (hc : X.calm = true) (hu : X.A.units + 65 < cLine) : CallR X (.builtin "min") (rMinD X.K) := by
  intro pins s σ H vs us Q I r h
  obtain ⟨a, xs, d, ds, rfl, hs, hd, al, dep, q⟩ := h
  obtain ⟨its, rv, hl, _⟩ := I.list hs
  rw [Vals.ref1 r]
  obtain ⟨as, hr⟩ := Dp.readsAll I (d :: ds) xs its hd rv
  refine min_list_data (vs := its.toArray) (I.ok.hd hc) hl.isList (by simpa using hr) al (by omega) fun i v h' tk bs hv rd hk => ?_
  have hv' : its[i]? = some v := by simpa using hv
  obtain ⟨cs, r1, hi, _⟩ := readsAll_at hr i v hv'
  have e1 : (d :: ds).getD i .none = minD d ds := ((PyProof.Rows.reads_det (fun b o e _ => hk b o e) r1 rd).1).symm
  have hx : i < xs.length := by
    have z := rv.length
    have := (List.getElem?_eq_some_iff.mp hv').1
    omega
  obtain ⟨u, e2, r2⟩ := rv.get (List.getElem?_eq_getElem hx)
  rw [hv'] at e2
  cases e2
  exact ⟨_, H, I.kept hk, r2, q i _ (List.getElem?_eq_getElem hx) (by rw [List.getD_eq_getElem?_getD, List.getElem?_eq_getElem hi] at e1; rw [List.getElem?_eq_getElem hi]; exact congrArg some e1)⟩
end
def kMinP : List Dt → Option Ow
  | [.lst es] => match intsOf es with
    | some ns => if ns ≠ [] then some (.f (.int (lst' ns))) else none
    | none => match pairsOf es with
      | some (p :: ps) => some (.f (pD (minP p ps)))
      | _ => none
  | _ => none
theorem pD_inj {p q : Int × Int} (h : (pD p).py = (pD q).py) : p = q := by
  rw [py_pD, py_pD] at h
  injection h with h
  injection h with h1 h2
  injection h1 with h1
  injection h2 with h2 _
  injection h2 with h2
  exact Prod.ext h1 h2
theorem alike_pD {p q : Int × Int} : alike (pD p).py (pD q).py = true := by
  rw [py_pD, py_pD]
  simp [alike, alikeAll]
theorem pyAll_pD : ∀ ps : List (Int × Int), DL.Dt.pyAll (ps.map pD) = ps.map fun p => (pD p).py
  | [] => by simp [DL.Dt.pyAll]
  | p :: ps => by rw [List.map_cons, List.map_cons, DL.Dt.pyAll, pyAll_pD ps]
theorem plain_pD : ∀ ps : List (Int × Int), DL.Dt.plainAll (ps.map pD) = true
  | [] => rfl
  | p :: ps => by
    show ((pD p).plain && DL.Dt.plainAll (ps.map pD)) = true
    rw [plain_pD ps]
    rfl
theorem dep_pD : ∀ ps : List (Int × Int), PyData.depthAll (ps.map fun p => (pD p).py) ≤ 5
  | [] => by simp [PyData.depthAll]
  | p :: ps => by
    have := dep_pD ps
    rw [List.map_cons, PyData.depthAll, py_pD]
    simp only [PyData.depth, PyData.depthAll]
    omega
theorem rf_minP {X : Cx} (hc : X.calm = true) (hu : X.A.units + 65 < cLine) {ds : List Dt} {z : Ow} (h : kMinP ds = some z) : ∃ r, CallR X (.builtin "min") r ∧ RF X r ds z := by
  unfold kMinP at h
  split at h
  · rename_i es
    split at h
    · rename_i ns e
      refine rf_min hc (ds := [.lst es]) ?_
      show (match intsOf es with | some ns => _ | none => none) = _
      rw [e]
      exact h
    · split at h
      · rename_i p ps e
        cases h
        have ee := pairsOf_eq e
        subst ee
        refine ⟨_, cr_minD hc hu, fun vs H g Q k rv q => ?_⟩
        obtain ⟨a, xs, rfl, h1, h2⟩ := one_lst k.s rv
        have hd : DpAll X.K H xs ((pD p).py :: ps.map fun p => (pD p).py) := by
          have z := DL.dpAll_mono k.s _ _ (DL.RpAll.dp ((p :: ps).map pD) _ (plain_pD (p :: ps)) h2)
          rw [pyAll_pD] at z
          exact z
        refine ⟨a, xs, _, _, rfl, h1.l, hd, ⟨fun x hx y hy => ?_, fun x hx => ?_⟩, Nat.le_trans (dep_pD (p :: ps)) (by decide), fun i v e1 e2 => ?_⟩
        · obtain ⟨x, _, rfl⟩ := List.mem_map.mp (show x ∈ (p :: ps).map (fun p => (pD p).py) from hx)
          obtain ⟨y, _, rfl⟩ := List.mem_map.mp (show y ∈ (p :: ps).map (fun p => (pD p).py) from hy)
          exact alike_pD
        · obtain ⟨x, _, rfl⟩ := List.mem_map.mp (show x ∈ (p :: ps).map (fun p => (pD p).py) from hx)
          rw [py_pD]
          exact fun z => by cases z
        · rw [min_pD] at e2
          have e3 : ((p :: ps).map fun p => (pD p).py)[i]? = some (pD (minP p ps)).py := e2
          rw [List.getElem?_map] at e3
          obtain ⟨w, e4, e5⟩ := Option.map_eq_some_iff.mp e3
          have e6 := pD_inj e5
          subst e6
          obtain ⟨v', e7, r7⟩ := h2.at (i := i) (d := pD (minP p ps)) (by rw [List.getElem?_map, e4]; rfl)
          rw [e1] at e7
          cases e7
          exact q _ H g (fun _ => False) k ⟨r7, fun _ z => z⟩ (Stp.refl fun _ z => z)
      · cases h
  · cases h
theorem v_minPI {ds : List Dt} {ns : List Int} (h : intsOf ds = some ns) (h0 : ns ≠ []) : kMinP [.lst ds] = some (.f (.int (lst' ns))) := by
  unfold kMinP
  simp only [h, if_pos h0]
theorem ints_pD {p : Int × Int} {ps : List (Int × Int)} : intsOf ((p :: ps).map pD) = none := rfl
theorem v_minPP {p : Int × Int} {ps : List (Int × Int)} : kMinP [.lst ((p :: ps).map pD)] = some (.f (pD (minP p ps))) := by
  unfold kMinP
  simp only [ints_pD, pairsOf_map]
theorem minP_mem : ∀ {xs : List (Int × Int)} {x : Int × Int}, minP x xs = x ∨ minP x xs ∈ xs
  | [], x => .inl rfl
  | y :: xs, x => by
    have e2 : minP x (y :: xs) = minP (if ltP y x = true then y else x) xs := rfl
    rw [e2]
    split
    · rcases minP_mem (xs := xs) (x := y) with h | h
      · exact .inr (by rw [h]; exact List.mem_cons_self)
      · exact .inr (List.mem_cons_of_mem _ h)
    · rcases minP_mem (xs := xs) (x := x) with h | h
      · exact .inl h
      · exact .inr (List.mem_cons_of_mem _ h)
end OW
/-! x is True, x is False of a bool -/
namespace OW
open PySem PySem.Spec PyProof.Rows L2
open DL (Dt Rp RpAll SqX)
section
variable {X : Cx} {W : WX} {pos : Pos} {a : Expr} {fa : Fn Ow} {b : Expr} {fb : Fn Ow}
theorem same_bl {M : Model} {A : Around} {E : Value → Shared → Prop} {s : Shared} {x y : Bool} {Q : Value → Shared → Prop} (h : Q (.bool (decide (x = y))) s) : wpAny M A (compareOp .Is (.bool x) (.bool y)) Q E s := by
  unfold compareOp isSame
  cases x <;> cases y <;> exact wpAny_bind (wpAny_pure (wpAny_pure h))
theorem op_isB : OpR X (compareOp .Is) (fun x y H Q => ∃ i j, x = .bl i ∧ y = .bl j ∧ Q (.bl (decide (i = j))) H) := by
  intro pins s σ H x y v u Q I rx ry h
  obtain ⟨i, j, rfl, rfl, q⟩ := h
  cases rx
  cases ry
  exact same_bl ⟨.bl _, H, I, rfl, q⟩
def cIsB : Ow → Ow → Option Ow := oB2 fun d e => match d, e with
  | .bl i, .bl j => some (.f (.bl (decide (i = j))))
  | _, _ => none
theorem dc_isB (ha : DE X W a fa) (hb : DE X W b fb) : DC X W (.Compare a [.Is] [b] pos) (xBin cIsB fa fb) := dc_cmp (fun x y z h => oB2_ro (fun d e z h => by
  split at h
  · cases h
    refine ⟨_, op_isB, fun v u H g Q k rv ru q => ?_⟩
    cases rv
    cases ru
    exact ⟨_, _, rfl, rfl, q _ H g (fun _ => False) k ⟨.bl _, fun _ z => z⟩ (Stp.refl fun _ z => z)⟩
  · cases h) h) ⟨_, op_isB⟩ (nomark _) ha hb
theorem v_isB {i j : Bool} : cIsB (.f (.bl i)) (.f (.bl j)) = some (.f (.bl (decide (i = j)))) := rfl
end
end OW
/-! None reckoned at once; borrowed tests; for y in x: y.append(c) of a list of lists of one's own -/
namespace OW
open PySem PySem.Spec PyProof.Rows L2
open DL (Dt Rp RpAll SqX)
section
variable {X : Cx} {W : WX} {Z : List (Nat × V)} {pos : Pos}
theorem dq_non {j : Nat} : DQ X (.Constant .none j pos) (qK .non) := fun ρ d h => by cases h; exact ⟨_, pe_non, fun σ H g F Q G k => k _ .non⟩
def kTb (ρ : Ev) (r : Option (Rs Bool)) : Option (Rs Bool) := match r with
  | some (.ok b _) => some (.ok b ρ)
  | _ => none
theorem e_tBor {f : Fn Bool} {ρ : Ev} : tBor f ρ = kTb ρ (f (ρ.map frzS)) := rfl
theorem kTb_o {b : Bool} {ρ ρ1 : Ev} : kTb ρ (some (.ok b ρ1)) = some (.ok b ρ) := rfl
theorem v_frzS_f {d : Dt} : frzS (.f d) = .f d := rfl
theorem v_frzS_no : frzS .no = .no := rfl
theorem v_frzS_n {k : Kd} {os : List Ow} {d : Dt} (h : frz (.n k os) = some d) : frzS (.n k os) = .f d := by unfold frzS; rw [h]
theorem e_appP {n : Nat} {c : Int} {j : Nat} {ρ : Ev} {x y : Ow} {os is : List Ow} {d : Dt} (h1 : ρ[n]? = some x) (h1' : gLs x = some os) (h2 : L2.ixN os.length c = some j) (h3 : os[j]? = some y) (h3' : gLs y = some is) (h4 : is.length < LIM) :
    sAppP (pI (pV n) (qK (.int c))) (qK d) ρ = some (.nx (ρ.set n (.n .lst (os.set j (.n .lst (is ++ [.f d])))))) := by
  cases gLs_eq h1'
  cases gLs_eq h3'
  have p0 : pV n ρ = some (n, []) := e_pV h1 rfl
  have b : pI (pV n) (qK (.int c)) ρ = some (n, [j]) := by
    unfold pI qK
    simp only [p0, e_getE0 h1, h2, h3, List.nil_append]
  have g : getE ρ n [j] = some (.n .lst is) := by
    unfold getE
    rw [h1]
    show subO (.n .lst os) [j] = _
    unfold subO
    rw [h3]
    rfl
  have e : ∀ z, setE ρ n [j] z = ρ.set n (.n .lst (os.set j z)) := by
    intro z
    unfold setE
    rw [h1]
    show ρ.set n (setP (.n .lst os) [j] z) = _
    unfold setP
    rw [h3]
    rfl
  unfold sAppP
  rw [b]
  show (match getE ρ n [j] with | some (.n .lst os) => _ | _ => none) = _
  rw [g]
  show (if _ then _ else _) = _
  rw [if_pos h4, e]
/-- x[c].clear() -/
theorem e_clrP {n : Nat} {c : Int} {j : Nat} {ρ : Ev} {x y : Ow} {os is : List Ow} (h1 : ρ[n]? = some x) (h1' : gLs x = some os) (h2 : L2.ixN os.length c = some j) (h3 : os[j]? = some y) (h3' : gLs y = some is) :
    sClr (pI (pV n) (qK (.int c))) ρ = some (.nx (ρ.set n (.n .lst (os.set j (.n .lst []))))) := by
  cases gLs_eq h1'
  cases gLs_eq h3'
  have p0 : pV n ρ = some (n, []) := e_pV h1 rfl
  have b : pI (pV n) (qK (.int c)) ρ = some (n, [j]) := by
    unfold pI qK
    simp only [p0, e_getE0 h1, h2, h3, List.nil_append]
  have g : getE ρ n [j] = some (.n .lst is) := by
    unfold getE
    rw [h1]
    show subO (.n .lst os) [j] = _
    unfold subO
    rw [h3]
    rfl
  have e : ∀ z, setE ρ n [j] z = ρ.set n (.n .lst (os.set j z)) := by
    intro z
    unfold setE
    rw [h1]
    show ρ.set n (setP (.n .lst os) [j] z) = _
    unfold setP
    rw [h3]
    rfl
  unfold sClr
  rw [b]
  show (match getE ρ n [j] with | some (.n .lst os) => _ | _ => none) = _
  rw [g]
  show some (So.nx (setE ρ n [j] _)) = _
  rw [e]
def appEach (d : Dt) : List Ow → Option (List Ow)
  | [] => some []
  | .n .lst is :: os => if is.length < LIM then (appEach d os).map fun r => .n .lst (is ++ [.f d]) :: r else none
  | _ => none
theorem appEach_at {d : Dt} : ∀ {os os' : List Ow}, appEach d os = some os' → os'.length = os.length ∧ ∀ (n : Nat) (o : Ow), os[n]? = some o → ∃ is : List Ow, o = .n .lst is ∧ is.length < LIM ∧ os'[n]? = some (.n .lst (is ++ [.f d]))
  | [], os', h => by cases h; exact ⟨rfl, fun n o z => by rw [List.getElem?_nil] at z; cases z⟩
  | .n .lst is :: os, os', h => by
    unfold appEach at h
    split at h
    · rename_i hl
      obtain ⟨r, h1, rfl⟩ := Option.map_eq_some_iff.mp h
      obtain ⟨a, b⟩ := appEach_at h1
      refine ⟨by rw [List.length_cons, List.length_cons, a], fun n o z => ?_⟩
      cases n with
      | zero => cases z; exact ⟨is, rfl, hl, rfl⟩
      | succ n => exact b n o z
    · cases h
  | .no :: os, os', h => by cases h
  | .f x :: os, os', h => by cases h
  | .n (.ob _ _) _ :: os, os', h => by cases h
  | .n (.dk _) _ :: os, os', h => by cases h
  | .n .tp _ :: os, os', h => by cases h
  | .n (.dt _) _ :: os, os', h => by cases h
/-- what is known of a slot is left aside -/
theorem Good.drop {g : Gs} {H : Hp} {σ : L2.St} {ρ : Ev} {F : Fp} {j : Nat} (G : Good X g H σ ρ F) (hj : j < ρ.length) : ∃ F', Good X g H σ (ρ.set j .no) F' ∧ ∀ p, F' p → F p := by
  obtain ⟨v0, F1, F2, e1, e2, e3, e4, e5⟩ := G.sr.at (List.getElem?_eq_getElem hj)
  have z := e5 g .no v0 (fun _ => False) Kp.refl (.inl ⟨rfl, fun _ z => z⟩) fun p z _ => z
  rw [set_self e1] at z
  exact ⟨_, ⟨G.ok, z⟩, fun p z => z.elim False.elim fun z => (e4 p).mpr (.inr z)⟩
/-- a slot of which nothing is known takes any value -/
theorem Good.any {g : Gs} {H : Hp} {σ : L2.St} {ρ : Ev} {F : Fp} {j : Nat} (G : Good X g H σ ρ F) (hj : ρ[j]? = some .no) (v : Option V) : ∃ F', Good X g H (σ.set j v) ρ F' ∧ ∀ p, F' p → F p := by
  obtain ⟨v0, F1, F2, e1, e2, e3, e4, e5⟩ := G.sr.at hj
  have z := e5 g .no v (fun _ => False) Kp.refl (.inl ⟨rfl, fun _ z => z⟩) fun p z _ => z
  rw [set_self hj] at z
  exact ⟨_, ⟨G.ok, z⟩, fun p z => z.elim False.elim fun z => (e4 p).mpr (.inr z)⟩
theorem setE_set {ρ : Ev} {i j : Nat} {π : List Nat} {x y : Ow} (h : i ≠ j) : (setE ρ i π x).set j y = setE (ρ.set j y) i π x := by
  unfold setE
  rw [List.getElem?_set_ne (fun e => h e.symm)]
  cases ρ[i]? with
  | none => rfl
  | some o => exact List.set_comm _ _ h
/-- an expression that tells the same at any place -/
def DKs (X : Cx) (c : Expr) (d : Dt) : Prop := ∃ t, PE X c t ∧ ∃ v, (∀ S, Rp X.K S v d) ∧ ∀ σ H (Q : VK), Q v H → t σ H Q
theorem dks_non {j : Nat} : DKs X (.Constant .none j pos) .non := ⟨_, pe_non, .non, fun _ => .non, fun _ _ _ q => q⟩
theorem dks_int {i : Int} {j : Nat} : DKs X (.Constant (.int i) j pos) (.int i) := ⟨_, pe_int, .int i, fun _ => .int i, fun _ _ _ q => q⟩
/-- for y in x[..]: y.append(c) -/
def sForApp (fp : Ev → Option (Nat × List Nat)) (j : Nat) (d : Dt) : SF := fun ρ => match fp ρ with
  | some (i, π) => match getE ρ i π with
    | some (.n .lst os) => match appEach d os with
      | some os' => if i ≠ j ∧ j < ρ.length then some (.nx (setE (ρ.set j .no) i π (.n .lst os'))) else none
      | none => none
    | _ => none
  | none => none
theorem ds_forApp (j : Nat) {d : Dt} {y : Str} {py p2 apos cpos epos : Pos} {c o : Expr} {fp : Ev → Option (Nat × List Nat)} (hc : X.calm = true) (nd : X.N.Nodup) (ho : DP X o fp) (he : DKs X c d) (hp : PassesOwn (model X.prog X.w) X.A X.env X.xe) (hz : j ∉ Z.map (·.1) := by decide)
    (hy : X.N[j]? = some y := by rfl) (hvy : Vis X.env.scope y := by first | exact Or.inl rfl | exact Or.inr (Or.inl rfl) | exact Or.inr (Or.inr rfl)) (hly : Loc X.env.scope y := by first | exact Or.inl rfl | exact Or.inr rfl)
    (hfy : X.fn y = true ∨ X.env.scope.names.lookup y = some .local := by first | exact .inl rfl | exact .inr rfl)
    (hdy : (y == ("__debug__" : Str)) = false := by decide) (hcy : (y == ("__classdict__" : Str)) = false := by decide)
    (hbase : attributeBase (.Name y p2) "append" X.env (eval (.Name y p2) X.env) = eval (.Name y p2) X.env := by rfl)
    (hfew : ((backTo cpos (starEach [c] X.env)).all (fun x => !x.1) && (backToKw cpos (keywordEach [] X.env)).all (fun x => x.1.isSome) && decide (([c] : List Expr).length + ([] : List Keyword).length + (if ([] : List Keyword).isEmpty then 0 else 1) < 30)) = true := by rfl)
    (hline : (apos.endLine == cpos.line) = true := by rfl) (hs : starEach [c] X.env = (false, eval c X.env) :: starEach [] X.env := by rfl) (hplain : (backTo cpos (starEach [] X.env)).any (·.1) = false := by rfl)
    (hsw : swapsWith (.Call (.Attribute (.Name y p2) "append" apos) [c] [] cpos) none epos.line X.env = pure false := by rfl)
    (hf : ∀ z, foldedSetIterable o X.env z = pure z := by intro _; rfl) : DS X W Z (.For (.Name y py) o [.Expr (.Call (.Attribute (.Name y p2) "append" apos) [c] [] cpos) epos] [] pos) (sForApp fp j d) := fun ρ r h => by
  unfold sForApp at h
  split at h
  · rename_i i π e1
    split at h
    · rename_i os e3
      split at h
      · rename_i os' ea
        split at h
        · rename_i hj
          obtain ⟨hij, hj⟩ := hj
          cases h
          obtain ⟨al, at_⟩ := appEach_at ea
          obtain ⟨tc, pc, w, rw_, qc⟩ := he
          obtain ⟨ta, pa, qa⟩ := ho ρ _ _ e1
          refine ⟨_, ps_for hp hc (pi_list pa) (pg_name (i := j) nd hy hly hfy) (pss_cons (ps_expr (pe_bm PySem.F.plainAttrs_list PySem.F.slot_list_append PySem.F.type_list_append mt_append (pe_var hy hvy hdy hcy) (pa_cons pc pa_nil hs) hbase hfew hline hs hplain) hsw) pss_nil) hf, fun σ H g F D G z k => qa σ H g F _ G fun v R sv => ?_⟩
          obtain ⟨o1, F1, F2, a1, a2, a3, a4, a5⟩ := R.it
          rw [e3] at a1
          cases a1
          obtain ⟨l, vs, F0, Fc, rfl, ⟨b2, b2'⟩, b3, b4, b5⟩ := a2
          have l0 : F0 l := (b2' l).mpr rfl
          have nl : ¬ Fc l := fun y => b4 l l0 y
          have hH := G.ok.m _ _ b2
          have sl : σ.length = ρ.length := G.sr.len
          refine ⟨l, rfl, ⟨vs, (SqX.of hH).l⟩, fun n m σ' H' => m = os.length - n ∧ n ≤ os.length ∧ (∃ u, σ' = σ.set j u) ∧ ∃ (g' : Gs) (Fk : Fp), GsOk g' H' ∧ Same g.S g'.S ∧ (∀ p o, g.M p = some o → ¬ Fc p → g'.M p = some o) ∧ OwRs X.mg X.K g' (os'.take n ++ os.drop n) vs Fk ∧ ∀ p, Fk p → Fc p, ⟨os.length, by simp, Nat.zero_le _, ⟨σ[j]'(by omega), (set_self (List.getElem?_eq_getElem (by omega))).symm⟩, g, Fc, G.ok, fun _ _ e => e, fun _ _ e _ => e, by rw [List.take_zero, List.nil_append, List.drop_zero]; exact b3, fun _ y => y⟩, ?_⟩
          rintro n m σ' H' ⟨rfl, hn, ⟨u, rfl⟩, g', Fk, ok, st, mu, ow, sub⟩
          have hM := mu l _ b2 nl
          have hH' := ok.m _ _ hM
          have cl : (os'.take n ++ os.drop n).length = os.length := by rw [List.length_append, List.length_take, List.length_drop]; omega
          by_cases hlt : n < os.length
          · have eo : os[n]? = some os[n] := List.getElem?_eq_getElem hlt
            obtain ⟨is, eis, hL, eo'⟩ := at_ n _ eo
            have en : (os'.take n ++ os.drop n)[n]? = some (.n .lst is) := by
              rw [List.getElem?_append_right (by rw [List.length_take]; omega), List.length_take, Nat.min_eq_left (by omega), Nat.sub_self, List.getElem?_drop, Nat.add_zero, eo, eis]
            obtain ⟨vn, K1, K2, c1, c2, c3, c4, c5⟩ := ow.at en
            obtain ⟨a, ws, A0, A1, rfl, ⟨d2, d2'⟩, d3, d4, d5⟩ := c2
            have ha := ok.m _ _ d2
            have a0 : A0 a := (d2' a).mpr rfl
            have k1 : K1 a := (d5 a).mpr (.inl a0)
            have na1 : ¬ A1 a := fun y => d4 a a0 y
            have nk2 : ¬ K2 a := fun y => c3 a k1 y
            refine .inr ⟨⟨vs, _, (SqX.of hH').l, c1⟩, fun σ2 H2 => (∃ u, σ2 = σ.set j u) ∧ ∃ (g' : Gs) (Fk : Fp), GsOk g' H2 ∧ Same g.S g'.S ∧ (∀ p o, g.M p = some o → ¬ Fc p → g'.M p = some o) ∧ OwRs X.mg X.K g' (os'.take (n + 1) ++ os.drop (n + 1)) vs Fk ∧ ∀ p, Fk p → Fc p, fun σ2 H2 zz => ⟨os.length - (n + 1), by omega, rfl, hlt, zz⟩, fun x H3 ⟨y1, y2⟩ => ?_⟩
            subst y1
            have ex := y2 vs (SqX.of hH').l
            rw [c1] at ex
            cases ex
            have sj : ((σ.set j u).set j (some (V.ref a)))[j]? = some (some (V.ref a)) := List.getElem?_set_self (by rw [List.length_set]; omega)
            refine ⟨_, sj, .inl ⟨rfl, ws, (SqX.of ha).l⟩, qc _ _ _ ?_⟩
            refine ⟨a, ws, w, rfl, rfl, ha, by rw [d3.len]; exact Nat.lt_of_lt_of_le hL (by decide), ?_⟩
            have el : (os'.take n ++ os.drop n).set n (.n .lst (is ++ [.f d])) = os'.take (n + 1) ++ os.drop (n + 1) := by
              have ln : (os'.take n).length = n := by rw [List.length_take]; omega
              rw [List.set_append_right _ _ (by omega), ln, Nat.sub_self, List.drop_eq_getElem_cons hlt, List.set_cons_zero, List.take_succ, eo']
              simp
            have rw2 : OwR X.mg X.K g' (.f d) w fun _ => False := ⟨rw_ _, fun _ z => z⟩
            have on := c5 (g'.hold a (.lst (ws ++ [w]))) (.n .lst (is ++ [.f d])) (.ref a) (fun p => A0 p ∨ (A1 p ∨ False)) (hold_kp nk2) ⟨a, ws ++ [w], A0, fun p => A1 p ∨ False, rfl, ⟨upd_same, d2'⟩, OwRs.kp _ (hold_kp fun y => y.elim na1 id) (OwRs.app d3 (OwRs.one rw2) fun p y z => z), fun p y z => z.elim (d4 p y) id, fun p => Iff.rfl⟩ fun p y z => by
              rcases y with y | y | y
              · exact c3 p ((d5 p).mpr (.inl y)) z
              · exact c3 p ((d5 p).mpr (.inr y)) z
              · exact y
            rw [set_self c1, el] at on
            refine ⟨⟨_, List.set_set ..⟩, _, _, put_ok ok d2, st, fun p o e y => ?_, on, fun p y => ?_⟩
            · have ne : p ≠ a := fun e2 => y (sub p ((c4 p).mpr (.inl (by rw [e2]; exact k1))))
              show upd g'.M a _ p = _
              rw [upd_ne ne]
              exact mu p o e y
            · rcases y with (y | y | y) | y
              · exact sub p ((c4 p).mpr (.inl ((d5 p).mpr (.inl y))))
              · exact sub p ((c4 p).mpr (.inl ((d5 p).mpr (.inr y))))
              · exact y.elim
              · exact sub p ((c4 p).mpr (.inr y))
          · have e : n = os.length := by omega
            subst e
            refine .inl ⟨⟨vs, (SqX.of hH').l, by rw [ow.len, cl]; exact Nat.le_refl _⟩, ?_⟩
            rw [← al, List.take_length, List.drop_of_length_le (by omega), List.append_nil] at ow
            have kp2 : Kp g g' F2 := ⟨st, fun p o y e => mu p o e fun y2 => a3 p ((b5 p).mpr (.inr y2)) y⟩
            have sr := a5 g' (.n .lst os') (fun p => F0 p ∨ Fk p) kp2 ⟨l, vs, F0, Fk, rfl, ⟨hM, b2'⟩, ow, fun p y y2 => b4 p y (sub p y2), fun p => Iff.rfl⟩ fun p y y2 => by
              rcases y with y | y
              · exact a3 p ((b5 p).mpr (.inl y)) y2
              · exact a3 p ((b5 p).mpr (.inr (sub p y))) y2
            have G1 : Good X g' H' σ (setE ρ i π (.n .lst os')) _ := ⟨ok, sr⟩
            have hlen : (setE ρ i π (.n .lst os')).length = ρ.length := by
              unfold setE
              split
              · rw [List.length_set]
              · rfl
            obtain ⟨F3, G3, w3⟩ := Good.drop (j := j) G1 (by omega)
            obtain ⟨F4, G4, w4⟩ := Good.any (j := j) G3 (List.getElem?_set_self (by omega)) u
            rw [setE_set hij] at G4
            refine k _ H' g' F4 G4 (z.set hz) ⟨st, fun p o e y => mu p o e fun y2 => y ((a4 p).mpr (.inl ((b5 p).mpr (.inr y2)))), fun p y => .inl ?_⟩
            rcases w3 p (w4 p y) with (y | y) | y
            · exact (a4 p).mpr (.inl ((b5 p).mpr (.inl y)))
            · exact (a4 p).mpr (.inl ((b5 p).mpr (.inr (sub p y))))
            · exact (a4 p).mpr (.inr y)
        · cases h
      · cases h
    · cases h
  · cases h
variable {ρ : Ev}
theorem v_appEach0 {d : Dt} : appEach d [] = some [] := rfl
theorem v_appEach1 {d : Dt} {is os : List Ow} : appEach d (.n .lst is :: os) = if is.length < LIM then (appEach d os).map fun r => .n .lst (is ++ [.f d]) :: r else none := rfl
theorem v_appEachM {α : Type} {d : Dt} {f : α → List Ow} : ∀ {l : List α}, (∀ a ∈ l, (f a).length < LIM) → appEach d (l.map fun a => .n .lst (f a)) = some (l.map fun a => .n .lst (f a ++ [.f d]))
  | [], _ => rfl
  | a :: l, h => by
    rw [List.map_cons, v_appEach1, if_pos (h a List.mem_cons_self), v_appEachM fun x hx => h x (List.mem_cons_of_mem _ hx)]
    rfl
theorem e_forApp0 {n j : Nat} {d : Dt} {x : Ow} {os os' : List Ow} (h1 : ρ[n]? = some x) (h1' : gLs x = some os) (h2 : appEach d os = some os') (h3 : n ≠ j) (h4 : j < ρ.length) : sForApp (pV n) j d ρ = some (.nx ((ρ.set j .no).set n (.n .lst os'))) := by
  cases gLs_eq h1'
  have p0 : pV n ρ = some (n, []) := e_pV h1 rfl
  unfold sForApp
  rw [p0]
  show (match getE ρ n [] with | some (.n .lst os) => _ | _ => none) = _
  rw [e_getE0 h1]
  show (match appEach d os with | some os' => _ | none => none) = _
  rw [h2]
  show (if _ then _ else _) = _
  rw [if_pos ⟨h3, h4⟩, e_setE0 (o := .n .lst os) (by rw [List.getElem?_set_ne (fun e => h3 e.symm)]; exact h1)]
theorem e_forApp1 {n j k : Nat} {c : Int} {d : Dt} {x y : Ow} {os is is' : List Ow} (h1 : ρ[n]? = some x) (h1' : gLs x = some os) (h2 : L2.ixN os.length c = some k) (h5 : os[k]? = some y) (h5' : gLs y = some is) (h6 : appEach d is = some is') (h3 : n ≠ j) (h4 : j < ρ.length) :
    sForApp (pI (pV n) (qK (.int c))) j d ρ = some (.nx ((ρ.set j .no).set n (.n .lst (os.set k (.n .lst is'))))) := by
  cases gLs_eq h1'
  cases gLs_eq h5'
  have p0 : pV n ρ = some (n, []) := e_pV h1 rfl
  have b : pI (pV n) (qK (.int c)) ρ = some (n, [k]) := by
    unfold pI qK
    simp only [p0, e_getE0 h1, h2, h5, List.nil_append]
  have g : getE ρ n [k] = some (.n .lst is) := by
    unfold getE
    rw [h1]
    show subO (.n .lst os) [k] = _
    unfold subO
    rw [h5]
    rfl
  unfold sForApp
  rw [b]
  show (match getE ρ n [k] with | some (.n .lst os) => _ | _ => none) = _
  rw [g]
  show (match appEach d is with | some os' => _ | none => none) = _
  rw [h6]
  show (if _ then _ else _) = _
  rw [if_pos ⟨h3, h4⟩]
  unfold setE
  rw [List.getElem?_set_ne (fun e => h3 e.symm), h1]
  show some (So.nx ((ρ.set j .no).set n (setP (.n .lst os) [k] _))) = _
  have e2 : setP (.n .lst os) [k] (.n .lst is') = .n .lst (os.set k (.n .lst is')) := by
    conv => lhs; unfold setP
    rw [h5]
    rfl
  rw [e2]
end
end OW
/-! for i, x in enumerate(xs, k) -/
namespace OW
open PySem PySem.Spec PyProof.Rows L2
open DL (Dt Rp RpAll SqX)
/-- the items of a list with their numbers from k0 on, each turn a pair of its own -/
def IteK (K : PySem.W.Frag) (a : Addr) (k0 : Int) : It where
  go := fun n Hh => ∃ (vs : List V) (v : V), SqL K Hh a vs ∧ vs[n]? = some v
  yld := fun n Hh r Hn => ∃ q v, r = .ref q ∧ Hh q = none ∧ Hn = upd Hh q (.tup [.int (k0 + (n : Int)), v]) ∧ ∀ vs, SqL K Hh a vs → vs[n]? = some v
  stop := fun n Hh => ∃ vs : List V, SqL K Hh a vs ∧ vs.length = n
theorem turn_enumK {P : Program} {w : World} {K : PySem.W.Frag} {es : List Expr} {k1 : Nat} {tp : Pos} (k0 : Int) (a en it : Addr) :
    Turn P w K (.Tuple es k1 tp) (IteK K a k0) [en, it] en (fun n h => (∃ was, IsEnum h en it (k0 + (n : Int)) was) ∧ h.IsListIter it a n ∧ en ≠ it ∧ a ≠ it ∧ a ≠ en) := by
  refine { mem := by simp, obj := ?o, keep := ?k, item := ?i, done := ?d, self := ?s }
  case o =>
    intro n h st b hb
    obtain ⟨⟨was, h1⟩, ⟨o, h2, h3, h4⟩, _⟩ := st
    rcases List.mem_cons.mp hb with rfl | hb
    · exact ⟨_, h1, fun v q => nomatch q⟩
    · rw [List.mem_singleton.mp hb]
      exact ⟨o, h2, fun v q => by rw [h4] at q; cases q⟩
  case k =>
    intro n h h' st kk
    obtain ⟨⟨was, h1⟩, h2, h3⟩ := st
    exact ⟨⟨was, kk en List.mem_cons_self _ h1⟩, h2.at fun o q => kk it (by simp) o q, h3⟩
  case i =>
    intro X hP hw hK hc n pins s σ H E I hf st hg
    subst hP hw hK
    obtain ⟨⟨was, h1⟩, h2, h3, h4, h5⟩ := st
    obtain ⟨vs, v, sq, hv⟩ := hg
    obtain ⟨its, rv, pl, hz⟩ := I.list sq
    obtain ⟨u, hu, ru⟩ := rv.get hv
    have l1 : en < s.heap.objs.size := Heap.lt_size h1
    have l2 : it < s.heap.objs.size := by
      obtain ⟨_, q, _⟩ := h2
      exact Heap.lt_size q
    have both : ∀ b, b ∈ [en, it] → b = en ∨ b = it := fun b hb => by simpa using hb
    have D := Draws.list (prog := X.prog) (w := X.w) (A := X.A.in1) (by rw [I.ok.hd hc]) it a h4 its.toArray
    refine wpAny_pyNext_enum_itemC (i := n) D h1 ⟨h2, pl.isList⟩ (Array.getElem?_eq_some_iff.mp (show its.toArray[n]? = some u by simpa using hu)).1 h3 (by simp [h3, Ne.symm h5]) fun x hA tk hP hm hi hT hs hk => ?_
    have eu : u = x := by
      have hP' : its[n]? = some x := by simpa using hP
      rw [hu] at hP'
      exact Option.some.inj hP'
    subst eu
    refine ⟨_, rfl, wpAny_letOwnedTupleGo_enum (s := { s with heap := hA, toks := tk + 1 }) hm fun hB hB1 sb => ?_⟩
    have t2 := (sb.2 _ (Nat.ne_of_gt l1)).trans hT
    have ok : ObjOk X.prog X.w (upd H s.heap.objs.size (.tup [.int (k0 + (n : Int)), v])) hB s.heap.objs.size (.tup [.int (k0 + (n : Int)), v]) := by
      refine ⟨?_, [.int (k0 + (n : Int)) tk, u], .cons ⟨_, rfl⟩ (.cons ru .nil), ⟨_, t2, rfl, _, rfl⟩⟩
      show 2 ≤ sizeLine
      decide
    have I1 : Inv X pins σ (upd H s.heap.objs.size (.tup [.int (k0 + (n : Int)), v])) { s with heap := hB, toks := tk + 1 } := by
      refine I.turnedNew (ch := [en, it]) (fun b ob hb q => ?_) hf (Nat.le_refl _) ok
      have n1 : ¬ b = en := fun z => hb (by simp [z])
      have n2 : ¬ b = it := fun z => hb (by simp [z])
      exact (sb.2 b n1).trans (hk b ob n1 n2 q)
    refine ⟨.ref s.heap.objs.size, _, I1, rfl, ⟨_, v, rfl, I.hok.fresh (Nat.le_refl _), rfl, fun ys hy => ?_⟩, ⟨⟨u, ?_⟩, ?_, h3, h4, h5⟩, fun b hb => ?_⟩
    · rw [I.list_inj hy sq]
      exact hv
    · rw [show k0 + ((n + 1 : Nat) : Int) = k0 + (n : Int) + 1 by omega]
      exact hB1
    · exact hi.1.at fun o q => (sb.2 it (Ne.symm h3)).trans q
    · have lb : b < s.heap.objs.size := by
        rcases both b hb with rfl | rfl
        · exact l1
        · exact l2
      rw [upd_ne (Nat.ne_of_lt lb)]
      exact (hf b hb).1
  case d =>
    intro X hP hw hK hc n pins s σ H E I hf st hg
    subst hP hw hK
    obtain ⟨⟨was, h1⟩, h2, h3, h4, h5⟩ := st
    obtain ⟨vs, sq, hl⟩ := hg
    obtain ⟨its, rv, pl, hz⟩ := I.list sq
    obtain ⟨f0, f1, f2, f3, f4, f5⟩ := hf it (by simp)
    have ln := rv.length
    have D := Draws.list (prog := X.prog) (w := X.w) (A := X.A.in1) (by rw [I.ok.hd hc]) it a h4 its.toArray
    have hn : n = its.toArray.size := by simp; omega
    exact wpAny_pyNext_enum_endD D h1 ⟨hn ▸ h2, pl.isList⟩ fun hA eb => ⟨rfl, I.turned (t' := s.toks) (fun b o hb q => eb b o hb q) f0 f1 f3 f4 f5⟩
  case s =>
    intro A n s Q E st h
    obtain ⟨⟨_, h1⟩, _⟩ := st
    exact wpAny_pyIter_enum h1 h
def iEnumK (K : PySem.W.Frag) (k0 : Int) (ta : TA) : TI := fun σ H R => ta σ H fun us Hn => ∃ a vs, us = [.ref a, .int k0] ∧ SqL K Hn a vs ∧ R (IteK K a k0) Hn
theorem pi_enumK {X : Cx} {e c : Expr} {ta : TA} {p pos tp : Pos} {es : List Expr} {k1 : Nat} {k0 : Int} (hg : Gl X "enumerate") (hm : X.mg "enumerate" = none) (ha : PA X [e, c] ta) (hb : -(2 ^ 63) ≤ k0 ∧ k0 < 2 ^ 63)
    (hs : starEach [e, c] X.env = (false, eval e X.env) :: starEach [c] X.env := by rfl) (hpl : (backTo pos (starEach [c] X.env)).any (·.1) = false := by rfl) : PI X (.Tuple es k1 tp) (.Call (.Name "enumerate" p) [e, c] [] pos) (iEnumK X.K k0 ta) := by
  constructor
  intro pins s σ H R I h
  refine Call_ (ld_blt I hg hm boot_enumerate (PyProof.Rows.callWith_type1 (thn (ha.run pos pins s σ H _ I h) fun us s1 ⟨ws, H1, I1, r1, q1⟩ => ?_) hs hpl))
  obtain ⟨a, vs, rfl, sq, q⟩ := q1
  cases r1 with
  | cons r rr =>
    cases rr with
    | cons r2 rr =>
      cases rr
      cases r
      obtain ⟨t, rfl⟩ := r2
      obtain ⟨its, rv, pl, hz⟩ := I1.list sq
      refine enum_begins (begins_list a its.toArray) pl.isList hb.1 hb.2 fun hA he hi hsz hk => wpAny_pyIter_enum he ?_
      have I2 : Inv X pins σ H1 { s1 with heap := hA } := I1.kept (t' := s1.toks) hk
      have he0 : IsEnum hA (s1.heap.objs.size + 1) s1.heap.objs.size (k0 + ((0 : Nat) : Int)) .none := by rw [show k0 + ((0 : Nat) : Int) = k0 by omega]; exact he
      refine ⟨s1.heap.objs.size + 1, [s1.heap.objs.size + 1, s1.heap.objs.size], _, _, H1, rfl, I2, turn_enumK k0 a (s1.heap.objs.size + 1) s1.heap.objs.size, ⟨⟨.none, he0⟩, ⟨_, hi, rfl, rfl⟩, Nat.succ_ne_self _, Nat.ne_of_lt pl.lt, Nat.ne_of_lt (Nat.lt_succ_of_lt pl.lt)⟩, fun b hb => ?_, q⟩
      have lb : s1.heap.objs.size ≤ b := by
        rcases List.mem_cons.mp hb with rfl | hb
        · exact Nat.le_add_right _ _
        · rw [List.mem_singleton.mp hb]
          exact Nat.le_refl _
      exact I1.fpOk lb (I1.hok.fresh lb)
def enumK (k0 : Int) (ds : List Dt) : List Dt := ds.mapIdx fun i d => .tup [.int (k0 + (i : Int)), d]
theorem enumK_length {k0 : Int} {ds : List Dt} : (enumK k0 ds).length = ds.length := by unfold enumK; rw [List.length_mapIdx]
theorem enumK_get {k0 : Int} {ds : List Dt} {j : Nat} {d : Dt} (h : (enumK k0 ds)[j]? = some d) : ∃ y, ds[j]? = some y ∧ d = .tup [.int (k0 + (j : Int)), y] := by
  unfold enumK at h
  rw [List.getElem?_mapIdx] at h
  obtain ⟨y, h1, h2⟩ := Option.map_eq_some_iff.mp h
  exact ⟨y, h1, h2.symm⟩
def iEK (k0 : Int) (f : Fn Ow) : Fn (List Dt) := bnd f fun o => opt (match frz o with
  | some (.lst ds) => some (enumK k0 ds)
  | _ => none)
section
variable {X : Cx} {W : WX} {e : Expr} {fe : Fn Ow} {pos p p3 : Pos}
theorem di_eK {elts : List Expr} {kk j : Nat} {tpos : Pos} {k0 : Int} (hm : X.mg "enumerate" = none) (h : DE X W e fe) (hb : -(2 ^ 63) ≤ k0 ∧ k0 < 2 ^ 63 := by decide) (hg : Gl X "enumerate" := by rfl)
    (hs : starEach [e, .Constant (.int k0) j p3] X.env = (false, eval e X.env) :: starEach [.Constant (.int k0) j p3] X.env := by rfl) (hs2 : starEach [.Constant (.int k0) j p3] X.env = (false, eval (.Constant (.int k0) j p3) X.env) :: starEach [] X.env := by rfl)
    (hpl : (backTo pos (starEach [.Constant (.int k0) j p3] X.env)).any (·.1) = false := by rfl) : DI X W (.Tuple elts kk tpos) (.Call (.Name "enumerate" p) [e, .Constant (.int k0) j p3] [] pos) (iEK k0 fe) := fun ρ r hr => by
  rcases bnd_inv hr with ⟨o, ρ1, h1, h2⟩ | ⟨c, d, ρ1, h1, rfl⟩
  · obtain ⟨t, p, q⟩ := h ρ _ h1
    obtain ⟨ds, h3, rfl⟩ := opt_inv h2
    split at h3
    · rename_i ds' ed
      cases h3
      refine ⟨_, pi_enumK hg hm (pa_cons p (pa_cons pe_int pa_nil hs2) hs) hb hs hpl, fun σ H g F R G z => q σ H g F _ G fun v H1 g1 F1 Fv G1 r1 d1 s1 => ?_⟩
      obtain ⟨g2, G2, rv, s2, st⟩ := wlk G1 ed r1 d1 s1
      cases rv with
      | lst a1 a2 =>
        refine ⟨_, _, rfl, (DL.sqx_mono G2.ok.s a1).l, z _ H1 g2 F1 (fun _ => False) G2 ⟨fun g3 H3 k3 st3 => ?_, fun _ z => z⟩ (fun _ _ z => z) (s2.sub fun p y => y.elim id False.elim)⟩
        have hs2 := (DL.sqx_mono k3.s (DL.sqx_mono st3 a1)).l
        refine ⟨fun j d hj => ?_, ⟨_, hs2, by rw [enumK_length, a2.len]⟩⟩
        obtain ⟨y, y1, rfl⟩ := enumK_get hj
        obtain ⟨v, v1, v2⟩ := a2.at y1
        refine ⟨⟨_, v, hs2, v1⟩, fun x H4 ⟨T, w, w1, w2, w3, w4⟩ => ?_⟩
        subst w1
        subst w3
        have e := w4 _ hs2
        rw [v1] at e
        cases e
        obtain ⟨b1, b2, b3⟩ := new_t (F := fun _ => False) k3 (vs := [.int (k0 + (j : Int)), v]) (ds := [.int (k0 + (j : Int)), y]) (.cons (.int _) (.cons (v2.mono st3) .nil)) w2
        exact ⟨_, b1, b3.st, fun p o e => b3.mu p o e fun z => z, b2⟩
    · cases h3
  · obtain ⟨t, p, q⟩ := h ρ _ h1
    exact ⟨_, pi_enumK hg hm (pa_cons p (pa_cons pe_int pa_nil hs2) hs) hb hs hpl, fun σ H g F R G z => q σ H g F _ G z⟩
theorem iEK_f {k0 : Int} {f : Fn Ow} {ρ ρ1 : Ev} {o : Ow} {ds : List Dt} (h : f ρ = some (.ok o ρ1)) (hf : frz o = some (.lst ds)) : iEK k0 f ρ = some (.ok (enumK k0 ds) ρ1) := by
  unfold iEK
  rw [e_bnd, h, kB_o]
  show kO (match frz _ with | some (.lst ds) => some (enumK k0 ds) | _ => none) ρ1 = _
  rw [hf]
  rfl
end
end OW
/-! [*a, x]: the items of a list that stands, spread into a new one -/
namespace OW
open PySem PySem.Spec PyProof.Rows L2
open DL (Dt Rp RpAll SqX pe_no)
def tStar (K : PySem.W.Frag) (ta : TE) (tr : TA) : TA := fun σ H Q => ta σ H fun v H1 => ∃ p xs, v = .ref p ∧ SqL K H1 p xs ∧ tr σ H1 fun ys H2 => Q (xs ++ ys) H2
section
variable {X : Cx} {W : WX} {e : Expr} {es : List Expr} {te : TE} {t : TA} {sp : Pos} {fe : Fn Ow} {fs : Fn (List Ow)}
theorem pa_star (ha : PE X e te) (hr : PA X es t) (hs : starEach (.Starred e sp :: es) X.env = (true, eval e X.env) :: starEach es X.env := by rfl) : PA X (.Starred e sp :: es) (tStar X.K te t) := by
  refine ⟨fun pos pins s σ H Q I h => ?_⟩
  rw [hs]
  refine PySem.W.ks_spliced (thn (ha.run pins s σ H _ I h) fun u s1 ⟨x, H1, I1, r1, p, xs, ex, hl, q1⟩ => ?_)
  subst ex
  cases (show u = Value.ref p from r1)
  obtain ⟨its, rv, ⟨o, n, h1, h2, h3, h4⟩, hz⟩ := I1.list hl
  have hT' : s1.TypeIs (.ref p) "list" := ⟨o, h1, h2⟩
  have hsz : its.toArray.size ≤ sizeLine := by rw [List.size_toArray, ← rv.length]; exact hz
  unfold PySem.W.StarOf notIterableAtAll
  refine wpAny_bind (wpAny_specialOf hT' PySem.F.slot_list_iter.lookup (wpAny_pure ⟨rfl, ?_⟩))
  refine wpAny_collect_seq (hsz := hsz) p (.inl rfl) h1 h2 h4 fun h' hk => ?_
  refine thn (hr.run pos pins _ σ H1 _ (I1.kept (t' := s1.toks) hk) q1) fun us s2 ⟨ys, H2, I2, r2, q2⟩ => ?_
  refine ⟨xs ++ ys, H2, I2, ?_, q2⟩
  rw [List.toList_toArray]
  exact rv.append r2
def kFl : Ow → Option (List Ow)
  | .f (.lst ds) => some (ds.map .f)
  | _ => none
def xAS (f : Fn Ow) (g : Fn (List Ow)) : Fn (List Ow) := bnd f fun o => bnd (opt (kFl o)) fun xs => bnd g fun os => ret (xs ++ os)
theorem da_star (ha : DE X W e fe) (hs : DA X W es fs) (hst : starEach (.Starred e sp :: es) X.env = (true, eval e X.env) :: starEach es X.env := by rfl) : DA X W (.Starred e sp :: es) (xAS fe fs) := fun ρ r h => by
  rcases bnd_inv h with ⟨x, ρ1, h1, h2⟩ | ⟨c, d, ρ1, h1, rfl⟩
  · obtain ⟨ta, pa, qa⟩ := ha ρ _ h1
    rcases bnd_inv h2 with ⟨xs, ρ3, h3, h4⟩ | ⟨c, d, ρ2, h3, rfl⟩
    · obtain ⟨zs, hz, e0⟩ := opt_inv h3
      cases e0
      cases x with
      | no => cases hz
      | n k os => cases hz
      | f d =>
        cases d with
        | lst ds =>
          cases hz
          rcases bnd_inv h4 with ⟨os, ρ2, h5, h6⟩ | ⟨c, d, ρ2, h5, rfl⟩
          · obtain ⟨tb, pb, qb⟩ := hs _ _ h5
            cases h6
            refine ⟨_, pa_star pa pb hst, fun σ H g F Q G q => qa σ H g F _ G fun v H1 g1 F1 Fa G1 r1 d1 s1 => ?_⟩
            obtain ⟨rp, em⟩ := r1
            cases rp with
            | @lst a xs _ sq ra =>
              refine ⟨a, xs, rfl, G1.ok.s.seq sq.l, qb σ H1 g1 F1 _ G1 fun ys H2 g2 F2 Fb G2 r2 d2 s2 => ?_⟩
              refine q _ H2 g2 F2 Fb G2 ?_ d2 ?_
              · exact OwRs.eqv _ (fun p => ⟨fun z => z.elim False.elim id, .inr⟩) ((OwRs.of_rp (RpAll.mono s2.st _ _ ra)).app r2 fun p z _ => z)
              · exact (s1.sub fun p z => .inl z).tr s2
          · obtain ⟨tb, pb, qb⟩ := hs _ _ h5
            refine ⟨_, pa_star pa pb hst, fun σ H g F Q G q => qa σ H g F _ G fun v H1 g1 F1 Fa G1 r1 d1 s1 => ?_⟩
            obtain ⟨rp, em⟩ := r1
            cases rp with
            | @lst a xs _ sq ra =>
              exact ⟨a, xs, rfl, G1.ok.s.seq sq.l, qb σ H1 g1 F1 _ G1 (Pst.ex q s1)⟩
        | non => cases hz
        | bl b => cases hz
        | int i => cases hz
        | str i => cases hz
        | tup i => cases hz
        | opq i => cases hz
    · obtain ⟨zs, hz, e0⟩ := opt_inv h3
      cases e0
  · obtain ⟨ta, pa, qa⟩ := ha ρ _ h1
    exact ⟨_, pa_star pa pa_no hst, fun σ H g F Q G q => qa σ H g F _ G q⟩
theorem e_AS {f : Fn Ow} {g : Fn (List Ow)} {ρ : Ev} : xAS f g ρ = kB (f ρ) fun o ρ => kB (kO (kFl o) ρ) fun xs ρ => kB (g ρ) fun os ρ => some (.ok (xs ++ os) ρ) := rfl
theorem v_kFl {ds : List Dt} : kFl (.f (.lst ds)) = some (ds.map .f) := rfl
end
end OW
/-! tuples of one's own: what is put into them stays one's own -/
namespace OW
open PySem PySem.Spec PyProof.Rows L2
open DL (Dt Rp RpAll SqX)
section
variable {X : Cx} {W : WX} {pos : Pos} {a b c e : Expr} {es : List Expr} {fa fb fc fe : Fn Ow} {fs : Fn (List Ow)} {k : Nat} {mg : Str → Option Value} {K : PySem.W.Frag} {g : Gs} {H : Hp} {F : Fp} {vs : List V} {os : List Ow} {ds : List Dt}
theorem new_tp (k : GsOk g H) (h : OwRs mg K g os vs F) {p : Addr} (hp : H p = none) :
    GsOk (g.hold p (.tup vs)) (upd H p (.tup vs)) ∧ OwR mg K (g.hold p (.tup vs)) (.n .tp os) (.ref p) (fun q => q = p ∨ F q) ∧ Stp g F (g.hold p (.tup vs)) fun q => q = p ∨ F q := by
  obtain ⟨f1, f2⟩ := k.free hp
  have nF : ¬ F p := fun z => by
    obtain ⟨u, e⟩ := OwRs.in_ os h p z
    rw [f2] at e; cases e
  refine ⟨hold_ok k hp, ⟨p, vs, fun q => q = p, F, rfl, ⟨upd_same, fun q => Iff.rfl⟩, OwRs.kp os (hold_kp nF) h, fun q z y => nF (by rw [← show q = p from z]; exact y), fun q => Iff.rfl⟩, ⟨fun _ _ e => e, fun q u e n => ?_, fun q z => ?_⟩⟩
  · show upd g.M p _ q = _
    rw [upd_ne (ne_of_none e f2)]; exact e
  · rcases z with rfl | z
    · exact .inr ⟨f1, f2⟩
    · exact .inl z
def xTpO (f : Fn (List Ow)) : Fn Ow := bnd f fun os => opt (if os.length ≤ LIM then some (.n .tp os) else none)
theorem de_tpo (hs : DA X W es fs) : DE X W (.Tuple es k pos) (xTpO fs) := fun ρ r h => by
  rcases bnd_inv h with ⟨os, ρ1, h1, h2⟩ | ⟨c, d, ρ1, h1, rfl⟩
  · obtain ⟨ta, pa, qa⟩ := hs ρ _ h1
    obtain ⟨z, h3, rfl⟩ := opt_inv h2
    split at h3
    · rename_i hl
      cases h3
      refine ⟨_, pe_tup pa, fun σ H g F Q G q => qa σ H g F _ G fun vs H1 g1 F1 Fa G1 r1 d1 s1 => ⟨by rw [OwRs.len r1]; exact lim_line hl, fun p hp => ?_⟩⟩
      obtain ⟨k, r, s⟩ := new_tp G1.ok r1 hp
      obtain ⟨G3, d3, s3⟩ := G1.op s1 d1 k s
      exact q _ _ _ F1 _ G3 r d3 s3
    · cases h3
  · obtain ⟨ta, pa, qa⟩ := hs ρ _ h1
    exact ⟨_, pe_tup pa, fun σ H g F Q G q => qa σ H g F _ G q⟩
theorem e_tpo {ρ : Ev} : xTpO fs ρ = kB (fs ρ) fun os ρ => if os.length ≤ LIM then some (.ok (.n .tp os) ρ) else none := by
  show kB _ _ = _
  congr 1
  funext os ρ
  show kO _ _ = _
  split <;> rfl
theorem v_ixTp {k : Int} {x : Ow} (h : L2.atI os k = some x) (hn : x ≠ .no) : bIx (.n .tp os) (.f (.int k)) = some x := by
  show (match L2.atI os k with | some .no => none | r => r) = _
  rw [h]
  split
  · rename_i e
    cases e
    exact (hn rfl).elim
  · rfl
theorem fz_tp : frz (.n .tp os) = (frzs os).map .tup := by simp [frz]
end
end OW
namespace Ev
open PySem L2 OW
open DL (Dt FnG FnAt)
def top (i : Nat) : Stmt := PySem.Challenge.pw_evenslices_k05_rest_loads.main.body.getD i (.Pass ⟨0, 0, 0, 0⟩)
abbrev s__law_source : Stmt := top 25
abbrev s_is_integer : Stmt := top 11
abbrev s_wrong_item : Stmt := top 12
abbrev s_need_load : Stmt := top 13
abbrev s_fills : Stmt := top 16
abbrev s_need_full : Stmt := top 17
abbrev s_rest_load : Stmt := top 23
abbrev s__law_draw : Stmt := top 26
abbrev s__law_parts : Stmt := top 27
abbrev s__law_open : Stmt := top 28
abbrev s_need_process : Stmt := top 15
abbrev s_need_number : Stmt := top 14
abbrev s_down : Stmt := top 18
abbrev s_up : Stmt := top 19
abbrev s_due_counts : Stmt := top 22
abbrev s_is_load : Stmt := top 20
abbrev s_is_full : Stmt := top 21
abbrev s__law_right : Stmt := top 29
abbrev s_law : Stmt := top 30
structure Txt (mg : Str → Option Value) : Prop where
  b_abs : mg "abs" = none
  b_max : mg "max" = none
  b_int : mg "int" = none
  b_isinstance : mg "isinstance" = none
  b_bool : mg "bool" = none
  b_list : mg "list" = none
  b_all : mg "all" = none
  b_sum : mg "sum" = none
  b_len : mg "len" = none
  b_tuple : mg "tuple" = none
  b_range : mg "range" = none
  b_min : mg "min" = none
  b_repr : mg "repr" = none
  b_enumerate : mg "enumerate" = none
  c_MOST_PROCESSORS : ∃ t, mg "MOST_PROCESSORS" = some (Value.int (12) t)
  c_MOST_PERIOD : ∃ t, mg "MOST_PERIOD" = some (Value.int (10 ^ 30 - 1) t)
  c_MOST_PROCESSES : ∃ t, mg "MOST_PROCESSES" = some (Value.int (12) t)
end Ev
namespace Ev
open PySem L2 OW
open DL (Dt FnG FnAt)
noncomputable section
def b__law_source_1d92 : SF :=
  (sSeq (sSet 2 (xC (oBs kAbs) (xA1 (xV 0) xA0))) (sSeq (sRet (xLst (xA1 (xC (oBs kMax) (xA1 (xK (.int 0)) (xA1 (xBin bSub (xV 2) (xBin bPow (xK (.int 10)) (xK (.int 18)))) xA0))) (xA1 (xBin bAdd (xBin bAdd (xBin bMul (xBin bMod (xC (oBs kInt) (xA1 (xV 2) xA0)) (xBin bAdd (xBin bPow (xK (.int 10)) (xK (.int 41))) (xK (.int 61)))) (xK (.int 83))) (xBin bMul (xK (.int 2)) (xV 1))) (xC (oBs kInt) (xA1 (xBin cLt (xV 0) (xK (.int 0))) xA0))) (xA1 (xK (.int 0)) xA0))))) sNil))
def f__law_source_1d92 : FO := fnOf 3 [false, false] b__law_source_1d92
end
end Ev
namespace Ev
open PySem L2 OW
open DL (Dt FnG FnAt)
section
variable {P : Program} {w : World} {K : PySem.W.Frag} {mg : Str → Option Value} {base : Heap} {f : Addr} {fd : FuncData}
theorem sc__law_source : FnScope ["cell", "k", "great"] ["cell", "k"] (defScope s__law_source) := ⟨rfl, rfl, rfl, by decide +kernel, rfl, by decide +kernel, by decide +kernel⟩
theorem ok__law_source (T : Txt mg) (F : Fun K "_law_source" "_law_source" s__law_source f fd) : FnG P w K mg base 1 f fd ["cell", "k"] (spO mg K 2 f__law_source_1d92) := by
  refine okO (N := ["cell", "k", "great"]) (io := [false, false]) (body := b__law_source_1d92) F sc__law_source rfl rfl (by decide) ?_
  intro cdv A outer s0 H E Z W hgd hr tk hz
  exact (dss_cons (ds_set 2 (de_kB (fun _ _ h => rf_abs h) ⟨_, call_abs⟩ T.b_abs (da_1 (de_v 0) da_0)) sc__law_source.nd (by rw [hz]; decide)) (dss_cons (ds_ret (de_lst (da_1 (de_kB (fun _ _ h => rf_max rfl h) ⟨_, cr_max rfl⟩ T.b_max (da_1 de_int (da_1 (de_sub (de_v 2) (de_pow de_int de_int)) da_0))) (da_1 (de_add (de_add (de_mul (de_mod (de_kT (fun _ _ h => rf_int h) ⟨_, call_int1⟩ T.b_int (da_1 (de_v 2) da_0)) (de_add (de_pow de_int de_int) de_int)) de_int) (de_mul de_int (de_v 1))) (de_kT (fun _ _ h => rf_int h) ⟨_, call_int1⟩ T.b_int (da_1 (DC.e (dc_lt (de_v 0) de_int)) da_0))) (da_1 de_int da_0))))) dss_nil))
end
end Ev
namespace Ev
open PySem L2 OW
open DL (Dt FnG FnAt)
noncomputable section
def b_is_integer_4a98 : SF :=
  (sSeq (sIf (tOr (tNot (tV (xIs DL.Dt.isInt (xV 0)))) (tOr (tV (xIs DL.Dt.isBool (xV 0))) (tV (xBin cLt (xV 0) (xV 1))))) (sSeq (sRet (xK (.bl false))) sNil) sNil) (sSeq (sRet (xOr (xBin cIs (xV 2) (xK .non)) (xBin cLe (xV 0) (xV 2)))) sNil))
def f_is_integer_4a98 : FO := fnOf 3 [false, false, false] b_is_integer_4a98
end
end Ev
namespace Ev
open PySem L2 OW
open DL (Dt FnG FnAt)
section
variable {P : Program} {w : World} {K : PySem.W.Frag} {mg : Str → Option Value} {base : Heap} {f : Addr} {fd : FuncData}
theorem sc_is_integer : FnScope ["value", "low", "high"] ["value", "low", "high"] (defScope s_is_integer) := ⟨rfl, rfl, rfl, by decide +kernel, rfl, by decide +kernel, by decide +kernel⟩
theorem ok_is_integer (T : Txt mg) (F : Fun K "is_integer" "is_integer" s_is_integer f fd) : FnG P w K mg base 1 f fd ["value", "low", "high"] (spO mg K 3 f_is_integer_4a98) := by
  refine okO (N := ["value", "low", "high"]) (io := [false, false, false]) (body := b_is_integer_4a98) F sc_is_integer rfl rfl (by decide) ?_
  intro cdv A outer s0 H E Z W hgd hr tk hz
  exact (dss_cons (ds_if (DW.t (dw_or (dt_not (dt_v (de_isi DL.kit_isInt T.b_isinstance T.b_int (de_v 0)))) (dw_or (dt_v (de_isi DL.kit_isBool T.b_isinstance T.b_bool (de_v 0))) (dw_or1 (DC.t (dc_lt (de_v 0) (de_v 1))))))) (dss_cons (ds_ret de_bl) dss_nil) dss_nil) (dss_cons (ds_ret (de_or (DC.e (dc_is (de_v 2) de_non)) (de_one (DC.e (dc_le (de_v 0) (de_v 2)))))) dss_nil))
end
end Ev
namespace Ev
open PySem L2 OW
open DL (Dt FnG FnAt)
noncomputable section
def x1_wrong_item_33b3 : Fn Ow :=
  (xComp [4] (iL (xV 3)) (gN 4) tY (xCall 3 f_is_integer_4a98 (xRv (xV 4) (xRv (xK (.int 1)) (xRv (xV 2) xR0)))))
def b_wrong_item_33b3 : SF :=
  (sSeq (sTgt (gT (gs1 (gN 1) (gs1 (gN 2) (gs1 (gN 3) gs0)))) (xV 0)) (sSeq (sIf (tNot (tV (xCall 3 f_is_integer_4a98 (xRv (xV 1) (xRv (xK (.int 1)) (xRv (xK (.int (12))) xR0)))))) (sSeq (sRet (xK (.int 0))) sNil) sNil) (sSeq (sIf (tNot (tV (xCall 3 f_is_integer_4a98 (xRv (xV 2) (xRv (xK (.int 1)) (xRv (xK (.int (10 ^ 30 - 1))) xR0)))))) (sSeq (sRet (xK (.int 1))) sNil) sNil) (sSeq (sIf (tOr (tNot (tV (xIs DL.Dt.isLst (xV 3)))) (tNot (tV (xCh (fun i j => decide (i ≤ j)) (fun i j => decide (i ≤ j)) (xK (.int 1)) (xC (oBs kLen) (xA1 (xV 3) xA0)) (xK (.int (12))))))) (sSeq (sRet (xK (.int 2))) sNil) sNil) (sSeq (sIf (tOr (tNot (tV (xC (oBs kAll) (xA1 x1_wrong_item_33b3 xA0)))) (tV (xBin cGt (xC (oBs kSum) (xA1 (xV 3) xA0)) (xBin bMul (xV 1) (xV 2))))) (sSeq (sRet (xK (.int 2))) sNil) sNil) (sSeq (sRet (xK .non)) sNil))))))
def f_wrong_item_33b3 : FO := fnOf 5 [false] b_wrong_item_33b3
end
end Ev
namespace Ev
open PySem L2 OW
open DL (Dt FnG FnAt)
section
variable {P : Program} {w : World} {K : PySem.W.Frag} {mg : Str → Option Value} {base : Heap} {f : Addr} {fd : FuncData}
theorem sc_wrong_item : FnScope ["value", "processors", "period", "shares", "share"] ["value"] (defScope s_wrong_item) := ⟨rfl, rfl, rfl, by decide +kernel, rfl, by decide +kernel, by decide +kernel⟩
theorem ok_wrong_item (T : Txt mg) (G_is_integer : FnAt P w K mg base "is_integer" s_is_integer 1 ["value", "low", "high"] (spO mg K 3 f_is_integer_4a98)) (F : Fun K "wrong_item" "wrong_item" s_wrong_item f fd) : FnG P w K mg base 2 f fd ["value"] (spO mg K 1 f_wrong_item_33b3) := by
  refine okO (N := ["value", "processors", "period", "shares", "share"]) (io := [false]) (body := b_wrong_item_33b3) F sc_wrong_item rfl rfl (by decide) ?_
  intro cdv A outer s0 H E Z W hgd hr tk hz
  exact (dss_cons (ds_tgt (vs := [1, 2, 3]) (de_v 0) (dg_t rfl (dgs_1 (dg_n 1 sc_wrong_item.nd (by decide) (by rw [hz]; decide)) (dgs_1 (dg_n 2 sc_wrong_item.nd (by decide) (by rw [hz]; decide)) (dgs_1 (dg_n 3 sc_wrong_item.nd (by decide) (by rw [hz]; decide)) dgs_0))) (fun _ _ _ h => gs1_len (fun _ _ _ h => gs1_len (fun _ _ _ h => gs1_len (fun _ _ _ h => gs0_len h) h) h) h))) (dss_cons (ds_if (dt_not (dt_v (de_call G_is_integer tk hgd (hr.mono (by decide)) (dr_v (de_v 1) (dr_v de_int (dr_v (de_globI T.c_MOST_PROCESSORS) dr_0)))))) (dss_cons (ds_ret de_int) dss_nil) dss_nil) (dss_cons (ds_if (dt_not (dt_v (de_call G_is_integer tk hgd (hr.mono (by decide)) (dr_v (de_v 2) (dr_v de_int (dr_v (de_globI T.c_MOST_PERIOD) dr_0)))))) (dss_cons (ds_ret de_int) dss_nil) dss_nil) (dss_cons (ds_if (DW.t (dw_or (dt_not (dt_v (de_isi DL.kit_isLst T.b_isinstance T.b_list (de_v 3)))) (dw_or1 (dt_not (DC.t (dc_ch op_le op_le de_int (de_kB (fun _ _ h => rf_len h) ⟨_, call_len_seq⟩ T.b_len (da_1 (de_v 3) da_0)) (de_globI T.c_MOST_PROCESSES))))))) (dss_cons (ds_ret de_int) dss_nil) dss_nil) (dss_cons (ds_if (DW.t (dw_or (dt_not (dt_v (de_kB (fun _ _ h => rf_all rfl h) ⟨_, cr_all rfl⟩ T.b_all (da_1 (de_comp rfl (own := [("share", 4)]) (di_l (de_v 3)) (blkOk_by (N := ["value", "processors", "period", "shares", "share"]) (sc := defScope s_wrong_item) (own := [("share", 4)]) (by decide +kernel)) sc_wrong_item.nd (fun _ _ _ _ _ => (dg_n 4 sc_wrong_item.nd (by decide) (by decide))) (fun _ _ _ _ _ => dts_0) (fun _ _ _ _ _ => (de_call G_is_integer takes0 hgd (hr.mono (by decide)) (dr_v (de_v 4) (dr_v de_int (dr_v (de_v 2) dr_0)))))) da_0)))) (dw_or1 (DC.t (dc_gt (de_kB (fun _ _ h => rf_sum rfl h) ⟨_, cr_sum rfl⟩ T.b_sum (da_1 (de_v 3) da_0)) (de_mul (de_v 1) (de_v 2))))))) (dss_cons (ds_ret de_int) dss_nil) dss_nil) (dss_cons (ds_ret de_non) dss_nil))))))
end
end Ev
namespace Ev
open PySem L2 OW
open DL (Dt FnG FnAt)
noncomputable section
def b_need_load_39ed : SF :=
  (sSeq (sIf (tOr (tNot (tV (xIs DL.Dt.isTup (xV 0)))) (tV (xBin cNe (xC (oBs kLen) (xA1 (xV 0) xA0)) (xK (.int 3))))) (sSeq (fun _ => none) sNil) sNil) (sSeq (sSet 1 (xCall 1 f_wrong_item_33b3 (xRv (xV 0) xR0))) (sSeq (sIf (tV (xBin cIsN (xV 1) (xK .non))) (sSeq (fun _ => none) sNil) sNil) sNil)))
def f_need_load_39ed : FO := fnOf 2 [false] b_need_load_39ed
end
end Ev
namespace Ev
open PySem L2 OW
open DL (Dt FnG FnAt)
section
variable {P : Program} {w : World} {K : PySem.W.Frag} {mg : Str → Option Value} {base : Heap} {f : Addr} {fd : FuncData}
theorem sc_need_load : FnScope ["load", "wrong"] ["load"] (defScope s_need_load) := ⟨rfl, rfl, rfl, by decide +kernel, rfl, by decide +kernel, by decide +kernel⟩
theorem ok_need_load (T : Txt mg) (G_wrong_item : FnAt P w K mg base "wrong_item" s_wrong_item 2 ["value"] (spO mg K 1 f_wrong_item_33b3)) (F : Fun K "need_load" "need_load" s_need_load f fd) : FnG P w K mg base 3 f fd ["load"] (spO mg K 1 f_need_load_39ed) := by
  refine okO (N := ["load", "wrong"]) (io := [false]) (body := b_need_load_39ed) F sc_need_load rfl rfl (by decide) ?_
  intro cdv A outer s0 H E Z W hgd hr tk hz
  exact (dss_cons (ds_if (DW.t (dw_or (dt_not (dt_v (de_isi DL.kit_isTup T.b_isinstance T.b_tuple (de_v 0)))) (dw_or1 (DC.t (dc_ne hr (de_kB (fun _ _ h => rf_len h) ⟨_, call_len_seq⟩ T.b_len (da_1 (de_v 0) da_0)) de_int))))) (dss_cons ds_never dss_nil) dss_nil) (dss_cons (ds_set 1 (de_call G_wrong_item tk hgd (hr.mono (by decide)) (dr_v (de_v 0) dr_0)) sc_need_load.nd (by rw [hz]; decide)) (dss_cons (ds_if (DC.t (dc_isN (de_v 1) de_non)) (dss_cons ds_never dss_nil) dss_nil) dss_nil)))
end
end Ev
namespace Ev
open PySem L2 OW
open DL (Dt FnG FnAt)
noncomputable section
def b_fills_4399 : SF :=
  (sSeq (sRet (xBin cEq (xC (oBs kSum) (xA1 (xQ (qIx (pV 0) (qK (.int 2)))) xA0)) (xBin bMul (xQ (qIx (pV 0) (qK (.int 0)))) (xQ (qIx (pV 0) (qK (.int 1))))))) sNil)
def f_fills_4399 : FO := fnOf 1 [false] b_fills_4399
end
end Ev
namespace Ev
open PySem L2 OW
open DL (Dt FnG FnAt)
section
variable {P : Program} {w : World} {K : PySem.W.Frag} {mg : Str → Option Value} {base : Heap} {f : Addr} {fd : FuncData}
theorem sc_fills : FnScope ["load"] ["load"] (defScope s_fills) := ⟨rfl, rfl, rfl, by decide +kernel, rfl, by decide +kernel, by decide +kernel⟩
theorem ok_fills (T : Txt mg) (F : Fun K "fills" "fills" s_fills f fd) : FnG P w K mg base 1 f fd ["load"] (spO mg K 1 f_fills_4399) := by
  refine okO (N := ["load"]) (io := [false]) (body := b_fills_4399) F sc_fills rfl rfl (by decide) ?_
  intro cdv A outer s0 H E Z W hgd hr tk hz
  exact (dss_cons (ds_ret (DC.e (dc_eq hr (de_kB (fun _ _ h => rf_sum rfl h) ⟨_, cr_sum rfl⟩ T.b_sum (da_1 (de_q (dq_ix (dp_v 0) dq_int)) da_0)) (de_mul (de_q (dq_ix (dp_v 0) dq_int)) (de_q (dq_ix (dp_v 0) dq_int)))))) dss_nil)
end
end Ev
namespace Ev
open PySem L2 OW
open DL (Dt FnG FnAt)
noncomputable section
def b_need_full_75a5 : SF :=
  (sSeq (sIf (tNot (tV (xCall 1 f_fills_4399 (xRv (xV 0) xR0)))) (sSeq (fun _ => none) sNil) sNil) sNil)
def f_need_full_75a5 : FO := fnOf 1 [false] b_need_full_75a5
end
end Ev
namespace Ev
open PySem L2 OW
open DL (Dt FnG FnAt)
section
variable {P : Program} {w : World} {K : PySem.W.Frag} {mg : Str → Option Value} {base : Heap} {f : Addr} {fd : FuncData}
theorem sc_need_full : FnScope ["load"] ["load"] (defScope s_need_full) := ⟨rfl, rfl, rfl, by decide +kernel, rfl, by decide +kernel, by decide +kernel⟩
theorem ok_need_full (T : Txt mg) (G_fills : FnAt P w K mg base "fills" s_fills 1 ["load"] (spO mg K 1 f_fills_4399)) (F : Fun K "need_full" "need_full" s_need_full f fd) : FnG P w K mg base 2 f fd ["load"] (spO mg K 1 f_need_full_75a5) := by
  refine okO (N := ["load"]) (io := [false]) (body := b_need_full_75a5) F sc_need_full rfl rfl (by decide) ?_
  intro cdv A outer s0 H E Z W hgd hr tk hz
  exact (dss_cons (ds_if (dt_not (dt_v (de_call G_fills tk hgd (hr.mono (by decide)) (dr_v (de_v 0) dr_0)))) (dss_cons ds_never dss_nil) dss_nil) dss_nil)
end
end Ev
namespace Ev
open PySem L2 OW
open DL (Dt FnG FnAt)
noncomputable section
def x1_rest_load_4c5b : Fn Ow :=
  (xComp [4] (iL (xV 3)) (gN 4) tY (xBin bSub (xV 2) (xV 4)))
def b_rest_load_4c5b : SF :=
  (sSeq (sExpr (xCall 1 f_need_load_39ed (xRv (xV 0) xR0))) (sSeq (sExpr (xCall 1 f_need_full_75a5 (xRv (xV 0) xR0))) (sSeq (sTgt (gT (gs1 (gN 1) (gs1 (gN 2) (gs1 (gN 3) gs0)))) (xV 0)) (sSeq (sIf (tV (xBin cIn (xV 2) (xV 3))) (sSeq (fun _ => none) sNil) sNil) (sSeq (sRet (xTpO (xA1 (xBin bSub (xC (oBs kLen) (xA1 (xV 3) xA0)) (xV 1)) (xA1 (xV 2) (xA1 x1_rest_load_4c5b xA0))))) sNil)))))
def f_rest_load_4c5b : FO := fnOf 5 [false] b_rest_load_4c5b
end
end Ev
namespace Ev
open PySem L2 OW
open DL (Dt FnG FnAt)
section
variable {P : Program} {w : World} {K : PySem.W.Frag} {mg : Str → Option Value} {base : Heap} {f : Addr} {fd : FuncData}
theorem sc_rest_load : FnScope ["load", "processors", "period", "shares", "share"] ["load"] (defScope s_rest_load) := ⟨rfl, rfl, rfl, by decide +kernel, rfl, by decide +kernel, by decide +kernel⟩
theorem ok_rest_load (T : Txt mg) (G_need_load : FnAt P w K mg base "need_load" s_need_load 3 ["load"] (spO mg K 1 f_need_load_39ed)) (G_need_full : FnAt P w K mg base "need_full" s_need_full 2 ["load"] (spO mg K 1 f_need_full_75a5)) (F : Fun K "rest_load" "rest_load" s_rest_load f fd) : FnG P w K mg base 4 f fd ["load"] (spO mg K 1 f_rest_load_4c5b) := by
  refine okO (N := ["load", "processors", "period", "shares", "share"]) (io := [false]) (body := b_rest_load_4c5b) F sc_rest_load rfl rfl (by decide) ?_
  intro cdv A outer s0 H E Z W hgd hr tk hz
  exact (dss_cons (ds_expr (de_call G_need_load tk hgd (hr.mono (by decide)) (dr_v (de_v 0) dr_0))) (dss_cons (ds_expr (de_call G_need_full tk hgd (hr.mono (by decide)) (dr_v (de_v 0) dr_0))) (dss_cons (ds_tgt (vs := [1, 2, 3]) (de_v 0) (dg_t rfl (dgs_1 (dg_n 1 sc_rest_load.nd (by decide) (by rw [hz]; decide)) (dgs_1 (dg_n 2 sc_rest_load.nd (by decide) (by rw [hz]; decide)) (dgs_1 (dg_n 3 sc_rest_load.nd (by decide) (by rw [hz]; decide)) dgs_0))) (fun _ _ _ h => gs1_len (fun _ _ _ h => gs1_len (fun _ _ _ h => gs1_len (fun _ _ _ h => gs0_len h) h) h) h))) (dss_cons (ds_if (DC.t (dc_in hr (un65 hr) (de_v 2) (de_v 3))) (dss_cons ds_never dss_nil) dss_nil) (dss_cons (ds_ret (de_tpo (da_1 (de_sub (de_kB (fun _ _ h => rf_len h) ⟨_, call_len_seq⟩ T.b_len (da_1 (de_v 3) da_0)) (de_v 1)) (da_1 (de_v 2) (da_1 (de_comp rfl (own := [("share", 4)]) (di_l (de_v 3)) (blkOk_by (N := ["load", "processors", "period", "shares", "share"]) (sc := defScope s_rest_load) (own := [("share", 4)]) (by decide +kernel)) sc_rest_load.nd (fun _ _ _ _ _ => (dg_n 4 sc_rest_load.nd (by decide) (by decide))) (fun _ _ _ _ _ => dts_0) (fun _ _ _ _ _ => (de_sub (de_v 2) (de_v 4)))) da_0))))) dss_nil)))))
end
end Ev
namespace Ev
open PySem L2 OW
open DL (Dt FnG FnAt)
noncomputable section
def b__law_draw_ffea : SF :=
  (sSeq (sIf (tV (xBin cGt (xGet (pV 0) (qK (.int 0))) (xK (.int 0)))) (sSeq (sSet 2 (xBin bMod (xC (oBs kInt) (xA1 (xGet (pV 0) (qK (.int 0))) xA0)) (xV 1))) (sSeq (sItem (pV 0) (qK (.int 0)) (xBin bDiv (xGet (pV 0) (qK (.int 0))) (xV 1))) (sSeq (sRet (xM 2)) sNil))) sNil) (sSeq (sItem (pV 0) (qK (.int 2)) (xBin bAdd (xGet (pV 0) (qK (.int 2))) (xK (.int 1)))) (sSeq (sSet 3 (xBin bMod (xC (oBs kInt) (xA1 (xBin bPow (xBin bAdd (xGet (pV 0) (qK (.int 1))) (xBin bMul (xK (.int 800011)) (xGet (pV 0) (qK (.int 2))))) (xK (.int 3))) xA0)) (xBin bAdd (xBin bPow (xK (.int 10)) (xK (.int 37))) (xK (.int 43))))) (sSeq (sSet 3 (xBin bMod (xC (oBs kInt) (xA1 (xBin bPow (xBin bAdd (xBin bMul (xV 3) (xGet (pV 0) (qK (.int 2)))) (xK (.int 70001))) (xK (.int 3))) xA0)) (xBin bAdd (xBin bPow (xK (.int 10)) (xK (.int 39))) (xK (.int 3))))) (sSeq (sRet (xBin bMod (xC (oBs kInt) (xA1 (xBin bDiv (xV 3) (xK (.int 65521))) xA0)) (xV 1))) sNil)))))
def f__law_draw_ffea : FO := fnOf 4 [true, false] b__law_draw_ffea
end
end Ev
namespace Ev
open PySem L2 OW
open DL (Dt FnG FnAt)
section
variable {P : Program} {w : World} {K : PySem.W.Frag} {mg : Str → Option Value} {base : Heap} {f : Addr} {fd : FuncData}
theorem sc__law_draw : FnScope ["source", "count", "digit", "mixed"] ["source", "count"] (defScope s__law_draw) := ⟨rfl, rfl, rfl, by decide +kernel, rfl, by decide +kernel, by decide +kernel⟩
theorem ok__law_draw (T : Txt mg) (F : Fun K "_law_draw" "_law_draw" s__law_draw f fd) : FnG P w K mg base 1 f fd ["source", "count"] (spO mg K 2 f__law_draw_ffea) := by
  refine okO (N := ["source", "count", "digit", "mixed"]) (io := [true, false]) (body := b__law_draw_ffea) F sc__law_draw rfl rfl (by decide) ?_
  intro cdv A outer s0 H E Z W hgd hr tk hz
  exact (dss_cons (ds_if (DC.t (dc_gt (de_get (dp_v 0) dq_int) de_int)) (dss_cons (ds_set 2 (de_mod (de_kT (fun _ _ h => rf_int h) ⟨_, call_int1⟩ T.b_int (da_1 (de_get (dp_v 0) dq_int) da_0)) (de_v 1)) sc__law_draw.nd (by rw [hz]; decide)) (dss_cons (ds_item (dp_v 0) dq_int (de_div (de_get (dp_v 0) dq_int) (de_v 1))) (dss_cons (ds_ret (de_m 2)) dss_nil))) dss_nil) (dss_cons (ds_item (dp_v 0) dq_int (de_add (de_get (dp_v 0) dq_int) de_int)) (dss_cons (ds_set 3 (de_mod (de_kT (fun _ _ h => rf_int h) ⟨_, call_int1⟩ T.b_int (da_1 (de_pow (de_add (de_get (dp_v 0) dq_int) (de_mul de_int (de_get (dp_v 0) dq_int))) de_int) da_0)) (de_add (de_pow de_int de_int) de_int)) sc__law_draw.nd (by rw [hz]; decide)) (dss_cons (ds_set 3 (de_mod (de_kT (fun _ _ h => rf_int h) ⟨_, call_int1⟩ T.b_int (da_1 (de_pow (de_add (de_mul (de_v 3) (de_get (dp_v 0) dq_int)) de_int) de_int) da_0)) (de_add (de_pow de_int de_int) de_int)) sc__law_draw.nd (by rw [hz]; decide)) (dss_cons (ds_ret (de_mod (de_kT (fun _ _ h => rf_int h) ⟨_, call_int1⟩ T.b_int (da_1 (de_div (de_v 3) de_int) da_0)) (de_v 1))) dss_nil)))))
end
end Ev
namespace Ev
open PySem L2 OW
open DL (Dt FnG FnAt)
noncomputable section
def l1__law_parts_64e2 : SF :=
  (sFor (iR1 (xV 2)) (gN 6) (sSeq (sPar 7 8 (xC (oBs kMax) (xA1 (xK (.int 1)) (xA1 (xBin bSub (xV 5) (xBin bMul (xV 3) (xBin bSub (xBin bSub (xV 2) (xV 6)) (xK (.int 1))))) xA0))) (xC (oBs kMin) (xA1 (xV 3) (xA1 (xBin bSub (xV 5) (xBin bSub (xBin bSub (xV 2) (xV 6)) (xK (.int 1)))) xA0)))) (sSeq (sApp 4 (xBin bAdd (xV 7) (xCall 2 f__law_draw_ffea (xRi 0 (xRv (xBin bAdd (xBin bSub (xV 8) (xV 7)) (xK (.int 1))) xR0))))) (sSeq (sSet 5 (xBin bSub (xV 5) (xGet (pV 4) (qK (.int (-1)))))) sNil))))
def b__law_parts_64e2 : SF :=
  (sSeq (sPar 4 5 (xLst xA0) (xV 1)) (sSeq l1__law_parts_64e2 (sSeq (sRet (xM 4)) sNil)))
def f__law_parts_64e2 : FO := fnOf 9 [true, false, false, false] b__law_parts_64e2
end
end Ev
namespace Ev
open PySem L2 OW
open DL (Dt FnG FnAt)
section
variable {P : Program} {w : World} {K : PySem.W.Frag} {mg : Str → Option Value} {base : Heap} {f : Addr} {fd : FuncData}
theorem sc__law_parts : FnScope ["source", "whole", "often", "far", "found", "left", "turn", "low", "high"] ["source", "whole", "often", "far"] (defScope s__law_parts) := ⟨rfl, rfl, rfl, by decide +kernel, rfl, by decide +kernel, by decide +kernel⟩
theorem ok__law_parts (T : Txt mg) (G__law_draw : FnAt P w K mg base "_law_draw" s__law_draw 1 ["source", "count"] (spO mg K 2 f__law_draw_ffea)) (F : Fun K "_law_parts" "_law_parts" s__law_parts f fd) : FnG P w K mg base 2 f fd ["source", "whole", "often", "far"] (spO mg K 4 f__law_parts_64e2) := by
  refine okO (N := ["source", "whole", "often", "far", "found", "left", "turn", "low", "high"]) (io := [true, false, false, false]) (body := b__law_parts_64e2) F sc__law_parts rfl rfl (by decide) ?_
  intro cdv A outer s0 H E Z W hgd hr tk hz
  exact (dss_cons (ds_par 4 5 rfl sc__law_parts.nd (de_lst da_0) (de_v 1) (by rw [hz]; decide) (by rw [hz]; decide)) (dss_cons (ds_for (vs := [6]) rfl (di_r1 T.b_range (de_v 2)) (dg_n 6 sc__law_parts.nd (by decide) (by rw [hz]; decide)) (dss_cons (ds_par 7 8 rfl sc__law_parts.nd (de_kB (fun _ _ h => rf_max rfl h) ⟨_, cr_max rfl⟩ T.b_max (da_1 de_int (da_1 (de_sub (de_v 5) (de_mul (de_v 3) (de_sub (de_sub (de_v 2) (de_v 6)) de_int))) da_0))) (de_kB (fun _ _ h => rf_min rfl h) ⟨_, cr_min rfl⟩ T.b_min (da_1 (de_v 3) (da_1 (de_sub (de_v 5) (de_sub (de_sub (de_v 2) (de_v 6)) de_int)) da_0))) (by rw [hz]; decide) (by rw [hz]; decide)) (dss_cons (ds_app 4 (de_add (de_v 7) (de_call G__law_draw tk hgd (hr.mono (by decide)) (dr_i 0 (dr_v (de_add (de_sub (de_v 8) (de_v 7)) de_int) dr_0))))) (dss_cons (ds_set 5 (de_sub (de_v 5) (de_get (dp_v 4) dq_neg)) sc__law_parts.nd (by rw [hz]; decide)) dss_nil))) (passes_of rfl)) (dss_cons (ds_ret (de_m 4)) dss_nil)))
end
end Ev
namespace Ev
open PySem L2 OW
open DL (Dt FnG FnAt)
noncomputable section
def b__law_open_596b : SF :=
  (sSeq (sPar 2 3 (xBin bAdd (xK (.int 1)) (xCall 2 f__law_draw_ffea (xRi 0 (xRv (xK (.int 6)) xR0)))) (xBin bAdd (xK (.int 2)) (xCall 2 f__law_draw_ffea (xRi 0 (xRv (xV 1) xR0))))) (sSeq (sSet 4 (xUn bNeg (xBin bDiv (xBin bMul (xUn bNeg (xV 2)) (xV 3)) (xBin bSub (xV 3) (xK (.int 1)))))) (sSeq (sSet 5 (xBin bAdd (xV 4) (xCall 2 f__law_draw_ffea (xRi 0 (xRv (xBin bAdd (xBin bSub (xC (oBs kMin) (xA1 (xK (.int 12)) (xA1 (xBin bMul (xV 2) (xV 3)) xA0))) (xV 4)) (xK (.int 1))) xR0))))) (sSeq (sRet (xTup (xA1 (xV 2) (xA1 (xV 3) (xA1 (xCall 4 f__law_parts_64e2 (xRi 0 (xRv (xBin bMul (xV 2) (xV 3)) (xRv (xV 5) (xRv (xBin bSub (xV 3) (xK (.int 1))) xR0))))) xA0))))) sNil))))
def f__law_open_596b : FO := fnOf 6 [true, false] b__law_open_596b
end
end Ev
namespace Ev
open PySem L2 OW
open DL (Dt FnG FnAt)
section
variable {P : Program} {w : World} {K : PySem.W.Frag} {mg : Str → Option Value} {base : Heap} {f : Addr} {fd : FuncData}
theorem sc__law_open : FnScope ["source", "far", "units", "span", "least", "often"] ["source", "far"] (defScope s__law_open) := ⟨rfl, rfl, rfl, by decide +kernel, rfl, by decide +kernel, by decide +kernel⟩
theorem ok__law_open (T : Txt mg) (G__law_draw : FnAt P w K mg base "_law_draw" s__law_draw 1 ["source", "count"] (spO mg K 2 f__law_draw_ffea)) (G__law_parts : FnAt P w K mg base "_law_parts" s__law_parts 2 ["source", "whole", "often", "far"] (spO mg K 4 f__law_parts_64e2)) (F : Fun K "_law_open" "_law_open" s__law_open f fd) : FnG P w K mg base 3 f fd ["source", "far"] (spO mg K 2 f__law_open_596b) := by
  refine okO (N := ["source", "far", "units", "span", "least", "often"]) (io := [true, false]) (body := b__law_open_596b) F sc__law_open rfl rfl (by decide) ?_
  intro cdv A outer s0 H E Z W hgd hr tk hz
  exact (dss_cons (ds_par 2 3 rfl sc__law_open.nd (de_add de_int (de_call G__law_draw tk hgd (hr.mono (by decide)) (dr_i 0 (dr_v de_int dr_0)))) (de_add de_int (de_call G__law_draw tk hgd (hr.mono (by decide)) (dr_i 0 (dr_v (de_v 1) dr_0)))) (by rw [hz]; decide) (by rw [hz]; decide)) (dss_cons (ds_set 4 (de_neg (de_div (de_mul (de_neg (de_v 2)) (de_v 3)) (de_sub (de_v 3) de_int))) sc__law_open.nd (by rw [hz]; decide)) (dss_cons (ds_set 5 (de_add (de_v 4) (de_call G__law_draw tk hgd (hr.mono (by decide)) (dr_i 0 (dr_v (de_add (de_sub (de_kB (fun _ _ h => rf_min rfl h) ⟨_, cr_min rfl⟩ T.b_min (da_1 de_int (da_1 (de_mul (de_v 2) (de_v 3)) da_0))) (de_v 4)) de_int) dr_0)))) sc__law_open.nd (by rw [hz]; decide)) (dss_cons (ds_ret (de_tup (da_1 (de_v 2) (da_1 (de_v 3) (da_1 (de_call G__law_parts tk hgd (hr.mono (by decide)) (dr_i 0 (dr_v (de_mul (de_v 2) (de_v 3)) (dr_v (de_v 5) (dr_v (de_sub (de_v 3) de_int) dr_0))))) da_0))))) dss_nil))))
end
end Ev
namespace Ev
open PySem L2 OW
open DL (Dt FnG FnAt)
noncomputable section
def b_need_process_1868 : SF :=
  (sSeq (sIf (tNot (tV (xCall 3 f_is_integer_4a98 (xRv (xV 1) (xRv (xK (.int 0)) (xRv (xBin bSub (xC (oBs kLen) (xA1 (xQ (qIx (pV 0) (qK (.int 2)))) xA0)) (xK (.int 1))) xR0)))))) (sSeq (fun _ => none) sNil) sNil) sNil)
def f_need_process_1868 : FO := fnOf 2 [false, false] b_need_process_1868
end
end Ev
namespace Ev
open PySem L2 OW
open DL (Dt FnG FnAt)
section
variable {P : Program} {w : World} {K : PySem.W.Frag} {mg : Str → Option Value} {base : Heap} {f : Addr} {fd : FuncData}
theorem sc_need_process : FnScope ["load", "process"] ["load", "process"] (defScope s_need_process) := ⟨rfl, rfl, rfl, by decide +kernel, rfl, by decide +kernel, by decide +kernel⟩
theorem ok_need_process (T : Txt mg) (G_is_integer : FnAt P w K mg base "is_integer" s_is_integer 1 ["value", "low", "high"] (spO mg K 3 f_is_integer_4a98)) (F : Fun K "need_process" "need_process" s_need_process f fd) : FnG P w K mg base 2 f fd ["load", "process"] (spO mg K 2 f_need_process_1868) := by
  refine okO (N := ["load", "process"]) (io := [false, false]) (body := b_need_process_1868) F sc_need_process rfl rfl (by decide) ?_
  intro cdv A outer s0 H E Z W hgd hr tk hz
  exact (dss_cons (ds_if (dt_not (dt_v (de_call G_is_integer tk hgd (hr.mono (by decide)) (dr_v (de_v 1) (dr_v de_int (dr_v (de_sub (de_kB (fun _ _ h => rf_len h) ⟨_, call_len_seq⟩ T.b_len (da_1 (de_q (dq_ix (dp_v 0) dq_int)) da_0)) de_int) dr_0)))))) (dss_cons ds_never dss_nil) dss_nil) dss_nil)
end
end Ev
namespace Ev
open PySem L2 OW
open DL (Dt FnG FnAt)
noncomputable section
def b_need_number_26f5 : SF :=
  (sSeq (sIf (tNot (tV (xCall 3 f_is_integer_4a98 (xRv (xV 0) (xRv (xV 1) (xRv (xV 2) xR0)))))) (sSeq (fun _ => none) sNil) sNil) sNil)
def f_need_number_26f5 : FO := fnOf 3 [false, false, false] b_need_number_26f5
end
end Ev
namespace Ev
open PySem L2 OW
open DL (Dt FnG FnAt)
section
variable {P : Program} {w : World} {K : PySem.W.Frag} {mg : Str → Option Value} {base : Heap} {f : Addr} {fd : FuncData}
theorem sc_need_number : FnScope ["value", "low", "high"] ["value", "low", "high"] (defScope s_need_number) := ⟨rfl, rfl, rfl, by decide +kernel, rfl, by decide +kernel, by decide +kernel⟩
theorem ok_need_number (T : Txt mg) (G_is_integer : FnAt P w K mg base "is_integer" s_is_integer 1 ["value", "low", "high"] (spO mg K 3 f_is_integer_4a98)) (F : Fun K "need_number" "need_number" s_need_number f fd) : FnG P w K mg base 2 f fd ["value", "low", "high"] (spO mg K 3 f_need_number_26f5) := by
  refine okO (N := ["value", "low", "high"]) (io := [false, false, false]) (body := b_need_number_26f5) F sc_need_number rfl rfl (by decide) ?_
  intro cdv A outer s0 H E Z W hgd hr tk hz
  exact (dss_cons (ds_if (dt_not (dt_v (de_call G_is_integer tk hgd (hr.mono (by decide)) (dr_v (de_v 0) (dr_v (de_v 1) (dr_v (de_v 2) dr_0)))))) (dss_cons ds_never dss_nil) dss_nil) dss_nil)
end
end Ev
namespace Ev
open PySem L2 OW
open DL (Dt FnG FnAt)
noncomputable section
def b_down_19d4 : SF :=
  (sSeq (sRet (xBin bDiv (xBin bMul (xV 0) (xV 2)) (xV 1))) sNil)
def f_down_19d4 : FO := fnOf 3 [false, false, false] b_down_19d4
end
end Ev
namespace Ev
open PySem L2 OW
open DL (Dt FnG FnAt)
section
variable {P : Program} {w : World} {K : PySem.W.Frag} {mg : Str → Option Value} {base : Heap} {f : Addr} {fd : FuncData}
theorem sc_down : FnScope ["share", "period", "moment"] ["share", "period", "moment"] (defScope s_down) := ⟨rfl, rfl, rfl, by decide +kernel, rfl, by decide +kernel, by decide +kernel⟩
theorem ok_down (T : Txt mg) (F : Fun K "down" "down" s_down f fd) : FnG P w K mg base 1 f fd ["share", "period", "moment"] (spO mg K 3 f_down_19d4) := by
  refine okO (N := ["share", "period", "moment"]) (io := [false, false, false]) (body := b_down_19d4) F sc_down rfl rfl (by decide) ?_
  intro cdv A outer s0 H E Z W hgd hr tk hz
  exact (dss_cons (ds_ret (de_div (de_mul (de_v 0) (de_v 2)) (de_v 1))) dss_nil)
end
end Ev
namespace Ev
open PySem L2 OW
open DL (Dt FnG FnAt)
noncomputable section
def b_up_c0a7 : SF :=
  (sSeq (sRet (xUn bNeg (xBin bDiv (xBin bMul (xUn bNeg (xV 0)) (xV 2)) (xV 1)))) sNil)
def f_up_c0a7 : FO := fnOf 3 [false, false, false] b_up_c0a7
end
end Ev
namespace Ev
open PySem L2 OW
open DL (Dt FnG FnAt)
section
variable {P : Program} {w : World} {K : PySem.W.Frag} {mg : Str → Option Value} {base : Heap} {f : Addr} {fd : FuncData}
theorem sc_up : FnScope ["share", "period", "moment"] ["share", "period", "moment"] (defScope s_up) := ⟨rfl, rfl, rfl, by decide +kernel, rfl, by decide +kernel, by decide +kernel⟩
theorem ok_up (T : Txt mg) (F : Fun K "up" "up" s_up f fd) : FnG P w K mg base 1 f fd ["share", "period", "moment"] (spO mg K 3 f_up_c0a7) := by
  refine okO (N := ["share", "period", "moment"]) (io := [false, false, false]) (body := b_up_c0a7) F sc_up rfl rfl (by decide) ?_
  intro cdv A outer s0 H E Z W hgd hr tk hz
  exact (dss_cons (ds_ret (de_neg (de_div (de_mul (de_neg (de_v 0)) (de_v 2)) (de_v 1)))) dss_nil)
end
end Ev
namespace Ev
open PySem L2 OW
open DL (Dt FnG FnAt)
noncomputable section
def b_due_counts_e55b : SF :=
  (sSeq (sExpr (xCall 1 f_need_load_39ed (xRv (xV 0) xR0))) (sSeq (sExpr (xCall 2 f_need_process_1868 (xRv (xV 0) (xRv (xV 1) xR0)))) (sSeq (sExpr (xCall 3 f_need_number_26f5 (xRv (xV 2) (xRv (xK (.int 0)) (xRv (xK .non) xR0))))) (sSeq (sPar 3 4 (xQ (qI (qIx (pV 0) (qK (.int 2))) (qV 1))) (xQ (qIx (pV 0) (qK (.int 1))))) (sSeq (sRet (xTup (xA1 (xCall 3 f_down_19d4 (xRv (xV 3) (xRv (xV 4) (xRv (xV 2) xR0)))) (xA1 (xCall 3 f_up_c0a7 (xRv (xV 3) (xRv (xV 4) (xRv (xV 2) xR0)))) xA0)))) sNil)))))
def f_due_counts_e55b : FO := fnOf 5 [false, false, false] b_due_counts_e55b
end
end Ev
namespace Ev
open PySem L2 OW
open DL (Dt FnG FnAt)
section
variable {P : Program} {w : World} {K : PySem.W.Frag} {mg : Str → Option Value} {base : Heap} {f : Addr} {fd : FuncData}
theorem sc_due_counts : FnScope ["load", "process", "moment", "share", "period"] ["load", "process", "moment"] (defScope s_due_counts) := ⟨rfl, rfl, rfl, by decide +kernel, rfl, by decide +kernel, by decide +kernel⟩
theorem ok_due_counts (T : Txt mg) (G_need_load : FnAt P w K mg base "need_load" s_need_load 3 ["load"] (spO mg K 1 f_need_load_39ed)) (G_need_process : FnAt P w K mg base "need_process" s_need_process 2 ["load", "process"] (spO mg K 2 f_need_process_1868)) (G_need_number : FnAt P w K mg base "need_number" s_need_number 2 ["value", "low", "high"] (spO mg K 3 f_need_number_26f5)) (G_down : FnAt P w K mg base "down" s_down 1 ["share", "period", "moment"] (spO mg K 3 f_down_19d4)) (G_up : FnAt P w K mg base "up" s_up 1 ["share", "period", "moment"] (spO mg K 3 f_up_c0a7)) (F : Fun K "due_counts" "due_counts" s_due_counts f fd) : FnG P w K mg base 4 f fd ["load", "process", "moment"] (spO mg K 3 f_due_counts_e55b) := by
  refine okO (N := ["load", "process", "moment", "share", "period"]) (io := [false, false, false]) (body := b_due_counts_e55b) F sc_due_counts rfl rfl (by decide) ?_
  intro cdv A outer s0 H E Z W hgd hr tk hz
  exact (dss_cons (ds_expr (de_call G_need_load tk hgd (hr.mono (by decide)) (dr_v (de_v 0) dr_0))) (dss_cons (ds_expr (de_call G_need_process tk hgd (hr.mono (by decide)) (dr_v (de_v 0) (dr_v (de_v 1) dr_0)))) (dss_cons (ds_expr (de_call G_need_number tk hgd (hr.mono (by decide)) (dr_v (de_v 2) (dr_v de_int (dr_v de_non dr_0))))) (dss_cons (ds_par 3 4 rfl sc_due_counts.nd (de_q (dq_i (dq_ix (dp_v 0) dq_int) (dq_v 1))) (de_q (dq_ix (dp_v 0) dq_int)) (by rw [hz]; decide) (by rw [hz]; decide)) (dss_cons (ds_ret (de_tup (da_1 (de_call G_down tk hgd (hr.mono (by decide)) (dr_v (de_v 3) (dr_v (de_v 4) (dr_v (de_v 2) dr_0)))) (da_1 (de_call G_up tk hgd (hr.mono (by decide)) (dr_v (de_v 3) (dr_v (de_v 4) (dr_v (de_v 2) dr_0)))) da_0)))) dss_nil)))))
end
end Ev
namespace Ev
open PySem L2 OW
open DL (Dt FnG FnAt)
noncomputable section
def b_is_load_aafb : SF :=
  (sSeq (sRet (xAnd (xIs DL.Dt.isTup (xV 0)) (xAnd (xBin cEq (xC (oBs kLen) (xA1 (xV 0) xA0)) (xK (.int 3))) (xBin cIs (xCall 1 f_wrong_item_33b3 (xRv (xV 0) xR0)) (xK .non))))) sNil)
def f_is_load_aafb : FO := fnOf 1 [false] b_is_load_aafb
end
end Ev
namespace Ev
open PySem L2 OW
open DL (Dt FnG FnAt)
section
variable {P : Program} {w : World} {K : PySem.W.Frag} {mg : Str → Option Value} {base : Heap} {f : Addr} {fd : FuncData}
theorem sc_is_load : FnScope ["value"] ["value"] (defScope s_is_load) := ⟨rfl, rfl, rfl, by decide +kernel, rfl, by decide +kernel, by decide +kernel⟩
theorem ok_is_load (T : Txt mg) (G_wrong_item : FnAt P w K mg base "wrong_item" s_wrong_item 2 ["value"] (spO mg K 1 f_wrong_item_33b3)) (F : Fun K "is_load" "is_load" s_is_load f fd) : FnG P w K mg base 3 f fd ["value"] (spO mg K 1 f_is_load_aafb) := by
  refine okO (N := ["value"]) (io := [false]) (body := b_is_load_aafb) F sc_is_load rfl rfl (by decide) ?_
  intro cdv A outer s0 H E Z W hgd hr tk hz
  exact (dss_cons (ds_ret (de_and (de_isi DL.kit_isTup T.b_isinstance T.b_tuple (de_v 0)) (de_and (DC.e (dc_eq hr (de_kB (fun _ _ h => rf_len h) ⟨_, call_len_seq⟩ T.b_len (da_1 (de_v 0) da_0)) de_int)) (de_one (DC.e (dc_is (de_call G_wrong_item tk hgd (hr.mono (by decide)) (dr_v (de_v 0) dr_0)) de_non)))))) dss_nil)
end
end Ev
namespace Ev
open PySem L2 OW
open DL (Dt FnG FnAt)
noncomputable section
def b_is_full_c14f : SF :=
  (sSeq (sExpr (xCall 1 f_need_load_39ed (xRv (xV 0) xR0))) (sSeq (sRet (xCall 1 f_fills_4399 (xRv (xV 0) xR0))) sNil))
def f_is_full_c14f : FO := fnOf 1 [false] b_is_full_c14f
end
end Ev
namespace Ev
open PySem L2 OW
open DL (Dt FnG FnAt)
section
variable {P : Program} {w : World} {K : PySem.W.Frag} {mg : Str → Option Value} {base : Heap} {f : Addr} {fd : FuncData}
theorem sc_is_full : FnScope ["load"] ["load"] (defScope s_is_full) := ⟨rfl, rfl, rfl, by decide +kernel, rfl, by decide +kernel, by decide +kernel⟩
theorem ok_is_full (T : Txt mg) (G_need_load : FnAt P w K mg base "need_load" s_need_load 3 ["load"] (spO mg K 1 f_need_load_39ed)) (G_fills : FnAt P w K mg base "fills" s_fills 1 ["load"] (spO mg K 1 f_fills_4399)) (F : Fun K "is_full" "is_full" s_is_full f fd) : FnG P w K mg base 4 f fd ["load"] (spO mg K 1 f_is_full_c14f) := by
  refine okO (N := ["load"]) (io := [false]) (body := b_is_full_c14f) F sc_is_full rfl rfl (by decide) ?_
  intro cdv A outer s0 H E Z W hgd hr tk hz
  exact (dss_cons (ds_expr (de_call G_need_load tk hgd (hr.mono (by decide)) (dr_v (de_v 0) dr_0))) (dss_cons (ds_ret (de_call G_fills tk hgd (hr.mono (by decide)) (dr_v (de_v 0) dr_0))) dss_nil))
end
end Ev
namespace Ev
open PySem L2 OW
open DL (Dt FnG FnAt)
noncomputable section
def l1__law_right_85bb : SF :=
  (sFor (iR1 (xK (.int 3))) (gN 9) (sSeq (sPar 10 11 (xCall 2 f__law_draw_ffea (xRi 0 (xRv (xC (oBs kLen) (xA1 (xV 6) xA0)) xR0))) (xCall 2 f__law_draw_ffea (xRi 0 (xRv (xBin bPow (xK (.int 10)) (xK (.int 30))) xR0)))) (sSeq (sTgt (gT (gs1 (gN 12) (gs1 (gN 13) gs0))) (xCall 3 f_due_counts_e55b (xRv (xV 2) (xRv (xV 10) (xRv (xV 11) xR0))))) (sSeq (sIf (tV (xBin cNe (xCall 3 f_due_counts_e55b (xRv (xV 7) (xRv (xV 10) (xRv (xV 11) xR0)))) (xTup (xA1 (xBin bSub (xV 11) (xV 13)) (xA1 (xBin bSub (xV 11) (xV 12)) xA0))))) (sSeq (sRet (xK (.bl false))) sNil) sNil) sNil))))
def x1__law_right_85bb : Fn Ow :=
  (xComp [14] (iL (xV 6)) (gN 14) tY (xBin bSub (xV 5) (xV 14)))
def b__law_right_85bb : SF :=
  (sSeq (sSet 2 (xCall 2 f__law_open_596b (xRi 0 (xRv (xV 1) xR0)))) (sSeq (sTgt (gT (gs1 (gN 3) (gs1 (gN 4) (gs1 (gN 5) (gs1 (gN 6) gs0))))) (xTup (xA1 (xC (oBs kRepr) (xA1 (xV 2) xA0)) (xA1 (xQ (qIx (pV 2) (qK (.int 0)))) (xA1 (xQ (qIx (pV 2) (qK (.int 1)))) (xA1 (xQ (qIx (pV 2) (qK (.int 2)))) xA0)))))) (sSeq (sSet 7 (xTup (xA1 (xBin bSub (xC (oBs kLen) (xA1 (xV 6) xA0)) (xV 4)) (xA1 (xV 5) (xA1 x1__law_right_85bb xA0))))) (sSeq (sSet 8 (xLst (xA1 (xCall 1 f_rest_load_4c5b (xRv (xV 2) xR0)) (xA1 (xCallK 1 1 [0] f_rest_load_4c5b (xA1 (xV 2) xA0)) xA0)))) (sSeq (sIf (tOr (tBor (tV (xBin cNe (xC (oBs kRepr) (xA1 (xV 8) xA0)) (xC (oBs kRepr) (xA1 (xLst (xA1 (xV 7) (xA1 (xV 7) xA0))) xA0))))) (tOr (tNot (tV (xBor (xCall 1 f_is_load_aafb (xRv (xGet (pV 8) (qK (.int 0))) xR0))))) (tNot (tV (xBor (xCall 1 f_is_full_c14f (xRv (xGet (pV 8) (qK (.int 0))) xR0))))))) (sSeq (sRet (xK (.bl false))) sNil) sNil) (sSeq l1__law_right_85bb (sSeq (sAppP (pI (pI (pV 8) (qK (.int 0))) (qK (.int 2))) (qK .non)) (sSeq (sClr (pI (pI (pV 8) (qK (.int 1))) (qK (.int 2)))) (sSeq (sRet (xAnd (xBin cEq (xC (oBs kRepr) (xA1 (xCall 1 f_rest_load_4c5b (xRv (xV 2) xR0)) xA0)) (xC (oBs kRepr) (xA1 (xV 7) xA0))) (xAnd (xBin cEq (xC (oBs kRepr) (xA1 (xCall 1 f_rest_load_4c5b (xRv (xV 7) xR0)) xA0)) (xV 3)) (xBin cEq (xC (oBs kRepr) (xA1 (xV 2) xA0)) (xV 3))))) sNil)))))))))
def f__law_right_85bb : FO := fnOf 15 [true, false] b__law_right_85bb
end
end Ev
namespace Ev
open PySem L2 OW
open DL (Dt FnG FnAt)
section
variable {P : Program} {w : World} {K : PySem.W.Frag} {mg : Str → Option Value} {base : Heap} {f : Addr} {fd : FuncData}
theorem sc__law_right : FnScope ["source", "far", "task", "kept", "units", "span", "parts", "due", "told", "turn", "one", "at", "low", "high", "part"] ["source", "far"] (defScope s__law_right) := ⟨rfl, rfl, rfl, by decide +kernel, rfl, by decide +kernel, by decide +kernel⟩
theorem ok__law_right (T : Txt mg) (G__law_open : FnAt P w K mg base "_law_open" s__law_open 3 ["source", "far"] (spO mg K 2 f__law_open_596b)) (G_rest_load : FnAt P w K mg base "rest_load" s_rest_load 4 ["load"] (spO mg K 1 f_rest_load_4c5b)) (G_due_counts : FnAt P w K mg base "due_counts" s_due_counts 4 ["load", "process", "moment"] (spO mg K 3 f_due_counts_e55b)) (G_is_load : FnAt P w K mg base "is_load" s_is_load 3 ["value"] (spO mg K 1 f_is_load_aafb)) (G_is_full : FnAt P w K mg base "is_full" s_is_full 4 ["load"] (spO mg K 1 f_is_full_c14f)) (G__law_draw : FnAt P w K mg base "_law_draw" s__law_draw 1 ["source", "count"] (spO mg K 2 f__law_draw_ffea)) (F : Fun K "_law_right" "_law_right" s__law_right f fd) : FnG P w K mg base 5 f fd ["source", "far"] (spO mg K 2 f__law_right_85bb) := by
  refine okO (N := ["source", "far", "task", "kept", "units", "span", "parts", "due", "told", "turn", "one", "at", "low", "high", "part"]) (io := [true, false]) (body := b__law_right_85bb) F sc__law_right rfl rfl (by decide) ?_
  intro cdv A outer s0 H E Z W hgd hr tk hz
  exact (dss_cons (ds_set 2 (de_call G__law_open tk hgd (hr.mono (by decide)) (dr_i 0 (dr_v (de_v 1) dr_0))) sc__law_right.nd (by rw [hz]; decide)) (dss_cons (ds_tgt (vs := [3, 4, 5, 6]) (de_tup (da_1 (de_kB (fun _ _ h => rf_repr hgd hr h) ⟨_, DL.cr_repr hgd hr⟩ T.b_repr (da_1 (de_v 2) da_0)) (da_1 (de_q (dq_ix (dp_v 2) dq_int)) (da_1 (de_q (dq_ix (dp_v 2) dq_int)) (da_1 (de_q (dq_ix (dp_v 2) dq_int)) da_0))))) (dg_t rfl (dgs_1 (dg_n 3 sc__law_right.nd (by decide) (by rw [hz]; decide)) (dgs_1 (dg_n 4 sc__law_right.nd (by decide) (by rw [hz]; decide)) (dgs_1 (dg_n 5 sc__law_right.nd (by decide) (by rw [hz]; decide)) (dgs_1 (dg_n 6 sc__law_right.nd (by decide) (by rw [hz]; decide)) dgs_0)))) (fun _ _ _ h => gs1_len (fun _ _ _ h => gs1_len (fun _ _ _ h => gs1_len (fun _ _ _ h => gs1_len (fun _ _ _ h => gs0_len h) h) h) h) h))) (dss_cons (ds_set 7 (de_tup (da_1 (de_sub (de_kB (fun _ _ h => rf_len h) ⟨_, call_len_seq⟩ T.b_len (da_1 (de_v 6) da_0)) (de_v 4)) (da_1 (de_v 5) (da_1 (de_comp rfl (own := [("part", 14)]) (di_l (de_v 6)) (blkOk_by (N := ["source", "far", "task", "kept", "units", "span", "parts", "due", "told", "turn", "one", "at", "low", "high", "part"]) (sc := defScope s__law_right) (own := [("part", 14)]) (by decide +kernel)) sc__law_right.nd (fun _ _ _ _ _ => (dg_n 14 sc__law_right.nd (by decide) (by decide))) (fun _ _ _ _ _ => dts_0) (fun _ _ _ _ _ => (de_sub (de_v 5) (de_v 14)))) da_0)))) sc__law_right.nd (by rw [hz]; decide)) (dss_cons (ds_set 8 (de_lst (da_1 (de_call G_rest_load tk hgd (hr.mono (by decide)) (dr_v (de_v 2) dr_0)) (da_1 (de_callK (ks := ["load"]) [0] G_rest_load tk hgd (hr.mono (by decide)) (fun _ _ _ _ _ _ ws hl => match ws, hl with | [_], _ => rfl) (dk_1 (de_v 2) dk_0)) da_0))) sc__law_right.nd (by rw [hz]; decide)) (dss_cons (ds_if (DW.t (dw_or (dt_bor (DC.t (dc_ne hr (de_kB (fun _ _ h => rf_repr hgd hr h) ⟨_, DL.cr_repr hgd hr⟩ T.b_repr (da_1 (de_v 8) da_0)) (de_kB (fun _ _ h => rf_repr hgd hr h) ⟨_, DL.cr_repr hgd hr⟩ T.b_repr (da_1 (de_lst (da_1 (de_v 7) (da_1 (de_v 7) da_0))) da_0))))) (dw_or (dt_not (dt_v (de_bor (de_call G_is_load tk hgd (hr.mono (by decide)) (dr_v (de_get (dp_v 8) dq_int) dr_0))))) (dw_or1 (dt_not (dt_v (de_bor (de_call G_is_full tk hgd (hr.mono (by decide)) (dr_v (de_get (dp_v 8) dq_int) dr_0))))))))) (dss_cons (ds_ret de_bl) dss_nil) dss_nil) (dss_cons (ds_for (vs := [9]) rfl (di_r1 T.b_range de_int) (dg_n 9 sc__law_right.nd (by decide) (by rw [hz]; decide)) (dss_cons (ds_par 10 11 rfl sc__law_right.nd (de_call G__law_draw tk hgd (hr.mono (by decide)) (dr_i 0 (dr_v (de_kB (fun _ _ h => rf_len h) ⟨_, call_len_seq⟩ T.b_len (da_1 (de_v 6) da_0)) dr_0))) (de_call G__law_draw tk hgd (hr.mono (by decide)) (dr_i 0 (dr_v (de_pow de_int de_int) dr_0))) (by rw [hz]; decide) (by rw [hz]; decide)) (dss_cons (ds_tgt (vs := [12, 13]) (de_call G_due_counts tk hgd (hr.mono (by decide)) (dr_v (de_v 2) (dr_v (de_v 10) (dr_v (de_v 11) dr_0)))) (dg_t rfl (dgs_1 (dg_n 12 sc__law_right.nd (by decide) (by rw [hz]; decide)) (dgs_1 (dg_n 13 sc__law_right.nd (by decide) (by rw [hz]; decide)) dgs_0)) (fun _ _ _ h => gs1_len (fun _ _ _ h => gs1_len (fun _ _ _ h => gs0_len h) h) h))) (dss_cons (ds_if (DC.t (dc_ne hr (de_call G_due_counts tk hgd (hr.mono (by decide)) (dr_v (de_v 7) (dr_v (de_v 10) (dr_v (de_v 11) dr_0)))) (de_tup (da_1 (de_sub (de_v 11) (de_v 13)) (da_1 (de_sub (de_v 11) (de_v 12)) da_0))))) (dss_cons (ds_ret de_bl) dss_nil) dss_nil) dss_nil))) (passes_of rfl)) (dss_cons (ds_appP (dp_i (dp_i (dp_v 8) dq_int) dq_int) dq_non) (dss_cons (ds_clr (dp_i (dp_i (dp_v 8) dq_int) dq_int)) (dss_cons (ds_ret (de_and (DC.e (dc_eq hr (de_kB (fun _ _ h => rf_repr hgd hr h) ⟨_, DL.cr_repr hgd hr⟩ T.b_repr (da_1 (de_call G_rest_load tk hgd (hr.mono (by decide)) (dr_v (de_v 2) dr_0)) da_0)) (de_kB (fun _ _ h => rf_repr hgd hr h) ⟨_, DL.cr_repr hgd hr⟩ T.b_repr (da_1 (de_v 7) da_0)))) (de_and (DC.e (dc_eq hr (de_kB (fun _ _ h => rf_repr hgd hr h) ⟨_, DL.cr_repr hgd hr⟩ T.b_repr (da_1 (de_call G_rest_load tk hgd (hr.mono (by decide)) (dr_v (de_v 7) dr_0)) da_0)) (de_v 3))) (de_one (DC.e (dc_eq hr (de_kB (fun _ _ h => rf_repr hgd hr h) ⟨_, DL.cr_repr hgd hr⟩ T.b_repr (da_1 (de_v 2) da_0)) (de_v 3))))))) dss_nil)))))))))
end
end Ev
namespace Ev
open PySem L2 OW
open DL (Dt FnG FnAt)
noncomputable section
def l1_law_4802 : SF :=
  (sFor (iL (xLst (xA1 (xK (.int 3)) (xA1 (xK (.int 39)) (xA1 (xBin bSub (xBin bPow (xK (.int 10)) (xK (.int 30))) (xK (.int 2))) xA0))))) (gN 4) (sSeq (sIf (tNot (tV (xCall 2 f__law_right_85bb (xRi 3 (xRv (xV 4) xR0))))) (sSeq (sRet (xK (.bl false))) sNil) sNil) sNil))
def l2_law_4802 : SF :=
  (sFor (iE (xSl (xBin bAdd (xV 0) (xLst (xA1 (xK (.int 0)) xA0))) oN (oS (xC (oBs kMax) (xA1 (xK (.int 1)) (xA1 (xC (oBs kMin) (xA1 (xC (oBs kLen) (xA1 (xV 0) xA0)) (xA1 (xK (.int 10)) xA0))) xA0)))))) (gT (gs1 (gN 1) (gs1 (gN 2) gs0))) (sSeq (sSet 3 (xCall 2 f__law_source_1d92 (xRv (xV 2) (xRv (xV 1) xR0)))) (sSeq l1_law_4802 sNil)))
def b_law_4802 : SF :=
  (sSeq l2_law_4802 (sSeq (sRet (xBin cEq (xCall 1 f_rest_load_4c5b (xRv (xTup (xA1 (xK (.int 2)) (xA1 (xK (.int 3)) (xA1 (xLst (xA1 (xK (.int 2)) (xA1 (xK (.int 2)) (xA1 (xK (.int 2)) xA0)))) xA0)))) xR0)) (xTup (xA1 (xK (.int 1)) (xA1 (xK (.int 3)) (xA1 (xLst (xA1 (xK (.int 1)) (xA1 (xK (.int 1)) (xA1 (xK (.int 1)) xA0)))) xA0)))))) sNil))
def f_law_4802 : FO := fnOf 5 [false] b_law_4802
end
end Ev
namespace Ev
open PySem L2 OW
open DL (Dt FnG FnAt)
section
variable {P : Program} {w : World} {K : PySem.W.Frag} {mg : Str → Option Value} {base : Heap} {f : Addr} {fd : FuncData}
theorem sc_law : FnScope ["script", "k", "cell", "source", "far"] ["script"] (defScope s_law) := ⟨rfl, rfl, rfl, by decide +kernel, rfl, by decide +kernel, by decide +kernel⟩
theorem ok_law (T : Txt mg) (G__law_source : FnAt P w K mg base "_law_source" s__law_source 1 ["cell", "k"] (spO mg K 2 f__law_source_1d92)) (G_rest_load : FnAt P w K mg base "rest_load" s_rest_load 4 ["load"] (spO mg K 1 f_rest_load_4c5b)) (G__law_right : FnAt P w K mg base "_law_right" s__law_right 5 ["source", "far"] (spO mg K 2 f__law_right_85bb)) (F : Fun K "law" "law" s_law f fd) : FnG P w K mg base 6 f fd ["script"] (spO mg K 1 f_law_4802) := by
  refine okO (N := ["script", "k", "cell", "source", "far"]) (io := [false]) (body := b_law_4802) F sc_law rfl rfl (by decide) ?_
  intro cdv A outer s0 H E Z W hgd hr tk hz
  exact (dss_cons (ds_for (vs := [1, 2]) rfl (di_e T.b_enumerate (de_sl (de_add (de_v 0) (de_lst (da_1 de_int da_0))) do_n (do_s (de_kB (fun _ _ h => rf_max rfl h) ⟨_, cr_max rfl⟩ T.b_max (da_1 de_int (da_1 (de_kB (fun _ _ h => rf_min rfl h) ⟨_, cr_min rfl⟩ T.b_min (da_1 (de_kB (fun _ _ h => rf_len h) ⟨_, call_len_seq⟩ T.b_len (da_1 (de_v 0) da_0)) (da_1 de_int da_0))) da_0)))))) (dg_t rfl (dgs_1 (dg_n 1 sc_law.nd (by decide) (by rw [hz]; decide)) (dgs_1 (dg_n 2 sc_law.nd (by decide) (by rw [hz]; decide)) dgs_0)) (fun _ _ _ h => gs1_len (fun _ _ _ h => gs1_len (fun _ _ _ h => gs0_len h) h) h)) (dss_cons (ds_set 3 (de_call G__law_source tk hgd (hr.mono (by decide)) (dr_v (de_v 2) (dr_v (de_v 1) dr_0))) sc_law.nd (by rw [hz]; decide)) (dss_cons (ds_for (vs := [4]) rfl (di_l (de_lst (da_1 de_int (da_1 de_int (da_1 (de_sub (de_pow de_int de_int) de_int) da_0))))) (dg_n 4 sc_law.nd (by decide) (by rw [hz]; decide)) (dss_cons (ds_if (dt_not (dt_v (de_call G__law_right tk hgd (hr.mono (by decide)) (dr_i 3 (dr_v (de_v 4) dr_0))))) (dss_cons (ds_ret de_bl) dss_nil) dss_nil) dss_nil) (passes_of rfl)) dss_nil)) (passes_of rfl)) (dss_cons (ds_ret (DC.e (dc_eq hr (de_call G_rest_load tk hgd (hr.mono (by decide)) (dr_v (de_tup (da_1 de_int (da_1 de_int (da_1 (de_lst (da_1 de_int (da_1 de_int (da_1 de_int da_0)))) da_0)))) dr_0)) (de_tup (da_1 de_int (da_1 de_int (da_1 (de_lst (da_1 de_int (da_1 de_int (da_1 de_int da_0)))) da_0))))))) dss_nil))
end
end Ev
namespace Ev
open PySem L2 OW
open DL (Dt FnG FnAt)
noncomputable section
def l1__law_parts_6cc4 : SF :=
  (sFor (iR1 (xV 2)) (gN 6) (sSeq (sPar 7 8 (xC (oBs kMax) (xA1 (xK (.int 1)) (xA1 (xBin bSub (xV 5) (xBin bMul (xV 3) (xBin bSub (xBin bSub (xV 2) (xV 6)) (xK (.int 1))))) xA0))) (xC (oBs kMin) (xA1 (xV 3) (xA1 (xBin bSub (xV 5) (xBin bSub (xBin bSub (xV 2) (xV 6)) (xK (.int 1)))) xA0)))) (sSeq (sApp 4 (xBin bAdd (xV 7) (xCall 2 f__law_draw_ffea (xRi 0 (xRv (xBin bAdd (xBin bSub (xV 8) (xV 7)) (xK (.int 1))) xR0))))) (sSeq (sSet 5 (xBin bSub (xV 5) (xGet (pV 4) (qK (.int (-1)))))) sNil))))
def b__law_parts_6cc4 : SF :=
  (sSeq (sPar 4 5 (xLst xA0) (xV 1)) (sSeq l1__law_parts_6cc4 (sSeq (sRet (xM 4)) sNil)))
def f__law_parts_6cc4 : FO := fnOf 9 [true, false, false, false] b__law_parts_6cc4
end
end Ev
namespace Ev
open PySem L2 OW
open DL (Dt FnG FnAt)
noncomputable section
def b__law_load_82d4 : SF :=
  (sSeq (sSet 4 (xBin bMul (xV 1) (xV 2))) (sSeq (sSet 5 (xC (oBs kMin) (xA1 (xV 3) (xA1 (xV 4) (xA1 (xBin bAdd (xV 1) (xCall 2 f__law_draw_ffea (xRi 0 (xRv (xV 3) xR0)))) xA0))))) (sSeq (sIf (tOr (tV (xBin cLt (xV 5) (xV 1))) (tV (xBin cEq (xCall 2 f__law_draw_ffea (xRi 0 (xRv (xK (.int 3)) xR0))) (xK (.int 0))))) (sSeq (sSet 4 (xBin bAdd (xV 5) (xCall 2 f__law_draw_ffea (xRi 0 (xRv (xBin bAdd (xBin bSub (xBin bMul (xC (oBs kMin) (xA1 (xV 1) (xA1 (xV 5) xA0))) (xV 2)) (xV 5)) (xK (.int 1))) xR0))))) sNil) sNil) (sSeq (sRet (xTup (xA1 (xV 1) (xA1 (xV 2) (xA1 (xCall 4 f__law_parts_6cc4 (xRi 0 (xRv (xV 4) (xRv (xV 5) (xRv (xV 2) xR0))))) xA0))))) sNil))))
def f__law_load_82d4 : FO := fnOf 6 [true, false, false, false] b__law_load_82d4
end
end Ev
namespace Ev
open PySem L2 OW
open DL (Dt FnG FnAt)
noncomputable section
def b__law_single_ca21 : SF :=
  (sSeq (sRet (xCall 4 f__law_load_82d4 (xRi 0 (xRv (xK (.int 1)) (xRv (xBin bAdd (xK (.int 1)) (xCall 2 f__law_draw_ffea (xRi 0 (xRv (xV 1) xR0)))) (xRv (xK (.int 6)) xR0)))))) sNil)
def f__law_single_ca21 : FO := fnOf 2 [true, false] b__law_single_ca21
end
end Ev
namespace Ev
open OW
open DL (Dt)
def srcO (s : Src) : Ow := .n .lst [.f (.int s.a), .f (.int s.b), .f (.int s.c)]
theorem bd_sz {n : Nat} {i : Int} (h : DL.Bd n i) : Sz n i := ⟨h⟩
/-- the source is sound: n bounds the turns -/
structure SOk (s : Src) : Prop where
  a0 : 0 ≤ s.a
  b0 : Sz 200 s.b
  c0 : 0 ≤ s.c
  c1 : Sz 64 s.c
theorem draw_eval {s : Src} {n : Int} (hb : Sz 200 s.b) (hc : Sz 64 s.c) (h : 0 < n) (hn : Bn n = true) : f__law_draw_ffea [srcO s, .f (.int n)] = some (.rt (.f (.int (draw s n).1)) [srcO (draw s n).2, .no]) := by
  unfold draw srcO mix2 mix1
  by_cases ha : 0 < s.a
  · simp (implicitDefEqProofs := false) (decide := true) (maxDischargeDepth := 9) [e_bnd, e_ret, e_opt, kO_s, kO_n, kO_i, kB_n, kB_o, kB_x, kB_i, e_val, kV_n, kV_o, kV_x, kV_i, e_seq, kS_n, kS_nx, kS_rt, kS_bk, kS_ct, kS_ex, kS_i, e_nil, e_pass, e_brk, e_cnt, e_sret, e_sretN, e_expr, e_if, e_set, e_par, e_par3, kP3_3, e_tgt, kTg_f, kTg_n, e_gN, e_gT, e_gs0, e_gs1, e_aug, kAg_i, e_app, kAp_l, e_item, e_for, e_forN, e_fn, kF_n, kF_nx, kF_rt, kF_ex, kF_i, e_outs0, e_outsT, e_outsF, e_K, e_Vf, e_Mf, e_bin, e_un, e_A0, e_A1, e_lst, e_tup, e_C, e_tV, kT_b, e_tAnd, e_tOr, e_tNot, e_xNot, kNt_b, e_xAnd, kAn_b, e_xOr, kOr_b, e_xIf, e_ch, kCh_i, kCz_i, e_is, e_Q, e_Rg1, e_Rg2, e_Sl, kSl_f, e_oN, e_oS, e_call, kA_rt, kA_ex, kA_n, kA_i, e_R0, e_Rv, e_Ri, e_callK, kCK_f, e_take0, e_takeV, e_takeI, e_put0, e_putV, e_putI, fz_f, fz_l, fzs_0, fzs_1, fzs_map, fzs_mapI, fzs_1l, e_b1, e_b2, e_b2g, e_bs, v_bn, v_add, v_sub, v_mul, v_div, v_mod, v_pow, v_neg, v_catNN, v_catFN, v_catNF, v_catFF, v_rep, v_lt, v_le, v_gt, v_ge, v_is, v_isN, v_isO, v_isNO, v_non, v_nonI, v_nonL, v_nonT, v_nonB, v_eqI, v_neI, v_eqS, v_neS, v_lenL, v_lenT, v_abs, v_max2, v_min2, v_min3, v_intsM, v_ints0, v_ints1, v_blsM, v_blsF, v_intsF, v_maxL, v_minL, v_sum, v_sort, v_all, v_any, v_int, v_intB, v_list, v_listT, v_tuple, v_kIsN, v_kIsI, v_kIsL, v_kIsT, v_kIsB, v_isInt, v_isBool, v_isLst, v_isTup, v_repr, v_at, v_atL, v_atN, v_ixT, v_ixL, v_ixN, e_qK, e_qV, v_gKd, v_gOs, v_gLs, v_gDs, v_gDsT, v_gF, v_gI, v_isNn, e_Vn', e_Mn', v_isNo1, v_isNo2, e_pV, e_qIxF, e_qIxN, e_qI, e_qB, e_get, kIt_l', v_ixLit, v_ix0, v_at0, v_at1, v_ix1, e_apply', e_eB, e_cK, e_cT1, e_cT2, e_cTb, e_wipe0, e_wipe1, e_back0, e_back1, v_bkF, v_bkNo, v_bkN, v_tY, v_Vg, v_atLast, v_ixS, v_setLast, v_fzSnoc, v_fzSnocC, v_LIM, v_fzF, v_fzC, v_fzFF, v_intsC, v_blsC, e_SrtSet, v_ss, e_tup2, kT2_2, v_minPI, v_minPP, v_isB, e_tBor, kTb_o, v_frzS_f, v_frzS_no, v_frzS_n, e_appP, e_clrP, v_appEach0, v_appEach1, v_appEachM, e_forApp0, e_forApp1, e_AS, v_kFl, e_tpo, v_ixTp, fz_tp, f__law_draw_ffea, b__law_draw_ffea, ha, h, hn]
  · simp (implicitDefEqProofs := false) (decide := true) (maxDischargeDepth := 9) [e_bnd, e_ret, e_opt, kO_s, kO_n, kO_i, kB_n, kB_o, kB_x, kB_i, e_val, kV_n, kV_o, kV_x, kV_i, e_seq, kS_n, kS_nx, kS_rt, kS_bk, kS_ct, kS_ex, kS_i, e_nil, e_pass, e_brk, e_cnt, e_sret, e_sretN, e_expr, e_if, e_set, e_par, e_par3, kP3_3, e_tgt, kTg_f, kTg_n, e_gN, e_gT, e_gs0, e_gs1, e_aug, kAg_i, e_app, kAp_l, e_item, e_for, e_forN, e_fn, kF_n, kF_nx, kF_rt, kF_ex, kF_i, e_outs0, e_outsT, e_outsF, e_K, e_Vf, e_Mf, e_bin, e_un, e_A0, e_A1, e_lst, e_tup, e_C, e_tV, kT_b, e_tAnd, e_tOr, e_tNot, e_xNot, kNt_b, e_xAnd, kAn_b, e_xOr, kOr_b, e_xIf, e_ch, kCh_i, kCz_i, e_is, e_Q, e_Rg1, e_Rg2, e_Sl, kSl_f, e_oN, e_oS, e_call, kA_rt, kA_ex, kA_n, kA_i, e_R0, e_Rv, e_Ri, e_callK, kCK_f, e_take0, e_takeV, e_takeI, e_put0, e_putV, e_putI, fz_f, fz_l, fzs_0, fzs_1, fzs_map, fzs_mapI, fzs_1l, e_b1, e_b2, e_b2g, e_bs, v_bn, v_add, v_sub, v_mul, v_div, v_mod, v_pow, v_neg, v_catNN, v_catFN, v_catNF, v_catFF, v_rep, v_lt, v_le, v_gt, v_ge, v_is, v_isN, v_isO, v_isNO, v_non, v_nonI, v_nonL, v_nonT, v_nonB, v_eqI, v_neI, v_eqS, v_neS, v_lenL, v_lenT, v_abs, v_max2, v_min2, v_min3, v_intsM, v_ints0, v_ints1, v_blsM, v_blsF, v_intsF, v_maxL, v_minL, v_sum, v_sort, v_all, v_any, v_int, v_intB, v_list, v_listT, v_tuple, v_kIsN, v_kIsI, v_kIsL, v_kIsT, v_kIsB, v_isInt, v_isBool, v_isLst, v_isTup, v_repr, v_at, v_atL, v_atN, v_ixT, v_ixL, v_ixN, e_qK, e_qV, v_gKd, v_gOs, v_gLs, v_gDs, v_gDsT, v_gF, v_gI, v_isNn, e_Vn', e_Mn', v_isNo1, v_isNo2, e_pV, e_qIxF, e_qIxN, e_qI, e_qB, e_get, kIt_l', v_ixLit, v_ix0, v_at0, v_at1, v_ix1, e_apply', e_eB, e_cK, e_cT1, e_cT2, e_cTb, e_wipe0, e_wipe1, e_back0, e_back1, v_bkF, v_bkNo, v_bkN, v_tY, v_Vg, v_atLast, v_ixS, v_setLast, v_fzSnoc, v_fzSnocC, v_LIM, v_fzF, v_fzC, v_fzFF, v_intsC, v_blsC, e_SrtSet, v_ss, e_tup2, kT2_2, v_minPI, v_minPP, v_isB, e_tBor, kTb_o, v_frzS_f, v_frzS_no, v_frzS_n, e_appP, e_clrP, v_appEach0, v_appEach1, v_appEachM, e_forApp0, e_forApp1, e_AS, v_kFl, e_tpo, v_ixTp, fz_tp, f__law_draw_ffea, b__law_draw_ffea, ha, h, hn]
end Ev
namespace Ev
open OW
open DL (Dt)
theorem source_eval {cell k : Int} [Sz 64 k] : f__law_source_1d92 [.f (.int cell), .f (.int k)] = some (.rt (srcO (src cell k)) [.no, .no]) := by
  unfold srcO src DL.b2n
  simp (implicitDefEqProofs := false) (decide := true) (maxDischargeDepth := 9) [e_bnd, e_ret, e_opt, kO_s, kO_n, kO_i, kB_n, kB_o, kB_x, kB_i, e_val, kV_n, kV_o, kV_x, kV_i, e_seq, kS_n, kS_nx, kS_rt, kS_bk, kS_ct, kS_ex, kS_i, e_nil, e_pass, e_brk, e_cnt, e_sret, e_sretN, e_expr, e_if, e_set, e_par, e_par3, kP3_3, e_tgt, kTg_f, kTg_n, e_gN, e_gT, e_gs0, e_gs1, e_aug, kAg_i, e_app, kAp_l, e_item, e_for, e_forN, e_fn, kF_n, kF_nx, kF_rt, kF_ex, kF_i, e_outs0, e_outsT, e_outsF, e_K, e_Vf, e_Mf, e_bin, e_un, e_A0, e_A1, e_lst, e_tup, e_C, e_tV, kT_b, e_tAnd, e_tOr, e_tNot, e_xNot, kNt_b, e_xAnd, kAn_b, e_xOr, kOr_b, e_xIf, e_ch, kCh_i, kCz_i, e_is, e_Q, e_Rg1, e_Rg2, e_Sl, kSl_f, e_oN, e_oS, e_call, kA_rt, kA_ex, kA_n, kA_i, e_R0, e_Rv, e_Ri, e_callK, kCK_f, e_take0, e_takeV, e_takeI, e_put0, e_putV, e_putI, fz_f, fz_l, fzs_0, fzs_1, fzs_map, fzs_mapI, fzs_1l, e_b1, e_b2, e_b2g, e_bs, v_bn, v_add, v_sub, v_mul, v_div, v_mod, v_pow, v_neg, v_catNN, v_catFN, v_catNF, v_catFF, v_rep, v_lt, v_le, v_gt, v_ge, v_is, v_isN, v_isO, v_isNO, v_non, v_nonI, v_nonL, v_nonT, v_nonB, v_eqI, v_neI, v_eqS, v_neS, v_lenL, v_lenT, v_abs, v_max2, v_min2, v_min3, v_intsM, v_ints0, v_ints1, v_blsM, v_blsF, v_intsF, v_maxL, v_minL, v_sum, v_sort, v_all, v_any, v_int, v_intB, v_list, v_listT, v_tuple, v_kIsN, v_kIsI, v_kIsL, v_kIsT, v_kIsB, v_isInt, v_isBool, v_isLst, v_isTup, v_repr, v_at, v_atL, v_atN, v_ixT, v_ixL, v_ixN, e_qK, e_qV, v_gKd, v_gOs, v_gLs, v_gDs, v_gDsT, v_gF, v_gI, v_isNn, e_Vn', e_Mn', v_isNo1, v_isNo2, e_pV, e_qIxF, e_qIxN, e_qI, e_qB, e_get, kIt_l', v_ixLit, v_ix0, v_at0, v_at1, v_ix1, e_apply', e_eB, e_cK, e_cT1, e_cT2, e_cTb, e_wipe0, e_wipe1, e_back0, e_back1, v_bkF, v_bkNo, v_bkN, v_tY, v_Vg, v_atLast, v_ixS, v_setLast, v_fzSnoc, v_fzSnocC, v_LIM, v_fzF, v_fzC, v_fzFF, v_intsC, v_blsC, e_SrtSet, v_ss, e_tup2, kT2_2, v_minPI, v_minPP, v_isB, e_tBor, kTb_o, v_frzS_f, v_frzS_no, v_frzS_n, e_appP, e_clrP, v_appEach0, v_appEach1, v_appEachM, e_forApp0, e_forApp1, e_AS, v_kFl, e_tpo, v_ixTp, fz_tp, f__law_source_1d92, b__law_source_1d92]
theorem Src.Ok.sb {s : Src} {n : Nat} (k : s.Ok n) : Sz 200 s.b := ⟨k.b0⟩
theorem Src.Ok.sc {s : Src} {n : Nat} (k : s.Ok n) (h : n ≤ 10 ^ 15) : Sz 64 s.c := (sz_of (n := 64) (by have := k.c0; omega) (by have := k.cn; omega))
theorem draw_ev {s : Src} {m : Nat} {n : Int} (k : s.Ok m) (hm : m ≤ 10 ^ 15) (h : 0 < n) (hn : Bn n = true) : f__law_draw_ffea [srcO s, .f (.int n)] = some (.rt (.f (.int (draw s n).1)) [srcO (draw s n).2, .no]) := draw_eval k.sb (k.sc hm) h hn
theorem srcO_no {s : Src} : srcO s ≠ .no := by unfold srcO; exact fun h => by cases h
theorem rng_at {n j : Nat} {d : Dt} (h : ((DL.rng 0 n).map Dt.int)[j]? = some d) : j < n ∧ d = .int (j : Int) := by
  obtain ⟨a, b⟩ := DL.rng_get h
  exact ⟨a, by rw [b]; simp⟩
theorem parts_eval {far : Int} {many : Nat} {whole : Int} {s : Src} {n : Nat} (hf : 1 ≤ far) [hF : Sz 150 far] (h : Fits far many whole) (k : s.Ok n) (hn : n + many ≤ 10 ^ 15) (hm : many ≤ 1000) :
    f__law_parts_6cc4 [srcO s, .f (.int whole), .f (.int many), .f (.int far)] = some (.rt (.n .lst ((parts far many whole s).1.map fun x => .f (.int x))) [srcO (parts far many whole s).2, .no, .no, .no]) := by
  obtain ⟨ρ, e, left, o6, o7, o8, rfl⟩ : ∃ ρ, l1__law_parts_6cc4 [srcO s, .f (.int whole), .f (.int many), .f (.int far), .n .lst [], .f (.int whole), .no, .no, .no] = some (.nx ρ) ∧ ∃ left o6 o7 o8, ρ = [srcO (parts far many whole s).2, .f (.int whole), .f (.int many), .f (.int far), .n .lst ((parts far many whole s).1.map fun x => .f (.int x)), left, o6, o7, o8] := by
    refine wp_nx ?_
    unfold l1__law_parts_6cc4
    rw [e_for, iR1_f (n := many) (ρ1 := [srcO s, .f (.int whole), .f (.int many), .f (.int far), .n .lst [], .f (.int whole), .no, .no, .no]) (by simp (implicitDefEqProofs := false) (decide := true) (maxDischargeDepth := 9) [e_bnd, e_ret, e_opt, kO_s, kO_n, kO_i, kB_n, kB_o, kB_x, kB_i, e_val, kV_n, kV_o, kV_x, kV_i, e_seq, kS_n, kS_nx, kS_rt, kS_bk, kS_ct, kS_ex, kS_i, e_nil, e_pass, e_brk, e_cnt, e_sret, e_sretN, e_expr, e_if, e_set, e_par, e_par3, kP3_3, e_tgt, kTg_f, kTg_n, e_gN, e_gT, e_gs0, e_gs1, e_aug, kAg_i, e_app, kAp_l, e_item, e_for, e_forN, e_fn, kF_n, kF_nx, kF_rt, kF_ex, kF_i, e_outs0, e_outsT, e_outsF, e_K, e_Vf, e_Mf, e_bin, e_un, e_A0, e_A1, e_lst, e_tup, e_C, e_tV, kT_b, e_tAnd, e_tOr, e_tNot, e_xNot, kNt_b, e_xAnd, kAn_b, e_xOr, kOr_b, e_xIf, e_ch, kCh_i, kCz_i, e_is, e_Q, e_Rg1, e_Rg2, e_Sl, kSl_f, e_oN, e_oS, e_call, kA_rt, kA_ex, kA_n, kA_i, e_R0, e_Rv, e_Ri, e_callK, kCK_f, e_take0, e_takeV, e_takeI, e_put0, e_putV, e_putI, fz_f, fz_l, fzs_0, fzs_1, fzs_map, fzs_mapI, fzs_1l, e_b1, e_b2, e_b2g, e_bs, v_bn, v_add, v_sub, v_mul, v_div, v_mod, v_pow, v_neg, v_catNN, v_catFN, v_catNF, v_catFF, v_rep, v_lt, v_le, v_gt, v_ge, v_is, v_isN, v_isO, v_isNO, v_non, v_nonI, v_nonL, v_nonT, v_nonB, v_eqI, v_neI, v_eqS, v_neS, v_lenL, v_lenT, v_abs, v_max2, v_min2, v_min3, v_intsM, v_ints0, v_ints1, v_blsM, v_blsF, v_intsF, v_maxL, v_minL, v_sum, v_sort, v_all, v_any, v_int, v_intB, v_list, v_listT, v_tuple, v_kIsN, v_kIsI, v_kIsL, v_kIsT, v_kIsB, v_isInt, v_isBool, v_isLst, v_isTup, v_repr, v_at, v_atL, v_atN, v_ixT, v_ixL, v_ixN, e_qK, e_qV, v_gKd, v_gOs, v_gLs, v_gDs, v_gDsT, v_gF, v_gI, v_isNn, e_Vn', e_Mn', v_isNo1, v_isNo2, e_pV, e_qIxF, e_qIxN, e_qI, e_qB, e_get, kIt_l', v_ixLit, v_ix0, v_at0, v_at1, v_ix1, e_apply', e_eB, e_cK, e_cT1, e_cT2, e_cTb, e_wipe0, e_wipe1, e_back0, e_back1, v_bkF, v_bkNo, v_bkN, v_tY, v_Vg, v_atLast, v_ixS, v_setLast, v_fzSnoc, v_fzSnocC, v_LIM, v_fzF, v_fzC, v_fzFF, v_intsC, v_blsC, e_SrtSet, v_ss, e_tup2, kT2_2, v_minPI, v_minPP, v_isB, e_tBor, kTb_o, v_frzS_f, v_frzS_no, v_frzS_n, e_appP, e_clrP, v_appEach0, v_appEach1, v_appEachM, e_forApp0, e_forApp1, e_AS, v_kFl, e_tpo, v_ixTp, fz_tp, ]), kV_o]
    refine w_for (fun j ρ => ∃ (acc : List Int) (left : Int) (t : Src) (o6 o7 o8 : Ow), ρ = [srcO t, .f (.int whole), .f (.int many), .f (.int far), .n .lst (acc.map fun x => .f (.int x)), .f (.int left), o6, o7, o8] ∧ j ≤ many ∧ acc.length = j ∧ Fits far (many - j) left ∧ t.Ok (n + j) ∧ parts far many whole s = (acc ++ (parts far (many - j) left t).1, (parts far (many - j) left t).2)) ⟨[], whole, s, .no, .no, .no, rfl, Nat.zero_le _, rfl, h, k, rfl⟩ ?_ ?_
    · intro j d ρ hd ⟨acc, left, t, o6, o7, o8, e1, e2, e3, e4, e5, e6⟩
      obtain ⟨hj, rfl⟩ := rng_at hd
      subst e1
      obtain ⟨m, hm'⟩ : ∃ m, many - j = m + 1 := ⟨many - j - 1, by omega⟩
      rw [hm'] at e4 e6
      obtain ⟨q1, q2, q3⟩ := fits_pos hf e4
      have er : (many : Int) - j - 1 = m := by omega
      have hp : 0 < highOf far left m - lowOf far left m + 1 := by omega
      haveI hs : Sz 150 (highOf far left m - lowOf far left m + 1) := hF.of0 (by omega) (by omega)
      have ed := draw_ev e5 (by omega) hp (bn_sz (by decide))
      have el : max 1 (left - far * m) = lowOf far left m := rfl
      have eh : min far (left - m) = highOf far left m := rfl
      refine ⟨[srcO t, .f (.int whole), .f (.int many), .f (.int far), .n .lst (acc.map fun x => .f (.int x)), .f (.int left), .f (.int j), o7, o8], by simp (implicitDefEqProofs := false) (decide := true) (maxDischargeDepth := 9) [e_bnd, e_ret, e_opt, kO_s, kO_n, kO_i, kB_n, kB_o, kB_x, kB_i, e_val, kV_n, kV_o, kV_x, kV_i, e_seq, kS_n, kS_nx, kS_rt, kS_bk, kS_ct, kS_ex, kS_i, e_nil, e_pass, e_brk, e_cnt, e_sret, e_sretN, e_expr, e_if, e_set, e_par, e_par3, kP3_3, e_tgt, kTg_f, kTg_n, e_gN, e_gT, e_gs0, e_gs1, e_aug, kAg_i, e_app, kAp_l, e_item, e_for, e_forN, e_fn, kF_n, kF_nx, kF_rt, kF_ex, kF_i, e_outs0, e_outsT, e_outsF, e_K, e_Vf, e_Mf, e_bin, e_un, e_A0, e_A1, e_lst, e_tup, e_C, e_tV, kT_b, e_tAnd, e_tOr, e_tNot, e_xNot, kNt_b, e_xAnd, kAn_b, e_xOr, kOr_b, e_xIf, e_ch, kCh_i, kCz_i, e_is, e_Q, e_Rg1, e_Rg2, e_Sl, kSl_f, e_oN, e_oS, e_call, kA_rt, kA_ex, kA_n, kA_i, e_R0, e_Rv, e_Ri, e_callK, kCK_f, e_take0, e_takeV, e_takeI, e_put0, e_putV, e_putI, fz_f, fz_l, fzs_0, fzs_1, fzs_map, fzs_mapI, fzs_1l, e_b1, e_b2, e_b2g, e_bs, v_bn, v_add, v_sub, v_mul, v_div, v_mod, v_pow, v_neg, v_catNN, v_catFN, v_catNF, v_catFF, v_rep, v_lt, v_le, v_gt, v_ge, v_is, v_isN, v_isO, v_isNO, v_non, v_nonI, v_nonL, v_nonT, v_nonB, v_eqI, v_neI, v_eqS, v_neS, v_lenL, v_lenT, v_abs, v_max2, v_min2, v_min3, v_intsM, v_ints0, v_ints1, v_blsM, v_blsF, v_intsF, v_maxL, v_minL, v_sum, v_sort, v_all, v_any, v_int, v_intB, v_list, v_listT, v_tuple, v_kIsN, v_kIsI, v_kIsL, v_kIsT, v_kIsB, v_isInt, v_isBool, v_isLst, v_isTup, v_repr, v_at, v_atL, v_atN, v_ixT, v_ixL, v_ixN, e_qK, e_qV, v_gKd, v_gOs, v_gLs, v_gDs, v_gDsT, v_gF, v_gI, v_isNn, e_Vn', e_Mn', v_isNo1, v_isNo2, e_pV, e_qIxF, e_qIxN, e_qI, e_qB, e_get, kIt_l', v_ixLit, v_ix0, v_at0, v_at1, v_ix1, e_apply', e_eB, e_cK, e_cT1, e_cT2, e_cTb, e_wipe0, e_wipe1, e_back0, e_back1, v_bkF, v_bkNo, v_bkN, v_tY, v_Vg, v_atLast, v_ixS, v_setLast, v_fzSnoc, v_fzSnocC, v_LIM, v_fzF, v_fzC, v_fzFF, v_intsC, v_blsC, e_SrtSet, v_ss, e_tup2, kT2_2, v_minPI, v_minPP, v_isB, e_tBor, kTb_o, v_frzS_f, v_frzS_no, v_frzS_n, e_appP, e_clrP, v_appEach0, v_appEach1, v_appEachM, e_forApp0, e_forApp1, e_AS, v_kFl, e_tpo, v_ixTp, fz_tp, ], ?_⟩
      haveI : Sz 64 (many : Int) := sz_of (by omega) (by omega)
      haveI : Sz 64 (j : Int) := sz_of (by omega) (by omega)
      haveI : Sz 64 (m : Int) := sz_of (by omega) (by omega)
      have hL : acc.length < 1000000 := by omega
      refine wp_eq (.nx [srcO (draw t (highOf far left m - lowOf far left m + 1)).2, .f (.int whole), .f (.int many), .f (.int far), .n .lst ((acc ++ [lowOf far left m + (draw t (highOf far left m - lowOf far left m + 1)).1]).map fun x => .f (.int x)), .f (.int (left - (lowOf far left m + (draw t (highOf far left m - lowOf far left m + 1)).1))), .f (.int j), .f (.int (lowOf far left m)), .f (.int (highOf far left m))]) (by simp (implicitDefEqProofs := false) (decide := true) (maxDischargeDepth := 9) [e_bnd, e_ret, e_opt, kO_s, kO_n, kO_i, kB_n, kB_o, kB_x, kB_i, e_val, kV_n, kV_o, kV_x, kV_i, e_seq, kS_n, kS_nx, kS_rt, kS_bk, kS_ct, kS_ex, kS_i, e_nil, e_pass, e_brk, e_cnt, e_sret, e_sretN, e_expr, e_if, e_set, e_par, e_par3, kP3_3, e_tgt, kTg_f, kTg_n, e_gN, e_gT, e_gs0, e_gs1, e_aug, kAg_i, e_app, kAp_l, e_item, e_for, e_forN, e_fn, kF_n, kF_nx, kF_rt, kF_ex, kF_i, e_outs0, e_outsT, e_outsF, e_K, e_Vf, e_Mf, e_bin, e_un, e_A0, e_A1, e_lst, e_tup, e_C, e_tV, kT_b, e_tAnd, e_tOr, e_tNot, e_xNot, kNt_b, e_xAnd, kAn_b, e_xOr, kOr_b, e_xIf, e_ch, kCh_i, kCz_i, e_is, e_Q, e_Rg1, e_Rg2, e_Sl, kSl_f, e_oN, e_oS, e_call, kA_rt, kA_ex, kA_n, kA_i, e_R0, e_Rv, e_Ri, e_callK, kCK_f, e_take0, e_takeV, e_takeI, e_put0, e_putV, e_putI, fz_f, fz_l, fzs_0, fzs_1, fzs_map, fzs_mapI, fzs_1l, e_b1, e_b2, e_b2g, e_bs, v_bn, v_add, v_sub, v_mul, v_div, v_mod, v_pow, v_neg, v_catNN, v_catFN, v_catNF, v_catFF, v_rep, v_lt, v_le, v_gt, v_ge, v_is, v_isN, v_isO, v_isNO, v_non, v_nonI, v_nonL, v_nonT, v_nonB, v_eqI, v_neI, v_eqS, v_neS, v_lenL, v_lenT, v_abs, v_max2, v_min2, v_min3, v_intsM, v_ints0, v_ints1, v_blsM, v_blsF, v_intsF, v_maxL, v_minL, v_sum, v_sort, v_all, v_any, v_int, v_intB, v_list, v_listT, v_tuple, v_kIsN, v_kIsI, v_kIsL, v_kIsT, v_kIsB, v_isInt, v_isBool, v_isLst, v_isTup, v_repr, v_at, v_atL, v_atN, v_ixT, v_ixL, v_ixN, e_qK, e_qV, v_gKd, v_gOs, v_gLs, v_gDs, v_gDsT, v_gF, v_gI, v_isNn, e_Vn', e_Mn', v_isNo1, v_isNo2, e_pV, e_qIxF, e_qIxN, e_qI, e_qB, e_get, kIt_l', v_ixLit, v_ix0, v_at0, v_at1, v_ix1, e_apply', e_eB, e_cK, e_cT1, e_cT2, e_cTb, e_wipe0, e_wipe1, e_back0, e_back1, v_bkF, v_bkNo, v_bkN, v_tY, v_Vg, v_atLast, v_ixS, v_setLast, v_fzSnoc, v_fzSnocC, v_LIM, v_fzF, v_fzC, v_fzFF, v_intsC, v_blsC, e_SrtSet, v_ss, e_tup2, kT2_2, v_minPI, v_minPP, v_isB, e_tBor, kTb_o, v_frzS_f, v_frzS_no, v_frzS_n, e_appP, e_clrP, v_appEach0, v_appEach1, v_appEachM, e_forApp0, e_forApp1, e_AS, v_kFl, e_tpo, v_ixTp, fz_tp, er, el, eh, ed, srcO_no, hL]) ?_
      have d1 := draw_lo t hp
      have d2 := draw_hi t hp
      have em : many - (j + 1) = m := by omega
      refine ⟨_, _, _, _, _, _, rfl, hj, by rw [List.length_append, e3]; rfl, ?_, by rw [← Nat.add_assoc]; exact draw_ok e5 hp, ?_⟩
      · rw [em]; exact fits_next hf e4 (by omega) (by omega)
      · rw [em, e6]
        show (_ ++ (_ :: _), _) = _
        rw [List.append_assoc]
        rfl
    · intro ρ ⟨acc, left, t, o6, o7, o8, e1, e2, e3, e4, e5, e6⟩
      subst e1
      rw [List.length_map, DL.rng_length] at e6
      have em : many - (many : Int).toNat = 0 := by omega
      rw [em] at e6
      rw [e6]
      exact ⟨_, _, _, _, by show _ = [srcO t, _, _, _, .n .lst ((acc ++ []).map _), _, _, _, _]; rw [List.append_nil]⟩
  simp (implicitDefEqProofs := false) (decide := true) (maxDischargeDepth := 9) [e_bnd, e_ret, e_opt, kO_s, kO_n, kO_i, kB_n, kB_o, kB_x, kB_i, e_val, kV_n, kV_o, kV_x, kV_i, e_seq, kS_n, kS_nx, kS_rt, kS_bk, kS_ct, kS_ex, kS_i, e_nil, e_pass, e_brk, e_cnt, e_sret, e_sretN, e_expr, e_if, e_set, e_par, e_par3, kP3_3, e_tgt, kTg_f, kTg_n, e_gN, e_gT, e_gs0, e_gs1, e_aug, kAg_i, e_app, kAp_l, e_item, e_for, e_forN, e_fn, kF_n, kF_nx, kF_rt, kF_ex, kF_i, e_outs0, e_outsT, e_outsF, e_K, e_Vf, e_Mf, e_bin, e_un, e_A0, e_A1, e_lst, e_tup, e_C, e_tV, kT_b, e_tAnd, e_tOr, e_tNot, e_xNot, kNt_b, e_xAnd, kAn_b, e_xOr, kOr_b, e_xIf, e_ch, kCh_i, kCz_i, e_is, e_Q, e_Rg1, e_Rg2, e_Sl, kSl_f, e_oN, e_oS, e_call, kA_rt, kA_ex, kA_n, kA_i, e_R0, e_Rv, e_Ri, e_callK, kCK_f, e_take0, e_takeV, e_takeI, e_put0, e_putV, e_putI, fz_f, fz_l, fzs_0, fzs_1, fzs_map, fzs_mapI, fzs_1l, e_b1, e_b2, e_b2g, e_bs, v_bn, v_add, v_sub, v_mul, v_div, v_mod, v_pow, v_neg, v_catNN, v_catFN, v_catNF, v_catFF, v_rep, v_lt, v_le, v_gt, v_ge, v_is, v_isN, v_isO, v_isNO, v_non, v_nonI, v_nonL, v_nonT, v_nonB, v_eqI, v_neI, v_eqS, v_neS, v_lenL, v_lenT, v_abs, v_max2, v_min2, v_min3, v_intsM, v_ints0, v_ints1, v_blsM, v_blsF, v_intsF, v_maxL, v_minL, v_sum, v_sort, v_all, v_any, v_int, v_intB, v_list, v_listT, v_tuple, v_kIsN, v_kIsI, v_kIsL, v_kIsT, v_kIsB, v_isInt, v_isBool, v_isLst, v_isTup, v_repr, v_at, v_atL, v_atN, v_ixT, v_ixL, v_ixN, e_qK, e_qV, v_gKd, v_gOs, v_gLs, v_gDs, v_gDsT, v_gF, v_gI, v_isNn, e_Vn', e_Mn', v_isNo1, v_isNo2, e_pV, e_qIxF, e_qIxN, e_qI, e_qB, e_get, kIt_l', v_ixLit, v_ix0, v_at0, v_at1, v_ix1, e_apply', e_eB, e_cK, e_cT1, e_cT2, e_cTb, e_wipe0, e_wipe1, e_back0, e_back1, v_bkF, v_bkNo, v_bkN, v_tY, v_Vg, v_atLast, v_ixS, v_setLast, v_fzSnoc, v_fzSnocC, v_LIM, v_fzF, v_fzC, v_fzFF, v_intsC, v_blsC, e_SrtSet, v_ss, e_tup2, kT2_2, v_minPI, v_minPP, v_isB, e_tBor, kTb_o, v_frzS_f, v_frzS_no, v_frzS_n, e_appP, e_clrP, v_appEach0, v_appEach1, v_appEachM, e_forApp0, e_forApp1, e_AS, v_kFl, e_tpo, v_ixTp, fz_tp, f__law_parts_6cc4, b__law_parts_6cc4, e]
end Ev
namespace Ev
open OW
open DL (Dt)
def loadD (p q : Int) (ss : List Int) : Dt := .tup [.int p, .int q, .lst (ss.map .int)]
theorem load_eval {units span most : Int} {s : Src} {n : Nat} (k : s.Ok n) (hn : n ≤ 10 ^ 14) (h1 : 1 ≤ units) (h2 : units ≤ 12) (h3 : 1 ≤ span) (h4 : span ≤ MP) (h5 : 1 ≤ most) (h6 : most ≤ 12) :
    f__law_load_82d4 [srcO s, .f (.int units), .f (.int span), .f (.int most)] = some (.rt (.f (loadD units span (loadOf s units span most).1)) [srcO (loadOf s units span most).2, .no, .no, .no]) := by
  unfold MP at h4
  haveI : Sz 64 units := sz_of (by omega) (by omega)
  haveI : Sz 64 most := sz_of (by omega) (by omega)
  haveI : Sz 150 span := sz_of (by omega) (by omega)
  have hx0 := draw_lo s (show 0 < most by omega)
  have hx1 := draw_hi s (show 0 < most by omega)
  have kx := draw_ok k (show 0 < most by omega)
  have kz := draw_ok kx (show (0 : Int) < 3 by decide)
  have hw : units ≤ units * span := by
    have z : units * 1 ≤ units * span := Int.mul_le_mul_of_nonneg_left h3 (by omega)
    omega
  obtain ⟨often, ho⟩ : ∃ o, o = min most (min (units * span) (units + (draw s most).1)) := ⟨_, rfl⟩
  have o1 : 1 ≤ often := by omega
  have o2 : often ≤ 12 := by omega
  have o3 : often ≤ units * span := by omega
  have oc : ((often.toNat : Nat) : Int) = often := by omega
  haveI : Sz 64 often := sz_of (by omega) (by omega)
  have pm : often ≤ min units often * span := by
    by_cases q : units ≤ often
    · rw [Int.min_eq_left q]; exact o3
    · rw [Int.min_eq_right (by omega)]
      have z : often * 1 ≤ often * span := Int.mul_le_mul_of_nonneg_left h3 (by omega)
      omega
  have po : min units often * span ≤ often * span := Int.mul_le_mul_of_nonneg_right (by omega) (by omega)
  have hp : 0 < min units often * span - often + 1 := by omega
  have ed1 := draw_ev k (by omega) (show 0 < most by omega) (bn_sz (by decide))
  have ed2 := draw_ev kx (by omega) (show (0 : Int) < 3 by decide) (bn_sz (by decide))
  have ed3 := fun (t : Src) (m : Nat) (kt : t.Ok m) (hm : m ≤ 10 ^ 15) => draw_ev kt hm hp (bn_sz (n := 64 + 64 + 150 + 64 + 1 + 1 + 1) (by decide))
  have le : loadOf s units span most = if often < units then parts span often.toNat (often + (draw (draw s most).2 (min units often * span - often + 1)).1) (draw (draw s most).2 (min units often * span - often + 1)).2
    else if (draw (draw s most).2 3).1 = 0 then parts span often.toNat (often + (draw (draw (draw s most).2 3).2 (min units often * span - often + 1)).1) (draw (draw (draw s most).2 3).2 (min units often * span - often + 1)).2
    else parts span often.toNat (units * span) (draw (draw s most).2 3).2 := by rw [ho]; rfl
  have ep := fun (whole : Int) (t : Src) (m : Nat) (f : Fits span often.toNat whole) (kt : t.Ok m) (hm : m ≤ n + 10) => parts_eval (n := m) h3 f kt (by omega) (by omega)
  rw [oc] at ep
  have fin : ∀ (t : Src), Fits span often.toNat (often + (draw t (min units often * span - often + 1)).1) := fun t => by
    have d1 := draw_lo t hp
    have d2 := draw_hi t hp
    exact ⟨by rw [oc]; omega, by rw [oc]; omega⟩
  by_cases c1 : often < units
  · rw [le, if_pos c1]
    have e3 := ed3 _ _ kx (by omega)
    have e4 := ep _ _ _ (fin (draw s most).2) (draw_ok kx hp) (by omega)
    simp (implicitDefEqProofs := false) (decide := true) (maxDischargeDepth := 9) [e_bnd, e_ret, e_opt, kO_s, kO_n, kO_i, kB_n, kB_o, kB_x, kB_i, e_val, kV_n, kV_o, kV_x, kV_i, e_seq, kS_n, kS_nx, kS_rt, kS_bk, kS_ct, kS_ex, kS_i, e_nil, e_pass, e_brk, e_cnt, e_sret, e_sretN, e_expr, e_if, e_set, e_par, e_par3, kP3_3, e_tgt, kTg_f, kTg_n, e_gN, e_gT, e_gs0, e_gs1, e_aug, kAg_i, e_app, kAp_l, e_item, e_for, e_forN, e_fn, kF_n, kF_nx, kF_rt, kF_ex, kF_i, e_outs0, e_outsT, e_outsF, e_K, e_Vf, e_Mf, e_bin, e_un, e_A0, e_A1, e_lst, e_tup, e_C, e_tV, kT_b, e_tAnd, e_tOr, e_tNot, e_xNot, kNt_b, e_xAnd, kAn_b, e_xOr, kOr_b, e_xIf, e_ch, kCh_i, kCz_i, e_is, e_Q, e_Rg1, e_Rg2, e_Sl, kSl_f, e_oN, e_oS, e_call, kA_rt, kA_ex, kA_n, kA_i, e_R0, e_Rv, e_Ri, e_callK, kCK_f, e_take0, e_takeV, e_takeI, e_put0, e_putV, e_putI, fz_f, fz_l, fzs_0, fzs_1, fzs_map, fzs_mapI, fzs_1l, e_b1, e_b2, e_b2g, e_bs, v_bn, v_add, v_sub, v_mul, v_div, v_mod, v_pow, v_neg, v_catNN, v_catFN, v_catNF, v_catFF, v_rep, v_lt, v_le, v_gt, v_ge, v_is, v_isN, v_isO, v_isNO, v_non, v_nonI, v_nonL, v_nonT, v_nonB, v_eqI, v_neI, v_eqS, v_neS, v_lenL, v_lenT, v_abs, v_max2, v_min2, v_min3, v_intsM, v_ints0, v_ints1, v_blsM, v_blsF, v_intsF, v_maxL, v_minL, v_sum, v_sort, v_all, v_any, v_int, v_intB, v_list, v_listT, v_tuple, v_kIsN, v_kIsI, v_kIsL, v_kIsT, v_kIsB, v_isInt, v_isBool, v_isLst, v_isTup, v_repr, v_at, v_atL, v_atN, v_ixT, v_ixL, v_ixN, e_qK, e_qV, v_gKd, v_gOs, v_gLs, v_gDs, v_gDsT, v_gF, v_gI, v_isNn, e_Vn', e_Mn', v_isNo1, v_isNo2, e_pV, e_qIxF, e_qIxN, e_qI, e_qB, e_get, kIt_l', v_ixLit, v_ix0, v_at0, v_at1, v_ix1, e_apply', e_eB, e_cK, e_cT1, e_cT2, e_cTb, e_wipe0, e_wipe1, e_back0, e_back1, v_bkF, v_bkNo, v_bkN, v_tY, v_Vg, v_atLast, v_ixS, v_setLast, v_fzSnoc, v_fzSnocC, v_LIM, v_fzF, v_fzC, v_fzFF, v_intsC, v_blsC, e_SrtSet, v_ss, e_tup2, kT2_2, v_minPI, v_minPP, v_isB, e_tBor, kTb_o, v_frzS_f, v_frzS_no, v_frzS_n, e_appP, e_clrP, v_appEach0, v_appEach1, v_appEachM, e_forApp0, e_forApp1, e_AS, v_kFl, e_tpo, v_ixTp, fz_tp, f__law_load_82d4, b__law_load_82d4, ed1, ed2, e3, e4, srcO_no, ← ho, c1, loadD]
  · rw [le, if_neg c1]
    by_cases c2 : (draw (draw s most).2 3).1 = 0
    · rw [if_pos c2]
      have e3 := ed3 _ _ kz (by omega)
      have e4 := ep _ _ _ (fin (draw (draw s most).2 3).2) (draw_ok kz hp) (by omega)
      simp (implicitDefEqProofs := false) (decide := true) (maxDischargeDepth := 9) [e_bnd, e_ret, e_opt, kO_s, kO_n, kO_i, kB_n, kB_o, kB_x, kB_i, e_val, kV_n, kV_o, kV_x, kV_i, e_seq, kS_n, kS_nx, kS_rt, kS_bk, kS_ct, kS_ex, kS_i, e_nil, e_pass, e_brk, e_cnt, e_sret, e_sretN, e_expr, e_if, e_set, e_par, e_par3, kP3_3, e_tgt, kTg_f, kTg_n, e_gN, e_gT, e_gs0, e_gs1, e_aug, kAg_i, e_app, kAp_l, e_item, e_for, e_forN, e_fn, kF_n, kF_nx, kF_rt, kF_ex, kF_i, e_outs0, e_outsT, e_outsF, e_K, e_Vf, e_Mf, e_bin, e_un, e_A0, e_A1, e_lst, e_tup, e_C, e_tV, kT_b, e_tAnd, e_tOr, e_tNot, e_xNot, kNt_b, e_xAnd, kAn_b, e_xOr, kOr_b, e_xIf, e_ch, kCh_i, kCz_i, e_is, e_Q, e_Rg1, e_Rg2, e_Sl, kSl_f, e_oN, e_oS, e_call, kA_rt, kA_ex, kA_n, kA_i, e_R0, e_Rv, e_Ri, e_callK, kCK_f, e_take0, e_takeV, e_takeI, e_put0, e_putV, e_putI, fz_f, fz_l, fzs_0, fzs_1, fzs_map, fzs_mapI, fzs_1l, e_b1, e_b2, e_b2g, e_bs, v_bn, v_add, v_sub, v_mul, v_div, v_mod, v_pow, v_neg, v_catNN, v_catFN, v_catNF, v_catFF, v_rep, v_lt, v_le, v_gt, v_ge, v_is, v_isN, v_isO, v_isNO, v_non, v_nonI, v_nonL, v_nonT, v_nonB, v_eqI, v_neI, v_eqS, v_neS, v_lenL, v_lenT, v_abs, v_max2, v_min2, v_min3, v_intsM, v_ints0, v_ints1, v_blsM, v_blsF, v_intsF, v_maxL, v_minL, v_sum, v_sort, v_all, v_any, v_int, v_intB, v_list, v_listT, v_tuple, v_kIsN, v_kIsI, v_kIsL, v_kIsT, v_kIsB, v_isInt, v_isBool, v_isLst, v_isTup, v_repr, v_at, v_atL, v_atN, v_ixT, v_ixL, v_ixN, e_qK, e_qV, v_gKd, v_gOs, v_gLs, v_gDs, v_gDsT, v_gF, v_gI, v_isNn, e_Vn', e_Mn', v_isNo1, v_isNo2, e_pV, e_qIxF, e_qIxN, e_qI, e_qB, e_get, kIt_l', v_ixLit, v_ix0, v_at0, v_at1, v_ix1, e_apply', e_eB, e_cK, e_cT1, e_cT2, e_cTb, e_wipe0, e_wipe1, e_back0, e_back1, v_bkF, v_bkNo, v_bkN, v_tY, v_Vg, v_atLast, v_ixS, v_setLast, v_fzSnoc, v_fzSnocC, v_LIM, v_fzF, v_fzC, v_fzFF, v_intsC, v_blsC, e_SrtSet, v_ss, e_tup2, kT2_2, v_minPI, v_minPP, v_isB, e_tBor, kTb_o, v_frzS_f, v_frzS_no, v_frzS_n, e_appP, e_clrP, v_appEach0, v_appEach1, v_appEachM, e_forApp0, e_forApp1, e_AS, v_kFl, e_tpo, v_ixTp, fz_tp, f__law_load_82d4, b__law_load_82d4, ed1, ed2, e3, e4, srcO_no, ← ho, c1, c2, loadD]
    · rw [if_neg c2]
      have z : units * span ≤ often * span := Int.mul_le_mul_of_nonneg_right (by omega) (by omega)
      have e4 := ep (units * span) _ _ ⟨by rw [oc]; omega, by rw [oc]; exact z⟩ kz (by omega)
      simp (implicitDefEqProofs := false) (decide := true) (maxDischargeDepth := 9) [e_bnd, e_ret, e_opt, kO_s, kO_n, kO_i, kB_n, kB_o, kB_x, kB_i, e_val, kV_n, kV_o, kV_x, kV_i, e_seq, kS_n, kS_nx, kS_rt, kS_bk, kS_ct, kS_ex, kS_i, e_nil, e_pass, e_brk, e_cnt, e_sret, e_sretN, e_expr, e_if, e_set, e_par, e_par3, kP3_3, e_tgt, kTg_f, kTg_n, e_gN, e_gT, e_gs0, e_gs1, e_aug, kAg_i, e_app, kAp_l, e_item, e_for, e_forN, e_fn, kF_n, kF_nx, kF_rt, kF_ex, kF_i, e_outs0, e_outsT, e_outsF, e_K, e_Vf, e_Mf, e_bin, e_un, e_A0, e_A1, e_lst, e_tup, e_C, e_tV, kT_b, e_tAnd, e_tOr, e_tNot, e_xNot, kNt_b, e_xAnd, kAn_b, e_xOr, kOr_b, e_xIf, e_ch, kCh_i, kCz_i, e_is, e_Q, e_Rg1, e_Rg2, e_Sl, kSl_f, e_oN, e_oS, e_call, kA_rt, kA_ex, kA_n, kA_i, e_R0, e_Rv, e_Ri, e_callK, kCK_f, e_take0, e_takeV, e_takeI, e_put0, e_putV, e_putI, fz_f, fz_l, fzs_0, fzs_1, fzs_map, fzs_mapI, fzs_1l, e_b1, e_b2, e_b2g, e_bs, v_bn, v_add, v_sub, v_mul, v_div, v_mod, v_pow, v_neg, v_catNN, v_catFN, v_catNF, v_catFF, v_rep, v_lt, v_le, v_gt, v_ge, v_is, v_isN, v_isO, v_isNO, v_non, v_nonI, v_nonL, v_nonT, v_nonB, v_eqI, v_neI, v_eqS, v_neS, v_lenL, v_lenT, v_abs, v_max2, v_min2, v_min3, v_intsM, v_ints0, v_ints1, v_blsM, v_blsF, v_intsF, v_maxL, v_minL, v_sum, v_sort, v_all, v_any, v_int, v_intB, v_list, v_listT, v_tuple, v_kIsN, v_kIsI, v_kIsL, v_kIsT, v_kIsB, v_isInt, v_isBool, v_isLst, v_isTup, v_repr, v_at, v_atL, v_atN, v_ixT, v_ixL, v_ixN, e_qK, e_qV, v_gKd, v_gOs, v_gLs, v_gDs, v_gDsT, v_gF, v_gI, v_isNn, e_Vn', e_Mn', v_isNo1, v_isNo2, e_pV, e_qIxF, e_qIxN, e_qI, e_qB, e_get, kIt_l', v_ixLit, v_ix0, v_at0, v_at1, v_ix1, e_apply', e_eB, e_cK, e_cT1, e_cT2, e_cTb, e_wipe0, e_wipe1, e_back0, e_back1, v_bkF, v_bkNo, v_bkN, v_tY, v_Vg, v_atLast, v_ixS, v_setLast, v_fzSnoc, v_fzSnocC, v_LIM, v_fzF, v_fzC, v_fzFF, v_intsC, v_blsC, e_SrtSet, v_ss, e_tup2, kT2_2, v_minPI, v_minPP, v_isB, e_tBor, kTb_o, v_frzS_f, v_frzS_no, v_frzS_n, e_appP, e_clrP, v_appEach0, v_appEach1, v_appEachM, e_forApp0, e_forApp1, e_AS, v_kFl, e_tpo, v_ixTp, fz_tp, f__law_load_82d4, b__law_load_82d4, ed1, ed2, e4, srcO_no, ← ho, c1, c2, loadD]
def singleQ (s : Src) (far : Int) : Int := 1 + (draw s far).1
def single (s : Src) (far : Int) : List Int × Src := loadOf (draw s far).2 1 (singleQ s far) 6
theorem single_eval {far : Int} {s : Src} {n : Nat} (k : s.Ok n) (hn : n ≤ 10 ^ 13) (h1 : 1 ≤ far) (h4 : far ≤ MP) :
    f__law_single_ca21 [srcO s, .f (.int far)] = some (.rt (.f (loadD 1 (singleQ s far) (single s far).1)) [srcO (single s far).2, .no]) := by
  have d1 := draw_lo s (show 0 < far by omega)
  have d2 := draw_hi s (show 0 < far by omega)
  haveI : Sz 150 far := sz_of (by omega) (by unfold MP at h4; omega)
  have ed1 := draw_ev k (by omega) (show 0 < far by omega) (bn_sz (by decide))
  have el := load_eval (draw_ok k (show 0 < far by omega)) (by omega) (units := 1) (span := singleQ s far) (most := 6) (by decide) (by decide) (by unfold singleQ; omega) (by unfold singleQ; omega) (by decide) (by decide)
  unfold single
  unfold singleQ at el ⊢
  simp (implicitDefEqProofs := false) (decide := true) (maxDischargeDepth := 9) [e_bnd, e_ret, e_opt, kO_s, kO_n, kO_i, kB_n, kB_o, kB_x, kB_i, e_val, kV_n, kV_o, kV_x, kV_i, e_seq, kS_n, kS_nx, kS_rt, kS_bk, kS_ct, kS_ex, kS_i, e_nil, e_pass, e_brk, e_cnt, e_sret, e_sretN, e_expr, e_if, e_set, e_par, e_par3, kP3_3, e_tgt, kTg_f, kTg_n, e_gN, e_gT, e_gs0, e_gs1, e_aug, kAg_i, e_app, kAp_l, e_item, e_for, e_forN, e_fn, kF_n, kF_nx, kF_rt, kF_ex, kF_i, e_outs0, e_outsT, e_outsF, e_K, e_Vf, e_Mf, e_bin, e_un, e_A0, e_A1, e_lst, e_tup, e_C, e_tV, kT_b, e_tAnd, e_tOr, e_tNot, e_xNot, kNt_b, e_xAnd, kAn_b, e_xOr, kOr_b, e_xIf, e_ch, kCh_i, kCz_i, e_is, e_Q, e_Rg1, e_Rg2, e_Sl, kSl_f, e_oN, e_oS, e_call, kA_rt, kA_ex, kA_n, kA_i, e_R0, e_Rv, e_Ri, e_callK, kCK_f, e_take0, e_takeV, e_takeI, e_put0, e_putV, e_putI, fz_f, fz_l, fzs_0, fzs_1, fzs_map, fzs_mapI, fzs_1l, e_b1, e_b2, e_b2g, e_bs, v_bn, v_add, v_sub, v_mul, v_div, v_mod, v_pow, v_neg, v_catNN, v_catFN, v_catNF, v_catFF, v_rep, v_lt, v_le, v_gt, v_ge, v_is, v_isN, v_isO, v_isNO, v_non, v_nonI, v_nonL, v_nonT, v_nonB, v_eqI, v_neI, v_eqS, v_neS, v_lenL, v_lenT, v_abs, v_max2, v_min2, v_min3, v_intsM, v_ints0, v_ints1, v_blsM, v_blsF, v_intsF, v_maxL, v_minL, v_sum, v_sort, v_all, v_any, v_int, v_intB, v_list, v_listT, v_tuple, v_kIsN, v_kIsI, v_kIsL, v_kIsT, v_kIsB, v_isInt, v_isBool, v_isLst, v_isTup, v_repr, v_at, v_atL, v_atN, v_ixT, v_ixL, v_ixN, e_qK, e_qV, v_gKd, v_gOs, v_gLs, v_gDs, v_gDsT, v_gF, v_gI, v_isNn, e_Vn', e_Mn', v_isNo1, v_isNo2, e_pV, e_qIxF, e_qIxN, e_qI, e_qB, e_get, kIt_l', v_ixLit, v_ix0, v_at0, v_at1, v_ix1, e_apply', e_eB, e_cK, e_cT1, e_cT2, e_cTb, e_wipe0, e_wipe1, e_back0, e_back1, v_bkF, v_bkNo, v_bkN, v_tY, v_Vg, v_atLast, v_ixS, v_setLast, v_fzSnoc, v_fzSnocC, v_LIM, v_fzF, v_fzC, v_fzFF, v_intsC, v_blsC, e_SrtSet, v_ss, e_tup2, kT2_2, v_minPI, v_minPP, v_isB, e_tBor, kTb_o, v_frzS_f, v_frzS_no, v_frzS_n, e_appP, e_clrP, v_appEach0, v_appEach1, v_appEachM, e_forApp0, e_forApp1, e_AS, v_kFl, e_tpo, v_ixTp, fz_tp, f__law_single_ca21, b__law_single_ca21, ed1, el, srcO_no]
end Ev
namespace Ev
open PySem L2 OW
open DL (Dt FnG FnAt)
noncomputable section
def b_need_single_2041 : SF :=
  (sSeq (sIf (tV (xBin cGt (xQ (qIx (pV 0) (qK (.int 0)))) (xK (.int 1)))) (sSeq (fun _ => none) sNil) sNil) sNil)
def f_need_single_2041 : FO := fnOf 1 [false] b_need_single_2041
end
end Ev
namespace Ev
open OW
open DL (Dt)
theorem is_integer_yes {v l h : Int} (h1 : l ≤ v) (h2 : v ≤ h) : f_is_integer_4a98 [.f (.int v), .f (.int l), .f (.int h)] = some (.rt (.f (.bl true)) [.no, .no, .no]) := by
  simp (implicitDefEqProofs := false) (decide := true) (maxDischargeDepth := 9) [e_bnd, e_ret, e_opt, kO_s, kO_n, kO_i, kB_n, kB_o, kB_x, kB_i, e_val, kV_n, kV_o, kV_x, kV_i, e_seq, kS_n, kS_nx, kS_rt, kS_bk, kS_ct, kS_ex, kS_i, e_nil, e_pass, e_brk, e_cnt, e_sret, e_sretN, e_expr, e_if, e_set, e_par, e_par3, kP3_3, e_tgt, kTg_f, kTg_n, e_gN, e_gT, e_gs0, e_gs1, e_aug, kAg_i, e_app, kAp_l, e_item, e_for, e_forN, e_fn, kF_n, kF_nx, kF_rt, kF_ex, kF_i, e_outs0, e_outsT, e_outsF, e_K, e_Vf, e_Mf, e_bin, e_un, e_A0, e_A1, e_lst, e_tup, e_C, e_tV, kT_b, e_tAnd, e_tOr, e_tNot, e_xNot, kNt_b, e_xAnd, kAn_b, e_xOr, kOr_b, e_xIf, e_ch, kCh_i, kCz_i, e_is, e_Q, e_Rg1, e_Rg2, e_Sl, kSl_f, e_oN, e_oS, e_call, kA_rt, kA_ex, kA_n, kA_i, e_R0, e_Rv, e_Ri, e_callK, kCK_f, e_take0, e_takeV, e_takeI, e_put0, e_putV, e_putI, fz_f, fz_l, fzs_0, fzs_1, fzs_map, fzs_mapI, fzs_1l, e_b1, e_b2, e_b2g, e_bs, v_bn, v_add, v_sub, v_mul, v_div, v_mod, v_pow, v_neg, v_catNN, v_catFN, v_catNF, v_catFF, v_rep, v_lt, v_le, v_gt, v_ge, v_is, v_isN, v_isO, v_isNO, v_non, v_nonI, v_nonL, v_nonT, v_nonB, v_eqI, v_neI, v_eqS, v_neS, v_lenL, v_lenT, v_abs, v_max2, v_min2, v_min3, v_intsM, v_ints0, v_ints1, v_blsM, v_blsF, v_intsF, v_maxL, v_minL, v_sum, v_sort, v_all, v_any, v_int, v_intB, v_list, v_listT, v_tuple, v_kIsN, v_kIsI, v_kIsL, v_kIsT, v_kIsB, v_isInt, v_isBool, v_isLst, v_isTup, v_repr, v_at, v_atL, v_atN, v_ixT, v_ixL, v_ixN, e_qK, e_qV, v_gKd, v_gOs, v_gLs, v_gDs, v_gDsT, v_gF, v_gI, v_isNn, e_Vn', e_Mn', v_isNo1, v_isNo2, e_pV, e_qIxF, e_qIxN, e_qI, e_qB, e_get, kIt_l', v_ixLit, v_ix0, v_at0, v_at1, v_ix1, e_apply', e_eB, e_cK, e_cT1, e_cT2, e_cTb, e_wipe0, e_wipe1, e_back0, e_back1, v_bkF, v_bkNo, v_bkN, v_tY, v_Vg, v_atLast, v_ixS, v_setLast, v_fzSnoc, v_fzSnocC, v_LIM, v_fzF, v_fzC, v_fzFF, v_intsC, v_blsC, e_SrtSet, v_ss, e_tup2, kT2_2, v_minPI, v_minPP, v_isB, e_tBor, kTb_o, v_frzS_f, v_frzS_no, v_frzS_n, e_appP, e_clrP, v_appEach0, v_appEach1, v_appEachM, e_forApp0, e_forApp1, e_AS, v_kFl, e_tpo, v_ixTp, fz_tp, f_is_integer_4a98, b_is_integer_4a98, show ¬ v < l by omega, h2]
theorem is_integer_yesN {v l : Int} (h1 : l ≤ v) : f_is_integer_4a98 [.f (.int v), .f (.int l), .f .non] = some (.rt (.f (.bl true)) [.no, .no, .no]) := by
  simp (implicitDefEqProofs := false) (decide := true) (maxDischargeDepth := 9) [e_bnd, e_ret, e_opt, kO_s, kO_n, kO_i, kB_n, kB_o, kB_x, kB_i, e_val, kV_n, kV_o, kV_x, kV_i, e_seq, kS_n, kS_nx, kS_rt, kS_bk, kS_ct, kS_ex, kS_i, e_nil, e_pass, e_brk, e_cnt, e_sret, e_sretN, e_expr, e_if, e_set, e_par, e_par3, kP3_3, e_tgt, kTg_f, kTg_n, e_gN, e_gT, e_gs0, e_gs1, e_aug, kAg_i, e_app, kAp_l, e_item, e_for, e_forN, e_fn, kF_n, kF_nx, kF_rt, kF_ex, kF_i, e_outs0, e_outsT, e_outsF, e_K, e_Vf, e_Mf, e_bin, e_un, e_A0, e_A1, e_lst, e_tup, e_C, e_tV, kT_b, e_tAnd, e_tOr, e_tNot, e_xNot, kNt_b, e_xAnd, kAn_b, e_xOr, kOr_b, e_xIf, e_ch, kCh_i, kCz_i, e_is, e_Q, e_Rg1, e_Rg2, e_Sl, kSl_f, e_oN, e_oS, e_call, kA_rt, kA_ex, kA_n, kA_i, e_R0, e_Rv, e_Ri, e_callK, kCK_f, e_take0, e_takeV, e_takeI, e_put0, e_putV, e_putI, fz_f, fz_l, fzs_0, fzs_1, fzs_map, fzs_mapI, fzs_1l, e_b1, e_b2, e_b2g, e_bs, v_bn, v_add, v_sub, v_mul, v_div, v_mod, v_pow, v_neg, v_catNN, v_catFN, v_catNF, v_catFF, v_rep, v_lt, v_le, v_gt, v_ge, v_is, v_isN, v_isO, v_isNO, v_non, v_nonI, v_nonL, v_nonT, v_nonB, v_eqI, v_neI, v_eqS, v_neS, v_lenL, v_lenT, v_abs, v_max2, v_min2, v_min3, v_intsM, v_ints0, v_ints1, v_blsM, v_blsF, v_intsF, v_maxL, v_minL, v_sum, v_sort, v_all, v_any, v_int, v_intB, v_list, v_listT, v_tuple, v_kIsN, v_kIsI, v_kIsL, v_kIsT, v_kIsB, v_isInt, v_isBool, v_isLst, v_isTup, v_repr, v_at, v_atL, v_atN, v_ixT, v_ixL, v_ixN, e_qK, e_qV, v_gKd, v_gOs, v_gLs, v_gDs, v_gDsT, v_gF, v_gI, v_isNn, e_Vn', e_Mn', v_isNo1, v_isNo2, e_pV, e_qIxF, e_qIxN, e_qI, e_qB, e_get, kIt_l', v_ixLit, v_ix0, v_at0, v_at1, v_ix1, e_apply', e_eB, e_cK, e_cT1, e_cT2, e_cTb, e_wipe0, e_wipe1, e_back0, e_back1, v_bkF, v_bkNo, v_bkN, v_tY, v_Vg, v_atLast, v_ixS, v_setLast, v_fzSnoc, v_fzSnocC, v_LIM, v_fzF, v_fzC, v_fzFF, v_intsC, v_blsC, e_SrtSet, v_ss, e_tup2, kT2_2, v_minPI, v_minPP, v_isB, e_tBor, kTb_o, v_frzS_f, v_frzS_no, v_frzS_n, e_appP, e_clrP, v_appEach0, v_appEach1, v_appEachM, e_forApp0, e_forApp1, e_AS, v_kFl, e_tpo, v_ixTp, fz_tp, f_is_integer_4a98, b_is_integer_4a98, show ¬ v < l by omega]
theorem down_eval {s p m : Int} (h1 : Bn s = true) (h2 : Bn m = true) (h3 : 0 < p) (h4 : Bn p = true) : f_down_19d4 [.f (.int s), .f (.int p), .f (.int m)] = some (.rt (.f (.int (s * m / p))) [.no, .no, .no]) := by
  simp (implicitDefEqProofs := false) (decide := true) (maxDischargeDepth := 9) [e_bnd, e_ret, e_opt, kO_s, kO_n, kO_i, kB_n, kB_o, kB_x, kB_i, e_val, kV_n, kV_o, kV_x, kV_i, e_seq, kS_n, kS_nx, kS_rt, kS_bk, kS_ct, kS_ex, kS_i, e_nil, e_pass, e_brk, e_cnt, e_sret, e_sretN, e_expr, e_if, e_set, e_par, e_par3, kP3_3, e_tgt, kTg_f, kTg_n, e_gN, e_gT, e_gs0, e_gs1, e_aug, kAg_i, e_app, kAp_l, e_item, e_for, e_forN, e_fn, kF_n, kF_nx, kF_rt, kF_ex, kF_i, e_outs0, e_outsT, e_outsF, e_K, e_Vf, e_Mf, e_bin, e_un, e_A0, e_A1, e_lst, e_tup, e_C, e_tV, kT_b, e_tAnd, e_tOr, e_tNot, e_xNot, kNt_b, e_xAnd, kAn_b, e_xOr, kOr_b, e_xIf, e_ch, kCh_i, kCz_i, e_is, e_Q, e_Rg1, e_Rg2, e_Sl, kSl_f, e_oN, e_oS, e_call, kA_rt, kA_ex, kA_n, kA_i, e_R0, e_Rv, e_Ri, e_callK, kCK_f, e_take0, e_takeV, e_takeI, e_put0, e_putV, e_putI, fz_f, fz_l, fzs_0, fzs_1, fzs_map, fzs_mapI, fzs_1l, e_b1, e_b2, e_b2g, e_bs, v_bn, v_add, v_sub, v_mul, v_div, v_mod, v_pow, v_neg, v_catNN, v_catFN, v_catNF, v_catFF, v_rep, v_lt, v_le, v_gt, v_ge, v_is, v_isN, v_isO, v_isNO, v_non, v_nonI, v_nonL, v_nonT, v_nonB, v_eqI, v_neI, v_eqS, v_neS, v_lenL, v_lenT, v_abs, v_max2, v_min2, v_min3, v_intsM, v_ints0, v_ints1, v_blsM, v_blsF, v_intsF, v_maxL, v_minL, v_sum, v_sort, v_all, v_any, v_int, v_intB, v_list, v_listT, v_tuple, v_kIsN, v_kIsI, v_kIsL, v_kIsT, v_kIsB, v_isInt, v_isBool, v_isLst, v_isTup, v_repr, v_at, v_atL, v_atN, v_ixT, v_ixL, v_ixN, e_qK, e_qV, v_gKd, v_gOs, v_gLs, v_gDs, v_gDsT, v_gF, v_gI, v_isNn, e_Vn', e_Mn', v_isNo1, v_isNo2, e_pV, e_qIxF, e_qIxN, e_qI, e_qB, e_get, kIt_l', v_ixLit, v_ix0, v_at0, v_at1, v_ix1, e_apply', e_eB, e_cK, e_cT1, e_cT2, e_cTb, e_wipe0, e_wipe1, e_back0, e_back1, v_bkF, v_bkNo, v_bkN, v_tY, v_Vg, v_atLast, v_ixS, v_setLast, v_fzSnoc, v_fzSnocC, v_LIM, v_fzF, v_fzC, v_fzFF, v_intsC, v_blsC, e_SrtSet, v_ss, e_tup2, kT2_2, v_minPI, v_minPP, v_isB, e_tBor, kTb_o, v_frzS_f, v_frzS_no, v_frzS_n, e_appP, e_clrP, v_appEach0, v_appEach1, v_appEachM, e_forApp0, e_forApp1, e_AS, v_kFl, e_tpo, v_ixTp, fz_tp, f_down_19d4, b_down_19d4, h1, h2, h3, h4]
def upI (s p m : Int) : Int := -(-s * m / p)
theorem bn_neg {s : Int} (h : Bn s = true) : Bn (-s) = true := by unfold Bn at *; rw [Int.natAbs_neg]; exact h
theorem up_eval {s p m : Int} (h1 : Bn s = true) (h2 : Bn m = true) (h3 : 0 < p) (h4 : Bn p = true) : f_up_c0a7 [.f (.int s), .f (.int p), .f (.int m)] = some (.rt (.f (.int (upI s p m))) [.no, .no, .no]) := by
  have h5 := bn_neg h1
  unfold upI
  simp (implicitDefEqProofs := false) (decide := true) (maxDischargeDepth := 9) [e_bnd, e_ret, e_opt, kO_s, kO_n, kO_i, kB_n, kB_o, kB_x, kB_i, e_val, kV_n, kV_o, kV_x, kV_i, e_seq, kS_n, kS_nx, kS_rt, kS_bk, kS_ct, kS_ex, kS_i, e_nil, e_pass, e_brk, e_cnt, e_sret, e_sretN, e_expr, e_if, e_set, e_par, e_par3, kP3_3, e_tgt, kTg_f, kTg_n, e_gN, e_gT, e_gs0, e_gs1, e_aug, kAg_i, e_app, kAp_l, e_item, e_for, e_forN, e_fn, kF_n, kF_nx, kF_rt, kF_ex, kF_i, e_outs0, e_outsT, e_outsF, e_K, e_Vf, e_Mf, e_bin, e_un, e_A0, e_A1, e_lst, e_tup, e_C, e_tV, kT_b, e_tAnd, e_tOr, e_tNot, e_xNot, kNt_b, e_xAnd, kAn_b, e_xOr, kOr_b, e_xIf, e_ch, kCh_i, kCz_i, e_is, e_Q, e_Rg1, e_Rg2, e_Sl, kSl_f, e_oN, e_oS, e_call, kA_rt, kA_ex, kA_n, kA_i, e_R0, e_Rv, e_Ri, e_callK, kCK_f, e_take0, e_takeV, e_takeI, e_put0, e_putV, e_putI, fz_f, fz_l, fzs_0, fzs_1, fzs_map, fzs_mapI, fzs_1l, e_b1, e_b2, e_b2g, e_bs, v_bn, v_add, v_sub, v_mul, v_div, v_mod, v_pow, v_neg, v_catNN, v_catFN, v_catNF, v_catFF, v_rep, v_lt, v_le, v_gt, v_ge, v_is, v_isN, v_isO, v_isNO, v_non, v_nonI, v_nonL, v_nonT, v_nonB, v_eqI, v_neI, v_eqS, v_neS, v_lenL, v_lenT, v_abs, v_max2, v_min2, v_min3, v_intsM, v_ints0, v_ints1, v_blsM, v_blsF, v_intsF, v_maxL, v_minL, v_sum, v_sort, v_all, v_any, v_int, v_intB, v_list, v_listT, v_tuple, v_kIsN, v_kIsI, v_kIsL, v_kIsT, v_kIsB, v_isInt, v_isBool, v_isLst, v_isTup, v_repr, v_at, v_atL, v_atN, v_ixT, v_ixL, v_ixN, e_qK, e_qV, v_gKd, v_gOs, v_gLs, v_gDs, v_gDsT, v_gF, v_gI, v_isNn, e_Vn', e_Mn', v_isNo1, v_isNo2, e_pV, e_qIxF, e_qIxN, e_qI, e_qB, e_get, kIt_l', v_ixLit, v_ix0, v_at0, v_at1, v_ix1, e_apply', e_eB, e_cK, e_cT1, e_cT2, e_cTb, e_wipe0, e_wipe1, e_back0, e_back1, v_bkF, v_bkNo, v_bkN, v_tY, v_Vg, v_atLast, v_ixS, v_setLast, v_fzSnoc, v_fzSnocC, v_LIM, v_fzF, v_fzC, v_fzFF, v_intsC, v_blsC, e_SrtSet, v_ss, e_tup2, kT2_2, v_minPI, v_minPP, v_isB, e_tBor, kTb_o, v_frzS_f, v_frzS_no, v_frzS_n, e_appP, e_clrP, v_appEach0, v_appEach1, v_appEachM, e_forApp0, e_forApp1, e_AS, v_kFl, e_tpo, v_ixTp, fz_tp, f_up_c0a7, b_up_c0a7, h1, h2, h3, h4, h5, -Int.neg_mul]
theorem LoadOk.szp {p q : Int} {ss : List Int} (h : LoadOk p q ss) : Sz 64 p := sz_of (by have := h.p1; omega) (by have := h.p2; omega)
theorem LoadOk.szq {p q : Int} {ss : List Int} (h : LoadOk p q ss) : Sz 150 q := sz_of (by have := h.q1; omega) (by have := h.q2; unfold MP at this; omega)
theorem LoadOk.szs {p q : Int} {ss : List Int} (h : LoadOk p q ss) {s : Int} (hs : s ∈ ss) : Sz 150 s := h.szq.of0 (by have := (h.sh s hs).1; omega) (h.sh s hs).2
theorem wrong_x1 {p q : Int} {ss : List Int} (h : LoadOk p q ss) : x1_wrong_item_33b3 [.f (loadD p q ss), .f (.int p), .f (.int q), .f (.lst (ss.map .int)), .no] = some (.ok (.n .lst (ss.map fun _ => .f (.bl true))) [.f (loadD p q ss), .f (.int p), .f (.int q), .f (.lst (ss.map .int)), .no]) := by
  unfold x1_wrong_item_33b3
  refine comp_mapT (l := ss) (g := .int) (iL_f (ds := ss.map .int) (by simp (implicitDefEqProofs := false) (decide := true) (maxDischargeDepth := 9) [e_bnd, e_ret, e_opt, kO_s, kO_n, kO_i, kB_n, kB_o, kB_x, kB_i, e_val, kV_n, kV_o, kV_x, kV_i, e_seq, kS_n, kS_nx, kS_rt, kS_bk, kS_ct, kS_ex, kS_i, e_nil, e_pass, e_brk, e_cnt, e_sret, e_sretN, e_expr, e_if, e_set, e_par, e_par3, kP3_3, e_tgt, kTg_f, kTg_n, e_gN, e_gT, e_gs0, e_gs1, e_aug, kAg_i, e_app, kAp_l, e_item, e_for, e_forN, e_fn, kF_n, kF_nx, kF_rt, kF_ex, kF_i, e_outs0, e_outsT, e_outsF, e_K, e_Vf, e_Mf, e_bin, e_un, e_A0, e_A1, e_lst, e_tup, e_C, e_tV, kT_b, e_tAnd, e_tOr, e_tNot, e_xNot, kNt_b, e_xAnd, kAn_b, e_xOr, kOr_b, e_xIf, e_ch, kCh_i, kCz_i, e_is, e_Q, e_Rg1, e_Rg2, e_Sl, kSl_f, e_oN, e_oS, e_call, kA_rt, kA_ex, kA_n, kA_i, e_R0, e_Rv, e_Ri, e_callK, kCK_f, e_take0, e_takeV, e_takeI, e_put0, e_putV, e_putI, fz_f, fz_l, fzs_0, fzs_1, fzs_map, fzs_mapI, fzs_1l, e_b1, e_b2, e_b2g, e_bs, v_bn, v_add, v_sub, v_mul, v_div, v_mod, v_pow, v_neg, v_catNN, v_catFN, v_catNF, v_catFF, v_rep, v_lt, v_le, v_gt, v_ge, v_is, v_isN, v_isO, v_isNO, v_non, v_nonI, v_nonL, v_nonT, v_nonB, v_eqI, v_neI, v_eqS, v_neS, v_lenL, v_lenT, v_abs, v_max2, v_min2, v_min3, v_intsM, v_ints0, v_ints1, v_blsM, v_blsF, v_intsF, v_maxL, v_minL, v_sum, v_sort, v_all, v_any, v_int, v_intB, v_list, v_listT, v_tuple, v_kIsN, v_kIsI, v_kIsL, v_kIsT, v_kIsB, v_isInt, v_isBool, v_isLst, v_isTup, v_repr, v_at, v_atL, v_atN, v_ixT, v_ixL, v_ixN, e_qK, e_qV, v_gKd, v_gOs, v_gLs, v_gDs, v_gDsT, v_gF, v_gI, v_isNn, e_Vn', e_Mn', v_isNo1, v_isNo2, e_pV, e_qIxF, e_qIxN, e_qI, e_qB, e_get, kIt_l', v_ixLit, v_ix0, v_at0, v_at1, v_ix1, e_apply', e_eB, e_cK, e_cT1, e_cT2, e_cTb, e_wipe0, e_wipe1, e_back0, e_back1, v_bkF, v_bkNo, v_bkN, v_tY, v_Vg, v_atLast, v_ixS, v_setLast, v_fzSnoc, v_fzSnocC, v_LIM, v_fzF, v_fzC, v_fzFF, v_intsC, v_blsC, e_SrtSet, v_ss, e_tup2, kT2_2, v_minPI, v_minPP, v_isB, e_tBor, kTb_o, v_frzS_f, v_frzS_no, v_frzS_n, e_appP, e_clrP, v_appEach0, v_appEach1, v_appEachM, e_forApp0, e_forApp1, e_AS, v_kFl, e_tpo, v_ixTp, fz_tp, ])) rfl (by have := h.l2; unfold LIM; omega) fun s hs => ?_
  have e := is_integer_yes (h.sh s hs).1 (h.sh s hs).2
  simp (implicitDefEqProofs := false) (decide := true) (maxDischargeDepth := 9) [e_bnd, e_ret, e_opt, kO_s, kO_n, kO_i, kB_n, kB_o, kB_x, kB_i, e_val, kV_n, kV_o, kV_x, kV_i, e_seq, kS_n, kS_nx, kS_rt, kS_bk, kS_ct, kS_ex, kS_i, e_nil, e_pass, e_brk, e_cnt, e_sret, e_sretN, e_expr, e_if, e_set, e_par, e_par3, kP3_3, e_tgt, kTg_f, kTg_n, e_gN, e_gT, e_gs0, e_gs1, e_aug, kAg_i, e_app, kAp_l, e_item, e_for, e_forN, e_fn, kF_n, kF_nx, kF_rt, kF_ex, kF_i, e_outs0, e_outsT, e_outsF, e_K, e_Vf, e_Mf, e_bin, e_un, e_A0, e_A1, e_lst, e_tup, e_C, e_tV, kT_b, e_tAnd, e_tOr, e_tNot, e_xNot, kNt_b, e_xAnd, kAn_b, e_xOr, kOr_b, e_xIf, e_ch, kCh_i, kCz_i, e_is, e_Q, e_Rg1, e_Rg2, e_Sl, kSl_f, e_oN, e_oS, e_call, kA_rt, kA_ex, kA_n, kA_i, e_R0, e_Rv, e_Ri, e_callK, kCK_f, e_take0, e_takeV, e_takeI, e_put0, e_putV, e_putI, fz_f, fz_l, fzs_0, fzs_1, fzs_map, fzs_mapI, fzs_1l, e_b1, e_b2, e_b2g, e_bs, v_bn, v_add, v_sub, v_mul, v_div, v_mod, v_pow, v_neg, v_catNN, v_catFN, v_catNF, v_catFF, v_rep, v_lt, v_le, v_gt, v_ge, v_is, v_isN, v_isO, v_isNO, v_non, v_nonI, v_nonL, v_nonT, v_nonB, v_eqI, v_neI, v_eqS, v_neS, v_lenL, v_lenT, v_abs, v_max2, v_min2, v_min3, v_intsM, v_ints0, v_ints1, v_blsM, v_blsF, v_intsF, v_maxL, v_minL, v_sum, v_sort, v_all, v_any, v_int, v_intB, v_list, v_listT, v_tuple, v_kIsN, v_kIsI, v_kIsL, v_kIsT, v_kIsB, v_isInt, v_isBool, v_isLst, v_isTup, v_repr, v_at, v_atL, v_atN, v_ixT, v_ixL, v_ixN, e_qK, e_qV, v_gKd, v_gOs, v_gLs, v_gDs, v_gDsT, v_gF, v_gI, v_isNn, e_Vn', e_Mn', v_isNo1, v_isNo2, e_pV, e_qIxF, e_qIxN, e_qI, e_qB, e_get, kIt_l', v_ixLit, v_ix0, v_at0, v_at1, v_ix1, e_apply', e_eB, e_cK, e_cT1, e_cT2, e_cTb, e_wipe0, e_wipe1, e_back0, e_back1, v_bkF, v_bkNo, v_bkN, v_tY, v_Vg, v_atLast, v_ixS, v_setLast, v_fzSnoc, v_fzSnocC, v_LIM, v_fzF, v_fzC, v_fzFF, v_intsC, v_blsC, e_SrtSet, v_ss, e_tup2, kT2_2, v_minPI, v_minPP, v_isB, e_tBor, kTb_o, v_frzS_f, v_frzS_no, v_frzS_n, e_appP, e_clrP, v_appEach0, v_appEach1, v_appEachM, e_forApp0, e_forApp1, e_AS, v_kFl, e_tpo, v_ixTp, fz_tp, e]
theorem wrong_eval {p q : Int} {ss : List Int} (h : LoadOk p q ss) : f_wrong_item_33b3 [.f (loadD p q ss)] = some (.rt (.f .non) [.no]) := by
  have e1 := is_integer_yes h.p1 h.p2
  have e2 := is_integer_yes (h := 999999999999999999999999999999) h.q1 h.q2
  have e3 := wrong_x1 h
  haveI := h.szp
  haveI := h.szq
  have l1 := h.l1
  have l2 := h.l2
  have l3 := h.sm
  unfold loadD at e3 ⊢
  simp (implicitDefEqProofs := false) (decide := true) (maxDischargeDepth := 9) [e_bnd, e_ret, e_opt, kO_s, kO_n, kO_i, kB_n, kB_o, kB_x, kB_i, e_val, kV_n, kV_o, kV_x, kV_i, e_seq, kS_n, kS_nx, kS_rt, kS_bk, kS_ct, kS_ex, kS_i, e_nil, e_pass, e_brk, e_cnt, e_sret, e_sretN, e_expr, e_if, e_set, e_par, e_par3, kP3_3, e_tgt, kTg_f, kTg_n, e_gN, e_gT, e_gs0, e_gs1, e_aug, kAg_i, e_app, kAp_l, e_item, e_for, e_forN, e_fn, kF_n, kF_nx, kF_rt, kF_ex, kF_i, e_outs0, e_outsT, e_outsF, e_K, e_Vf, e_Mf, e_bin, e_un, e_A0, e_A1, e_lst, e_tup, e_C, e_tV, kT_b, e_tAnd, e_tOr, e_tNot, e_xNot, kNt_b, e_xAnd, kAn_b, e_xOr, kOr_b, e_xIf, e_ch, kCh_i, kCz_i, e_is, e_Q, e_Rg1, e_Rg2, e_Sl, kSl_f, e_oN, e_oS, e_call, kA_rt, kA_ex, kA_n, kA_i, e_R0, e_Rv, e_Ri, e_callK, kCK_f, e_take0, e_takeV, e_takeI, e_put0, e_putV, e_putI, fz_f, fz_l, fzs_0, fzs_1, fzs_map, fzs_mapI, fzs_1l, e_b1, e_b2, e_b2g, e_bs, v_bn, v_add, v_sub, v_mul, v_div, v_mod, v_pow, v_neg, v_catNN, v_catFN, v_catNF, v_catFF, v_rep, v_lt, v_le, v_gt, v_ge, v_is, v_isN, v_isO, v_isNO, v_non, v_nonI, v_nonL, v_nonT, v_nonB, v_eqI, v_neI, v_eqS, v_neS, v_lenL, v_lenT, v_abs, v_max2, v_min2, v_min3, v_intsM, v_ints0, v_ints1, v_blsM, v_blsF, v_intsF, v_maxL, v_minL, v_sum, v_sort, v_all, v_any, v_int, v_intB, v_list, v_listT, v_tuple, v_kIsN, v_kIsI, v_kIsL, v_kIsT, v_kIsB, v_isInt, v_isBool, v_isLst, v_isTup, v_repr, v_at, v_atL, v_atN, v_ixT, v_ixL, v_ixN, e_qK, e_qV, v_gKd, v_gOs, v_gLs, v_gDs, v_gDsT, v_gF, v_gI, v_isNn, e_Vn', e_Mn', v_isNo1, v_isNo2, e_pV, e_qIxF, e_qIxN, e_qI, e_qB, e_get, kIt_l', v_ixLit, v_ix0, v_at0, v_at1, v_ix1, e_apply', e_eB, e_cK, e_cT1, e_cT2, e_cTb, e_wipe0, e_wipe1, e_back0, e_back1, v_bkF, v_bkNo, v_bkN, v_tY, v_Vg, v_atLast, v_ixS, v_setLast, v_fzSnoc, v_fzSnocC, v_LIM, v_fzF, v_fzC, v_fzFF, v_intsC, v_blsC, e_SrtSet, v_ss, e_tup2, kT2_2, v_minPI, v_minPP, v_isB, e_tBor, kTb_o, v_frzS_f, v_frzS_no, v_frzS_n, e_appP, e_clrP, v_appEach0, v_appEach1, v_appEachM, e_forApp0, e_forApp1, e_AS, v_kFl, e_tpo, v_ixTp, fz_tp, f_wrong_item_33b3, b_wrong_item_33b3, e1, e2, e3, show (1 : Int) ≤ ss.length by omega, show (ss.length : Int) ≤ 12 by omega, show ¬ p * q < ss.sum by omega]
theorem need_load_eval {p q : Int} {ss : List Int} (h : LoadOk p q ss) : f_need_load_39ed [.f (loadD p q ss)] = some (.rt (.f .non) [.no]) := by
  have e := wrong_eval h
  unfold loadD at e ⊢
  simp (implicitDefEqProofs := false) (decide := true) (maxDischargeDepth := 9) [e_bnd, e_ret, e_opt, kO_s, kO_n, kO_i, kB_n, kB_o, kB_x, kB_i, e_val, kV_n, kV_o, kV_x, kV_i, e_seq, kS_n, kS_nx, kS_rt, kS_bk, kS_ct, kS_ex, kS_i, e_nil, e_pass, e_brk, e_cnt, e_sret, e_sretN, e_expr, e_if, e_set, e_par, e_par3, kP3_3, e_tgt, kTg_f, kTg_n, e_gN, e_gT, e_gs0, e_gs1, e_aug, kAg_i, e_app, kAp_l, e_item, e_for, e_forN, e_fn, kF_n, kF_nx, kF_rt, kF_ex, kF_i, e_outs0, e_outsT, e_outsF, e_K, e_Vf, e_Mf, e_bin, e_un, e_A0, e_A1, e_lst, e_tup, e_C, e_tV, kT_b, e_tAnd, e_tOr, e_tNot, e_xNot, kNt_b, e_xAnd, kAn_b, e_xOr, kOr_b, e_xIf, e_ch, kCh_i, kCz_i, e_is, e_Q, e_Rg1, e_Rg2, e_Sl, kSl_f, e_oN, e_oS, e_call, kA_rt, kA_ex, kA_n, kA_i, e_R0, e_Rv, e_Ri, e_callK, kCK_f, e_take0, e_takeV, e_takeI, e_put0, e_putV, e_putI, fz_f, fz_l, fzs_0, fzs_1, fzs_map, fzs_mapI, fzs_1l, e_b1, e_b2, e_b2g, e_bs, v_bn, v_add, v_sub, v_mul, v_div, v_mod, v_pow, v_neg, v_catNN, v_catFN, v_catNF, v_catFF, v_rep, v_lt, v_le, v_gt, v_ge, v_is, v_isN, v_isO, v_isNO, v_non, v_nonI, v_nonL, v_nonT, v_nonB, v_eqI, v_neI, v_eqS, v_neS, v_lenL, v_lenT, v_abs, v_max2, v_min2, v_min3, v_intsM, v_ints0, v_ints1, v_blsM, v_blsF, v_intsF, v_maxL, v_minL, v_sum, v_sort, v_all, v_any, v_int, v_intB, v_list, v_listT, v_tuple, v_kIsN, v_kIsI, v_kIsL, v_kIsT, v_kIsB, v_isInt, v_isBool, v_isLst, v_isTup, v_repr, v_at, v_atL, v_atN, v_ixT, v_ixL, v_ixN, e_qK, e_qV, v_gKd, v_gOs, v_gLs, v_gDs, v_gDsT, v_gF, v_gI, v_isNn, e_Vn', e_Mn', v_isNo1, v_isNo2, e_pV, e_qIxF, e_qIxN, e_qI, e_qB, e_get, kIt_l', v_ixLit, v_ix0, v_at0, v_at1, v_ix1, e_apply', e_eB, e_cK, e_cT1, e_cT2, e_cTb, e_wipe0, e_wipe1, e_back0, e_back1, v_bkF, v_bkNo, v_bkN, v_tY, v_Vg, v_atLast, v_ixS, v_setLast, v_fzSnoc, v_fzSnocC, v_LIM, v_fzF, v_fzC, v_fzFF, v_intsC, v_blsC, e_SrtSet, v_ss, e_tup2, kT2_2, v_minPI, v_minPP, v_isB, e_tBor, kTb_o, v_frzS_f, v_frzS_no, v_frzS_n, e_appP, e_clrP, v_appEach0, v_appEach1, v_appEachM, e_forApp0, e_forApp1, e_AS, v_kFl, e_tpo, v_ixTp, fz_tp, f_need_load_39ed, b_need_load_39ed, e]
theorem need_number_eval {v l h : Int} (h1 : l ≤ v) (h2 : v ≤ h) : f_need_number_26f5 [.f (.int v), .f (.int l), .f (.int h)] = some (.rt (.f .non) [.no, .no, .no]) := by
  have e := is_integer_yes h1 h2
  simp (implicitDefEqProofs := false) (decide := true) (maxDischargeDepth := 9) [e_bnd, e_ret, e_opt, kO_s, kO_n, kO_i, kB_n, kB_o, kB_x, kB_i, e_val, kV_n, kV_o, kV_x, kV_i, e_seq, kS_n, kS_nx, kS_rt, kS_bk, kS_ct, kS_ex, kS_i, e_nil, e_pass, e_brk, e_cnt, e_sret, e_sretN, e_expr, e_if, e_set, e_par, e_par3, kP3_3, e_tgt, kTg_f, kTg_n, e_gN, e_gT, e_gs0, e_gs1, e_aug, kAg_i, e_app, kAp_l, e_item, e_for, e_forN, e_fn, kF_n, kF_nx, kF_rt, kF_ex, kF_i, e_outs0, e_outsT, e_outsF, e_K, e_Vf, e_Mf, e_bin, e_un, e_A0, e_A1, e_lst, e_tup, e_C, e_tV, kT_b, e_tAnd, e_tOr, e_tNot, e_xNot, kNt_b, e_xAnd, kAn_b, e_xOr, kOr_b, e_xIf, e_ch, kCh_i, kCz_i, e_is, e_Q, e_Rg1, e_Rg2, e_Sl, kSl_f, e_oN, e_oS, e_call, kA_rt, kA_ex, kA_n, kA_i, e_R0, e_Rv, e_Ri, e_callK, kCK_f, e_take0, e_takeV, e_takeI, e_put0, e_putV, e_putI, fz_f, fz_l, fzs_0, fzs_1, fzs_map, fzs_mapI, fzs_1l, e_b1, e_b2, e_b2g, e_bs, v_bn, v_add, v_sub, v_mul, v_div, v_mod, v_pow, v_neg, v_catNN, v_catFN, v_catNF, v_catFF, v_rep, v_lt, v_le, v_gt, v_ge, v_is, v_isN, v_isO, v_isNO, v_non, v_nonI, v_nonL, v_nonT, v_nonB, v_eqI, v_neI, v_eqS, v_neS, v_lenL, v_lenT, v_abs, v_max2, v_min2, v_min3, v_intsM, v_ints0, v_ints1, v_blsM, v_blsF, v_intsF, v_maxL, v_minL, v_sum, v_sort, v_all, v_any, v_int, v_intB, v_list, v_listT, v_tuple, v_kIsN, v_kIsI, v_kIsL, v_kIsT, v_kIsB, v_isInt, v_isBool, v_isLst, v_isTup, v_repr, v_at, v_atL, v_atN, v_ixT, v_ixL, v_ixN, e_qK, e_qV, v_gKd, v_gOs, v_gLs, v_gDs, v_gDsT, v_gF, v_gI, v_isNn, e_Vn', e_Mn', v_isNo1, v_isNo2, e_pV, e_qIxF, e_qIxN, e_qI, e_qB, e_get, kIt_l', v_ixLit, v_ix0, v_at0, v_at1, v_ix1, e_apply', e_eB, e_cK, e_cT1, e_cT2, e_cTb, e_wipe0, e_wipe1, e_back0, e_back1, v_bkF, v_bkNo, v_bkN, v_tY, v_Vg, v_atLast, v_ixS, v_setLast, v_fzSnoc, v_fzSnocC, v_LIM, v_fzF, v_fzC, v_fzFF, v_intsC, v_blsC, e_SrtSet, v_ss, e_tup2, kT2_2, v_minPI, v_minPP, v_isB, e_tBor, kTb_o, v_frzS_f, v_frzS_no, v_frzS_n, e_appP, e_clrP, v_appEach0, v_appEach1, v_appEachM, e_forApp0, e_forApp1, e_AS, v_kFl, e_tpo, v_ixTp, fz_tp, f_need_number_26f5, b_need_number_26f5, e]
theorem need_number_evalN {v l : Int} (h1 : l ≤ v) : f_need_number_26f5 [.f (.int v), .f (.int l), .f .non] = some (.rt (.f .non) [.no, .no, .no]) := by
  have e := is_integer_yesN h1
  simp (implicitDefEqProofs := false) (decide := true) (maxDischargeDepth := 9) [e_bnd, e_ret, e_opt, kO_s, kO_n, kO_i, kB_n, kB_o, kB_x, kB_i, e_val, kV_n, kV_o, kV_x, kV_i, e_seq, kS_n, kS_nx, kS_rt, kS_bk, kS_ct, kS_ex, kS_i, e_nil, e_pass, e_brk, e_cnt, e_sret, e_sretN, e_expr, e_if, e_set, e_par, e_par3, kP3_3, e_tgt, kTg_f, kTg_n, e_gN, e_gT, e_gs0, e_gs1, e_aug, kAg_i, e_app, kAp_l, e_item, e_for, e_forN, e_fn, kF_n, kF_nx, kF_rt, kF_ex, kF_i, e_outs0, e_outsT, e_outsF, e_K, e_Vf, e_Mf, e_bin, e_un, e_A0, e_A1, e_lst, e_tup, e_C, e_tV, kT_b, e_tAnd, e_tOr, e_tNot, e_xNot, kNt_b, e_xAnd, kAn_b, e_xOr, kOr_b, e_xIf, e_ch, kCh_i, kCz_i, e_is, e_Q, e_Rg1, e_Rg2, e_Sl, kSl_f, e_oN, e_oS, e_call, kA_rt, kA_ex, kA_n, kA_i, e_R0, e_Rv, e_Ri, e_callK, kCK_f, e_take0, e_takeV, e_takeI, e_put0, e_putV, e_putI, fz_f, fz_l, fzs_0, fzs_1, fzs_map, fzs_mapI, fzs_1l, e_b1, e_b2, e_b2g, e_bs, v_bn, v_add, v_sub, v_mul, v_div, v_mod, v_pow, v_neg, v_catNN, v_catFN, v_catNF, v_catFF, v_rep, v_lt, v_le, v_gt, v_ge, v_is, v_isN, v_isO, v_isNO, v_non, v_nonI, v_nonL, v_nonT, v_nonB, v_eqI, v_neI, v_eqS, v_neS, v_lenL, v_lenT, v_abs, v_max2, v_min2, v_min3, v_intsM, v_ints0, v_ints1, v_blsM, v_blsF, v_intsF, v_maxL, v_minL, v_sum, v_sort, v_all, v_any, v_int, v_intB, v_list, v_listT, v_tuple, v_kIsN, v_kIsI, v_kIsL, v_kIsT, v_kIsB, v_isInt, v_isBool, v_isLst, v_isTup, v_repr, v_at, v_atL, v_atN, v_ixT, v_ixL, v_ixN, e_qK, e_qV, v_gKd, v_gOs, v_gLs, v_gDs, v_gDsT, v_gF, v_gI, v_isNn, e_Vn', e_Mn', v_isNo1, v_isNo2, e_pV, e_qIxF, e_qIxN, e_qI, e_qB, e_get, kIt_l', v_ixLit, v_ix0, v_at0, v_at1, v_ix1, e_apply', e_eB, e_cK, e_cT1, e_cT2, e_cTb, e_wipe0, e_wipe1, e_back0, e_back1, v_bkF, v_bkNo, v_bkN, v_tY, v_Vg, v_atLast, v_ixS, v_setLast, v_fzSnoc, v_fzSnocC, v_LIM, v_fzF, v_fzC, v_fzFF, v_intsC, v_blsC, e_SrtSet, v_ss, e_tup2, kT2_2, v_minPI, v_minPP, v_isB, e_tBor, kTb_o, v_frzS_f, v_frzS_no, v_frzS_n, e_appP, e_clrP, v_appEach0, v_appEach1, v_appEachM, e_forApp0, e_forApp1, e_AS, v_kFl, e_tpo, v_ixTp, fz_tp, f_need_number_26f5, b_need_number_26f5, e]
theorem need_single_eval {q : Int} {ss : List Int} : f_need_single_2041 [.f (loadD 1 q ss)] = some (.rt (.f .non) [.no]) := by
  simp (implicitDefEqProofs := false) (decide := true) (maxDischargeDepth := 9) [e_bnd, e_ret, e_opt, kO_s, kO_n, kO_i, kB_n, kB_o, kB_x, kB_i, e_val, kV_n, kV_o, kV_x, kV_i, e_seq, kS_n, kS_nx, kS_rt, kS_bk, kS_ct, kS_ex, kS_i, e_nil, e_pass, e_brk, e_cnt, e_sret, e_sretN, e_expr, e_if, e_set, e_par, e_par3, kP3_3, e_tgt, kTg_f, kTg_n, e_gN, e_gT, e_gs0, e_gs1, e_aug, kAg_i, e_app, kAp_l, e_item, e_for, e_forN, e_fn, kF_n, kF_nx, kF_rt, kF_ex, kF_i, e_outs0, e_outsT, e_outsF, e_K, e_Vf, e_Mf, e_bin, e_un, e_A0, e_A1, e_lst, e_tup, e_C, e_tV, kT_b, e_tAnd, e_tOr, e_tNot, e_xNot, kNt_b, e_xAnd, kAn_b, e_xOr, kOr_b, e_xIf, e_ch, kCh_i, kCz_i, e_is, e_Q, e_Rg1, e_Rg2, e_Sl, kSl_f, e_oN, e_oS, e_call, kA_rt, kA_ex, kA_n, kA_i, e_R0, e_Rv, e_Ri, e_callK, kCK_f, e_take0, e_takeV, e_takeI, e_put0, e_putV, e_putI, fz_f, fz_l, fzs_0, fzs_1, fzs_map, fzs_mapI, fzs_1l, e_b1, e_b2, e_b2g, e_bs, v_bn, v_add, v_sub, v_mul, v_div, v_mod, v_pow, v_neg, v_catNN, v_catFN, v_catNF, v_catFF, v_rep, v_lt, v_le, v_gt, v_ge, v_is, v_isN, v_isO, v_isNO, v_non, v_nonI, v_nonL, v_nonT, v_nonB, v_eqI, v_neI, v_eqS, v_neS, v_lenL, v_lenT, v_abs, v_max2, v_min2, v_min3, v_intsM, v_ints0, v_ints1, v_blsM, v_blsF, v_intsF, v_maxL, v_minL, v_sum, v_sort, v_all, v_any, v_int, v_intB, v_list, v_listT, v_tuple, v_kIsN, v_kIsI, v_kIsL, v_kIsT, v_kIsB, v_isInt, v_isBool, v_isLst, v_isTup, v_repr, v_at, v_atL, v_atN, v_ixT, v_ixL, v_ixN, e_qK, e_qV, v_gKd, v_gOs, v_gLs, v_gDs, v_gDsT, v_gF, v_gI, v_isNn, e_Vn', e_Mn', v_isNo1, v_isNo2, e_pV, e_qIxF, e_qIxN, e_qI, e_qB, e_get, kIt_l', v_ixLit, v_ix0, v_at0, v_at1, v_ix1, e_apply', e_eB, e_cK, e_cT1, e_cT2, e_cTb, e_wipe0, e_wipe1, e_back0, e_back1, v_bkF, v_bkNo, v_bkN, v_tY, v_Vg, v_atLast, v_ixS, v_setLast, v_fzSnoc, v_fzSnocC, v_LIM, v_fzF, v_fzC, v_fzFF, v_intsC, v_blsC, e_SrtSet, v_ss, e_tup2, kT2_2, v_minPI, v_minPP, v_isB, e_tBor, kTb_o, v_frzS_f, v_frzS_no, v_frzS_n, e_appP, e_clrP, v_appEach0, v_appEach1, v_appEachM, e_forApp0, e_forApp1, e_AS, v_kFl, e_tpo, v_ixTp, fz_tp, f_need_single_2041, b_need_single_2041, loadD]
end Ev
namespace Ev
open OW
open DL (Dt)
/-- a number or None -/
def oO (o : Option Int) : Ow := match o with
  | some i => .f (.int i)
  | none => .f .non
theorem oO_some {i : Int} : oO (some i) = .f (.int i) := rfl
theorem oO_none : oO none = .f .non := rfl
theorem oO_some' {i : Int} : oO (some i) = .f (.int i) := rfl
theorem oO_none' : oO none = .f .non := rfl
def dO (o : Option Int) : Dt := match o with
  | some i => .int i
  | none => .non
theorem oO_f {o : Option Int} : oO o = .f (dO o) := by cases o <;> rfl
theorem oI_sm {o : Option Int} (h : ∀ i, o = some i → DL.Bd 1900 i) : (dO o).Sm := by
  cases o with
  | none => trivial
  | some i => exact h i rfl
theorem oI_dep {o : Option Int} : (dO o).dep = 0 := by cases o <;> rfl
theorem oI_wt {o : Option Int} : (dO o).wt ≤ 1921 := by
  cases o with
  | none => show 4 ≤ 1921; decide
  | some i => exact Nat.le_refl _
theorem Sz.bd {n m : Nat} {i : Int} (h : Sz n i) (k : n ≤ m) : DL.Bd m i := (h.up k).lt
theorem four_repr {a b : Option Int} (ha : ∀ i, a = some i → DL.Bd 1900 i) (hb : ∀ i, b = some i → DL.Bd 1900 i) : kRepr [.lst [dO a, dO a, dO b, dO b]] = some (.f (.str (Dt.text (.lst [dO a, dO a, dO b, dO b])))) := by
  refine v_repr (DL.fits_of ⟨oI_sm ha, oI_sm ha, oI_sm hb, oI_sm hb, trivial⟩ ?_ ?_) (.inl ⟨_, rfl⟩)
  · show max (dO a).dep (max (dO a).dep (max (dO b).dep (max (dO b).dep 0))) + 1 ≤ 100
    simp [oI_dep]
  · show (dO a).wt + 2 + ((dO a).wt + 2 + ((dO b).wt + 2 + ((dO b).wt + 2 + 0))) + 2 ≤ 16777216
    have := @oI_wt a
    have := @oI_wt b
    omega
theorem ints_repr {cs : List Int} (h : ∀ c ∈ cs, DL.Bd 1900 c) (hl : cs.length ≤ 4000) : kRepr [.lst (cs.map .int)] = some (.f (.str (Dt.text (.lst (cs.map .int))))) := by
  refine v_repr (DL.fits_of (show DL.Dt.SmA _ from DL.sm_ints h) ?_ ?_) (.inl ⟨_, rfl⟩)
  · show DL.Dt.depA _ + 1 ≤ 100
    rw [DL.dep_ints]
    decide
  · show DL.Dt.wtA _ + 2 ≤ 16777216
    rw [DL.wt_ints]
    omega
end Ev
namespace Ev
open PySem L2 OW
open DL (Dt FnG FnAt)
noncomputable section
def x1_is_tick_ca34 : Fn Ow :=
  (xComp [3, 4] (iZ (xV 2) (xSl (xV 2) (oS (xK (.int 1))) oN)) (gT (gs1 (gN 3) (gs1 (gN 4) gs0))) tY (xBin cLt (xV 3) (xV 4)))
def x2_is_tick_ca34 : Fn Ow :=
  (xComp [5] (iL (xV 2)) (gN 5) tY (xCall 3 f_is_integer_4a98 (xRv (xV 5) (xRv (xK (.int 0)) (xRv (xBin bSub (xV 1) (xK (.int 1))) xR0)))))
def b_is_tick_ca34 : SF :=
  (sSeq (sIf (tOr (tNot (tV (xIs DL.Dt.isLst (xV 2)))) (tV (xBin cGt (xC (oBs kLen) (xA1 (xV 2) xA0)) (xV 0)))) (sSeq (sRet (xK (.bl false))) sNil) sNil) (sSeq (sIf (tNot (tV (xC (oBs kAll) (xA1 x2_is_tick_ca34 xA0)))) (sSeq (sRet (xK (.bl false))) sNil) sNil) (sSeq (sRet (xC (oBs kAll) (xA1 x1_is_tick_ca34 xA0))) sNil)))
def f_is_tick_ca34 : FO := fnOf 6 [false, false, false] b_is_tick_ca34
end
end Ev
namespace Ev
open PySem L2 OW
open DL (Dt FnG FnAt)
noncomputable section
def l1_wrong_tick_223b : SF :=
  (sFor (iE (xV 2)) (gT (gs1 (gN 3) (gs1 (gN 4) gs0))) (sSeq (sIf (tNot (tV (xCall 3 f_is_tick_ca34 (xRv (xV 0) (xRv (xV 1) (xRv (xV 4) xR0)))))) (sSeq (sRet (xM 3)) sNil) sNil) sNil))
def b_wrong_tick_223b : SF :=
  (sSeq l1_wrong_tick_223b (sSeq (sRet (xK .non)) sNil))
def f_wrong_tick_223b : FO := fnOf 5 [false, false, false] b_wrong_tick_223b
end
end Ev
namespace Ev
open PySem L2 OW
open DL (Dt FnG FnAt)
noncomputable section
def b_need_plan_eb06 : SF :=
  (sSeq (sIf (tOr (tNot (tV (xIs DL.Dt.isLst (xV 1)))) (tV (xBin cGt (xC (oBs kLen) (xA1 (xV 1) xA0)) (xK (.int (1000)))))) (sSeq (fun _ => none) sNil) sNil) (sSeq (sSet 2 (xCall 3 f_wrong_tick_223b (xRv (xQ (qIx (pV 0) (qK (.int 0)))) (xRv (xC (oBs kLen) (xA1 (xQ (qIx (pV 0) (qK (.int 2)))) xA0)) (xRv (xV 1) xR0))))) (sSeq (sIf (tV (xBin cIsN (xV 2) (xK .non))) (sSeq (fun _ => none) sNil) sNil) sNil)))
def f_need_plan_eb06 : FO := fnOf 3 [false, false] b_need_plan_eb06
end
end Ev
namespace Ev
open PySem L2 OW
open DL (Dt FnG FnAt)
noncomputable section
def b_need_both_fd01 : SF :=
  (sSeq (sExpr (xCall 1 f_need_load_39ed (xRv (xV 0) xR0))) (sSeq (sExpr (xCall 2 f_need_plan_eb06 (xRv (xV 0) (xRv (xV 1) xR0)))) sNil))
def f_need_both_fd01 : FO := fnOf 2 [false, false] b_need_both_fd01
end
end Ev
namespace Ev
open PySem L2 OW
open DL (Dt FnG FnAt)
noncomputable section
def l1_later_lags_9941 : SF :=
  (sFor (iL (xV 2)) (gN 6) (sSeq (sAugI (fun i j => i - j) (pV 5) (qV 6) (qV 3)) sNil))
def x1_later_lags_9941 : Fn Ow :=
  (xComp [7, 8] (iZ (xV 1) (xV 4)) (gT (gs1 (gN 7) (gs1 (gN 8) gs0))) tY (xBin bAdd (xV 7) (xV 8)))
def b_later_lags_9941 : SF :=
  (sSeq (sPar 3 4 (xQ (qIx (pV 0) (qK (.int 1)))) (xQ (qIx (pV 0) (qK (.int 2))))) (sSeq (sSet 5 x1_later_lags_9941) (sSeq l1_later_lags_9941 (sSeq (sRet (xM 5)) sNil))))
def f_later_lags_9941 : FO := fnOf 9 [false, false, false] b_later_lags_9941
end
end Ev
namespace Ev
open PySem L2 OW
open DL (Dt FnG FnAt)
noncomputable section
def l1_all_lags_d51f : SF :=
  (sFor (iL (xV 1)) (gN 3) (sSeq (sApp 2 (xCall 3 f_later_lags_9941 (xRv (xV 0) (xRv (xGet (pV 2) (qK (.int (-1)))) (xRv (xV 3) xR0))))) sNil))
def b_all_lags_d51f : SF :=
  (sSeq (sSet 2 (xLst (xA1 (xBin bMul (xLst (xA1 (xK (.int 0)) xA0)) (xC (oBs kLen) (xA1 (xQ (qIx (pV 0) (qK (.int 2)))) xA0))) xA0))) (sSeq l1_all_lags_d51f (sSeq (sRet (xM 2)) sNil)))
def f_all_lags_d51f : FO := fnOf 4 [false, false] b_all_lags_d51f
end
end Ev
namespace Ev
open OW
open DL (Dt)
/-- a plan's ticks as data -/
def planD (ls : List (List Int)) : Dt := .lst (ls.map fun l => .lst (l.map .int))
structure TickOk (p : Int) (m : Nat) (l : List Int) : Prop where
  len : (l.length : Int) ≤ p
  rng : ∀ x ∈ l, 0 ≤ x ∧ x < m
  asc : l.Pairwise (· < ·)
structure PlanOk (p : Int) (m : Nat) (ls : List (List Int)) : Prop where
  len : ls.length ≤ 1000
  tk : ∀ l ∈ ls, TickOk p m l
theorem cut_from {ds : List Dt} {k : Nat} : DL.cutD ds (some (k : Int)) none = ds.drop k := by
  unfold DL.cutD
  rw [HT.sIx_none, HT.sIx_nat]
  by_cases h : k ≤ ds.length
  · rw [Nat.min_eq_left h, List.take_of_length_le (by rw [List.length_drop]; omega)]
  · rw [Nat.min_eq_right (by omega), List.drop_of_length_le (Nat.le_refl _), List.drop_of_length_le (by omega), List.take_nil]
theorem cut_to {ds : List Dt} {k : Nat} : DL.cutD ds none (some (k : Int)) = ds.take k := by
  unfold DL.cutD
  rw [HT.sIx_none, HT.sIx_nat]
  rw [List.drop_zero, Nat.sub_zero]
  by_cases h : k ≤ ds.length
  · rw [Nat.min_eq_left h]
  · rw [Nat.min_eq_right (by omega), List.take_of_length_le (Nat.le_refl _), List.take_of_length_le (by omega)]
theorem asc_zip : ∀ {l : List Int}, l.Pairwise (· < ·) → ∀ x ∈ l.zip (l.drop 1), x.1 < x.2
  | [], _, x, h => by simp at h
  | [a], _, x, h => by simp at h
  | a :: b :: l, hp, x, h => by
    obtain ⟨h1, h2⟩ := List.pairwise_cons.mp hp
    rcases List.mem_cons.mp (show x ∈ (a, b) :: (b :: l).zip l from h) with rfl | h
    · exact h1 b List.mem_cons_self
    · exact asc_zip h2 x h
theorem is_tick_eval {p : Int} {m : Nat} {l : List Int} (h : TickOk p m l) (hp : p ≤ 12) : f_is_tick_ca34 [.f (.int p), .f (.int m), .f (.lst (l.map .int))] = some (.rt (.f (.bl true)) [.no, .no, .no]) := by
  have len := h.len
  have e2 : x2_is_tick_ca34 [.f (.int p), .f (.int m), .f (.lst (l.map .int)), .no, .no, .no] = some (.ok (.n .lst (l.map fun _ => .f (.bl true))) [.f (.int p), .f (.int m), .f (.lst (l.map .int)), .no, .no, .no]) := by
    unfold x2_is_tick_ca34
    refine comp_mapT (l := l) (g := .int) (iL_f (ds := l.map .int) (by simp (implicitDefEqProofs := false) (decide := true) (maxDischargeDepth := 9) [e_bnd, e_ret, e_opt, kO_s, kO_n, kO_i, kB_n, kB_o, kB_x, kB_i, e_val, kV_n, kV_o, kV_x, kV_i, e_seq, kS_n, kS_nx, kS_rt, kS_bk, kS_ct, kS_ex, kS_i, e_nil, e_pass, e_brk, e_cnt, e_sret, e_sretN, e_expr, e_if, e_set, e_par, e_par3, kP3_3, e_tgt, kTg_f, kTg_n, e_gN, e_gT, e_gs0, e_gs1, e_aug, kAg_i, e_app, kAp_l, e_item, e_for, e_forN, e_fn, kF_n, kF_nx, kF_rt, kF_ex, kF_i, e_outs0, e_outsT, e_outsF, e_K, e_Vf, e_Mf, e_bin, e_un, e_A0, e_A1, e_lst, e_tup, e_C, e_tV, kT_b, e_tAnd, e_tOr, e_tNot, e_xNot, kNt_b, e_xAnd, kAn_b, e_xOr, kOr_b, e_xIf, e_ch, kCh_i, kCz_i, e_is, e_Q, e_Rg1, e_Rg2, e_Sl, kSl_f, e_oN, e_oS, e_call, kA_rt, kA_ex, kA_n, kA_i, e_R0, e_Rv, e_Ri, e_callK, kCK_f, e_take0, e_takeV, e_takeI, e_put0, e_putV, e_putI, fz_f, fz_l, fzs_0, fzs_1, fzs_map, fzs_mapI, fzs_1l, e_b1, e_b2, e_b2g, e_bs, v_bn, v_add, v_sub, v_mul, v_div, v_mod, v_pow, v_neg, v_catNN, v_catFN, v_catNF, v_catFF, v_rep, v_lt, v_le, v_gt, v_ge, v_is, v_isN, v_isO, v_isNO, v_non, v_nonI, v_nonL, v_nonT, v_nonB, v_eqI, v_neI, v_eqS, v_neS, v_lenL, v_lenT, v_abs, v_max2, v_min2, v_min3, v_intsM, v_ints0, v_ints1, v_blsM, v_blsF, v_intsF, v_maxL, v_minL, v_sum, v_sort, v_all, v_any, v_int, v_intB, v_list, v_listT, v_tuple, v_kIsN, v_kIsI, v_kIsL, v_kIsT, v_kIsB, v_isInt, v_isBool, v_isLst, v_isTup, v_repr, v_at, v_atL, v_atN, v_ixT, v_ixL, v_ixN, e_qK, e_qV, v_gKd, v_gOs, v_gLs, v_gDs, v_gDsT, v_gF, v_gI, v_isNn, e_Vn', e_Mn', v_isNo1, v_isNo2, e_pV, e_qIxF, e_qIxN, e_qI, e_qB, e_get, kIt_l', v_ixLit, v_ix0, v_at0, v_at1, v_ix1, e_apply', e_eB, e_cK, e_cT1, e_cT2, e_cTb, e_wipe0, e_wipe1, e_back0, e_back1, v_bkF, v_bkNo, v_bkN, v_tY, v_Vg, v_atLast, v_ixS, v_setLast, v_fzSnoc, v_fzSnocC, v_LIM, v_fzF, v_fzC, v_fzFF, v_intsC, v_blsC, e_SrtSet, v_ss, e_tup2, kT2_2, v_minPI, v_minPP, v_isB, e_tBor, kTb_o, v_frzS_f, v_frzS_no, v_frzS_n, e_appP, e_clrP, v_appEach0, v_appEach1, v_appEachM, e_forApp0, e_forApp1, e_AS, v_kFl, e_tpo, v_ixTp, fz_tp, ])) rfl (by unfold LIM; omega) fun x hx => ?_
    have hr := h.rng x hx
    have ei := is_integer_yes (v := x) (l := 0) (h := (m : Int) - 1) hr.1 (by omega)
    simp (implicitDefEqProofs := false) (decide := true) (maxDischargeDepth := 9) [e_bnd, e_ret, e_opt, kO_s, kO_n, kO_i, kB_n, kB_o, kB_x, kB_i, e_val, kV_n, kV_o, kV_x, kV_i, e_seq, kS_n, kS_nx, kS_rt, kS_bk, kS_ct, kS_ex, kS_i, e_nil, e_pass, e_brk, e_cnt, e_sret, e_sretN, e_expr, e_if, e_set, e_par, e_par3, kP3_3, e_tgt, kTg_f, kTg_n, e_gN, e_gT, e_gs0, e_gs1, e_aug, kAg_i, e_app, kAp_l, e_item, e_for, e_forN, e_fn, kF_n, kF_nx, kF_rt, kF_ex, kF_i, e_outs0, e_outsT, e_outsF, e_K, e_Vf, e_Mf, e_bin, e_un, e_A0, e_A1, e_lst, e_tup, e_C, e_tV, kT_b, e_tAnd, e_tOr, e_tNot, e_xNot, kNt_b, e_xAnd, kAn_b, e_xOr, kOr_b, e_xIf, e_ch, kCh_i, kCz_i, e_is, e_Q, e_Rg1, e_Rg2, e_Sl, kSl_f, e_oN, e_oS, e_call, kA_rt, kA_ex, kA_n, kA_i, e_R0, e_Rv, e_Ri, e_callK, kCK_f, e_take0, e_takeV, e_takeI, e_put0, e_putV, e_putI, fz_f, fz_l, fzs_0, fzs_1, fzs_map, fzs_mapI, fzs_1l, e_b1, e_b2, e_b2g, e_bs, v_bn, v_add, v_sub, v_mul, v_div, v_mod, v_pow, v_neg, v_catNN, v_catFN, v_catNF, v_catFF, v_rep, v_lt, v_le, v_gt, v_ge, v_is, v_isN, v_isO, v_isNO, v_non, v_nonI, v_nonL, v_nonT, v_nonB, v_eqI, v_neI, v_eqS, v_neS, v_lenL, v_lenT, v_abs, v_max2, v_min2, v_min3, v_intsM, v_ints0, v_ints1, v_blsM, v_blsF, v_intsF, v_maxL, v_minL, v_sum, v_sort, v_all, v_any, v_int, v_intB, v_list, v_listT, v_tuple, v_kIsN, v_kIsI, v_kIsL, v_kIsT, v_kIsB, v_isInt, v_isBool, v_isLst, v_isTup, v_repr, v_at, v_atL, v_atN, v_ixT, v_ixL, v_ixN, e_qK, e_qV, v_gKd, v_gOs, v_gLs, v_gDs, v_gDsT, v_gF, v_gI, v_isNn, e_Vn', e_Mn', v_isNo1, v_isNo2, e_pV, e_qIxF, e_qIxN, e_qI, e_qB, e_get, kIt_l', v_ixLit, v_ix0, v_at0, v_at1, v_ix1, e_apply', e_eB, e_cK, e_cT1, e_cT2, e_cTb, e_wipe0, e_wipe1, e_back0, e_back1, v_bkF, v_bkNo, v_bkN, v_tY, v_Vg, v_atLast, v_ixS, v_setLast, v_fzSnoc, v_fzSnocC, v_LIM, v_fzF, v_fzC, v_fzFF, v_intsC, v_blsC, e_SrtSet, v_ss, e_tup2, kT2_2, v_minPI, v_minPP, v_isB, e_tBor, kTb_o, v_frzS_f, v_frzS_no, v_frzS_n, e_appP, e_clrP, v_appEach0, v_appEach1, v_appEachM, e_forApp0, e_forApp1, e_AS, v_kFl, e_tpo, v_ixTp, fz_tp, ei]
  have e1 : x1_is_tick_ca34 [.f (.int p), .f (.int m), .f (.lst (l.map .int)), .no, .no, .no] = some (.ok (.n .lst ((l.zip (l.drop 1)).map fun _ => .f (.bl true))) [.f (.int p), .f (.int m), .f (.lst (l.map .int)), .no, .no, .no]) := by
    unfold x1_is_tick_ca34
    have hc : DL.cutD (l.map .int) (some 1) none = (l.drop 1).map .int := by rw [show (1 : Int) = ((1 : Nat) : Int) from rfl, cut_from, List.map_drop]
    refine comp_mapT (l := l.zip (l.drop 1)) (g := fun x => .tup [.int x.1, .int x.2]) (ds := DL.zip2 (l.map .int) ((l.drop 1).map .int)) (iZ_f (o := .f (.lst (l.map .int))) (o2 := .n .lst (((l.drop 1).map .int).map .f)) (ρ1 := [.f (.int p), .f (.int m), .f (.lst (l.map .int)), .no, .no, .no]) (by simp (implicitDefEqProofs := false) (decide := true) (maxDischargeDepth := 9) [e_bnd, e_ret, e_opt, kO_s, kO_n, kO_i, kB_n, kB_o, kB_x, kB_i, e_val, kV_n, kV_o, kV_x, kV_i, e_seq, kS_n, kS_nx, kS_rt, kS_bk, kS_ct, kS_ex, kS_i, e_nil, e_pass, e_brk, e_cnt, e_sret, e_sretN, e_expr, e_if, e_set, e_par, e_par3, kP3_3, e_tgt, kTg_f, kTg_n, e_gN, e_gT, e_gs0, e_gs1, e_aug, kAg_i, e_app, kAp_l, e_item, e_for, e_forN, e_fn, kF_n, kF_nx, kF_rt, kF_ex, kF_i, e_outs0, e_outsT, e_outsF, e_K, e_Vf, e_Mf, e_bin, e_un, e_A0, e_A1, e_lst, e_tup, e_C, e_tV, kT_b, e_tAnd, e_tOr, e_tNot, e_xNot, kNt_b, e_xAnd, kAn_b, e_xOr, kOr_b, e_xIf, e_ch, kCh_i, kCz_i, e_is, e_Q, e_Rg1, e_Rg2, e_Sl, kSl_f, e_oN, e_oS, e_call, kA_rt, kA_ex, kA_n, kA_i, e_R0, e_Rv, e_Ri, e_callK, kCK_f, e_take0, e_takeV, e_takeI, e_put0, e_putV, e_putI, fz_f, fz_l, fzs_0, fzs_1, fzs_map, fzs_mapI, fzs_1l, e_b1, e_b2, e_b2g, e_bs, v_bn, v_add, v_sub, v_mul, v_div, v_mod, v_pow, v_neg, v_catNN, v_catFN, v_catNF, v_catFF, v_rep, v_lt, v_le, v_gt, v_ge, v_is, v_isN, v_isO, v_isNO, v_non, v_nonI, v_nonL, v_nonT, v_nonB, v_eqI, v_neI, v_eqS, v_neS, v_lenL, v_lenT, v_abs, v_max2, v_min2, v_min3, v_intsM, v_ints0, v_ints1, v_blsM, v_blsF, v_intsF, v_maxL, v_minL, v_sum, v_sort, v_all, v_any, v_int, v_intB, v_list, v_listT, v_tuple, v_kIsN, v_kIsI, v_kIsL, v_kIsT, v_kIsB, v_isInt, v_isBool, v_isLst, v_isTup, v_repr, v_at, v_atL, v_atN, v_ixT, v_ixL, v_ixN, e_qK, e_qV, v_gKd, v_gOs, v_gLs, v_gDs, v_gDsT, v_gF, v_gI, v_isNn, e_Vn', e_Mn', v_isNo1, v_isNo2, e_pV, e_qIxF, e_qIxN, e_qI, e_qB, e_get, kIt_l', v_ixLit, v_ix0, v_at0, v_at1, v_ix1, e_apply', e_eB, e_cK, e_cT1, e_cT2, e_cTb, e_wipe0, e_wipe1, e_back0, e_back1, v_bkF, v_bkNo, v_bkN, v_tY, v_Vg, v_atLast, v_ixS, v_setLast, v_fzSnoc, v_fzSnocC, v_LIM, v_fzF, v_fzC, v_fzFF, v_intsC, v_blsC, e_SrtSet, v_ss, e_tup2, kT2_2, v_minPI, v_minPP, v_isB, e_tBor, kTb_o, v_frzS_f, v_frzS_no, v_frzS_n, e_appP, e_clrP, v_appEach0, v_appEach1, v_appEachM, e_forApp0, e_forApp1, e_AS, v_kFl, e_tpo, v_ixTp, fz_tp, ]) (by simp (implicitDefEqProofs := false) (decide := true) (maxDischargeDepth := 9) [e_bnd, e_ret, e_opt, kO_s, kO_n, kO_i, kB_n, kB_o, kB_x, kB_i, e_val, kV_n, kV_o, kV_x, kV_i, e_seq, kS_n, kS_nx, kS_rt, kS_bk, kS_ct, kS_ex, kS_i, e_nil, e_pass, e_brk, e_cnt, e_sret, e_sretN, e_expr, e_if, e_set, e_par, e_par3, kP3_3, e_tgt, kTg_f, kTg_n, e_gN, e_gT, e_gs0, e_gs1, e_aug, kAg_i, e_app, kAp_l, e_item, e_for, e_forN, e_fn, kF_n, kF_nx, kF_rt, kF_ex, kF_i, e_outs0, e_outsT, e_outsF, e_K, e_Vf, e_Mf, e_bin, e_un, e_A0, e_A1, e_lst, e_tup, e_C, e_tV, kT_b, e_tAnd, e_tOr, e_tNot, e_xNot, kNt_b, e_xAnd, kAn_b, e_xOr, kOr_b, e_xIf, e_ch, kCh_i, kCz_i, e_is, e_Q, e_Rg1, e_Rg2, e_Sl, kSl_f, e_oN, e_oS, e_call, kA_rt, kA_ex, kA_n, kA_i, e_R0, e_Rv, e_Ri, e_callK, kCK_f, e_take0, e_takeV, e_takeI, e_put0, e_putV, e_putI, fz_f, fz_l, fzs_0, fzs_1, fzs_map, fzs_mapI, fzs_1l, e_b1, e_b2, e_b2g, e_bs, v_bn, v_add, v_sub, v_mul, v_div, v_mod, v_pow, v_neg, v_catNN, v_catFN, v_catNF, v_catFF, v_rep, v_lt, v_le, v_gt, v_ge, v_is, v_isN, v_isO, v_isNO, v_non, v_nonI, v_nonL, v_nonT, v_nonB, v_eqI, v_neI, v_eqS, v_neS, v_lenL, v_lenT, v_abs, v_max2, v_min2, v_min3, v_intsM, v_ints0, v_ints1, v_blsM, v_blsF, v_intsF, v_maxL, v_minL, v_sum, v_sort, v_all, v_any, v_int, v_intB, v_list, v_listT, v_tuple, v_kIsN, v_kIsI, v_kIsL, v_kIsT, v_kIsB, v_isInt, v_isBool, v_isLst, v_isTup, v_repr, v_at, v_atL, v_atN, v_ixT, v_ixL, v_ixN, e_qK, e_qV, v_gKd, v_gOs, v_gLs, v_gDs, v_gDsT, v_gF, v_gI, v_isNn, e_Vn', e_Mn', v_isNo1, v_isNo2, e_pV, e_qIxF, e_qIxN, e_qI, e_qB, e_get, kIt_l', v_ixLit, v_ix0, v_at0, v_at1, v_ix1, e_apply', e_eB, e_cK, e_cT1, e_cT2, e_cTb, e_wipe0, e_wipe1, e_back0, e_back1, v_bkF, v_bkNo, v_bkN, v_tY, v_Vg, v_atLast, v_ixS, v_setLast, v_fzSnoc, v_fzSnocC, v_LIM, v_fzF, v_fzC, v_fzFF, v_intsC, v_blsC, e_SrtSet, v_ss, e_tup2, kT2_2, v_minPI, v_minPP, v_isB, e_tBor, kTb_o, v_frzS_f, v_frzS_no, v_frzS_n, e_appP, e_clrP, v_appEach0, v_appEach1, v_appEachM, e_forApp0, e_forApp1, e_AS, v_kFl, e_tpo, v_ixTp, fz_tp, bSl, partI, hc]) rfl (by rw [fz_l, fzs_map]; rfl)) zip_map (by rw [List.length_zip]; unfold LIM; omega) fun x hx => ?_
    have ha := asc_zip h.asc x hx
    simp (implicitDefEqProofs := false) (decide := true) (maxDischargeDepth := 9) [e_bnd, e_ret, e_opt, kO_s, kO_n, kO_i, kB_n, kB_o, kB_x, kB_i, e_val, kV_n, kV_o, kV_x, kV_i, e_seq, kS_n, kS_nx, kS_rt, kS_bk, kS_ct, kS_ex, kS_i, e_nil, e_pass, e_brk, e_cnt, e_sret, e_sretN, e_expr, e_if, e_set, e_par, e_par3, kP3_3, e_tgt, kTg_f, kTg_n, e_gN, e_gT, e_gs0, e_gs1, e_aug, kAg_i, e_app, kAp_l, e_item, e_for, e_forN, e_fn, kF_n, kF_nx, kF_rt, kF_ex, kF_i, e_outs0, e_outsT, e_outsF, e_K, e_Vf, e_Mf, e_bin, e_un, e_A0, e_A1, e_lst, e_tup, e_C, e_tV, kT_b, e_tAnd, e_tOr, e_tNot, e_xNot, kNt_b, e_xAnd, kAn_b, e_xOr, kOr_b, e_xIf, e_ch, kCh_i, kCz_i, e_is, e_Q, e_Rg1, e_Rg2, e_Sl, kSl_f, e_oN, e_oS, e_call, kA_rt, kA_ex, kA_n, kA_i, e_R0, e_Rv, e_Ri, e_callK, kCK_f, e_take0, e_takeV, e_takeI, e_put0, e_putV, e_putI, fz_f, fz_l, fzs_0, fzs_1, fzs_map, fzs_mapI, fzs_1l, e_b1, e_b2, e_b2g, e_bs, v_bn, v_add, v_sub, v_mul, v_div, v_mod, v_pow, v_neg, v_catNN, v_catFN, v_catNF, v_catFF, v_rep, v_lt, v_le, v_gt, v_ge, v_is, v_isN, v_isO, v_isNO, v_non, v_nonI, v_nonL, v_nonT, v_nonB, v_eqI, v_neI, v_eqS, v_neS, v_lenL, v_lenT, v_abs, v_max2, v_min2, v_min3, v_intsM, v_ints0, v_ints1, v_blsM, v_blsF, v_intsF, v_maxL, v_minL, v_sum, v_sort, v_all, v_any, v_int, v_intB, v_list, v_listT, v_tuple, v_kIsN, v_kIsI, v_kIsL, v_kIsT, v_kIsB, v_isInt, v_isBool, v_isLst, v_isTup, v_repr, v_at, v_atL, v_atN, v_ixT, v_ixL, v_ixN, e_qK, e_qV, v_gKd, v_gOs, v_gLs, v_gDs, v_gDsT, v_gF, v_gI, v_isNn, e_Vn', e_Mn', v_isNo1, v_isNo2, e_pV, e_qIxF, e_qIxN, e_qI, e_qB, e_get, kIt_l', v_ixLit, v_ix0, v_at0, v_at1, v_ix1, e_apply', e_eB, e_cK, e_cT1, e_cT2, e_cTb, e_wipe0, e_wipe1, e_back0, e_back1, v_bkF, v_bkNo, v_bkN, v_tY, v_Vg, v_atLast, v_ixS, v_setLast, v_fzSnoc, v_fzSnocC, v_LIM, v_fzF, v_fzC, v_fzFF, v_intsC, v_blsC, e_SrtSet, v_ss, e_tup2, kT2_2, v_minPI, v_minPP, v_isB, e_tBor, kTb_o, v_frzS_f, v_frzS_no, v_frzS_n, e_appP, e_clrP, v_appEach0, v_appEach1, v_appEachM, e_forApp0, e_forApp1, e_AS, v_kFl, e_tpo, v_ixTp, fz_tp, ha]
  simp (implicitDefEqProofs := false) (decide := true) (maxDischargeDepth := 9) [e_bnd, e_ret, e_opt, kO_s, kO_n, kO_i, kB_n, kB_o, kB_x, kB_i, e_val, kV_n, kV_o, kV_x, kV_i, e_seq, kS_n, kS_nx, kS_rt, kS_bk, kS_ct, kS_ex, kS_i, e_nil, e_pass, e_brk, e_cnt, e_sret, e_sretN, e_expr, e_if, e_set, e_par, e_par3, kP3_3, e_tgt, kTg_f, kTg_n, e_gN, e_gT, e_gs0, e_gs1, e_aug, kAg_i, e_app, kAp_l, e_item, e_for, e_forN, e_fn, kF_n, kF_nx, kF_rt, kF_ex, kF_i, e_outs0, e_outsT, e_outsF, e_K, e_Vf, e_Mf, e_bin, e_un, e_A0, e_A1, e_lst, e_tup, e_C, e_tV, kT_b, e_tAnd, e_tOr, e_tNot, e_xNot, kNt_b, e_xAnd, kAn_b, e_xOr, kOr_b, e_xIf, e_ch, kCh_i, kCz_i, e_is, e_Q, e_Rg1, e_Rg2, e_Sl, kSl_f, e_oN, e_oS, e_call, kA_rt, kA_ex, kA_n, kA_i, e_R0, e_Rv, e_Ri, e_callK, kCK_f, e_take0, e_takeV, e_takeI, e_put0, e_putV, e_putI, fz_f, fz_l, fzs_0, fzs_1, fzs_map, fzs_mapI, fzs_1l, e_b1, e_b2, e_b2g, e_bs, v_bn, v_add, v_sub, v_mul, v_div, v_mod, v_pow, v_neg, v_catNN, v_catFN, v_catNF, v_catFF, v_rep, v_lt, v_le, v_gt, v_ge, v_is, v_isN, v_isO, v_isNO, v_non, v_nonI, v_nonL, v_nonT, v_nonB, v_eqI, v_neI, v_eqS, v_neS, v_lenL, v_lenT, v_abs, v_max2, v_min2, v_min3, v_intsM, v_ints0, v_ints1, v_blsM, v_blsF, v_intsF, v_maxL, v_minL, v_sum, v_sort, v_all, v_any, v_int, v_intB, v_list, v_listT, v_tuple, v_kIsN, v_kIsI, v_kIsL, v_kIsT, v_kIsB, v_isInt, v_isBool, v_isLst, v_isTup, v_repr, v_at, v_atL, v_atN, v_ixT, v_ixL, v_ixN, e_qK, e_qV, v_gKd, v_gOs, v_gLs, v_gDs, v_gDsT, v_gF, v_gI, v_isNn, e_Vn', e_Mn', v_isNo1, v_isNo2, e_pV, e_qIxF, e_qIxN, e_qI, e_qB, e_get, kIt_l', v_ixLit, v_ix0, v_at0, v_at1, v_ix1, e_apply', e_eB, e_cK, e_cT1, e_cT2, e_cTb, e_wipe0, e_wipe1, e_back0, e_back1, v_bkF, v_bkNo, v_bkN, v_tY, v_Vg, v_atLast, v_ixS, v_setLast, v_fzSnoc, v_fzSnocC, v_LIM, v_fzF, v_fzC, v_fzFF, v_intsC, v_blsC, e_SrtSet, v_ss, e_tup2, kT2_2, v_minPI, v_minPP, v_isB, e_tBor, kTb_o, v_frzS_f, v_frzS_no, v_frzS_n, e_appP, e_clrP, v_appEach0, v_appEach1, v_appEachM, e_forApp0, e_forApp1, e_AS, v_kFl, e_tpo, v_ixTp, fz_tp, f_is_tick_ca34, b_is_tick_ca34, e1, e2, show ¬ p < (l.length : Int) by omega]
theorem need_plan_eval {p q : Int} {ss : List Int} {ls : List (List Int)} (h : LoadOk p q ss) (hp : PlanOk p ss.length ls) : f_need_plan_eb06 [.f (loadD p q ss), .f (planD ls)] = some (.rt (.f .non) [.no, .no]) := by
  have hl := hp.len
  have p2 := h.p2
  obtain ⟨ρ, e, o3, o4, rfl⟩ : ∃ ρ, l1_wrong_tick_223b [.f (.int p), .f (.int ss.length), .f (planD ls), .no, .no] = some (.nx ρ) ∧ ∃ o3 o4, ρ = [.f (.int p), .f (.int ss.length), .f (planD ls), o3, o4] := by
    refine wp_nx ?_
    unfold l1_wrong_tick_223b
    rw [e_for, iE_f (o := .f (planD ls)) (ds := ls.map fun l => .lst (l.map .int)) (ρ1 := [.f (.int p), .f (.int ss.length), .f (planD ls), .no, .no]) (by simp (implicitDefEqProofs := false) (decide := true) (maxDischargeDepth := 9) [e_bnd, e_ret, e_opt, kO_s, kO_n, kO_i, kB_n, kB_o, kB_x, kB_i, e_val, kV_n, kV_o, kV_x, kV_i, e_seq, kS_n, kS_nx, kS_rt, kS_bk, kS_ct, kS_ex, kS_i, e_nil, e_pass, e_brk, e_cnt, e_sret, e_sretN, e_expr, e_if, e_set, e_par, e_par3, kP3_3, e_tgt, kTg_f, kTg_n, e_gN, e_gT, e_gs0, e_gs1, e_aug, kAg_i, e_app, kAp_l, e_item, e_for, e_forN, e_fn, kF_n, kF_nx, kF_rt, kF_ex, kF_i, e_outs0, e_outsT, e_outsF, e_K, e_Vf, e_Mf, e_bin, e_un, e_A0, e_A1, e_lst, e_tup, e_C, e_tV, kT_b, e_tAnd, e_tOr, e_tNot, e_xNot, kNt_b, e_xAnd, kAn_b, e_xOr, kOr_b, e_xIf, e_ch, kCh_i, kCz_i, e_is, e_Q, e_Rg1, e_Rg2, e_Sl, kSl_f, e_oN, e_oS, e_call, kA_rt, kA_ex, kA_n, kA_i, e_R0, e_Rv, e_Ri, e_callK, kCK_f, e_take0, e_takeV, e_takeI, e_put0, e_putV, e_putI, fz_f, fz_l, fzs_0, fzs_1, fzs_map, fzs_mapI, fzs_1l, e_b1, e_b2, e_b2g, e_bs, v_bn, v_add, v_sub, v_mul, v_div, v_mod, v_pow, v_neg, v_catNN, v_catFN, v_catNF, v_catFF, v_rep, v_lt, v_le, v_gt, v_ge, v_is, v_isN, v_isO, v_isNO, v_non, v_nonI, v_nonL, v_nonT, v_nonB, v_eqI, v_neI, v_eqS, v_neS, v_lenL, v_lenT, v_abs, v_max2, v_min2, v_min3, v_intsM, v_ints0, v_ints1, v_blsM, v_blsF, v_intsF, v_maxL, v_minL, v_sum, v_sort, v_all, v_any, v_int, v_intB, v_list, v_listT, v_tuple, v_kIsN, v_kIsI, v_kIsL, v_kIsT, v_kIsB, v_isInt, v_isBool, v_isLst, v_isTup, v_repr, v_at, v_atL, v_atN, v_ixT, v_ixL, v_ixN, e_qK, e_qV, v_gKd, v_gOs, v_gLs, v_gDs, v_gDsT, v_gF, v_gI, v_isNn, e_Vn', e_Mn', v_isNo1, v_isNo2, e_pV, e_qIxF, e_qIxN, e_qI, e_qB, e_get, kIt_l', v_ixLit, v_ix0, v_at0, v_at1, v_ix1, e_apply', e_eB, e_cK, e_cT1, e_cT2, e_cTb, e_wipe0, e_wipe1, e_back0, e_back1, v_bkF, v_bkNo, v_bkN, v_tY, v_Vg, v_atLast, v_ixS, v_setLast, v_fzSnoc, v_fzSnocC, v_LIM, v_fzF, v_fzC, v_fzFF, v_intsC, v_blsC, e_SrtSet, v_ss, e_tup2, kT2_2, v_minPI, v_minPP, v_isB, e_tBor, kTb_o, v_frzS_f, v_frzS_no, v_frzS_n, e_appP, e_clrP, v_appEach0, v_appEach1, v_appEachM, e_forApp0, e_forApp1, e_AS, v_kFl, e_tpo, v_ixTp, fz_tp, ]) rfl, kV_o]
    refine w_for (fun j ρ => ∃ o3 o4, ρ = [.f (.int p), .f (.int ss.length), .f (planD ls), o3, o4]) ⟨_, _, rfl⟩ ?_ fun ρ z => z
    intro j d ρ hd ⟨o3, o4, e⟩
    subst e
    obtain ⟨x, h1, rfl⟩ := DL.enum_get hd
    rw [List.getElem?_map] at h1
    obtain ⟨l, h2, rfl⟩ := Option.map_eq_some_iff.mp h1
    have ei := is_tick_eval (hp.tk l (List.mem_of_getElem? h2)) p2
    exact ⟨[.f (.int p), .f (.int ss.length), .f (planD ls), .f (.int j), .f (.lst (l.map .int))], by simp (implicitDefEqProofs := false) (decide := true) (maxDischargeDepth := 9) [e_bnd, e_ret, e_opt, kO_s, kO_n, kO_i, kB_n, kB_o, kB_x, kB_i, e_val, kV_n, kV_o, kV_x, kV_i, e_seq, kS_n, kS_nx, kS_rt, kS_bk, kS_ct, kS_ex, kS_i, e_nil, e_pass, e_brk, e_cnt, e_sret, e_sretN, e_expr, e_if, e_set, e_par, e_par3, kP3_3, e_tgt, kTg_f, kTg_n, e_gN, e_gT, e_gs0, e_gs1, e_aug, kAg_i, e_app, kAp_l, e_item, e_for, e_forN, e_fn, kF_n, kF_nx, kF_rt, kF_ex, kF_i, e_outs0, e_outsT, e_outsF, e_K, e_Vf, e_Mf, e_bin, e_un, e_A0, e_A1, e_lst, e_tup, e_C, e_tV, kT_b, e_tAnd, e_tOr, e_tNot, e_xNot, kNt_b, e_xAnd, kAn_b, e_xOr, kOr_b, e_xIf, e_ch, kCh_i, kCz_i, e_is, e_Q, e_Rg1, e_Rg2, e_Sl, kSl_f, e_oN, e_oS, e_call, kA_rt, kA_ex, kA_n, kA_i, e_R0, e_Rv, e_Ri, e_callK, kCK_f, e_take0, e_takeV, e_takeI, e_put0, e_putV, e_putI, fz_f, fz_l, fzs_0, fzs_1, fzs_map, fzs_mapI, fzs_1l, e_b1, e_b2, e_b2g, e_bs, v_bn, v_add, v_sub, v_mul, v_div, v_mod, v_pow, v_neg, v_catNN, v_catFN, v_catNF, v_catFF, v_rep, v_lt, v_le, v_gt, v_ge, v_is, v_isN, v_isO, v_isNO, v_non, v_nonI, v_nonL, v_nonT, v_nonB, v_eqI, v_neI, v_eqS, v_neS, v_lenL, v_lenT, v_abs, v_max2, v_min2, v_min3, v_intsM, v_ints0, v_ints1, v_blsM, v_blsF, v_intsF, v_maxL, v_minL, v_sum, v_sort, v_all, v_any, v_int, v_intB, v_list, v_listT, v_tuple, v_kIsN, v_kIsI, v_kIsL, v_kIsT, v_kIsB, v_isInt, v_isBool, v_isLst, v_isTup, v_repr, v_at, v_atL, v_atN, v_ixT, v_ixL, v_ixN, e_qK, e_qV, v_gKd, v_gOs, v_gLs, v_gDs, v_gDsT, v_gF, v_gI, v_isNn, e_Vn', e_Mn', v_isNo1, v_isNo2, e_pV, e_qIxF, e_qIxN, e_qI, e_qB, e_get, kIt_l', v_ixLit, v_ix0, v_at0, v_at1, v_ix1, e_apply', e_eB, e_cK, e_cT1, e_cT2, e_cTb, e_wipe0, e_wipe1, e_back0, e_back1, v_bkF, v_bkNo, v_bkN, v_tY, v_Vg, v_atLast, v_ixS, v_setLast, v_fzSnoc, v_fzSnocC, v_LIM, v_fzF, v_fzC, v_fzFF, v_intsC, v_blsC, e_SrtSet, v_ss, e_tup2, kT2_2, v_minPI, v_minPP, v_isB, e_tBor, kTb_o, v_frzS_f, v_frzS_no, v_frzS_n, e_appP, e_clrP, v_appEach0, v_appEach1, v_appEachM, e_forApp0, e_forApp1, e_AS, v_kFl, e_tpo, v_ixTp, fz_tp, ], wp_eq (.nx [.f (.int p), .f (.int ss.length), .f (planD ls), .f (.int j), .f (.lst (l.map .int))]) (by simp (implicitDefEqProofs := false) (decide := true) (maxDischargeDepth := 9) [e_bnd, e_ret, e_opt, kO_s, kO_n, kO_i, kB_n, kB_o, kB_x, kB_i, e_val, kV_n, kV_o, kV_x, kV_i, e_seq, kS_n, kS_nx, kS_rt, kS_bk, kS_ct, kS_ex, kS_i, e_nil, e_pass, e_brk, e_cnt, e_sret, e_sretN, e_expr, e_if, e_set, e_par, e_par3, kP3_3, e_tgt, kTg_f, kTg_n, e_gN, e_gT, e_gs0, e_gs1, e_aug, kAg_i, e_app, kAp_l, e_item, e_for, e_forN, e_fn, kF_n, kF_nx, kF_rt, kF_ex, kF_i, e_outs0, e_outsT, e_outsF, e_K, e_Vf, e_Mf, e_bin, e_un, e_A0, e_A1, e_lst, e_tup, e_C, e_tV, kT_b, e_tAnd, e_tOr, e_tNot, e_xNot, kNt_b, e_xAnd, kAn_b, e_xOr, kOr_b, e_xIf, e_ch, kCh_i, kCz_i, e_is, e_Q, e_Rg1, e_Rg2, e_Sl, kSl_f, e_oN, e_oS, e_call, kA_rt, kA_ex, kA_n, kA_i, e_R0, e_Rv, e_Ri, e_callK, kCK_f, e_take0, e_takeV, e_takeI, e_put0, e_putV, e_putI, fz_f, fz_l, fzs_0, fzs_1, fzs_map, fzs_mapI, fzs_1l, e_b1, e_b2, e_b2g, e_bs, v_bn, v_add, v_sub, v_mul, v_div, v_mod, v_pow, v_neg, v_catNN, v_catFN, v_catNF, v_catFF, v_rep, v_lt, v_le, v_gt, v_ge, v_is, v_isN, v_isO, v_isNO, v_non, v_nonI, v_nonL, v_nonT, v_nonB, v_eqI, v_neI, v_eqS, v_neS, v_lenL, v_lenT, v_abs, v_max2, v_min2, v_min3, v_intsM, v_ints0, v_ints1, v_blsM, v_blsF, v_intsF, v_maxL, v_minL, v_sum, v_sort, v_all, v_any, v_int, v_intB, v_list, v_listT, v_tuple, v_kIsN, v_kIsI, v_kIsL, v_kIsT, v_kIsB, v_isInt, v_isBool, v_isLst, v_isTup, v_repr, v_at, v_atL, v_atN, v_ixT, v_ixL, v_ixN, e_qK, e_qV, v_gKd, v_gOs, v_gLs, v_gDs, v_gDsT, v_gF, v_gI, v_isNn, e_Vn', e_Mn', v_isNo1, v_isNo2, e_pV, e_qIxF, e_qIxN, e_qI, e_qB, e_get, kIt_l', v_ixLit, v_ix0, v_at0, v_at1, v_ix1, e_apply', e_eB, e_cK, e_cT1, e_cT2, e_cTb, e_wipe0, e_wipe1, e_back0, e_back1, v_bkF, v_bkNo, v_bkN, v_tY, v_Vg, v_atLast, v_ixS, v_setLast, v_fzSnoc, v_fzSnocC, v_LIM, v_fzF, v_fzC, v_fzFF, v_intsC, v_blsC, e_SrtSet, v_ss, e_tup2, kT2_2, v_minPI, v_minPP, v_isB, e_tBor, kTb_o, v_frzS_f, v_frzS_no, v_frzS_n, e_appP, e_clrP, v_appEach0, v_appEach1, v_appEachM, e_forApp0, e_forApp1, e_AS, v_kFl, e_tpo, v_ixTp, fz_tp, ei]) ⟨_, _, rfl⟩⟩
  have ew : f_wrong_tick_223b [.f (.int p), .f (.int ss.length), .f (planD ls)] = some (.rt (.f .non) [.no, .no, .no]) := by
    simp (implicitDefEqProofs := false) (decide := true) (maxDischargeDepth := 9) [e_bnd, e_ret, e_opt, kO_s, kO_n, kO_i, kB_n, kB_o, kB_x, kB_i, e_val, kV_n, kV_o, kV_x, kV_i, e_seq, kS_n, kS_nx, kS_rt, kS_bk, kS_ct, kS_ex, kS_i, e_nil, e_pass, e_brk, e_cnt, e_sret, e_sretN, e_expr, e_if, e_set, e_par, e_par3, kP3_3, e_tgt, kTg_f, kTg_n, e_gN, e_gT, e_gs0, e_gs1, e_aug, kAg_i, e_app, kAp_l, e_item, e_for, e_forN, e_fn, kF_n, kF_nx, kF_rt, kF_ex, kF_i, e_outs0, e_outsT, e_outsF, e_K, e_Vf, e_Mf, e_bin, e_un, e_A0, e_A1, e_lst, e_tup, e_C, e_tV, kT_b, e_tAnd, e_tOr, e_tNot, e_xNot, kNt_b, e_xAnd, kAn_b, e_xOr, kOr_b, e_xIf, e_ch, kCh_i, kCz_i, e_is, e_Q, e_Rg1, e_Rg2, e_Sl, kSl_f, e_oN, e_oS, e_call, kA_rt, kA_ex, kA_n, kA_i, e_R0, e_Rv, e_Ri, e_callK, kCK_f, e_take0, e_takeV, e_takeI, e_put0, e_putV, e_putI, fz_f, fz_l, fzs_0, fzs_1, fzs_map, fzs_mapI, fzs_1l, e_b1, e_b2, e_b2g, e_bs, v_bn, v_add, v_sub, v_mul, v_div, v_mod, v_pow, v_neg, v_catNN, v_catFN, v_catNF, v_catFF, v_rep, v_lt, v_le, v_gt, v_ge, v_is, v_isN, v_isO, v_isNO, v_non, v_nonI, v_nonL, v_nonT, v_nonB, v_eqI, v_neI, v_eqS, v_neS, v_lenL, v_lenT, v_abs, v_max2, v_min2, v_min3, v_intsM, v_ints0, v_ints1, v_blsM, v_blsF, v_intsF, v_maxL, v_minL, v_sum, v_sort, v_all, v_any, v_int, v_intB, v_list, v_listT, v_tuple, v_kIsN, v_kIsI, v_kIsL, v_kIsT, v_kIsB, v_isInt, v_isBool, v_isLst, v_isTup, v_repr, v_at, v_atL, v_atN, v_ixT, v_ixL, v_ixN, e_qK, e_qV, v_gKd, v_gOs, v_gLs, v_gDs, v_gDsT, v_gF, v_gI, v_isNn, e_Vn', e_Mn', v_isNo1, v_isNo2, e_pV, e_qIxF, e_qIxN, e_qI, e_qB, e_get, kIt_l', v_ixLit, v_ix0, v_at0, v_at1, v_ix1, e_apply', e_eB, e_cK, e_cT1, e_cT2, e_cTb, e_wipe0, e_wipe1, e_back0, e_back1, v_bkF, v_bkNo, v_bkN, v_tY, v_Vg, v_atLast, v_ixS, v_setLast, v_fzSnoc, v_fzSnocC, v_LIM, v_fzF, v_fzC, v_fzFF, v_intsC, v_blsC, e_SrtSet, v_ss, e_tup2, kT2_2, v_minPI, v_minPP, v_isB, e_tBor, kTb_o, v_frzS_f, v_frzS_no, v_frzS_n, e_appP, e_clrP, v_appEach0, v_appEach1, v_appEachM, e_forApp0, e_forApp1, e_AS, v_kFl, e_tpo, v_ixTp, fz_tp, f_wrong_tick_223b, b_wrong_tick_223b, e]
  unfold loadD planD at *
  simp (implicitDefEqProofs := false) (decide := true) (maxDischargeDepth := 9) [e_bnd, e_ret, e_opt, kO_s, kO_n, kO_i, kB_n, kB_o, kB_x, kB_i, e_val, kV_n, kV_o, kV_x, kV_i, e_seq, kS_n, kS_nx, kS_rt, kS_bk, kS_ct, kS_ex, kS_i, e_nil, e_pass, e_brk, e_cnt, e_sret, e_sretN, e_expr, e_if, e_set, e_par, e_par3, kP3_3, e_tgt, kTg_f, kTg_n, e_gN, e_gT, e_gs0, e_gs1, e_aug, kAg_i, e_app, kAp_l, e_item, e_for, e_forN, e_fn, kF_n, kF_nx, kF_rt, kF_ex, kF_i, e_outs0, e_outsT, e_outsF, e_K, e_Vf, e_Mf, e_bin, e_un, e_A0, e_A1, e_lst, e_tup, e_C, e_tV, kT_b, e_tAnd, e_tOr, e_tNot, e_xNot, kNt_b, e_xAnd, kAn_b, e_xOr, kOr_b, e_xIf, e_ch, kCh_i, kCz_i, e_is, e_Q, e_Rg1, e_Rg2, e_Sl, kSl_f, e_oN, e_oS, e_call, kA_rt, kA_ex, kA_n, kA_i, e_R0, e_Rv, e_Ri, e_callK, kCK_f, e_take0, e_takeV, e_takeI, e_put0, e_putV, e_putI, fz_f, fz_l, fzs_0, fzs_1, fzs_map, fzs_mapI, fzs_1l, e_b1, e_b2, e_b2g, e_bs, v_bn, v_add, v_sub, v_mul, v_div, v_mod, v_pow, v_neg, v_catNN, v_catFN, v_catNF, v_catFF, v_rep, v_lt, v_le, v_gt, v_ge, v_is, v_isN, v_isO, v_isNO, v_non, v_nonI, v_nonL, v_nonT, v_nonB, v_eqI, v_neI, v_eqS, v_neS, v_lenL, v_lenT, v_abs, v_max2, v_min2, v_min3, v_intsM, v_ints0, v_ints1, v_blsM, v_blsF, v_intsF, v_maxL, v_minL, v_sum, v_sort, v_all, v_any, v_int, v_intB, v_list, v_listT, v_tuple, v_kIsN, v_kIsI, v_kIsL, v_kIsT, v_kIsB, v_isInt, v_isBool, v_isLst, v_isTup, v_repr, v_at, v_atL, v_atN, v_ixT, v_ixL, v_ixN, e_qK, e_qV, v_gKd, v_gOs, v_gLs, v_gDs, v_gDsT, v_gF, v_gI, v_isNn, e_Vn', e_Mn', v_isNo1, v_isNo2, e_pV, e_qIxF, e_qIxN, e_qI, e_qB, e_get, kIt_l', v_ixLit, v_ix0, v_at0, v_at1, v_ix1, e_apply', e_eB, e_cK, e_cT1, e_cT2, e_cTb, e_wipe0, e_wipe1, e_back0, e_back1, v_bkF, v_bkNo, v_bkN, v_tY, v_Vg, v_atLast, v_ixS, v_setLast, v_fzSnoc, v_fzSnocC, v_LIM, v_fzF, v_fzC, v_fzFF, v_intsC, v_blsC, e_SrtSet, v_ss, e_tup2, kT2_2, v_minPI, v_minPP, v_isB, e_tBor, kTb_o, v_frzS_f, v_frzS_no, v_frzS_n, e_appP, e_clrP, v_appEach0, v_appEach1, v_appEachM, e_forApp0, e_forApp1, e_AS, v_kFl, e_tpo, v_ixTp, fz_tp, f_need_plan_eb06, b_need_plan_eb06, ew, show ¬ (1000 : Int) < (ls.length : Int) by omega]
theorem need_both_eval {p q : Int} {ss : List Int} {ls : List (List Int)} (h : LoadOk p q ss) (hp : PlanOk p ss.length ls) : f_need_both_fd01 [.f (loadD p q ss), .f (planD ls)] = some (.rt (.f .non) [.no, .no]) := by
  have e1 := need_load_eval h
  have e2 := need_plan_eval h hp
  simp (implicitDefEqProofs := false) (decide := true) (maxDischargeDepth := 9) [e_bnd, e_ret, e_opt, kO_s, kO_n, kO_i, kB_n, kB_o, kB_x, kB_i, e_val, kV_n, kV_o, kV_x, kV_i, e_seq, kS_n, kS_nx, kS_rt, kS_bk, kS_ct, kS_ex, kS_i, e_nil, e_pass, e_brk, e_cnt, e_sret, e_sretN, e_expr, e_if, e_set, e_par, e_par3, kP3_3, e_tgt, kTg_f, kTg_n, e_gN, e_gT, e_gs0, e_gs1, e_aug, kAg_i, e_app, kAp_l, e_item, e_for, e_forN, e_fn, kF_n, kF_nx, kF_rt, kF_ex, kF_i, e_outs0, e_outsT, e_outsF, e_K, e_Vf, e_Mf, e_bin, e_un, e_A0, e_A1, e_lst, e_tup, e_C, e_tV, kT_b, e_tAnd, e_tOr, e_tNot, e_xNot, kNt_b, e_xAnd, kAn_b, e_xOr, kOr_b, e_xIf, e_ch, kCh_i, kCz_i, e_is, e_Q, e_Rg1, e_Rg2, e_Sl, kSl_f, e_oN, e_oS, e_call, kA_rt, kA_ex, kA_n, kA_i, e_R0, e_Rv, e_Ri, e_callK, kCK_f, e_take0, e_takeV, e_takeI, e_put0, e_putV, e_putI, fz_f, fz_l, fzs_0, fzs_1, fzs_map, fzs_mapI, fzs_1l, e_b1, e_b2, e_b2g, e_bs, v_bn, v_add, v_sub, v_mul, v_div, v_mod, v_pow, v_neg, v_catNN, v_catFN, v_catNF, v_catFF, v_rep, v_lt, v_le, v_gt, v_ge, v_is, v_isN, v_isO, v_isNO, v_non, v_nonI, v_nonL, v_nonT, v_nonB, v_eqI, v_neI, v_eqS, v_neS, v_lenL, v_lenT, v_abs, v_max2, v_min2, v_min3, v_intsM, v_ints0, v_ints1, v_blsM, v_blsF, v_intsF, v_maxL, v_minL, v_sum, v_sort, v_all, v_any, v_int, v_intB, v_list, v_listT, v_tuple, v_kIsN, v_kIsI, v_kIsL, v_kIsT, v_kIsB, v_isInt, v_isBool, v_isLst, v_isTup, v_repr, v_at, v_atL, v_atN, v_ixT, v_ixL, v_ixN, e_qK, e_qV, v_gKd, v_gOs, v_gLs, v_gDs, v_gDsT, v_gF, v_gI, v_isNn, e_Vn', e_Mn', v_isNo1, v_isNo2, e_pV, e_qIxF, e_qIxN, e_qI, e_qB, e_get, kIt_l', v_ixLit, v_ix0, v_at0, v_at1, v_ix1, e_apply', e_eB, e_cK, e_cT1, e_cT2, e_cTb, e_wipe0, e_wipe1, e_back0, e_back1, v_bkF, v_bkNo, v_bkN, v_tY, v_Vg, v_atLast, v_ixS, v_setLast, v_fzSnoc, v_fzSnocC, v_LIM, v_fzF, v_fzC, v_fzFF, v_intsC, v_blsC, e_SrtSet, v_ss, e_tup2, kT2_2, v_minPI, v_minPP, v_isB, e_tBor, kTb_o, v_frzS_f, v_frzS_no, v_frzS_n, e_appP, e_clrP, v_appEach0, v_appEach1, v_appEachM, e_forApp0, e_forApp1, e_AS, v_kFl, e_tpo, v_ixTp, fz_tp, f_need_both_fd01, b_need_both_fd01, e1, e2]
end Ev
namespace Ev
open OW
open DL (Dt)
theorem e_augI {B : Int → Int → Int} {ρ : Ev} {p : Ev → Option (Nat × List Nat)} {q q2 : Ev → Option Dt} {i j : Nat} {k v m : Int} {os : List Ow} (h1 : p ρ = some (i, [])) (h2 : q ρ = some (.int k)) (h3 : q2 ρ = some (.int v)) (h4 : ρ[i]? = some (.n .lst os)) (h5 : L2.ixN os.length k = some j) (h6 : os[j]? = some (.f (.int m))) :
    sAugI B p q q2 ρ = some (.nx (ρ.set i (.n .lst (os.set j (.f (.int (B m v))))))) := by
  unfold sAugI
  simp only [h1, h2, h3, e_getE0 h4, h5, h6, e_setE0 h4]
def subAt (q : Int) (l : List Int) (p : Int) : List Int := l.set p.toNat (l.getD p.toNat 0 - q)
def stepL (q : Int) (ss row run : List Int) : List Int := run.foldl (subAt q) (List.zipWith (· + ·) row ss)
theorem subAt_len {q : Int} {l : List Int} {p : Int} : (subAt q l p).length = l.length := by unfold subAt; rw [List.length_set]
theorem fold_len {q : Int} : ∀ {run l : List Int}, (run.foldl (subAt q) l).length = l.length
  | [], l => rfl
  | p :: run, l => by rw [List.foldl_cons, fold_len, subAt_len]
theorem zw_eq {α β γ : Type} {f : α → β → γ} {a : List α} {b : List β} : List.zipWith f a b = (a.zip b).map fun x => f x.1 x.2 := by
  rw [List.map_zip_eq_zipWith]
  rfl
theorem later_eval {p q : Int} {ss row run : List Int} (h : LoadOk p q ss) (hr : row.length = ss.length) (hp : ∀ x ∈ run, 0 ≤ x ∧ x < (ss.length : Int)) : f_later_lags_9941 [.f (loadD p q ss), .f (.lst (row.map .int)), .f (.lst (run.map .int))] = some (.rt (.n .lst ((stepL q ss row run).map fun x => .f (.int x))) [.no, .no, .no]) := by
  have l2 := h.l2
  have e1 : x1_later_lags_9941 [.f (loadD p q ss), .f (.lst (row.map .int)), .f (.lst (run.map .int)), .f (.int q), .f (.lst (ss.map .int)), .no, .no, .no, .no] = some (.ok (.n .lst ((List.zipWith (· + ·) row ss).map fun x => .f (.int x))) [.f (loadD p q ss), .f (.lst (row.map .int)), .f (.lst (run.map .int)), .f (.int q), .f (.lst (ss.map .int)), .no, .no, .no, .no]) := by
    have e : (List.zipWith (· + ·) row ss).map (fun x => Ow.f (.int x)) = (row.zip ss).map fun x => .f (.int (x.1 + x.2)) := by
      rw [zw_eq, List.map_map]
      rfl
    rw [e]
    unfold x1_later_lags_9941
    refine comp_mapT (l := row.zip ss) (g := fun x => .tup [.int x.1, .int x.2]) (ds := DL.zip2 (row.map .int) (ss.map .int)) (iZ_f (o := .f (.lst (row.map .int))) (o2 := .f (.lst (ss.map .int))) (ρ1 := [.f (loadD p q ss), .f (.lst (row.map .int)), .f (.lst (run.map .int)), .f (.int q), .f (.lst (ss.map .int)), .no, .no, .no, .no]) (by simp (implicitDefEqProofs := false) (decide := true) (maxDischargeDepth := 9) [e_bnd, e_ret, e_opt, kO_s, kO_n, kO_i, kB_n, kB_o, kB_x, kB_i, e_val, kV_n, kV_o, kV_x, kV_i, e_seq, kS_n, kS_nx, kS_rt, kS_bk, kS_ct, kS_ex, kS_i, e_nil, e_pass, e_brk, e_cnt, e_sret, e_sretN, e_expr, e_if, e_set, e_par, e_par3, kP3_3, e_tgt, kTg_f, kTg_n, e_gN, e_gT, e_gs0, e_gs1, e_aug, kAg_i, e_app, kAp_l, e_item, e_for, e_forN, e_fn, kF_n, kF_nx, kF_rt, kF_ex, kF_i, e_outs0, e_outsT, e_outsF, e_K, e_Vf, e_Mf, e_bin, e_un, e_A0, e_A1, e_lst, e_tup, e_C, e_tV, kT_b, e_tAnd, e_tOr, e_tNot, e_xNot, kNt_b, e_xAnd, kAn_b, e_xOr, kOr_b, e_xIf, e_ch, kCh_i, kCz_i, e_is, e_Q, e_Rg1, e_Rg2, e_Sl, kSl_f, e_oN, e_oS, e_call, kA_rt, kA_ex, kA_n, kA_i, e_R0, e_Rv, e_Ri, e_callK, kCK_f, e_take0, e_takeV, e_takeI, e_put0, e_putV, e_putI, fz_f, fz_l, fzs_0, fzs_1, fzs_map, fzs_mapI, fzs_1l, e_b1, e_b2, e_b2g, e_bs, v_bn, v_add, v_sub, v_mul, v_div, v_mod, v_pow, v_neg, v_catNN, v_catFN, v_catNF, v_catFF, v_rep, v_lt, v_le, v_gt, v_ge, v_is, v_isN, v_isO, v_isNO, v_non, v_nonI, v_nonL, v_nonT, v_nonB, v_eqI, v_neI, v_eqS, v_neS, v_lenL, v_lenT, v_abs, v_max2, v_min2, v_min3, v_intsM, v_ints0, v_ints1, v_blsM, v_blsF, v_intsF, v_maxL, v_minL, v_sum, v_sort, v_all, v_any, v_int, v_intB, v_list, v_listT, v_tuple, v_kIsN, v_kIsI, v_kIsL, v_kIsT, v_kIsB, v_isInt, v_isBool, v_isLst, v_isTup, v_repr, v_at, v_atL, v_atN, v_ixT, v_ixL, v_ixN, e_qK, e_qV, v_gKd, v_gOs, v_gLs, v_gDs, v_gDsT, v_gF, v_gI, v_isNn, e_Vn', e_Mn', v_isNo1, v_isNo2, e_pV, e_qIxF, e_qIxN, e_qI, e_qB, e_get, kIt_l', v_ixLit, v_ix0, v_at0, v_at1, v_ix1, e_apply', e_eB, e_cK, e_cT1, e_cT2, e_cTb, e_wipe0, e_wipe1, e_back0, e_back1, v_bkF, v_bkNo, v_bkN, v_tY, v_Vg, v_atLast, v_ixS, v_setLast, v_fzSnoc, v_fzSnocC, v_LIM, v_fzF, v_fzC, v_fzFF, v_intsC, v_blsC, e_SrtSet, v_ss, e_tup2, kT2_2, v_minPI, v_minPP, v_isB, e_tBor, kTb_o, v_frzS_f, v_frzS_no, v_frzS_n, e_appP, e_clrP, v_appEach0, v_appEach1, v_appEachM, e_forApp0, e_forApp1, e_AS, v_kFl, e_tpo, v_ixTp, fz_tp, ]) (by simp (implicitDefEqProofs := false) (decide := true) (maxDischargeDepth := 9) [e_bnd, e_ret, e_opt, kO_s, kO_n, kO_i, kB_n, kB_o, kB_x, kB_i, e_val, kV_n, kV_o, kV_x, kV_i, e_seq, kS_n, kS_nx, kS_rt, kS_bk, kS_ct, kS_ex, kS_i, e_nil, e_pass, e_brk, e_cnt, e_sret, e_sretN, e_expr, e_if, e_set, e_par, e_par3, kP3_3, e_tgt, kTg_f, kTg_n, e_gN, e_gT, e_gs0, e_gs1, e_aug, kAg_i, e_app, kAp_l, e_item, e_for, e_forN, e_fn, kF_n, kF_nx, kF_rt, kF_ex, kF_i, e_outs0, e_outsT, e_outsF, e_K, e_Vf, e_Mf, e_bin, e_un, e_A0, e_A1, e_lst, e_tup, e_C, e_tV, kT_b, e_tAnd, e_tOr, e_tNot, e_xNot, kNt_b, e_xAnd, kAn_b, e_xOr, kOr_b, e_xIf, e_ch, kCh_i, kCz_i, e_is, e_Q, e_Rg1, e_Rg2, e_Sl, kSl_f, e_oN, e_oS, e_call, kA_rt, kA_ex, kA_n, kA_i, e_R0, e_Rv, e_Ri, e_callK, kCK_f, e_take0, e_takeV, e_takeI, e_put0, e_putV, e_putI, fz_f, fz_l, fzs_0, fzs_1, fzs_map, fzs_mapI, fzs_1l, e_b1, e_b2, e_b2g, e_bs, v_bn, v_add, v_sub, v_mul, v_div, v_mod, v_pow, v_neg, v_catNN, v_catFN, v_catNF, v_catFF, v_rep, v_lt, v_le, v_gt, v_ge, v_is, v_isN, v_isO, v_isNO, v_non, v_nonI, v_nonL, v_nonT, v_nonB, v_eqI, v_neI, v_eqS, v_neS, v_lenL, v_lenT, v_abs, v_max2, v_min2, v_min3, v_intsM, v_ints0, v_ints1, v_blsM, v_blsF, v_intsF, v_maxL, v_minL, v_sum, v_sort, v_all, v_any, v_int, v_intB, v_list, v_listT, v_tuple, v_kIsN, v_kIsI, v_kIsL, v_kIsT, v_kIsB, v_isInt, v_isBool, v_isLst, v_isTup, v_repr, v_at, v_atL, v_atN, v_ixT, v_ixL, v_ixN, e_qK, e_qV, v_gKd, v_gOs, v_gLs, v_gDs, v_gDsT, v_gF, v_gI, v_isNn, e_Vn', e_Mn', v_isNo1, v_isNo2, e_pV, e_qIxF, e_qIxN, e_qI, e_qB, e_get, kIt_l', v_ixLit, v_ix0, v_at0, v_at1, v_ix1, e_apply', e_eB, e_cK, e_cT1, e_cT2, e_cTb, e_wipe0, e_wipe1, e_back0, e_back1, v_bkF, v_bkNo, v_bkN, v_tY, v_Vg, v_atLast, v_ixS, v_setLast, v_fzSnoc, v_fzSnocC, v_LIM, v_fzF, v_fzC, v_fzFF, v_intsC, v_blsC, e_SrtSet, v_ss, e_tup2, kT2_2, v_minPI, v_minPP, v_isB, e_tBor, kTb_o, v_frzS_f, v_frzS_no, v_frzS_n, e_appP, e_clrP, v_appEach0, v_appEach1, v_appEachM, e_forApp0, e_forApp1, e_AS, v_kFl, e_tpo, v_ixTp, fz_tp, ]) rfl rfl) zip_map (by rw [List.length_zip]; unfold LIM; omega) fun x hx => ?_
    simp (implicitDefEqProofs := false) (decide := true) (maxDischargeDepth := 9) [e_bnd, e_ret, e_opt, kO_s, kO_n, kO_i, kB_n, kB_o, kB_x, kB_i, e_val, kV_n, kV_o, kV_x, kV_i, e_seq, kS_n, kS_nx, kS_rt, kS_bk, kS_ct, kS_ex, kS_i, e_nil, e_pass, e_brk, e_cnt, e_sret, e_sretN, e_expr, e_if, e_set, e_par, e_par3, kP3_3, e_tgt, kTg_f, kTg_n, e_gN, e_gT, e_gs0, e_gs1, e_aug, kAg_i, e_app, kAp_l, e_item, e_for, e_forN, e_fn, kF_n, kF_nx, kF_rt, kF_ex, kF_i, e_outs0, e_outsT, e_outsF, e_K, e_Vf, e_Mf, e_bin, e_un, e_A0, e_A1, e_lst, e_tup, e_C, e_tV, kT_b, e_tAnd, e_tOr, e_tNot, e_xNot, kNt_b, e_xAnd, kAn_b, e_xOr, kOr_b, e_xIf, e_ch, kCh_i, kCz_i, e_is, e_Q, e_Rg1, e_Rg2, e_Sl, kSl_f, e_oN, e_oS, e_call, kA_rt, kA_ex, kA_n, kA_i, e_R0, e_Rv, e_Ri, e_callK, kCK_f, e_take0, e_takeV, e_takeI, e_put0, e_putV, e_putI, fz_f, fz_l, fzs_0, fzs_1, fzs_map, fzs_mapI, fzs_1l, e_b1, e_b2, e_b2g, e_bs, v_bn, v_add, v_sub, v_mul, v_div, v_mod, v_pow, v_neg, v_catNN, v_catFN, v_catNF, v_catFF, v_rep, v_lt, v_le, v_gt, v_ge, v_is, v_isN, v_isO, v_isNO, v_non, v_nonI, v_nonL, v_nonT, v_nonB, v_eqI, v_neI, v_eqS, v_neS, v_lenL, v_lenT, v_abs, v_max2, v_min2, v_min3, v_intsM, v_ints0, v_ints1, v_blsM, v_blsF, v_intsF, v_maxL, v_minL, v_sum, v_sort, v_all, v_any, v_int, v_intB, v_list, v_listT, v_tuple, v_kIsN, v_kIsI, v_kIsL, v_kIsT, v_kIsB, v_isInt, v_isBool, v_isLst, v_isTup, v_repr, v_at, v_atL, v_atN, v_ixT, v_ixL, v_ixN, e_qK, e_qV, v_gKd, v_gOs, v_gLs, v_gDs, v_gDsT, v_gF, v_gI, v_isNn, e_Vn', e_Mn', v_isNo1, v_isNo2, e_pV, e_qIxF, e_qIxN, e_qI, e_qB, e_get, kIt_l', v_ixLit, v_ix0, v_at0, v_at1, v_ix1, e_apply', e_eB, e_cK, e_cT1, e_cT2, e_cTb, e_wipe0, e_wipe1, e_back0, e_back1, v_bkF, v_bkNo, v_bkN, v_tY, v_Vg, v_atLast, v_ixS, v_setLast, v_fzSnoc, v_fzSnocC, v_LIM, v_fzF, v_fzC, v_fzFF, v_intsC, v_blsC, e_SrtSet, v_ss, e_tup2, kT2_2, v_minPI, v_minPP, v_isB, e_tBor, kTb_o, v_frzS_f, v_frzS_no, v_frzS_n, e_appP, e_clrP, v_appEach0, v_appEach1, v_appEachM, e_forApp0, e_forApp1, e_AS, v_kFl, e_tpo, v_ixTp, fz_tp, ]
  obtain ⟨ρ, e2, o6, rfl⟩ : ∃ ρ, l1_later_lags_9941 [.f (loadD p q ss), .f (.lst (row.map .int)), .f (.lst (run.map .int)), .f (.int q), .f (.lst (ss.map .int)), .n .lst ((List.zipWith (· + ·) row ss).map fun x => .f (.int x)), .no, .no, .no] = some (.nx ρ) ∧ ∃ o6, ρ = [.f (loadD p q ss), .f (.lst (row.map .int)), .f (.lst (run.map .int)), .f (.int q), .f (.lst (ss.map .int)), .n .lst ((stepL q ss row run).map fun x => .f (.int x)), o6, .no, .no] := by
    refine wp_nx ?_
    unfold l1_later_lags_9941
    rw [e_for, iL_f (ds := run.map .int) (ρ1 := [.f (loadD p q ss), .f (.lst (row.map .int)), .f (.lst (run.map .int)), .f (.int q), .f (.lst (ss.map .int)), .n .lst ((List.zipWith (· + ·) row ss).map fun x => .f (.int x)), .no, .no, .no]) (by simp (implicitDefEqProofs := false) (decide := true) (maxDischargeDepth := 9) [e_bnd, e_ret, e_opt, kO_s, kO_n, kO_i, kB_n, kB_o, kB_x, kB_i, e_val, kV_n, kV_o, kV_x, kV_i, e_seq, kS_n, kS_nx, kS_rt, kS_bk, kS_ct, kS_ex, kS_i, e_nil, e_pass, e_brk, e_cnt, e_sret, e_sretN, e_expr, e_if, e_set, e_par, e_par3, kP3_3, e_tgt, kTg_f, kTg_n, e_gN, e_gT, e_gs0, e_gs1, e_aug, kAg_i, e_app, kAp_l, e_item, e_for, e_forN, e_fn, kF_n, kF_nx, kF_rt, kF_ex, kF_i, e_outs0, e_outsT, e_outsF, e_K, e_Vf, e_Mf, e_bin, e_un, e_A0, e_A1, e_lst, e_tup, e_C, e_tV, kT_b, e_tAnd, e_tOr, e_tNot, e_xNot, kNt_b, e_xAnd, kAn_b, e_xOr, kOr_b, e_xIf, e_ch, kCh_i, kCz_i, e_is, e_Q, e_Rg1, e_Rg2, e_Sl, kSl_f, e_oN, e_oS, e_call, kA_rt, kA_ex, kA_n, kA_i, e_R0, e_Rv, e_Ri, e_callK, kCK_f, e_take0, e_takeV, e_takeI, e_put0, e_putV, e_putI, fz_f, fz_l, fzs_0, fzs_1, fzs_map, fzs_mapI, fzs_1l, e_b1, e_b2, e_b2g, e_bs, v_bn, v_add, v_sub, v_mul, v_div, v_mod, v_pow, v_neg, v_catNN, v_catFN, v_catNF, v_catFF, v_rep, v_lt, v_le, v_gt, v_ge, v_is, v_isN, v_isO, v_isNO, v_non, v_nonI, v_nonL, v_nonT, v_nonB, v_eqI, v_neI, v_eqS, v_neS, v_lenL, v_lenT, v_abs, v_max2, v_min2, v_min3, v_intsM, v_ints0, v_ints1, v_blsM, v_blsF, v_intsF, v_maxL, v_minL, v_sum, v_sort, v_all, v_any, v_int, v_intB, v_list, v_listT, v_tuple, v_kIsN, v_kIsI, v_kIsL, v_kIsT, v_kIsB, v_isInt, v_isBool, v_isLst, v_isTup, v_repr, v_at, v_atL, v_atN, v_ixT, v_ixL, v_ixN, e_qK, e_qV, v_gKd, v_gOs, v_gLs, v_gDs, v_gDsT, v_gF, v_gI, v_isNn, e_Vn', e_Mn', v_isNo1, v_isNo2, e_pV, e_qIxF, e_qIxN, e_qI, e_qB, e_get, kIt_l', v_ixLit, v_ix0, v_at0, v_at1, v_ix1, e_apply', e_eB, e_cK, e_cT1, e_cT2, e_cTb, e_wipe0, e_wipe1, e_back0, e_back1, v_bkF, v_bkNo, v_bkN, v_tY, v_Vg, v_atLast, v_ixS, v_setLast, v_fzSnoc, v_fzSnocC, v_LIM, v_fzF, v_fzC, v_fzFF, v_intsC, v_blsC, e_SrtSet, v_ss, e_tup2, kT2_2, v_minPI, v_minPP, v_isB, e_tBor, kTb_o, v_frzS_f, v_frzS_no, v_frzS_n, e_appP, e_clrP, v_appEach0, v_appEach1, v_appEachM, e_forApp0, e_forApp1, e_AS, v_kFl, e_tpo, v_ixTp, fz_tp, ]), kV_o]
    refine w_for (fun j ρ => ∃ o6, ρ = [.f (loadD p q ss), .f (.lst (row.map .int)), .f (.lst (run.map .int)), .f (.int q), .f (.lst (ss.map .int)), .n .lst (((run.take j).foldl (subAt q) (List.zipWith (· + ·) row ss)).map fun x => .f (.int x)), o6, .no, .no]) ⟨_, rfl⟩ ?_ fun ρ ⟨o6, z⟩ => ⟨o6, by rw [List.length_map, List.take_length] at z; exact z⟩
    intro j d ρ hd ⟨o6, e⟩
    subst e
    rw [List.getElem?_map] at hd
    obtain ⟨x, hx, rfl⟩ := Option.map_eq_some_iff.mp hd
    obtain ⟨x0, x1⟩ := hp x (List.mem_of_getElem? hx)
    obtain ⟨hj, hjx⟩ := List.getElem?_eq_some_iff.mp hx
    obtain ⟨l, hl⟩ : ∃ l, l = (run.take j).foldl (subAt q) (List.zipWith (· + ·) row ss) := ⟨_, rfl⟩
    have ll : l.length = ss.length := by rw [hl, fold_len, List.length_zipWith, hr]; omega
    have et : (run.take (j + 1)).foldl (subAt q) (List.zipWith (· + ·) row ss) = subAt q l x := by
      rw [← List.take_append_getElem hj, List.foldl_append, ← hl, hjx]
      rfl
    rw [← hl]
    refine ⟨[.f (loadD p q ss), .f (.lst (row.map .int)), .f (.lst (run.map .int)), .f (.int q), .f (.lst (ss.map .int)), .n .lst (l.map fun x => .f (.int x)), .f (.int x), .no, .no], by simp (implicitDefEqProofs := false) (decide := true) (maxDischargeDepth := 9) [e_bnd, e_ret, e_opt, kO_s, kO_n, kO_i, kB_n, kB_o, kB_x, kB_i, e_val, kV_n, kV_o, kV_x, kV_i, e_seq, kS_n, kS_nx, kS_rt, kS_bk, kS_ct, kS_ex, kS_i, e_nil, e_pass, e_brk, e_cnt, e_sret, e_sretN, e_expr, e_if, e_set, e_par, e_par3, kP3_3, e_tgt, kTg_f, kTg_n, e_gN, e_gT, e_gs0, e_gs1, e_aug, kAg_i, e_app, kAp_l, e_item, e_for, e_forN, e_fn, kF_n, kF_nx, kF_rt, kF_ex, kF_i, e_outs0, e_outsT, e_outsF, e_K, e_Vf, e_Mf, e_bin, e_un, e_A0, e_A1, e_lst, e_tup, e_C, e_tV, kT_b, e_tAnd, e_tOr, e_tNot, e_xNot, kNt_b, e_xAnd, kAn_b, e_xOr, kOr_b, e_xIf, e_ch, kCh_i, kCz_i, e_is, e_Q, e_Rg1, e_Rg2, e_Sl, kSl_f, e_oN, e_oS, e_call, kA_rt, kA_ex, kA_n, kA_i, e_R0, e_Rv, e_Ri, e_callK, kCK_f, e_take0, e_takeV, e_takeI, e_put0, e_putV, e_putI, fz_f, fz_l, fzs_0, fzs_1, fzs_map, fzs_mapI, fzs_1l, e_b1, e_b2, e_b2g, e_bs, v_bn, v_add, v_sub, v_mul, v_div, v_mod, v_pow, v_neg, v_catNN, v_catFN, v_catNF, v_catFF, v_rep, v_lt, v_le, v_gt, v_ge, v_is, v_isN, v_isO, v_isNO, v_non, v_nonI, v_nonL, v_nonT, v_nonB, v_eqI, v_neI, v_eqS, v_neS, v_lenL, v_lenT, v_abs, v_max2, v_min2, v_min3, v_intsM, v_ints0, v_ints1, v_blsM, v_blsF, v_intsF, v_maxL, v_minL, v_sum, v_sort, v_all, v_any, v_int, v_intB, v_list, v_listT, v_tuple, v_kIsN, v_kIsI, v_kIsL, v_kIsT, v_kIsB, v_isInt, v_isBool, v_isLst, v_isTup, v_repr, v_at, v_atL, v_atN, v_ixT, v_ixL, v_ixN, e_qK, e_qV, v_gKd, v_gOs, v_gLs, v_gDs, v_gDsT, v_gF, v_gI, v_isNn, e_Vn', e_Mn', v_isNo1, v_isNo2, e_pV, e_qIxF, e_qIxN, e_qI, e_qB, e_get, kIt_l', v_ixLit, v_ix0, v_at0, v_at1, v_ix1, e_apply', e_eB, e_cK, e_cT1, e_cT2, e_cTb, e_wipe0, e_wipe1, e_back0, e_back1, v_bkF, v_bkNo, v_bkN, v_tY, v_Vg, v_atLast, v_ixS, v_setLast, v_fzSnoc, v_fzSnocC, v_LIM, v_fzF, v_fzC, v_fzFF, v_intsC, v_blsC, e_SrtSet, v_ss, e_tup2, kT2_2, v_minPI, v_minPP, v_isB, e_tBor, kTb_o, v_frzS_f, v_frzS_no, v_frzS_n, e_appP, e_clrP, v_appEach0, v_appEach1, v_appEachM, e_forApp0, e_forApp1, e_AS, v_kFl, e_tpo, v_ixTp, fz_tp, ], ?_⟩
    have hxl : x.toNat < l.length := by omega
    have hg : l[x.toNat]? = some (l.getD x.toNat 0) := by rw [List.getD_eq_getElem?_getD, List.getElem?_eq_getElem hxl]; rfl
    refine wp_eq (.nx [.f (loadD p q ss), .f (.lst (row.map .int)), .f (.lst (run.map .int)), .f (.int q), .f (.lst (ss.map .int)), .n .lst ((subAt q l x).map fun x => .f (.int x)), .f (.int x), .no, .no]) ?_ ⟨_, by rw [et]⟩
    have ea := e_augI (B := fun i j => i - j) (ρ := [.f (loadD p q ss), .f (.lst (row.map .int)), .f (.lst (run.map .int)), .f (.int q), .f (.lst (ss.map .int)), .n .lst (l.map fun x => .f (.int x)), .f (.int x), .no, .no]) (p := pV 5) (q := qV 6) (q2 := qV 3) (i := 5) (j := x.toNat) (k := x) (v := q) (m := l.getD x.toNat 0) (os := l.map fun x => .f (.int x)) rfl rfl rfl rfl (ixN_nat x0 (by rw [List.length_map]; exact hxl)) (by rw [List.getElem?_map, hg]; rfl)
    rw [e_seq, ea, kS_nx, e_nil]
    unfold subAt
    rw [List.map_set]
    rfl
  generalize hz : List.zipWith (· + ·) row ss = z at e1 e2
  unfold loadD at e1 e2 ⊢
  simp (implicitDefEqProofs := false) (decide := true) (maxDischargeDepth := 9) [e_bnd, e_ret, e_opt, kO_s, kO_n, kO_i, kB_n, kB_o, kB_x, kB_i, e_val, kV_n, kV_o, kV_x, kV_i, e_seq, kS_n, kS_nx, kS_rt, kS_bk, kS_ct, kS_ex, kS_i, e_nil, e_pass, e_brk, e_cnt, e_sret, e_sretN, e_expr, e_if, e_set, e_par, e_par3, kP3_3, e_tgt, kTg_f, kTg_n, e_gN, e_gT, e_gs0, e_gs1, e_aug, kAg_i, e_app, kAp_l, e_item, e_for, e_forN, e_fn, kF_n, kF_nx, kF_rt, kF_ex, kF_i, e_outs0, e_outsT, e_outsF, e_K, e_Vf, e_Mf, e_bin, e_un, e_A0, e_A1, e_lst, e_tup, e_C, e_tV, kT_b, e_tAnd, e_tOr, e_tNot, e_xNot, kNt_b, e_xAnd, kAn_b, e_xOr, kOr_b, e_xIf, e_ch, kCh_i, kCz_i, e_is, e_Q, e_Rg1, e_Rg2, e_Sl, kSl_f, e_oN, e_oS, e_call, kA_rt, kA_ex, kA_n, kA_i, e_R0, e_Rv, e_Ri, e_callK, kCK_f, e_take0, e_takeV, e_takeI, e_put0, e_putV, e_putI, fz_f, fz_l, fzs_0, fzs_1, fzs_map, fzs_mapI, fzs_1l, e_b1, e_b2, e_b2g, e_bs, v_bn, v_add, v_sub, v_mul, v_div, v_mod, v_pow, v_neg, v_catNN, v_catFN, v_catNF, v_catFF, v_rep, v_lt, v_le, v_gt, v_ge, v_is, v_isN, v_isO, v_isNO, v_non, v_nonI, v_nonL, v_nonT, v_nonB, v_eqI, v_neI, v_eqS, v_neS, v_lenL, v_lenT, v_abs, v_max2, v_min2, v_min3, v_intsM, v_ints0, v_ints1, v_blsM, v_blsF, v_intsF, v_maxL, v_minL, v_sum, v_sort, v_all, v_any, v_int, v_intB, v_list, v_listT, v_tuple, v_kIsN, v_kIsI, v_kIsL, v_kIsT, v_kIsB, v_isInt, v_isBool, v_isLst, v_isTup, v_repr, v_at, v_atL, v_atN, v_ixT, v_ixL, v_ixN, e_qK, e_qV, v_gKd, v_gOs, v_gLs, v_gDs, v_gDsT, v_gF, v_gI, v_isNn, e_Vn', e_Mn', v_isNo1, v_isNo2, e_pV, e_qIxF, e_qIxN, e_qI, e_qB, e_get, kIt_l', v_ixLit, v_ix0, v_at0, v_at1, v_ix1, e_apply', e_eB, e_cK, e_cT1, e_cT2, e_cTb, e_wipe0, e_wipe1, e_back0, e_back1, v_bkF, v_bkNo, v_bkN, v_tY, v_Vg, v_atLast, v_ixS, v_setLast, v_fzSnoc, v_fzSnocC, v_LIM, v_fzF, v_fzC, v_fzFF, v_intsC, v_blsC, e_SrtSet, v_ss, e_tup2, kT2_2, v_minPI, v_minPP, v_isB, e_tBor, kTb_o, v_frzS_f, v_frzS_no, v_frzS_n, e_appP, e_clrP, v_appEach0, v_appEach1, v_appEachM, e_forApp0, e_forApp1, e_AS, v_kFl, e_tpo, v_ixTp, fz_tp, f_later_lags_9941, b_later_lags_9941, e1, e2]
end Ev
namespace Ev
open OW
open DL (Dt)
/-- the rows of lags behind a row, tick by tick -/
def rowsFrom (q : Int) (ss : List Int) : List Int → List (List Int) → List (List Int)
  | row, [] => [row]
  | row, l :: ls => row :: rowsFrom q ss (stepL q ss row l) ls
theorem stepL_len {q : Int} {ss row run : List Int} (h : row.length = ss.length) : (stepL q ss row run).length = ss.length := by
  unfold stepL
  rw [fold_len, List.length_zipWith, h]
  omega
/-- an own list within a list is read: it stands from now on -/
theorem e_getN {ρ : Ev} {i j : Nat} {os is : List Ow} {d : Dt} (h1 : ρ[i]? = some (.n .lst os)) (h2 : L2.ixN os.length (-1) = some j) (h3 : os[j]? = some (.n .lst is)) (h4 : frz (.n .lst is) = some d) :
    xGet (pV i) (qK (.int (-1))) ρ = some (.ok (.f d) (ρ.set i (.n .lst (os.set j (.f d))))) := by
  have p0 : pV i ρ = some (i, []) := e_pV h1 rfl
  have a : qIx (pV i) (qK (.int (-1))) ρ = none := by
    unfold qIx qK
    have hat : L2.atI os (-1) = some (.n .lst is) := by
      unfold L2.atI
      rw [h2]
      exact h3
    simp only [p0, e_getE0 h1, hat]
  have b : pI (pV i) (qK (.int (-1))) ρ = some (i, [j]) := by
    unfold pI qK
    simp only [p0, e_getE0 h1, h2, h3, List.nil_append]
  have c : getE ρ i [j] = some (.n .lst is) := by
    unfold getE
    rw [h1]
    show subO (.n .lst os) [j] = _
    unfold subO
    rw [h3]
    rfl
  have e : setE ρ i [j] (.f d) = ρ.set i (.n .lst (os.set j (.f d))) := by
    unfold setE
    rw [h1]
    show ρ.set i (setP (.n .lst os) [j] (.f d)) = _
    unfold setP
    rw [h3]
    rfl
  unfold xGet
  simp only [a, b, c, h4, e]
end Ev
namespace Ev
open OW
open DL (Dt)
def rowD (r : List Int) : Dt := .lst (r.map .int)
def rowsO (prev : List (List Int)) (row : List Int) : Ow := .n .lst (prev.map (fun r => .f (rowD r)) ++ [.n .lst (row.map fun x => .f (.int x))])
theorem rep_zero {n : Nat} : (List.replicate n [Dt.int 0]).flatten.map Ow.f = (List.replicate n (0 : Int)).map fun x => .f (.int x) := by
  induction n with
  | zero => rfl
  | succ n ih => rw [List.replicate_succ, List.flatten_cons, List.map_append, ih, List.replicate_succ]; rfl
theorem all_lags_eval {p q : Int} {ss : List Int} {ls : List (List Int)} (h : LoadOk p q ss) (hp : PlanOk p ss.length ls) : ∃ prev row, rowsFrom q ss (List.replicate ss.length 0) ls = prev ++ [row] ∧
    f_all_lags_d51f [.f (loadD p q ss), .f (planD ls)] = some (.rt (rowsO prev row) [.no, .no]) := by
  have l2 := h.l2
  have hl := hp.len
  obtain ⟨ρ, e, prev, row, o3, hr, rfl⟩ : ∃ ρ, l1_all_lags_d51f [.f (loadD p q ss), .f (planD ls), rowsO [] (List.replicate ss.length 0), .no] = some (.nx ρ) ∧ ∃ prev row o3, rowsFrom q ss (List.replicate ss.length 0) ls = prev ++ [row] ∧ ρ = [.f (loadD p q ss), .f (planD ls), rowsO prev row, o3] := by
    refine wp_nx ?_
    unfold l1_all_lags_d51f
    rw [e_for, iL_f (ds := ls.map fun l => .lst (l.map .int)) (ρ1 := [.f (loadD p q ss), .f (planD ls), rowsO [] (List.replicate ss.length 0), .no]) (by unfold planD; simp (implicitDefEqProofs := false) (decide := true) (maxDischargeDepth := 9) [e_bnd, e_ret, e_opt, kO_s, kO_n, kO_i, kB_n, kB_o, kB_x, kB_i, e_val, kV_n, kV_o, kV_x, kV_i, e_seq, kS_n, kS_nx, kS_rt, kS_bk, kS_ct, kS_ex, kS_i, e_nil, e_pass, e_brk, e_cnt, e_sret, e_sretN, e_expr, e_if, e_set, e_par, e_par3, kP3_3, e_tgt, kTg_f, kTg_n, e_gN, e_gT, e_gs0, e_gs1, e_aug, kAg_i, e_app, kAp_l, e_item, e_for, e_forN, e_fn, kF_n, kF_nx, kF_rt, kF_ex, kF_i, e_outs0, e_outsT, e_outsF, e_K, e_Vf, e_Mf, e_bin, e_un, e_A0, e_A1, e_lst, e_tup, e_C, e_tV, kT_b, e_tAnd, e_tOr, e_tNot, e_xNot, kNt_b, e_xAnd, kAn_b, e_xOr, kOr_b, e_xIf, e_ch, kCh_i, kCz_i, e_is, e_Q, e_Rg1, e_Rg2, e_Sl, kSl_f, e_oN, e_oS, e_call, kA_rt, kA_ex, kA_n, kA_i, e_R0, e_Rv, e_Ri, e_callK, kCK_f, e_take0, e_takeV, e_takeI, e_put0, e_putV, e_putI, fz_f, fz_l, fzs_0, fzs_1, fzs_map, fzs_mapI, fzs_1l, e_b1, e_b2, e_b2g, e_bs, v_bn, v_add, v_sub, v_mul, v_div, v_mod, v_pow, v_neg, v_catNN, v_catFN, v_catNF, v_catFF, v_rep, v_lt, v_le, v_gt, v_ge, v_is, v_isN, v_isO, v_isNO, v_non, v_nonI, v_nonL, v_nonT, v_nonB, v_eqI, v_neI, v_eqS, v_neS, v_lenL, v_lenT, v_abs, v_max2, v_min2, v_min3, v_intsM, v_ints0, v_ints1, v_blsM, v_blsF, v_intsF, v_maxL, v_minL, v_sum, v_sort, v_all, v_any, v_int, v_intB, v_list, v_listT, v_tuple, v_kIsN, v_kIsI, v_kIsL, v_kIsT, v_kIsB, v_isInt, v_isBool, v_isLst, v_isTup, v_repr, v_at, v_atL, v_atN, v_ixT, v_ixL, v_ixN, e_qK, e_qV, v_gKd, v_gOs, v_gLs, v_gDs, v_gDsT, v_gF, v_gI, v_isNn, e_Vn', e_Mn', v_isNo1, v_isNo2, e_pV, e_qIxF, e_qIxN, e_qI, e_qB, e_get, kIt_l', v_ixLit, v_ix0, v_at0, v_at1, v_ix1, e_apply', e_eB, e_cK, e_cT1, e_cT2, e_cTb, e_wipe0, e_wipe1, e_back0, e_back1, v_bkF, v_bkNo, v_bkN, v_tY, v_Vg, v_atLast, v_ixS, v_setLast, v_fzSnoc, v_fzSnocC, v_LIM, v_fzF, v_fzC, v_fzFF, v_intsC, v_blsC, e_SrtSet, v_ss, e_tup2, kT2_2, v_minPI, v_minPP, v_isB, e_tBor, kTb_o, v_frzS_f, v_frzS_no, v_frzS_n, e_appP, e_clrP, v_appEach0, v_appEach1, v_appEachM, e_forApp0, e_forApp1, e_AS, v_kFl, e_tpo, v_ixTp, fz_tp, ]), kV_o]
    refine w_for (fun j ρ => ∃ prev row o3, row.length = ss.length ∧ prev.length = j ∧ rowsFrom q ss (List.replicate ss.length 0) ls = prev ++ rowsFrom q ss row (ls.drop j) ∧ ρ = [.f (loadD p q ss), .f (planD ls), rowsO prev row, o3]) ⟨[], _, _, List.length_replicate, rfl, rfl, rfl⟩ ?_ ?_
    · intro j d ρ hd ⟨prev, row, o3, r1, r2, r3, e⟩
      subst e
      rw [List.getElem?_map] at hd
      obtain ⟨l, hx, rfl⟩ := Option.map_eq_some_iff.mp hd
      obtain ⟨hj, hjx⟩ := List.getElem?_eq_some_iff.mp hx
      have tk := hp.tk l (List.mem_of_getElem? hx)
      have ev := later_eval h r1 tk.rng
      have hdrop : ls.drop j = l :: ls.drop (j + 1) := by rw [List.drop_eq_getElem_cons hj, hjx]
      rw [hdrop] at r3
      refine ⟨[.f (loadD p q ss), .f (planD ls), rowsO prev row, .f (.lst (l.map .int))], by simp (implicitDefEqProofs := false) (decide := true) (maxDischargeDepth := 9) [e_bnd, e_ret, e_opt, kO_s, kO_n, kO_i, kB_n, kB_o, kB_x, kB_i, e_val, kV_n, kV_o, kV_x, kV_i, e_seq, kS_n, kS_nx, kS_rt, kS_bk, kS_ct, kS_ex, kS_i, e_nil, e_pass, e_brk, e_cnt, e_sret, e_sretN, e_expr, e_if, e_set, e_par, e_par3, kP3_3, e_tgt, kTg_f, kTg_n, e_gN, e_gT, e_gs0, e_gs1, e_aug, kAg_i, e_app, kAp_l, e_item, e_for, e_forN, e_fn, kF_n, kF_nx, kF_rt, kF_ex, kF_i, e_outs0, e_outsT, e_outsF, e_K, e_Vf, e_Mf, e_bin, e_un, e_A0, e_A1, e_lst, e_tup, e_C, e_tV, kT_b, e_tAnd, e_tOr, e_tNot, e_xNot, kNt_b, e_xAnd, kAn_b, e_xOr, kOr_b, e_xIf, e_ch, kCh_i, kCz_i, e_is, e_Q, e_Rg1, e_Rg2, e_Sl, kSl_f, e_oN, e_oS, e_call, kA_rt, kA_ex, kA_n, kA_i, e_R0, e_Rv, e_Ri, e_callK, kCK_f, e_take0, e_takeV, e_takeI, e_put0, e_putV, e_putI, fz_f, fz_l, fzs_0, fzs_1, fzs_map, fzs_mapI, fzs_1l, e_b1, e_b2, e_b2g, e_bs, v_bn, v_add, v_sub, v_mul, v_div, v_mod, v_pow, v_neg, v_catNN, v_catFN, v_catNF, v_catFF, v_rep, v_lt, v_le, v_gt, v_ge, v_is, v_isN, v_isO, v_isNO, v_non, v_nonI, v_nonL, v_nonT, v_nonB, v_eqI, v_neI, v_eqS, v_neS, v_lenL, v_lenT, v_abs, v_max2, v_min2, v_min3, v_intsM, v_ints0, v_ints1, v_blsM, v_blsF, v_intsF, v_maxL, v_minL, v_sum, v_sort, v_all, v_any, v_int, v_intB, v_list, v_listT, v_tuple, v_kIsN, v_kIsI, v_kIsL, v_kIsT, v_kIsB, v_isInt, v_isBool, v_isLst, v_isTup, v_repr, v_at, v_atL, v_atN, v_ixT, v_ixL, v_ixN, e_qK, e_qV, v_gKd, v_gOs, v_gLs, v_gDs, v_gDsT, v_gF, v_gI, v_isNn, e_Vn', e_Mn', v_isNo1, v_isNo2, e_pV, e_qIxF, e_qIxN, e_qI, e_qB, e_get, kIt_l', v_ixLit, v_ix0, v_at0, v_at1, v_ix1, e_apply', e_eB, e_cK, e_cT1, e_cT2, e_cTb, e_wipe0, e_wipe1, e_back0, e_back1, v_bkF, v_bkNo, v_bkN, v_tY, v_Vg, v_atLast, v_ixS, v_setLast, v_fzSnoc, v_fzSnocC, v_LIM, v_fzF, v_fzC, v_fzFF, v_intsC, v_blsC, e_SrtSet, v_ss, e_tup2, kT2_2, v_minPI, v_minPP, v_isB, e_tBor, kTb_o, v_frzS_f, v_frzS_no, v_frzS_n, e_appP, e_clrP, v_appEach0, v_appEach1, v_appEachM, e_forApp0, e_forApp1, e_AS, v_kFl, e_tpo, v_ixTp, fz_tp, ], ?_⟩
      have eg := e_getN (ρ := [.f (loadD p q ss), .f (planD ls), rowsO prev row, .f (.lst (l.map .int))]) (i := 2) (j := prev.length) (os := prev.map (fun r => .f (rowD r)) ++ [.n .lst (row.map fun x => .f (.int x))]) (is := row.map fun x => .f (.int x)) (d := rowD row) rfl (by rw [List.length_append, List.length_map]; exact v_ixS) (by rw [List.getElem?_append_right (by rw [List.length_map]; exact Nat.le_refl _), List.length_map, Nat.sub_self]; rfl) (by rw [fz_l, fzs_mapI]; rfl)
      have hs : (prev.map (fun r => Ow.f (rowD r)) ++ [Ow.n .lst (row.map fun x => .f (.int x))]).set prev.length (.f (rowD row)) = (prev ++ [row]).map fun r => .f (rowD r) := by
        rw [v_setLast (by rw [List.length_map]), List.map_append]
        rfl
      rw [hs] at eg
      have hL : ((prev ++ [row]).map fun r => Ow.f (rowD r)).length < LIM := by rw [List.length_map, List.length_append]; unfold LIM; simp; omega
      refine wp_eq (.nx [.f (loadD p q ss), .f (planD ls), rowsO (prev ++ [row]) (stepL q ss row l), .f (.lst (l.map .int))]) ?_ ⟨prev ++ [row], _, _, stepL_len r1, by rw [List.length_append, r2]; rfl, by rw [r3, List.append_assoc]; rfl, rfl⟩
      have ecall : (xCall 3 f_later_lags_9941 (xRv (xV 0) (xRv (xGet (pV 2) (qK (.int (-1)))) (xRv (xV 3) xR0)))) [.f (loadD p q ss), .f (planD ls), rowsO prev row, .f (.lst (l.map .int))] = some (.ok (.n .lst ((stepL q ss row l).map fun x => .f (.int x))) [.f (loadD p q ss), .f (planD ls), .n .lst ((prev ++ [row]).map fun r => .f (rowD r)), .f (.lst (l.map .int))]) := by
        unfold rowD at eg
        generalize hP : (prev ++ [row]).map (fun r => Ow.f (Dt.lst (r.map .int))) = P at eg
        unfold rowD
        rw [hP]
        simp (implicitDefEqProofs := false) (decide := true) (maxDischargeDepth := 9) [e_bnd, e_ret, e_opt, kO_s, kO_n, kO_i, kB_n, kB_o, kB_x, kB_i, e_val, kV_n, kV_o, kV_x, kV_i, e_seq, kS_n, kS_nx, kS_rt, kS_bk, kS_ct, kS_ex, kS_i, e_nil, e_pass, e_brk, e_cnt, e_sret, e_sretN, e_expr, e_if, e_set, e_par, e_par3, kP3_3, e_tgt, kTg_f, kTg_n, e_gN, e_gT, e_gs0, e_gs1, e_aug, kAg_i, e_app, kAp_l, e_item, e_for, e_forN, e_fn, kF_n, kF_nx, kF_rt, kF_ex, kF_i, e_outs0, e_outsT, e_outsF, e_K, e_Vf, e_Mf, e_bin, e_un, e_A0, e_A1, e_lst, e_tup, e_C, e_tV, kT_b, e_tAnd, e_tOr, e_tNot, e_xNot, kNt_b, e_xAnd, kAn_b, e_xOr, kOr_b, e_xIf, e_ch, kCh_i, kCz_i, e_is, e_Q, e_Rg1, e_Rg2, e_Sl, kSl_f, e_oN, e_oS, e_call, kA_rt, kA_ex, kA_n, kA_i, e_R0, e_Rv, e_Ri, e_callK, kCK_f, e_take0, e_takeV, e_takeI, e_put0, e_putV, e_putI, fz_f, fz_l, fzs_0, fzs_1, fzs_map, fzs_mapI, fzs_1l, e_b1, e_b2, e_b2g, e_bs, v_bn, v_add, v_sub, v_mul, v_div, v_mod, v_pow, v_neg, v_catNN, v_catFN, v_catNF, v_catFF, v_rep, v_lt, v_le, v_gt, v_ge, v_is, v_isN, v_isO, v_isNO, v_non, v_nonI, v_nonL, v_nonT, v_nonB, v_eqI, v_neI, v_eqS, v_neS, v_lenL, v_lenT, v_abs, v_max2, v_min2, v_min3, v_intsM, v_ints0, v_ints1, v_blsM, v_blsF, v_intsF, v_maxL, v_minL, v_sum, v_sort, v_all, v_any, v_int, v_intB, v_list, v_listT, v_tuple, v_kIsN, v_kIsI, v_kIsL, v_kIsT, v_kIsB, v_isInt, v_isBool, v_isLst, v_isTup, v_repr, v_at, v_atL, v_atN, v_ixT, v_ixL, v_ixN, e_qK, e_qV, v_gKd, v_gOs, v_gLs, v_gDs, v_gDsT, v_gF, v_gI, v_isNn, e_Vn', e_Mn', v_isNo1, v_isNo2, e_pV, e_qIxF, e_qIxN, e_qI, e_qB, e_get, kIt_l', v_ixLit, v_ix0, v_at0, v_at1, v_ix1, e_apply', e_eB, e_cK, e_cT1, e_cT2, e_cTb, e_wipe0, e_wipe1, e_back0, e_back1, v_bkF, v_bkNo, v_bkN, v_tY, v_Vg, v_atLast, v_ixS, v_setLast, v_fzSnoc, v_fzSnocC, v_LIM, v_fzF, v_fzC, v_fzFF, v_intsC, v_blsC, e_SrtSet, v_ss, e_tup2, kT2_2, v_minPI, v_minPP, v_isB, e_tBor, kTb_o, v_frzS_f, v_frzS_no, v_frzS_n, e_appP, e_clrP, v_appEach0, v_appEach1, v_appEachM, e_forApp0, e_forApp1, e_AS, v_kFl, e_tpo, v_ixTp, fz_tp, eg, ev]
      rw [e_seq, e_app (os := prev.map (fun r => .f (rowD r)) ++ [.n .lst (row.map fun x => .f (.int x))]) rfl, ecall, kV_o, kAp_l (os := (prev ++ [row]).map fun r => .f (rowD r)) rfl, if_pos hL, kS_nx, e_nil]
      rfl
    · intro ρ ⟨prev, row, o3, r1, r2, r3, e⟩
      rw [List.length_map, List.drop_length] at r3
      exact ⟨prev, row, o3, r3, e⟩
  refine ⟨prev, row, hr, ?_⟩
  have hrep : bMul (.n .lst [.f (.int 0)]) (.f (.int ss.length)) = some (.n .lst ((List.replicate ss.length (0 : Int)).map fun x => .f (.int x))) := by
    rw [v_rep (ds := [.int 0]) rfl ⟨by unfold LIM; omega, by unfold LIM; omega, by unfold LIM; simp; omega⟩, Int.toNat_natCast, rep_zero]
  have e0 : [Ow.n Kd.lst ((List.replicate ss.length (0 : Int)).map fun x => .f (.int x))] = ([].map (fun r => Ow.f (rowD r)) ++ [.n .lst ((List.replicate ss.length (0 : Int)).map fun x => .f (.int x))]) := rfl
  unfold rowsO at e ⊢
  rw [← e0] at e
  generalize hz : (List.replicate ss.length (0 : Int)).map (fun x => Ow.f (.int x)) = z at e hrep
  unfold loadD at e ⊢
  simp (implicitDefEqProofs := false) (decide := true) (maxDischargeDepth := 9) [e_bnd, e_ret, e_opt, kO_s, kO_n, kO_i, kB_n, kB_o, kB_x, kB_i, e_val, kV_n, kV_o, kV_x, kV_i, e_seq, kS_n, kS_nx, kS_rt, kS_bk, kS_ct, kS_ex, kS_i, e_nil, e_pass, e_brk, e_cnt, e_sret, e_sretN, e_expr, e_if, e_set, e_par, e_par3, kP3_3, e_tgt, kTg_f, kTg_n, e_gN, e_gT, e_gs0, e_gs1, e_aug, kAg_i, e_app, kAp_l, e_item, e_for, e_forN, e_fn, kF_n, kF_nx, kF_rt, kF_ex, kF_i, e_outs0, e_outsT, e_outsF, e_K, e_Vf, e_Mf, e_bin, e_un, e_A0, e_A1, e_lst, e_tup, e_C, e_tV, kT_b, e_tAnd, e_tOr, e_tNot, e_xNot, kNt_b, e_xAnd, kAn_b, e_xOr, kOr_b, e_xIf, e_ch, kCh_i, kCz_i, e_is, e_Q, e_Rg1, e_Rg2, e_Sl, kSl_f, e_oN, e_oS, e_call, kA_rt, kA_ex, kA_n, kA_i, e_R0, e_Rv, e_Ri, e_callK, kCK_f, e_take0, e_takeV, e_takeI, e_put0, e_putV, e_putI, fz_f, fz_l, fzs_0, fzs_1, fzs_map, fzs_mapI, fzs_1l, e_b1, e_b2, e_b2g, e_bs, v_bn, v_add, v_sub, v_mul, v_div, v_mod, v_pow, v_neg, v_catNN, v_catFN, v_catNF, v_catFF, v_rep, v_lt, v_le, v_gt, v_ge, v_is, v_isN, v_isO, v_isNO, v_non, v_nonI, v_nonL, v_nonT, v_nonB, v_eqI, v_neI, v_eqS, v_neS, v_lenL, v_lenT, v_abs, v_max2, v_min2, v_min3, v_intsM, v_ints0, v_ints1, v_blsM, v_blsF, v_intsF, v_maxL, v_minL, v_sum, v_sort, v_all, v_any, v_int, v_intB, v_list, v_listT, v_tuple, v_kIsN, v_kIsI, v_kIsL, v_kIsT, v_kIsB, v_isInt, v_isBool, v_isLst, v_isTup, v_repr, v_at, v_atL, v_atN, v_ixT, v_ixL, v_ixN, e_qK, e_qV, v_gKd, v_gOs, v_gLs, v_gDs, v_gDsT, v_gF, v_gI, v_isNn, e_Vn', e_Mn', v_isNo1, v_isNo2, e_pV, e_qIxF, e_qIxN, e_qI, e_qB, e_get, kIt_l', v_ixLit, v_ix0, v_at0, v_at1, v_ix1, e_apply', e_eB, e_cK, e_cT1, e_cT2, e_cTb, e_wipe0, e_wipe1, e_back0, e_back1, v_bkF, v_bkNo, v_bkN, v_tY, v_Vg, v_atLast, v_ixS, v_setLast, v_fzSnoc, v_fzSnocC, v_LIM, v_fzF, v_fzC, v_fzFF, v_intsC, v_blsC, e_SrtSet, v_ss, e_tup2, kT2_2, v_minPI, v_minPP, v_isB, e_tBor, kTb_o, v_frzS_f, v_frzS_no, v_frzS_n, e_appP, e_clrP, v_appEach0, v_appEach1, v_appEachM, e_forApp0, e_forApp1, e_AS, v_kFl, e_tpo, v_ixTp, fz_tp, f_all_lags_d51f, b_all_lags_d51f, hrep, e]
end Ev
namespace Ev
open PySem L2 OW
open DL (Dt FnG FnAt)
noncomputable section
def l1_off_in_a957 : SF :=
  (sFor (iE (xV 3)) (gT (gs1 (gN 4) (gs1 (gN 5) gs0))) (sSeq (sIf (tNot (tV (xCh (fun i j => decide (i < j)) (fun i j => decide (i < j)) (xUn bNeg (xV 0)) (xV 5) (xV 0)))) (sSeq (sRet (xTup (xA1 (xV 2) (xA1 (xV 4) xA0)))) sNil) sNil) sNil))
def l2_off_in_a957 : SF :=
  (sFor (iE (xV 1)) (gT (gs1 (gN 2) (gs1 (gN 3) gs0))) (sSeq l1_off_in_a957 sNil))
def b_off_in_a957 : SF :=
  (sSeq l2_off_in_a957 (sSeq (sRet (xK .non)) sNil))
def f_off_in_a957 : FO := fnOf 6 [false, false] b_off_in_a957
end
end Ev
namespace Ev
open OW
open DL (Dt)
/-- the first lag of a row that leaves the bounds -/
def offRow (q : Int) : Nat → List Int → Option Nat
  | _, [] => none
  | i, x :: xs => if -q < x ∧ x < q then offRow q (i + 1) xs else some i
theorem offRow_cons {q x : Int} {i : Nat} {xs : List Int} : offRow q i (x :: xs) = if -q < x ∧ x < q then offRow q (i + 1) xs else some i := rfl
def offAll (q : Int) : Nat → List (List Int) → Option (Nat × Nat)
  | _, [] => none
  | t, r :: rs => match offRow q 0 r with
    | some i => some (t, i)
    | none => offAll q (t + 1) rs
def pairO (o : Option (Nat × Nat)) : Dt := match o with
  | some (t, i) => .tup [.int t, .int i]
  | none => .non
theorem off_row_eval {q : Int} {rs : Ow} {t : Nat} {r : List Int} (o4 o5 : Ow) : (∃ ρ, l1_off_in_a957 [.f (.int q), rs, .f (.int t), .f (rowD r), o4, o5] = some (.nx ρ) ∧ (offRow q 0 r = none ∧ ∃ o4 o5, ρ = [.f (.int q), rs, .f (.int t), .f (rowD r), o4, o5])) ∨
    ∃ o ρ, l1_off_in_a957 [.f (.int q), rs, .f (.int t), .f (rowD r), o4, o5] = some (.rt o ρ) ∧ (∃ i, offRow q 0 r = some i ∧ o = .f (.tup [.int t, .int i]) ∧ ∃ o4 o5, ρ = [.f (.int q), rs, .f (.int t), .f (rowD r), o4, o5]) := by
  refine wp_or ?_
  unfold l1_off_in_a957
  rw [e_for, iE_f (o := .f (rowD r)) (ds := r.map .int) (ρ1 := [.f (.int q), rs, .f (.int t), .f (rowD r), o4, o5]) (by simp (implicitDefEqProofs := false) (decide := true) (maxDischargeDepth := 9) [e_bnd, e_ret, e_opt, kO_s, kO_n, kO_i, kB_n, kB_o, kB_x, kB_i, e_val, kV_n, kV_o, kV_x, kV_i, e_seq, kS_n, kS_nx, kS_rt, kS_bk, kS_ct, kS_ex, kS_i, e_nil, e_pass, e_brk, e_cnt, e_sret, e_sretN, e_expr, e_if, e_set, e_par, e_par3, kP3_3, e_tgt, kTg_f, kTg_n, e_gN, e_gT, e_gs0, e_gs1, e_aug, kAg_i, e_app, kAp_l, e_item, e_for, e_forN, e_fn, kF_n, kF_nx, kF_rt, kF_ex, kF_i, e_outs0, e_outsT, e_outsF, e_K, e_Vf, e_Mf, e_bin, e_un, e_A0, e_A1, e_lst, e_tup, e_C, e_tV, kT_b, e_tAnd, e_tOr, e_tNot, e_xNot, kNt_b, e_xAnd, kAn_b, e_xOr, kOr_b, e_xIf, e_ch, kCh_i, kCz_i, e_is, e_Q, e_Rg1, e_Rg2, e_Sl, kSl_f, e_oN, e_oS, e_call, kA_rt, kA_ex, kA_n, kA_i, e_R0, e_Rv, e_Ri, e_callK, kCK_f, e_take0, e_takeV, e_takeI, e_put0, e_putV, e_putI, fz_f, fz_l, fzs_0, fzs_1, fzs_map, fzs_mapI, fzs_1l, e_b1, e_b2, e_b2g, e_bs, v_bn, v_add, v_sub, v_mul, v_div, v_mod, v_pow, v_neg, v_catNN, v_catFN, v_catNF, v_catFF, v_rep, v_lt, v_le, v_gt, v_ge, v_is, v_isN, v_isO, v_isNO, v_non, v_nonI, v_nonL, v_nonT, v_nonB, v_eqI, v_neI, v_eqS, v_neS, v_lenL, v_lenT, v_abs, v_max2, v_min2, v_min3, v_intsM, v_ints0, v_ints1, v_blsM, v_blsF, v_intsF, v_maxL, v_minL, v_sum, v_sort, v_all, v_any, v_int, v_intB, v_list, v_listT, v_tuple, v_kIsN, v_kIsI, v_kIsL, v_kIsT, v_kIsB, v_isInt, v_isBool, v_isLst, v_isTup, v_repr, v_at, v_atL, v_atN, v_ixT, v_ixL, v_ixN, e_qK, e_qV, v_gKd, v_gOs, v_gLs, v_gDs, v_gDsT, v_gF, v_gI, v_isNn, e_Vn', e_Mn', v_isNo1, v_isNo2, e_pV, e_qIxF, e_qIxN, e_qI, e_qB, e_get, kIt_l', v_ixLit, v_ix0, v_at0, v_at1, v_ix1, e_apply', e_eB, e_cK, e_cT1, e_cT2, e_cTb, e_wipe0, e_wipe1, e_back0, e_back1, v_bkF, v_bkNo, v_bkN, v_tY, v_Vg, v_atLast, v_ixS, v_setLast, v_fzSnoc, v_fzSnocC, v_LIM, v_fzF, v_fzC, v_fzFF, v_intsC, v_blsC, e_SrtSet, v_ss, e_tup2, kT2_2, v_minPI, v_minPP, v_isB, e_tBor, kTb_o, v_frzS_f, v_frzS_no, v_frzS_n, e_appP, e_clrP, v_appEach0, v_appEach1, v_appEachM, e_forApp0, e_forApp1, e_AS, v_kFl, e_tpo, v_ixTp, fz_tp, ]) rfl, kV_o]
  refine w_for (fun j ρ => offRow q 0 r = offRow q j (r.drop j) ∧ ∃ o4 o5, ρ = [.f (.int q), rs, .f (.int t), .f (rowD r), o4, o5]) ⟨rfl, _, _, rfl⟩ ?_ fun ρ ⟨z, z2⟩ => ⟨by rw [z, DL.enum_length, List.length_map, List.drop_length]; rfl, z2⟩
  intro j d ρ hd ⟨hb, o4, o5, e⟩
  subst e
  obtain ⟨x, h1, rfl⟩ := DL.enum_get hd
  rw [List.getElem?_map] at h1
  obtain ⟨c, hc, rfl⟩ := Option.map_eq_some_iff.mp h1
  obtain ⟨hj, hjx⟩ := List.getElem?_eq_some_iff.mp hc
  have hdrop : r.drop j = c :: r.drop (j + 1) := by rw [List.drop_eq_getElem_cons hj, hjx]
  rw [hdrop] at hb
  refine ⟨[.f (.int q), rs, .f (.int t), .f (rowD r), .f (.int j), .f (.int c)], by simp (implicitDefEqProofs := false) (decide := true) (maxDischargeDepth := 9) [e_bnd, e_ret, e_opt, kO_s, kO_n, kO_i, kB_n, kB_o, kB_x, kB_i, e_val, kV_n, kV_o, kV_x, kV_i, e_seq, kS_n, kS_nx, kS_rt, kS_bk, kS_ct, kS_ex, kS_i, e_nil, e_pass, e_brk, e_cnt, e_sret, e_sretN, e_expr, e_if, e_set, e_par, e_par3, kP3_3, e_tgt, kTg_f, kTg_n, e_gN, e_gT, e_gs0, e_gs1, e_aug, kAg_i, e_app, kAp_l, e_item, e_for, e_forN, e_fn, kF_n, kF_nx, kF_rt, kF_ex, kF_i, e_outs0, e_outsT, e_outsF, e_K, e_Vf, e_Mf, e_bin, e_un, e_A0, e_A1, e_lst, e_tup, e_C, e_tV, kT_b, e_tAnd, e_tOr, e_tNot, e_xNot, kNt_b, e_xAnd, kAn_b, e_xOr, kOr_b, e_xIf, e_ch, kCh_i, kCz_i, e_is, e_Q, e_Rg1, e_Rg2, e_Sl, kSl_f, e_oN, e_oS, e_call, kA_rt, kA_ex, kA_n, kA_i, e_R0, e_Rv, e_Ri, e_callK, kCK_f, e_take0, e_takeV, e_takeI, e_put0, e_putV, e_putI, fz_f, fz_l, fzs_0, fzs_1, fzs_map, fzs_mapI, fzs_1l, e_b1, e_b2, e_b2g, e_bs, v_bn, v_add, v_sub, v_mul, v_div, v_mod, v_pow, v_neg, v_catNN, v_catFN, v_catNF, v_catFF, v_rep, v_lt, v_le, v_gt, v_ge, v_is, v_isN, v_isO, v_isNO, v_non, v_nonI, v_nonL, v_nonT, v_nonB, v_eqI, v_neI, v_eqS, v_neS, v_lenL, v_lenT, v_abs, v_max2, v_min2, v_min3, v_intsM, v_ints0, v_ints1, v_blsM, v_blsF, v_intsF, v_maxL, v_minL, v_sum, v_sort, v_all, v_any, v_int, v_intB, v_list, v_listT, v_tuple, v_kIsN, v_kIsI, v_kIsL, v_kIsT, v_kIsB, v_isInt, v_isBool, v_isLst, v_isTup, v_repr, v_at, v_atL, v_atN, v_ixT, v_ixL, v_ixN, e_qK, e_qV, v_gKd, v_gOs, v_gLs, v_gDs, v_gDsT, v_gF, v_gI, v_isNn, e_Vn', e_Mn', v_isNo1, v_isNo2, e_pV, e_qIxF, e_qIxN, e_qI, e_qB, e_get, kIt_l', v_ixLit, v_ix0, v_at0, v_at1, v_ix1, e_apply', e_eB, e_cK, e_cT1, e_cT2, e_cTb, e_wipe0, e_wipe1, e_back0, e_back1, v_bkF, v_bkNo, v_bkN, v_tY, v_Vg, v_atLast, v_ixS, v_setLast, v_fzSnoc, v_fzSnocC, v_LIM, v_fzF, v_fzC, v_fzFF, v_intsC, v_blsC, e_SrtSet, v_ss, e_tup2, kT2_2, v_minPI, v_minPP, v_isB, e_tBor, kTb_o, v_frzS_f, v_frzS_no, v_frzS_n, e_appP, e_clrP, v_appEach0, v_appEach1, v_appEachM, e_forApp0, e_forApp1, e_AS, v_kFl, e_tpo, v_ixTp, fz_tp, ], ?_⟩
  by_cases h1 : -q < c
  · by_cases h2 : c < q
    · refine wp_eq (.nx [.f (.int q), rs, .f (.int t), .f (rowD r), .f (.int j), .f (.int c)]) (by simp (implicitDefEqProofs := false) (decide := true) (maxDischargeDepth := 9) [e_bnd, e_ret, e_opt, kO_s, kO_n, kO_i, kB_n, kB_o, kB_x, kB_i, e_val, kV_n, kV_o, kV_x, kV_i, e_seq, kS_n, kS_nx, kS_rt, kS_bk, kS_ct, kS_ex, kS_i, e_nil, e_pass, e_brk, e_cnt, e_sret, e_sretN, e_expr, e_if, e_set, e_par, e_par3, kP3_3, e_tgt, kTg_f, kTg_n, e_gN, e_gT, e_gs0, e_gs1, e_aug, kAg_i, e_app, kAp_l, e_item, e_for, e_forN, e_fn, kF_n, kF_nx, kF_rt, kF_ex, kF_i, e_outs0, e_outsT, e_outsF, e_K, e_Vf, e_Mf, e_bin, e_un, e_A0, e_A1, e_lst, e_tup, e_C, e_tV, kT_b, e_tAnd, e_tOr, e_tNot, e_xNot, kNt_b, e_xAnd, kAn_b, e_xOr, kOr_b, e_xIf, e_ch, kCh_i, kCz_i, e_is, e_Q, e_Rg1, e_Rg2, e_Sl, kSl_f, e_oN, e_oS, e_call, kA_rt, kA_ex, kA_n, kA_i, e_R0, e_Rv, e_Ri, e_callK, kCK_f, e_take0, e_takeV, e_takeI, e_put0, e_putV, e_putI, fz_f, fz_l, fzs_0, fzs_1, fzs_map, fzs_mapI, fzs_1l, e_b1, e_b2, e_b2g, e_bs, v_bn, v_add, v_sub, v_mul, v_div, v_mod, v_pow, v_neg, v_catNN, v_catFN, v_catNF, v_catFF, v_rep, v_lt, v_le, v_gt, v_ge, v_is, v_isN, v_isO, v_isNO, v_non, v_nonI, v_nonL, v_nonT, v_nonB, v_eqI, v_neI, v_eqS, v_neS, v_lenL, v_lenT, v_abs, v_max2, v_min2, v_min3, v_intsM, v_ints0, v_ints1, v_blsM, v_blsF, v_intsF, v_maxL, v_minL, v_sum, v_sort, v_all, v_any, v_int, v_intB, v_list, v_listT, v_tuple, v_kIsN, v_kIsI, v_kIsL, v_kIsT, v_kIsB, v_isInt, v_isBool, v_isLst, v_isTup, v_repr, v_at, v_atL, v_atN, v_ixT, v_ixL, v_ixN, e_qK, e_qV, v_gKd, v_gOs, v_gLs, v_gDs, v_gDsT, v_gF, v_gI, v_isNn, e_Vn', e_Mn', v_isNo1, v_isNo2, e_pV, e_qIxF, e_qIxN, e_qI, e_qB, e_get, kIt_l', v_ixLit, v_ix0, v_at0, v_at1, v_ix1, e_apply', e_eB, e_cK, e_cT1, e_cT2, e_cTb, e_wipe0, e_wipe1, e_back0, e_back1, v_bkF, v_bkNo, v_bkN, v_tY, v_Vg, v_atLast, v_ixS, v_setLast, v_fzSnoc, v_fzSnocC, v_LIM, v_fzF, v_fzC, v_fzFF, v_intsC, v_blsC, e_SrtSet, v_ss, e_tup2, kT2_2, v_minPI, v_minPP, v_isB, e_tBor, kTb_o, v_frzS_f, v_frzS_no, v_frzS_n, e_appP, e_clrP, v_appEach0, v_appEach1, v_appEachM, e_forApp0, e_forApp1, e_AS, v_kFl, e_tpo, v_ixTp, fz_tp, h1, h2]) ⟨by rw [hb, offRow_cons, if_pos ⟨h1, h2⟩], _, _, rfl⟩
    · refine wp_eq (.rt (.f (.tup [.int t, .int j])) [.f (.int q), rs, .f (.int t), .f (rowD r), .f (.int j), .f (.int c)]) (by simp (implicitDefEqProofs := false) (decide := true) (maxDischargeDepth := 9) [e_bnd, e_ret, e_opt, kO_s, kO_n, kO_i, kB_n, kB_o, kB_x, kB_i, e_val, kV_n, kV_o, kV_x, kV_i, e_seq, kS_n, kS_nx, kS_rt, kS_bk, kS_ct, kS_ex, kS_i, e_nil, e_pass, e_brk, e_cnt, e_sret, e_sretN, e_expr, e_if, e_set, e_par, e_par3, kP3_3, e_tgt, kTg_f, kTg_n, e_gN, e_gT, e_gs0, e_gs1, e_aug, kAg_i, e_app, kAp_l, e_item, e_for, e_forN, e_fn, kF_n, kF_nx, kF_rt, kF_ex, kF_i, e_outs0, e_outsT, e_outsF, e_K, e_Vf, e_Mf, e_bin, e_un, e_A0, e_A1, e_lst, e_tup, e_C, e_tV, kT_b, e_tAnd, e_tOr, e_tNot, e_xNot, kNt_b, e_xAnd, kAn_b, e_xOr, kOr_b, e_xIf, e_ch, kCh_i, kCz_i, e_is, e_Q, e_Rg1, e_Rg2, e_Sl, kSl_f, e_oN, e_oS, e_call, kA_rt, kA_ex, kA_n, kA_i, e_R0, e_Rv, e_Ri, e_callK, kCK_f, e_take0, e_takeV, e_takeI, e_put0, e_putV, e_putI, fz_f, fz_l, fzs_0, fzs_1, fzs_map, fzs_mapI, fzs_1l, e_b1, e_b2, e_b2g, e_bs, v_bn, v_add, v_sub, v_mul, v_div, v_mod, v_pow, v_neg, v_catNN, v_catFN, v_catNF, v_catFF, v_rep, v_lt, v_le, v_gt, v_ge, v_is, v_isN, v_isO, v_isNO, v_non, v_nonI, v_nonL, v_nonT, v_nonB, v_eqI, v_neI, v_eqS, v_neS, v_lenL, v_lenT, v_abs, v_max2, v_min2, v_min3, v_intsM, v_ints0, v_ints1, v_blsM, v_blsF, v_intsF, v_maxL, v_minL, v_sum, v_sort, v_all, v_any, v_int, v_intB, v_list, v_listT, v_tuple, v_kIsN, v_kIsI, v_kIsL, v_kIsT, v_kIsB, v_isInt, v_isBool, v_isLst, v_isTup, v_repr, v_at, v_atL, v_atN, v_ixT, v_ixL, v_ixN, e_qK, e_qV, v_gKd, v_gOs, v_gLs, v_gDs, v_gDsT, v_gF, v_gI, v_isNn, e_Vn', e_Mn', v_isNo1, v_isNo2, e_pV, e_qIxF, e_qIxN, e_qI, e_qB, e_get, kIt_l', v_ixLit, v_ix0, v_at0, v_at1, v_ix1, e_apply', e_eB, e_cK, e_cT1, e_cT2, e_cTb, e_wipe0, e_wipe1, e_back0, e_back1, v_bkF, v_bkNo, v_bkN, v_tY, v_Vg, v_atLast, v_ixS, v_setLast, v_fzSnoc, v_fzSnocC, v_LIM, v_fzF, v_fzC, v_fzFF, v_intsC, v_blsC, e_SrtSet, v_ss, e_tup2, kT2_2, v_minPI, v_minPP, v_isB, e_tBor, kTb_o, v_frzS_f, v_frzS_no, v_frzS_n, e_appP, e_clrP, v_appEach0, v_appEach1, v_appEachM, e_forApp0, e_forApp1, e_AS, v_kFl, e_tpo, v_ixTp, fz_tp, h1, h2]) ⟨j, by rw [hb, offRow_cons, if_neg fun z => h2 z.2], rfl, _, _, rfl⟩
  · refine wp_eq (.rt (.f (.tup [.int t, .int j])) [.f (.int q), rs, .f (.int t), .f (rowD r), .f (.int j), .f (.int c)]) (by simp (implicitDefEqProofs := false) (decide := true) (maxDischargeDepth := 9) [e_bnd, e_ret, e_opt, kO_s, kO_n, kO_i, kB_n, kB_o, kB_x, kB_i, e_val, kV_n, kV_o, kV_x, kV_i, e_seq, kS_n, kS_nx, kS_rt, kS_bk, kS_ct, kS_ex, kS_i, e_nil, e_pass, e_brk, e_cnt, e_sret, e_sretN, e_expr, e_if, e_set, e_par, e_par3, kP3_3, e_tgt, kTg_f, kTg_n, e_gN, e_gT, e_gs0, e_gs1, e_aug, kAg_i, e_app, kAp_l, e_item, e_for, e_forN, e_fn, kF_n, kF_nx, kF_rt, kF_ex, kF_i, e_outs0, e_outsT, e_outsF, e_K, e_Vf, e_Mf, e_bin, e_un, e_A0, e_A1, e_lst, e_tup, e_C, e_tV, kT_b, e_tAnd, e_tOr, e_tNot, e_xNot, kNt_b, e_xAnd, kAn_b, e_xOr, kOr_b, e_xIf, e_ch, kCh_i, kCz_i, e_is, e_Q, e_Rg1, e_Rg2, e_Sl, kSl_f, e_oN, e_oS, e_call, kA_rt, kA_ex, kA_n, kA_i, e_R0, e_Rv, e_Ri, e_callK, kCK_f, e_take0, e_takeV, e_takeI, e_put0, e_putV, e_putI, fz_f, fz_l, fzs_0, fzs_1, fzs_map, fzs_mapI, fzs_1l, e_b1, e_b2, e_b2g, e_bs, v_bn, v_add, v_sub, v_mul, v_div, v_mod, v_pow, v_neg, v_catNN, v_catFN, v_catNF, v_catFF, v_rep, v_lt, v_le, v_gt, v_ge, v_is, v_isN, v_isO, v_isNO, v_non, v_nonI, v_nonL, v_nonT, v_nonB, v_eqI, v_neI, v_eqS, v_neS, v_lenL, v_lenT, v_abs, v_max2, v_min2, v_min3, v_intsM, v_ints0, v_ints1, v_blsM, v_blsF, v_intsF, v_maxL, v_minL, v_sum, v_sort, v_all, v_any, v_int, v_intB, v_list, v_listT, v_tuple, v_kIsN, v_kIsI, v_kIsL, v_kIsT, v_kIsB, v_isInt, v_isBool, v_isLst, v_isTup, v_repr, v_at, v_atL, v_atN, v_ixT, v_ixL, v_ixN, e_qK, e_qV, v_gKd, v_gOs, v_gLs, v_gDs, v_gDsT, v_gF, v_gI, v_isNn, e_Vn', e_Mn', v_isNo1, v_isNo2, e_pV, e_qIxF, e_qIxN, e_qI, e_qB, e_get, kIt_l', v_ixLit, v_ix0, v_at0, v_at1, v_ix1, e_apply', e_eB, e_cK, e_cT1, e_cT2, e_cTb, e_wipe0, e_wipe1, e_back0, e_back1, v_bkF, v_bkNo, v_bkN, v_tY, v_Vg, v_atLast, v_ixS, v_setLast, v_fzSnoc, v_fzSnocC, v_LIM, v_fzF, v_fzC, v_fzFF, v_intsC, v_blsC, e_SrtSet, v_ss, e_tup2, kT2_2, v_minPI, v_minPP, v_isB, e_tBor, kTb_o, v_frzS_f, v_frzS_no, v_frzS_n, e_appP, e_clrP, v_appEach0, v_appEach1, v_appEachM, e_forApp0, e_forApp1, e_AS, v_kFl, e_tpo, v_ixTp, fz_tp, h1]) ⟨j, by rw [hb, offRow_cons, if_neg fun z => h1 z.1], rfl, _, _, rfl⟩
end Ev
namespace Ev
open OW
open DL (Dt)
theorem offAll_cons {q : Int} {t : Nat} {r : List Int} {rs : List (List Int)} : offAll q t (r :: rs) = match offRow q 0 r with
    | some i => some (t, i)
    | none => offAll q (t + 1) rs := rfl
theorem off_in_eval {q : Int} {rs : List (List Int)} {o : Ow} (ho : frz o = some (.lst (rs.map rowD))) : f_off_in_a957 [.f (.int q), o] = some (.rt (.f (pairO (offAll q 0 rs))) [.no, .no]) := by
  have key : (∃ ρ, l2_off_in_a957 [.f (.int q), o, .no, .no, .no, .no] = some (.nx ρ) ∧ (offAll q 0 rs = none ∧ ∃ o1 o2 o3 o4 o5, ρ = [.f (.int q), o1, o2, o3, o4, o5])) ∨
      ∃ v ρ, l2_off_in_a957 [.f (.int q), o, .no, .no, .no, .no] = some (.rt v ρ) ∧ (v = .f (pairO (offAll q 0 rs)) ∧ ∃ o1 o2 o3 o4 o5, ρ = [.f (.int q), o1, o2, o3, o4, o5]) := by
    refine wp_or ?_
    unfold l2_off_in_a957
    rw [e_for, iE_f (o := .f (.lst (rs.map rowD))) (ds := rs.map rowD) (ρ1 := [.f (.int q), .f (.lst (rs.map rowD)), .no, .no, .no, .no]) (by simp (implicitDefEqProofs := false) (decide := true) (maxDischargeDepth := 9) [e_bnd, e_ret, e_opt, kO_s, kO_n, kO_i, kB_n, kB_o, kB_x, kB_i, e_val, kV_n, kV_o, kV_x, kV_i, e_seq, kS_n, kS_nx, kS_rt, kS_bk, kS_ct, kS_ex, kS_i, e_nil, e_pass, e_brk, e_cnt, e_sret, e_sretN, e_expr, e_if, e_set, e_par, e_par3, kP3_3, e_tgt, kTg_f, kTg_n, e_gN, e_gT, e_gs0, e_gs1, e_aug, kAg_i, e_app, kAp_l, e_item, e_for, e_forN, e_fn, kF_n, kF_nx, kF_rt, kF_ex, kF_i, e_outs0, e_outsT, e_outsF, e_K, e_Vf, e_Mf, e_bin, e_un, e_A0, e_A1, e_lst, e_tup, e_C, e_tV, kT_b, e_tAnd, e_tOr, e_tNot, e_xNot, kNt_b, e_xAnd, kAn_b, e_xOr, kOr_b, e_xIf, e_ch, kCh_i, kCz_i, e_is, e_Q, e_Rg1, e_Rg2, e_Sl, kSl_f, e_oN, e_oS, e_call, kA_rt, kA_ex, kA_n, kA_i, e_R0, e_Rv, e_Ri, e_callK, kCK_f, e_take0, e_takeV, e_takeI, e_put0, e_putV, e_putI, fz_f, fz_l, fzs_0, fzs_1, fzs_map, fzs_mapI, fzs_1l, e_b1, e_b2, e_b2g, e_bs, v_bn, v_add, v_sub, v_mul, v_div, v_mod, v_pow, v_neg, v_catNN, v_catFN, v_catNF, v_catFF, v_rep, v_lt, v_le, v_gt, v_ge, v_is, v_isN, v_isO, v_isNO, v_non, v_nonI, v_nonL, v_nonT, v_nonB, v_eqI, v_neI, v_eqS, v_neS, v_lenL, v_lenT, v_abs, v_max2, v_min2, v_min3, v_intsM, v_ints0, v_ints1, v_blsM, v_blsF, v_intsF, v_maxL, v_minL, v_sum, v_sort, v_all, v_any, v_int, v_intB, v_list, v_listT, v_tuple, v_kIsN, v_kIsI, v_kIsL, v_kIsT, v_kIsB, v_isInt, v_isBool, v_isLst, v_isTup, v_repr, v_at, v_atL, v_atN, v_ixT, v_ixL, v_ixN, e_qK, e_qV, v_gKd, v_gOs, v_gLs, v_gDs, v_gDsT, v_gF, v_gI, v_isNn, e_Vn', e_Mn', v_isNo1, v_isNo2, e_pV, e_qIxF, e_qIxN, e_qI, e_qB, e_get, kIt_l', v_ixLit, v_ix0, v_at0, v_at1, v_ix1, e_apply', e_eB, e_cK, e_cT1, e_cT2, e_cTb, e_wipe0, e_wipe1, e_back0, e_back1, v_bkF, v_bkNo, v_bkN, v_tY, v_Vg, v_atLast, v_ixS, v_setLast, v_fzSnoc, v_fzSnocC, v_LIM, v_fzF, v_fzC, v_fzFF, v_intsC, v_blsC, e_SrtSet, v_ss, e_tup2, kT2_2, v_minPI, v_minPP, v_isB, e_tBor, kTb_o, v_frzS_f, v_frzS_no, v_frzS_n, e_appP, e_clrP, v_appEach0, v_appEach1, v_appEachM, e_forApp0, e_forApp1, e_AS, v_kFl, e_tpo, v_ixTp, fz_tp, ho]) rfl, kV_o]
    refine w_for (fun j ρ => offAll q 0 rs = offAll q j (rs.drop j) ∧ ∃ o1 o2 o3 o4 o5, ρ = [.f (.int q), o1, o2, o3, o4, o5]) ⟨rfl, _, _, _, _, _, rfl⟩ ?_ fun ρ ⟨z, z2⟩ => ⟨by rw [z, DL.enum_length, List.length_map, List.drop_length]; rfl, z2⟩
    intro j d ρ hd ⟨hb, o1, o2, o3, o4, o5, e⟩
    subst e
    obtain ⟨x, h1, rfl⟩ := DL.enum_get hd
    rw [List.getElem?_map] at h1
    obtain ⟨r, hr, rfl⟩ := Option.map_eq_some_iff.mp h1
    obtain ⟨hj, hjx⟩ := List.getElem?_eq_some_iff.mp hr
    have hdrop : rs.drop j = r :: rs.drop (j + 1) := by rw [List.drop_eq_getElem_cons hj, hjx]
    rw [hdrop, offAll_cons] at hb
    refine ⟨[.f (.int q), o1, .f (.int j), .f (rowD r), o4, o5], by simp (implicitDefEqProofs := false) (decide := true) (maxDischargeDepth := 9) [e_bnd, e_ret, e_opt, kO_s, kO_n, kO_i, kB_n, kB_o, kB_x, kB_i, e_val, kV_n, kV_o, kV_x, kV_i, e_seq, kS_n, kS_nx, kS_rt, kS_bk, kS_ct, kS_ex, kS_i, e_nil, e_pass, e_brk, e_cnt, e_sret, e_sretN, e_expr, e_if, e_set, e_par, e_par3, kP3_3, e_tgt, kTg_f, kTg_n, e_gN, e_gT, e_gs0, e_gs1, e_aug, kAg_i, e_app, kAp_l, e_item, e_for, e_forN, e_fn, kF_n, kF_nx, kF_rt, kF_ex, kF_i, e_outs0, e_outsT, e_outsF, e_K, e_Vf, e_Mf, e_bin, e_un, e_A0, e_A1, e_lst, e_tup, e_C, e_tV, kT_b, e_tAnd, e_tOr, e_tNot, e_xNot, kNt_b, e_xAnd, kAn_b, e_xOr, kOr_b, e_xIf, e_ch, kCh_i, kCz_i, e_is, e_Q, e_Rg1, e_Rg2, e_Sl, kSl_f, e_oN, e_oS, e_call, kA_rt, kA_ex, kA_n, kA_i, e_R0, e_Rv, e_Ri, e_callK, kCK_f, e_take0, e_takeV, e_takeI, e_put0, e_putV, e_putI, fz_f, fz_l, fzs_0, fzs_1, fzs_map, fzs_mapI, fzs_1l, e_b1, e_b2, e_b2g, e_bs, v_bn, v_add, v_sub, v_mul, v_div, v_mod, v_pow, v_neg, v_catNN, v_catFN, v_catNF, v_catFF, v_rep, v_lt, v_le, v_gt, v_ge, v_is, v_isN, v_isO, v_isNO, v_non, v_nonI, v_nonL, v_nonT, v_nonB, v_eqI, v_neI, v_eqS, v_neS, v_lenL, v_lenT, v_abs, v_max2, v_min2, v_min3, v_intsM, v_ints0, v_ints1, v_blsM, v_blsF, v_intsF, v_maxL, v_minL, v_sum, v_sort, v_all, v_any, v_int, v_intB, v_list, v_listT, v_tuple, v_kIsN, v_kIsI, v_kIsL, v_kIsT, v_kIsB, v_isInt, v_isBool, v_isLst, v_isTup, v_repr, v_at, v_atL, v_atN, v_ixT, v_ixL, v_ixN, e_qK, e_qV, v_gKd, v_gOs, v_gLs, v_gDs, v_gDsT, v_gF, v_gI, v_isNn, e_Vn', e_Mn', v_isNo1, v_isNo2, e_pV, e_qIxF, e_qIxN, e_qI, e_qB, e_get, kIt_l', v_ixLit, v_ix0, v_at0, v_at1, v_ix1, e_apply', e_eB, e_cK, e_cT1, e_cT2, e_cTb, e_wipe0, e_wipe1, e_back0, e_back1, v_bkF, v_bkNo, v_bkN, v_tY, v_Vg, v_atLast, v_ixS, v_setLast, v_fzSnoc, v_fzSnocC, v_LIM, v_fzF, v_fzC, v_fzFF, v_intsC, v_blsC, e_SrtSet, v_ss, e_tup2, kT2_2, v_minPI, v_minPP, v_isB, e_tBor, kTb_o, v_frzS_f, v_frzS_no, v_frzS_n, e_appP, e_clrP, v_appEach0, v_appEach1, v_appEachM, e_forApp0, e_forApp1, e_AS, v_kFl, e_tpo, v_ixTp, fz_tp, ], ?_⟩
    rcases off_row_eval (q := q) (rs := o1) (t := j) (r := r) o4 o5 with ⟨ρ, e, hn, p4, p5, rfl⟩ | ⟨v, ρ, e, i, hn, rfl, p4, p5, rfl⟩
    · rw [hn] at hb
      exact wp_eq (.nx [.f (.int q), o1, .f (.int j), .f (rowD r), p4, p5]) (by rw [e_seq, e, kS_nx, e_nil]) ⟨hb, _, _, _, _, _, rfl⟩
    · rw [hn] at hb
      exact wp_eq (.rt (.f (.tup [.int j, .int i])) [.f (.int q), o1, .f (.int j), .f (rowD r), p4, p5]) (by rw [e_seq, e, kS_rt]) ⟨by rw [hb]; rfl, _, _, _, _, _, rfl⟩
  rcases key with ⟨ρ, e, hn, o1, o2, o3, o4, o5, rfl⟩ | ⟨v, ρ, e, rfl, o1, o2, o3, o4, o5, rfl⟩
  · rw [hn]
    simp (implicitDefEqProofs := false) (decide := true) (maxDischargeDepth := 9) [e_bnd, e_ret, e_opt, kO_s, kO_n, kO_i, kB_n, kB_o, kB_x, kB_i, e_val, kV_n, kV_o, kV_x, kV_i, e_seq, kS_n, kS_nx, kS_rt, kS_bk, kS_ct, kS_ex, kS_i, e_nil, e_pass, e_brk, e_cnt, e_sret, e_sretN, e_expr, e_if, e_set, e_par, e_par3, kP3_3, e_tgt, kTg_f, kTg_n, e_gN, e_gT, e_gs0, e_gs1, e_aug, kAg_i, e_app, kAp_l, e_item, e_for, e_forN, e_fn, kF_n, kF_nx, kF_rt, kF_ex, kF_i, e_outs0, e_outsT, e_outsF, e_K, e_Vf, e_Mf, e_bin, e_un, e_A0, e_A1, e_lst, e_tup, e_C, e_tV, kT_b, e_tAnd, e_tOr, e_tNot, e_xNot, kNt_b, e_xAnd, kAn_b, e_xOr, kOr_b, e_xIf, e_ch, kCh_i, kCz_i, e_is, e_Q, e_Rg1, e_Rg2, e_Sl, kSl_f, e_oN, e_oS, e_call, kA_rt, kA_ex, kA_n, kA_i, e_R0, e_Rv, e_Ri, e_callK, kCK_f, e_take0, e_takeV, e_takeI, e_put0, e_putV, e_putI, fz_f, fz_l, fzs_0, fzs_1, fzs_map, fzs_mapI, fzs_1l, e_b1, e_b2, e_b2g, e_bs, v_bn, v_add, v_sub, v_mul, v_div, v_mod, v_pow, v_neg, v_catNN, v_catFN, v_catNF, v_catFF, v_rep, v_lt, v_le, v_gt, v_ge, v_is, v_isN, v_isO, v_isNO, v_non, v_nonI, v_nonL, v_nonT, v_nonB, v_eqI, v_neI, v_eqS, v_neS, v_lenL, v_lenT, v_abs, v_max2, v_min2, v_min3, v_intsM, v_ints0, v_ints1, v_blsM, v_blsF, v_intsF, v_maxL, v_minL, v_sum, v_sort, v_all, v_any, v_int, v_intB, v_list, v_listT, v_tuple, v_kIsN, v_kIsI, v_kIsL, v_kIsT, v_kIsB, v_isInt, v_isBool, v_isLst, v_isTup, v_repr, v_at, v_atL, v_atN, v_ixT, v_ixL, v_ixN, e_qK, e_qV, v_gKd, v_gOs, v_gLs, v_gDs, v_gDsT, v_gF, v_gI, v_isNn, e_Vn', e_Mn', v_isNo1, v_isNo2, e_pV, e_qIxF, e_qIxN, e_qI, e_qB, e_get, kIt_l', v_ixLit, v_ix0, v_at0, v_at1, v_ix1, e_apply', e_eB, e_cK, e_cT1, e_cT2, e_cTb, e_wipe0, e_wipe1, e_back0, e_back1, v_bkF, v_bkNo, v_bkN, v_tY, v_Vg, v_atLast, v_ixS, v_setLast, v_fzSnoc, v_fzSnocC, v_LIM, v_fzF, v_fzC, v_fzFF, v_intsC, v_blsC, e_SrtSet, v_ss, e_tup2, kT2_2, v_minPI, v_minPP, v_isB, e_tBor, kTb_o, v_frzS_f, v_frzS_no, v_frzS_n, e_appP, e_clrP, v_appEach0, v_appEach1, v_appEachM, e_forApp0, e_forApp1, e_AS, v_kFl, e_tpo, v_ixTp, fz_tp, f_off_in_a957, b_off_in_a957, e, pairO]
  · simp (implicitDefEqProofs := false) (decide := true) (maxDischargeDepth := 9) [e_bnd, e_ret, e_opt, kO_s, kO_n, kO_i, kB_n, kB_o, kB_x, kB_i, e_val, kV_n, kV_o, kV_x, kV_i, e_seq, kS_n, kS_nx, kS_rt, kS_bk, kS_ct, kS_ex, kS_i, e_nil, e_pass, e_brk, e_cnt, e_sret, e_sretN, e_expr, e_if, e_set, e_par, e_par3, kP3_3, e_tgt, kTg_f, kTg_n, e_gN, e_gT, e_gs0, e_gs1, e_aug, kAg_i, e_app, kAp_l, e_item, e_for, e_forN, e_fn, kF_n, kF_nx, kF_rt, kF_ex, kF_i, e_outs0, e_outsT, e_outsF, e_K, e_Vf, e_Mf, e_bin, e_un, e_A0, e_A1, e_lst, e_tup, e_C, e_tV, kT_b, e_tAnd, e_tOr, e_tNot, e_xNot, kNt_b, e_xAnd, kAn_b, e_xOr, kOr_b, e_xIf, e_ch, kCh_i, kCz_i, e_is, e_Q, e_Rg1, e_Rg2, e_Sl, kSl_f, e_oN, e_oS, e_call, kA_rt, kA_ex, kA_n, kA_i, e_R0, e_Rv, e_Ri, e_callK, kCK_f, e_take0, e_takeV, e_takeI, e_put0, e_putV, e_putI, fz_f, fz_l, fzs_0, fzs_1, fzs_map, fzs_mapI, fzs_1l, e_b1, e_b2, e_b2g, e_bs, v_bn, v_add, v_sub, v_mul, v_div, v_mod, v_pow, v_neg, v_catNN, v_catFN, v_catNF, v_catFF, v_rep, v_lt, v_le, v_gt, v_ge, v_is, v_isN, v_isO, v_isNO, v_non, v_nonI, v_nonL, v_nonT, v_nonB, v_eqI, v_neI, v_eqS, v_neS, v_lenL, v_lenT, v_abs, v_max2, v_min2, v_min3, v_intsM, v_ints0, v_ints1, v_blsM, v_blsF, v_intsF, v_maxL, v_minL, v_sum, v_sort, v_all, v_any, v_int, v_intB, v_list, v_listT, v_tuple, v_kIsN, v_kIsI, v_kIsL, v_kIsT, v_kIsB, v_isInt, v_isBool, v_isLst, v_isTup, v_repr, v_at, v_atL, v_atN, v_ixT, v_ixL, v_ixN, e_qK, e_qV, v_gKd, v_gOs, v_gLs, v_gDs, v_gDsT, v_gF, v_gI, v_isNn, e_Vn', e_Mn', v_isNo1, v_isNo2, e_pV, e_qIxF, e_qIxN, e_qI, e_qB, e_get, kIt_l', v_ixLit, v_ix0, v_at0, v_at1, v_ix1, e_apply', e_eB, e_cK, e_cT1, e_cT2, e_cTb, e_wipe0, e_wipe1, e_back0, e_back1, v_bkF, v_bkNo, v_bkN, v_tY, v_Vg, v_atLast, v_ixS, v_setLast, v_fzSnoc, v_fzSnocC, v_LIM, v_fzF, v_fzC, v_fzFF, v_intsC, v_blsC, e_SrtSet, v_ss, e_tup2, kT2_2, v_minPI, v_minPP, v_isB, e_tBor, kTb_o, v_frzS_f, v_frzS_no, v_frzS_n, e_appP, e_clrP, v_appEach0, v_appEach1, v_appEachM, e_forApp0, e_forApp1, e_AS, v_kFl, e_tpo, v_ixTp, fz_tp, f_off_in_a957, b_off_in_a957, e]
end Ev
namespace Ev
open PySem L2 OW
open DL (Dt FnG FnAt)
noncomputable section
def b_first_off_a81a : SF :=
  (sSeq (sExpr (xCall 2 f_need_both_fd01 (xRv (xV 0) (xRv (xV 1) xR0)))) (sSeq (sRet (xCall 2 f_off_in_a957 (xRv (xQ (qIx (pV 0) (qK (.int 1)))) (xRv (xCall 2 f_all_lags_d51f (xRv (xV 0) (xRv (xV 1) xR0))) xR0)))) sNil))
def f_first_off_a81a : FO := fnOf 2 [false, false] b_first_off_a81a
end
end Ev
namespace Ev
open PySem L2 OW
open DL (Dt FnG FnAt)
noncomputable section
def b_is_even_375a : SF :=
  (sSeq (sExpr (xCall 2 f_need_both_fd01 (xRv (xV 0) (xRv (xV 1) xR0)))) (sSeq (sRet (xBin cIs (xCall 2 f_off_in_a957 (xRv (xQ (qIx (pV 0) (qK (.int 1)))) (xRv (xCall 2 f_all_lags_d51f (xRv (xV 0) (xRv (xV 1) xR0))) xR0))) (xK .non))) sNil))
def f_is_even_375a : FO := fnOf 2 [false, false] b_is_even_375a
end
end Ev
namespace Ev
open OW
open DL (Dt)
theorem rowsO_frz {prev : List (List Int)} {row : List Int} : frz (rowsO prev row) = some (.lst ((prev ++ [row]).map rowD)) := by
  unfold rowsO
  have main : ∀ l : List (List Int), frzs (l.map (fun r => Ow.f (rowD r)) ++ [.n .lst (row.map fun x => .f (.int x))]) = some ((l ++ [row]).map rowD) := by
    intro l
    induction l with
    | nil => exact fzs_1l fzs_mapI rfl
    | cons r l ih => rw [List.map_cons, List.cons_append, fzs_1, ih]; rfl
  rw [fz_l, main]
  rfl
/-- the first lag out of bounds of a plan -/
def offPlan (q : Int) (ss : List Int) (ls : List (List Int)) : Option (Nat × Nat) := offAll q 0 (rowsFrom q ss (List.replicate ss.length 0) ls)
theorem first_off_eval {p q : Int} {ss : List Int} {ls : List (List Int)} (h : LoadOk p q ss) (hp : PlanOk p ss.length ls) : f_first_off_a81a [.f (loadD p q ss), .f (planD ls)] = some (.rt (.f (pairO (offPlan q ss ls))) [.no, .no]) := by
  have e1 := need_both_eval h hp
  obtain ⟨prev, row, hr, e2⟩ := all_lags_eval h hp
  have e3 := off_in_eval (q := q) (o := rowsO prev row) (rs := prev ++ [row]) rowsO_frz
  unfold offPlan
  rw [hr]
  unfold loadD at *
  simp (implicitDefEqProofs := false) (decide := true) (maxDischargeDepth := 9) [e_bnd, e_ret, e_opt, kO_s, kO_n, kO_i, kB_n, kB_o, kB_x, kB_i, e_val, kV_n, kV_o, kV_x, kV_i, e_seq, kS_n, kS_nx, kS_rt, kS_bk, kS_ct, kS_ex, kS_i, e_nil, e_pass, e_brk, e_cnt, e_sret, e_sretN, e_expr, e_if, e_set, e_par, e_par3, kP3_3, e_tgt, kTg_f, kTg_n, e_gN, e_gT, e_gs0, e_gs1, e_aug, kAg_i, e_app, kAp_l, e_item, e_for, e_forN, e_fn, kF_n, kF_nx, kF_rt, kF_ex, kF_i, e_outs0, e_outsT, e_outsF, e_K, e_Vf, e_Mf, e_bin, e_un, e_A0, e_A1, e_lst, e_tup, e_C, e_tV, kT_b, e_tAnd, e_tOr, e_tNot, e_xNot, kNt_b, e_xAnd, kAn_b, e_xOr, kOr_b, e_xIf, e_ch, kCh_i, kCz_i, e_is, e_Q, e_Rg1, e_Rg2, e_Sl, kSl_f, e_oN, e_oS, e_call, kA_rt, kA_ex, kA_n, kA_i, e_R0, e_Rv, e_Ri, e_callK, kCK_f, e_take0, e_takeV, e_takeI, e_put0, e_putV, e_putI, fz_f, fz_l, fzs_0, fzs_1, fzs_map, fzs_mapI, fzs_1l, e_b1, e_b2, e_b2g, e_bs, v_bn, v_add, v_sub, v_mul, v_div, v_mod, v_pow, v_neg, v_catNN, v_catFN, v_catNF, v_catFF, v_rep, v_lt, v_le, v_gt, v_ge, v_is, v_isN, v_isO, v_isNO, v_non, v_nonI, v_nonL, v_nonT, v_nonB, v_eqI, v_neI, v_eqS, v_neS, v_lenL, v_lenT, v_abs, v_max2, v_min2, v_min3, v_intsM, v_ints0, v_ints1, v_blsM, v_blsF, v_intsF, v_maxL, v_minL, v_sum, v_sort, v_all, v_any, v_int, v_intB, v_list, v_listT, v_tuple, v_kIsN, v_kIsI, v_kIsL, v_kIsT, v_kIsB, v_isInt, v_isBool, v_isLst, v_isTup, v_repr, v_at, v_atL, v_atN, v_ixT, v_ixL, v_ixN, e_qK, e_qV, v_gKd, v_gOs, v_gLs, v_gDs, v_gDsT, v_gF, v_gI, v_isNn, e_Vn', e_Mn', v_isNo1, v_isNo2, e_pV, e_qIxF, e_qIxN, e_qI, e_qB, e_get, kIt_l', v_ixLit, v_ix0, v_at0, v_at1, v_ix1, e_apply', e_eB, e_cK, e_cT1, e_cT2, e_cTb, e_wipe0, e_wipe1, e_back0, e_back1, v_bkF, v_bkNo, v_bkN, v_tY, v_Vg, v_atLast, v_ixS, v_setLast, v_fzSnoc, v_fzSnocC, v_LIM, v_fzF, v_fzC, v_fzFF, v_intsC, v_blsC, e_SrtSet, v_ss, e_tup2, kT2_2, v_minPI, v_minPP, v_isB, e_tBor, kTb_o, v_frzS_f, v_frzS_no, v_frzS_n, e_appP, e_clrP, v_appEach0, v_appEach1, v_appEachM, e_forApp0, e_forApp1, e_AS, v_kFl, e_tpo, v_ixTp, fz_tp, f_first_off_a81a, b_first_off_a81a, e1, e2, e3]
theorem is_even_eval {p q : Int} {ss : List Int} {ls : List (List Int)} (h : LoadOk p q ss) (hp : PlanOk p ss.length ls) : f_is_even_375a [.f (loadD p q ss), .f (planD ls)] = some (.rt (.f (.bl (pairO (offPlan q ss ls)).isNon)) [.no, .no]) := by
  have e1 := need_both_eval h hp
  obtain ⟨prev, row, hr, e2⟩ := all_lags_eval h hp
  have e3 := off_in_eval (q := q) (o := rowsO prev row) (rs := prev ++ [row]) rowsO_frz
  unfold offPlan
  rw [hr]
  unfold loadD at *
  simp (implicitDefEqProofs := false) (decide := true) (maxDischargeDepth := 9) [e_bnd, e_ret, e_opt, kO_s, kO_n, kO_i, kB_n, kB_o, kB_x, kB_i, e_val, kV_n, kV_o, kV_x, kV_i, e_seq, kS_n, kS_nx, kS_rt, kS_bk, kS_ct, kS_ex, kS_i, e_nil, e_pass, e_brk, e_cnt, e_sret, e_sretN, e_expr, e_if, e_set, e_par, e_par3, kP3_3, e_tgt, kTg_f, kTg_n, e_gN, e_gT, e_gs0, e_gs1, e_aug, kAg_i, e_app, kAp_l, e_item, e_for, e_forN, e_fn, kF_n, kF_nx, kF_rt, kF_ex, kF_i, e_outs0, e_outsT, e_outsF, e_K, e_Vf, e_Mf, e_bin, e_un, e_A0, e_A1, e_lst, e_tup, e_C, e_tV, kT_b, e_tAnd, e_tOr, e_tNot, e_xNot, kNt_b, e_xAnd, kAn_b, e_xOr, kOr_b, e_xIf, e_ch, kCh_i, kCz_i, e_is, e_Q, e_Rg1, e_Rg2, e_Sl, kSl_f, e_oN, e_oS, e_call, kA_rt, kA_ex, kA_n, kA_i, e_R0, e_Rv, e_Ri, e_callK, kCK_f, e_take0, e_takeV, e_takeI, e_put0, e_putV, e_putI, fz_f, fz_l, fzs_0, fzs_1, fzs_map, fzs_mapI, fzs_1l, e_b1, e_b2, e_b2g, e_bs, v_bn, v_add, v_sub, v_mul, v_div, v_mod, v_pow, v_neg, v_catNN, v_catFN, v_catNF, v_catFF, v_rep, v_lt, v_le, v_gt, v_ge, v_is, v_isN, v_isO, v_isNO, v_non, v_nonI, v_nonL, v_nonT, v_nonB, v_eqI, v_neI, v_eqS, v_neS, v_lenL, v_lenT, v_abs, v_max2, v_min2, v_min3, v_intsM, v_ints0, v_ints1, v_blsM, v_blsF, v_intsF, v_maxL, v_minL, v_sum, v_sort, v_all, v_any, v_int, v_intB, v_list, v_listT, v_tuple, v_kIsN, v_kIsI, v_kIsL, v_kIsT, v_kIsB, v_isInt, v_isBool, v_isLst, v_isTup, v_repr, v_at, v_atL, v_atN, v_ixT, v_ixL, v_ixN, e_qK, e_qV, v_gKd, v_gOs, v_gLs, v_gDs, v_gDsT, v_gF, v_gI, v_isNn, e_Vn', e_Mn', v_isNo1, v_isNo2, e_pV, e_qIxF, e_qIxN, e_qI, e_qB, e_get, kIt_l', v_ixLit, v_ix0, v_at0, v_at1, v_ix1, e_apply', e_eB, e_cK, e_cT1, e_cT2, e_cTb, e_wipe0, e_wipe1, e_back0, e_back1, v_bkF, v_bkNo, v_bkN, v_tY, v_Vg, v_atLast, v_ixS, v_setLast, v_fzSnoc, v_fzSnocC, v_LIM, v_fzF, v_fzC, v_fzFF, v_intsC, v_blsC, e_SrtSet, v_ss, e_tup2, kT2_2, v_minPI, v_minPP, v_isB, e_tBor, kTb_o, v_frzS_f, v_frzS_no, v_frzS_n, e_appP, e_clrP, v_appEach0, v_appEach1, v_appEachM, e_forApp0, e_forApp1, e_AS, v_kFl, e_tpo, v_ixTp, fz_tp, f_is_even_375a, b_is_even_375a, e1, e2, e3]
end Ev
namespace Ev
open OW
open DL (Dt)
theorem enum_at0 {l : List Int} {j : Nat} {d : Dt} (h : (DL.enum (l.map Dt.int))[j]? = some d) : ∃ c, l[j]? = some c ∧ d = .tup [.int j, .int c] := by
  obtain ⟨x, h1, h2⟩ := DL.enum_get h
  rw [List.getElem?_map] at h1
  cases e : l[j]? with
  | none => rw [e] at h1; cases h1
  | some c => rw [e] at h1; cases h1; exact ⟨c, rfl, h2⟩
/-- the cells that laws walk -/
def cells (ns : List Int) (m : Int) : List Dt := DL.cutD (ns.map .int ++ [.int 0]) none (some (max 1 (min (ns.length : Int) m)))
theorem cells_it {ns : List Int} {ρ : Ev} {m : Int} (h : ρ[0]? = some (.f (.lst (ns.map .int)))) (hl : ns.length ≤ 63) :
    iE (xSl (xBin bAdd (xV 0) (xLst (xA1 (xK (.int 0)) xA0))) oN (oS (xC (oBs kMax) (xA1 (xK (.int 1)) (xA1 (xC (oBs kMin) (xA1 (xC (oBs kLen) (xA1 (xV 0) xA0)) (xA1 (xK (.int m)) xA0))) xA0))))) ρ = some (.ok (DL.enum (cells ns m)) ρ) := by
  have hs : frzs ((ns.map .int).map Ow.f ++ [Ow.f (.int 0)]) = some (ns.map .int ++ [.int 0]) := by
    have := fzs_map (ds := ns.map Dt.int ++ [.int 0])
    rw [List.map_append] at this
    exact this
  have h1 : bAdd (.f (.lst (ns.map .int))) (.n .lst [.f (.int 0)]) = some (.n .lst ((ns.map .int).map Ow.f ++ [Ow.f (.int 0)])) := v_catFN (by rw [List.length_map]; unfold LIM; simp; omega)
  have hx : (xBin bAdd (xV 0) (xLst (xA1 (xK (.int 0)) xA0))) ρ = some (.ok (.n .lst ((ns.map .int).map Ow.f ++ [Ow.f (.int 0)])) ρ) := by
    simp (implicitDefEqProofs := false) (decide := true) (maxDischargeDepth := 9) [e_bnd, e_ret, e_opt, kO_s, kO_n, kO_i, kB_n, kB_o, kB_x, kB_i, e_val, kV_n, kV_o, kV_x, kV_i, e_seq, kS_n, kS_nx, kS_rt, kS_bk, kS_ct, kS_ex, kS_i, e_nil, e_pass, e_brk, e_cnt, e_sret, e_sretN, e_expr, e_if, e_set, e_par, e_par3, kP3_3, e_tgt, kTg_f, kTg_n, e_gN, e_gT, e_gs0, e_gs1, e_aug, kAg_i, e_app, kAp_l, e_item, e_for, e_forN, e_fn, kF_n, kF_nx, kF_rt, kF_ex, kF_i, e_outs0, e_outsT, e_outsF, e_K, e_Vf, e_Mf, e_bin, e_un, e_A0, e_A1, e_lst, e_tup, e_C, e_tV, kT_b, e_tAnd, e_tOr, e_tNot, e_xNot, kNt_b, e_xAnd, kAn_b, e_xOr, kOr_b, e_xIf, e_ch, kCh_i, kCz_i, e_is, e_Q, e_Rg1, e_Rg2, e_Sl, kSl_f, e_oN, e_oS, e_call, kA_rt, kA_ex, kA_n, kA_i, e_R0, e_Rv, e_Ri, e_callK, kCK_f, e_take0, e_takeV, e_takeI, e_put0, e_putV, e_putI, fz_f, fz_l, fzs_0, fzs_1, fzs_map, fzs_mapI, fzs_1l, e_b1, e_b2, e_b2g, e_bs, v_bn, v_add, v_sub, v_mul, v_div, v_mod, v_pow, v_neg, v_catNN, v_catFN, v_catNF, v_catFF, v_rep, v_lt, v_le, v_gt, v_ge, v_is, v_isN, v_isO, v_isNO, v_non, v_nonI, v_nonL, v_nonT, v_nonB, v_eqI, v_neI, v_eqS, v_neS, v_lenL, v_lenT, v_abs, v_max2, v_min2, v_min3, v_intsM, v_ints0, v_ints1, v_blsM, v_blsF, v_intsF, v_maxL, v_minL, v_sum, v_sort, v_all, v_any, v_int, v_intB, v_list, v_listT, v_tuple, v_kIsN, v_kIsI, v_kIsL, v_kIsT, v_kIsB, v_isInt, v_isBool, v_isLst, v_isTup, v_repr, v_at, v_atL, v_atN, v_ixT, v_ixL, v_ixN, e_qK, e_qV, v_gKd, v_gOs, v_gLs, v_gDs, v_gDsT, v_gF, v_gI, v_isNn, e_Vn', e_Mn', v_isNo1, v_isNo2, e_pV, e_qIxF, e_qIxN, e_qI, e_qB, e_get, kIt_l', v_ixLit, v_ix0, v_at0, v_at1, v_ix1, e_apply', e_eB, e_cK, e_cT1, e_cT2, e_cTb, e_wipe0, e_wipe1, e_back0, e_back1, v_bkF, v_bkNo, v_bkN, v_tY, v_Vg, v_atLast, v_ixS, v_setLast, v_fzSnoc, v_fzSnocC, v_LIM, v_fzF, v_fzC, v_fzFF, v_intsC, v_blsC, e_SrtSet, v_ss, e_tup2, kT2_2, v_minPI, v_minPP, v_isB, e_tBor, kTb_o, v_frzS_f, v_frzS_no, v_frzS_n, e_appP, e_clrP, v_appEach0, v_appEach1, v_appEachM, e_forApp0, e_forApp1, e_AS, v_kFl, e_tpo, v_ixTp, fz_tp, h, h1, -List.map_map]
  refine iE_f (o := .n .lst ((cells ns m).map .f)) ?_ (by rw [fz_l, fzs_map]; rfl)
  rw [e_Sl, hx, kB_o, kSl_n (x := .lst (ns.map .int ++ [.int 0])) (by rw [fz_l, hs]; rfl)]
  have hk : kMax [.int 1, .int (min (ns.length : Int) m)] = some (.f (.int (max 1 (min (ns.length : Int) m)))) := rfl
  simp (implicitDefEqProofs := false) (decide := true) (maxDischargeDepth := 9) [e_bnd, e_ret, e_opt, kO_s, kO_n, kO_i, kB_n, kB_o, kB_x, kB_i, e_val, kV_n, kV_o, kV_x, kV_i, e_seq, kS_n, kS_nx, kS_rt, kS_bk, kS_ct, kS_ex, kS_i, e_nil, e_pass, e_brk, e_cnt, e_sret, e_sretN, e_expr, e_if, e_set, e_par, e_par3, kP3_3, e_tgt, kTg_f, kTg_n, e_gN, e_gT, e_gs0, e_gs1, e_aug, kAg_i, e_app, kAp_l, e_item, e_for, e_forN, e_fn, kF_n, kF_nx, kF_rt, kF_ex, kF_i, e_outs0, e_outsT, e_outsF, e_K, e_Vf, e_Mf, e_bin, e_un, e_A0, e_A1, e_lst, e_tup, e_C, e_tV, kT_b, e_tAnd, e_tOr, e_tNot, e_xNot, kNt_b, e_xAnd, kAn_b, e_xOr, kOr_b, e_xIf, e_ch, kCh_i, kCz_i, e_is, e_Q, e_Rg1, e_Rg2, e_Sl, kSl_f, e_oN, e_oS, e_call, kA_rt, kA_ex, kA_n, kA_i, e_R0, e_Rv, e_Ri, e_callK, kCK_f, e_take0, e_takeV, e_takeI, e_put0, e_putV, e_putI, fz_f, fz_l, fzs_0, fzs_1, fzs_map, fzs_mapI, fzs_1l, e_b1, e_b2, e_b2g, e_bs, v_bn, v_add, v_sub, v_mul, v_div, v_mod, v_pow, v_neg, v_catNN, v_catFN, v_catNF, v_catFF, v_rep, v_lt, v_le, v_gt, v_ge, v_is, v_isN, v_isO, v_isNO, v_non, v_nonI, v_nonL, v_nonT, v_nonB, v_eqI, v_neI, v_eqS, v_neS, v_lenL, v_lenT, v_abs, v_max2, v_min2, v_min3, v_intsM, v_ints0, v_ints1, v_blsM, v_blsF, v_intsF, v_maxL, v_minL, v_sum, v_sort, v_all, v_any, v_int, v_intB, v_list, v_listT, v_tuple, v_kIsN, v_kIsI, v_kIsL, v_kIsT, v_kIsB, v_isInt, v_isBool, v_isLst, v_isTup, v_repr, v_at, v_atL, v_atN, v_ixT, v_ixL, v_ixN, e_qK, e_qV, v_gKd, v_gOs, v_gLs, v_gDs, v_gDsT, v_gF, v_gI, v_isNn, e_Vn', e_Mn', v_isNo1, v_isNo2, e_pV, e_qIxF, e_qIxN, e_qI, e_qB, e_get, kIt_l', v_ixLit, v_ix0, v_at0, v_at1, v_ix1, e_apply', e_eB, e_cK, e_cT1, e_cT2, e_cTb, e_wipe0, e_wipe1, e_back0, e_back1, v_bkF, v_bkNo, v_bkN, v_tY, v_Vg, v_atLast, v_ixS, v_setLast, v_fzSnoc, v_fzSnocC, v_LIM, v_fzF, v_fzC, v_fzFF, v_intsC, v_blsC, e_SrtSet, v_ss, e_tup2, kT2_2, v_minPI, v_minPP, v_isB, e_tBor, kTb_o, v_frzS_f, v_frzS_no, v_frzS_n, e_appP, e_clrP, v_appEach0, v_appEach1, v_appEachM, e_forApp0, e_forApp1, e_AS, v_kFl, e_tpo, v_ixTp, fz_tp, h, partI, bSl, cells]
theorem cells_at {ns : List Int} {j : Nat} {d : Dt} {m : Int} (h : (DL.enum (cells ns m))[j]? = some d) : j ≤ ns.length ∧ ∃ c : Int, d = .tup [.int j, .int c] := by
  obtain ⟨x, h1, h2⟩ := DL.enum_get h
  obtain ⟨a, c, rfl⟩ := cut_int h1
  exact ⟨by omega, c, h2⟩
theorem ok_ints {ns : List Int} : eqOk (.lst (ns.map .int)) = true := by
  have p : DL.Dt.plainAll (ns.map .int) = true := by
    induction ns with
    | nil => rfl
    | cons n ns ih => show (true && _) = true; rw [ih]; rfl
  have q : PySem.PyData.canLayAll0 (DL.Dt.pyAll (ns.map .int)) = true := by
    induction ns with
    | nil => simp [DL.Dt.pyAll, PySem.PyData.canLayAll0]
    | cons n ns ih => simp [DL.Dt.pyAll, DL.Dt.py, PySem.PyData.canLayAll0, PySem.PyData.canLay0, ih p]
  have r : DL.Dt.dep (.lst (ns.map .int)) = 1 := by
    show DL.Dt.depA _ + 1 = 1
    rw [DL.dep_ints]
  unfold eqOk PySem.SeqAt.shaped
  rw [DL.dep_py, r]
  have e : (Dt.lst (ns.map .int)).py.canLay0 = true := by
    rw [DL.Dt.py, PySem.PyData.canLay0]
    exact q
  rw [e]
  show (DL.Dt.plainAll _ && _) = true
  rw [p]
  rfl
theorem deq_nil {ns : List Int} : deq (.lst (ns.map .int)) (.lst []) = decide (ns = []) := by
  unfold deq
  cases ns with
  | nil => simp [DL.Dt.py, DL.Dt.pyAll, PySem.PyData.eqv, PySem.PyData.eqvAll]
  | cons n ns => simp [DL.Dt.py, DL.Dt.pyAll, PySem.PyData.eqv, PySem.PyData.eqvAll]
theorem ne_nil {ns : List Int} : cNe (.f (.lst (ns.map .int))) (.n .lst []) = some (.f (.bl (!decide (ns = [])))) := by
  have e2 : frz (.n .lst []) = some (.lst []) := rfl
  unfold cNe
  rw [e_b2g fz_f e2]
  show (if eqOk (.lst (ns.map .int)) = true ∧ eqOk (.lst []) = true then some (Ow.f (.bl (!deq (.lst (ns.map .int)) (.lst [])))) else none) = _
  rw [if_pos ⟨ok_ints, ok_ints (ns := [])⟩, deq_nil]
theorem eq_nil {ns : List Int} : cEq (.f (.lst (ns.map .int))) (.n .lst []) = some (.f (.bl (decide (ns = [])))) := by
  have e2 : frz (.n .lst []) = some (.lst []) := rfl
  unfold cEq
  rw [e_b2g fz_f e2]
  show (if eqOk (.lst (ns.map .int)) = true ∧ eqOk (.lst []) = true then some (Ow.f (.bl (deq (.lst (ns.map .int)) (.lst [])))) else none) = _
  rw [if_pos ⟨ok_ints, ok_ints (ns := [])⟩, deq_nil]
theorem single_ok {s : Src} {far : Int} {n : Nat} (k : s.Ok n) (h1 : 1 ≤ far) (h2 : far ≤ MP) : LoadOk 1 (singleQ s far) (single s far).1 ∧ (single s far).2.Ok (n + 16) ∧ 1 ≤ singleQ s far ∧ singleQ s far ≤ far := by
  have d1 := draw_lo s (show 0 < far by omega)
  have d2 := draw_hi s (show 0 < far by omega)
  obtain ⟨a, b, c⟩ := loadOf_spec (draw_ok k (show 0 < far by omega)) (units := 1) (span := singleQ s far) (most := 6) (by decide) (by decide) (by unfold singleQ; omega) (by unfold singleQ; omega) (by decide) (by decide)
  exact ⟨a, b.up (by omega), by unfold singleQ; omega, by unfold singleQ; omega⟩
end Ev
namespace Ev
open PySem L2 OW
open DL (Dt FnG FnAt)
noncomputable section
def x1__law_offs_b69e : Fn Ow :=
  (xComp [7, 8] (iE (xV 3)) (gT (gs1 (gN 7) (gs1 (gN 8) gs0))) tY (xBin bSub (xBin bAdd (xQ (qIx (pV 5) (qV 7))) (xV 8)) (xBin bMul (xV 2) (xC (oBs kInt) (xA1 (xBin cIn (xV 7) (xV 6)) xA0)))))
def l1__law_offs_b69e : SF :=
  (sFor (iL (xV 1)) (gN 6) (sSeq (sSet 5 x1__law_offs_b69e) (sSeq (sApp 4 (xV 5)) sNil)))
def b__law_offs_b69e : SF :=
  (sSeq (sTup2 2 3 (xQ (qIx (pV 0) (qK (.int 1)))) (xQ (qIx (pV 0) (qK (.int 2))))) (sSeq (sTup2 4 5 (xLst (xA1 (xBin bMul (xLst (xA1 (xK (.int 0)) xA0)) (xC (oBs kLen) (xA1 (xV 3) xA0))) xA0)) (xBin bMul (xLst (xA1 (xK (.int 0)) xA0)) (xC (oBs kLen) (xA1 (xV 3) xA0)))) (sSeq l1__law_offs_b69e (sSeq (sRet (xM 4)) sNil))))
def f__law_offs_b69e : FO := fnOf 9 [false, false] b__law_offs_b69e
end
end Ev
namespace Ev
open OW
open DL (Dt)
theorem deqI {a b : Int} : deq (.int a) (.int b) = decide (a = b) := by
  unfold deq
  simp only [DL.Dt.py, PySem.PyData.eqv]
  rfl
theorem dIn_ints {x : Int} {l : List Int} : dIn (.int x) (l.map .int) = decide (x ∈ l) := by
  unfold dIn
  induction l with
  | nil => simp
  | cons a l ih =>
    rw [List.map_cons, List.any_cons, ih, deqI]
    by_cases h : a = x
    · subst h; simp
    · by_cases h2 : x ∈ l
      · simp [h2]
      · have h' : ¬ x = a := fun z => h z.symm
        simp [h, h2, h']
theorem v_inI {x : Int} {l : List Int} : cIn (.f (.int x)) (.f (.lst (l.map .int))) = some (.f (.bl (decide (x ∈ l)))) := by
  unfold cIn cIn'
  rw [e_b2]
  simp only [ok_int, ok_ints, and_self, if_true, dIn_ints]
  rfl
theorem v_niI {x : Int} {l : List Int} : cNi (.f (.int x)) (.f (.lst (l.map .int))) = some (.f (.bl (!decide (x ∈ l)))) := by
  unfold cNi cIn'
  rw [e_b2]
  simp only [ok_int, ok_ints, and_self, if_true, dIn_ints]
/-- a row, told or one's own -/
def IsRow (o : Ow) (r : List Int) : Prop := o = .f (rowD r) ∨ o = .n .lst (r.map fun x => .f (.int x))
theorem getE_some {r : List Int} {k : Nat} (h : k < r.length) : r[k]? = some (r.getD k 0) := by
  rw [List.getD_eq_getElem?_getD, List.getElem?_eq_getElem h]
  rfl
theorem e_ixRow {ρ : Ev} {n : Nat} {q : Ev → Option Dt} {o : Ow} {r : List Int} {k : Nat} (h1 : ρ[n]? = some o) (h : IsRow o r) (hq : q ρ = some (.int k)) (hk : k < r.length) : qIx (pV n) q ρ = some (.int (r.getD k 0)) := by
  have g := getE_some hk
  rcases h with rfl | rfl
  · rw [e_qIxF (r := (n, [])) (e := .int k) (k := (k : Int)) (x := .f (rowD r)) (d := rowD r) (ds := r.map .int) (e_pV h1 rfl) rfl hq rfl h1 rfl rfl, v_at, List.getElem?_map, g]
    rfl
  · refine e_qIxN (r := (n, [])) (e := .int k) (k := (k : Int)) (x := .n .lst (r.map fun x => .f (.int x))) (os := r.map fun x => .f (.int x)) (y := .f (.int (r.getD k 0))) (e_pV h1 rfl) rfl hq rfl h1 rfl ?_ rfl
    rw [v_at, List.getElem?_map, g]
    rfl
theorem IsRow.fz {o : Ow} {r : List Int} (h : IsRow o r) : frz o = some (rowD r) := by
  rcases h with rfl | rfl
  · rfl
  · rw [fz_l, fzs_mapI]; rfl
theorem IsRow.no {o : Ow} {r : List Int} (h : IsRow o r) : o ≠ .no := by
  rcases h with rfl | rfl <;> exact fun z => by cases z
def b2 (p : Prop) [Decidable p] : Int := if p then 1 else 0
/-- a row behind a tick, as laws tell it -/
def stepB (q : Int) (ss row line : List Int) : List Int := ss.zipIdx.map fun x => row.getD x.2 0 + x.1 - q * b2 ((x.2 : Int) ∈ line)
theorem stepB_len {q : Int} {ss row line : List Int} : (stepB q ss row line).length = ss.length := by
  unfold stepB
  rw [List.length_map, List.length_zipIdx]
theorem stepB_get {q : Int} {ss row line : List Int} {k : Nat} {s : Int} (h : ss[k]? = some s) : (stepB q ss row line)[k]? = some (row.getD k 0 + s - q * b2 ((k : Int) ∈ line)) := by
  unfold stepB
  rw [List.getElem?_map, List.getElem?_zipIdx, h]
  simp
theorem zipIdx_at {l : List Int} {x : Int × Nat} (h : x ∈ l.zipIdx) : l[x.2]? = some x.1 ∧ x.2 < l.length := by
  have h' := List.mem_zipIdx_iff_getElem?.mp h
  exact ⟨h', (List.getElem?_eq_some_iff.mp h').1⟩
theorem getD_len {l : List Int} {k : Nat} (h : l.length ≤ k) : l.getD k 0 = 0 := by
  rw [List.getD_eq_getElem?_getD, List.getElem?_eq_none h]
  rfl
/-- both ways to step are one where a tick ascends -/
theorem fold_sub {q : Int} : ∀ {run l : List Int} {k : Nat}, (∀ x ∈ run, 0 ≤ x) → run.Pairwise (· < ·) → k < l.length → (run.foldl (subAt q) l).getD k 0 = l.getD k 0 - q * b2 ((k : Int) ∈ run)
  | [], l, k, _, _, _ => by simp [b2]
  | a :: run, l, k, h0, hp, hk => by
    obtain ⟨h1, h2⟩ := List.pairwise_cons.mp hp
    have a0 := h0 a List.mem_cons_self
    rw [List.foldl_cons, fold_sub (fun x hx => h0 x (List.mem_cons_of_mem _ hx)) h2 (by rw [subAt_len]; exact hk)]
    unfold subAt
    by_cases e : a = (k : Int)
    · subst e
      have n : (k : Int) ∉ run := fun z => by have := h1 _ z; omega
      have m : (k : Int) ∈ (k : Int) :: run := List.mem_cons_self
      rw [Int.toNat_natCast]
      simp only [b2, if_neg n, if_pos m]
      rw [List.getD_eq_getElem?_getD, List.getElem?_set_self hk]
      simp
    · have ne : a.toNat ≠ k := by omega
      have e1 : (l.set a.toNat (l.getD a.toNat 0 - q)).getD k 0 = l.getD k 0 := by
        rw [List.getD_eq_getElem?_getD, List.getElem?_set_ne ne, ← List.getD_eq_getElem?_getD]
      rw [e1]
      have e2 : ((k : Int) ∈ a :: run) = ((k : Int) ∈ run) := by
        refine propext ⟨fun z => ?_, List.mem_cons_of_mem _⟩
        rcases List.mem_cons.mp z with z | z
        · exact (e z.symm).elim
        · exact z
      simp only [b2, e2]
theorem step_eq {q : Int} {ss row line : List Int} (hr : row.length = ss.length) (h0 : ∀ x ∈ line, 0 ≤ x) (hp : line.Pairwise (· < ·)) : stepL q ss row line = stepB q ss row line := by
  refine List.ext_getElem? fun k => ?_
  by_cases hk : k < ss.length
  · rw [stepB_get (List.getElem?_eq_getElem hk)]
    unfold stepL
    have hz : k < (List.zipWith (· + ·) row ss).length := by rw [List.length_zipWith, hr]; omega
    have hz2 : k < (line.foldl (subAt q) (List.zipWith (· + ·) row ss)).length := by rw [fold_len]; exact hz
    rw [getE_some hz2, fold_sub h0 hp hz]
    have e : (List.zipWith (· + ·) row ss).getD k 0 = row.getD k 0 + ss[k] := by
      rw [List.getD_eq_getElem?_getD, List.getElem?_zipWith, getE_some (show k < row.length by omega), List.getElem?_eq_getElem hk]
      rfl
    rw [e]
  · rw [List.getElem?_eq_none (l := stepB q ss row line) (by rw [stepB_len]; omega), List.getElem?_eq_none (l := stepL q ss row line) (by unfold stepL; rw [fold_len, List.length_zipWith]; omega)]
theorem offs_x1 {D : Dt} {q : Int} {ss row line : List Int} {o1 o4 o : Ow} (hq : Sz 150 q) (hl : ss.length ≤ 12) (h : IsRow o row) (hr : row.length = ss.length) :
    x1__law_offs_b69e [.f D, o1, .f (.int q), .f (.lst (ss.map .int)), o4, o, .f (rowD line), .no, .no] = some (.ok (.n .lst ((stepB q ss row line).map fun x => .f (.int x))) [.f D, o1, .f (.int q), .f (.lst (ss.map .int)), o4, o, .f (rowD line), .no, .no]) := by
  have e : (stepB q ss row line).map (fun x => Ow.f (.int x)) = ss.zipIdx.map fun x => .f (.int (row.getD x.2 0 + x.1 - q * b2 ((x.2 : Int) ∈ line))) := by
    unfold stepB
    rw [List.map_map]
    rfl
  rw [e]
  unfold x1__law_offs_b69e
  refine comp_mapT (l := ss.zipIdx) (g := fun x => .tup [.int (x.2 : Int), .int x.1]) (ds := DL.enum (ss.map .int)) (iE_f (o := .f (.lst (ss.map .int))) (ds := ss.map .int) (ρ1 := [.f D, o1, .f (.int q), .f (.lst (ss.map .int)), o4, o, .f (rowD line), .no, .no]) (by simp (implicitDefEqProofs := false) (decide := true) (maxDischargeDepth := 9) [e_bnd, e_ret, e_opt, kO_s, kO_n, kO_i, kB_n, kB_o, kB_x, kB_i, e_val, kV_n, kV_o, kV_x, kV_i, e_seq, kS_n, kS_nx, kS_rt, kS_bk, kS_ct, kS_ex, kS_i, e_nil, e_pass, e_brk, e_cnt, e_sret, e_sretN, e_expr, e_if, e_set, e_par, e_par3, kP3_3, e_tgt, kTg_f, kTg_n, e_gN, e_gT, e_gs0, e_gs1, e_aug, kAg_i, e_app, kAp_l, e_item, e_for, e_forN, e_fn, kF_n, kF_nx, kF_rt, kF_ex, kF_i, e_outs0, e_outsT, e_outsF, e_K, e_Vf, e_Mf, e_bin, e_un, e_A0, e_A1, e_lst, e_tup, e_C, e_tV, kT_b, e_tAnd, e_tOr, e_tNot, e_xNot, kNt_b, e_xAnd, kAn_b, e_xOr, kOr_b, e_xIf, e_ch, kCh_i, kCz_i, e_is, e_Q, e_Rg1, e_Rg2, e_Sl, kSl_f, e_oN, e_oS, e_call, kA_rt, kA_ex, kA_n, kA_i, e_R0, e_Rv, e_Ri, e_callK, kCK_f, e_take0, e_takeV, e_takeI, e_put0, e_putV, e_putI, fz_f, fz_l, fzs_0, fzs_1, fzs_map, fzs_mapI, fzs_1l, e_b1, e_b2, e_b2g, e_bs, v_bn, v_add, v_sub, v_mul, v_div, v_mod, v_pow, v_neg, v_catNN, v_catFN, v_catNF, v_catFF, v_rep, v_lt, v_le, v_gt, v_ge, v_is, v_isN, v_isO, v_isNO, v_non, v_nonI, v_nonL, v_nonT, v_nonB, v_eqI, v_neI, v_eqS, v_neS, v_lenL, v_lenT, v_abs, v_max2, v_min2, v_min3, v_intsM, v_ints0, v_ints1, v_blsM, v_blsF, v_intsF, v_maxL, v_minL, v_sum, v_sort, v_all, v_any, v_int, v_intB, v_list, v_listT, v_tuple, v_kIsN, v_kIsI, v_kIsL, v_kIsT, v_kIsB, v_isInt, v_isBool, v_isLst, v_isTup, v_repr, v_at, v_atL, v_atN, v_ixT, v_ixL, v_ixN, e_qK, e_qV, v_gKd, v_gOs, v_gLs, v_gDs, v_gDsT, v_gF, v_gI, v_isNn, e_Vn', e_Mn', v_isNo1, v_isNo2, e_pV, e_qIxF, e_qIxN, e_qI, e_qB, e_get, kIt_l', v_ixLit, v_ix0, v_at0, v_at1, v_ix1, e_apply', e_eB, e_cK, e_cT1, e_cT2, e_cTb, e_wipe0, e_wipe1, e_back0, e_back1, v_bkF, v_bkNo, v_bkN, v_tY, v_Vg, v_atLast, v_ixS, v_setLast, v_fzSnoc, v_fzSnocC, v_LIM, v_fzF, v_fzC, v_fzFF, v_intsC, v_blsC, e_SrtSet, v_ss, e_tup2, kT2_2, v_minPI, v_minPP, v_isB, e_tBor, kTb_o, v_frzS_f, v_frzS_no, v_frzS_n, e_appP, e_clrP, v_appEach0, v_appEach1, v_appEachM, e_forApp0, e_forApp1, e_AS, v_kFl, e_tpo, v_ixTp, fz_tp, ]) rfl) enum_map (by rw [List.length_zipIdx]; unfold LIM; omega) fun x hx => ?_
  obtain ⟨hx1, hx2⟩ := zipIdx_at hx
  have ei := e_ixRow (ρ := [.f D, o1, .f (.int q), .f (.lst (ss.map .int)), o4, o, .f (rowD line), .f (.int x.2), .f (.int x.1)]) (n := 5) (q := qV 7) (k := x.2) rfl h rfl (by omega)
  have ein := v_inI (x := (x.2 : Int)) (l := line)
  have bq : Bn q = true := bn_sz (by decide)
  unfold rowD at ei ⊢
  unfold b2
  by_cases hm : (x.2 : Int) ∈ line
  · rw [decide_eq_true hm] at ein
    simp (implicitDefEqProofs := false) (decide := true) (maxDischargeDepth := 9) [e_bnd, e_ret, e_opt, kO_s, kO_n, kO_i, kB_n, kB_o, kB_x, kB_i, e_val, kV_n, kV_o, kV_x, kV_i, e_seq, kS_n, kS_nx, kS_rt, kS_bk, kS_ct, kS_ex, kS_i, e_nil, e_pass, e_brk, e_cnt, e_sret, e_sretN, e_expr, e_if, e_set, e_par, e_par3, kP3_3, e_tgt, kTg_f, kTg_n, e_gN, e_gT, e_gs0, e_gs1, e_aug, kAg_i, e_app, kAp_l, e_item, e_for, e_forN, e_fn, kF_n, kF_nx, kF_rt, kF_ex, kF_i, e_outs0, e_outsT, e_outsF, e_K, e_Vf, e_Mf, e_bin, e_un, e_A0, e_A1, e_lst, e_tup, e_C, e_tV, kT_b, e_tAnd, e_tOr, e_tNot, e_xNot, kNt_b, e_xAnd, kAn_b, e_xOr, kOr_b, e_xIf, e_ch, kCh_i, kCz_i, e_is, e_Q, e_Rg1, e_Rg2, e_Sl, kSl_f, e_oN, e_oS, e_call, kA_rt, kA_ex, kA_n, kA_i, e_R0, e_Rv, e_Ri, e_callK, kCK_f, e_take0, e_takeV, e_takeI, e_put0, e_putV, e_putI, fz_f, fz_l, fzs_0, fzs_1, fzs_map, fzs_mapI, fzs_1l, e_b1, e_b2, e_b2g, e_bs, v_bn, v_add, v_sub, v_mul, v_div, v_mod, v_pow, v_neg, v_catNN, v_catFN, v_catNF, v_catFF, v_rep, v_lt, v_le, v_gt, v_ge, v_is, v_isN, v_isO, v_isNO, v_non, v_nonI, v_nonL, v_nonT, v_nonB, v_eqI, v_neI, v_eqS, v_neS, v_lenL, v_lenT, v_abs, v_max2, v_min2, v_min3, v_intsM, v_ints0, v_ints1, v_blsM, v_blsF, v_intsF, v_maxL, v_minL, v_sum, v_sort, v_all, v_any, v_int, v_intB, v_list, v_listT, v_tuple, v_kIsN, v_kIsI, v_kIsL, v_kIsT, v_kIsB, v_isInt, v_isBool, v_isLst, v_isTup, v_repr, v_at, v_atL, v_atN, v_ixT, v_ixL, v_ixN, e_qK, e_qV, v_gKd, v_gOs, v_gLs, v_gDs, v_gDsT, v_gF, v_gI, v_isNn, e_Vn', e_Mn', v_isNo1, v_isNo2, e_pV, e_qIxF, e_qIxN, e_qI, e_qB, e_get, kIt_l', v_ixLit, v_ix0, v_at0, v_at1, v_ix1, e_apply', e_eB, e_cK, e_cT1, e_cT2, e_cTb, e_wipe0, e_wipe1, e_back0, e_back1, v_bkF, v_bkNo, v_bkN, v_tY, v_Vg, v_atLast, v_ixS, v_setLast, v_fzSnoc, v_fzSnocC, v_LIM, v_fzF, v_fzC, v_fzFF, v_intsC, v_blsC, e_SrtSet, v_ss, e_tup2, kT2_2, v_minPI, v_minPP, v_isB, e_tBor, kTb_o, v_frzS_f, v_frzS_no, v_frzS_n, e_appP, e_clrP, v_appEach0, v_appEach1, v_appEachM, e_forApp0, e_forApp1, e_AS, v_kFl, e_tpo, v_ixTp, fz_tp, ei, ein, hm, bq, show Bn 1 = true from bn_sz (by decide)]
  · rw [decide_eq_false hm] at ein
    simp (implicitDefEqProofs := false) (decide := true) (maxDischargeDepth := 9) [e_bnd, e_ret, e_opt, kO_s, kO_n, kO_i, kB_n, kB_o, kB_x, kB_i, e_val, kV_n, kV_o, kV_x, kV_i, e_seq, kS_n, kS_nx, kS_rt, kS_bk, kS_ct, kS_ex, kS_i, e_nil, e_pass, e_brk, e_cnt, e_sret, e_sretN, e_expr, e_if, e_set, e_par, e_par3, kP3_3, e_tgt, kTg_f, kTg_n, e_gN, e_gT, e_gs0, e_gs1, e_aug, kAg_i, e_app, kAp_l, e_item, e_for, e_forN, e_fn, kF_n, kF_nx, kF_rt, kF_ex, kF_i, e_outs0, e_outsT, e_outsF, e_K, e_Vf, e_Mf, e_bin, e_un, e_A0, e_A1, e_lst, e_tup, e_C, e_tV, kT_b, e_tAnd, e_tOr, e_tNot, e_xNot, kNt_b, e_xAnd, kAn_b, e_xOr, kOr_b, e_xIf, e_ch, kCh_i, kCz_i, e_is, e_Q, e_Rg1, e_Rg2, e_Sl, kSl_f, e_oN, e_oS, e_call, kA_rt, kA_ex, kA_n, kA_i, e_R0, e_Rv, e_Ri, e_callK, kCK_f, e_take0, e_takeV, e_takeI, e_put0, e_putV, e_putI, fz_f, fz_l, fzs_0, fzs_1, fzs_map, fzs_mapI, fzs_1l, e_b1, e_b2, e_b2g, e_bs, v_bn, v_add, v_sub, v_mul, v_div, v_mod, v_pow, v_neg, v_catNN, v_catFN, v_catNF, v_catFF, v_rep, v_lt, v_le, v_gt, v_ge, v_is, v_isN, v_isO, v_isNO, v_non, v_nonI, v_nonL, v_nonT, v_nonB, v_eqI, v_neI, v_eqS, v_neS, v_lenL, v_lenT, v_abs, v_max2, v_min2, v_min3, v_intsM, v_ints0, v_ints1, v_blsM, v_blsF, v_intsF, v_maxL, v_minL, v_sum, v_sort, v_all, v_any, v_int, v_intB, v_list, v_listT, v_tuple, v_kIsN, v_kIsI, v_kIsL, v_kIsT, v_kIsB, v_isInt, v_isBool, v_isLst, v_isTup, v_repr, v_at, v_atL, v_atN, v_ixT, v_ixL, v_ixN, e_qK, e_qV, v_gKd, v_gOs, v_gLs, v_gDs, v_gDsT, v_gF, v_gI, v_isNn, e_Vn', e_Mn', v_isNo1, v_isNo2, e_pV, e_qIxF, e_qIxN, e_qI, e_qB, e_get, kIt_l', v_ixLit, v_ix0, v_at0, v_at1, v_ix1, e_apply', e_eB, e_cK, e_cT1, e_cT2, e_cTb, e_wipe0, e_wipe1, e_back0, e_back1, v_bkF, v_bkNo, v_bkN, v_tY, v_Vg, v_atLast, v_ixS, v_setLast, v_fzSnoc, v_fzSnocC, v_LIM, v_fzF, v_fzC, v_fzFF, v_intsC, v_blsC, e_SrtSet, v_ss, e_tup2, kT2_2, v_minPI, v_minPP, v_isB, e_tBor, kTb_o, v_frzS_f, v_frzS_no, v_frzS_n, e_appP, e_clrP, v_appEach0, v_appEach1, v_appEachM, e_forApp0, e_forApp1, e_AS, v_kFl, e_tpo, v_ixTp, fz_tp, ei, ein, hm, bq, show Bn 0 = true from bn_sz (by decide)]
end Ev
/-! rest loads, due counts -/
namespace Ev
open OW
open DL (Dt)
theorem fills_eval {p q : Int} {ss : List Int} (h : LoadOk p q ss) : f_fills_4399 [.f (loadD p q ss)] = some (.rt (.f (.bl (decide (ss.sum = p * q)))) [.no]) := by
  haveI := h.szp
  haveI := h.szq
  have bp : Bn p = true := bn_sz (n := 64) (by decide)
  have bq : Bn q = true := bn_sz (n := 150) (by decide)
  unfold loadD
  simp (implicitDefEqProofs := false) (decide := true) (maxDischargeDepth := 9) [e_bnd, e_ret, e_opt, kO_s, kO_n, kO_i, kB_n, kB_o, kB_x, kB_i, e_val, kV_n, kV_o, kV_x, kV_i, e_seq, kS_n, kS_nx, kS_rt, kS_bk, kS_ct, kS_ex, kS_i, e_nil, e_pass, e_brk, e_cnt, e_sret, e_sretN, e_expr, e_if, e_set, e_par, e_par3, kP3_3, e_tgt, kTg_f, kTg_n, e_gN, e_gT, e_gs0, e_gs1, e_aug, kAg_i, e_app, kAp_l, e_item, e_for, e_forN, e_fn, kF_n, kF_nx, kF_rt, kF_ex, kF_i, e_outs0, e_outsT, e_outsF, e_K, e_Vf, e_Mf, e_bin, e_un, e_A0, e_A1, e_lst, e_tup, e_C, e_tV, kT_b, e_tAnd, e_tOr, e_tNot, e_xNot, kNt_b, e_xAnd, kAn_b, e_xOr, kOr_b, e_xIf, e_ch, kCh_i, kCz_i, e_is, e_Q, e_Rg1, e_Rg2, e_Sl, kSl_f, e_oN, e_oS, e_call, kA_rt, kA_ex, kA_n, kA_i, e_R0, e_Rv, e_Ri, e_callK, kCK_f, e_take0, e_takeV, e_takeI, e_put0, e_putV, e_putI, fz_f, fz_l, fzs_0, fzs_1, fzs_map, fzs_mapI, fzs_1l, e_b1, e_b2, e_b2g, e_bs, v_bn, v_add, v_sub, v_mul, v_div, v_mod, v_pow, v_neg, v_catNN, v_catFN, v_catNF, v_catFF, v_rep, v_lt, v_le, v_gt, v_ge, v_is, v_isN, v_isO, v_isNO, v_non, v_nonI, v_nonL, v_nonT, v_nonB, v_eqI, v_neI, v_eqS, v_neS, v_lenL, v_lenT, v_abs, v_max2, v_min2, v_min3, v_intsM, v_ints0, v_ints1, v_blsM, v_blsF, v_intsF, v_maxL, v_minL, v_sum, v_sort, v_all, v_any, v_int, v_intB, v_list, v_listT, v_tuple, v_kIsN, v_kIsI, v_kIsL, v_kIsT, v_kIsB, v_isInt, v_isBool, v_isLst, v_isTup, v_repr, v_at, v_atL, v_atN, v_ixT, v_ixL, v_ixN, e_qK, e_qV, v_gKd, v_gOs, v_gLs, v_gDs, v_gDsT, v_gF, v_gI, v_isNn, e_Vn', e_Mn', v_isNo1, v_isNo2, e_pV, e_qIxF, e_qIxN, e_qI, e_qB, e_get, kIt_l', v_ixLit, v_ix0, v_at0, v_at1, v_ix1, e_apply', e_eB, e_cK, e_cT1, e_cT2, e_cTb, e_wipe0, e_wipe1, e_back0, e_back1, v_bkF, v_bkNo, v_bkN, v_tY, v_Vg, v_atLast, v_ixS, v_setLast, v_fzSnoc, v_fzSnocC, v_LIM, v_fzF, v_fzC, v_fzFF, v_intsC, v_blsC, e_SrtSet, v_ss, e_tup2, kT2_2, v_minPI, v_minPP, v_isB, e_tBor, kTb_o, v_frzS_f, v_frzS_no, v_frzS_n, e_appP, e_clrP, v_appEach0, v_appEach1, v_appEachM, e_forApp0, e_forApp1, e_AS, v_kFl, e_tpo, v_ixTp, fz_tp, f_fills_4399, b_fills_4399, bp, bq]
theorem need_full_eval {p q : Int} {ss : List Int} (h : LoadOk p q ss) (hs : ss.sum = p * q) : f_need_full_75a5 [.f (loadD p q ss)] = some (.rt (.f .non) [.no]) := by
  have e := fills_eval h
  rw [decide_eq_true hs] at e
  generalize loadD p q ss = L at *
  simp (implicitDefEqProofs := false) (decide := true) (maxDischargeDepth := 9) [e_bnd, e_ret, e_opt, kO_s, kO_n, kO_i, kB_n, kB_o, kB_x, kB_i, e_val, kV_n, kV_o, kV_x, kV_i, e_seq, kS_n, kS_nx, kS_rt, kS_bk, kS_ct, kS_ex, kS_i, e_nil, e_pass, e_brk, e_cnt, e_sret, e_sretN, e_expr, e_if, e_set, e_par, e_par3, kP3_3, e_tgt, kTg_f, kTg_n, e_gN, e_gT, e_gs0, e_gs1, e_aug, kAg_i, e_app, kAp_l, e_item, e_for, e_forN, e_fn, kF_n, kF_nx, kF_rt, kF_ex, kF_i, e_outs0, e_outsT, e_outsF, e_K, e_Vf, e_Mf, e_bin, e_un, e_A0, e_A1, e_lst, e_tup, e_C, e_tV, kT_b, e_tAnd, e_tOr, e_tNot, e_xNot, kNt_b, e_xAnd, kAn_b, e_xOr, kOr_b, e_xIf, e_ch, kCh_i, kCz_i, e_is, e_Q, e_Rg1, e_Rg2, e_Sl, kSl_f, e_oN, e_oS, e_call, kA_rt, kA_ex, kA_n, kA_i, e_R0, e_Rv, e_Ri, e_callK, kCK_f, e_take0, e_takeV, e_takeI, e_put0, e_putV, e_putI, fz_f, fz_l, fzs_0, fzs_1, fzs_map, fzs_mapI, fzs_1l, e_b1, e_b2, e_b2g, e_bs, v_bn, v_add, v_sub, v_mul, v_div, v_mod, v_pow, v_neg, v_catNN, v_catFN, v_catNF, v_catFF, v_rep, v_lt, v_le, v_gt, v_ge, v_is, v_isN, v_isO, v_isNO, v_non, v_nonI, v_nonL, v_nonT, v_nonB, v_eqI, v_neI, v_eqS, v_neS, v_lenL, v_lenT, v_abs, v_max2, v_min2, v_min3, v_intsM, v_ints0, v_ints1, v_blsM, v_blsF, v_intsF, v_maxL, v_minL, v_sum, v_sort, v_all, v_any, v_int, v_intB, v_list, v_listT, v_tuple, v_kIsN, v_kIsI, v_kIsL, v_kIsT, v_kIsB, v_isInt, v_isBool, v_isLst, v_isTup, v_repr, v_at, v_atL, v_atN, v_ixT, v_ixL, v_ixN, e_qK, e_qV, v_gKd, v_gOs, v_gLs, v_gDs, v_gDsT, v_gF, v_gI, v_isNn, e_Vn', e_Mn', v_isNo1, v_isNo2, e_pV, e_qIxF, e_qIxN, e_qI, e_qB, e_get, kIt_l', v_ixLit, v_ix0, v_at0, v_at1, v_ix1, e_apply', e_eB, e_cK, e_cT1, e_cT2, e_cTb, e_wipe0, e_wipe1, e_back0, e_back1, v_bkF, v_bkNo, v_bkN, v_tY, v_Vg, v_atLast, v_ixS, v_setLast, v_fzSnoc, v_fzSnocC, v_LIM, v_fzF, v_fzC, v_fzFF, v_intsC, v_blsC, e_SrtSet, v_ss, e_tup2, kT2_2, v_minPI, v_minPP, v_isB, e_tBor, kTb_o, v_frzS_f, v_frzS_no, v_frzS_n, e_appP, e_clrP, v_appEach0, v_appEach1, v_appEachM, e_forApp0, e_forApp1, e_AS, v_kFl, e_tpo, v_ixTp, fz_tp, f_need_full_75a5, b_need_full_75a5, e]
theorem is_full_eval {p q : Int} {ss : List Int} (h : LoadOk p q ss) : f_is_full_c14f [.f (loadD p q ss)] = some (.rt (.f (.bl (decide (ss.sum = p * q)))) [.no]) := by
  have e := fills_eval h
  have e1 := need_load_eval h
  generalize loadD p q ss = L at *
  simp (implicitDefEqProofs := false) (decide := true) (maxDischargeDepth := 9) [e_bnd, e_ret, e_opt, kO_s, kO_n, kO_i, kB_n, kB_o, kB_x, kB_i, e_val, kV_n, kV_o, kV_x, kV_i, e_seq, kS_n, kS_nx, kS_rt, kS_bk, kS_ct, kS_ex, kS_i, e_nil, e_pass, e_brk, e_cnt, e_sret, e_sretN, e_expr, e_if, e_set, e_par, e_par3, kP3_3, e_tgt, kTg_f, kTg_n, e_gN, e_gT, e_gs0, e_gs1, e_aug, kAg_i, e_app, kAp_l, e_item, e_for, e_forN, e_fn, kF_n, kF_nx, kF_rt, kF_ex, kF_i, e_outs0, e_outsT, e_outsF, e_K, e_Vf, e_Mf, e_bin, e_un, e_A0, e_A1, e_lst, e_tup, e_C, e_tV, kT_b, e_tAnd, e_tOr, e_tNot, e_xNot, kNt_b, e_xAnd, kAn_b, e_xOr, kOr_b, e_xIf, e_ch, kCh_i, kCz_i, e_is, e_Q, e_Rg1, e_Rg2, e_Sl, kSl_f, e_oN, e_oS, e_call, kA_rt, kA_ex, kA_n, kA_i, e_R0, e_Rv, e_Ri, e_callK, kCK_f, e_take0, e_takeV, e_takeI, e_put0, e_putV, e_putI, fz_f, fz_l, fzs_0, fzs_1, fzs_map, fzs_mapI, fzs_1l, e_b1, e_b2, e_b2g, e_bs, v_bn, v_add, v_sub, v_mul, v_div, v_mod, v_pow, v_neg, v_catNN, v_catFN, v_catNF, v_catFF, v_rep, v_lt, v_le, v_gt, v_ge, v_is, v_isN, v_isO, v_isNO, v_non, v_nonI, v_nonL, v_nonT, v_nonB, v_eqI, v_neI, v_eqS, v_neS, v_lenL, v_lenT, v_abs, v_max2, v_min2, v_min3, v_intsM, v_ints0, v_ints1, v_blsM, v_blsF, v_intsF, v_maxL, v_minL, v_sum, v_sort, v_all, v_any, v_int, v_intB, v_list, v_listT, v_tuple, v_kIsN, v_kIsI, v_kIsL, v_kIsT, v_kIsB, v_isInt, v_isBool, v_isLst, v_isTup, v_repr, v_at, v_atL, v_atN, v_ixT, v_ixL, v_ixN, e_qK, e_qV, v_gKd, v_gOs, v_gLs, v_gDs, v_gDsT, v_gF, v_gI, v_isNn, e_Vn', e_Mn', v_isNo1, v_isNo2, e_pV, e_qIxF, e_qIxN, e_qI, e_qB, e_get, kIt_l', v_ixLit, v_ix0, v_at0, v_at1, v_ix1, e_apply', e_eB, e_cK, e_cT1, e_cT2, e_cTb, e_wipe0, e_wipe1, e_back0, e_back1, v_bkF, v_bkNo, v_bkN, v_tY, v_Vg, v_atLast, v_ixS, v_setLast, v_fzSnoc, v_fzSnocC, v_LIM, v_fzF, v_fzC, v_fzFF, v_intsC, v_blsC, e_SrtSet, v_ss, e_tup2, kT2_2, v_minPI, v_minPP, v_isB, e_tBor, kTb_o, v_frzS_f, v_frzS_no, v_frzS_n, e_appP, e_clrP, v_appEach0, v_appEach1, v_appEachM, e_forApp0, e_forApp1, e_AS, v_kFl, e_tpo, v_ixTp, fz_tp, f_is_full_c14f, b_is_full_c14f, e, e1]
theorem is_load_eval {p q : Int} {ss : List Int} (h : LoadOk p q ss) : f_is_load_aafb [.f (loadD p q ss)] = some (.rt (.f (.bl true)) [.no]) := by
  have e := wrong_eval h
  unfold loadD at e ⊢
  simp (implicitDefEqProofs := false) (decide := true) (maxDischargeDepth := 9) [e_bnd, e_ret, e_opt, kO_s, kO_n, kO_i, kB_n, kB_o, kB_x, kB_i, e_val, kV_n, kV_o, kV_x, kV_i, e_seq, kS_n, kS_nx, kS_rt, kS_bk, kS_ct, kS_ex, kS_i, e_nil, e_pass, e_brk, e_cnt, e_sret, e_sretN, e_expr, e_if, e_set, e_par, e_par3, kP3_3, e_tgt, kTg_f, kTg_n, e_gN, e_gT, e_gs0, e_gs1, e_aug, kAg_i, e_app, kAp_l, e_item, e_for, e_forN, e_fn, kF_n, kF_nx, kF_rt, kF_ex, kF_i, e_outs0, e_outsT, e_outsF, e_K, e_Vf, e_Mf, e_bin, e_un, e_A0, e_A1, e_lst, e_tup, e_C, e_tV, kT_b, e_tAnd, e_tOr, e_tNot, e_xNot, kNt_b, e_xAnd, kAn_b, e_xOr, kOr_b, e_xIf, e_ch, kCh_i, kCz_i, e_is, e_Q, e_Rg1, e_Rg2, e_Sl, kSl_f, e_oN, e_oS, e_call, kA_rt, kA_ex, kA_n, kA_i, e_R0, e_Rv, e_Ri, e_callK, kCK_f, e_take0, e_takeV, e_takeI, e_put0, e_putV, e_putI, fz_f, fz_l, fzs_0, fzs_1, fzs_map, fzs_mapI, fzs_1l, e_b1, e_b2, e_b2g, e_bs, v_bn, v_add, v_sub, v_mul, v_div, v_mod, v_pow, v_neg, v_catNN, v_catFN, v_catNF, v_catFF, v_rep, v_lt, v_le, v_gt, v_ge, v_is, v_isN, v_isO, v_isNO, v_non, v_nonI, v_nonL, v_nonT, v_nonB, v_eqI, v_neI, v_eqS, v_neS, v_lenL, v_lenT, v_abs, v_max2, v_min2, v_min3, v_intsM, v_ints0, v_ints1, v_blsM, v_blsF, v_intsF, v_maxL, v_minL, v_sum, v_sort, v_all, v_any, v_int, v_intB, v_list, v_listT, v_tuple, v_kIsN, v_kIsI, v_kIsL, v_kIsT, v_kIsB, v_isInt, v_isBool, v_isLst, v_isTup, v_repr, v_at, v_atL, v_atN, v_ixT, v_ixL, v_ixN, e_qK, e_qV, v_gKd, v_gOs, v_gLs, v_gDs, v_gDsT, v_gF, v_gI, v_isNn, e_Vn', e_Mn', v_isNo1, v_isNo2, e_pV, e_qIxF, e_qIxN, e_qI, e_qB, e_get, kIt_l', v_ixLit, v_ix0, v_at0, v_at1, v_ix1, e_apply', e_eB, e_cK, e_cT1, e_cT2, e_cTb, e_wipe0, e_wipe1, e_back0, e_back1, v_bkF, v_bkNo, v_bkN, v_tY, v_Vg, v_atLast, v_ixS, v_setLast, v_fzSnoc, v_fzSnocC, v_LIM, v_fzF, v_fzC, v_fzFF, v_intsC, v_blsC, e_SrtSet, v_ss, e_tup2, kT2_2, v_minPI, v_minPP, v_isB, e_tBor, kTb_o, v_frzS_f, v_frzS_no, v_frzS_n, e_appP, e_clrP, v_appEach0, v_appEach1, v_appEachM, e_forApp0, e_forApp1, e_AS, v_kFl, e_tpo, v_ixTp, fz_tp, f_is_load_aafb, b_is_load_aafb, e]
theorem need_process_evalU {p q : Int} {ss : List Int} {k : Nat} (h : k < ss.length) : f_need_process_1868 [.f (loadD p q ss), .f (.int k)] = some (.rt (.f .non) [.no, .no]) := by
  have e := is_integer_yes (v := (k : Int)) (l := 0) (h := (ss.length : Int) - 1) (by omega) (by omega)
  unfold loadD
  simp (implicitDefEqProofs := false) (decide := true) (maxDischargeDepth := 9) [e_bnd, e_ret, e_opt, kO_s, kO_n, kO_i, kB_n, kB_o, kB_x, kB_i, e_val, kV_n, kV_o, kV_x, kV_i, e_seq, kS_n, kS_nx, kS_rt, kS_bk, kS_ct, kS_ex, kS_i, e_nil, e_pass, e_brk, e_cnt, e_sret, e_sretN, e_expr, e_if, e_set, e_par, e_par3, kP3_3, e_tgt, kTg_f, kTg_n, e_gN, e_gT, e_gs0, e_gs1, e_aug, kAg_i, e_app, kAp_l, e_item, e_for, e_forN, e_fn, kF_n, kF_nx, kF_rt, kF_ex, kF_i, e_outs0, e_outsT, e_outsF, e_K, e_Vf, e_Mf, e_bin, e_un, e_A0, e_A1, e_lst, e_tup, e_C, e_tV, kT_b, e_tAnd, e_tOr, e_tNot, e_xNot, kNt_b, e_xAnd, kAn_b, e_xOr, kOr_b, e_xIf, e_ch, kCh_i, kCz_i, e_is, e_Q, e_Rg1, e_Rg2, e_Sl, kSl_f, e_oN, e_oS, e_call, kA_rt, kA_ex, kA_n, kA_i, e_R0, e_Rv, e_Ri, e_callK, kCK_f, e_take0, e_takeV, e_takeI, e_put0, e_putV, e_putI, fz_f, fz_l, fzs_0, fzs_1, fzs_map, fzs_mapI, fzs_1l, e_b1, e_b2, e_b2g, e_bs, v_bn, v_add, v_sub, v_mul, v_div, v_mod, v_pow, v_neg, v_catNN, v_catFN, v_catNF, v_catFF, v_rep, v_lt, v_le, v_gt, v_ge, v_is, v_isN, v_isO, v_isNO, v_non, v_nonI, v_nonL, v_nonT, v_nonB, v_eqI, v_neI, v_eqS, v_neS, v_lenL, v_lenT, v_abs, v_max2, v_min2, v_min3, v_intsM, v_ints0, v_ints1, v_blsM, v_blsF, v_intsF, v_maxL, v_minL, v_sum, v_sort, v_all, v_any, v_int, v_intB, v_list, v_listT, v_tuple, v_kIsN, v_kIsI, v_kIsL, v_kIsT, v_kIsB, v_isInt, v_isBool, v_isLst, v_isTup, v_repr, v_at, v_atL, v_atN, v_ixT, v_ixL, v_ixN, e_qK, e_qV, v_gKd, v_gOs, v_gLs, v_gDs, v_gDsT, v_gF, v_gI, v_isNn, e_Vn', e_Mn', v_isNo1, v_isNo2, e_pV, e_qIxF, e_qIxN, e_qI, e_qB, e_get, kIt_l', v_ixLit, v_ix0, v_at0, v_at1, v_ix1, e_apply', e_eB, e_cK, e_cT1, e_cT2, e_cTb, e_wipe0, e_wipe1, e_back0, e_back1, v_bkF, v_bkNo, v_bkN, v_tY, v_Vg, v_atLast, v_ixS, v_setLast, v_fzSnoc, v_fzSnocC, v_LIM, v_fzF, v_fzC, v_fzFF, v_intsC, v_blsC, e_SrtSet, v_ss, e_tup2, kT2_2, v_minPI, v_minPP, v_isB, e_tBor, kTb_o, v_frzS_f, v_frzS_no, v_frzS_n, e_appP, e_clrP, v_appEach0, v_appEach1, v_appEachM, e_forApp0, e_forApp1, e_AS, v_kFl, e_tpo, v_ixTp, fz_tp, f_need_process_1868, b_need_process_1868, e]
theorem due_counts_eval {p q t : Int} {ss : List Int} {k : Nat} {s : Int} (h : LoadOk p q ss) (hk : ss[k]? = some s) (t0 : 0 ≤ t) (ht : Sz 150 t) : f_due_counts_e55b [.f (loadD p q ss), .f (.int k), .f (.int t)] = some (.rt (.f (.tup [.int (s * t / q), .int (upI s q t)])) [.no, .no, .no]) := by
  have hl := (List.getElem?_eq_some_iff.mp hk).1
  have e1 := need_load_eval h
  have e2 := need_process_evalU (p := p) (q := q) hl
  have e3 := need_number_evalN t0
  have q1 := h.q1
  haveI := h.szq
  haveI := h.szs (List.mem_of_getElem? hk)
  have bs : Bn s = true := bn_sz (n := 150) (by decide)
  have bq : Bn q = true := bn_sz (n := 150) (by decide)
  have bt : Bn t = true := bn_sz (n := 150) (by decide)
  have e4 := down_eval bs bt (show 0 < q by omega) bq
  have e5 := up_eval bs bt (show 0 < q by omega) bq
  have g : L2.atI (ss.map Dt.int) (k : Int) = some (.int s) := by rw [v_at, List.getElem?_map, hk]; rfl
  unfold loadD at *
  generalize ss.map Dt.int = S at *
  generalize (k : Int) = kk at *
  simp (implicitDefEqProofs := false) (decide := true) (maxDischargeDepth := 9) [e_bnd, e_ret, e_opt, kO_s, kO_n, kO_i, kB_n, kB_o, kB_x, kB_i, e_val, kV_n, kV_o, kV_x, kV_i, e_seq, kS_n, kS_nx, kS_rt, kS_bk, kS_ct, kS_ex, kS_i, e_nil, e_pass, e_brk, e_cnt, e_sret, e_sretN, e_expr, e_if, e_set, e_par, e_par3, kP3_3, e_tgt, kTg_f, kTg_n, e_gN, e_gT, e_gs0, e_gs1, e_aug, kAg_i, e_app, kAp_l, e_item, e_for, e_forN, e_fn, kF_n, kF_nx, kF_rt, kF_ex, kF_i, e_outs0, e_outsT, e_outsF, e_K, e_Vf, e_Mf, e_bin, e_un, e_A0, e_A1, e_lst, e_tup, e_C, e_tV, kT_b, e_tAnd, e_tOr, e_tNot, e_xNot, kNt_b, e_xAnd, kAn_b, e_xOr, kOr_b, e_xIf, e_ch, kCh_i, kCz_i, e_is, e_Q, e_Rg1, e_Rg2, e_Sl, kSl_f, e_oN, e_oS, e_call, kA_rt, kA_ex, kA_n, kA_i, e_R0, e_Rv, e_Ri, e_callK, kCK_f, e_take0, e_takeV, e_takeI, e_put0, e_putV, e_putI, fz_f, fz_l, fzs_0, fzs_1, fzs_map, fzs_mapI, fzs_1l, e_b1, e_b2, e_b2g, e_bs, v_bn, v_add, v_sub, v_mul, v_div, v_mod, v_pow, v_neg, v_catNN, v_catFN, v_catNF, v_catFF, v_rep, v_lt, v_le, v_gt, v_ge, v_is, v_isN, v_isO, v_isNO, v_non, v_nonI, v_nonL, v_nonT, v_nonB, v_eqI, v_neI, v_eqS, v_neS, v_lenL, v_lenT, v_abs, v_max2, v_min2, v_min3, v_intsM, v_ints0, v_ints1, v_blsM, v_blsF, v_intsF, v_maxL, v_minL, v_sum, v_sort, v_all, v_any, v_int, v_intB, v_list, v_listT, v_tuple, v_kIsN, v_kIsI, v_kIsL, v_kIsT, v_kIsB, v_isInt, v_isBool, v_isLst, v_isTup, v_repr, v_at, v_atL, v_atN, v_ixT, v_ixL, v_ixN, e_qK, e_qV, v_gKd, v_gOs, v_gLs, v_gDs, v_gDsT, v_gF, v_gI, v_isNn, e_Vn', e_Mn', v_isNo1, v_isNo2, e_pV, e_qIxF, e_qIxN, e_qI, e_qB, e_get, kIt_l', v_ixLit, v_ix0, v_at0, v_at1, v_ix1, e_apply', e_eB, e_cK, e_cT1, e_cT2, e_cTb, e_wipe0, e_wipe1, e_back0, e_back1, v_bkF, v_bkNo, v_bkN, v_tY, v_Vg, v_atLast, v_ixS, v_setLast, v_fzSnoc, v_fzSnocC, v_LIM, v_fzF, v_fzC, v_fzFF, v_intsC, v_blsC, e_SrtSet, v_ss, e_tup2, kT2_2, v_minPI, v_minPP, v_isB, e_tBor, kTb_o, v_frzS_f, v_frzS_no, v_frzS_n, e_appP, e_clrP, v_appEach0, v_appEach1, v_appEachM, e_forApp0, e_forApp1, e_AS, v_kFl, e_tpo, v_ixTp, fz_tp, f_due_counts_e55b, b_due_counts_e55b, e1, e2, e3, e4, e5, g]
def negL (q : Int) (ss : List Int) : List Int := ss.map fun s => q - s
theorem negL_neg {q : Int} {ss : List Int} : negL q (negL q ss) = ss := by
  unfold negL
  rw [List.map_map]
  have : ((fun s => q - s) ∘ fun s => q - s) = (id : Int → Int) := by
    funext x
    show q - (q - x) = x
    omega
  rw [this, List.map_id]
theorem negL_sum {q : Int} : ∀ {ss : List Int}, (negL q ss).sum = ss.length * q - ss.sum
  | [] => by simp [negL]
  | s :: ss => by
    show ((q - s) :: negL q ss).sum = _
    rw [List.sum_cons, negL_sum, List.sum_cons, List.length_cons, Int.natCast_succ, Int.add_mul, Int.one_mul]
    omega
theorem negL_len {q : Int} {ss : List Int} : (negL q ss).length = ss.length := List.length_map ..
theorem sum_lt {q : Int} : ∀ {ss : List Int}, ss ≠ [] → (∀ s ∈ ss, s < q) → ss.sum < ss.length * q
  | [], h, _ => absurd rfl h
  | [s], _, h => by
    have := h s List.mem_cons_self
    simpa using this
  | s :: t :: ss, _, h => by
    have a := sum_lt (q := q) (ss := t :: ss) (by simp) fun x hx => h x (List.mem_cons_of_mem _ hx)
    have b := h s List.mem_cons_self
    rw [List.sum_cons, List.length_cons, Int.natCast_succ, Int.add_mul, Int.one_mul]
    omega
theorem rest_ok {p q : Int} {ss : List Int} (h : LoadOk p q ss) (hs : ss.sum = p * q) (hn : q ∉ ss) : LoadOk ((ss.length : Int) - p) q (negL q ss) ∧ (negL q ss).sum = ((ss.length : Int) - p) * q ∧ q ∉ negL q ss := by
  have l1 := h.l1
  have l2 := h.l2
  have p1 := h.p1
  have q1 := h.q1
  have lt : ∀ s ∈ ss, s < q := fun s hs' => by
    have a := (h.sh s hs').2
    have b : s ≠ q := fun e => hn (e ▸ hs')
    omega
  have a := sum_lt (fun e => by rw [e] at l1; simp at l1) lt
  have hp : p < (ss.length : Int) := by
    rw [hs] at a
    exact Int.lt_of_mul_lt_mul_right a (by omega)
  have es : (negL q ss).sum = ((ss.length : Int) - p) * q := by rw [negL_sum, hs, Int.sub_mul]
  refine ⟨⟨by omega, by omega, h.q1, h.q2, by rw [negL_len]; exact l1, by rw [negL_len]; exact l2, fun x hx => ?_, by rw [es]; exact Int.le_refl _⟩, es, fun hx => ?_⟩
  · obtain ⟨s, hs', rfl⟩ := List.mem_map.mp hx
    have := lt s hs'
    have := (h.sh s hs').1
    omega
  · obtain ⟨s, hs', e⟩ := List.mem_map.mp hx
    have := (h.sh s hs').1
    omega
theorem rest_eval {p q : Int} {ss : List Int} (h : LoadOk p q ss) (hs : ss.sum = p * q) (hn : q ∉ ss) : f_rest_load_4c5b [.f (loadD p q ss)] = some (.rt (.n .tp [.f (.int ((ss.length : Int) - p)), .f (.int q), .n .lst ((negL q ss).map fun x => .f (.int x))]) [.no]) := by
  have l2 := h.l2
  have e1 := need_load_eval h
  have e2 := need_full_eval h hs
  have ex : x1_rest_load_4c5b [.f (loadD p q ss), .f (.int p), .f (.int q), .f (.lst (ss.map .int)), .no] = some (.ok (.n .lst ((negL q ss).map fun x => .f (.int x))) [.f (loadD p q ss), .f (.int p), .f (.int q), .f (.lst (ss.map .int)), .no]) := by
    unfold negL
    rw [List.map_map]
    unfold x1_rest_load_4c5b
    refine comp_mapT (l := ss) (g := .int) (iL_f (ds := ss.map .int) (by simp (implicitDefEqProofs := false) (decide := true) (maxDischargeDepth := 9) [e_bnd, e_ret, e_opt, kO_s, kO_n, kO_i, kB_n, kB_o, kB_x, kB_i, e_val, kV_n, kV_o, kV_x, kV_i, e_seq, kS_n, kS_nx, kS_rt, kS_bk, kS_ct, kS_ex, kS_i, e_nil, e_pass, e_brk, e_cnt, e_sret, e_sretN, e_expr, e_if, e_set, e_par, e_par3, kP3_3, e_tgt, kTg_f, kTg_n, e_gN, e_gT, e_gs0, e_gs1, e_aug, kAg_i, e_app, kAp_l, e_item, e_for, e_forN, e_fn, kF_n, kF_nx, kF_rt, kF_ex, kF_i, e_outs0, e_outsT, e_outsF, e_K, e_Vf, e_Mf, e_bin, e_un, e_A0, e_A1, e_lst, e_tup, e_C, e_tV, kT_b, e_tAnd, e_tOr, e_tNot, e_xNot, kNt_b, e_xAnd, kAn_b, e_xOr, kOr_b, e_xIf, e_ch, kCh_i, kCz_i, e_is, e_Q, e_Rg1, e_Rg2, e_Sl, kSl_f, e_oN, e_oS, e_call, kA_rt, kA_ex, kA_n, kA_i, e_R0, e_Rv, e_Ri, e_callK, kCK_f, e_take0, e_takeV, e_takeI, e_put0, e_putV, e_putI, fz_f, fz_l, fzs_0, fzs_1, fzs_map, fzs_mapI, fzs_1l, e_b1, e_b2, e_b2g, e_bs, v_bn, v_add, v_sub, v_mul, v_div, v_mod, v_pow, v_neg, v_catNN, v_catFN, v_catNF, v_catFF, v_rep, v_lt, v_le, v_gt, v_ge, v_is, v_isN, v_isO, v_isNO, v_non, v_nonI, v_nonL, v_nonT, v_nonB, v_eqI, v_neI, v_eqS, v_neS, v_lenL, v_lenT, v_abs, v_max2, v_min2, v_min3, v_intsM, v_ints0, v_ints1, v_blsM, v_blsF, v_intsF, v_maxL, v_minL, v_sum, v_sort, v_all, v_any, v_int, v_intB, v_list, v_listT, v_tuple, v_kIsN, v_kIsI, v_kIsL, v_kIsT, v_kIsB, v_isInt, v_isBool, v_isLst, v_isTup, v_repr, v_at, v_atL, v_atN, v_ixT, v_ixL, v_ixN, e_qK, e_qV, v_gKd, v_gOs, v_gLs, v_gDs, v_gDsT, v_gF, v_gI, v_isNn, e_Vn', e_Mn', v_isNo1, v_isNo2, e_pV, e_qIxF, e_qIxN, e_qI, e_qB, e_get, kIt_l', v_ixLit, v_ix0, v_at0, v_at1, v_ix1, e_apply', e_eB, e_cK, e_cT1, e_cT2, e_cTb, e_wipe0, e_wipe1, e_back0, e_back1, v_bkF, v_bkNo, v_bkN, v_tY, v_Vg, v_atLast, v_ixS, v_setLast, v_fzSnoc, v_fzSnocC, v_LIM, v_fzF, v_fzC, v_fzFF, v_intsC, v_blsC, e_SrtSet, v_ss, e_tup2, kT2_2, v_minPI, v_minPP, v_isB, e_tBor, kTb_o, v_frzS_f, v_frzS_no, v_frzS_n, e_appP, e_clrP, v_appEach0, v_appEach1, v_appEachM, e_forApp0, e_forApp1, e_AS, v_kFl, e_tpo, v_ixTp, fz_tp, ])) rfl (by unfold LIM; omega) fun s hs' => ?_
    simp (implicitDefEqProofs := false) (decide := true) (maxDischargeDepth := 9) [e_bnd, e_ret, e_opt, kO_s, kO_n, kO_i, kB_n, kB_o, kB_x, kB_i, e_val, kV_n, kV_o, kV_x, kV_i, e_seq, kS_n, kS_nx, kS_rt, kS_bk, kS_ct, kS_ex, kS_i, e_nil, e_pass, e_brk, e_cnt, e_sret, e_sretN, e_expr, e_if, e_set, e_par, e_par3, kP3_3, e_tgt, kTg_f, kTg_n, e_gN, e_gT, e_gs0, e_gs1, e_aug, kAg_i, e_app, kAp_l, e_item, e_for, e_forN, e_fn, kF_n, kF_nx, kF_rt, kF_ex, kF_i, e_outs0, e_outsT, e_outsF, e_K, e_Vf, e_Mf, e_bin, e_un, e_A0, e_A1, e_lst, e_tup, e_C, e_tV, kT_b, e_tAnd, e_tOr, e_tNot, e_xNot, kNt_b, e_xAnd, kAn_b, e_xOr, kOr_b, e_xIf, e_ch, kCh_i, kCz_i, e_is, e_Q, e_Rg1, e_Rg2, e_Sl, kSl_f, e_oN, e_oS, e_call, kA_rt, kA_ex, kA_n, kA_i, e_R0, e_Rv, e_Ri, e_callK, kCK_f, e_take0, e_takeV, e_takeI, e_put0, e_putV, e_putI, fz_f, fz_l, fzs_0, fzs_1, fzs_map, fzs_mapI, fzs_1l, e_b1, e_b2, e_b2g, e_bs, v_bn, v_add, v_sub, v_mul, v_div, v_mod, v_pow, v_neg, v_catNN, v_catFN, v_catNF, v_catFF, v_rep, v_lt, v_le, v_gt, v_ge, v_is, v_isN, v_isO, v_isNO, v_non, v_nonI, v_nonL, v_nonT, v_nonB, v_eqI, v_neI, v_eqS, v_neS, v_lenL, v_lenT, v_abs, v_max2, v_min2, v_min3, v_intsM, v_ints0, v_ints1, v_blsM, v_blsF, v_intsF, v_maxL, v_minL, v_sum, v_sort, v_all, v_any, v_int, v_intB, v_list, v_listT, v_tuple, v_kIsN, v_kIsI, v_kIsL, v_kIsT, v_kIsB, v_isInt, v_isBool, v_isLst, v_isTup, v_repr, v_at, v_atL, v_atN, v_ixT, v_ixL, v_ixN, e_qK, e_qV, v_gKd, v_gOs, v_gLs, v_gDs, v_gDsT, v_gF, v_gI, v_isNn, e_Vn', e_Mn', v_isNo1, v_isNo2, e_pV, e_qIxF, e_qIxN, e_qI, e_qB, e_get, kIt_l', v_ixLit, v_ix0, v_at0, v_at1, v_ix1, e_apply', e_eB, e_cK, e_cT1, e_cT2, e_cTb, e_wipe0, e_wipe1, e_back0, e_back1, v_bkF, v_bkNo, v_bkN, v_tY, v_Vg, v_atLast, v_ixS, v_setLast, v_fzSnoc, v_fzSnocC, v_LIM, v_fzF, v_fzC, v_fzFF, v_intsC, v_blsC, e_SrtSet, v_ss, e_tup2, kT2_2, v_minPI, v_minPP, v_isB, e_tBor, kTb_o, v_frzS_f, v_frzS_no, v_frzS_n, e_appP, e_clrP, v_appEach0, v_appEach1, v_appEachM, e_forApp0, e_forApp1, e_AS, v_kFl, e_tpo, v_ixTp, fz_tp, ]
  have ei := v_inI (x := q) (l := ss)
  rw [decide_eq_false hn] at ei
  have kl : kLen [.lst (ss.map .int)] = some (.f (.int (ss.length : Int))) := by rw [v_lenL, List.length_map]
  generalize (negL q ss).map (fun x => Ow.f (.int x)) = R at ex ⊢
  unfold loadD at *
  generalize ss.map Dt.int = S at *
  generalize (ss.length : Int) = M at *
  simp (implicitDefEqProofs := false) (decide := true) (maxDischargeDepth := 9) [e_bnd, e_ret, e_opt, kO_s, kO_n, kO_i, kB_n, kB_o, kB_x, kB_i, e_val, kV_n, kV_o, kV_x, kV_i, e_seq, kS_n, kS_nx, kS_rt, kS_bk, kS_ct, kS_ex, kS_i, e_nil, e_pass, e_brk, e_cnt, e_sret, e_sretN, e_expr, e_if, e_set, e_par, e_par3, kP3_3, e_tgt, kTg_f, kTg_n, e_gN, e_gT, e_gs0, e_gs1, e_aug, kAg_i, e_app, kAp_l, e_item, e_for, e_forN, e_fn, kF_n, kF_nx, kF_rt, kF_ex, kF_i, e_outs0, e_outsT, e_outsF, e_K, e_Vf, e_Mf, e_bin, e_un, e_A0, e_A1, e_lst, e_tup, e_C, e_tV, kT_b, e_tAnd, e_tOr, e_tNot, e_xNot, kNt_b, e_xAnd, kAn_b, e_xOr, kOr_b, e_xIf, e_ch, kCh_i, kCz_i, e_is, e_Q, e_Rg1, e_Rg2, e_Sl, kSl_f, e_oN, e_oS, e_call, kA_rt, kA_ex, kA_n, kA_i, e_R0, e_Rv, e_Ri, e_callK, kCK_f, e_take0, e_takeV, e_takeI, e_put0, e_putV, e_putI, fz_f, fz_l, fzs_0, fzs_1, fzs_map, fzs_mapI, fzs_1l, e_b1, e_b2, e_b2g, e_bs, v_bn, v_add, v_sub, v_mul, v_div, v_mod, v_pow, v_neg, v_catNN, v_catFN, v_catNF, v_catFF, v_rep, v_lt, v_le, v_gt, v_ge, v_is, v_isN, v_isO, v_isNO, v_non, v_nonI, v_nonL, v_nonT, v_nonB, v_eqI, v_neI, v_eqS, v_neS, v_lenL, v_lenT, v_abs, v_max2, v_min2, v_min3, v_intsM, v_ints0, v_ints1, v_blsM, v_blsF, v_intsF, v_maxL, v_minL, v_sum, v_sort, v_all, v_any, v_int, v_intB, v_list, v_listT, v_tuple, v_kIsN, v_kIsI, v_kIsL, v_kIsT, v_kIsB, v_isInt, v_isBool, v_isLst, v_isTup, v_repr, v_at, v_atL, v_atN, v_ixT, v_ixL, v_ixN, e_qK, e_qV, v_gKd, v_gOs, v_gLs, v_gDs, v_gDsT, v_gF, v_gI, v_isNn, e_Vn', e_Mn', v_isNo1, v_isNo2, e_pV, e_qIxF, e_qIxN, e_qI, e_qB, e_get, kIt_l', v_ixLit, v_ix0, v_at0, v_at1, v_ix1, e_apply', e_eB, e_cK, e_cT1, e_cT2, e_cTb, e_wipe0, e_wipe1, e_back0, e_back1, v_bkF, v_bkNo, v_bkN, v_tY, v_Vg, v_atLast, v_ixS, v_setLast, v_fzSnoc, v_fzSnocC, v_LIM, v_fzF, v_fzC, v_fzFF, v_intsC, v_blsC, e_SrtSet, v_ss, e_tup2, kT2_2, v_minPI, v_minPP, v_isB, e_tBor, kTb_o, v_frzS_f, v_frzS_no, v_frzS_n, e_appP, e_clrP, v_appEach0, v_appEach1, v_appEachM, e_forApp0, e_forApp1, e_AS, v_kFl, e_tpo, v_ixTp, fz_tp, f_rest_load_4c5b, b_rest_load_4c5b, e1, e2, ex, ei, kl]
theorem rest_frz {p q : Int} {ss : List Int} : frz (.n .tp [.f (.int p), .f (.int q), .n .lst (ss.map fun x => .f (.int x))]) = some (loadD p q ss) := by
  rw [fz_tp]
  have : frzs [Ow.f (.int p), .f (.int q), .n .lst (ss.map fun x => .f (.int x))] = some [.int p, .int q, .lst (ss.map .int)] := by
    rw [fzs_1, fzs_1, fzs_1l fzs_mapI rfl]
    rfl
  rw [this]
  rfl
end Ev
/-! law k05 -/
namespace Ev
open OW
open DL (Dt)
theorem load_smU {p q : Int} {ss : List Int} (h : LoadOk p q ss) : (loadD p q ss).Sm := ⟨Sz.bd h.szp (by decide), Sz.bd h.szq (by decide), DL.sm_ints fun x hx => Sz.bd (h.szs hx) (by decide), trivial⟩
theorem load_wtU {p q : Int} {ss : List Int} (h : LoadOk p q ss) : (loadD p q ss).wt ≤ 30000 := by
  show 1921 + 2 + (1921 + 2 + (DL.Dt.wtA (ss.map .int) + 2 + 2 + 0)) + 3 ≤ 30000
  have := h.l2
  rw [DL.wt_ints]
  omega
theorem load_depU {p q : Int} {ss : List Int} : (loadD p q ss).dep = 2 := by
  show max 0 (max 0 (max (DL.Dt.depA (ss.map .int) + 1) 0)) + 1 = 2
  rw [DL.dep_ints]
  rfl
theorem load_reprs {p q : Int} {ss : List Int} (h : LoadOk p q ss) : kRepr [loadD p q ss] = some (.f (.str (Dt.text (loadD p q ss)))) ∧ kRepr [.lst [loadD p q ss, loadD p q ss]] = some (.f (.str (Dt.text (.lst [loadD p q ss, loadD p q ss])))) := by
  have a := load_smU h
  have b := load_wtU h
  have c := load_depU (p := p) (q := q) (ss := ss)
  refine ⟨v_repr (DL.fits_of a (by omega) (by omega)) (.inr ⟨_, rfl⟩), v_repr (DL.fits_of ⟨a, a, trivial⟩ ?_ ?_) (.inl ⟨_, rfl⟩)⟩
  · show max (loadD p q ss).dep (max (loadD p q ss).dep 0) + 1 ≤ 100
    omega
  · show (loadD p q ss).wt + 2 + ((loadD p q ss).wt + 2 + 0) + 2 ≤ 16777216
    omega
/-! a drawn full load without a share that is the period -/
theorem least_ok {a span : Int} (a1 : 1 ≤ a) (a6 : a ≤ 6) (h : 2 ≤ span) : 1 ≤ -(-a * span / (span - 1)) ∧ -(-a * span / (span - 1)) ≤ 12 ∧ -(-a * span / (span - 1)) ≤ a * span ∧ a * span ≤ -(-a * span / (span - 1)) * (span - 1) := by
  obtain ⟨f, hf⟩ : ∃ f, f = span - 1 := ⟨_, rfl⟩
  obtain ⟨w, hw⟩ : ∃ w, w = a * span := ⟨_, rfl⟩
  have e : -a * span = -w := by rw [hw, Int.neg_mul]
  rw [e, ← hf, ← hw]
  have f1 : 1 ≤ f := by omega
  have ew : w = a * f + a := by rw [hw, show span = f + 1 by omega, Int.mul_add, Int.mul_one]
  obtain ⟨L, hL⟩ : ∃ L, L = -(-w / f) := ⟨_, rfl⟩
  rw [← hL]
  have d1 := Int.emod_add_mul_ediv (-w) f
  have d2 := Int.emod_nonneg (-w) (show f ≠ 0 by omega)
  have d3 := Int.emod_lt_of_pos (-w) (show 0 < f by omega)
  have d4 : f * (-w / f) = -(L * f) := by rw [show -w / f = -L by omega, Int.mul_neg, Int.mul_comm]
  rw [d4] at d1
  have up : w ≤ L * f := by omega
  have lo : L * f < w + f := by omega
  have af : a ≤ a * f := by
    have := Int.mul_le_mul_of_nonneg_left f1 (show 0 ≤ a by omega)
    omega
  have L2 : L ≤ 2 * a := by
    have h1 : L * f < (2 * a + 1) * f := by
      rw [Int.add_mul, Int.one_mul, Int.mul_assoc]
      omega
    have := Int.lt_of_mul_lt_mul_right h1 (by omega)
    omega
  have L1 : 0 < L := by
    have h1 : 0 * f < L * f := by omega
    exact Int.lt_of_mul_lt_mul_right h1 (by omega)
  omega
theorem parts_sameU : f__law_parts_64e2 = f__law_parts_6cc4 := rfl
theorem open_eval {s : Src} {far : Int} {n : Nat} (k : s.Ok n) (hn : n ≤ 10 ^ 13) (f1 : 1 ≤ far) (f2 : far ≤ MP - 1) : ∃ (p q : Int) (ss : List Int) (u : Src), LoadOk p q ss ∧ ss.sum = p * q ∧ q ∉ ss ∧ u.Ok (n + 20) ∧ f__law_open_596b [srcO s, .f (.int far)] = some (.rt (.f (loadD p q ss)) [srcO u, .no]) := by
  have ed1 := draw_ev k (by omega) (show (0 : Int) < 6 by decide) (bn_sz (by decide))
  have a1 := draw_lo s (show (0 : Int) < 6 by decide)
  have a2 := draw_hi s (show (0 : Int) < 6 by decide)
  have k1 := draw_ok k (show (0 : Int) < 6 by decide)
  generalize (draw s 6).1 = x at *
  generalize (draw s 6).2 = s1 at *
  haveI : Sz 150 far := sz_of (by omega) (by unfold MP at f2; omega)
  have ed2 := draw_ev k1 (by omega) (show 0 < far by omega) (bn_sz (n := 150) (by decide))
  have b1 := draw_lo s1 (show 0 < far by omega)
  have b2 := draw_hi s1 (show 0 < far by omega)
  have k2 := draw_ok k1 (show 0 < far by omega)
  generalize (draw s1 far).1 = y at *
  generalize (draw s1 far).2 = s2 at *
  obtain ⟨a, ha⟩ : ∃ a, a = 1 + x := ⟨_, rfl⟩
  obtain ⟨span, hs⟩ : ∃ span, span = 2 + y := ⟨_, rfl⟩
  have s2' : span ≤ MP := by omega
  obtain ⟨c1, c2, c3, c4⟩ := least_ok (a := a) (span := span) (by omega) (by omega) (by omega)
  obtain ⟨L, hL⟩ : ∃ L, L = -(-a * span / (span - 1)) := ⟨_, rfl⟩
  rw [← hL] at c1 c2 c3 c4
  have hp : 0 < min 12 (a * span) - L + 1 := by omega
  haveI : Sz 64 (min 12 (a * span) - L + 1) := sz_of (by omega) (by omega)
  have ed3 := draw_ev k2 (by omega) hp (bn_sz (n := 64) (by decide))
  have e1 := draw_lo s2 hp
  have e2 := draw_hi s2 hp
  have k3 := draw_ok k2 hp
  generalize (draw s2 (min 12 (a * span) - L + 1)).1 = z at *
  generalize (draw s2 (min 12 (a * span) - L + 1)).2 = s3 at *
  obtain ⟨m, hm⟩ : ∃ m : Nat, (m : Int) = L + z := ⟨(L + z).toNat, by omega⟩
  have fit : Fits (span - 1) m (a * span) := ⟨by omega, by
    have := Int.mul_le_mul_of_nonneg_right (show L ≤ (m : Int) by omega) (show 0 ≤ span - 1 by omega)
    omega⟩
  haveI : Sz 150 (span - 1) := sz_of (by omega) (by unfold MP at s2'; omega)
  have ep := parts_eval (far := span - 1) (many := m) (by omega) fit k3 (by omega) (by omega)
  rw [← parts_sameU, hm] at ep
  obtain ⟨i1, i2, i3, i4⟩ := parts_spec (show 1 ≤ span - 1 by omega) m (a * span) s3 (n + 1 + 1 + 1) fit k3
  generalize (parts (span - 1) m (a * span) s3).1 = ss at *
  generalize (parts (span - 1) m (a * span) s3).2 = u at *
  refine ⟨a, span, ss, u, ⟨by omega, by omega, by omega, s2', by omega, by omega, fun t ht => by have := i2 t ht; omega, by rw [i3]; exact Int.le_refl _⟩, i3, fun hq => by have := i2 _ hq; omega, i4.up (by omega), ?_⟩
  haveI : Sz 64 a := sz_of (by omega) (by omega)
  haveI : Sz 64 (-a) := sz_of (by omega) (by omega)
  haveI : Sz 150 span := sz_of (by omega) (by unfold MP at s2'; omega)
  have ba : Bn a = true := bn_sz (n := 64) (by decide)
  have ba' : Bn (-a) = true := bn_sz (n := 64) (by decide)
  have bs : Bn span = true := bn_sz (n := 150) (by decide)
  have bs' : Bn (span - 1) = true := bn_sz (n := 150) (by decide)
  have hL' : -(-(a * span) / (span - 1)) = L := by rw [hL, Int.neg_mul]
  unfold loadD
  simp (implicitDefEqProofs := false) (decide := true) (maxDischargeDepth := 9) [e_bnd, e_ret, e_opt, kO_s, kO_n, kO_i, kB_n, kB_o, kB_x, kB_i, e_val, kV_n, kV_o, kV_x, kV_i, e_seq, kS_n, kS_nx, kS_rt, kS_bk, kS_ct, kS_ex, kS_i, e_nil, e_pass, e_brk, e_cnt, e_sret, e_sretN, e_expr, e_if, e_set, e_par, e_par3, kP3_3, e_tgt, kTg_f, kTg_n, e_gN, e_gT, e_gs0, e_gs1, e_aug, kAg_i, e_app, kAp_l, e_item, e_for, e_forN, e_fn, kF_n, kF_nx, kF_rt, kF_ex, kF_i, e_outs0, e_outsT, e_outsF, e_K, e_Vf, e_Mf, e_bin, e_un, e_A0, e_A1, e_lst, e_tup, e_C, e_tV, kT_b, e_tAnd, e_tOr, e_tNot, e_xNot, kNt_b, e_xAnd, kAn_b, e_xOr, kOr_b, e_xIf, e_ch, kCh_i, kCz_i, e_is, e_Q, e_Rg1, e_Rg2, e_Sl, kSl_f, e_oN, e_oS, e_call, kA_rt, kA_ex, kA_n, kA_i, e_R0, e_Rv, e_Ri, e_callK, kCK_f, e_take0, e_takeV, e_takeI, e_put0, e_putV, e_putI, fz_f, fz_l, fzs_0, fzs_1, fzs_map, fzs_mapI, fzs_1l, e_b1, e_b2, e_b2g, e_bs, v_bn, v_add, v_sub, v_mul, v_div, v_mod, v_pow, v_neg, v_catNN, v_catFN, v_catNF, v_catFF, v_rep, v_lt, v_le, v_gt, v_ge, v_is, v_isN, v_isO, v_isNO, v_non, v_nonI, v_nonL, v_nonT, v_nonB, v_eqI, v_neI, v_eqS, v_neS, v_lenL, v_lenT, v_abs, v_max2, v_min2, v_min3, v_intsM, v_ints0, v_ints1, v_blsM, v_blsF, v_intsF, v_maxL, v_minL, v_sum, v_sort, v_all, v_any, v_int, v_intB, v_list, v_listT, v_tuple, v_kIsN, v_kIsI, v_kIsL, v_kIsT, v_kIsB, v_isInt, v_isBool, v_isLst, v_isTup, v_repr, v_at, v_atL, v_atN, v_ixT, v_ixL, v_ixN, e_qK, e_qV, v_gKd, v_gOs, v_gLs, v_gDs, v_gDsT, v_gF, v_gI, v_isNn, e_Vn', e_Mn', v_isNo1, v_isNo2, e_pV, e_qIxF, e_qIxN, e_qI, e_qB, e_get, kIt_l', v_ixLit, v_ix0, v_at0, v_at1, v_ix1, e_apply', e_eB, e_cK, e_cT1, e_cT2, e_cTb, e_wipe0, e_wipe1, e_back0, e_back1, v_bkF, v_bkNo, v_bkN, v_tY, v_Vg, v_atLast, v_ixS, v_setLast, v_fzSnoc, v_fzSnocC, v_LIM, v_fzF, v_fzC, v_fzFF, v_intsC, v_blsC, e_SrtSet, v_ss, e_tup2, kT2_2, v_minPI, v_minPP, v_isB, e_tBor, kTb_o, v_frzS_f, v_frzS_no, v_frzS_n, e_appP, e_clrP, v_appEach0, v_appEach1, v_appEachM, e_forApp0, e_forApp1, e_AS, v_kFl, e_tpo, v_ixTp, fz_tp, f__law_open_596b, b__law_open_596b, ed1, ed2, ← ha, ← hs, ba, ba', bs, bs', hL', ← hL, ed3, ep, srcO_no, show 1 < span by omega]
end Ev
namespace Ev
open OW
open DL (Dt)
def kBr (ρ : Ev) : Option (Rs Ow) → Option (Rs Ow)
  | some (.ok o _) => if safe o then some (.ok o ρ) else none
  | _ => none
theorem e_xBor {f : Fn Ow} {ρ : Ev} : xBor f ρ = kBr ρ (f (ρ.map frzS)) := rfl
theorem kBr_b {ρ ρ1 : Ev} {b : Bool} : kBr ρ (some (.ok (.f (.bl b)) ρ1)) = some (.ok (.f (.bl b)) ρ) := by
  unfold kBr
  simp [safe, scal]
def tpO (p q : Int) (R : List Ow) : Ow := .n .tp [.f (.int p), .f (.int q), .n .lst R]
theorem fzs_c {o : Ow} {os : List Ow} {d : Dt} (h : frz o = some d) : frzs (o :: os) = (frzs os).map fun ds => d :: ds := by
  conv => lhs; unfold frzs
  rw [h]
  cases frzs os <;> rfl
theorem tp_no {p q : Int} {R : List Ow} : tpO p q R ≠ .no := fun h => by cases h
theorem app05 {R : List Ow} {p q : Int} {T : Ow} {o0 o1 o2 o3 o4 o5 o6 o7 o9 o10 o11 o12 o13 o14 : Ow} (hR : R.length < 1000000) : sAppP (pI (pI (pV 8) (qK (.int 0))) (qK (.int 2))) (qK .non) [o0, o1, o2, o3, o4, o5, o6, o7, .n .lst [tpO p q R, T], o9, o10, o11, o12, o13, o14] = some (.nx [o0, o1, o2, o3, o4, o5, o6, o7, .n .lst [tpO p q (R ++ [.f .non]), T], o9, o10, o11, o12, o13, o14]) := by
  show (if R.length < LIM then _ else none) = _
  rw [if_pos (show R.length < LIM from hR)]
  rfl
theorem clr05 {R : List Ow} {p q : Int} {T : Ow} {o0 o1 o2 o3 o4 o5 o6 o7 o9 o10 o11 o12 o13 o14 : Ow} : sClr (pI (pI (pV 8) (qK (.int 1))) (qK (.int 2))) [o0, o1, o2, o3, o4, o5, o6, o7, .n .lst [T, tpO p q R], o9, o10, o11, o12, o13, o14] = some (.nx [o0, o1, o2, o3, o4, o5, o6, o7, .n .lst [T, tpO p q []], o9, o10, o11, o12, o13, o14]) := rfl
theorem due_neg {s q t : Int} (hq : 0 < q) : (q - s) * t / q = t - upI s q t ∧ upI (q - s) q t = t - s * t / q := by
  unfold upI
  have e1 : (q - s) * t = -s * t + t * q := by rw [Int.sub_mul, Int.neg_mul, Int.mul_comm q t]; omega
  have e2 : -(q - s) * t = s * t + (-t) * q := by rw [Int.neg_mul, Int.sub_mul, Int.neg_mul, Int.mul_comm q t]; omega
  rw [e1, e2, Int.add_mul_ediv_right _ _ (by omega), Int.add_mul_ediv_right _ _ (by omega)]
  omega
theorem turns05 {p q : Int} {ss : List Int} {s : Src} {n : Nat} {o1 o3 o4 o5 o8 : Ow} (h : LoadOk p q ss) (hr : LoadOk ((ss.length : Int) - p) q (negL q ss)) (k : s.Ok n) (hn : n ≤ 10 ^ 12) : ∃ ρ,
    l1__law_right_85bb [srcO s, o1, .f (loadD p q ss), o3, o4, o5, .f (.lst (ss.map .int)), .f (loadD ((ss.length : Int) - p) q (negL q ss)), o8, .no, .no, .no, .no, .no, .no] = some (.nx ρ) ∧ ∃ u o9 o10 o11 o12 o13, u.Ok (n + 6) ∧ ρ = [srcO u, o1, .f (loadD p q ss), o3, o4, o5, .f (.lst (ss.map .int)), .f (loadD ((ss.length : Int) - p) q (negL q ss)), o8, o9, o10, o11, o12, o13, .no] := by
  have l1 := h.l1
  have l2 := h.l2
  have q1 := h.q1
  refine wp_nx ?_
  unfold l1__law_right_85bb
  rw [e_for, iR1_f (n := 3) (ρ1 := [srcO s, o1, .f (loadD p q ss), o3, o4, o5, .f (.lst (ss.map .int)), .f (loadD ((ss.length : Int) - p) q (negL q ss)), o8, .no, .no, .no, .no, .no, .no]) (by simp (implicitDefEqProofs := false) (decide := true) (maxDischargeDepth := 9) [e_bnd, e_ret, e_opt, kO_s, kO_n, kO_i, kB_n, kB_o, kB_x, kB_i, e_val, kV_n, kV_o, kV_x, kV_i, e_seq, kS_n, kS_nx, kS_rt, kS_bk, kS_ct, kS_ex, kS_i, e_nil, e_pass, e_brk, e_cnt, e_sret, e_sretN, e_expr, e_if, e_set, e_par, e_par3, kP3_3, e_tgt, kTg_f, kTg_n, e_gN, e_gT, e_gs0, e_gs1, e_aug, kAg_i, e_app, kAp_l, e_item, e_for, e_forN, e_fn, kF_n, kF_nx, kF_rt, kF_ex, kF_i, e_outs0, e_outsT, e_outsF, e_K, e_Vf, e_Mf, e_bin, e_un, e_A0, e_A1, e_lst, e_tup, e_C, e_tV, kT_b, e_tAnd, e_tOr, e_tNot, e_xNot, kNt_b, e_xAnd, kAn_b, e_xOr, kOr_b, e_xIf, e_ch, kCh_i, kCz_i, e_is, e_Q, e_Rg1, e_Rg2, e_Sl, kSl_f, e_oN, e_oS, e_call, kA_rt, kA_ex, kA_n, kA_i, e_R0, e_Rv, e_Ri, e_callK, kCK_f, e_take0, e_takeV, e_takeI, e_put0, e_putV, e_putI, fz_f, fz_l, fzs_0, fzs_1, fzs_map, fzs_mapI, fzs_1l, e_b1, e_b2, e_b2g, e_bs, v_bn, v_add, v_sub, v_mul, v_div, v_mod, v_pow, v_neg, v_catNN, v_catFN, v_catNF, v_catFF, v_rep, v_lt, v_le, v_gt, v_ge, v_is, v_isN, v_isO, v_isNO, v_non, v_nonI, v_nonL, v_nonT, v_nonB, v_eqI, v_neI, v_eqS, v_neS, v_lenL, v_lenT, v_abs, v_max2, v_min2, v_min3, v_intsM, v_ints0, v_ints1, v_blsM, v_blsF, v_intsF, v_maxL, v_minL, v_sum, v_sort, v_all, v_any, v_int, v_intB, v_list, v_listT, v_tuple, v_kIsN, v_kIsI, v_kIsL, v_kIsT, v_kIsB, v_isInt, v_isBool, v_isLst, v_isTup, v_repr, v_at, v_atL, v_atN, v_ixT, v_ixL, v_ixN, e_qK, e_qV, v_gKd, v_gOs, v_gLs, v_gDs, v_gDsT, v_gF, v_gI, v_isNn, e_Vn', e_Mn', v_isNo1, v_isNo2, e_pV, e_qIxF, e_qIxN, e_qI, e_qB, e_get, kIt_l', v_ixLit, v_ix0, v_at0, v_at1, v_ix1, e_apply', e_eB, e_cK, e_cT1, e_cT2, e_cTb, e_wipe0, e_wipe1, e_back0, e_back1, v_bkF, v_bkNo, v_bkN, v_tY, v_Vg, v_atLast, v_ixS, v_setLast, v_fzSnoc, v_fzSnocC, v_LIM, v_fzF, v_fzC, v_fzFF, v_intsC, v_blsC, e_SrtSet, v_ss, e_tup2, kT2_2, v_minPI, v_minPP, v_isB, e_tBor, kTb_o, v_frzS_f, v_frzS_no, v_frzS_n, e_appP, e_clrP, v_appEach0, v_appEach1, v_appEachM, e_forApp0, e_forApp1, e_AS, v_kFl, e_tpo, v_ixTp, fz_tp, ]), kV_o]
  refine w_for (fun j ρ => ∃ u o9 o10 o11 o12 o13, u.Ok (n + j * 2) ∧ ρ = [srcO u, o1, .f (loadD p q ss), o3, o4, o5, .f (.lst (ss.map .int)), .f (loadD ((ss.length : Int) - p) q (negL q ss)), o8, o9, o10, o11, o12, o13, .no]) ⟨s, _, _, _, _, _, k, rfl⟩ ?_ ?_
  · intro j d ρ hd ⟨u, o9, o10, o11, o12, o13, ku, e⟩
    subst e
    obtain ⟨hj, rfl⟩ := rng_at hd
    have hj : j < 3 := hj
    refine ⟨[srcO u, o1, .f (loadD p q ss), o3, o4, o5, .f (.lst (ss.map .int)), .f (loadD ((ss.length : Int) - p) q (negL q ss)), o8, .f (.int j), o10, o11, o12, o13, .no], by simp (implicitDefEqProofs := false) (decide := true) (maxDischargeDepth := 9) [e_bnd, e_ret, e_opt, kO_s, kO_n, kO_i, kB_n, kB_o, kB_x, kB_i, e_val, kV_n, kV_o, kV_x, kV_i, e_seq, kS_n, kS_nx, kS_rt, kS_bk, kS_ct, kS_ex, kS_i, e_nil, e_pass, e_brk, e_cnt, e_sret, e_sretN, e_expr, e_if, e_set, e_par, e_par3, kP3_3, e_tgt, kTg_f, kTg_n, e_gN, e_gT, e_gs0, e_gs1, e_aug, kAg_i, e_app, kAp_l, e_item, e_for, e_forN, e_fn, kF_n, kF_nx, kF_rt, kF_ex, kF_i, e_outs0, e_outsT, e_outsF, e_K, e_Vf, e_Mf, e_bin, e_un, e_A0, e_A1, e_lst, e_tup, e_C, e_tV, kT_b, e_tAnd, e_tOr, e_tNot, e_xNot, kNt_b, e_xAnd, kAn_b, e_xOr, kOr_b, e_xIf, e_ch, kCh_i, kCz_i, e_is, e_Q, e_Rg1, e_Rg2, e_Sl, kSl_f, e_oN, e_oS, e_call, kA_rt, kA_ex, kA_n, kA_i, e_R0, e_Rv, e_Ri, e_callK, kCK_f, e_take0, e_takeV, e_takeI, e_put0, e_putV, e_putI, fz_f, fz_l, fzs_0, fzs_1, fzs_map, fzs_mapI, fzs_1l, e_b1, e_b2, e_b2g, e_bs, v_bn, v_add, v_sub, v_mul, v_div, v_mod, v_pow, v_neg, v_catNN, v_catFN, v_catNF, v_catFF, v_rep, v_lt, v_le, v_gt, v_ge, v_is, v_isN, v_isO, v_isNO, v_non, v_nonI, v_nonL, v_nonT, v_nonB, v_eqI, v_neI, v_eqS, v_neS, v_lenL, v_lenT, v_abs, v_max2, v_min2, v_min3, v_intsM, v_ints0, v_ints1, v_blsM, v_blsF, v_intsF, v_maxL, v_minL, v_sum, v_sort, v_all, v_any, v_int, v_intB, v_list, v_listT, v_tuple, v_kIsN, v_kIsI, v_kIsL, v_kIsT, v_kIsB, v_isInt, v_isBool, v_isLst, v_isTup, v_repr, v_at, v_atL, v_atN, v_ixT, v_ixL, v_ixN, e_qK, e_qV, v_gKd, v_gOs, v_gLs, v_gDs, v_gDsT, v_gF, v_gI, v_isNn, e_Vn', e_Mn', v_isNo1, v_isNo2, e_pV, e_qIxF, e_qIxN, e_qI, e_qB, e_get, kIt_l', v_ixLit, v_ix0, v_at0, v_at1, v_ix1, e_apply', e_eB, e_cK, e_cT1, e_cT2, e_cTb, e_wipe0, e_wipe1, e_back0, e_back1, v_bkF, v_bkNo, v_bkN, v_tY, v_Vg, v_atLast, v_ixS, v_setLast, v_fzSnoc, v_fzSnocC, v_LIM, v_fzF, v_fzC, v_fzFF, v_intsC, v_blsC, e_SrtSet, v_ss, e_tup2, kT2_2, v_minPI, v_minPP, v_isB, e_tBor, kTb_o, v_frzS_f, v_frzS_no, v_frzS_n, e_appP, e_clrP, v_appEach0, v_appEach1, v_appEachM, e_forApp0, e_forApp1, e_AS, v_kFl, e_tpo, v_ixTp, fz_tp, ], ?_⟩
    have hp : 0 < (ss.length : Int) := by omega
    haveI : Sz 64 (ss.length : Int) := sz_of (by omega) (by omega)
    have ed1 := draw_ev ku (by omega) hp (bn_sz (n := 64) (by decide))
    have a1 := draw_lo u hp
    have a2 := draw_hi u hp
    have k1 := draw_ok ku hp
    generalize (draw u ss.length).1 = x at *
    generalize (draw u ss.length).2 = u1 at *
    obtain ⟨i, rfl⟩ : ∃ i : Nat, x = (i : Int) := ⟨x.toNat, by omega⟩
    have ed2 := draw_ev k1 (by omega) (show (0 : Int) < 1000000000000000000000000000000 by decide) (bn_sz (n := 150) (i := 1000000000000000000000000000000) (h := sz_of (by decide) (by decide)) (by decide))
    have b1 := draw_lo u1 (show (0 : Int) < 1000000000000000000000000000000 by decide)
    have b2 := draw_hi u1 (show (0 : Int) < 1000000000000000000000000000000 by decide)
    have k2 := draw_ok k1 (show (0 : Int) < 1000000000000000000000000000000 by decide)
    generalize (draw u1 1000000000000000000000000000000).1 = t at *
    generalize (draw u1 1000000000000000000000000000000).2 = u2 at *
    have g : ss[i]? = some (ss.getD i 0) := getE_some (by omega)
    have g2 : (negL q ss)[i]? = some (q - ss.getD i 0) := by unfold negL; rw [List.getElem?_map, g]; rfl
    have hs := h.sh _ (List.mem_of_getElem? g)
    haveI st : Sz 150 t := sz_of (by omega) (by omega)
    have e1 := due_counts_eval h g b1 st
    have e2 := due_counts_eval hr g2 b1 st
    obtain ⟨n1, n2⟩ := due_neg (s := ss.getD i 0) (q := q) (t := t) (by omega)
    rw [n1, n2] at e2
    have lo : 0 ≤ ss.getD i 0 * t / q := Int.ediv_nonneg (Int.mul_nonneg (by omega) b1) (by omega)
    have hi : ss.getD i 0 * t / q ≤ t := by
      have z := Int.mul_le_mul_of_nonneg_right hs.2 b1
      exact Int.ediv_le_of_le_mul (by omega) (by rw [Int.mul_comm t q]; exact z)
    have lo2 : 0 ≤ upI (ss.getD i 0) q t := by
      unfold upI
      have z : -ss.getD i 0 * t ≤ 0 := by
        rw [Int.neg_mul]
        have := Int.mul_nonneg (show 0 ≤ ss.getD i 0 by omega) b1
        omega
      have : -ss.getD i 0 * t / q ≤ 0 := Int.ediv_nonpos_of_nonpos_of_neg z (by omega)
      omega
    have hi2 : upI (ss.getD i 0) q t ≤ t := by
      unfold upI
      have z := Int.mul_le_mul_of_nonneg_right hs.2 b1
      have w : -t ≤ -ss.getD i 0 * t / q := by
        refine (Int.le_ediv_iff_mul_le (by omega)).mpr ?_
        rw [Int.neg_mul, Int.neg_mul, Int.mul_comm t q]
        omega
      omega
    have s1 : Sz 150 (t - upI (ss.getD i 0) q t) := sz_of (by omega) (by omega)
    have s2 : Sz 150 (t - ss.getD i 0 * t / q) := sz_of (by omega) (by omega)
    have en := ne_same (x := .f (.tup [.int (t - upI (ss.getD i 0) q t), .int (t - ss.getD i 0 * t / q)])) (y := .f (.tup [.int (t - upI (ss.getD i 0) q t), .int (t - ss.getD i 0 * t / q)])) rfl rfl ⟨Sz.bd s1 (by decide), Sz.bd s2 (by decide), trivial⟩ (by show max 0 (max 0 0) + 1 ≤ 64; decide)
    have kl : kLen [.lst (ss.map .int)] = some (.f (.int (ss.length : Int))) := by rw [v_lenL, List.length_map]
    refine wp_eq (.nx [srcO u2, o1, .f (loadD p q ss), o3, o4, o5, .f (.lst (ss.map .int)), .f (loadD ((ss.length : Int) - p) q (negL q ss)), o8, .f (.int j), .f (.int i), .f (.int t), .f (.int (ss.getD i 0 * t / q)), .f (.int (upI (ss.getD i 0) q t)), .no]) ?_ ⟨u2, _, _, _, _, _, k2.up (by omega), rfl⟩
    clear a1 a2 g g2 n1 n2 lo hi lo2 hi2
    generalize loadD ((ss.length : Int) - p) q (negL q ss) = L2 at *
    generalize loadD p q ss = L1 at *
    generalize ss.map Dt.int = S at *
    generalize ss.getD i 0 * t / q = c1 at *
    generalize upI (ss.getD i 0) q t = c2 at *
    generalize (ss.length : Int) = M at *
    generalize (i : Int) = ii at *
    simp (implicitDefEqProofs := false) (decide := true) (maxDischargeDepth := 9) [e_bnd, e_ret, e_opt, kO_s, kO_n, kO_i, kB_n, kB_o, kB_x, kB_i, e_val, kV_n, kV_o, kV_x, kV_i, e_seq, kS_n, kS_nx, kS_rt, kS_bk, kS_ct, kS_ex, kS_i, e_nil, e_pass, e_brk, e_cnt, e_sret, e_sretN, e_expr, e_if, e_set, e_par, e_par3, kP3_3, e_tgt, kTg_f, kTg_n, e_gN, e_gT, e_gs0, e_gs1, e_aug, kAg_i, e_app, kAp_l, e_item, e_for, e_forN, e_fn, kF_n, kF_nx, kF_rt, kF_ex, kF_i, e_outs0, e_outsT, e_outsF, e_K, e_Vf, e_Mf, e_bin, e_un, e_A0, e_A1, e_lst, e_tup, e_C, e_tV, kT_b, e_tAnd, e_tOr, e_tNot, e_xNot, kNt_b, e_xAnd, kAn_b, e_xOr, kOr_b, e_xIf, e_ch, kCh_i, kCz_i, e_is, e_Q, e_Rg1, e_Rg2, e_Sl, kSl_f, e_oN, e_oS, e_call, kA_rt, kA_ex, kA_n, kA_i, e_R0, e_Rv, e_Ri, e_callK, kCK_f, e_take0, e_takeV, e_takeI, e_put0, e_putV, e_putI, fz_f, fz_l, fzs_0, fzs_1, fzs_map, fzs_mapI, fzs_1l, e_b1, e_b2, e_b2g, e_bs, v_bn, v_add, v_sub, v_mul, v_div, v_mod, v_pow, v_neg, v_catNN, v_catFN, v_catNF, v_catFF, v_rep, v_lt, v_le, v_gt, v_ge, v_is, v_isN, v_isO, v_isNO, v_non, v_nonI, v_nonL, v_nonT, v_nonB, v_eqI, v_neI, v_eqS, v_neS, v_lenL, v_lenT, v_abs, v_max2, v_min2, v_min3, v_intsM, v_ints0, v_ints1, v_blsM, v_blsF, v_intsF, v_maxL, v_minL, v_sum, v_sort, v_all, v_any, v_int, v_intB, v_list, v_listT, v_tuple, v_kIsN, v_kIsI, v_kIsL, v_kIsT, v_kIsB, v_isInt, v_isBool, v_isLst, v_isTup, v_repr, v_at, v_atL, v_atN, v_ixT, v_ixL, v_ixN, e_qK, e_qV, v_gKd, v_gOs, v_gLs, v_gDs, v_gDsT, v_gF, v_gI, v_isNn, e_Vn', e_Mn', v_isNo1, v_isNo2, e_pV, e_qIxF, e_qIxN, e_qI, e_qB, e_get, kIt_l', v_ixLit, v_ix0, v_at0, v_at1, v_ix1, e_apply', e_eB, e_cK, e_cT1, e_cT2, e_cTb, e_wipe0, e_wipe1, e_back0, e_back1, v_bkF, v_bkNo, v_bkN, v_tY, v_Vg, v_atLast, v_ixS, v_setLast, v_fzSnoc, v_fzSnocC, v_LIM, v_fzF, v_fzC, v_fzFF, v_intsC, v_blsC, e_SrtSet, v_ss, e_tup2, kT2_2, v_minPI, v_minPP, v_isB, e_tBor, kTb_o, v_frzS_f, v_frzS_no, v_frzS_n, e_appP, e_clrP, v_appEach0, v_appEach1, v_appEachM, e_forApp0, e_forApp1, e_AS, v_kFl, e_tpo, v_ixTp, fz_tp, ed1, ed2, e1, e2, en, kl, srcO_no]
  · intro ρ ⟨u, o9, o10, o11, o12, o13, ku, e⟩
    have hl : ((DL.rng 0 (3 : Int).toNat).map Dt.int).length = 3 := by rw [List.length_map, DL.rng_length]; rfl
    rw [hl] at ku
    exact ⟨u, o9, o10, o11, o12, o13, ku, e⟩
theorem right05_eval {s : Src} {far : Int} {n : Nat} (k : s.Ok n) (hn : n ≤ 10 ^ 12 - 100) (f1 : 1 ≤ far) (f2 : far ≤ MP - 1) : ∃ u : Src, u.Ok (n + 30) ∧ f__law_right_85bb [srcO s, .f (.int far)] = some (.rt (.f (.bl true)) [srcO u, .no]) := by
  obtain ⟨p, q, ss, s1, lo, sm, nq, k1, e1⟩ := open_eval k (by omega) f1 f2
  obtain ⟨lr, sr, nr⟩ := rest_ok lo sm nq
  have l2 := lo.l2
  obtain ⟨ra, rb⟩ := load_reprs lo
  obtain ⟨rc, rd⟩ := load_reprs lr
  have er := rest_eval lo sm nq
  have er2 := rest_eval lr sr nr
  rw [negL_neg, negL_len, show (ss.length : Int) - ((ss.length : Int) - p) = p by omega] at er2
  have il := is_load_eval lr
  have ifl := is_full_eval lr
  rw [decide_eq_true sr] at ifl
  obtain ⟨ρ, et, u, o9, o10, o11, o12, o13, ku, rfl⟩ := turns05 (o1 := .f (.int far)) (o3 := .f (.str (Dt.text (loadD p q ss)))) (o4 := .f (.int p)) (o5 := .f (.int q)) (o8 := .n .lst [tpO ((ss.length : Int) - p) q ((negL q ss).map fun x => .f (.int x)), tpO ((ss.length : Int) - p) q ((negL q ss).map fun x => .f (.int x))]) lo lr k1 (by omega)
  have ex : x1__law_right_85bb [srcO s1, .f (.int far), .f (loadD p q ss), .f (.str (Dt.text (loadD p q ss))), .f (.int p), .f (.int q), .f (.lst (ss.map .int)), .no, .no, .no, .no, .no, .no, .no, .no] = some (.ok (.n .lst ((negL q ss).map fun x => .f (.int x))) [srcO s1, .f (.int far), .f (loadD p q ss), .f (.str (Dt.text (loadD p q ss))), .f (.int p), .f (.int q), .f (.lst (ss.map .int)), .no, .no, .no, .no, .no, .no, .no, .no]) := by
    unfold negL
    rw [List.map_map]
    unfold x1__law_right_85bb
    refine comp_mapT (l := ss) (g := .int) (iL_f (ds := ss.map .int) (by simp (implicitDefEqProofs := false) (decide := true) (maxDischargeDepth := 9) [e_bnd, e_ret, e_opt, kO_s, kO_n, kO_i, kB_n, kB_o, kB_x, kB_i, e_val, kV_n, kV_o, kV_x, kV_i, e_seq, kS_n, kS_nx, kS_rt, kS_bk, kS_ct, kS_ex, kS_i, e_nil, e_pass, e_brk, e_cnt, e_sret, e_sretN, e_expr, e_if, e_set, e_par, e_par3, kP3_3, e_tgt, kTg_f, kTg_n, e_gN, e_gT, e_gs0, e_gs1, e_aug, kAg_i, e_app, kAp_l, e_item, e_for, e_forN, e_fn, kF_n, kF_nx, kF_rt, kF_ex, kF_i, e_outs0, e_outsT, e_outsF, e_K, e_Vf, e_Mf, e_bin, e_un, e_A0, e_A1, e_lst, e_tup, e_C, e_tV, kT_b, e_tAnd, e_tOr, e_tNot, e_xNot, kNt_b, e_xAnd, kAn_b, e_xOr, kOr_b, e_xIf, e_ch, kCh_i, kCz_i, e_is, e_Q, e_Rg1, e_Rg2, e_Sl, kSl_f, e_oN, e_oS, e_call, kA_rt, kA_ex, kA_n, kA_i, e_R0, e_Rv, e_Ri, e_callK, kCK_f, e_take0, e_takeV, e_takeI, e_put0, e_putV, e_putI, fz_f, fz_l, fzs_0, fzs_1, fzs_map, fzs_mapI, fzs_1l, e_b1, e_b2, e_b2g, e_bs, v_bn, v_add, v_sub, v_mul, v_div, v_mod, v_pow, v_neg, v_catNN, v_catFN, v_catNF, v_catFF, v_rep, v_lt, v_le, v_gt, v_ge, v_is, v_isN, v_isO, v_isNO, v_non, v_nonI, v_nonL, v_nonT, v_nonB, v_eqI, v_neI, v_eqS, v_neS, v_lenL, v_lenT, v_abs, v_max2, v_min2, v_min3, v_intsM, v_ints0, v_ints1, v_blsM, v_blsF, v_intsF, v_maxL, v_minL, v_sum, v_sort, v_all, v_any, v_int, v_intB, v_list, v_listT, v_tuple, v_kIsN, v_kIsI, v_kIsL, v_kIsT, v_kIsB, v_isInt, v_isBool, v_isLst, v_isTup, v_repr, v_at, v_atL, v_atN, v_ixT, v_ixL, v_ixN, e_qK, e_qV, v_gKd, v_gOs, v_gLs, v_gDs, v_gDsT, v_gF, v_gI, v_isNn, e_Vn', e_Mn', v_isNo1, v_isNo2, e_pV, e_qIxF, e_qIxN, e_qI, e_qB, e_get, kIt_l', v_ixLit, v_ix0, v_at0, v_at1, v_ix1, e_apply', e_eB, e_cK, e_cT1, e_cT2, e_cTb, e_wipe0, e_wipe1, e_back0, e_back1, v_bkF, v_bkNo, v_bkN, v_tY, v_Vg, v_atLast, v_ixS, v_setLast, v_fzSnoc, v_fzSnocC, v_LIM, v_fzF, v_fzC, v_fzFF, v_intsC, v_blsC, e_SrtSet, v_ss, e_tup2, kT2_2, v_minPI, v_minPP, v_isB, e_tBor, kTb_o, v_frzS_f, v_frzS_no, v_frzS_n, e_appP, e_clrP, v_appEach0, v_appEach1, v_appEachM, e_forApp0, e_forApp1, e_AS, v_kFl, e_tpo, v_ixTp, fz_tp, ])) rfl (by unfold LIM; omega) fun x hx => ?_
    simp (implicitDefEqProofs := false) (decide := true) (maxDischargeDepth := 9) [e_bnd, e_ret, e_opt, kO_s, kO_n, kO_i, kB_n, kB_o, kB_x, kB_i, e_val, kV_n, kV_o, kV_x, kV_i, e_seq, kS_n, kS_nx, kS_rt, kS_bk, kS_ct, kS_ex, kS_i, e_nil, e_pass, e_brk, e_cnt, e_sret, e_sretN, e_expr, e_if, e_set, e_par, e_par3, kP3_3, e_tgt, kTg_f, kTg_n, e_gN, e_gT, e_gs0, e_gs1, e_aug, kAg_i, e_app, kAp_l, e_item, e_for, e_forN, e_fn, kF_n, kF_nx, kF_rt, kF_ex, kF_i, e_outs0, e_outsT, e_outsF, e_K, e_Vf, e_Mf, e_bin, e_un, e_A0, e_A1, e_lst, e_tup, e_C, e_tV, kT_b, e_tAnd, e_tOr, e_tNot, e_xNot, kNt_b, e_xAnd, kAn_b, e_xOr, kOr_b, e_xIf, e_ch, kCh_i, kCz_i, e_is, e_Q, e_Rg1, e_Rg2, e_Sl, kSl_f, e_oN, e_oS, e_call, kA_rt, kA_ex, kA_n, kA_i, e_R0, e_Rv, e_Ri, e_callK, kCK_f, e_take0, e_takeV, e_takeI, e_put0, e_putV, e_putI, fz_f, fz_l, fzs_0, fzs_1, fzs_map, fzs_mapI, fzs_1l, e_b1, e_b2, e_b2g, e_bs, v_bn, v_add, v_sub, v_mul, v_div, v_mod, v_pow, v_neg, v_catNN, v_catFN, v_catNF, v_catFF, v_rep, v_lt, v_le, v_gt, v_ge, v_is, v_isN, v_isO, v_isNO, v_non, v_nonI, v_nonL, v_nonT, v_nonB, v_eqI, v_neI, v_eqS, v_neS, v_lenL, v_lenT, v_abs, v_max2, v_min2, v_min3, v_intsM, v_ints0, v_ints1, v_blsM, v_blsF, v_intsF, v_maxL, v_minL, v_sum, v_sort, v_all, v_any, v_int, v_intB, v_list, v_listT, v_tuple, v_kIsN, v_kIsI, v_kIsL, v_kIsT, v_kIsB, v_isInt, v_isBool, v_isLst, v_isTup, v_repr, v_at, v_atL, v_atN, v_ixT, v_ixL, v_ixN, e_qK, e_qV, v_gKd, v_gOs, v_gLs, v_gDs, v_gDsT, v_gF, v_gI, v_isNn, e_Vn', e_Mn', v_isNo1, v_isNo2, e_pV, e_qIxF, e_qIxN, e_qI, e_qB, e_get, kIt_l', v_ixLit, v_ix0, v_at0, v_at1, v_ix1, e_apply', e_eB, e_cK, e_cT1, e_cT2, e_cTb, e_wipe0, e_wipe1, e_back0, e_back1, v_bkF, v_bkNo, v_bkN, v_tY, v_Vg, v_atLast, v_ixS, v_setLast, v_fzSnoc, v_fzSnocC, v_LIM, v_fzF, v_fzC, v_fzFF, v_intsC, v_blsC, e_SrtSet, v_ss, e_tup2, kT2_2, v_minPI, v_minPP, v_isB, e_tBor, kTb_o, v_frzS_f, v_frzS_no, v_frzS_n, e_appP, e_clrP, v_appEach0, v_appEach1, v_appEachM, e_forApp0, e_forApp1, e_AS, v_kFl, e_tpo, v_ixTp, fz_tp, ]
  have kl : kLen [.lst (ss.map .int)] = some (.f (.int (ss.length : Int))) := by rw [v_lenL, List.length_map]
  have hR : ((negL q ss).map fun x => Ow.f (.int x)).length < 1000000 := by rw [List.length_map, negL_len]; omega
  have fR : frz (tpO ((ss.length : Int) - p) q ((negL q ss).map fun x => .f (.int x))) = some (loadD ((ss.length : Int) - p) q (negL q ss)) := rest_frz
  have fR1 : frz (.n .tp [.f (.int p), .f (.int q), .n .lst (ss.map fun x => .f (.int x))]) = some (loadD p q ss) := rest_frz
  have fT : frz (.n .lst [tpO ((ss.length : Int) - p) q ((negL q ss).map fun x => .f (.int x)), tpO ((ss.length : Int) - p) q ((negL q ss).map fun x => .f (.int x))]) = some (.lst [loadD ((ss.length : Int) - p) q (negL q ss), loadD ((ss.length : Int) - p) q (negL q ss)]) := by
    rw [fz_l]
    have : frzs [tpO ((ss.length : Int) - p) q ((negL q ss).map fun x => .f (.int x)), tpO ((ss.length : Int) - p) q ((negL q ss).map fun x => .f (.int x))] = some [loadD ((ss.length : Int) - p) q (negL q ss), loadD ((ss.length : Int) - p) q (negL q ss)] := by
      unfold frzs
      rw [fR]
      unfold frzs
      rw [fR]
      rfl
    rw [this]
    rfl
  refine ⟨u, ku.up (by omega), ?_⟩
  have er' : f_rest_load_4c5b [.f (loadD p q ss)] = some (.rt (tpO ((ss.length : Int) - p) q ((negL q ss).map fun x => .f (.int x))) [.no]) := er
  have er2' : f_rest_load_4c5b [.f (loadD ((ss.length : Int) - p) q (negL q ss))] = some (.rt (tpO p q (ss.map fun x => .f (.int x))) [.no]) := er2
  have fz1 := fun os => fzs_c (os := os) fR
  have fz2 := fun os => fzs_c (os := os) (show frz (tpO p q (ss.map fun x => .f (.int x))) = some (loadD p q ss) from fR1)
  have hD2 : Dt.tup [.int ((ss.length : Int) - p), .int q, .lst ((negL q ss).map .int)] = loadD ((ss.length : Int) - p) q (negL q ss) := rfl
  have fzR : frzs ((negL q ss).map fun x => Ow.f (.int x)) = some ((negL q ss).map .int) := fzs_mapI
  have q20 : ∀ (o0 o1 o3 o4 o5 o6 o7 o8 o9 o10 o11 o12 o13 o14 : Ow) (k : Int) (d : Dt), L2.atI [.int p, .int q, .lst (ss.map .int)] k = some d → qIx (pV 2) (qK (.int k)) [o0, o1, .f (loadD p q ss), o3, o4, o5, o6, o7, o8, o9, o10, o11, o12, o13, o14] = some d := fun _ _ _ _ _ _ _ _ _ _ _ _ _ _ k d h => h
  have i0 : L2.atI [Dt.int p, .int q, .lst (ss.map .int)] 0 = some (.int p) := rfl
  have i1 : L2.atI [Dt.int p, .int q, .lst (ss.map .int)] 1 = some (.int q) := rfl
  have i2 : L2.atI [Dt.int p, .int q, .lst (ss.map .int)] 2 = some (.lst (ss.map .int)) := rfl
  have ap := @app05
  have cl := @clr05
  generalize loadD ((ss.length : Int) - p) q (negL q ss) = L2 at *
  generalize hL1 : loadD p q ss = L1 at *
  generalize ((negL q ss).map fun x => Ow.f (.int x)) = R at *
  generalize (negL q ss).map Dt.int = RD at *
  generalize (ss.map fun x => Ow.f (.int x)) = S0 at *
  generalize ss.map Dt.int = S at *
  generalize (ss.length : Int) = M at *
  generalize Dt.text L1 = T1 at *
  generalize Dt.text L2 = T2 at *
  generalize Dt.text (.lst [L2, L2]) = T3 at *
  generalize Dt.text (.lst [L1, L1]) = T4 at *
  simp (implicitDefEqProofs := false) (decide := true) (maxDischargeDepth := 9) [e_bnd, e_ret, e_opt, kO_s, kO_n, kO_i, kB_n, kB_o, kB_x, kB_i, e_val, kV_n, kV_o, kV_x, kV_i, e_seq, kS_n, kS_nx, kS_rt, kS_bk, kS_ct, kS_ex, kS_i, e_nil, e_pass, e_brk, e_cnt, e_sret, e_sretN, e_expr, e_if, e_set, e_par, e_par3, kP3_3, e_tgt, kTg_f, kTg_n, e_gN, e_gT, e_gs0, e_gs1, e_aug, kAg_i, e_app, kAp_l, e_item, e_for, e_forN, e_fn, kF_n, kF_nx, kF_rt, kF_ex, kF_i, e_outs0, e_outsT, e_outsF, e_K, e_Vf, e_Mf, e_bin, e_un, e_A0, e_A1, e_lst, e_tup, e_C, e_tV, kT_b, e_tAnd, e_tOr, e_tNot, e_xNot, kNt_b, e_xAnd, kAn_b, e_xOr, kOr_b, e_xIf, e_ch, kCh_i, kCz_i, e_is, e_Q, e_Rg1, e_Rg2, e_Sl, kSl_f, e_oN, e_oS, e_call, kA_rt, kA_ex, kA_n, kA_i, e_R0, e_Rv, e_Ri, e_callK, kCK_f, e_take0, e_takeV, e_takeI, e_put0, e_putV, e_putI, fz_f, fz_l, fzs_0, fzs_1, fzs_map, fzs_mapI, fzs_1l, e_b1, e_b2, e_b2g, e_bs, v_bn, v_add, v_sub, v_mul, v_div, v_mod, v_pow, v_neg, v_catNN, v_catFN, v_catNF, v_catFF, v_rep, v_lt, v_le, v_gt, v_ge, v_is, v_isN, v_isO, v_isNO, v_non, v_nonI, v_nonL, v_nonT, v_nonB, v_eqI, v_neI, v_eqS, v_neS, v_lenL, v_lenT, v_abs, v_max2, v_min2, v_min3, v_intsM, v_ints0, v_ints1, v_blsM, v_blsF, v_intsF, v_maxL, v_minL, v_sum, v_sort, v_all, v_any, v_int, v_intB, v_list, v_listT, v_tuple, v_kIsN, v_kIsI, v_kIsL, v_kIsT, v_kIsB, v_isInt, v_isBool, v_isLst, v_isTup, v_repr, v_at, v_atL, v_atN, v_ixT, v_ixL, v_ixN, e_qK, e_qV, v_gKd, v_gOs, v_gLs, v_gDs, v_gDsT, v_gF, v_gI, v_isNn, e_Vn', e_Mn', v_isNo1, v_isNo2, e_pV, e_qIxF, e_qIxN, e_qI, e_qB, e_get, kIt_l', v_ixLit, v_ix0, v_at0, v_at1, v_ix1, e_apply', e_eB, e_cK, e_cT1, e_cT2, e_cTb, e_wipe0, e_wipe1, e_back0, e_back1, v_bkF, v_bkNo, v_bkN, v_tY, v_Vg, v_atLast, v_ixS, v_setLast, v_fzSnoc, v_fzSnocC, v_LIM, v_fzF, v_fzC, v_fzFF, v_intsC, v_blsC, e_SrtSet, v_ss, e_tup2, kT2_2, v_minPI, v_minPP, v_isB, e_tBor, kTb_o, v_frzS_f, v_frzS_no, v_frzS_n, e_appP, e_clrP, v_appEach0, v_appEach1, v_appEachM, e_forApp0, e_forApp1, e_AS, v_kFl, e_tpo, v_ixTp, fz_tp, f__law_right_85bb, b__law_right_85bb, e1, ra, rb, rc, rd, er', er2', il, ifl, et, ex, kl, hR, fT, fz1, fz2, ap, cl, e_xBor, kBr_b, srcO_no, q20, i0, i1, i2, fzR, hD2, DL.perm, tp_no]
end Ev
namespace Ev
open OW
open DL (Dt)
theorem inner05 {N : Dt} {k c : Int} {s : Src} {n : Nat} (o4 : Ow) (ks : s.Ok n) (hn : n ≤ 100000) : ∃ ρ, l1_law_4802 [.f N, .f (.int k), .f (.int c), srcO s, o4] = some (.nx ρ) ∧ ∃ o3 o4, ρ = [.f N, .f (.int k), .f (.int c), o3, o4] := by
  refine wp_nx ?_
  unfold l1_law_4802
  have hi : iL (xLst (xA1 (xK (.int 3)) (xA1 (xK (.int 39)) (xA1 (xBin bSub (xBin bPow (xK (.int 10)) (xK (.int 30))) (xK (.int 2))) xA0)))) [.f N, .f (.int k), .f (.int c), srcO s, o4] = some (.ok (([3, 39, 999999999999999999999999999998] : List Int).map .int) [.f N, .f (.int k), .f (.int c), srcO s, o4]) := by
    refine iL_n (os := [.f (.int 3), .f (.int 39), .f (.int 999999999999999999999999999998)]) ?_ rfl
    have b10 : Bn 10 = true := by decide
    simp (implicitDefEqProofs := false) (decide := true) (maxDischargeDepth := 9) [e_bnd, e_ret, e_opt, kO_s, kO_n, kO_i, kB_n, kB_o, kB_x, kB_i, e_val, kV_n, kV_o, kV_x, kV_i, e_seq, kS_n, kS_nx, kS_rt, kS_bk, kS_ct, kS_ex, kS_i, e_nil, e_pass, e_brk, e_cnt, e_sret, e_sretN, e_expr, e_if, e_set, e_par, e_par3, kP3_3, e_tgt, kTg_f, kTg_n, e_gN, e_gT, e_gs0, e_gs1, e_aug, kAg_i, e_app, kAp_l, e_item, e_for, e_forN, e_fn, kF_n, kF_nx, kF_rt, kF_ex, kF_i, e_outs0, e_outsT, e_outsF, e_K, e_Vf, e_Mf, e_bin, e_un, e_A0, e_A1, e_lst, e_tup, e_C, e_tV, kT_b, e_tAnd, e_tOr, e_tNot, e_xNot, kNt_b, e_xAnd, kAn_b, e_xOr, kOr_b, e_xIf, e_ch, kCh_i, kCz_i, e_is, e_Q, e_Rg1, e_Rg2, e_Sl, kSl_f, e_oN, e_oS, e_call, kA_rt, kA_ex, kA_n, kA_i, e_R0, e_Rv, e_Ri, e_callK, kCK_f, e_take0, e_takeV, e_takeI, e_put0, e_putV, e_putI, fz_f, fz_l, fzs_0, fzs_1, fzs_map, fzs_mapI, fzs_1l, e_b1, e_b2, e_b2g, e_bs, v_bn, v_add, v_sub, v_mul, v_div, v_mod, v_pow, v_neg, v_catNN, v_catFN, v_catNF, v_catFF, v_rep, v_lt, v_le, v_gt, v_ge, v_is, v_isN, v_isO, v_isNO, v_non, v_nonI, v_nonL, v_nonT, v_nonB, v_eqI, v_neI, v_eqS, v_neS, v_lenL, v_lenT, v_abs, v_max2, v_min2, v_min3, v_intsM, v_ints0, v_ints1, v_blsM, v_blsF, v_intsF, v_maxL, v_minL, v_sum, v_sort, v_all, v_any, v_int, v_intB, v_list, v_listT, v_tuple, v_kIsN, v_kIsI, v_kIsL, v_kIsT, v_kIsB, v_isInt, v_isBool, v_isLst, v_isTup, v_repr, v_at, v_atL, v_atN, v_ixT, v_ixL, v_ixN, e_qK, e_qV, v_gKd, v_gOs, v_gLs, v_gDs, v_gDsT, v_gF, v_gI, v_isNn, e_Vn', e_Mn', v_isNo1, v_isNo2, e_pV, e_qIxF, e_qIxN, e_qI, e_qB, e_get, kIt_l', v_ixLit, v_ix0, v_at0, v_at1, v_ix1, e_apply', e_eB, e_cK, e_cT1, e_cT2, e_cTb, e_wipe0, e_wipe1, e_back0, e_back1, v_bkF, v_bkNo, v_bkN, v_tY, v_Vg, v_atLast, v_ixS, v_setLast, v_fzSnoc, v_fzSnocC, v_LIM, v_fzF, v_fzC, v_fzFF, v_intsC, v_blsC, e_SrtSet, v_ss, e_tup2, kT2_2, v_minPI, v_minPP, v_isB, e_tBor, kTb_o, v_frzS_f, v_frzS_no, v_frzS_n, e_appP, e_clrP, v_appEach0, v_appEach1, v_appEachM, e_forApp0, e_forApp1, e_AS, v_kFl, e_tpo, v_ixTp, fz_tp, b10]
  rw [e_for, hi, kV_o]
  refine w_for (fun j ρ => ∃ u o4, u.Ok (n + j * 40) ∧ ρ = [.f N, .f (.int k), .f (.int c), srcO u, o4]) ⟨s, o4, ks.up (by omega), rfl⟩ ?_ fun ρ ⟨u, o4, _, e⟩ => ⟨_, _, e⟩
  intro j d ρ hd ⟨u, o4, ku, e⟩
  subst e
  rw [List.getElem?_map] at hd
  obtain ⟨far, hf, rfl⟩ := Option.map_eq_some_iff.mp hd
  have hj : j < 3 := (List.getElem?_eq_some_iff.mp hf).1
  have hm : far = 3 ∨ far = 39 ∨ far = 999999999999999999999999999998 := by
    have := List.mem_of_getElem? hf
    simpa using this
  have f1 : 1 ≤ far := by omega
  have f2 : far ≤ MP - 1 := by unfold MP; omega
  refine ⟨[.f N, .f (.int k), .f (.int c), srcO u, .f (.int far)], by simp (implicitDefEqProofs := false) (decide := true) (maxDischargeDepth := 9) [e_bnd, e_ret, e_opt, kO_s, kO_n, kO_i, kB_n, kB_o, kB_x, kB_i, e_val, kV_n, kV_o, kV_x, kV_i, e_seq, kS_n, kS_nx, kS_rt, kS_bk, kS_ct, kS_ex, kS_i, e_nil, e_pass, e_brk, e_cnt, e_sret, e_sretN, e_expr, e_if, e_set, e_par, e_par3, kP3_3, e_tgt, kTg_f, kTg_n, e_gN, e_gT, e_gs0, e_gs1, e_aug, kAg_i, e_app, kAp_l, e_item, e_for, e_forN, e_fn, kF_n, kF_nx, kF_rt, kF_ex, kF_i, e_outs0, e_outsT, e_outsF, e_K, e_Vf, e_Mf, e_bin, e_un, e_A0, e_A1, e_lst, e_tup, e_C, e_tV, kT_b, e_tAnd, e_tOr, e_tNot, e_xNot, kNt_b, e_xAnd, kAn_b, e_xOr, kOr_b, e_xIf, e_ch, kCh_i, kCz_i, e_is, e_Q, e_Rg1, e_Rg2, e_Sl, kSl_f, e_oN, e_oS, e_call, kA_rt, kA_ex, kA_n, kA_i, e_R0, e_Rv, e_Ri, e_callK, kCK_f, e_take0, e_takeV, e_takeI, e_put0, e_putV, e_putI, fz_f, fz_l, fzs_0, fzs_1, fzs_map, fzs_mapI, fzs_1l, e_b1, e_b2, e_b2g, e_bs, v_bn, v_add, v_sub, v_mul, v_div, v_mod, v_pow, v_neg, v_catNN, v_catFN, v_catNF, v_catFF, v_rep, v_lt, v_le, v_gt, v_ge, v_is, v_isN, v_isO, v_isNO, v_non, v_nonI, v_nonL, v_nonT, v_nonB, v_eqI, v_neI, v_eqS, v_neS, v_lenL, v_lenT, v_abs, v_max2, v_min2, v_min3, v_intsM, v_ints0, v_ints1, v_blsM, v_blsF, v_intsF, v_maxL, v_minL, v_sum, v_sort, v_all, v_any, v_int, v_intB, v_list, v_listT, v_tuple, v_kIsN, v_kIsI, v_kIsL, v_kIsT, v_kIsB, v_isInt, v_isBool, v_isLst, v_isTup, v_repr, v_at, v_atL, v_atN, v_ixT, v_ixL, v_ixN, e_qK, e_qV, v_gKd, v_gOs, v_gLs, v_gDs, v_gDsT, v_gF, v_gI, v_isNn, e_Vn', e_Mn', v_isNo1, v_isNo2, e_pV, e_qIxF, e_qIxN, e_qI, e_qB, e_get, kIt_l', v_ixLit, v_ix0, v_at0, v_at1, v_ix1, e_apply', e_eB, e_cK, e_cT1, e_cT2, e_cTb, e_wipe0, e_wipe1, e_back0, e_back1, v_bkF, v_bkNo, v_bkN, v_tY, v_Vg, v_atLast, v_ixS, v_setLast, v_fzSnoc, v_fzSnocC, v_LIM, v_fzF, v_fzC, v_fzFF, v_intsC, v_blsC, e_SrtSet, v_ss, e_tup2, kT2_2, v_minPI, v_minPP, v_isB, e_tBor, kTb_o, v_frzS_f, v_frzS_no, v_frzS_n, e_appP, e_clrP, v_appEach0, v_appEach1, v_appEachM, e_forApp0, e_forApp1, e_AS, v_kFl, e_tpo, v_ixTp, fz_tp, ], ?_⟩
  obtain ⟨u2, k2, e2⟩ := right05_eval ku (by omega) f1 f2
  refine wp_eq (.nx [.f N, .f (.int k), .f (.int c), srcO u2, .f (.int far)]) ?_ ⟨u2, _, k2.up (by omega), rfl⟩
  simp (implicitDefEqProofs := false) (decide := true) (maxDischargeDepth := 9) [e_bnd, e_ret, e_opt, kO_s, kO_n, kO_i, kB_n, kB_o, kB_x, kB_i, e_val, kV_n, kV_o, kV_x, kV_i, e_seq, kS_n, kS_nx, kS_rt, kS_bk, kS_ct, kS_ex, kS_i, e_nil, e_pass, e_brk, e_cnt, e_sret, e_sretN, e_expr, e_if, e_set, e_par, e_par3, kP3_3, e_tgt, kTg_f, kTg_n, e_gN, e_gT, e_gs0, e_gs1, e_aug, kAg_i, e_app, kAp_l, e_item, e_for, e_forN, e_fn, kF_n, kF_nx, kF_rt, kF_ex, kF_i, e_outs0, e_outsT, e_outsF, e_K, e_Vf, e_Mf, e_bin, e_un, e_A0, e_A1, e_lst, e_tup, e_C, e_tV, kT_b, e_tAnd, e_tOr, e_tNot, e_xNot, kNt_b, e_xAnd, kAn_b, e_xOr, kOr_b, e_xIf, e_ch, kCh_i, kCz_i, e_is, e_Q, e_Rg1, e_Rg2, e_Sl, kSl_f, e_oN, e_oS, e_call, kA_rt, kA_ex, kA_n, kA_i, e_R0, e_Rv, e_Ri, e_callK, kCK_f, e_take0, e_takeV, e_takeI, e_put0, e_putV, e_putI, fz_f, fz_l, fzs_0, fzs_1, fzs_map, fzs_mapI, fzs_1l, e_b1, e_b2, e_b2g, e_bs, v_bn, v_add, v_sub, v_mul, v_div, v_mod, v_pow, v_neg, v_catNN, v_catFN, v_catNF, v_catFF, v_rep, v_lt, v_le, v_gt, v_ge, v_is, v_isN, v_isO, v_isNO, v_non, v_nonI, v_nonL, v_nonT, v_nonB, v_eqI, v_neI, v_eqS, v_neS, v_lenL, v_lenT, v_abs, v_max2, v_min2, v_min3, v_intsM, v_ints0, v_ints1, v_blsM, v_blsF, v_intsF, v_maxL, v_minL, v_sum, v_sort, v_all, v_any, v_int, v_intB, v_list, v_listT, v_tuple, v_kIsN, v_kIsI, v_kIsL, v_kIsT, v_kIsB, v_isInt, v_isBool, v_isLst, v_isTup, v_repr, v_at, v_atL, v_atN, v_ixT, v_ixL, v_ixN, e_qK, e_qV, v_gKd, v_gOs, v_gLs, v_gDs, v_gDsT, v_gF, v_gI, v_isNn, e_Vn', e_Mn', v_isNo1, v_isNo2, e_pV, e_qIxF, e_qIxN, e_qI, e_qB, e_get, kIt_l', v_ixLit, v_ix0, v_at0, v_at1, v_ix1, e_apply', e_eB, e_cK, e_cT1, e_cT2, e_cTb, e_wipe0, e_wipe1, e_back0, e_back1, v_bkF, v_bkNo, v_bkN, v_tY, v_Vg, v_atLast, v_ixS, v_setLast, v_fzSnoc, v_fzSnocC, v_LIM, v_fzF, v_fzC, v_fzFF, v_intsC, v_blsC, e_SrtSet, v_ss, e_tup2, kT2_2, v_minPI, v_minPP, v_isB, e_tBor, kTb_o, v_frzS_f, v_frzS_no, v_frzS_n, e_appP, e_clrP, v_appEach0, v_appEach1, v_appEachM, e_forApp0, e_forApp1, e_AS, v_kFl, e_tpo, v_ixTp, fz_tp, e2, srcO_no]
theorem law_k05 : ∀ ns : List Int, ns.length ≤ 63 → ∃ ps, f_law_4802 [.f (.lst (ns.map .int))] = some (.rt (.f (.bl true)) ps) := by
  intro ns hl
  obtain ⟨ρ, e, o1, o2, o3, o4, rfl⟩ : ∃ ρ, l2_law_4802 [.f (.lst (ns.map .int)), .no, .no, .no, .no] = some (.nx ρ) ∧ ∃ o1 o2 o3 o4, ρ = [.f (.lst (ns.map .int)), o1, o2, o3, o4] := by
    refine wp_nx ?_
    unfold l2_law_4802
    rw [e_for, cells_it (ns := ns) (m := 10) rfl hl, kV_o]
    refine w_for (fun j ρ => ∃ o1 o2 o3 o4, ρ = [.f (.lst (ns.map .int)), o1, o2, o3, o4]) ⟨_, _, _, _, rfl⟩ ?_ fun ρ z => z
    intro j d ρ hd ⟨o1, o2, o3, o4, e⟩
    subst e
    obtain ⟨hj, c, rfl⟩ := cells_at hd
    obtain ⟨k, hk⟩ : ∃ k : Int, k = (j : Int) := ⟨_, rfl⟩
    rw [← hk]
    haveI : Sz 64 k := sz_of (by omega) (by omega)
    refine ⟨[.f (.lst (ns.map .int)), .f (.int k), .f (.int c), o3, o4], by simp (implicitDefEqProofs := false) (decide := true) (maxDischargeDepth := 9) [e_bnd, e_ret, e_opt, kO_s, kO_n, kO_i, kB_n, kB_o, kB_x, kB_i, e_val, kV_n, kV_o, kV_x, kV_i, e_seq, kS_n, kS_nx, kS_rt, kS_bk, kS_ct, kS_ex, kS_i, e_nil, e_pass, e_brk, e_cnt, e_sret, e_sretN, e_expr, e_if, e_set, e_par, e_par3, kP3_3, e_tgt, kTg_f, kTg_n, e_gN, e_gT, e_gs0, e_gs1, e_aug, kAg_i, e_app, kAp_l, e_item, e_for, e_forN, e_fn, kF_n, kF_nx, kF_rt, kF_ex, kF_i, e_outs0, e_outsT, e_outsF, e_K, e_Vf, e_Mf, e_bin, e_un, e_A0, e_A1, e_lst, e_tup, e_C, e_tV, kT_b, e_tAnd, e_tOr, e_tNot, e_xNot, kNt_b, e_xAnd, kAn_b, e_xOr, kOr_b, e_xIf, e_ch, kCh_i, kCz_i, e_is, e_Q, e_Rg1, e_Rg2, e_Sl, kSl_f, e_oN, e_oS, e_call, kA_rt, kA_ex, kA_n, kA_i, e_R0, e_Rv, e_Ri, e_callK, kCK_f, e_take0, e_takeV, e_takeI, e_put0, e_putV, e_putI, fz_f, fz_l, fzs_0, fzs_1, fzs_map, fzs_mapI, fzs_1l, e_b1, e_b2, e_b2g, e_bs, v_bn, v_add, v_sub, v_mul, v_div, v_mod, v_pow, v_neg, v_catNN, v_catFN, v_catNF, v_catFF, v_rep, v_lt, v_le, v_gt, v_ge, v_is, v_isN, v_isO, v_isNO, v_non, v_nonI, v_nonL, v_nonT, v_nonB, v_eqI, v_neI, v_eqS, v_neS, v_lenL, v_lenT, v_abs, v_max2, v_min2, v_min3, v_intsM, v_ints0, v_ints1, v_blsM, v_blsF, v_intsF, v_maxL, v_minL, v_sum, v_sort, v_all, v_any, v_int, v_intB, v_list, v_listT, v_tuple, v_kIsN, v_kIsI, v_kIsL, v_kIsT, v_kIsB, v_isInt, v_isBool, v_isLst, v_isTup, v_repr, v_at, v_atL, v_atN, v_ixT, v_ixL, v_ixN, e_qK, e_qV, v_gKd, v_gOs, v_gLs, v_gDs, v_gDsT, v_gF, v_gI, v_isNn, e_Vn', e_Mn', v_isNo1, v_isNo2, e_pV, e_qIxF, e_qIxN, e_qI, e_qB, e_get, kIt_l', v_ixLit, v_ix0, v_at0, v_at1, v_ix1, e_apply', e_eB, e_cK, e_cT1, e_cT2, e_cTb, e_wipe0, e_wipe1, e_back0, e_back1, v_bkF, v_bkNo, v_bkN, v_tY, v_Vg, v_atLast, v_ixS, v_setLast, v_fzSnoc, v_fzSnocC, v_LIM, v_fzF, v_fzC, v_fzFF, v_intsC, v_blsC, e_SrtSet, v_ss, e_tup2, kT2_2, v_minPI, v_minPP, v_isB, e_tBor, kTb_o, v_frzS_f, v_frzS_no, v_frzS_n, e_appP, e_clrP, v_appEach0, v_appEach1, v_appEachM, e_forApp0, e_forApp1, e_AS, v_kFl, e_tpo, v_ixTp, fz_tp, ], ?_⟩
    have es := source_eval (cell := c) (k := k)
    have ks : (src c k).Ok 0 := src_ok (by omega) (by omega)
    obtain ⟨ρ, e3, p3, p4, rfl⟩ := inner05 (N := .lst (ns.map .int)) (k := k) (c := c) o4 ks (by omega)
    have s0 : sSet 3 (xCall 2 f__law_source_1d92 (xRv (xV 2) (xRv (xV 1) xR0))) [.f (.lst (ns.map .int)), .f (.int k), .f (.int c), o3, o4] = some (.nx [.f (.lst (ns.map .int)), .f (.int k), .f (.int c), srcO (src c k), o4]) := by
      simp (implicitDefEqProofs := false) (decide := true) (maxDischargeDepth := 9) [e_bnd, e_ret, e_opt, kO_s, kO_n, kO_i, kB_n, kB_o, kB_x, kB_i, e_val, kV_n, kV_o, kV_x, kV_i, e_seq, kS_n, kS_nx, kS_rt, kS_bk, kS_ct, kS_ex, kS_i, e_nil, e_pass, e_brk, e_cnt, e_sret, e_sretN, e_expr, e_if, e_set, e_par, e_par3, kP3_3, e_tgt, kTg_f, kTg_n, e_gN, e_gT, e_gs0, e_gs1, e_aug, kAg_i, e_app, kAp_l, e_item, e_for, e_forN, e_fn, kF_n, kF_nx, kF_rt, kF_ex, kF_i, e_outs0, e_outsT, e_outsF, e_K, e_Vf, e_Mf, e_bin, e_un, e_A0, e_A1, e_lst, e_tup, e_C, e_tV, kT_b, e_tAnd, e_tOr, e_tNot, e_xNot, kNt_b, e_xAnd, kAn_b, e_xOr, kOr_b, e_xIf, e_ch, kCh_i, kCz_i, e_is, e_Q, e_Rg1, e_Rg2, e_Sl, kSl_f, e_oN, e_oS, e_call, kA_rt, kA_ex, kA_n, kA_i, e_R0, e_Rv, e_Ri, e_callK, kCK_f, e_take0, e_takeV, e_takeI, e_put0, e_putV, e_putI, fz_f, fz_l, fzs_0, fzs_1, fzs_map, fzs_mapI, fzs_1l, e_b1, e_b2, e_b2g, e_bs, v_bn, v_add, v_sub, v_mul, v_div, v_mod, v_pow, v_neg, v_catNN, v_catFN, v_catNF, v_catFF, v_rep, v_lt, v_le, v_gt, v_ge, v_is, v_isN, v_isO, v_isNO, v_non, v_nonI, v_nonL, v_nonT, v_nonB, v_eqI, v_neI, v_eqS, v_neS, v_lenL, v_lenT, v_abs, v_max2, v_min2, v_min3, v_intsM, v_ints0, v_ints1, v_blsM, v_blsF, v_intsF, v_maxL, v_minL, v_sum, v_sort, v_all, v_any, v_int, v_intB, v_list, v_listT, v_tuple, v_kIsN, v_kIsI, v_kIsL, v_kIsT, v_kIsB, v_isInt, v_isBool, v_isLst, v_isTup, v_repr, v_at, v_atL, v_atN, v_ixT, v_ixL, v_ixN, e_qK, e_qV, v_gKd, v_gOs, v_gLs, v_gDs, v_gDsT, v_gF, v_gI, v_isNn, e_Vn', e_Mn', v_isNo1, v_isNo2, e_pV, e_qIxF, e_qIxN, e_qI, e_qB, e_get, kIt_l', v_ixLit, v_ix0, v_at0, v_at1, v_ix1, e_apply', e_eB, e_cK, e_cT1, e_cT2, e_cTb, e_wipe0, e_wipe1, e_back0, e_back1, v_bkF, v_bkNo, v_bkN, v_tY, v_Vg, v_atLast, v_ixS, v_setLast, v_fzSnoc, v_fzSnocC, v_LIM, v_fzF, v_fzC, v_fzFF, v_intsC, v_blsC, e_SrtSet, v_ss, e_tup2, kT2_2, v_minPI, v_minPP, v_isB, e_tBor, kTb_o, v_frzS_f, v_frzS_no, v_frzS_n, e_appP, e_clrP, v_appEach0, v_appEach1, v_appEachM, e_forApp0, e_forApp1, e_AS, v_kFl, e_tpo, v_ixTp, fz_tp, es]
    refine wp_eq (.nx [.f (.lst (ns.map .int)), .f (.int k), .f (.int c), p3, p4]) ?_ ⟨_, _, _, _, rfl⟩
    rw [e_seq, s0, kS_nx, e_seq, e3, kS_nx, e_nil]
  have lo : LoadOk 2 3 [2, 2, 2] := ⟨by decide, by decide, by decide, by decide, by decide, by decide, by decide, by decide⟩
  have t1 := rest_eval lo (by decide) (by decide)
  have fT : frz (.n .tp [.f (.int 1), .f (.int 3), .n .lst [.f (.int 1), .f (.int 1), .f (.int 1)]]) = some (.tup [.int 1, .int 3, .lst [.int 1, .int 1, .int 1]]) := rest_frz (ss := [1, 1, 1])
  have b1 : DL.Bd 1900 1 := Sz.bd (n := 64) (sz_of (by decide) (by decide)) (by decide)
  have b3 : DL.Bd 1900 3 := Sz.bd (n := 64) (sz_of (by decide) (by decide)) (by decide)
  have d := eq_same (x := .n .tp [.f (.int 1), .f (.int 3), .n .lst [.f (.int 1), .f (.int 1), .f (.int 1)]]) (y := .f (.tup [.int 1, .int 3, .lst [.int 1, .int 1, .int 1]])) fT rfl ⟨b1, b3, ⟨b1, b1, b1, trivial⟩, trivial⟩ (by decide)
  rw [show (Ow.f (loadD 2 3 [2, 2, 2])) = .f (.tup [.int 2, .int 3, .lst [.int 2, .int 2, .int 2]]) from rfl, show (negL 3 [2, 2, 2]).map (fun x => Ow.f (.int x)) = [.f (.int 1), .f (.int 1), .f (.int 1)] from rfl, show (([2, 2, 2] : List Int).length : Int) - 2 = 1 from rfl] at t1
  refine ⟨[.no], ?_⟩
  simp (implicitDefEqProofs := false) (decide := true) (maxDischargeDepth := 9) [e_bnd, e_ret, e_opt, kO_s, kO_n, kO_i, kB_n, kB_o, kB_x, kB_i, e_val, kV_n, kV_o, kV_x, kV_i, e_seq, kS_n, kS_nx, kS_rt, kS_bk, kS_ct, kS_ex, kS_i, e_nil, e_pass, e_brk, e_cnt, e_sret, e_sretN, e_expr, e_if, e_set, e_par, e_par3, kP3_3, e_tgt, kTg_f, kTg_n, e_gN, e_gT, e_gs0, e_gs1, e_aug, kAg_i, e_app, kAp_l, e_item, e_for, e_forN, e_fn, kF_n, kF_nx, kF_rt, kF_ex, kF_i, e_outs0, e_outsT, e_outsF, e_K, e_Vf, e_Mf, e_bin, e_un, e_A0, e_A1, e_lst, e_tup, e_C, e_tV, kT_b, e_tAnd, e_tOr, e_tNot, e_xNot, kNt_b, e_xAnd, kAn_b, e_xOr, kOr_b, e_xIf, e_ch, kCh_i, kCz_i, e_is, e_Q, e_Rg1, e_Rg2, e_Sl, kSl_f, e_oN, e_oS, e_call, kA_rt, kA_ex, kA_n, kA_i, e_R0, e_Rv, e_Ri, e_callK, kCK_f, e_take0, e_takeV, e_takeI, e_put0, e_putV, e_putI, fz_f, fz_l, fzs_0, fzs_1, fzs_map, fzs_mapI, fzs_1l, e_b1, e_b2, e_b2g, e_bs, v_bn, v_add, v_sub, v_mul, v_div, v_mod, v_pow, v_neg, v_catNN, v_catFN, v_catNF, v_catFF, v_rep, v_lt, v_le, v_gt, v_ge, v_is, v_isN, v_isO, v_isNO, v_non, v_nonI, v_nonL, v_nonT, v_nonB, v_eqI, v_neI, v_eqS, v_neS, v_lenL, v_lenT, v_abs, v_max2, v_min2, v_min3, v_intsM, v_ints0, v_ints1, v_blsM, v_blsF, v_intsF, v_maxL, v_minL, v_sum, v_sort, v_all, v_any, v_int, v_intB, v_list, v_listT, v_tuple, v_kIsN, v_kIsI, v_kIsL, v_kIsT, v_kIsB, v_isInt, v_isBool, v_isLst, v_isTup, v_repr, v_at, v_atL, v_atN, v_ixT, v_ixL, v_ixN, e_qK, e_qV, v_gKd, v_gOs, v_gLs, v_gDs, v_gDsT, v_gF, v_gI, v_isNn, e_Vn', e_Mn', v_isNo1, v_isNo2, e_pV, e_qIxF, e_qIxN, e_qI, e_qB, e_get, kIt_l', v_ixLit, v_ix0, v_at0, v_at1, v_ix1, e_apply', e_eB, e_cK, e_cT1, e_cT2, e_cTb, e_wipe0, e_wipe1, e_back0, e_back1, v_bkF, v_bkNo, v_bkN, v_tY, v_Vg, v_atLast, v_ixS, v_setLast, v_fzSnoc, v_fzSnocC, v_LIM, v_fzF, v_fzC, v_fzFF, v_intsC, v_blsC, e_SrtSet, v_ss, e_tup2, kT2_2, v_minPI, v_minPP, v_isB, e_tBor, kTb_o, v_frzS_f, v_frzS_no, v_frzS_n, e_appP, e_clrP, v_appEach0, v_appEach1, v_appEachM, e_forApp0, e_forApp1, e_AS, v_kFl, e_tpo, v_ixTp, fz_tp, f_law_4802, b_law_4802, e, t1, d]
end Ev
namespace Ev
open PySem L2 OW
open DL (Dt FnG FnAt)
section
theorem end_mk {l : PySem.W.OpenLaw} {w : World} {K : PySem.W.Frag} {h : Heap} {mg : Str → Option Value} {fa : Addr} (X : K.In h) (G : h.Ns mainGlobals mg) (hfa : mg "law" = some (.ref fa))
    (D__law_source : DL.DefIn K "_law_source" s__law_source) (D_is_integer : DL.DefIn K "is_integer" s_is_integer) (D_wrong_item : DL.DefIn K "wrong_item" s_wrong_item) (D_need_load : DL.DefIn K "need_load" s_need_load)
    (D_fills : DL.DefIn K "fills" s_fills) (D_need_full : DL.DefIn K "need_full" s_need_full) (D_rest_load : DL.DefIn K "rest_load" s_rest_load) (D__law_draw : DL.DefIn K "_law_draw" s__law_draw)
    (D__law_parts : DL.DefIn K "_law_parts" s__law_parts) (D__law_open : DL.DefIn K "_law_open" s__law_open) (D_need_process : DL.DefIn K "need_process" s_need_process) (D_need_number : DL.DefIn K "need_number" s_need_number)
    (D_down : DL.DefIn K "down" s_down) (D_up : DL.DefIn K "up" s_up) (D_due_counts : DL.DefIn K "due_counts" s_due_counts) (D_is_load : DL.DefIn K "is_load" s_is_load)
    (D_is_full : DL.DefIn K "is_full" s_is_full) (D__law_right : DL.DefIn K "_law_right" s__law_right) (D_law : DL.DefIn K "law" s_law) (N_abs : PySem.W.nsIn K mainGlobals "abs" = some none)
    (N_max : PySem.W.nsIn K mainGlobals "max" = some none) (N_int : PySem.W.nsIn K mainGlobals "int" = some none) (N_isinstance : PySem.W.nsIn K mainGlobals "isinstance" = some none) (N_bool : PySem.W.nsIn K mainGlobals "bool" = some none)
    (N_list : PySem.W.nsIn K mainGlobals "list" = some none) (N_all : PySem.W.nsIn K mainGlobals "all" = some none) (N_sum : PySem.W.nsIn K mainGlobals "sum" = some none) (N_len : PySem.W.nsIn K mainGlobals "len" = some none)
    (N_tuple : PySem.W.nsIn K mainGlobals "tuple" = some none) (N_range : PySem.W.nsIn K mainGlobals "range" = some none) (N_min : PySem.W.nsIn K mainGlobals "min" = some none) (N_repr : PySem.W.nsIn K mainGlobals "repr" = some none)
    (N_enumerate : PySem.W.nsIn K mainGlobals "enumerate" = some none) {t_MOST_PROCESSORS : Addr} (I_MOST_PROCESSORS : PySem.W.nsIn K mainGlobals "MOST_PROCESSORS" = some (some (Value.int (12) t_MOST_PROCESSORS))) {t_MOST_PERIOD : Addr} (I_MOST_PERIOD : PySem.W.nsIn K mainGlobals "MOST_PERIOD" = some (some (Value.int (10 ^ 30 - 1) t_MOST_PERIOD))) {t_MOST_PROCESSES : Addr} (I_MOST_PROCESSES : PySem.W.nsIn K mainGlobals "MOST_PROCESSES" = some (some (Value.int (12) t_MOST_PROCESSES))) :
    ∃ fd : FuncData, (∀ (s : Shared) (u : Value), BindsTo s fd ⟨[u], []⟩ [("script", u)]) ∧ ∀ base : Heap, K.In base → base.Ns mainGlobals mg → DL.FnG l.prog w K mg base 6 fa fd ["script"] (DL.spD K 1 (lawR f_law_4802)) := by
  have T : Txt mg := ⟨PySem.W.mg_none_of X G N_abs, PySem.W.mg_none_of X G N_max, PySem.W.mg_none_of X G N_int, PySem.W.mg_none_of X G N_isinstance, PySem.W.mg_none_of X G N_bool, PySem.W.mg_none_of X G N_list, PySem.W.mg_none_of X G N_all, PySem.W.mg_none_of X G N_sum, PySem.W.mg_none_of X G N_len, PySem.W.mg_none_of X G N_tuple, PySem.W.mg_none_of X G N_range, PySem.W.mg_none_of X G N_min, PySem.W.mg_none_of X G N_repr, PySem.W.mg_none_of X G N_enumerate, ⟨_, PySem.W.mg_of X G I_MOST_PROCESSORS⟩, ⟨_, PySem.W.mg_of X G I_MOST_PERIOD⟩, ⟨_, PySem.W.mg_of X G I_MOST_PROCESSES⟩⟩
  refine D_law.law X G hfa (fun _ _ _ _ _ _ _ => rfl) fun base Xb Gb f fd F => lawG ?_
  have G__law_source : FnAt l.prog w K mg base "_law_source" s__law_source 1 ["cell", "k"] (spO mg K 2 f__law_source_1d92) := D__law_source.at X G (fun _ _ _ _ _ _ us hl => match us, hl with | [_, _], _ => rfl) fun f fd F => ok__law_source T  F
  have G_is_integer : FnAt l.prog w K mg base "is_integer" s_is_integer 1 ["value", "low", "high"] (spO mg K 3 f_is_integer_4a98) := D_is_integer.at X G (fun _ _ _ _ _ _ us hl => match us, hl with | [_, _, _], _ => rfl) fun f fd F => ok_is_integer T  F
  have G_wrong_item : FnAt l.prog w K mg base "wrong_item" s_wrong_item 2 ["value"] (spO mg K 1 f_wrong_item_33b3) := D_wrong_item.at X G (fun _ _ _ _ _ _ us hl => match us, hl with | [_], _ => rfl) fun f fd F => ok_wrong_item T G_is_integer F
  have G_need_load : FnAt l.prog w K mg base "need_load" s_need_load 3 ["load"] (spO mg K 1 f_need_load_39ed) := D_need_load.at X G (fun _ _ _ _ _ _ us hl => match us, hl with | [_], _ => rfl) fun f fd F => ok_need_load T G_wrong_item F
  have G_fills : FnAt l.prog w K mg base "fills" s_fills 1 ["load"] (spO mg K 1 f_fills_4399) := D_fills.at X G (fun _ _ _ _ _ _ us hl => match us, hl with | [_], _ => rfl) fun f fd F => ok_fills T  F
  have G_need_full : FnAt l.prog w K mg base "need_full" s_need_full 2 ["load"] (spO mg K 1 f_need_full_75a5) := D_need_full.at X G (fun _ _ _ _ _ _ us hl => match us, hl with | [_], _ => rfl) fun f fd F => ok_need_full T G_fills F
  have G_rest_load : FnAt l.prog w K mg base "rest_load" s_rest_load 4 ["load"] (spO mg K 1 f_rest_load_4c5b) := D_rest_load.at X G (fun _ _ _ _ _ _ us hl => match us, hl with | [_], _ => rfl) fun f fd F => ok_rest_load T G_need_load G_need_full F
  have G__law_draw : FnAt l.prog w K mg base "_law_draw" s__law_draw 1 ["source", "count"] (spO mg K 2 f__law_draw_ffea) := D__law_draw.at X G (fun _ _ _ _ _ _ us hl => match us, hl with | [_, _], _ => rfl) fun f fd F => ok__law_draw T  F
  have G__law_parts : FnAt l.prog w K mg base "_law_parts" s__law_parts 2 ["source", "whole", "often", "far"] (spO mg K 4 f__law_parts_64e2) := D__law_parts.at X G (fun _ _ _ _ _ _ us hl => match us, hl with | [_, _, _, _], _ => rfl) fun f fd F => ok__law_parts T G__law_draw F
  have G__law_open : FnAt l.prog w K mg base "_law_open" s__law_open 3 ["source", "far"] (spO mg K 2 f__law_open_596b) := D__law_open.at X G (fun _ _ _ _ _ _ us hl => match us, hl with | [_, _], _ => rfl) fun f fd F => ok__law_open T G__law_draw G__law_parts F
  have G_need_process : FnAt l.prog w K mg base "need_process" s_need_process 2 ["load", "process"] (spO mg K 2 f_need_process_1868) := D_need_process.at X G (fun _ _ _ _ _ _ us hl => match us, hl with | [_, _], _ => rfl) fun f fd F => ok_need_process T G_is_integer F
  have G_need_number : FnAt l.prog w K mg base "need_number" s_need_number 2 ["value", "low", "high"] (spO mg K 3 f_need_number_26f5) := D_need_number.at X G (fun _ _ _ _ _ _ us hl => match us, hl with | [_, _, _], _ => rfl) fun f fd F => ok_need_number T G_is_integer F
  have G_down : FnAt l.prog w K mg base "down" s_down 1 ["share", "period", "moment"] (spO mg K 3 f_down_19d4) := D_down.at X G (fun _ _ _ _ _ _ us hl => match us, hl with | [_, _, _], _ => rfl) fun f fd F => ok_down T  F
  have G_up : FnAt l.prog w K mg base "up" s_up 1 ["share", "period", "moment"] (spO mg K 3 f_up_c0a7) := D_up.at X G (fun _ _ _ _ _ _ us hl => match us, hl with | [_, _, _], _ => rfl) fun f fd F => ok_up T  F
  have G_due_counts : FnAt l.prog w K mg base "due_counts" s_due_counts 4 ["load", "process", "moment"] (spO mg K 3 f_due_counts_e55b) := D_due_counts.at X G (fun _ _ _ _ _ _ us hl => match us, hl with | [_, _, _], _ => rfl) fun f fd F => ok_due_counts T G_need_load G_need_process G_need_number G_down G_up F
  have G_is_load : FnAt l.prog w K mg base "is_load" s_is_load 3 ["value"] (spO mg K 1 f_is_load_aafb) := D_is_load.at X G (fun _ _ _ _ _ _ us hl => match us, hl with | [_], _ => rfl) fun f fd F => ok_is_load T G_wrong_item F
  have G_is_full : FnAt l.prog w K mg base "is_full" s_is_full 4 ["load"] (spO mg K 1 f_is_full_c14f) := D_is_full.at X G (fun _ _ _ _ _ _ us hl => match us, hl with | [_], _ => rfl) fun f fd F => ok_is_full T G_need_load G_fills F
  have G__law_right : FnAt l.prog w K mg base "_law_right" s__law_right 5 ["source", "far"] (spO mg K 2 f__law_right_85bb) := D__law_right.at X G (fun _ _ _ _ _ _ us hl => match us, hl with | [_, _], _ => rfl) fun f fd F => ok__law_right T G__law_open G_rest_load G_due_counts G_is_load G_is_full G__law_draw F
  exact ok_law T G__law_source G_rest_load G__law_right F
end
end Ev
open PySem PySem.W PyProof.Rows
set_option maxRecDepth 100000 in
set_option maxHeartbeats 0 in
theorem PySem.Challenge.cw_evenslices_k05_rest_loads_holds : PySem.Challenge.rw_evenslices_k05_rest_loads.Holds := by
  w_on; o_law; k_head; (case hw => w_witness2)
  k_fill
  refine DL.walk_g (l := PySem.Challenge.rw_evenslices_k05_rest_loads) (n := 63) (k := 6) (x := "script") (R := Ev.lawR Ev.f_law_4802) rfl (by decide) rfl ⟨rfl, by decide, by decide⟩ (fun w h Y => PySem.W.kIn_of Y) ?F (fun ns hn => Ev.lawR_of (Ev.law_k05 ns hn))
  case F =>
    intro w mg fa h KX G hmg
    refine' Ev.end_mk KX G hmg (DL.def_in ?a__law_source ?l__law_source ?c__law_source ?k__law_source) (DL.def_in ?a_is_integer ?l_is_integer ?c_is_integer ?k_is_integer) (DL.def_in ?a_wrong_item ?l_wrong_item ?c_wrong_item ?k_wrong_item) (DL.def_in ?a_need_load ?l_need_load ?c_need_load ?k_need_load) (DL.def_in ?a_fills ?l_fills ?c_fills ?k_fills) (DL.def_in ?a_need_full ?l_need_full ?c_need_full ?k_need_full) (DL.def_in ?a_rest_load ?l_rest_load ?c_rest_load ?k_rest_load) (DL.def_in ?a__law_draw ?l__law_draw ?c__law_draw ?k__law_draw) (DL.def_in ?a__law_parts ?l__law_parts ?c__law_parts ?k__law_parts) (DL.def_in ?a__law_open ?l__law_open ?c__law_open ?k__law_open) (DL.def_in ?a_need_process ?l_need_process ?c_need_process ?k_need_process) (DL.def_in ?a_need_number ?l_need_number ?c_need_number ?k_need_number) (DL.def_in ?a_down ?l_down ?c_down ?k_down) (DL.def_in ?a_up ?l_up ?c_up ?k_up) (DL.def_in ?a_due_counts ?l_due_counts ?c_due_counts ?k_due_counts) (DL.def_in ?a_is_load ?l_is_load ?c_is_load ?k_is_load) (DL.def_in ?a_is_full ?l_is_full ?c_is_full ?k_is_full) (DL.def_in ?a__law_right ?l__law_right ?c__law_right ?k__law_right) (DL.def_in ?a_law ?l_law ?c_law ?k_law) ?n_abs ?n_max ?n_int ?n_isinstance ?n_bool ?n_list ?n_all ?n_sum ?n_len ?n_tuple ?n_range ?n_min ?n_repr ?n_enumerate ?i_MOST_PROCESSORS ?i_MOST_PERIOD ?i_MOST_PROCESSES
    (case a__law_source => k_is); (case l__law_source => k_is); (case c__law_source => k_is); (case k__law_source => k_is)
    (case a_is_integer => k_is); (case l_is_integer => k_is); (case c_is_integer => k_is); (case k_is_integer => k_is)
    (case a_wrong_item => k_is); (case l_wrong_item => k_is); (case c_wrong_item => k_is); (case k_wrong_item => k_is)
    (case a_need_load => k_is); (case l_need_load => k_is); (case c_need_load => k_is); (case k_need_load => k_is)
    (case a_fills => k_is); (case l_fills => k_is); (case c_fills => k_is); (case k_fills => k_is)
    (case a_need_full => k_is); (case l_need_full => k_is); (case c_need_full => k_is); (case k_need_full => k_is)
    (case a_rest_load => k_is); (case l_rest_load => k_is); (case c_rest_load => k_is); (case k_rest_load => k_is)
    (case a__law_draw => k_is); (case l__law_draw => k_is); (case c__law_draw => k_is); (case k__law_draw => k_is)
    (case a__law_parts => k_is); (case l__law_parts => k_is); (case c__law_parts => k_is); (case k__law_parts => k_is)
    (case a__law_open => k_is); (case l__law_open => k_is); (case c__law_open => k_is); (case k__law_open => k_is)
    (case a_need_process => k_is); (case l_need_process => k_is); (case c_need_process => k_is); (case k_need_process => k_is)
    (case a_need_number => k_is); (case l_need_number => k_is); (case c_need_number => k_is); (case k_need_number => k_is)
    (case a_down => k_is); (case l_down => k_is); (case c_down => k_is); (case k_down => k_is)
    (case a_up => k_is); (case l_up => k_is); (case c_up => k_is); (case k_up => k_is)
    (case a_due_counts => k_is); (case l_due_counts => k_is); (case c_due_counts => k_is); (case k_due_counts => k_is)
    (case a_is_load => k_is); (case l_is_load => k_is); (case c_is_load => k_is); (case k_is_load => k_is)
    (case a_is_full => k_is); (case l_is_full => k_is); (case c_is_full => k_is); (case k_is_full => k_is)
    (case a__law_right => k_is); (case l__law_right => k_is); (case c__law_right => k_is); (case k__law_right => k_is)
    (case a_law => k_is); (case l_law => k_is); (case c_law => k_is); (case k_law => k_is)
    (case n_abs => k_is)
    (case n_max => k_is)
    (case n_int => k_is)
    (case n_isinstance => k_is)
    (case n_bool => k_is)
    (case n_list => k_is)
    (case n_all => k_is)
    (case n_sum => k_is)
    (case n_len => k_is)
    (case n_tuple => k_is)
    (case n_range => k_is)
    (case n_min => k_is)
    (case n_repr => k_is)
    (case n_enumerate => k_is)
    (case i_MOST_PROCESSORS => k_is)
    (case i_MOST_PERIOD => k_is)
    (case i_MOST_PROCESSES => k_is)
