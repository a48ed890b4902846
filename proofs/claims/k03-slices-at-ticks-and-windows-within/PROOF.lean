import PyProof.Rows.All
import Wide.All
import OpenK.AllK
import Wide.FinOn
import HandS.ForMost
import HandS.ForExc
import HandS.Wide
import HandS.Conv
import HandS.IsInst
import HandS.RaiseMore
import PyProof.LongRange
import PyProof.ListRange
import PySem.Challenge.RW_evenslices_k03_slices_at_ticks_and_windo
set_option Elab.async false
set_option linter.all false
set_option maxRecDepth 100000
set_option maxHeartbeats 4000000
namespace DL
open PySem PySem.Spec PyProof.Rows L2

/-! ### data -/
inductive Dt where
  | non
  | bl (b : Bool)
  | int (i : Int)
  | str (x : Str)
  | lst (ds : List Dt)
  | tup (ds : List Dt)
  | opq (a : Addr)

/-- a list that is read, its object known to the letter -/
def SqX (K : PySem.W.Frag) (S : Hp) (a : Addr) (xs : List V) : Prop :=
  Rd S a (.lst xs) ∨ ∃ (its : Array Value) (n : Nat), K.lookup a = some { cls := .type "list", data := .seq its n } ∧ its.size ≤ sizeLine ∧ Vals xs its.toList
theorem SqX.l {K : PySem.W.Frag} {S : Hp} {a : Addr} {xs : List V} (h : SqX K S a xs) : SqL K S a xs := by
  rcases h with h | ⟨its, n, h1, h2, h3⟩
  · exact Or.inl h
  · exact Or.inr ⟨_, its, n, h1, rfl, rfl, rfl, h2, h3⟩
theorem SqX.of {K : PySem.W.Frag} {S : Hp} {a : Addr} {xs : List V} (h : S a = some (.lst xs)) : SqX K S a xs := Or.inl (Or.inl h)
theorem SqX.obj {X : Cx} {pins : List (Addr × Obj)} {σ : L2.St} {H : Hp} {s : Shared} {a : Addr} {xs : List V} (I : Inv X pins σ H s) (h : SqX X.K H a xs) :
    ∃ (its : List Value) (n : Nat), Vals xs its ∧ xs.length ≤ sizeLine ∧ s.heap.get? a = some { cls := .type "list", data := .seq its.toArray n } := by
  rcases h with h | ⟨its, n, h1, h2, h3⟩
  · obtain ⟨z, its, n, r, e⟩ := h.ok I.hok
    exact ⟨its, n, r, z, e⟩
  · have e := h3.length
    simp only [Array.length_toList] at e
    exact ⟨its.toList, n, h3, by omega, by simpa using I.kIn a _ h1⟩

mutual
inductive Rp (K : PySem.W.Frag) (S : Hp) : V → Dt → Prop
  | non : Rp K S V.non Dt.non
  | bl (b : Bool) : Rp K S (V.bl b) (Dt.bl b)
  | int (i : Int) : Rp K S (V.int i) (Dt.int i)
  | str (x : Str) : Rp K S (V.str x) (Dt.str x)
  | lst {a : Addr} {xs : List V} {ds : List Dt} : SqX K S a xs → RpAll K S xs ds → Rp K S (V.ref a) (Dt.lst ds)
  | tup {a : Addr} {xs : List V} {ds : List Dt} : SqT K S a xs → RpAll K S xs ds → Rp K S (V.ref a) (Dt.tup ds)
  | opq (a : Addr) : Rp K S (V.ref a) (Dt.opq a)
inductive RpAll (K : PySem.W.Frag) (S : Hp) : List V → List Dt → Prop
  | nil : RpAll K S [] []
  | cons {v : V} {vs : List V} {d : Dt} {ds : List Dt} : Rp K S v d → RpAll K S vs ds → RpAll K S (v :: vs) (d :: ds)
end

section
variable {K : PySem.W.Frag} {S S' : Hp}
theorem sql_mono (e : Same S S') {a : Addr} {xs : List V} (h : SqL K S a xs) : SqL K S' a xs := e.seq h
theorem sqx_mono (e : Same S S') {a : Addr} {xs : List V} (h : SqX K S a xs) : SqX K S' a xs := by
  rcases h with (h | ⟨o, h⟩) | h
  · exact Or.inl (Or.inl (e _ _ h))
  · exact Or.inl (Or.inr ⟨o, e _ _ h⟩)
  · exact Or.inr h
theorem sqt_mono (e : Same S S') {a : Addr} {xs : List V} (h : SqT K S a xs) : SqT K S' a xs := by
  rcases h with (h | ⟨o, h⟩) | h
  · exact Or.inl (Or.inl (e _ _ h))
  · exact Or.inl (Or.inr ⟨o, e _ _ h⟩)
  · exact Or.inr h
mutual
theorem Rp.mono (e : Same S S') : ∀ (d : Dt) (v : V), Rp K S v d → Rp K S' v d
  | .non, _, h => by cases h; exact Rp.non
  | .bl b, _, h => by cases h; exact Rp.bl b
  | .int i, _, h => by cases h; exact Rp.int i
  | .str x, _, h => by cases h; exact Rp.str x
  | .lst ds, _, h => by
    cases h with
    | lst hs ha => exact Rp.lst (sqx_mono e hs) (RpAll.mono e ds _ ha)
  | .tup ds, _, h => by
    cases h with
    | tup hs ha => exact Rp.tup (sqt_mono e hs) (RpAll.mono e ds _ ha)
  | .opq w, _, h => by cases h; exact Rp.opq w
theorem RpAll.mono (e : Same S S') : ∀ (ds : List Dt) (vs : List V), RpAll K S vs ds → RpAll K S' vs ds
  | [], _, h => by cases h; exact RpAll.nil
  | d :: ds, _, h => by
    cases h with
    | cons h1 h2 => exact RpAll.cons (Rp.mono e d _ h1) (RpAll.mono e ds _ h2)
end
theorem RpAll.len : ∀ {vs : List V} {ds : List Dt}, RpAll K S vs ds → vs.length = ds.length
  | _, _, .nil => rfl
  | _, _, .cons _ t => by rw [List.length_cons, List.length_cons, RpAll.len t]
theorem RpAll.at : ∀ {vs : List V} {ds : List Dt} {i : Nat} {d : Dt}, RpAll K S vs ds → ds[i]? = some d → ∃ v, vs[i]? = some v ∧ Rp K S v d
  | _, _, _, _, .nil, e => by simp at e
  | _, _, 0, _, .cons r _, e => by simp at e; subst e; exact ⟨_, rfl, r⟩
  | _, _, i + 1, d, .cons _ t, e => by
    obtain ⟨u, h1, h2⟩ := RpAll.at (i := i) (d := d) t (by simpa using e)
    exact ⟨u, by simpa using h1, h2⟩
theorem RpAll.atV : ∀ {vs : List V} {ds : List Dt} {i : Nat} {v : V}, RpAll K S vs ds → vs[i]? = some v → ∃ d, ds[i]? = some d ∧ Rp K S v d
  | _, _, _, _, .nil, e => by simp at e
  | _, _, 0, _, .cons r _, e => by simp at e; subst e; exact ⟨_, rfl, r⟩
  | _, _, i + 1, v, .cons _ t, e => by
    obtain ⟨u, h1, h2⟩ := RpAll.atV (i := i) (v := v) t (by simpa using e)
    exact ⟨u, by simpa using h1, h2⟩
theorem RpAll.app : ∀ {vs ws : List V} {ds es : List Dt}, RpAll K S vs ds → RpAll K S ws es → RpAll K S (vs ++ ws) (ds ++ es)
  | _, _, _, _, .nil, s => s
  | _, _, _, _, .cons r t, s => .cons r (RpAll.app t s)
theorem RpAll.take : ∀ {vs : List V} {ds : List Dt} (n : Nat), RpAll K S vs ds → RpAll K S (vs.take n) (ds.take n)
  | _, _, 0, _ => .nil
  | _, _, _ + 1, .nil => .nil
  | _, _, n + 1, .cons r t => .cons r (RpAll.take n t)
theorem RpAll.drop : ∀ {vs : List V} {ds : List Dt} (n : Nat), RpAll K S vs ds → RpAll K S (vs.drop n) (ds.drop n)
  | _, _, 0, r => r
  | _, _, _ + 1, .nil => .nil
  | _, _, n + 1, .cons _ t => RpAll.drop n t
theorem RpAll.set {v : V} {d : Dt} (r : Rp K S v d) : ∀ {vs : List V} {ds : List Dt} (i : Nat), RpAll K S vs ds → RpAll K S (vs.set i v) (ds.set i d)
  | _, _, _, .nil => .nil
  | _, _, 0, .cons _ t => .cons r t
  | _, _, i + 1, .cons q t => .cons q (RpAll.set r i t)
theorem RpAll.ints : ∀ {ns : List Int} {vs : List V}, RpAll K S vs (ns.map Dt.int) → vs = ns.map V.int
  | [], _, h => by cases h; rfl
  | n :: ns, _, h => by
    cases h with
    | cons r t =>
      cases r
      rw [List.map_cons, RpAll.ints t]
theorem RpAll.of_ints : ∀ (ns : List Int), RpAll K S (ns.map V.int) (ns.map Dt.int)
  | [] => .nil
  | n :: ns => .cons (.int n) (RpAll.of_ints ns)
theorem RpAll.bls : ∀ {ns : List Bool} {vs : List V}, RpAll K S vs (ns.map Dt.bl) → vs = ns.map V.bl
  | [], _, h => by cases h; rfl
  | n :: ns, _, h => by
    cases h with
    | cons r t =>
      cases r
      rw [List.map_cons, RpAll.bls t]
theorem RpAll.rep {vs : List V} {ds : List Dt} (h : RpAll K S vs ds) : ∀ k : Nat, RpAll K S (List.replicate k vs).flatten (List.replicate k ds).flatten
  | 0 => .nil
  | k + 1 => by
    rw [List.replicate_succ, List.replicate_succ, List.flatten_cons, List.flatten_cons]
    exact h.app (RpAll.rep h k)
end

/-! ### to the library's data -/
mutual
def Dt.py : Dt → PyData
  | .non => .none
  | .bl b => .bool b
  | .int i => .int i
  | .str x => .str x
  | .lst ds => .list (Dt.pyAll ds)
  | .tup ds => .tuple (Dt.pyAll ds)
  | .opq _ => .none
def Dt.pyAll : List Dt → List PyData
  | [] => []
  | d :: ds => Dt.py d :: Dt.pyAll ds
end
mutual
def Dt.plain : Dt → Bool
  | .lst ds => Dt.plainAll ds
  | .tup ds => Dt.plainAll ds
  | .opq _ => false
  | _ => true
def Dt.plainAll : List Dt → Bool
  | [] => true
  | d :: ds => Dt.plain d && Dt.plainAll ds
end
section
variable {K : PySem.W.Frag} {S : Hp}
mutual
theorem Rp.dp : ∀ (d : Dt) (v : V), Dt.plain d = true → Rp K S v d → Dp K S v (Dt.py d)
  | .non, _, _, h => by cases h; exact Dp.non
  | .bl b, _, _, h => by cases h; exact Dp.bl b
  | .int i, _, _, h => by cases h; exact Dp.int i
  | .str x, _, _, h => by cases h; exact Dp.str x
  | .lst ds, _, p, h => by
    cases h with
    | lst hs ha => exact Dp.lst hs.l (RpAll.dp ds _ p ha)
  | .tup ds, _, p, h => by
    cases h with
    | tup hs ha => exact Dp.tup hs (RpAll.dp ds _ p ha)
  | .opq w, _, p, _ => by cases p
theorem RpAll.dp : ∀ (ds : List Dt) (vs : List V), Dt.plainAll ds = true → RpAll K S vs ds → DpAll K S vs (Dt.pyAll ds)
  | [], _, _, h => by cases h; exact DpAll.nil
  | d :: ds, _, p, h => by
    cases h with
    | cons h1 h2 =>
      have q : (Dt.plain d && Dt.plainAll ds) = true := p
      rw [Bool.and_eq_true] at q
      exact DpAll.cons (Rp.dp d _ q.1 h1) (RpAll.dp ds _ q.2 h2)
end
mutual
theorem dp_mono {S' : Hp} (e : Same S S') : ∀ (d : PyData) (v : V), Dp K S v d → Dp K S' v d
  | .none, _, h => by cases h; exact Dp.non
  | .bool b, _, h => by cases h; exact Dp.bl b
  | .int i, _, h => by cases h; exact Dp.int i
  | .str x, _, h => by cases h; exact Dp.str x
  | .list ds, _, h => by
    cases h with
    | lst hs ha => exact Dp.lst (sql_mono e hs) (dpAll_mono e ds _ ha)
  | .tuple ds, _, h => by
    cases h with
    | tup hs ha => exact Dp.tup (sqt_mono e hs) (dpAll_mono e ds _ ha)
  | .dict _, _, h => by cases h
theorem dpAll_mono {S' : Hp} (e : Same S S') : ∀ (ds : List PyData) (vs : List V), DpAll K S vs ds → DpAll K S' vs ds
  | [], _, h => by cases h; exact DpAll.nil
  | d :: ds, _, h => by
    cases h with
    | cons h1 h2 => exact DpAll.cons (dp_mono e d _ h1) (dpAll_mono e ds _ h2)
end
end

/-! ### the state: what stands, and the lists that are changed -/
structure G where
  S : Hp
  M : Addr → Option (List Dt)
def GOk (K : PySem.W.Frag) (g : G) (H : Hp) : Prop :=
  Same g.S H ∧ ∀ p ds, g.M p = some ds → g.S p = none ∧ ∃ xs, H p = some (.lst xs) ∧ RpAll K g.S xs ds
inductive Sl where
  | no
  | d (x : Dt)
  | o (ds : List Dt)
  | i (p : Addr) (ds : List Dt)
  | t (cs : List (Addr × List Dt)) (x : Dt)
def SlOk (K : PySem.W.Frag) (g : G) (v : Option V) : Sl → Prop
  | .no => True
  | .d x => ∃ u, v = some u ∧ Rp K g.S u x
  | .o ds => ∃ p, v = some (V.ref p) ∧ g.M p = some ds
  | .i p ds => v = some (V.ref p) ∧ g.M p = some ds
  | .t cs x => (∃ u, v = some u ∧ Rp K g.S u x) ∧ (cs.map (·.1)).Nodup ∧ ∀ a ds, (a, ds) ∈ cs → g.M a = some ds
def Sl.own : Sl → Bool
  | .o _ => true
  | .i _ _ => true
  | _ => false
/-- the lists that a slot has for its own -/
def Adr (σ : L2.St) (i : Nat) : Sl → Addr → Prop
  | .no, _ => False
  | .d _, _ => False
  | .o _, p => σ[i]? = some (some (V.ref p))
  | .i _ _, p => σ[i]? = some (some (V.ref p))
  | .t cs _, p => p ∈ cs.map (·.1)
theorem adr_set {σ : L2.St} {i j : Nat} {v : Option V} {p : Addr} (h : j ≠ i) : ∀ {s : Sl}, Adr (σ.set i v) j s p ↔ Adr σ j s p
  | .no => Iff.rfl
  | .d _ => Iff.rfl
  | .o _ => by unfold Adr; rw [List.getElem?_set_ne (Ne.symm h)]
  | .i _ _ => by unfold Adr; rw [List.getElem?_set_ne (Ne.symm h)]
  | .t _ _ => Iff.rfl
/-- slots without lists of their own -/
def Sl.bare : Sl → Bool
  | .no => true
  | .d _ => true
  | _ => false
theorem adr_bare {σ : L2.St} {i : Nat} {p : Addr} : ∀ {s : Sl}, s.bare = true → Adr σ i s p → False
  | .no, _, h => h
  | .d _, _, h => h
  | .o _, h, _ => by cases h
  | .i _ _, h, _ => by cases h
  | .t _ _, h, _ => by cases h
theorem adr_own {σ : L2.St} {i : Nat} {p : Addr} : ∀ {s : Sl}, s.own = true → σ[i]? = some (some (V.ref p)) → Adr σ i s p
  | .no, h, _ => by cases h
  | .d _, h, _ => by cases h
  | .o _, _, h => h
  | .i _ _, _, h => h
  | .t _ _, h, _ => by cases h
def OwnAt (σ : L2.St) (ρ : List Sl) (p : Addr) : Prop := ∃ (i : Nat) (s : Sl), ρ[i]? = some s ∧ Adr σ i s p
structure Rep (K : PySem.W.Frag) (g : G) (σ : L2.St) (ρ : List Sl) : Prop where
  len : σ.length = ρ.length
  sl : ∀ (i : Nat) (s : Sl), ρ[i]? = some s → ∃ v, σ[i]? = some v ∧ SlOk K g v s
  ne : ∀ (i j : Nat) (s t : Sl) (p : Addr), i ≠ j → ρ[i]? = some s → ρ[j]? = some t → Adr σ i s p → Adr σ j t p → False
structure Ext (σ : L2.St) (ρ ρ' : List Sl) (g g' : G) : Prop where
  st : Same g.S g'.S
  mu : ∀ p ds, g.M p = some ds → ¬ OwnAt σ ρ p → g'.M p = some ds
  ow : ∀ p, OwnAt σ ρ' p → OwnAt σ ρ p
theorem Ext.refl (σ : L2.St) (ρ : List Sl) (g : G) : Ext σ ρ ρ g g := ⟨Same.refl _, fun _ _ h _ => h, fun _ h => h⟩
theorem Ext.trans {σ : L2.St} {ρ ρ1 ρ2 : List Sl} {g g1 g2 : G} (a : Ext σ ρ ρ1 g g1) (b : Ext σ ρ1 ρ2 g1 g2) : Ext σ ρ ρ2 g g2 :=
  ⟨a.st.trans b.st, fun p ds h n => b.mu p ds (a.mu p ds h n) fun q => n (a.ow p q), fun p h => a.ow p (b.ow p h)⟩
/-- the state only grows, no list is changed -/
structure Gro (g g' : G) : Prop where
  st : Same g.S g'.S
  mu : ∀ p ds, g.M p = some ds → g'.M p = some ds
theorem Gro.refl (g : G) : Gro g g := ⟨Same.refl _, fun _ _ h => h⟩
theorem Gro.trans {g g1 g2 : G} (a : Gro g g1) (b : Gro g1 g2) : Gro g g2 := ⟨a.st.trans b.st, fun p ds h => b.mu p ds (a.mu p ds h)⟩
theorem Gro.ext {g g' : G} (a : Gro g g') (σ : L2.St) (ρ : List Sl) : Ext σ ρ ρ g g' := ⟨a.st, fun p ds h _ => a.mu p ds h, fun _ h => h⟩
section
variable {K : PySem.W.Frag} {g g' : G} {σ : L2.St} {ρ : List Sl} {H : Hp}
theorem SlOk.gro (a : Gro g g') {v : Option V} : ∀ {s : Sl}, SlOk K g v s → SlOk K g' v s
  | .no, _ => trivial
  | .d x, ⟨u, e, r⟩ => ⟨u, e, r.mono a.st⟩
  | .o ds, ⟨p, e, r⟩ => ⟨p, e, a.mu _ _ r⟩
  | .i p ds, ⟨e, r⟩ => ⟨e, a.mu _ _ r⟩
  | .t cs x, ⟨⟨u, e, r⟩, n, h⟩ => ⟨⟨u, e, r.mono a.st⟩, n, fun p ds z => a.mu _ _ (h p ds z)⟩
theorem Rep.gro (r : Rep K g σ ρ) (a : Gro g g') : Rep K g' σ ρ :=
  ⟨r.len, fun i s h => let ⟨v, e, q⟩ := r.sl i s h; ⟨v, e, q.gro a⟩, r.ne⟩
theorem GOk.free (o : GOk K g H) {p : Addr} (h : H p = none) : g.S p = none ∧ g.M p = none := by
  refine ⟨o.1.free h, ?_⟩
  cases q : g.M p with
  | none => rfl
  | some ds =>
    obtain ⟨_, xs, e, _⟩ := o.2 p ds q
    rw [h] at e; cases e
/-- a new object that will stand -/
def G.stand (g : G) (p : Addr) (o : HO) : G := ⟨upd g.S p o, g.M⟩
/-- a new list that may be changed -/
def G.hold (g : G) (p : Addr) (ds : List Dt) : G := ⟨g.S, fun q => if q = p then some ds else g.M q⟩
theorem stand_gro {p : Addr} {o : HO} (h : g.S p = none) : Gro g (g.stand p o) :=
  ⟨fun b u e => by show upd g.S p o b = some u; rw [upd_ne (ne_of_none e h)]; exact e, fun _ _ h => h⟩
theorem stand_ok (k : GOk K g H) {p : Addr} {o : HO} (h : H p = some o) (hs : g.S p = none) (hm : g.M p = none) : GOk K (g.stand p o) H := by
  refine ⟨fun b u e => ?_, fun q ds e => ?_⟩
  · by_cases hb : b = p
    · subst hb
      have e' : upd g.S b o b = some u := e
      rw [upd_same] at e'
      rw [← e', h]
    · have e' : upd g.S p o b = some u := e
      rw [upd_ne hb] at e'
      exact k.1 b u e'
  · have e' : g.M q = some ds := e
    obtain ⟨h1, xs, h2, h3⟩ := k.2 q ds e'
    have hq : q ≠ p := fun z => by rw [z, hm] at e'; cases e'
    exact ⟨by show upd g.S p o q = none; rw [upd_ne hq]; exact h1, xs, h2, h3.mono (stand_gro hs).st⟩
/-- a new object in the heap, untold -/
theorem GOk.upd (k : GOk K g H) {p : Addr} {o : HO} (h : H p = none) : GOk K g (upd H p o) := by
  obtain ⟨hs, hm⟩ := k.free h
  refine ⟨fun b u e => ?_, fun q ds e => ?_⟩
  · rw [upd_ne (ne_of_none e hs)]; exact k.1 b u e
  · obtain ⟨h1, xs, h2, h3⟩ := k.2 q ds e
    exact ⟨h1, xs, by rw [upd_ne (ne_of_none h2 h)]; exact h2, h3⟩
theorem hold_gro {p : Addr} {ds : List Dt} (h : g.M p = none) : Gro g (g.hold p ds) :=
  ⟨Same.refl _, fun q es e => by
    have hq : q ≠ p := fun z => by rw [z, h] at e; cases e
    show (if q = p then some ds else g.M q) = some es
    rw [if_neg hq]; exact e⟩
theorem hold_ok (k : GOk K g H) {p : Addr} {xs : List V} {ds : List Dt} (h : H p = some (.lst xs)) (hs : g.S p = none) (r : RpAll K g.S xs ds) : GOk K (g.hold p ds) H := by
  refine ⟨k.1, fun q es e => ?_⟩
  have e' : (if q = p then some ds else g.M q) = some es := e
  by_cases hq : q = p
  · subst hq
    rw [if_pos rfl] at e'
    cases e'
    exact ⟨hs, xs, h, r⟩
  · rw [if_neg hq] at e'
    exact k.2 q es e'
theorem Rep.get (r : Rep K g σ ρ) {i : Nat} {x : Dt} (h : ρ[i]? = some (.d x)) : ∃ u, σ[i]? = some (some u) ∧ Rp K g.S u x := by
  obtain ⟨v, e, u, rfl, q⟩ := r.sl i _ h
  exact ⟨u, e, q⟩
theorem Rep.getO (r : Rep K g σ ρ) {i : Nat} {ds : List Dt} (h : ρ[i]? = some (.o ds)) : ∃ p, σ[i]? = some (some (V.ref p)) ∧ g.M p = some ds := by
  obtain ⟨v, e, p, rfl, q⟩ := r.sl i _ h
  exact ⟨p, e, q⟩
theorem Rep.getI (r : Rep K g σ ρ) {i : Nat} {p : Addr} {ds : List Dt} (h : ρ[i]? = some (.i p ds)) : σ[i]? = some (some (V.ref p)) ∧ g.M p = some ds := by
  obtain ⟨v, e, rfl, q⟩ := r.sl i _ h
  exact ⟨e, q⟩
end
end DL
namespace DL
open PySem PySem.Spec PyProof.Rows L2

/-! ### judgements over data -/
def RE (K : PySem.W.Frag) (t : TE) (ρ : List Sl) (d : Dt) (ρ' : List Sl) : Prop :=
  ∀ (σ : L2.St) (H : Hp) (g : G) (Q : VK), GOk K g H → Rep K g σ ρ →
    (∀ v H' g', GOk K g' H' → Ext σ ρ ρ' g g' → Rep K g' σ ρ' → Rp K g'.S v d → Q v H') → t σ H Q
/-- a list, to be read at once -/
def RR (K : PySem.W.Frag) (t : TE) (ρ : List Sl) (ds : List Dt) (ρ' : List Sl) : Prop :=
  ∀ (σ : L2.St) (H : Hp) (g : G) (Q : VK), GOk K g H → Rep K g σ ρ →
    (∀ p xs H' g', GOk K g' H' → Ext σ ρ ρ' g g' → Rep K g' σ ρ' → SqX K H' p xs → RpAll K g'.S xs ds → Q (V.ref p) H') → t σ H Q
/-- a new list -/
def RL (K : PySem.W.Frag) (t : TE) (ρ : List Sl) (ds : List Dt) (ρ' : List Sl) : Prop :=
  ∀ (σ : L2.St) (H : Hp) (g : G) (Q : VK), GOk K g H → Rep K g σ ρ →
    (∀ p xs H' g', GOk K g' H' → Ext σ ρ ρ' g g' → Rep K g' σ ρ' → H' p = some (.lst xs) → g'.S p = none → g'.M p = none → RpAll K g'.S xs ds → Q (V.ref p) H') → t σ H Q
def RT (K : PySem.W.Frag) (t : TT) (ρ : List Sl) (b : Bool) (ρ' : List Sl) : Prop :=
  ∀ (σ : L2.St) (H : Hp) (g : G) (Q : Bool → Hp → Prop), GOk K g H → Rep K g σ ρ →
    (∀ H' g', GOk K g' H' → Ext σ ρ ρ' g g' → Rep K g' σ ρ' → Q b H') → t σ H Q
def RA (K : PySem.W.Frag) (t : TA) (ρ : List Sl) (ds : List Dt) (ρ' : List Sl) : Prop :=
  ∀ (σ : L2.St) (H : Hp) (g : G) (Q : List V → Hp → Prop), GOk K g H → Rep K g σ ρ →
    (∀ vs H' g', GOk K g' H' → Ext σ ρ ρ' g g' → Rep K g' σ ρ' → RpAll K g'.S vs ds → Q vs H') → t σ H Q
def VE (X : Cx) (ρ : List Sl) (e : Expr) (d : Dt) (ρ' : List Sl) : Prop := ∃ t, PE X e t ∧ RE X.K t ρ d ρ'
def VR (X : Cx) (ρ : List Sl) (e : Expr) (ds : List Dt) (ρ' : List Sl) : Prop := ∃ t, PE X e t ∧ RR X.K t ρ ds ρ'
def VL (X : Cx) (ρ : List Sl) (e : Expr) (ds : List Dt) (ρ' : List Sl) : Prop := ∃ t, PE X e t ∧ RL X.K t ρ ds ρ'
def VT (X : Cx) (ρ : List Sl) (e : Expr) (b : Bool) (ρ' : List Sl) : Prop := ∃ t, PT X e t ∧ RT X.K t ρ b ρ'
def VW (X : Cx) (ρ : List Sl) (e : Expr) (b : Bool) (ρ' : List Sl) : Prop := ∃ t, PW X e t ∧ RT X.K t ρ b ρ'
def VA (X : Cx) (ρ : List Sl) (es : List Expr) (ds : List Dt) (ρ' : List Sl) : Prop := ∃ t, PA X es t ∧ RA X.K t ρ ds ρ'

/-! ### operations on values -/
def RO (K : PySem.W.Frag) (r : R2) (x y z : Dt) : Prop := ∀ v u H g (Q : VK), GOk K g H → Rp K g.S v x → Rp K g.S u y →
  (∀ w H' g', GOk K g' H' → Gro g g' → Rp K g'.S w z → Q w H') → r v u H Q
def RU1 (K : PySem.W.Frag) (r : V → Hp → VK → Prop) (x z : Dt) : Prop := ∀ v H g (Q : VK), GOk K g H → Rp K g.S v x →
  (∀ w H' g', GOk K g' H' → Gro g g' → Rp K g'.S w z → Q w H') → r v H Q
/-- a call by values -/
def RC (K : PySem.W.Frag) (r : List V → Hp → VK → Prop) (xs : List Dt) (z : Dt) : Prop := ∀ vs H g (Q : VK), GOk K g H → RpAll K g.S vs xs →
  (∀ w H' g', GOk K g' H' → Gro g g' → Rp K g'.S w z → Q w H') → r vs H Q
section
variable {K : PySem.W.Frag} {x y z : Dt}
theorem ro_I0 {f : Int → Int → Int} {i j : Int} : RO K (rI0 fun i j => V.int (f i j)) (.int i) (.int j) (.int (f i j)) := fun v u H g Q k rx ry q => by
  cases rx; cases ry
  exact ⟨i, j, rfl, rfl, q _ H g k (Gro.refl g) (Rp.int _)⟩
theorem ro_I {C : Int → Int → Prop} {f : Int → Int → Int} {i j : Int} (hc : C i j) : RO K (rI C fun i j => V.int (f i j)) (.int i) (.int j) (.int (f i j)) := fun v u H g Q k rx ry q => by
  cases rx; cases ry
  exact ⟨i, j, rfl, rfl, hc, q _ H g k (Gro.refl g) (Rp.int _)⟩
theorem ro_B0 {f : Int → Int → Bool} {i j : Int} : RO K (rI0 fun i j => V.bl (f i j)) (.int i) (.int j) (.bl (f i j)) := fun v u H g Q k rx ry q => by
  cases rx; cases ry
  exact ⟨i, j, rfl, rfl, q _ H g k (Gro.refl g) (Rp.bl _)⟩
theorem dec_i {i j : Int} : decide (V.int i = V.int j) = decide (i = j) := by
  by_cases h : i = j
  · subst h; simp
  · have n : ¬ V.int i = V.int j := fun e => h (V.int.inj e)
    rw [decide_eq_false h, decide_eq_false n]
theorem dec_b {i j : Bool} : decide (V.bl i = V.bl j) = decide (i = j) := by
  by_cases h : i = j
  · subst h; simp
  · have n : ¬ V.bl i = V.bl j := fun e => h (V.bl.inj e)
    rw [decide_eq_false h, decide_eq_false n]
theorem dec_s {i j : Str} : decide (V.str i = V.str j) = decide (i = j) := by
  by_cases h : i = j
  · subst h; simp
  · have n : ¬ V.str i = V.str j := fun e => h (V.str.inj e)
    rw [decide_eq_false h, decide_eq_false n]
theorem ro_eqI {i j : Int} : RO K rEq (.int i) (.int j) (.bl (decide (i = j))) := fun v u H g Q k rx ry q => by
  cases rx; cases ry
  exact ⟨rfl, by rw [dec_i]; exact q _ H g k (Gro.refl g) (Rp.bl _)⟩
theorem ro_neI {i j : Int} : RO K rNe (.int i) (.int j) (.bl (!decide (i = j))) := fun v u H g Q k rx ry q => by
  cases rx; cases ry
  exact ⟨rfl, by rw [dec_i]; exact q _ H g k (Gro.refl g) (Rp.bl _)⟩
theorem ro_eqB {i j : Bool} : RO K rEq (.bl i) (.bl j) (.bl (decide (i = j))) := fun v u H g Q k rx ry q => by
  cases rx; cases ry
  exact ⟨rfl, by rw [dec_b]; exact q _ H g k (Gro.refl g) (Rp.bl _)⟩
theorem ro_eqS {i j : Str} : RO K rEq (.str i) (.str j) (.bl (decide (i = j))) := fun v u H g Q k rx ry q => by
  cases rx; cases ry
  exact ⟨rfl, by rw [dec_s]; exact q _ H g k (Gro.refl g) (Rp.bl _)⟩
theorem ro_neS {i j : Str} : RO K rNe (.str i) (.str j) (.bl (!decide (i = j))) := fun v u H g Q k rx ry q => by
  cases rx; cases ry
  exact ⟨rfl, by rw [dec_s]; exact q _ H g k (Gro.refl g) (Rp.bl _)⟩
def Dt.isNon : Dt → Bool
  | .non => true
  | _ => false
theorem rp_non {S : Hp} {v : V} (r : Rp K S v x) : decide (v = V.non) = x.isNon := by
  cases r <;> simp [Dt.isNon]
theorem ro_isN : RO K (fun x y H Q => y = V.non ∧ Q (.bl (decide (x = V.non))) H) x .non (.bl x.isNon) := fun v u H g Q k rx ry q => by
  cases ry
  exact ⟨rfl, by rw [rp_non rx]; exact q _ H g k (Gro.refl g) (Rp.bl _)⟩
theorem ro_notN : RO K (fun x y H Q => y = V.non ∧ Q (.bl (!decide (x = V.non))) H) x .non (.bl (!x.isNon)) := fun v u H g Q k rx ry q => by
  cases ry
  exact ⟨rfl, by rw [rp_non rx]; exact q _ H g k (Gro.refl g) (Rp.bl _)⟩
theorem ru_neg {i : Int} : RU1 K (rU fun i => V.int (-i)) (.int i) (.int (-i)) := fun v H g Q k rx q => by
  cases rx
  exact ⟨i, rfl, q _ H g k (Gro.refl g) (Rp.int _)⟩
end

section
variable {X : Cx} {ρ ρ1 ρ2 ρ3 : List Sl} {a b c e : Expr} {es : List Expr} {x y z d : Dt} {ds : List Dt} {pos : Pos} {k : Nat}

/-! ### names, constants -/
theorem ve_var {x : Dt} (i : Nat) {nm : Str} (h : ρ[i]? = some (.d x) := by rfl) (hN : X.N[i]? = some nm := by rfl) (hv : Vis X.env.scope nm := by first | exact Or.inl rfl | exact Or.inr (Or.inl rfl) | exact Or.inr (Or.inr rfl))
    (hd : (nm == ("__debug__" : Str)) = false := by decide) (hcd : (nm == ("__classdict__" : Str)) = false := by decide) : VE X ρ (.Name nm pos) x ρ :=
  ⟨_, pe_var hN hv hd hcd, fun σ H g Q k r q => by
    obtain ⟨u, e1, e2⟩ := r.get h
    exact ⟨u, e1, q u H g k (Ext.refl _ _ _) r e2⟩⟩
theorem ve_int {i : Int} {j : Nat} : VE X ρ (.Constant (.int i) j pos) (.int i) ρ := ⟨_, pe_int, fun σ H g Q k r q => q _ H g k (Ext.refl _ _ _) r (Rp.int i)⟩
theorem ve_bl {i : Bool} {j : Nat} : VE X ρ (.Constant (.bool i) j pos) (.bl i) ρ := ⟨_, pe_bl, fun σ H g Q k r q => q _ H g k (Ext.refl _ _ _) r (Rp.bl i)⟩
theorem ve_non {j : Nat} : VE X ρ (.Constant .none j pos) .non ρ := ⟨_, pe_non, fun σ H g Q k r q => q _ H g k (Ext.refl _ _ _) r Rp.non⟩
theorem ve_str {i : Str} {j : Nat} : VE X ρ (.Constant (.str i) j pos) (.str i) ρ := ⟨_, pe_str, fun σ H g Q k r q => q _ H g k (Ext.refl _ _ _) r (Rp.str i)⟩
/-- an int of the module -/
theorem ve_globI {nm : Str} {i : Int} {u : Value} (hg : Gl X nm) (hm : X.mg nm = some u) (r : RelV (V.int i) u) (hd : (nm == ("__debug__" : Str)) = false := by decide) : VE X ρ (.Name nm pos) (.int i) ρ :=
  ⟨_, pe_glob hg hm r hd, fun σ H g Q k r q => q _ H g k (Ext.refl _ _ _) r (Rp.int i)⟩
theorem ve_globS {nm : Str} {i : Str} {u : Value} (hg : Gl X nm) (hm : X.mg nm = some u) (r : RelV (V.str i) u) (hd : (nm == ("__debug__" : Str)) = false := by decide) : VE X ρ (.Name nm pos) (.str i) ρ :=
  ⟨_, pe_glob hg hm r hd, fun σ H g Q k r q => q _ H g k (Ext.refl _ _ _) r (Rp.str i)⟩
theorem VE.to (h : VE X ρ e d ρ1) (e1 : d = x) : VE X ρ e x ρ1 := e1 ▸ h

/-! ### operators -/
theorem RE.op {ta tb : TE} {r : R2} {K : PySem.W.Frag} (ha : RE K ta ρ x ρ1) (hb : RE K tb ρ1 y ρ2) (hr : RO K r x y z) : RE K (tOp r ta tb) ρ z ρ2 := fun σ H g Q k rp q =>
  ha σ H g _ k rp fun v H1 g1 k1 e1 r1 rv => hb σ H1 g1 _ k1 r1 fun u H2 g2 k2 e2 r2 ru => hr v u H2 g2 _ k2 (rv.mono e2.st) ru fun w H3 g3 k3 e3 rw' =>
    q w H3 g3 k3 ((e1.trans e2).trans (e3.ext _ _)) (r2.gro e3) rw'
theorem ve_op {op : Operator} {r : R2} (ho : OpR X (binaryOp op) r) (hr : RO X.K r x y z) (ha : VE X ρ a x ρ1) (hb : VE X ρ1 b y ρ2) : VE X ρ (.BinOp a op b pos) z ρ2 := by
  obtain ⟨ta, pa, qa⟩ := ha
  obtain ⟨tb, pb, qb⟩ := hb
  exact ⟨_, pe_op ho pa pb, qa.op qb hr⟩
theorem ve_un {op : UnaryOp} {r : V → Hp → VK → Prop} (ho : UnR X (unaryOp op) r) (hr : RU1 X.K r x z) (ha : VE X ρ a x ρ1) : VE X ρ (.UnaryOp op a pos) z ρ1 := by
  obtain ⟨ta, pa, qa⟩ := ha
  exact ⟨_, pe_un ho pa, fun σ H g Q k rp q => qa σ H g _ k rp fun v H1 g1 k1 e1 r1 rv => hr v H1 g1 _ k1 rv fun w H2 g2 k2 e2 rw' => q w H2 g2 k2 (e1.trans (e2.ext _ _)) (r1.gro e2) rw'⟩
theorem ve_cmp {op : CmpOp} {r : R2} (ho : OpR X (compareOp op) r) (hr : RO X.K r x y z) (hm : behindInMarks op b = false) (ha : VE X ρ a x ρ1) (hb : VE X ρ1 b y ρ2) : VE X ρ (.Compare a [op] [b] pos) z ρ2 := by
  obtain ⟨ta, pa, qa⟩ := ha
  obtain ⟨tb, pb, qb⟩ := hb
  exact ⟨_, pe_cmpR ho pa pb hm, qa.op qb hr⟩
theorem vt_cmp {op : CmpOp} {r : R2} {w : Bool} (ho : OpR X (compareOp op) r) (hr : RO X.K r x y (.bl w)) (hm : behindInMarks op b = false) (ha : VE X ρ a x ρ1) (hb : VE X ρ1 b y ρ2) : VT X ρ (.Compare a [op] [b] pos) w ρ2 := by
  obtain ⟨ta, pa, qa⟩ := ha
  obtain ⟨tb, pb, qb⟩ := hb
  refine ⟨_, pt_cmpR ho pa pb hm, fun σ H g Q k rp q => qa.op qb hr σ H g _ k rp fun v H1 g1 k1 e1 r1 rv => ?_⟩
  cases rv
  exact ⟨w, rfl, q H1 g1 k1 e1 r1⟩
def CMulD (i j : Int) : Prop := i.natAbs.log2 + j.natAbs.log2 < 1000000
def CPowD (i j : Int) : Prop := 0 ≤ j ∧ (Builtin.Int.intBits i : Int) * j ≤ 2 ^ 27
theorem op_powD : OpR X (binaryOp .Pow) (rI CPowD fun i j => .int (i ^ j.toNat)) := opI fun _ _ _ _ _ _ _ hc q => PyProof.Rows.pow_int hc.1 hc.2 q
theorem ve_add {i j : Int} (ha : VE X ρ a (.int i) ρ1) (hb : VE X ρ1 b (.int j) ρ2) : VE X ρ (.BinOp a .Add b pos) (.int (i + j)) ρ2 := ve_op op_add ro_I0 ha hb
theorem ve_sub {i j : Int} (ha : VE X ρ a (.int i) ρ1) (hb : VE X ρ1 b (.int j) ρ2) : VE X ρ (.BinOp a .Sub b pos) (.int (i - j)) ρ2 := ve_op op_sub ro_I0 ha hb
theorem ve_mul {i j : Int} (ha : VE X ρ a (.int i) ρ1) (hb : VE X ρ1 b (.int j) ρ2) (hc : CMulW i j) : VE X ρ (.BinOp a .Mult b pos) (.int (i * j)) ρ2 := ve_op op_mulW (ro_I hc) ha hb
theorem ve_div {i j : Int} (ha : VE X ρ a (.int i) ρ1) (hb : VE X ρ1 b (.int j) ρ2) (hc : CDivW i j) : VE X ρ (.BinOp a .FloorDiv b pos) (.int (i / j)) ρ2 := ve_op op_fdivW (ro_I hc) ha hb
theorem ve_mod {i j : Int} (ha : VE X ρ a (.int i) ρ1) (hb : VE X ρ1 b (.int j) ρ2) (hc : 0 < j) : VE X ρ (.BinOp a .Mod b pos) (.int (i % j)) ρ2 := ve_op op_mod (ro_I hc) ha hb
theorem ve_pow {i j : Int} (ha : VE X ρ a (.int i) ρ1) (hb : VE X ρ1 b (.int j) ρ2) (hc : CPowD i j) : VE X ρ (.BinOp a .Pow b pos) (.int (i ^ j.toNat)) ρ2 := ve_op op_powD (ro_I hc) ha hb
theorem ve_neg {i : Int} (ha : VE X ρ a (.int i) ρ1) : VE X ρ (.UnaryOp .USub a pos) (.int (-i)) ρ1 := ve_un un_neg ru_neg ha

/-! ### comparisons: as values, as tests -/
theorem ve_lt {i j : Int} (ha : VE X ρ a (.int i) ρ1) (hb : VE X ρ1 b (.int j) ρ2) : VE X ρ (.Compare a [.Lt] [b] pos) (.bl (decide (i < j))) ρ2 := ve_cmp op_lt ro_B0 (nomark _) ha hb
theorem ve_le {i j : Int} (ha : VE X ρ a (.int i) ρ1) (hb : VE X ρ1 b (.int j) ρ2) : VE X ρ (.Compare a [.LtE] [b] pos) (.bl (decide (i ≤ j))) ρ2 := ve_cmp op_le ro_B0 (nomark _) ha hb
theorem ve_gt {i j : Int} (ha : VE X ρ a (.int i) ρ1) (hb : VE X ρ1 b (.int j) ρ2) : VE X ρ (.Compare a [.Gt] [b] pos) (.bl (decide (j < i))) ρ2 := ve_cmp op_gt ro_B0 (nomark _) ha hb
theorem ve_ge {i j : Int} (ha : VE X ρ a (.int i) ρ1) (hb : VE X ρ1 b (.int j) ρ2) : VE X ρ (.Compare a [.GtE] [b] pos) (.bl (decide (j ≤ i))) ρ2 := ve_cmp op_ge ro_B0 (nomark _) ha hb
theorem ve_eqI {i j : Int} (ha : VE X ρ a (.int i) ρ1) (hb : VE X ρ1 b (.int j) ρ2) : VE X ρ (.Compare a [.Eq] [b] pos) (.bl (decide (i = j))) ρ2 := ve_cmp op_eq ro_eqI (nomark _) ha hb
theorem ve_neI {i j : Int} (ha : VE X ρ a (.int i) ρ1) (hb : VE X ρ1 b (.int j) ρ2) : VE X ρ (.Compare a [.NotEq] [b] pos) (.bl (!decide (i = j))) ρ2 := ve_cmp op_ne ro_neI (nomark _) ha hb
theorem ve_isN (ha : VE X ρ a x ρ1) {j : Nat} {p : Pos} : VE X ρ (.Compare a [.Is] [.Constant .none j p] pos) (.bl x.isNon) ρ1 := ve_cmp op_isN ro_isN (nomark _) ha ve_non
theorem ve_notN (ha : VE X ρ a x ρ1) {j : Nat} {p : Pos} : VE X ρ (.Compare a [.IsNot] [.Constant .none j p] pos) (.bl (!x.isNon)) ρ1 := ve_cmp op_notN ro_notN (nomark _) ha ve_non
theorem vt_lt {i j : Int} (ha : VE X ρ a (.int i) ρ1) (hb : VE X ρ1 b (.int j) ρ2) : VT X ρ (.Compare a [.Lt] [b] pos) (decide (i < j)) ρ2 := vt_cmp op_lt ro_B0 (nomark _) ha hb
theorem vt_le {i j : Int} (ha : VE X ρ a (.int i) ρ1) (hb : VE X ρ1 b (.int j) ρ2) : VT X ρ (.Compare a [.LtE] [b] pos) (decide (i ≤ j)) ρ2 := vt_cmp op_le ro_B0 (nomark _) ha hb
theorem vt_gt {i j : Int} (ha : VE X ρ a (.int i) ρ1) (hb : VE X ρ1 b (.int j) ρ2) : VT X ρ (.Compare a [.Gt] [b] pos) (decide (j < i)) ρ2 := vt_cmp op_gt ro_B0 (nomark _) ha hb
theorem vt_ge {i j : Int} (ha : VE X ρ a (.int i) ρ1) (hb : VE X ρ1 b (.int j) ρ2) : VT X ρ (.Compare a [.GtE] [b] pos) (decide (j ≤ i)) ρ2 := vt_cmp op_ge ro_B0 (nomark _) ha hb
theorem vt_eqI {i j : Int} (ha : VE X ρ a (.int i) ρ1) (hb : VE X ρ1 b (.int j) ρ2) : VT X ρ (.Compare a [.Eq] [b] pos) (decide (i = j)) ρ2 := vt_cmp op_eq ro_eqI (nomark _) ha hb
theorem vt_neI {i j : Int} (ha : VE X ρ a (.int i) ρ1) (hb : VE X ρ1 b (.int j) ρ2) : VT X ρ (.Compare a [.NotEq] [b] pos) (!decide (i = j)) ρ2 := vt_cmp op_ne ro_neI (nomark _) ha hb
theorem vt_eqS {i j : Str} (ha : VE X ρ a (.str i) ρ1) (hb : VE X ρ1 b (.str j) ρ2) : VT X ρ (.Compare a [.Eq] [b] pos) (decide (i = j)) ρ2 := vt_cmp op_eq ro_eqS (nomark _) ha hb
theorem vt_neS {i j : Str} (ha : VE X ρ a (.str i) ρ1) (hb : VE X ρ1 b (.str j) ρ2) : VT X ρ (.Compare a [.NotEq] [b] pos) (!decide (i = j)) ρ2 := vt_cmp op_ne ro_neS (nomark _) ha hb
theorem vt_isN (ha : VE X ρ a x ρ1) {j : Nat} {p : Pos} : VT X ρ (.Compare a [.Is] [.Constant .none j p] pos) x.isNon ρ1 := vt_cmp op_isN ro_isN (nomark _) ha ve_non
theorem vt_notN (ha : VE X ρ a x ρ1) {j : Nat} {p : Pos} : VT X ρ (.Compare a [.IsNot] [.Constant .none j p] pos) (!x.isNon) ρ1 := vt_cmp op_notN ro_notN (nomark _) ha ve_non
/-- a < b < c and its like, on ints; the third is not asked where the first answer is no -/
theorem RE.chain {K : PySem.W.Frag} {ta tb tc : TE} {f f' : Int → Int → Bool} {i j l : Int} (ha : RE K ta ρ (.int i) ρ1) (hb : RE K tb ρ1 (.int j) ρ2) (hc : RE K tc ρ2 (.int l) ρ2) :
    RE K (tChain (rI0 fun i j => V.bl (f i j)) (rI0 fun i j => V.bl (f' i j)) ta tb tc) ρ (.bl (f i j && f' j l)) ρ2 := fun σ H g Q k rp q =>
  ha σ H g _ k rp fun v H1 g1 k1 e1 r1 rv => hb σ H1 g1 _ k1 r1 fun u H2 g2 k2 e2 r2 ru => by
    cases rv; cases ru
    refine ⟨i, j, rfl, rfl, f i j, rfl, ?_⟩
    cases h : f i j with
    | true =>
      refine hc σ H2 g2 _ k2 r2 fun w H3 g3 k3 e3 r3 rw' => ?_
      cases rw'
      refine ⟨j, l, rfl, rfl, ?_⟩
      rw [h, Bool.true_and] at q
      exact q _ H3 g3 k3 ((e1.trans e2).trans e3) r3 (Rp.bl _)
    | false =>
      rw [h, Bool.false_and] at q
      exact q _ H2 g2 k2 (e1.trans e2) r2 (Rp.bl _)
end
end DL
namespace DL
open PySem PySem.Spec PyProof.Rows L2
section
variable {X : Cx} {ρ ρ1 ρ2 ρ3 : List Sl} {a b c e : Expr} {es : List Expr} {x y z d : Dt} {ds : List Dt} {pos : Pos} {k : Nat}
/-! ### nothing is asked of what is not reached -/
theorem pe_no : PE X e (fun _ _ _ => False) := ⟨fun _ _ _ _ _ _ h => h.elim⟩
theorem pt_no : PT X e (fun _ _ _ => False) := ⟨fun _ _ _ _ _ _ h => h.elim⟩
theorem pw_no : PW X e (fun _ _ _ => False) := ⟨fun _ _ _ _ _ _ _ h => h.elim⟩
theorem ps_no {st : Stmt} : PS X st (fun _ _ _ => False) := ⟨fun _ _ _ _ _ _ h => h.elim⟩
theorem pss_no {st : List Stmt} : PSs X st (fun _ _ _ => False) := ⟨fun _ _ _ _ _ _ h => h.elim⟩

/-! ### chains -/
theorem ve_chain {o o' : CmpOp} {f f' : Int → Int → Bool} {i j l : Int} (ho : OpR X (compareOp o) (rI0 fun i j => V.bl (f i j))) (ho' : OpR X (compareOp o') (rI0 fun i j => V.bl (f' i j)))
    (ha : VE X ρ a (.int i) ρ1) (hb : VE X ρ1 b (.int j) ρ2) (hc : VE X ρ2 c (.int l) ρ2) (hm : lastMarks [o, o'] [b, c] = false := by with_unfolding_all rfl) : VE X ρ (.Compare a [o, o'] [b, c] pos) (.bl (f i j && f' j l)) ρ2 := by
  obtain ⟨ta, pa, qa⟩ := ha
  obtain ⟨tb, pb, qb⟩ := hb
  obtain ⟨tc, pc, qc⟩ := hc
  exact ⟨_, pe_chain ho ho' pa pb pc hm, qa.chain qb qc⟩
theorem vt_chain {o o' : CmpOp} {f f' : Int → Int → Bool} {i j l : Int} (ho : OpR X (compareOp o) (rI0 fun i j => V.bl (f i j))) (ho' : OpR X (compareOp o') (rI0 fun i j => V.bl (f' i j)))
    (ha : VE X ρ a (.int i) ρ1) (hb : VE X ρ1 b (.int j) ρ2) (hc : VE X ρ2 c (.int l) ρ2) (hm : lastMarks [o, o'] [b, c] = false := by with_unfolding_all rfl) : VT X ρ (.Compare a [o, o'] [b, c] pos) (f i j && f' j l) ρ2 := by
  obtain ⟨ta, pa, qa⟩ := ha
  obtain ⟨tb, pb, qb⟩ := hb
  obtain ⟨tc, pc, qc⟩ := hc
  refine ⟨_, pt_chain ho ho' pa pb pc hm, fun σ H g Q k rp q => qa.chain qb qc σ H g _ k rp fun v H1 g1 k1 e1 r1 rv => ?_⟩
  cases rv
  exact ⟨_, rfl, q H1 g1 k1 e1 r1⟩

/-! ### and, or, not, if -/
theorem VW.t {w : Bool} (h : VW X ρ e w ρ1) : VT X ρ e w ρ1 := let ⟨t, p, q⟩ := h; ⟨t, p.pt, q⟩
theorem vw_and1 {w : Bool} (h : VT X ρ a w ρ1) : VW X ρ (.BoolOp .And [a] pos) w ρ1 := let ⟨t, p, q⟩ := h; ⟨t, pw_and1 p, q⟩
theorem vw_or1 {w : Bool} (h : VT X ρ a w ρ1) : VW X ρ (.BoolOp .Or [a] pos) w ρ1 := let ⟨t, p, q⟩ := h; ⟨t, pw_or1 p, q⟩
theorem vw_and {v w : Bool} (h : VT X ρ a v ρ1) (h2 : v = true → VW X ρ1 (.BoolOp .And (b :: es) pos) w ρ1) : VW X ρ (.BoolOp .And (a :: b :: es) pos) (v && w) ρ1 := by
  obtain ⟨t, p, q⟩ := h
  cases v with
  | true =>
    obtain ⟨u, p2, q2⟩ := h2 rfl
    refine ⟨_, pw_and p p2, fun σ H g Q k rp z => q σ H g _ k rp fun H1 g1 k1 e1 r1 => ?_⟩
    exact iteT (q2 σ H1 g1 Q k1 r1 fun H2 g2 k2 e2 r2 => by rw [Bool.true_and] at z; exact z H2 g2 k2 (e1.trans e2) r2)
  | false =>
    refine ⟨_, pw_and p pw_no, fun σ H g Q k rp z => q σ H g _ k rp fun H1 g1 k1 e1 r1 => ?_⟩
    exact iteF (by rw [Bool.false_and] at z; exact z H1 g1 k1 e1 r1)
theorem vw_or {v w : Bool} (h : VT X ρ a v ρ1) (h2 : v = false → VW X ρ1 (.BoolOp .Or (b :: es) pos) w ρ1) : VW X ρ (.BoolOp .Or (a :: b :: es) pos) (v || w) ρ1 := by
  obtain ⟨t, p, q⟩ := h
  cases v with
  | false =>
    obtain ⟨u, p2, q2⟩ := h2 rfl
    refine ⟨_, pw_or p p2, fun σ H g Q k rp z => q σ H g _ k rp fun H1 g1 k1 e1 r1 => ?_⟩
    exact iteF (q2 σ H1 g1 Q k1 r1 fun H2 g2 k2 e2 r2 => by rw [Bool.false_or] at z; exact z H2 g2 k2 (e1.trans e2) r2)
  | true =>
    refine ⟨_, pw_or p pw_no, fun σ H g Q k rp z => q σ H g _ k rp fun H1 g1 k1 e1 r1 => ?_⟩
    exact iteT (by rw [Bool.true_or] at z; exact z H1 g1 k1 e1 r1)
theorem vw_or0 {v w : Bool} (h : VT X ρ a v ρ1) (hv : v = false) (h2 : VW X ρ1 (.BoolOp .Or (b :: es) pos) w ρ2) : VW X ρ (.BoolOp .Or (a :: b :: es) pos) w ρ2 := by
  subst hv
  obtain ⟨t, p, q⟩ := h
  obtain ⟨u, p2, q2⟩ := h2
  exact ⟨_, pw_or p p2, fun σ H g Q k rp z => q σ H g _ k rp fun H1 g1 k1 e1 r1 => iteF (q2 σ H1 g1 Q k1 r1 fun H2 g2 k2 e2 r2 => z H2 g2 k2 (e1.trans e2) r2)⟩
theorem vw_and0 {v w : Bool} (h : VT X ρ a v ρ1) (hv : v = true) (h2 : VW X ρ1 (.BoolOp .And (b :: es) pos) w ρ2) : VW X ρ (.BoolOp .And (a :: b :: es) pos) w ρ2 := by
  subst hv
  obtain ⟨t, p, q⟩ := h
  obtain ⟨u, p2, q2⟩ := h2
  exact ⟨_, pw_and p p2, fun σ H g Q k rp z => q σ H g _ k rp fun H1 g1 k1 e1 r1 => iteT (q2 σ H1 g1 Q k1 r1 fun H2 g2 k2 e2 r2 => z H2 g2 k2 (e1.trans e2) r2)⟩
/-- the first one decides -/
theorem vw_orT {v : Bool} (h : VT X ρ a v ρ1) (hv : v = true) : VW X ρ (.BoolOp .Or (a :: b :: es) pos) true ρ1 := by
  subst hv
  obtain ⟨t, p, q⟩ := h
  exact ⟨_, pw_or p pw_no, fun σ H g Q k rp z => q σ H g _ k rp fun H1 g1 k1 e1 r1 => iteT (z H1 g1 k1 e1 r1)⟩
theorem vw_andF {v : Bool} (h : VT X ρ a v ρ1) (hv : v = false) : VW X ρ (.BoolOp .And (a :: b :: es) pos) false ρ1 := by
  subst hv
  obtain ⟨t, p, q⟩ := h
  exact ⟨_, pw_and p pw_no, fun σ H g Q k rp z => q σ H g _ k rp fun H1 g1 k1 e1 r1 => iteF (z H1 g1 k1 e1 r1)⟩
theorem vt_not {w : Bool} (h : VT X ρ a w ρ1) : VT X ρ (.UnaryOp .Not a pos) (!w) ρ1 := let ⟨t, p, q⟩ := h; ⟨_, pt_not p, fun σ H g Q k rp z => q σ H g _ k rp fun H1 g1 k1 e1 r1 => z H1 g1 k1 e1 r1⟩
theorem vt_val {w : Bool} (h : VE X ρ e (.bl w) ρ1) (he : ∀ whole, isTrue e X.env whole = (do let v ← whole; standAt e.pos; holding [v] (truthy v)) := by intro _; rfl) : VT X ρ e w ρ1 :=
  let ⟨t, p, q⟩ := h
  ⟨_, pt_val p he, fun σ H g Q k rp z => q σ H g _ k rp fun v H1 g1 k1 e1 r1 rv => by cases rv; exact ⟨w, rfl, z H1 g1 k1 e1 r1⟩⟩
theorem VT.to {v w : Bool} (h : VT X ρ e v ρ1) (e1 : v = w) : VT X ρ e w ρ1 := e1 ▸ h
theorem ve_not {w : Bool} (h : VE X ρ a (.bl w) ρ1) : VE X ρ (.UnaryOp .Not a pos) (.bl (!w)) ρ1 := let ⟨t, p, q⟩ := h; ⟨_, pe_not p, fun σ H g Q k rp z => q σ H g _ k rp fun v H1 g1 k1 e1 r1 rv => by cases rv; exact ⟨w, rfl, z _ H1 g1 k1 e1 r1 (Rp.bl _)⟩⟩
theorem ve_one {o : BoolOp} (h : VE X ρ a x ρ1) : VE X ρ (.BoolOp o [a] pos) x ρ1 := let ⟨t, p, q⟩ := h; ⟨_, pe_one p, q⟩
theorem ve_and {v : Bool} {w : Bool} (h : VE X ρ a (.bl v) ρ1) (h2 : v = true → VE X ρ1 (.BoolOp .And (b :: es) pos) (.bl w) ρ1) : VE X ρ (.BoolOp .And (a :: b :: es) pos) (.bl (v && w)) ρ1 := by
  obtain ⟨t, p, q⟩ := h
  cases v with
  | true =>
    obtain ⟨u, p2, q2⟩ := h2 rfl
    refine ⟨_, pe_and p p2, fun σ H g Q k rp z => q σ H g _ k rp fun vv H1 g1 k1 e1 r1 rv => ?_⟩
    cases rv
    exact ⟨true, rfl, iteT (q2 σ H1 g1 Q k1 r1 fun v2 H2 g2 k2 e2 r2 rv2 => by rw [Bool.true_and] at z; exact z v2 H2 g2 k2 (e1.trans e2) r2 rv2)⟩
  | false =>
    refine ⟨_, pe_and p pe_no, fun σ H g Q k rp z => q σ H g _ k rp fun vv H1 g1 k1 e1 r1 rv => ?_⟩
    cases rv
    exact ⟨false, rfl, iteF (by rw [Bool.false_and] at z; exact z _ H1 g1 k1 e1 r1 (Rp.bl _))⟩
theorem ve_or {v : Bool} {w : Bool} (h : VE X ρ a (.bl v) ρ1) (h2 : v = false → VE X ρ1 (.BoolOp .Or (b :: es) pos) (.bl w) ρ1) : VE X ρ (.BoolOp .Or (a :: b :: es) pos) (.bl (v || w)) ρ1 := by
  obtain ⟨t, p, q⟩ := h
  cases v with
  | false =>
    obtain ⟨u, p2, q2⟩ := h2 rfl
    refine ⟨_, pe_or p p2, fun σ H g Q k rp z => q σ H g _ k rp fun vv H1 g1 k1 e1 r1 rv => ?_⟩
    cases rv
    exact ⟨false, rfl, iteF (q2 σ H1 g1 Q k1 r1 fun v2 H2 g2 k2 e2 r2 rv2 => by rw [Bool.false_or] at z; exact z v2 H2 g2 k2 (e1.trans e2) r2 rv2)⟩
  | true =>
    refine ⟨_, pe_or p pe_no, fun σ H g Q k rp z => q σ H g _ k rp fun vv H1 g1 k1 e1 r1 rv => ?_⟩
    cases rv
    exact ⟨true, rfl, iteT (by rw [Bool.true_or] at z; exact z _ H1 g1 k1 e1 r1 (Rp.bl _))⟩
theorem ve_if {w : Bool} (h : VT X ρ c w ρ1) (h1 : w = true → VE X ρ1 a d ρ2) (h2 : w = false → VE X ρ1 b d ρ2) : VE X ρ (.IfExp c a b pos) d ρ2 := by
  obtain ⟨t, p, q⟩ := h
  cases w with
  | true =>
    obtain ⟨u, p2, q2⟩ := h1 rfl
    exact ⟨_, pe_ifExp p p2 pe_no, fun σ H g Q k rp z => q σ H g _ k rp fun H1 g1 k1 e1 r1 => iteT (q2 σ H1 g1 Q k1 r1 fun v2 H2 g2 k2 e2 r2 rv2 => z v2 H2 g2 k2 (e1.trans e2) r2 rv2)⟩
  | false =>
    obtain ⟨u, p2, q2⟩ := h2 rfl
    exact ⟨_, pe_ifExp p pe_no p2, fun σ H g Q k rp z => q σ H g _ k rp fun H1 g1 k1 e1 r1 => iteF (q2 σ H1 g1 Q k1 r1 fun v2 H2 g2 k2 e2 r2 rv2 => z v2 H2 g2 k2 (e1.trans e2) r2 rv2)⟩

/-! ### arguments, displays -/
theorem va_nil : VA X ρ [] [] ρ := ⟨_, pa_nil, fun σ H g Q k rp q => q _ H g k (Ext.refl _ _ _) rp RpAll.nil⟩
theorem va_cons (h : VE X ρ e d ρ1) (hr : VA X ρ1 es ds ρ2) (hs : starEach (e :: es) X.env = (false, eval e X.env) :: starEach es X.env := by rfl) : VA X ρ (e :: es) (d :: ds) ρ2 := by
  obtain ⟨t, p, q⟩ := h
  obtain ⟨u, p2, q2⟩ := hr
  exact ⟨_, pa_cons p p2 hs, fun σ H g Q k rp z => q σ H g _ k rp fun v H1 g1 k1 e1 r1 rv => q2 σ H1 g1 _ k1 r1 fun vs H2 g2 k2 e2 r2 rv2 => z (v :: vs) H2 g2 k2 (e1.trans e2) r2 (RpAll.cons (rv.mono e2.st) rv2)⟩
theorem le_line {n : Nat} (h : n ≤ 1000000) : n ≤ sizeLine := Nat.le_trans h (by decide)
theorem ve_tup (h : VA X ρ es ds ρ1) (hz : Nat.ble ds.length 1000000 = true := by rfl) : VE X ρ (.Tuple es k pos) (.tup ds) ρ1 := by
  obtain ⟨t, p, q⟩ := h
  refine ⟨_, pe_tup p, fun σ H g Q kk rp z => q σ H g _ kk rp fun vs H1 g1 k1 e1 r1 rv => ⟨by rw [rv.len]; exact le_line (Nat.le_of_ble_eq_true hz), fun p hp => ?_⟩⟩
  obtain ⟨hs, hm⟩ := k1.free hp
  have gr := stand_gro (g := g1) (p := p) (o := .tup vs) hs
  exact z _ _ (g1.stand p (.tup vs)) (stand_ok (k1.upd hp) upd_same hs hm) (e1.trans (gr.ext _ _)) (r1.gro gr) (Rp.tup (SqT.of upd_same) (rv.mono gr.st))
theorem vl_lst (h : VA X ρ es ds ρ1) (hz : Nat.ble ds.length 1000000 = true := by rfl) : VL X ρ (.List es pos) ds ρ1 := by
  obtain ⟨t, p, q⟩ := h
  refine ⟨_, pe_lst p, fun σ H g Q kk rp z => q σ H g _ kk rp fun vs H1 g1 k1 e1 r1 rv => ⟨by rw [rv.len]; exact le_line (Nat.le_of_ble_eq_true hz), fun p hp => ?_⟩⟩
  obtain ⟨hs, hm⟩ := k1.free hp
  exact z _ vs _ g1 (k1.upd hp) e1 r1 upd_same hs hm rv
theorem VL.v (h : VL X ρ e ds ρ1) : VE X ρ e (.lst ds) ρ1 := by
  obtain ⟨t, p, q⟩ := h
  refine ⟨t, p, fun σ H g Q kk rp z => q σ H g Q kk rp fun p xs H1 g1 k1 e1 r1 hp hs hm rv => ?_⟩
  have gr := stand_gro (g := g1) (p := p) (o := .lst xs) hs
  exact z _ H1 (g1.stand p (.lst xs)) (stand_ok k1 hp hs hm) (e1.trans (gr.ext _ _)) (r1.gro gr) (Rp.lst (SqX.of upd_same) (rv.mono gr.st))
theorem VL.r (h : VL X ρ e ds ρ1) : VR X ρ e ds ρ1 := by
  obtain ⟨t, p, q⟩ := h
  exact ⟨t, p, fun σ H g Q kk rp z => q σ H g Q kk rp fun p xs H1 g1 k1 e1 r1 hp hs hm rv => z p xs H1 g1 k1 e1 r1 (SqX.of hp) rv⟩
theorem VE.r (h : VE X ρ e (.lst ds) ρ1) : VR X ρ e ds ρ1 := by
  obtain ⟨t, p, q⟩ := h
  refine ⟨t, p, fun σ H g Q kk rp z => q σ H g Q kk rp fun v H1 g1 k1 e1 r1 rv => ?_⟩
  cases rv with
  | lst hs ha => exact z _ _ H1 g1 k1 e1 r1 (sqx_mono k1.1 hs) ha
theorem VL.to {es' : List Dt} (h : VL X ρ e ds ρ1) (e1 : ds = es') : VL X ρ e es' ρ1 := e1 ▸ h
theorem VR.to {es' : List Dt} (h : VR X ρ e ds ρ1) (e1 : ds = es') : VR X ρ e es' ρ1 := e1 ▸ h
/-- a list that may be changed, read at once -/
def Sl.cont : Sl → Option (List Dt)
  | .o ds => some ds
  | .i _ ds => some ds
  | _ => none
theorem Rep.cont {K : PySem.W.Frag} {g : G} {σ : L2.St} (r : Rep K g σ ρ) {i : Nat} (h : (ρ[i]?.bind Sl.cont) = some ds) : ∃ p s, ρ[i]? = some s ∧ s.own = true ∧ σ[i]? = some (some (V.ref p)) ∧ g.M p = some ds := by
  cases e : ρ[i]? with
  | none => rw [e] at h; cases h
  | some s =>
    rw [e] at h
    cases s with
    | no => cases h
    | d _ => cases h
    | t _ _ => cases h
    | o es =>
      have h' : some es = some ds := h
      cases h'
      obtain ⟨p, q1, q2⟩ := r.getO e
      exact ⟨p, _, rfl, rfl, q1, q2⟩
    | i p es =>
      have h' : some es = some ds := h
      cases h'
      obtain ⟨q1, q2⟩ := r.getI e
      exact ⟨p, _, rfl, rfl, q1, q2⟩
theorem vr_own (i : Nat) {nm : Str} (h : (ρ[i]?.bind Sl.cont) = some ds := by rfl) (hN : X.N[i]? = some nm := by rfl) (hv : Vis X.env.scope nm := by first | exact Or.inl rfl | exact Or.inr (Or.inl rfl) | exact Or.inr (Or.inr rfl))
    (hd : (nm == ("__debug__" : Str)) = false := by decide) (hcd : (nm == ("__classdict__" : Str)) = false := by decide) : VR X ρ (.Name nm pos) ds ρ :=
  ⟨_, pe_var hN hv hd hcd, fun σ H g Q k r q => by
    obtain ⟨p, s, e1, e2, e3, e4⟩ := r.cont h
    obtain ⟨_, xs, e5, e6⟩ := k.2 p _ e4
    exact ⟨_, e3, q p xs H g k (Ext.refl _ _ _) r (SqX.of e5) e6⟩⟩
/-- a list of one's own, handed on: it is not changed any more -/
theorem ve_give (i : Nat) {nm : Str} (h : ρ[i]? = some (.o ds) := by rfl) (hN : X.N[i]? = some nm := by rfl) (hv : Vis X.env.scope nm := by first | exact Or.inl rfl | exact Or.inr (Or.inl rfl) | exact Or.inr (Or.inr rfl))
    (hd : (nm == ("__debug__" : Str)) = false := by decide) (hcd : (nm == ("__classdict__" : Str)) = false := by decide) : VE X ρ (.Name nm pos) (.lst ds) (ρ.set i (.d (.lst ds))) :=
  ⟨_, pe_var hN hv hd hcd, fun σ H g Q k r q => by
    obtain ⟨p, e3, e4⟩ := r.getO h
    obtain ⟨hs, xs, e5, e6⟩ := k.2 p _ e4
    refine ⟨_, e3, ?_⟩
    have il : i < ρ.length := (List.getElem?_eq_some_iff.mp h).1
    let g' : G := ⟨upd g.S p (.lst xs), fun q => if q = p then none else g.M q⟩
    have st : Same g.S g'.S := fun b u e => by show upd g.S p (.lst xs) b = some u; rw [upd_ne (ne_of_none e hs)]; exact e
    have rv : Rp X.K g'.S (V.ref p) (.lst ds) := Rp.lst (SqX.of upd_same) (e6.mono st)
    have mo : ∀ q es, g.M q = some es → q ≠ p → g'.M q = some es := fun q es e n => by show (if q = p then none else g.M q) = some es; rw [if_neg n]; exact e
    have own' : ∀ j s b, (ρ.set i (.d (.lst ds)))[j]? = some s → Adr σ j s b → j ≠ i ∧ ρ[j]? = some s := fun j s b e1 e2 => by
      by_cases hj : j = i
      · subst hj
        rw [List.getElem?_set_self il] at e1
        cases e1
        cases e2
      · rw [List.getElem?_set_ne (Ne.symm hj)] at e1
        exact ⟨hj, e1⟩
    refine q _ H g' ⟨fun b u e => ?_, fun q es e => ?_⟩ ⟨st, fun q es e n => ?_, fun q ⟨j, s, e1, e2⟩ => ?_⟩ ⟨by rw [List.length_set]; exact r.len, fun j s e => ?_, fun j l s t q' n e1 e2 w1 w2 => ?_⟩ rv
    · by_cases hb : b = p
      · subst hb
        have e' : upd g.S b (.lst xs) b = some u := e
        rw [upd_same] at e'
        rw [← e', e5]
      · have e' : upd g.S p (.lst xs) b = some u := e
        rw [upd_ne hb] at e'
        exact k.1 b u e'
    · have e' : (if q = p then none else g.M q) = some es := e
      by_cases hq : q = p
      · rw [if_pos hq] at e'; cases e'
      · rw [if_neg hq] at e'
        obtain ⟨h1, ys, h2, h3⟩ := k.2 q es e'
        exact ⟨by show upd g.S p (.lst xs) q = none; rw [upd_ne hq]; exact h1, ys, h2, h3.mono st⟩
    · exact mo q es e fun z => n ⟨i, _, h, by rw [z]; exact e3⟩
    · exact ⟨j, s, (own' j s _ e1 e2).2, e2⟩
    · by_cases hj : j = i
      · subst hj
        rw [List.getElem?_set_self il] at e
        cases e
        exact ⟨_, e3, _, rfl, rv⟩
      · rw [List.getElem?_set_ne (Ne.symm hj)] at e
        obtain ⟨v, w1, w2⟩ := r.sl j s e
        refine ⟨v, w1, ?_⟩
        cases s with
        | no => trivial
        | d y => obtain ⟨u, z1, z2⟩ := w2; exact ⟨u, z1, z2.mono st⟩
        | o es =>
          obtain ⟨p2, z1, z2⟩ := w2
          refine ⟨p2, z1, mo _ _ z2 fun z => ?_⟩
          subst z
          exact r.ne i j _ _ p2 (Ne.symm hj) h e e3 (show σ[j]? = _ by rw [w1, z1])
        | i p2 es =>
          obtain ⟨z1, z2⟩ := w2
          refine ⟨z1, mo _ _ z2 fun z => ?_⟩
          subst z
          exact r.ne i j _ _ p2 (Ne.symm hj) h e e3 (show σ[j]? = _ by rw [w1, z1])
        | t cs y =>
          obtain ⟨⟨u, z1, z2⟩, nd, z3⟩ := w2
          exact ⟨⟨u, z1, z2.mono st⟩, nd, fun b es hb => mo _ _ (z3 b es hb) fun z => r.ne i j _ _ p (Ne.symm hj) h e e3 (List.mem_map.mpr ⟨(b, es), hb, z⟩)⟩
    · obtain ⟨_, f1⟩ := own' j s _ e1 w1
      obtain ⟨_, f2⟩ := own' l t _ e2 w2
      exact r.ne j l s t q' n f1 f2 w1 w2⟩

/-! ### items -/
theorem at_rp {K : PySem.W.Frag} {S : Hp} {xs : List V} {i : Int} (r : RpAll K S xs ds) (h : atI ds i = some d) : ∃ v, atI xs i = some v ∧ Rp K S v d := by
  unfold atI at h ⊢
  rw [r.len]
  cases e : ixN ds.length i with
  | none => rw [e] at h; cases h
  | some j =>
    rw [e] at h
    exact r.at h
theorem ve_ix {i : Int} (ha : VE X ρ a (.lst ds) ρ1) (hb : VE X ρ1 b (.int i) ρ2) (h : atI ds i = some d) (hs : PlainIx b := by intro _ _; rfl) : VE X ρ (.Subscript a b pos) d ρ2 := by
  obtain ⟨ta, pa, qa⟩ := ha
  obtain ⟨tb, pb, qb⟩ := hb
  refine ⟨_, pe_ix ix_list pa pb hs, fun σ H g Q k rp q => qa σ H g _ k rp fun v H1 g1 k1 e1 r1 rv => qb σ H1 g1 _ k1 r1 fun u H2 g2 k2 e2 r2 ru => ?_⟩
  cases rv with
  | lst h1 h2 =>
    cases ru
    obtain ⟨w, w1, w2⟩ := at_rp h2 h
    exact ⟨_, _, i, w, rfl, rfl, (sqx_mono k2.1 (sqx_mono e2.st h1)).l, w1, q w H2 g2 k2 (e1.trans e2) r2 (w2.mono e2.st)⟩
theorem ve_ixT {i : Int} (ha : VE X ρ a (.tup ds) ρ1) (hb : VE X ρ1 b (.int i) ρ2) (h : atI ds i = some d) (hs : PlainIx b := by intro _ _; rfl) : VE X ρ (.Subscript a b pos) d ρ2 := by
  obtain ⟨ta, pa, qa⟩ := ha
  obtain ⟨tb, pb, qb⟩ := hb
  refine ⟨_, pe_ix ix_tup pa pb hs, fun σ H g Q k rp q => qa σ H g _ k rp fun v H1 g1 k1 e1 r1 rv => qb σ H1 g1 _ k1 r1 fun u H2 g2 k2 e2 r2 ru => ?_⟩
  cases rv with
  | tup h1 h2 =>
    cases ru
    obtain ⟨w, w1, w2⟩ := at_rp h2 h
    exact ⟨_, _, i, w, rfl, rfl, sqt_mono k2.1 (sqt_mono e2.st h1), w1, q w H2 g2 k2 (e1.trans e2) r2 (w2.mono e2.st)⟩
/-- an item of a list that may be changed -/
theorem ve_ixO {i : Int} (j : Nat) {nm : Str} {pos' : Pos} (h0 : (ρ[j]?.bind Sl.cont) = some ds) (hb : VE X ρ b (.int i) ρ) (h : atI ds i = some d) (hs : PlainIx b := by intro _ _; rfl)
    (hN : X.N[j]? = some nm := by rfl) (hv : Vis X.env.scope nm := by first | exact Or.inl rfl | exact Or.inr (Or.inl rfl) | exact Or.inr (Or.inr rfl))
    (hd : (nm == ("__debug__" : Str)) = false := by decide) (hcd : (nm == ("__classdict__" : Str)) = false := by decide) : VE X ρ (.Subscript (.Name nm pos') b pos) d ρ := by
  obtain ⟨tb, pb, qb⟩ := hb
  refine ⟨_, pe_ix ix_list (pe_var hN hv hd hcd) pb hs, fun σ H g Q k rp q => ?_⟩
  obtain ⟨p, s, e1, e2, e3, e4⟩ := rp.cont h0
  refine ⟨_, e3, qb σ H g _ k rp fun u H2 g2 k2 ex r2 ru => ?_⟩
  cases ru
  obtain ⟨p', s', e1', e2', e3', e4'⟩ := r2.cont h0
  rw [e3] at e3'
  cases e3'
  obtain ⟨_, xs, e5, e6⟩ := k2.2 p _ e4'
  obtain ⟨w, w1, w2⟩ := at_rp e6 h
  exact ⟨_, _, i, w, rfl, rfl, SqL.of e5, w1, q w H2 g2 k2 ex r2 w2⟩
end
end DL
namespace DL
open PySem PySem.Spec PyProof.Rows L2

/-! ### defs that run where nothing is being shown (no guard on the way): repr asks that -/
structure FnG (P : Program) (w : World) (K : PySem.W.Frag) (mg : Str → Option Value) (base : Heap) (k : Nat) (f : Addr) (fd : FuncData) (ps : List Str) (sp : Sp) : Prop where
  len : ∀ vs H Q E, sp vs H Q E → vs.length = ps.length
  go : ∀ (A : Around) (outer : List Env) (s : Shared) (H : Hp) (args : Args) (us : List Value) (vs : List V) (Q : VK) (E : XK), A.guards = some [] → Room k A → Env0 P w K mg base A outer s H →
    BindsTo s fd args (ps.zip us) → Vals vs us → sp vs H Q E → codeAny (model P w) A (.call (.ref f) args) (CR (L2.CX P w) outer P w H s Q E) s
theorem FnG.mono {P : Program} {w : World} {K : PySem.W.Frag} {mg : Str → Option Value} {base : Heap} {j k : Nat} {f : Addr} {fd : FuncData} {ps : List Str} {sp : Sp} (F : FnG P w K mg base j f fd ps sp) (h : j ≤ k) :
    FnG P w K mg base k f fd ps sp :=
  ⟨F.len, fun A outer s H args us vs Q E hg hr => F.go A outer s H args us vs Q E hg (hr.mono h)⟩
section
variable {X : Cx} {k : Nat} {f : Addr} {fd : FuncData} {ps ks : List Str} {sp : Sp} {E : XK} {x : Str} {p pos : Pos} {e : Expr} {es : List Expr} {t tk : TA} {kws : List Keyword}
theorem run_g {pins : List (Addr × Obj)} {σ : L2.St} {H : Hp} {s : Shared} {Q : VK} {us : List Value} {ws : List Value} {zs : List V} {kw : List (Str × Value)} (F : FnG X.prog X.w X.K X.mg X.base k f fd ps sp) (hgd : X.A.guards = some []) (hr : Room k X.A)
    (hb : (ws.length = ps.length → BindsTo s fd ⟨us, kw⟩ (ps.zip ws))) (hx : Passes (L2.CX X.prog X.w) X E) (I : Inv X pins σ H s) (r : Vals zs ws) (h : sp zs H Q E) :
    wpAny (model X.prog X.w) X.A (call (.ref f) us kw) (EP X pins σ Q) X.xe s := by
  have hl : ws.length = ps.length := by
    rw [← r.length]
    exact F.len _ _ _ _ h
  refine wpAny_call (codeAny_mono (F.go X.A X.stack s H ⟨us, kw⟩ ws zs Q E hgd hr I.env0 (hb hl) r h) fun res s' hq => ?_)
  cases res with
  | error z =>
    have hq' : L2.CX X.prog X.w X.stack H s E z s' := hq
    exact hx pins σ H s z s' I hq'
  | ok fl =>
    cases fl with
    | ret u =>
      have hq' : CE X.stack X.prog X.w H s Q u s' := hq
      exact I.after hq'
    | next => cases hq
    | brk => cases hq
    | cont => cases hq
theorem pe_callG (F : FnG X.prog X.w X.K X.mg X.base k f fd ps sp) (hgd : X.A.guards = some []) (hr : Room k X.A) (hg : Gl X x) (hm : X.mg x = some (.ref f)) (hk : PySem.W.keepIn X.K (.ref f) = true) (hb : Binds X.K fd ps []) (hx : Passes (L2.CX X.prog X.w) X E)
    (ha : PA X (e :: es) t) (hdb : (x == ("__debug__" : Str)) = false := by decide) (he : starEach (e :: es) X.env = (false, eval e X.env) :: starEach es X.env := by rfl) (hpl : (backTo pos (starEach es X.env)).any (·.1) = false := by rfl) :
    PE X (.Call (.Name x p) (e :: es) [] pos) (fun σ H Q => t σ H fun vs H1 => sp vs H1 Q E) :=
  ⟨fun pins s σ H Q I h => wpAny_Call_Name_kw (ld_glob I hg hm (PySem.W.callWith_K (h₀ := X.base) I.ok.mod.kin hk (thn (ha.run pos pins s σ H _ I h) fun us s1 ⟨vs, H1, I1, r, q⟩ =>
    ⟨I1.kIn, run_g F hgd hr (fun hl => by
      have z := hb s1 us I1.kIn (by rw [List.append_nil]; exact hl)
      rw [List.append_nil] at z
      exact z) hx I1 r q⟩) he hpl) hdb)⟩
theorem pe_callG0 (F : FnG X.prog X.w X.K X.mg X.base k f fd ps sp) (hgd : X.A.guards = some []) (hr : Room k X.A) (hg : Gl X x) (hm : X.mg x = some (.ref f)) (hk : PySem.W.keepIn X.K (.ref f) = true) (hb : Binds X.K fd ps []) (hx : Passes (L2.CX X.prog X.w) X E)
    (hdb : (x == ("__debug__" : Str)) = false := by decide) : PE X (.Call (.Name x p) [] [] pos) (fun σ H Q => sp [] H Q E) :=
  ⟨fun pins s σ H Q I h => wpAny_Call_Name_kw (ld_glob I hg hm (PySem.W.callWith_K0 I.kIn hk (run_g (us := []) (ws := []) F hgd hr (fun hl => by
    have z := hb s [] I.kIn hl
    exact z) hx I .nil h)) hdb)⟩
/-- all by keywords: gV puts their values in the parameters' order -/
theorem pe_callGK {gV : {α : Type} → List α → List α} (F : FnG X.prog X.w X.K X.mg X.base k f fd ps sp) (hgd : X.A.guards = some []) (hr : Room k X.A) (hg : Gl X x) (hm : X.mg x = some (.ref f)) (hk : PySem.W.keepIn X.K (.ref f) = true)
    (hb : ∀ (s : Shared) (ws : List Value), (gV ws).length = ps.length → BindsTo s fd ⟨[], ks.zip ws⟩ (ps.zip (gV ws))) (hv : ∀ {vs : List V} {us : List Value}, Vals vs us → Vals (gV vs) (gV us)) (hx : Passes (L2.CX X.prog X.w) X E)
    (hkw : PK X kws tk) (hall : (backToKw pos (keywordEach kws X.env)).all (·.1.isSome) = true := by rfl) (hks : (backToKw pos (keywordEach kws X.env)).filterMap (·.1) = ks := by rfl)
    (hdb : (x == ("__debug__" : Str)) = false := by decide) (hpl : ((backTo pos (starEach [] X.env)).any (·.1) || (backToKw pos (keywordEach kws X.env)).any (·.1.isNone)) = false := by rfl) :
    PE X (.Call (.Name x p) [] kws pos) (fun σ H Q => tk σ H fun zs H1 => sp (gV zs) H1 Q E) :=
  ⟨fun pins s σ H Q I h => wpAny_Call_Name_kw (ld_glob I hg hm (PySem.W.callWith_KW0 (h₀ := X.base) I.ok.mod.kin hk hall (thn (hkw.run pos pins s σ H _ I h) fun ws s1 ⟨zs, H1, I1, r, q⟩ =>
    ⟨I1.kIn, by
      rw [hks]
      exact run_g F hgd hr (fun hl => hb s1 ws hl) hx I1 (hv r) q⟩) hpl) hdb)⟩
end

/-! ### what a def promises over data -/
/-- what comes of a call: a value, or an error of an own class, with its one field where it has one -/
inductive Res where
  | ret (d : Dt)
  | exc (C : Addr)
  | excF (C : Addr) (f : Str) (d : Dt)
def ResOk (K : PySem.W.Frag) (g : G) (Q : VK) (E : XK) : Res → Prop
  | .ret d => ∀ v H' g', GOk K g' H' → Gro g g' → Rp K g'.S v d → Q v H'
  | .exc C => ∀ H' g', GOk K g' H' → Gro g g' → E (.ref C) none H'
  | .excF C f d => ∀ H' g' a v, GOk K g' H' → Gro g g' → g'.S a = some (.xd [(f, v)]) → Rp K g'.S v d → E (.ref C) (some a) H'
/-- no argument is changed -/
def spD (K : PySem.W.Frag) (n : Nat) (R : List Dt → Res → Prop) : Sp := fun vs H Q E => ∃ g ds r, ds.length = n ∧ GOk K g H ∧ RpAll K g.S vs ds ∧ R ds r ∧ ResOk K g Q E r
/-- the first argument is a list that is changed -/
def spI (K : PySem.W.Frag) (n : Nat) (R : List Dt → List Dt → Dt → List Dt → Prop) : Sp := fun vs H Q _ => ∃ g p ls us ds d ls', vs = V.ref p :: us ∧ ds.length = n ∧ GOk K g H ∧ g.M p = some ls ∧ RpAll K g.S us ds ∧ R ls ds d ls' ∧
  ∀ v H' g', GOk K g' H' → Same g.S g'.S → (∀ q es, q ≠ p → g.M q = some es → g'.M q = some es) → g'.M p = some ls' → Rp K g'.S v d → Q v H'
theorem spD_len {K : PySem.W.Frag} {n : Nat} {R : List Dt → Res → Prop} (vs : List V) (H : Hp) (Q : VK) (E : XK) (h : spD K n R vs H Q E) : vs.length = n := by
  obtain ⟨g, ds, r, h1, h2, h3, _⟩ := h
  rw [h3.len, h1]
theorem spI_len {K : PySem.W.Frag} {n : Nat} {R : List Dt → List Dt → Dt → List Dt → Prop} (vs : List V) (H : Hp) (Q : VK) (E : XK) (h : spI K n R vs H Q E) : vs.length = n + 1 := by
  obtain ⟨g, p, ls, us, ds, d, ls', rfl, h1, h2, h3, h4, _⟩ := h
  rw [List.length_cons, h4.len, h1]

section
variable {X : Cx} {ρ ρ1 ρ2 : List Sl} {k n : Nat} {f : Addr} {fd : FuncData} {ps ks : List Str} {x : Str} {p pos : Pos} {e : Expr} {es : List Expr} {kws : List Keyword} {ds : List Dt} {d : Dt} {R : List Dt → Res → Prop}
/-- a call that comes back -/
theorem ve_call (hgd : X.A.guards = some []) (hr : Room k X.A) (F : FnG X.prog X.w X.K X.mg X.base k f fd ps (spD X.K n R)) (hm : X.mg x = some (.ref f)) (hk : PySem.W.keepIn X.K (.ref f) = true) (hb : Binds X.K fd ps [])
    (ha : VA X ρ (e :: es) ds ρ1) (hR : R ds (.ret d)) (hn : ds.length = n := by rfl) (hg : Gl X x := by rfl) (hdb : (x == ("__debug__" : Str)) = false := by decide) (he : starEach (e :: es) X.env = (false, eval e X.env) :: starEach es X.env := by rfl) (hpl : (backTo pos (starEach es X.env)).any (·.1) = false := by rfl) :
    VE X ρ (.Call (.Name x p) (e :: es) [] pos) d ρ1 := by
  obtain ⟨t, pa, qa⟩ := ha
  refine ⟨_, pe_callG F hgd hr hg hm hk hb passL pa hdb he hpl, fun σ H g Q kk rp q => qa σ H g _ kk rp fun vs H1 g1 k1 e1 r1 rv => ?_⟩
  exact ⟨g1, ds, .ret d, hn, k1, rv, hR, fun v H2 g2 k2 gr rd => q v H2 g2 k2 (e1.trans (gr.ext _ _)) (r1.gro gr) rd⟩
/-- keywords' values -/
def VK' (X : Cx) (ρ : List Sl) (kws : List Keyword) (ds : List Dt) (ρ' : List Sl) : Prop := ∃ t, PK X kws t ∧ RA X.K t ρ ds ρ'
theorem vk_nil : VK' X ρ [] [] ρ := ⟨_, pk_nil, fun σ H g Q k rp q => q _ H g k (Ext.refl _ _ _) rp RpAll.nil⟩
theorem vk_cons {nm : Option Str} {kpos : Pos} (h : VE X ρ e d ρ1) (hr : VK' X ρ1 kws ds ρ2) : VK' X ρ (⟨nm, e, kpos⟩ :: kws) (d :: ds) ρ2 := by
  obtain ⟨t, p, q⟩ := h
  obtain ⟨u, p2, q2⟩ := hr
  exact ⟨_, pk_cons p p2, fun σ H g Q k rp z => q σ H g _ k rp fun v H1 g1 k1 e1 r1 rv => q2 σ H1 g1 _ k1 r1 fun vs H2 g2 k2 e2 r2 rv2 => z (v :: vs) H2 g2 k2 (e1.trans e2) r2 (RpAll.cons (rv.mono e2.st) rv2)⟩
theorem ve_callK {gV : {α : Type} → List α → List α} (hgd : X.A.guards = some []) (hr : Room k X.A) (F : FnG X.prog X.w X.K X.mg X.base k f fd ps (spD X.K n R)) (hm : X.mg x = some (.ref f)) (hk : PySem.W.keepIn X.K (.ref f) = true)
    (hb : ∀ (s : Shared) (ws : List Value), (gV ws).length = ps.length → BindsTo s fd ⟨[], ks.zip ws⟩ (ps.zip (gV ws))) (hv : ∀ {vs : List V} {us : List Value}, Vals vs us → Vals (gV vs) (gV us)) (hv2 : ∀ {K : PySem.W.Frag} {S : Hp} {vs : List V} {us : List Dt}, RpAll K S vs us → RpAll K S (gV vs) (gV us))
    (ha : VK' X ρ kws ds ρ1) (hR : R (gV ds) (.ret d)) (hn : (gV ds).length = n := by rfl) (hg : Gl X x := by rfl) (hall : (backToKw pos (keywordEach kws X.env)).all (·.1.isSome) = true := by rfl) (hks : (backToKw pos (keywordEach kws X.env)).filterMap (·.1) = ks := by rfl)
    (hdb : (x == ("__debug__" : Str)) = false := by decide) (hpl : ((backTo pos (starEach [] X.env)).any (·.1) || (backToKw pos (keywordEach kws X.env)).any (·.1.isNone)) = false := by rfl) :
    VE X ρ (.Call (.Name x p) [] kws pos) d ρ1 := by
  obtain ⟨t, pa, qa⟩ := ha
  refine ⟨_, pe_callGK (gV := gV) F hgd hr hg hm hk hb hv passL pa hall hks hdb hpl, fun σ H g Q kk rp q => qa σ H g _ kk rp fun vs H1 g1 k1 e1 r1 rv => ?_⟩
  exact ⟨g1, gV ds, .ret d, hn, k1, hv2 rv, hR, fun v H2 g2 k2 gr rd => q v H2 g2 k2 (e1.trans (gr.ext _ _)) (r1.gro gr) rd⟩
/-- the list in slot i is handed over to be changed -/
def Sl.put (ls : List Dt) : Sl → Sl
  | .o _ => .o ls
  | .i p _ => .i p ls
  | s => s
theorem Sl.put_own {ls : List Dt} : ∀ {s : Sl}, (s.put ls).own = s.own
  | .no => rfl
  | .d _ => rfl
  | .o _ => rfl
  | .i _ _ => rfl
  | .t _ _ => rfl
theorem Sl.put_adr {ls : List Dt} {σ : L2.St} {i : Nat} {p : Addr} : ∀ {s : Sl}, Adr σ i (s.put ls) p ↔ Adr σ i s p
  | .no => Iff.rfl
  | .d _ => Iff.rfl
  | .o _ => Iff.rfl
  | .i _ _ => Iff.rfl
  | .t _ _ => Iff.rfl
/-- one list is changed, at p -/
theorem Rep.put {K : PySem.W.Frag} {g g' : G} {σ : L2.St} {i : Nat} {pa : Addr} {s : Sl} {ls : List Dt} (r : Rep K g σ ρ) (hs : ρ[i]? = some s) (hw : s.own = true) (hσ : σ[i]? = some (some (V.ref pa))) (st : Same g.S g'.S)
    (mu : ∀ q es, q ≠ pa → g.M q = some es → g'.M q = some es) (hp : g'.M pa = some ls) : Rep K g' σ (ρ.set i (s.put ls)) ∧ Ext σ ρ (ρ.set i (s.put ls)) g g' := by
  have il : i < ρ.length := (List.getElem?_eq_some_iff.mp hs).1
  have ha := adr_own hw hσ
  have bk : ∀ (j : Nat) (t : Sl), (ρ.set i (s.put ls))[j]? = some t → ∃ u, ρ[j]? = some u ∧ ∀ q, Adr σ j t q → Adr σ j u q := fun j t e => by
    by_cases hj : j = i
    · subst hj
      rw [List.getElem?_set_self il] at e
      cases e
      exact ⟨s, hs, fun q z => Sl.put_adr.mp z⟩
    · rw [List.getElem?_set_ne (Ne.symm hj)] at e
      exact ⟨t, e, fun q z => z⟩
  refine ⟨⟨by rw [List.length_set]; exact r.len, fun j t e => ?_, fun j l t u q n e1 e2 w1 w2 => ?_⟩, ⟨st, fun q es e n => mu q es (fun z => n ⟨i, s, hs, by rw [z]; exact ha⟩) e, fun q ⟨j, t, e1, e2⟩ => ?_⟩⟩
  · by_cases hj : j = i
    · subst hj
      rw [List.getElem?_set_self il] at e
      cases e
      refine ⟨_, hσ, ?_⟩
      obtain ⟨v, z1, z2⟩ := r.sl j s hs
      rw [hσ] at z1
      cases z1
      cases s with
      | no => cases hw
      | d _ => cases hw
      | t _ _ => cases hw
      | o es => exact ⟨pa, rfl, hp⟩
      | i p2 es =>
        obtain ⟨y1, y2⟩ := z2
        cases y1
        exact ⟨rfl, hp⟩
    · rw [List.getElem?_set_ne (Ne.symm hj)] at e
      obtain ⟨v, w1, w2⟩ := r.sl j t e
      refine ⟨v, w1, ?_⟩
      cases t with
      | no => trivial
      | d y => obtain ⟨u, z1, z2⟩ := w2; exact ⟨u, z1, z2.mono st⟩
      | o es =>
        obtain ⟨p2, z1, z2⟩ := w2
        refine ⟨p2, z1, mu _ _ (fun z => ?_) z2⟩
        subst z
        exact r.ne i j _ _ p2 (Ne.symm hj) hs e ha (show σ[j]? = _ by rw [w1, z1])
      | i p2 es =>
        obtain ⟨z1, z2⟩ := w2
        refine ⟨z1, mu _ _ (fun z => ?_) z2⟩
        subst z
        exact r.ne i j _ _ p2 (Ne.symm hj) hs e ha (show σ[j]? = _ by rw [w1, z1])
      | t cs y =>
        obtain ⟨⟨u, z1, z2⟩, nd, z3⟩ := w2
        exact ⟨⟨u, z1, z2.mono st⟩, nd, fun b es hb => mu _ _ (fun z => r.ne i j _ _ pa (Ne.symm hj) hs e ha (List.mem_map.mpr ⟨(b, es), hb, z⟩)) (z3 b es hb)⟩
  · obtain ⟨t', a1, a2⟩ := bk j t e1
    obtain ⟨u', b1, b2⟩ := bk l u e2
    exact r.ne j l t' u' q n a1 b1 (a2 q w1) (b2 q w2)
  · obtain ⟨u', a1, a2⟩ := bk j t e1
    exact ⟨j, u', a1, a2 q e2⟩
theorem ve_callI {R : List Dt → List Dt → Dt → List Dt → Prop} {ls ls' : List Dt} {s : Sl} (i : Nat) {nm : Str} {pos' : Pos} (hgd : X.A.guards = some []) (hr : Room k X.A) (F : FnG X.prog X.w X.K X.mg X.base k f fd ps (spI X.K n R)) (hm : X.mg x = some (.ref f)) (hk : PySem.W.keepIn X.K (.ref f) = true) (hb : Binds X.K fd ps [])
    (ha : VA X ρ es ds ρ1) (hs : ρ1[i]? = some s) (hc : s.cont = some ls) (hR : R ls ds d ls') (hn : ds.length = n := by rfl) (hN : X.N[i]? = some nm := by rfl) (hv : Vis X.env.scope nm := by first | exact Or.inl rfl | exact Or.inr (Or.inl rfl) | exact Or.inr (Or.inr rfl))
    (hsl : ∃ s0, ρ[i]? = some s0 ∧ s0.own = true := by exact ⟨_, rfl, rfl⟩) (hg : Gl X x := by rfl) (hdb : (x == ("__debug__" : Str)) = false := by decide) (he : starEach (.Name nm pos' :: es) X.env = (false, eval (.Name nm pos') X.env) :: starEach es X.env := by rfl) (hpl : (backTo pos (starEach es X.env)).any (·.1) = false := by rfl)
    (hd1 : (nm == ("__debug__" : Str)) = false := by decide) (hcd : (nm == ("__classdict__" : Str)) = false := by decide) :
    VE X ρ (.Call (.Name x p) (.Name nm pos' :: es) [] pos) d (ρ1.set i (s.put ls')) := by
  obtain ⟨t, pa, qa⟩ := ha
  refine ⟨_, pe_callG F hgd hr hg hm hk hb passL (pa_cons (pe_var hN hv hd1 hcd) pa he) hdb he hpl, fun σ H g Q kk rp q => ?_⟩
  obtain ⟨s0, e0, w0⟩ := hsl
  obtain ⟨v0, x0, y0⟩ := rp.sl i s0 e0
  obtain ⟨pp, hpp⟩ : ∃ pp, v0 = some (V.ref pp) := by
    cases s0 with
    | no => cases w0
    | d _ => cases w0
    | t _ _ => cases w0
    | o _ => obtain ⟨p2, z, _⟩ := y0; exact ⟨p2, z⟩
    | i p2 _ => exact ⟨p2, y0.1⟩
  subst hpp
  refine ⟨_, x0, qa σ H g _ kk rp fun vs H1 g1 k1 e1 r1 rv => ?_⟩
  obtain ⟨p', s', f1, f2, f3, f4⟩ := r1.cont (i := i) (ds := ls) (by rw [hs]; exact hc)
  rw [x0] at f3
  cases f3
  rw [hs] at f1
  cases f1
  refine ⟨g1, _, ls, vs, ds, d, ls', rfl, hn, k1, f4, rv, hR, fun v H2 g2 k2 st mu hp rd => ?_⟩
  obtain ⟨r2, ex2⟩ := r1.put hs f2 x0 st mu hp
  exact q v H2 g2 k2 (e1.trans ex2) r2 rd
end
end DL
namespace DL
open PySem PySem.Spec PyProof.Rows L2

/-! ### slots -/
section
variable {K : PySem.W.Frag} {g g' : G} {σ σ' : L2.St} {ρ ρ' : List Sl} {H : Hp}
theorem Rep.setS (r : Rep K g σ ρ) (i : Nat) {v : Option V} {s : Sl} (hs : SlOk K g v s) (hw : s.bare = true) : Rep K g (σ.set i v) (ρ.set i s) := by
  refine ⟨by rw [List.length_set, List.length_set]; exact r.len, fun j t e => ?_, fun j l t u q n e1 e2 w1 w2 => ?_⟩
  · by_cases hj : j = i
    · subst hj
      by_cases il : j < ρ.length
      · rw [List.getElem?_set_self il] at e
        cases e
        exact ⟨v, List.getElem?_set_self (by rw [r.len]; exact il), hs⟩
      · rw [List.getElem?_eq_none (by rw [List.length_set]; omega)] at e
        cases e
    · rw [List.getElem?_set_ne (Ne.symm hj)] at e
      obtain ⟨w, w1, w2⟩ := r.sl j t e
      exact ⟨w, by rw [List.getElem?_set_ne (Ne.symm hj)]; exact w1, w2⟩
  · have off : ∀ (m : Nat) (y : Sl), (ρ.set i s)[m]? = some y → Adr (σ.set i v) m y q → ρ[m]? = some y ∧ Adr σ m y q := fun m y a b => by
      by_cases hm : m = i
      · subst hm
        by_cases il : m < ρ.length
        · rw [List.getElem?_set_self il] at a
          cases a
          exact (adr_bare hw b).elim
        · rw [List.getElem?_eq_none (by rw [List.length_set]; omega)] at a
          cases a
      · rw [List.getElem?_set_ne (Ne.symm hm)] at a
        exact ⟨a, (adr_set hm).mp b⟩
    obtain ⟨f1, y1⟩ := off j t e1 w1
    obtain ⟨f2, y2⟩ := off l u e2 w2
    exact r.ne j l t u q n f1 f2 y1 y2
theorem own_setS {i : Nat} {v : Option V} {s : Sl} (hw : s.bare = true) {p : Addr} (h : OwnAt (σ.set i v) (ρ.set i s) p) : OwnAt σ ρ p := by
  obtain ⟨m, y, a, b⟩ := h
  by_cases hm : m = i
  · subst hm
    by_cases il : m < ρ.length
    · rw [List.getElem?_set_self il] at a
      cases a
      exact (adr_bare hw b).elim
    · rw [List.getElem?_eq_none (by rw [List.length_set]; omega)] at a
      cases a
  · rw [List.getElem?_set_ne (Ne.symm hm)] at a
    exact ⟨m, y, a, (adr_set hm).mp b⟩
theorem Rep.setD (r : Rep K g σ ρ) (i : Nat) {v : V} {d : Dt} (h : Rp K g.S v d) : Rep K g (σ.set i (some v)) (ρ.set i (.d d)) := r.setS i ⟨v, rfl, h⟩ rfl
/-- what is told in a slot is in M -/
theorem adr_held (r : Rep K g σ ρ) {m : Nat} {y : Sl} {p : Addr} (a : ρ[m]? = some y) (b : Adr σ m y p) : ∃ es, g.M p = some es := by
  obtain ⟨w, w1, w2⟩ := r.sl m y a
  cases y with
  | no => exact b.elim
  | d _ => exact b.elim
  | o es =>
    obtain ⟨q, z1, z2⟩ := w2
    have b' : σ[m]? = some (some (V.ref p)) := b
    rw [b'] at w1
    cases w1
    cases z1
    exact ⟨es, z2⟩
  | i q es =>
    obtain ⟨z1, z2⟩ := w2
    have b' : σ[m]? = some (some (V.ref p)) := b
    rw [b'] at w1
    cases w1
    cases z1
    exact ⟨es, z2⟩
  | t cs x =>
    obtain ⟨⟨b', es⟩, hb, rfl⟩ := List.mem_map.mp b
    exact ⟨es, w2.2.2 _ _ hb⟩
/-- a new list of one's own -/
theorem Rep.setO (r : Rep K g σ ρ) (i : Nat) {p : Addr} {ds : List Dt} (hm : g.M p = none) : Rep K (g.hold p ds) (σ.set i (some (V.ref p))) (ρ.set i (.o ds)) := by
  have r1 := r.gro (hold_gro (ds := ds) hm)
  have np : ∀ (m : Nat) (y : Sl), ρ[m]? = some y → Adr σ m y p → False := fun m y a b => by
    obtain ⟨es, h⟩ := adr_held r a b
    rw [hm] at h
    cases h
  refine ⟨by rw [List.length_set, List.length_set]; exact r.len, fun j t e => ?_, fun j l t u q n e1 e2 w1 w2 => ?_⟩
  · by_cases hj : j = i
    · subst hj
      by_cases il : j < ρ.length
      · rw [List.getElem?_set_self il] at e
        cases e
        exact ⟨_, List.getElem?_set_self (by rw [r.len]; exact il), p, rfl, if_pos rfl⟩
      · rw [List.getElem?_eq_none (by rw [List.length_set]; omega)] at e
        cases e
    · rw [List.getElem?_set_ne (Ne.symm hj)] at e
      obtain ⟨w, w1, w2⟩ := r1.sl j t e
      exact ⟨w, by rw [List.getElem?_set_ne (Ne.symm hj)]; exact w1, w2⟩
  · have sp : ∀ (m : Nat) (y : Sl) (q : Addr), (ρ.set i (.o ds))[m]? = some y → Adr (σ.set i (some (V.ref p))) m y q → (m = i ∧ q = p) ∨ (m ≠ i ∧ ρ[m]? = some y ∧ Adr σ m y q) := fun m y q a c => by
      by_cases hm' : m = i
      · subst hm'
        by_cases il : m < ρ.length
        · rw [List.getElem?_set_self il] at a
          cases a
          have c' : (σ.set m (some (V.ref p)))[m]? = some (some (V.ref q)) := c
          rw [List.getElem?_set_self (by rw [r.len]; exact il)] at c'
          cases c'
          exact .inl ⟨rfl, rfl⟩
        · rw [List.getElem?_eq_none (by rw [List.length_set]; omega)] at a
          cases a
      · rw [List.getElem?_set_ne (Ne.symm hm')] at a
        exact .inr ⟨hm', a, (adr_set hm').mp c⟩
    rcases sp j t q e1 w1 with ⟨a1, a2⟩ | ⟨a1, a2, a3⟩
    · rcases sp l u q e2 w2 with ⟨b1, b2⟩ | ⟨b1, b2, b3⟩
      · exact n (a1.trans b1.symm)
      · exact np l u b2 (a2 ▸ b3)
    · rcases sp l u q e2 w2 with ⟨b1, b2⟩ | ⟨b1, b2, b3⟩
      · exact np j t a2 (b2 ▸ a3)
      · exact r.ne j l t u q n a2 b2 a3 b3
end

/-! ### statements over data -/
/-- the def's entry: the lists that are handed over to be changed, the state, what is wanted of an error -/
structure Fx where
  I : List Addr
  g0 : G
  E : XK
structure FrOk (Z : Fx) (σ : L2.St) (ρ : List Sl) (g : G) : Prop where
  st : Same Z.g0.S g.S
  mu : ∀ p ds, p ∉ Z.I → Z.g0.M p = some ds → g.M p = some ds
  ow : ∀ p, OwnAt σ ρ p → p ∈ Z.I ∨ Z.g0.M p = none
structure KD where
  nx : List Sl → Prop
  rt : Dt → List Sl → Prop
  bk : List Sl → Prop := fun _ => False
  ct : List Sl → Prop := fun _ => False
  rl : List Dt → List Sl → Prop := fun _ _ => False
/-- what is wanted over data is what is wanted of the machine; S is what stood at the statement's beginning -/
structure KOk (K : PySem.W.Frag) (Z : Fx) (S : Hp) (κ : KD) (D : Ends) : Prop where
  nx : ∀ σ H g ρ, GOk K g H → Rep K g σ ρ → FrOk Z σ ρ g → Same S g.S → κ.nx ρ → D.nx σ H
  rt : ∀ v σ H g ρ d, GOk K g H → Rep K g σ ρ → FrOk Z σ ρ g → Same S g.S → Rp K g.S v d → κ.rt d ρ → D.rt v H
  bk : ∀ σ H g ρ, GOk K g H → Rep K g σ ρ → FrOk Z σ ρ g → Same S g.S → κ.bk ρ → D.bk σ H
  ct : ∀ σ H g ρ, GOk K g H → Rep K g σ ρ → FrOk Z σ ρ g → Same S g.S → κ.ct ρ → D.ct σ H
  rl : ∀ p xs σ H g ρ ds, GOk K g H → Rep K g σ ρ → FrOk Z σ ρ g → Same S g.S → H p = some (.lst xs) → g.S p = none → g.M p = none → RpAll K g.S xs ds → κ.rl ds ρ → D.rt (V.ref p) H
theorem KOk.mono {K : PySem.W.Frag} {Z : Fx} {S S' : Hp} {κ : KD} {D : Ends} (h : KOk K Z S κ D) (e : Same S S') : KOk K Z S' κ D :=
  ⟨fun σ H g ρ k r f s => h.nx σ H g ρ k r f (e.trans s), fun v σ H g ρ d k r f s => h.rt v σ H g ρ d k r f (e.trans s), fun σ H g ρ k r f s => h.bk σ H g ρ k r f (e.trans s), fun σ H g ρ k r f s => h.ct σ H g ρ k r f (e.trans s), fun p xs σ H g ρ ds k r f s => h.rl p xs σ H g ρ ds k r f (e.trans s)⟩
def RS (K : PySem.W.Frag) (Z : Fx) (t : TS) (ρ : List Sl) (κ : KD) : Prop :=
  ∀ (σ : L2.St) (H : Hp) (g : G) (D : Ends), GOk K g H → Rep K g σ ρ → FrOk Z σ ρ g → KOk K Z g.S κ D → t D σ H
def WS (X : Cx) (Z : Fx) (ρ : List Sl) (st : Stmt) (κ : KD) : Prop := ∃ t, PS X st t ∧ RS X.K Z t ρ κ
def WSs (X : Cx) (Z : Fx) (ρ : List Sl) (st : List Stmt) (κ : KD) : Prop := ∃ t, PSs X st t ∧ RS X.K Z t ρ κ
theorem FrOk.ext {Z : Fx} {σ : L2.St} {ρ ρ' : List Sl} {g g' : G} (f : FrOk Z σ ρ g) (e : Ext σ ρ ρ' g g') : FrOk Z σ ρ' g' := by
  refine ⟨f.st.trans e.st, fun p ds h1 h2 => e.mu p ds (f.mu p ds h1 h2) fun z => ?_, fun p h => f.ow p (e.ow p h)⟩
  rcases f.ow p z with q | q
  · exact h1 q
  · rw [q] at h2; cases h2
theorem FrOk.slots {Z : Fx} {σ σ' : L2.St} {ρ ρ' : List Sl} {g : G} (f : FrOk Z σ ρ g) (h : ∀ p, OwnAt σ' ρ' p → OwnAt σ ρ p) : FrOk Z σ' ρ' g := ⟨f.st, f.mu, fun p q => f.ow p (h p q)⟩
/-- the addresses of a frame that has a new list in a slot -/
theorem FrOk.newO {Z : Fx} {σ : L2.St} {ρ : List Sl} {g : G} (f : FrOk Z σ ρ g) (hl : σ.length = ρ.length) {i : Nat} {pa : Addr} {ds : List Dt} (hm : g.M pa = none) {q : Addr} (h : OwnAt (σ.set i (some (V.ref pa))) (ρ.set i (.o ds)) q) : q ∈ Z.I ∨ Z.g0.M q = none := by
  obtain ⟨m, y, a1, a2⟩ := h
  by_cases hmi : m = i
  · subst hmi
    by_cases il : m < ρ.length
    · rw [List.getElem?_set_self il] at a1
      cases a1
      have a3 : (σ.set m (some (V.ref pa)))[m]? = some (some (V.ref q)) := a2
      rw [List.getElem?_set_self (by rw [hl]; exact il)] at a3
      cases a3
      by_cases hI : pa ∈ Z.I
      · exact .inl hI
      · refine .inr ?_
        cases z : Z.g0.M pa with
        | none => rfl
        | some es =>
          have z1 := f.mu pa es hI z
          rw [hm] at z1
          cases z1
    · rw [List.getElem?_eq_none (by rw [List.length_set]; omega)] at a1
      cases a1
  · rw [List.getElem?_set_ne (Ne.symm hmi)] at a1
    exact f.ow q ⟨m, y, a1, (adr_set hmi).mp a2⟩

section
variable {X : Cx} {Z : Fx} {ρ ρ1 ρ2 : List Sl} {κ : KD} {st : Stmt} {rest : List Stmt} {e c : Expr} {d : Dt} {ds : List Dt} {pos : Pos} {a b : List Stmt}
theorem wss_nil (h : κ.nx ρ) : WSs X Z ρ [] κ := ⟨_, pss_nil, fun σ H g D k r f kd => kd.nx σ H g ρ k r f (Same.refl _) h⟩
theorem wss_cons (h : WS X Z ρ st { κ with nx := fun ρ' => WSs X Z ρ' rest κ }) : WSs X Z ρ (st :: rest) κ := by
  obtain ⟨t, p, q⟩ := h
  refine ⟨tSeq t (fun D σ H => ∃ u, PSs X rest u ∧ u D σ H), pss_cons p ⟨fun pins s σ H D I ⟨u, pu, hu⟩ => pu.run pins s σ H D I hu⟩, fun σ H g D k r f kd => ?_⟩
  refine q σ H g _ k r f ⟨fun σ' H' g' ρ' k' r' f' s' h' => ?_, kd.rt, kd.bk, kd.ct, kd.rl⟩
  obtain ⟨u, pu, qu⟩ := h'
  exact ⟨u, pu, qu σ' H' g' D k' r' f' (kd.mono s')⟩
theorem wss_one (h : WS X Z ρ st κ) : WSs X Z ρ [st] κ := by
  obtain ⟨t, p, q⟩ := h
  exact ⟨t, pss_one p, q⟩
theorem ws_pass (h : κ.nx ρ) : WS X Z ρ (.Pass pos) κ := ⟨_, ps_pass, fun σ H g D k r f kd => kd.nx σ H g ρ k r f (Same.refl _) h⟩
theorem ws_break (h : κ.bk ρ) : WS X Z ρ (.Break pos) κ := ⟨_, ps_break, fun σ H g D k r f kd => kd.bk σ H g ρ k r f (Same.refl _) h⟩
theorem ws_continue (h : κ.ct ρ) : WS X Z ρ (.Continue pos) κ := ⟨_, ps_continue, fun σ H g D k r f kd => kd.ct σ H g ρ k r f (Same.refl _) h⟩
theorem ws_ret (h : VE X ρ e d ρ1) (k : κ.rt d ρ1) : WS X Z ρ (.Return (some e) pos) κ := by
  obtain ⟨t, p, q⟩ := h
  exact ⟨_, ps_ret p, fun σ H g D kk r f kd => q σ H g _ kk r fun v H1 g1 k1 e1 r1 rv => kd.rt v σ H1 g1 ρ1 d k1 r1 (f.ext e1) e1.st rv k⟩
/-- a new list is handed back, to be the caller's own -/
theorem ws_retL (h : VL X ρ e ds ρ1) (k : κ.rl ds ρ1) : WS X Z ρ (.Return (some e) pos) κ := by
  obtain ⟨t, p, q⟩ := h
  exact ⟨_, ps_ret p, fun σ H g D kk r f kd => q σ H g _ kk r fun pa xs H1 g1 k1 e1 r1 hp hs hm rv => kd.rl pa xs σ H1 g1 ρ1 ds k1 r1 (f.ext e1) e1.st hp hs hm rv k⟩
theorem ws_retN (k : κ.rt .non ρ) : WS X Z ρ (.Return none pos) κ := ⟨_, ps_retN, fun σ H g D kk r f kd => kd.rt _ σ H g ρ .non kk r f (Same.refl _) Rp.non k⟩
theorem ws_expr (h : VE X ρ e d ρ1) (k : κ.nx ρ1) (hs : swapsWith e none pos.line X.env = pure false := by rfl) : WS X Z ρ (.Expr e pos) κ := by
  obtain ⟨t, p, q⟩ := h
  exact ⟨_, ps_expr p hs, fun σ H g D kk r f kd => q σ H g _ kk r fun v H1 g1 k1 e1 r1 rv => kd.nx σ H1 g1 ρ1 k1 r1 (f.ext e1) e1.st k⟩
theorem ws_if {w : Bool} (h : VT X ρ c w ρ1) (h1 : w = true → WSs X Z ρ1 a κ) (h2 : w = false → WSs X Z ρ1 b κ) : WS X Z ρ (.If c a b pos) κ := by
  obtain ⟨t, p, q⟩ := h
  cases w with
  | true =>
    obtain ⟨u, p1, q1⟩ := h1 rfl
    exact ⟨_, ps_if p p1 pss_no, fun σ H g D k r f kd => q σ H g _ k r fun H1 g1 k1 e1 r1 => iteT (q1 σ H1 g1 D k1 r1 (f.ext e1) (kd.mono e1.st))⟩
  | false =>
    obtain ⟨u, p1, q1⟩ := h2 rfl
    exact ⟨_, ps_if p pss_no p1, fun σ H g D k r f kd => q σ H g _ k r fun H1 g1 k1 e1 r1 => iteF (q1 σ H1 g1 D k1 r1 (f.ext e1) (kd.mono e1.st))⟩
/-- name = e -/
theorem ws_set (i : Nat) {x : Str} {pos' : Pos} (h : VE X ρ e d ρ1) (k : κ.nx (ρ1.set i (.d d))) (hN : X.N.Nodup) (hi : X.N[i]? = some x := by rfl) (hx : Loc X.env.scope x := by first | exact Or.inl rfl | exact Or.inr rfl)
    (hs : swapsWith e (some (.Name x pos')) pos.line X.env = pure false := by rfl) (hf : X.fn x = true ∨ X.env.scope.names.lookup x = some .local := by first | exact .inl rfl | exact .inr rfl) : WS X Z ρ (.Assign [.Name x pos'] e pos) κ := by
  obtain ⟨t, p, q⟩ := h
  exact ⟨_, ps_set hN hi hx p hs hf, fun σ H g D kk r f kd => q σ H g _ kk r fun v H1 g1 k1 e1 r1 rv => kd.nx _ H1 g1 _ k1 (r1.setD i rv) ((f.ext e1).slots fun p h => own_setS rfl h) e1.st k⟩
theorem ws_setO (i : Nat) {x : Str} {pos' : Pos} (h : VL X ρ e ds ρ1) (k : κ.nx (ρ1.set i (.o ds))) (hN : X.N.Nodup) (hi : X.N[i]? = some x := by rfl) (hx : Loc X.env.scope x := by first | exact Or.inl rfl | exact Or.inr rfl)
    (hs : swapsWith e (some (.Name x pos')) pos.line X.env = pure false := by rfl) (hf : X.fn x = true ∨ X.env.scope.names.lookup x = some .local := by first | exact .inl rfl | exact .inr rfl) : WS X Z ρ (.Assign [.Name x pos'] e pos) κ := by
  obtain ⟨t, p, q⟩ := h
  refine ⟨_, ps_set hN hi hx p hs hf, fun σ H g D kk r f kd => q σ H g _ kk r fun pa xs H1 g1 k1 e1 r1 hp hs' hm rv => ?_⟩
  have f1 := f.ext e1
  exact kd.nx _ H1 (g1.hold pa ds) _ (hold_ok k1 hp hs' rv) (r1.setO i hm) ⟨f1.st, fun q es n1 n2 => (hold_gro hm).mu q es (f1.mu q es n1 n2), fun q h => f1.newO r1.len hm h⟩ e1.st k
/-- name op= e, ints -/
theorem ws_aug (i : Nat) {x : Str} {pos' : Pos} {op : Operator} {fn : Int → Int → Int} {m n : Int} (ho : PIp X op (ipI fn)) (h0 : ρ[i]? = some (.d (.int m)) := by rfl) (h : VE X ρ e (.int n) ρ1) (k : κ.nx (ρ1.set i (.d (.int (fn m n))))) (hN : X.N.Nodup) (hi : X.N[i]? = some x := by rfl)
    (hx : Loc X.env.scope x := by first | exact Or.inl rfl | exact Or.inr rfl) (hf : X.fn x = true ∨ X.env.scope.names.lookup x = some .local := by first | exact .inl rfl | exact .inr rfl) : WS X Z ρ (.AugAssign (.Name x pos') op e pos) κ := by
  obtain ⟨t, p, q⟩ := h
  refine ⟨_, ps_aug hN hi hx p ho hf, fun σ H g D kk r f kd => ?_⟩
  obtain ⟨u, e0, e2⟩ := r.get h0
  cases e2
  refine ⟨_, e0, q σ H g _ kk r fun v H1 g1 k1 e1 r1 rv => ?_⟩
  cases rv
  exact ⟨m, n, rfl, rfl, kd.nx _ H1 g1 _ k1 (r1.setD i (Rp.int _)) ((f.ext e1).slots fun p h => own_setS rfl h) e1.st k⟩
/-- xs.append(e), xs a list that may be changed -/
theorem ws_append (i : Nat) {x : Str} {pos' apos cpos : Pos} {s : Sl} (h : VE X ρ e d ρ1) (hs1 : ρ1[i]? = some s := by rfl) (hc : s.cont = some ds := by rfl) (hz : ds.length < 1000000) (k : κ.nx (ρ1.set i (s.put (ds ++ [d])))) (hsl : ∃ s0, ρ[i]? = some s0 ∧ s0.own = true := by exact ⟨_, rfl, rfl⟩) (hN : X.N[i]? = some x := by rfl)
    (hv : Vis X.env.scope x := by first | exact Or.inl rfl | exact Or.inr (Or.inl rfl) | exact Or.inr (Or.inr rfl)) (hd1 : (x == ("__debug__" : Str)) = false := by decide) (hcd : (x == ("__classdict__" : Str)) = false := by decide)
    (hbase : attributeBase (.Name x pos') "append" X.env (eval (.Name x pos') X.env) = eval (.Name x pos') X.env := by rfl)
    (hfew : ((backTo cpos (starEach (e :: []) X.env)).all (fun x => !x.1) && (backToKw cpos (keywordEach [] X.env)).all (fun x => x.1.isSome) && decide ((e :: ([] : List Expr)).length + ([] : List Keyword).length + (if ([] : List Keyword).isEmpty then 0 else 1) < 30)) = true := by rfl)
    (hline : (apos.endLine == cpos.line) = true := by rfl) (hst : starEach (e :: []) X.env = (false, eval e X.env) :: starEach [] X.env := by rfl) (hplain : (backTo cpos (starEach [] X.env)).any (·.1) = false := by rfl)
    (hsw : swapsWith (.Call (.Attribute (.Name x pos') "append" apos) [e] [] cpos) none pos.line X.env = pure false := by rfl) : WS X Z ρ (.Expr (.Call (.Attribute (.Name x pos') "append" apos) [e] [] cpos) pos) κ := by
  obtain ⟨t, p, q⟩ := h
  refine ⟨_, ps_expr (pe_bm PySem.F.plainAttrs_list PySem.F.slot_list_append PySem.F.type_list_append mt_append (pe_var hN hv hd1 hcd) (pa_cons p pa_nil hst) hbase hfew hline hst hplain) hsw, fun σ H g D kk r f kd => ?_⟩
  obtain ⟨s0, e0, w0⟩ := hsl
  obtain ⟨v0, x0, y0⟩ := r.sl i s0 e0
  obtain ⟨pp, hpp, es0, hmm⟩ : ∃ pp, v0 = some (V.ref pp) ∧ ∃ es, g.M pp = some es := by
    cases s0 with
    | no => cases w0
    | d _ => cases w0
    | t _ _ => cases w0
    | o es => obtain ⟨p2, z, z2⟩ := y0; exact ⟨p2, z, es, z2⟩
    | i p2 es => exact ⟨p2, y0.1, es, y0.2⟩
  subst hpp
  obtain ⟨_, xs0, z5, _⟩ := kk.2 pp es0 hmm
  refine ⟨_, x0, .inl ⟨rfl, xs0, SqL.of z5⟩, q σ H g _ kk r fun v H1 g1 k1 e1 r1 rv => ?_⟩
  obtain ⟨p', s', f1, f2, f3, f4⟩ := r1.cont (i := i) (ds := ds) (by rw [hs1]; exact hc)
  rw [x0] at f3
  cases f3
  rw [hs1] at f1
  cases f1
  obtain ⟨n1, xs, n2, n3⟩ := k1.2 _ _ f4
  refine ⟨_, xs, v, rfl, rfl, n2, by rw [n3.len]; exact Nat.lt_of_lt_of_le hz (by decide), ?_⟩
  let g2 : G := ⟨g1.S, fun q => if q = pp then some (ds ++ [d]) else g1.M q⟩
  obtain ⟨r2, ex2⟩ := r1.put (g' := g2) (ls := ds ++ [d]) hs1 f2 x0 (Same.refl _) (fun q es n e => by show (if q = pp then _ else _) = _; rw [if_neg n]; exact e) (if_pos rfl)
  refine kd.nx σ _ g2 _ ⟨fun b u e => ?_, fun q es e => ?_⟩ r2 ((f.ext e1).ext ex2) (e1.st.trans ex2.st) k
  · have nb : b ≠ pp := fun z => by
      have e' : g1.S b = some u := e
      rw [z, n1] at e'
      cases e'
    rw [upd_ne nb]
    exact k1.1 b u e
  · have e' : (if q = pp then some (ds ++ [d]) else g1.M q) = some es := e
    by_cases hq : q = pp
    · subst hq
      rw [if_pos rfl] at e'
      cases e'
      exact ⟨n1, _, upd_same, n3.app (.cons rv .nil)⟩
    · rw [if_neg hq] at e'
      obtain ⟨h1, ys, h2, h3⟩ := k1.2 q es e'
      exact ⟨h1, ys, by rw [upd_ne hq]; exact h2, h3⟩
end
end DL
namespace DL
open PySem PySem.Spec PyProof.Rows L2

/-! ### targets -/
def RG (K : PySem.W.Frag) (t : TG) (is : List Nat) (d : Dt) (ρ ρ' : List Sl) : Prop :=
  ∀ (v : V) (σ : L2.St) (H : Hp) (g : G) (Q : L2.St → Hp → Prop), GOk K g H → Rep K g σ ρ → Rp K g.S v d →
    (∀ σ', Rep K g σ' ρ' → σ'.length = σ.length → (∀ j, j ∉ is → σ'[j]? = σ[j]?) → (∀ p, OwnAt σ' ρ' p → OwnAt σ ρ p) → Q σ' H) → t v σ H Q
def RGs (K : PySem.W.Frag) (t : TGs) (is : List Nat) (ds : List Dt) (ρ ρ' : List Sl) : Prop :=
  ∀ (vs : List V) (σ : L2.St) (H : Hp) (g : G) (Q : L2.St → Hp → Prop), GOk K g H → Rep K g σ ρ → RpAll K g.S vs ds →
    (∀ σ', Rep K g σ' ρ' → σ'.length = σ.length → (∀ j, j ∉ is → σ'[j]? = σ[j]?) → (∀ p, OwnAt σ' ρ' p → OwnAt σ ρ p) → Q σ' H) → t vs σ H Q
/-- a target, whatever it is given: the reading depends on its shape alone -/
inductive Tg where
  | n (i : Nat)
  | t (ts : List Tg)
def VG (X : Cx) (tg : Expr) (is : List Nat) (d : Dt) (ρ ρ' : List Sl) : Prop := ∃ t, PG X tg t ∧ RG X.K t is d ρ ρ'
def VGs (X : Cx) (tgs : List Expr) (is : List Nat) (ds : List Dt) (ρ ρ' : List Sl) : Prop := ∃ t, PGs X tgs t ∧ RGs X.K t is ds ρ ρ'
section
variable {X : Cx} {ρ ρ1 ρ2 : List Sl} {d : Dt} {ds : List Dt} {pos : Pos} {is js : List Nat} {e : Expr} {es : List Expr}
theorem vg_name (i : Nat) {x : Str} (hN : X.N.Nodup) (hi : X.N[i]? = some x := by rfl) (hx : Loc X.env.scope x := by first | exact Or.inl rfl | exact Or.inr rfl)
    (hf : X.fn x = true ∨ X.env.scope.names.lookup x = some .local := by first | exact .inl rfl | exact .inr rfl) : VG X (.Name x pos) [i] d ρ (ρ.set i (.d d)) :=
  ⟨_, pg_name hN hi hx hf, fun v σ H g Q k r rv q => q _ (r.setD i rv) (List.length_set ..) (fun j hj => List.getElem?_set_ne (fun z => hj (by simp [z]))) fun p h => own_setS rfl h⟩
theorem vgs_nil : VGs X [] [] [] ρ ρ := ⟨_, pgs_nil, fun vs σ H g Q k r rv q => by
  cases rv
  exact ⟨rfl, q σ r rfl (fun _ _ => rfl) fun _ h => h⟩⟩
theorem vgs_cons (h : VG X e is d ρ ρ1) (h2 : VGs X es js ds ρ1 ρ2) (hs : (assignEach (e :: es) X.env).map (·.2) = assign e X.env :: (assignEach es X.env).map (·.2) := by rfl) : VGs X (e :: es) (is ++ js) (d :: ds) ρ ρ2 := by
  obtain ⟨t, p, q⟩ := h
  obtain ⟨u, p2, q2⟩ := h2
  refine ⟨_, pgs_cons p p2 hs, fun vs σ H g Q k r rv z => ?_⟩
  cases rv with
  | cons r1 r2 =>
    refine ⟨_, _, rfl, q _ σ H g _ k r r1 fun σ1 a1 a2 a3 a4 => q2 _ σ1 H g _ k a1 r2 fun σ2 b1 b2 b3 b4 => ?_⟩
    refine z σ2 b1 (b2.trans a2) (fun j hj => ?_) fun p h => a4 p (b4 p h)
    have n1 : j ∉ is := fun w => hj (List.mem_append_left _ w)
    have n2 : j ∉ js := fun w => hj (List.mem_append_right _ w)
    rw [b3 j n2, a3 j n1]
theorem vg_tup {k : Nat} {n : Nat} (hc : X.calm = true) (h : VGs X es is ds ρ ρ1) (hn : (assignEach es X.env).length = n := by rfl) (hl : ds.length = n := by rfl) (hst : (assignEach es X.env).findIdx? (·.1) = none := by rfl) : VG X (.Tuple es k pos) is (.tup ds) ρ ρ1 := by
  obtain ⟨t, p, q⟩ := h
  refine ⟨_, pg_tup hc p hn hst, fun v σ H g Q k r rv z => ?_⟩
  cases rv with
  | tup h1 h2 => exact ⟨_, _, rfl, sqt_mono k.1 h1, by rw [h2.len, hl], q _ σ H g Q k r h2 z⟩
/-- target = e -/
theorem ws_asg {Z : Fx} {κ : KD} {tg v : Expr} (h : VE X ρ v d ρ1) (hg : VG X tg is d ρ1 ρ2) (k : κ.nx ρ2) (hs : swapsWithSole [tg] v pos.line X.env = pure false := by rfl) (hw : swappedStores [tg] v X.env = pure none := by rfl)
    (h1 : (assignEach [tg] X.env).map (·.2) = [assign tg X.env] := by rfl) : WS X Z ρ (.Assign [tg] v pos) κ := by
  obtain ⟨t, p, q⟩ := h
  obtain ⟨u, p2, q2⟩ := hg
  exact ⟨_, ps_asg p p2 hs hw h1, fun σ H g D kk r f kd => q σ H g _ kk r fun v H1 g1 k1 e1 r1 rv => q2 v σ H1 g1 _ k1 r1 rv fun σ' a1 a2 a3 a4 => kd.nx σ' H1 g1 ρ2 k1 a1 ((f.ext e1).slots a4) e1.st k⟩
/-- a, b = x, y with plain local names, two data -/
theorem ws_par (i j : Nat) {Z : Fx} {κ : KD} {x y : Str} {a b : Expr} {d2 : Dt} {px py pt : Pos} {kt k2 : Nat} {pt2 : Pos} (h : VA X ρ [a, b] [d, d2] ρ1) (k : κ.nx ((ρ1.set i (.d d)).set j (.d d2))) (hc : X.calm = true) (hN : X.N.Nodup) (hi : X.N[i]? = some x := by rfl) (hj : X.N[j]? = some y := by rfl) (hij : i ≠ j := by decide)
    (hx : X.env.scope.names.lookup x = some .local := by rfl) (hy : X.env.scope.names.lookup y = some .local := by rfl) (hw : swappedStores [.Tuple [.Name x px, .Name y py] kt pt] (.Tuple [a, b] k2 pt2) X.env = pure (some [x, y]) := by rfl)
    (hs : swapsWithSole [.Tuple [.Name x px, .Name y py] kt pt] (.Tuple [a, b] k2 pt2) pos.line X.env = pure false := by rfl) : WS X Z ρ (.Assign [.Tuple [.Name x px, .Name y py] kt pt] (.Tuple [a, b] k2 pt2) pos) κ := by
  obtain ⟨t, p, q⟩ := h
  refine ⟨_, ps_par hc hN hi hj hij hx hy p hw hs, fun σ H g D kk r f kd => q σ H g _ kk r fun vs H1 g1 k1 e1 r1 rv => ?_⟩
  cases rv with
  | cons r1' r2' =>
    cases r2' with
    | cons r2' r3' =>
      cases r3'
      exact ⟨_, _, rfl, kd.nx _ H1 g1 _ k1 ((r1.setD i r1').setD j r2') ((f.ext e1).slots fun p h => own_setS rfl (own_setS rfl h)) e1.st k⟩
/-- the same, the first one a new list of one's own -/
theorem ws_parO (i j : Nat) {Z : Fx} {κ : KD} {x y : Str} {a b : Expr} {d2 : Dt} {px py pt : Pos} {kt k2 : Nat} {pt2 : Pos} (h : VL X ρ a ds ρ1) (hb : VE X ρ1 b d2 ρ1) (k : κ.nx ((ρ1.set i (.o ds)).set j (.d d2))) (hc : X.calm = true) (hN : X.N.Nodup) (hi : X.N[i]? = some x := by rfl) (hj : X.N[j]? = some y := by rfl) (hij : i ≠ j := by decide)
    (hx : X.env.scope.names.lookup x = some .local := by rfl) (hy : X.env.scope.names.lookup y = some .local := by rfl) (hw : swappedStores [.Tuple [.Name x px, .Name y py] kt pt] (.Tuple [a, b] k2 pt2) X.env = pure (some [x, y]) := by rfl)
    (hs : swapsWithSole [.Tuple [.Name x px, .Name y py] kt pt] (.Tuple [a, b] k2 pt2) pos.line X.env = pure false := by rfl) (h1 : starEach [a, b] X.env = (false, eval a X.env) :: starEach [b] X.env := by rfl) (h2 : starEach [b] X.env = (false, eval b X.env) :: starEach [] X.env := by rfl) : WS X Z ρ (.Assign [.Tuple [.Name x px, .Name y py] kt pt] (.Tuple [a, b] k2 pt2) pos) κ := by
  obtain ⟨t, p, q⟩ := h
  obtain ⟨u, pb, qb⟩ := hb
  refine ⟨_, ps_par hc hN hi hj hij hx hy (pa_cons p (pa_cons pb pa_nil h2) h1) hw hs, fun σ H g D kk r f kd => q σ H g _ kk r fun pa xs H1 g1 k1 e1 r1 hp hs' hm rv => ?_⟩
  have f1 := f.ext e1
  have k1' : GOk X.K (g1.hold pa ds) H1 := hold_ok k1 hp hs' rv
  -- the new list is held in a slot of its own while the second one is reckoned
  have gr := hold_gro (g := g1) (ds := ds) hm
  refine qb σ H1 (g1.hold pa ds) _ k1' (r1.gro gr) fun v H2 g2 k2 e2 r2 rv2 => ?_
  refine ⟨_, _, rfl, ?_⟩
  -- pa is no slot of this frame's, so it is as it was
  have npa : ¬ OwnAt σ ρ1 pa := fun ⟨m, y, a1, a2⟩ => by
    obtain ⟨es, h⟩ := adr_held r1 a1 a2
    rw [hm] at h
    cases h
  have hm2 : g2.M pa = some ds := e2.mu pa ds (if_pos rfl) npa
  have r3 : Rep X.K g2 (σ.set i (some (V.ref pa))) (ρ1.set i (.o ds)) := by
    refine ⟨by rw [List.length_set, List.length_set]; exact r2.len, fun m t e => ?_, fun m l t u q' n e1 e2' w1 w2 => ?_⟩
    · by_cases hj : m = i
      · subst hj
        by_cases il : m < ρ1.length
        · rw [List.getElem?_set_self il] at e
          cases e
          exact ⟨_, List.getElem?_set_self (by rw [r2.len]; exact il), pa, rfl, hm2⟩
        · rw [List.getElem?_eq_none (by rw [List.length_set]; omega)] at e
          cases e
      · rw [List.getElem?_set_ne (Ne.symm hj)] at e
        obtain ⟨w, w1, w2⟩ := r2.sl m t e
        exact ⟨w, by rw [List.getElem?_set_ne (Ne.symm hj)]; exact w1, w2⟩
    · have sp : ∀ (m : Nat) (y : Sl) (q : Addr), (ρ1.set i (.o ds))[m]? = some y → Adr (σ.set i (some (V.ref pa))) m y q → (m = i ∧ q = pa) ∨ (m ≠ i ∧ ρ1[m]? = some y ∧ Adr σ m y q) := fun m y q a c => by
        by_cases hm' : m = i
        · subst hm'
          by_cases il : m < ρ1.length
          · rw [List.getElem?_set_self il] at a
            cases a
            have c' : (σ.set m (some (V.ref pa)))[m]? = some (some (V.ref q)) := c
            rw [List.getElem?_set_self (by rw [r2.len]; exact il)] at c'
            cases c'
            exact .inl ⟨rfl, rfl⟩
          · rw [List.getElem?_eq_none (by rw [List.length_set]; omega)] at a
            cases a
        · rw [List.getElem?_set_ne (Ne.symm hm')] at a
          exact .inr ⟨hm', a, (adr_set hm').mp c⟩
      rcases sp m t q' e1 w1 with ⟨a1, a2⟩ | ⟨a1, a2, a3⟩
      · rcases sp l u q' e2' w2 with ⟨b1, b2⟩ | ⟨b1, b2, b3⟩
        · exact n (a1.trans b1.symm)
        · exact npa ⟨l, u, b2, a2 ▸ b3⟩
      · rcases sp l u q' e2' w2 with ⟨b1, b2⟩ | ⟨b1, b2, b3⟩
        · exact npa ⟨m, t, a2, b2 ▸ a3⟩
        · exact r2.ne m l t u q' n a2 b2 a3 b3
  have f2 : FrOk Z σ ρ1 g2 := (FrOk.mk (f1.st.trans gr.st) (fun p ds h1 h2 => gr.mu p ds (f1.mu p ds h1 h2)) f1.ow : FrOk Z σ ρ1 (g1.hold pa ds)).ext e2
  have f3 : FrOk Z (σ.set i (some (V.ref pa))) (ρ1.set i (.o ds)) g2 := ⟨f2.st, f2.mu, fun q' h => f1.newO r1.len hm h⟩
  exact kd.nx _ H2 g2 _ k2 (r3.setD j rv2) (f3.slots fun p h => own_setS rfl h) ((e1.st.trans gr.st).trans e2.st) k
end

/-! ### what is walked -/
/-- J yields the items ds, one a turn, as long as what stands stands -/
def Yields (K : PySem.W.Frag) (J : It) (g : G) (ds : List Dt) : Prop := ∀ g2 H2, GOk K g2 H2 → Same g.S g2.S →
  (∀ j d, ds[j]? = some d → J.go j H2 ∧ ∀ x H3, J.yld j H2 x H3 → ∃ g3, GOk K g3 H3 ∧ Gro g2 g3 ∧ Rp K g3.S x d) ∧ J.stop ds.length H2
def VI (X : Cx) (ρ : List Sl) (tg iter : Expr) (ds : List Dt) (ρ' : List Sl) : Prop := ∃ wi, PI X tg iter wi ∧
  ∀ (σ : L2.St) (H : Hp) (g : G) (R : It → Hp → Prop), GOk X.K g H → Rep X.K g σ ρ → (∀ J H' g', GOk X.K g' H' → Ext σ ρ ρ' g g' → Rep X.K g' σ ρ' → Yields X.K J g' ds → R J H') → wi σ H R
section
variable {X : Cx} {ρ ρ1 ρ2 : List Sl} {d : Dt} {ds es' : List Dt} {pos : Pos} {e e2 tg : Expr}
theorem yields_list {K : PySem.W.Frag} {g : G} {a : Addr} {xs : List V} (hs : SqX K g.S a xs) (rv : RpAll K g.S xs ds) (un : ∀ g2 H2 ys, GOk K g2 H2 → Same g.S g2.S → SqL K H2 a ys → True) : Yields K (Itl K a) g ds := fun g2 H2 k2 st => by
  have hs2 : SqL K H2 a xs := (sqx_mono k2.1 (sqx_mono st hs)).l
  refine ⟨fun j d hj => ?_, ⟨xs, hs2, by rw [rv.len]; exact Nat.le_refl _⟩⟩
  obtain ⟨v, v1, v2⟩ := rv.at hj
  refine ⟨⟨xs, v, hs2, v1⟩, fun x H3 ⟨y1, y2⟩ => ?_⟩
  subst y1
  have e := y2 xs hs2
  rw [v1] at e
  cases e
  exact ⟨g2, k2, Gro.refl g2, v2.mono st⟩
theorem vi_list (h : VE X ρ e (.lst ds) ρ1) : VI X ρ tg e ds ρ1 := by
  obtain ⟨t, p, q⟩ := h
  refine ⟨_, pi_list p, fun σ H g R k r z => q σ H g _ k r fun v H1 g1 k1 e1 r1 rv => ?_⟩
  cases rv with
  | lst h1 h2 => exact ⟨_, rfl, ⟨_, (sqx_mono k1.1 h1).l⟩, z _ H1 g1 k1 e1 r1 (yields_list h1 h2 fun _ _ _ _ _ _ => trivial)⟩
theorem vi_tup (h : VE X ρ e (.tup ds) ρ1) : VI X ρ tg e ds ρ1 := by
  obtain ⟨t, p, q⟩ := h
  refine ⟨_, pi_tup p, fun σ H g R k r z => q σ H g _ k r fun v H1 g1 k1 e1 r1 rv => ?_⟩
  cases rv with
  | tup h1 h2 =>
    refine ⟨_, rfl, ⟨_, sqt_mono k1.1 h1⟩, z _ H1 g1 k1 e1 r1 fun g2 H2 k2 st => ?_⟩
    have hs2 := sqt_mono k2.1 (sqt_mono st h1)
    refine ⟨fun j d hj => ?_, ⟨_, hs2, by rw [h2.len]; exact Nat.le_refl _⟩⟩
    obtain ⟨v, v1, v2⟩ := h2.at hj
    refine ⟨⟨_, v, hs2, v1⟩, fun x H3 ⟨y1, y2⟩ => ?_⟩
    subst y1
    have e := y2 _ hs2
    rw [v1] at e
    cases e
    exact ⟨g2, k2, Gro.refl g2, v2.mono st⟩
/-- lo, lo + 1, .. -/
def rng (lo : Int) (n : Nat) : List Int := (List.range n).map fun (k : Nat) => lo + (k : Int)
theorem rng_get {lo : Int} {n j : Nat} {d : Dt} (h : ((rng lo n).map Dt.int)[j]? = some d) : j < n ∧ d = .int (lo + (j : Int)) := by
  unfold rng at h
  rw [List.getElem?_map, List.getElem?_map] at h
  by_cases hj : j < n
  · rw [List.getElem?_range hj] at h
    cases h
    exact ⟨hj, rfl⟩
  · rw [List.getElem?_eq_none (by rw [List.length_range]; omega)] at h
    cases h
theorem rng_length (lo : Int) (n : Nat) : (rng lo n).length = n := by unfold rng; rw [List.length_map, List.length_range]
theorem yields_rng {K : PySem.W.Frag} {g : G} {lo : Int} {n : Nat} : Yields K (Itr lo n) g ((rng lo n).map Dt.int) := fun g2 H2 k2 st => by
  refine ⟨fun j d hj => ?_, show n ≤ _ by rw [List.length_map, rng_length]; exact Nat.le_refl _⟩
  obtain ⟨h1, rfl⟩ := rng_get hj
  refine ⟨h1, fun x H3 ⟨y1, y2⟩ => ?_⟩
  subst y1
  subst y2
  exact ⟨g2, k2, Gro.refl g2, Rp.int _⟩
theorem vi_range1 {n : Int} {p : Pos} (hm : X.mg "range" = none) (h : VE X ρ e (.int n) ρ1) (hb : -(2 ^ 62) ≤ n ∧ n < 2 ^ 62) (hg : Gl X "range" := by rfl) (hn : starEach [e] X.env = (false, eval e X.env) :: starEach [] X.env := by rfl) (hs : starEach [e] X.env = [(false, eval e X.env)] := by rfl) :
    VI X ρ tg (.Call (.Name "range" p) [e] [] pos) ((rng 0 n.toNat).map Dt.int) ρ1 := by
  obtain ⟨t, p, q⟩ := h
  refine ⟨_, pi_range1 hg hm (pa_cons p pa_nil hn) hs, fun σ H g R k r z => q σ H g _ k r fun v H1 g1 k1 e1 r1 rv => ?_⟩
  cases rv
  exact ⟨n, rfl, hb.1, hb.2, z _ H1 g1 k1 e1 r1 yields_rng⟩
theorem vi_range2 {m n : Int} {p : Pos} (hm : X.mg "range" = none) (h : VE X ρ e (.int m) ρ1) (h2 : VE X ρ1 e2 (.int n) ρ2) (hb : -(2 ^ 62) ≤ m ∧ m < 2 ^ 62 ∧ -(2 ^ 62) ≤ n ∧ n < 2 ^ 62) (hg : Gl X "range" := by rfl) (hn : starEach [e, e2] X.env = (false, eval e X.env) :: starEach [e2] X.env := by rfl) (hn2 : starEach [e2] X.env = (false, eval e2 X.env) :: starEach [] X.env := by rfl)
    (hs : starEach [e, e2] X.env = [(false, eval e X.env), (false, eval e2 X.env)] := by rfl) (hs2 : starEach [e2] X.env = [(false, eval e2 X.env)] := by rfl) :
    VI X ρ tg (.Call (.Name "range" p) [e, e2] [] pos) ((rng m (n - m).toNat).map Dt.int) ρ2 := by
  obtain ⟨t, p, q⟩ := h
  obtain ⟨t2, p2, q2⟩ := h2
  refine ⟨_, pi_range2 hg hm (pa_cons p (pa_cons p2 pa_nil hn2) hn) hs hs2, fun σ H g R k r z => q σ H g _ k r fun v H1 g1 k1 e1 r1 rv => q2 σ H1 g1 _ k1 r1 fun v2 H2 g2 k2 e2 r2 rv2 => ?_⟩
  cases rv
  cases rv2
  exact ⟨m, n, rfl, hb, z _ H2 g2 k2 (e1.trans e2) r2 yields_rng⟩
/-- pairs of a number and an item -/
def enum (ds : List Dt) : List Dt := ds.mapIdx fun j d => .tup [.int (j : Int), d]
theorem enum_get {j : Nat} {d : Dt} (h : (enum ds)[j]? = some d) : ∃ x, ds[j]? = some x ∧ d = .tup [.int (j : Int), x] := by
  unfold enum at h
  rw [List.getElem?_mapIdx] at h
  cases e : ds[j]? with
  | none => rw [e] at h; cases h
  | some x =>
    rw [e] at h
    cases h
    exact ⟨x, rfl, rfl⟩
theorem enum_length : (enum ds).length = ds.length := by unfold enum; rw [List.length_mapIdx]
theorem vi_enum {elts : List Expr} {kk : Nat} {p tpos : Pos} (hm : X.mg "enumerate" = none) (h : VE X ρ e (.lst ds) ρ1) (hg : Gl X "enumerate" := by rfl) (hn : starEach [e] X.env = (false, eval e X.env) :: starEach [] X.env := by rfl) (hs : starEach [e] X.env = [(false, eval e X.env)] := by rfl) :
    VI X ρ (.Tuple elts kk tpos) (.Call (.Name "enumerate" p) [e] [] pos) (enum ds) ρ1 := by
  obtain ⟨t, p, q⟩ := h
  refine ⟨_, pi_enum hg hm (pa_cons p pa_nil hn) hs, fun σ H g R k r z => q σ H g _ k r fun v H1 g1 k1 e1 r1 rv => ?_⟩
  cases rv with
  | lst h1 h2 =>
    refine ⟨_, _, rfl, (sqx_mono k1.1 h1).l, z _ H1 g1 k1 e1 r1 fun g2 H2 k2 st => ?_⟩
    have hs2 := (sqx_mono k2.1 (sqx_mono st h1)).l
    refine ⟨fun j d hj => ?_, ⟨_, hs2, by rw [enum_length, h2.len]; exact Nat.le_refl _⟩⟩
    obtain ⟨y, y1, rfl⟩ := enum_get hj
    obtain ⟨v, v1, v2⟩ := h2.at y1
    refine ⟨⟨_, v, hs2, v1⟩, fun x H3 ⟨T, w, w1, w2, w3, w4⟩ => ?_⟩
    subst w1
    subst w3
    have e := w4 _ hs2
    rw [v1] at e
    cases e
    obtain ⟨f1, f2⟩ := k2.free w2
    have gr := stand_gro (g := g2) (p := T) (o := .tup [.int (j : Int), v]) f1
    exact ⟨g2.stand T (.tup [.int (j : Int), v]), stand_ok (k2.upd w2) upd_same f1 f2, gr, Rp.tup (SqT.of upd_same) (.cons (.int _) (.cons ((v2.mono st).mono gr.st) .nil))⟩
def zip2 (ds es : List Dt) : List Dt := List.zipWith (fun x y => Dt.tup [x, y]) ds es
theorem zip2_get {es : List Dt} {j : Nat} {d : Dt} (h : (zip2 ds es)[j]? = some d) : ∃ x y, ds[j]? = some x ∧ es[j]? = some y ∧ d = .tup [x, y] := by
  unfold zip2 at h
  rw [List.getElem?_zipWith] at h
  cases e : ds[j]? with
  | none => rw [e] at h; cases h
  | some x =>
    cases e' : es[j]? with
    | none => rw [e, e'] at h; cases h
    | some y =>
      rw [e, e'] at h
      cases h
      exact ⟨x, y, rfl, rfl, rfl⟩
theorem vi_zip {elts : List Expr} {kk : Nat} {p tpos : Pos} {es : List Dt} (hm : X.mg "zip" = none) (h : VE X ρ e (.lst ds) ρ1) (h' : VE X ρ1 e2 (.lst es) ρ2) (hg : Gl X "zip" := by rfl) (hn : starEach [e, e2] X.env = (false, eval e X.env) :: starEach [e2] X.env := by rfl) (hn2 : starEach [e2] X.env = (false, eval e2 X.env) :: starEach [] X.env := by rfl)
    (hpl : (backTo pos (starEach [e2] X.env)).any (·.1) = false := by rfl) : VI X ρ (.Tuple elts kk tpos) (.Call (.Name "zip" p) [e, e2] [] pos) (zip2 ds es) ρ2 := by
  obtain ⟨t, p, q⟩ := h
  obtain ⟨t2, p2, q2⟩ := h'
  refine ⟨_, pi_zip hg hm (pa_cons p (pa_cons p2 pa_nil hn2) hn) hn hpl, fun σ H g R k r z => q σ H g _ k r fun v H1 g1 k1 e1 r1 rv => q2 σ H1 g1 _ k1 r1 fun v2 H2 g2 k2 e2 r2 rv2 => ?_⟩
  cases rv with
  | lst h1 h2 =>
    cases rv2 with
    | lst i1 i2 =>
      refine ⟨_, _, _, _, rfl, (sqx_mono k2.1 (sqx_mono e2.st h1)).l, (sqx_mono k2.1 i1).l, z _ H2 g2 k2 (e1.trans e2) r2 fun g3 H3 k3 st => ?_⟩
      have a1 := (sqx_mono k3.1 (sqx_mono st (sqx_mono e2.st h1))).l
      have a2 := (sqx_mono k3.1 (sqx_mono st i1)).l
      refine ⟨fun j d hj => ?_, ⟨_, _, a1, a2, ?_⟩⟩
      · obtain ⟨x, y, x1, y1, rfl⟩ := zip2_get hj
        obtain ⟨v, v1, v2⟩ := h2.at x1
        obtain ⟨u, u1, u2⟩ := i2.at y1
        refine ⟨⟨_, _, v, u, a1, a2, v1, u1⟩, fun x H4 ⟨T, w, w', w1, w2, w3, w4, w5⟩ => ?_⟩
        subst w1
        subst w3
        have e := w4 _ a1
        have e' := w5 _ a2
        rw [v1] at e
        rw [u1] at e'
        cases e
        cases e'
        obtain ⟨f1, f2⟩ := k3.free w2
        have gr := stand_gro (g := g3) (p := T) (o := .tup [v, u]) f1
        exact ⟨g3.stand T (.tup [v, u]), stand_ok (k3.upd w2) upd_same f1 f2, gr, Rp.tup (SqT.of upd_same) (.cons (((v2.mono e2.st).mono st).mono gr.st) (.cons ((u2.mono st).mono gr.st) .nil))⟩
      · unfold zip2
        rw [List.length_zipWith, h2.len, i2.len]
        omega
/-! ### for -/
/-- the body at turn j, over the item's data -/
theorem ws_for {Z : Fx} {κ : KD} {iter : Expr} {body : List Stmt} (hc : X.calm = true) (hi : VI X ρ tg iter ds ρ1) (Pv : Nat → List Sl → Prop) (h0 : Pv 0 ρ1)
    (hs : ∀ j d ρ, ds[j]? = some d → Pv j ρ → ∃ ρ' is, VG X tg is d ρ ρ' ∧ WSs X Z ρ' body { κ with nx := Pv (j + 1), ct := Pv (j + 1), bk := κ.nx }) (hd : ∀ ρ, Pv ds.length ρ → κ.nx ρ)
    (hp : PassesOwn (model X.prog X.w) X.A X.env X.xe) (hf : ∀ x, foldedSetIterable iter X.env x = pure x := by intro _; rfl) : WS X Z ρ (.For tg iter body [] pos) κ := by
  obtain ⟨wi, p, q⟩ := hi
  refine ⟨_, ps_for (g := fun v σ H Q => ∃ t, PG X tg t ∧ t v σ H Q) (tb := fun D σ H => ∃ u, PSs X body u ∧ u D σ H) hp hc p ⟨fun pins s σ H v u Q I r ⟨t, pt, ht⟩ => pt.run pins s σ H v u Q I r ht⟩ ⟨fun pins s σ H D I ⟨u, pu, hu⟩ => pu.run pins s σ H D I hu⟩ hf, fun σ H g D k r f kd => ?_⟩
  refine q σ H g _ k r fun J H1 g1 k1 e1 r1 y => ?_
  have f1 := f.ext e1
  refine ⟨fun i m σ' H' => m = ds.length - i ∧ i ≤ ds.length ∧ ∃ g' ρ', GOk X.K g' H' ∧ Rep X.K g' σ' ρ' ∧ FrOk Z σ' ρ' g' ∧ Same g1.S g'.S ∧ Pv i ρ', ⟨ds.length, by simp, Nat.zero_le _, g1, ρ1, k1, r1, f1, Same.refl _, h0⟩, ?_⟩
  rintro i m σ' H' ⟨rfl, hi, g', ρ', k', r', f', st, pv⟩
  obtain ⟨y1, y2⟩ := y g' H' k' st
  by_cases hlt : i < ds.length
  · obtain ⟨d, hd'⟩ : ∃ d, ds[i]? = some d := ⟨ds[i], List.getElem?_eq_getElem hlt⟩
    obtain ⟨go, yl⟩ := y1 i d hd'
    refine .inr ⟨go, fun σ2 H2 => ∃ g2 ρ2, GOk X.K g2 H2 ∧ Rep X.K g2 σ2 ρ2 ∧ FrOk Z σ2 ρ2 g2 ∧ Same g1.S g2.S ∧ Pv (i + 1) ρ2, fun σ2 H2 z => ⟨ds.length - (i + 1), by omega, rfl, hlt, z⟩, fun x H3 hy => ?_⟩
    obtain ⟨g3, k3, gr3, rv3⟩ := yl x H3 hy
    obtain ⟨ρ4, is, ⟨t, pt, qt⟩, ⟨u, pu, qu⟩⟩ := hs i d ρ' hd' pv
    have r3 := r'.gro gr3
    have f3 : FrOk Z σ' ρ' g3 := f'.ext (gr3.ext _ _)
    refine ⟨t, pt, qt x σ' H3 g3 _ k3 r3 rv3 fun σ4 a1 a2 a3 a4 => ⟨u, pu, ?_⟩⟩
    have s3 : Same g1.S g3.S := st.trans gr3.st
    refine qu σ4 H3 g3 _ k3 a1 (f3.slots a4) ⟨fun σ5 H5 g5 ρ5 k5 r5 f5 s5 z => ?_, fun v σ5 H5 g5 ρ5 d5 k5 r5 f5 s5 z => ?_, fun σ5 H5 g5 ρ5 k5 r5 f5 s5 z => ?_, fun σ5 H5 g5 ρ5 k5 r5 f5 s5 z => ?_, fun pa xs σ5 H5 g5 ρ5 ds5 k5 r5 f5 s5 => kd.rl pa xs σ5 H5 g5 ρ5 ds5 k5 r5 f5 ((e1.st.trans s3).trans s5)⟩
    · exact ⟨g5, ρ5, k5, r5, f5, s3.trans s5, z⟩
    · exact kd.rt v σ5 H5 g5 ρ5 d5 k5 r5 f5 ((e1.st.trans s3).trans s5) z
    · exact kd.nx σ5 H5 g5 ρ5 k5 r5 f5 ((e1.st.trans s3).trans s5) z
    · exact ⟨g5, ρ5, k5, r5, f5, s3.trans s5, z⟩
  · have e : i = ds.length := by omega
    subst e
    exact .inl ⟨y2, kd.nx σ' H' g' ρ' k' r' f' (e1.st.trans st) (hd ρ' pv)⟩
end
end DL
namespace DL
open PySem PySem.Spec PyProof.Rows L2

section
variable {X : Cx} {Z : Fx} {ρ ρ1 ρ2 : List Sl} {κ : KD} {pos : Pos} {c : Expr} {body : List Stmt}
/-! ### while: Pv by a measure -/
theorem ws_while (Pv : Nat → List Sl → Prop) (h0 : ∃ m, Pv m ρ) (hs : ∀ m ρ, Pv m ρ → ∃ b ρ', VT X ρ c b ρ' ∧ (b = true → WSs X Z ρ' body { κ with nx := fun ρ2 => ∃ m', m' < m ∧ Pv m' ρ2, ct := fun ρ2 => ∃ m', m' < m ∧ Pv m' ρ2, bk := κ.nx }) ∧ (b = false → κ.nx ρ'))
    (hp : PassesOwn (model X.prog X.w) X.A X.env X.xe) : WS X Z ρ (.While c body [] pos) κ := by
  refine ⟨_, ps_while (tc := fun σ H Q => ∃ t, PT X c t ∧ t σ H Q) (tb := fun D σ H => ∃ u, PSs X body u ∧ u D σ H) hp ⟨fun pins s σ H Q I ⟨t, pt, ht⟩ => pt.run pins s σ H Q I ht⟩ ⟨fun pins s σ H D I ⟨u, pu, hu⟩ => pu.run pins s σ H D I hu⟩, fun σ H g D k r f kd => ?_⟩
  obtain ⟨m0, p0⟩ := h0
  refine ⟨fun m σ' H' => ∃ g' ρ', GOk X.K g' H' ∧ Rep X.K g' σ' ρ' ∧ FrOk Z σ' ρ' g' ∧ Same g.S g'.S ∧ Pv m ρ', ⟨m0, g, ρ, k, r, f, Same.refl _, p0⟩, ?_⟩
  rintro m σ' H' ⟨g', ρ', k', r', f', st, pv⟩
  obtain ⟨b, ρ3, ⟨t, pt, qt⟩, h1, h2⟩ := hs m ρ' pv
  refine ⟨t, pt, qt σ' H' g' _ k' r' fun H3 g3 k3 e3 r3 => ?_⟩
  cases b with
  | false => exact iteF (kd.nx σ' H3 g3 ρ3 k3 r3 (f'.ext e3) (st.trans e3.st) (h2 rfl))
  | true =>
    obtain ⟨u, pu, qu⟩ := h1 rfl
    refine iteT ⟨fun σ2 H2 => ∃ m', m' < m ∧ ∃ g2 ρ2, GOk X.K g2 H2 ∧ Rep X.K g2 σ2 ρ2 ∧ FrOk Z σ2 ρ2 g2 ∧ Same g.S g2.S ∧ Pv m' ρ2, fun σ2 H2 z => z, u, pu, ?_⟩
    have s3 := st.trans e3.st
    refine qu σ' H3 g3 _ k3 r3 (f'.ext e3) ⟨fun σ5 H5 g5 ρ5 k5 r5 f5 s5 z => ?_, fun v σ5 H5 g5 ρ5 d5 k5 r5 f5 s5 z => ?_, fun σ5 H5 g5 ρ5 k5 r5 f5 s5 z => ?_, fun σ5 H5 g5 ρ5 k5 r5 f5 s5 z => ?_, fun pa xs σ5 H5 g5 ρ5 ds5 k5 r5 f5 s5 => kd.rl pa xs σ5 H5 g5 ρ5 ds5 k5 r5 f5 (s3.trans s5)⟩
    · obtain ⟨m', hm, z⟩ := z
      exact ⟨m', hm, g5, ρ5, k5, r5, f5, s3.trans s5, z⟩
    · exact kd.rt v σ5 H5 g5 ρ5 d5 k5 r5 f5 (s3.trans s5) z
    · exact kd.nx σ5 H5 g5 ρ5 k5 r5 f5 (s3.trans s5) z
    · obtain ⟨m', hm, z⟩ := z
      exact ⟨m', hm, g5, ρ5, k5, r5, f5, s3.trans s5, z⟩
end

/-! ### comprehensions -/
abbrev blkX (X : Cx) (scope : Scope) (s : Shared) (H : Hp) (C : Addr) (cl : List (Str × Addr)) (fp : List Addr) : Cx := X.blk s H scope (compEnvC scope cl C X.env) fp
def VTs (X : Cx) (ρ : List Sl) (ifs : List Expr) (b : Bool) (ρ' : List Sl) : Prop := ∃ t, PTs X ifs t ∧ RT X.K t ρ b ρ'
theorem vts_nil {X : Cx} {ρ : List Sl} : VTs X ρ [] true ρ := ⟨_, pts_nil, fun σ H g Q k r q => q H g k (Ext.refl _ _ _) r⟩
theorem vts_one {X : Cx} {ρ ρ1 : List Sl} {c : Expr} {b : Bool} (h : VT X ρ c b ρ1) : VTs X ρ [c] b ρ1 := let ⟨t, p, q⟩ := h; ⟨t, pts_one p, q⟩
def wipeS (ρ : List Sl) : List Nat → List Sl
  | [] => ρ
  | v :: vs => (wipeS ρ vs).set v .no
section
variable {K : PySem.W.Frag} {g g' : G} {σ σ' : L2.St} {ρ : List Sl}
theorem wipe_rep (r : Rep K g σ ρ) : ∀ vs : List Nat, Rep K g (wipe σ vs) (wipeS ρ vs)
  | [] => r
  | v :: vs => (wipe_rep r vs).setS v (s := .no) trivial rfl
theorem wipe_own {p : Addr} : ∀ vs : List Nat, OwnAt (wipe σ vs) (wipeS ρ vs) p → OwnAt σ ρ p
  | [], h => h
  | v :: vs, h => wipe_own vs (own_setS (s := .no) rfl h)
theorem wipe_in {i : Nat} : ∀ {vs : List Nat}, i ∈ vs → (wipe σ vs)[i]? = if i < σ.length then some none else none
  | [], h => by cases h
  | v :: vs, h => by
    unfold wipe
    by_cases hi : v = i
    · subst hi
      by_cases hl : v < σ.length
      · rw [if_pos hl, List.getElem?_set_self (by rw [wipe_length]; exact hl)]
      · rw [if_neg hl, List.getElem?_eq_none (by rw [List.length_set, wipe_length]; omega)]
    · rw [List.getElem?_set_ne hi]
      rcases List.mem_cons.mp h with z | z
      · exact absurd z.symm hi
      · exact wipe_in z
theorem wipe_eq {vs : List Nat} (hl : σ'.length = σ.length) (h : ∀ j, j ∉ vs → σ'[j]? = (wipe σ vs)[j]?) : wipe σ' vs = wipe σ vs := by
  refine List.ext_getElem? fun j => ?_
  by_cases hj : j ∈ vs
  · rw [wipe_in hj, wipe_in hj, hl]
  · rw [wipe_out hj, h j hj]
/-- where the slots tell the same lists, none was changed -/
theorem Rep.gro_of (r : Rep K g σ ρ) (r' : Rep K g' σ ρ) (e : Ext σ ρ ρ g g') : Gro g g' := ⟨e.st, fun p ds h => by
  by_cases hp : OwnAt σ ρ p
  · obtain ⟨i, s, e1, e2⟩ := hp
    obtain ⟨v, v1, v2⟩ := r.sl i s e1
    obtain ⟨v', w1, w2⟩ := r'.sl i s e1
    cases s with
    | no => exact e2.elim
    | d _ => exact e2.elim
    | o es =>
      have e3 : σ[i]? = some (some (V.ref p)) := e2
      rw [e3] at v1 w1
      cases v1
      cases w1
      obtain ⟨q, z1, z2⟩ := v2
      obtain ⟨q', y1, y2⟩ := w2
      cases z1
      cases y1
      rw [z2] at h
      cases h
      exact y2
    | i q es =>
      have e3 : σ[i]? = some (some (V.ref p)) := e2
      rw [e3] at v1 w1
      cases v1
      cases w1
      obtain ⟨z1, z2⟩ := v2
      obtain ⟨y1, y2⟩ := w2
      cases z1
      rw [z2] at h
      cases h
      exact y2
    | t cs x =>
      obtain ⟨⟨b', es⟩, hb, rfl⟩ := List.mem_map.mp e2
      have z2 := v2.2.2 _ _ hb
      rw [z2] at h
      cases h
      exact w2.2.2 _ _ hb
  · exact e.mu p ds h hp⟩
end
/-- the parts of a comprehension, and the list that it makes -/
structure CompOk (X : Cx) (ρ : List Sl) (elt tg iter : Expr) (ifs : List Expr) (scope : Scope) (own : List (Str × Nat)) (ds : List Dt) (ρ' : List Sl) : Prop where
  ok : ∃ wi g tt te, PI X tg iter wi ∧ (∀ s H C cl fp, PG (blkX X scope s H C cl fp) tg g) ∧ (∀ s H C cl fp, PTs (blkX X scope s H C cl fp) ifs tt) ∧ (∀ s H C cl fp, PE (blkX X scope s H C cl fp) elt te) ∧ RL X.K (tLc wi g tt te (own.map (·.2))) ρ ds ρ'
section
variable {X : Cx} {Z : Fx} {ρ ρ1 ρ2 : List Sl} {κ : KD} {elt tg iter : Expr} {ifs : List Expr} {scope : Scope} {own : List (Str × Nat)} {ds : List Dt} {pos : Pos}
theorem comp_ok {p : Dt → Bool} {f : Dt → Dt} (hi : VI X ρ tg iter ds ρ1) (hz : ds.length ≤ 1000000)
    (ht : ∀ (j : Nat) (d : Dt), ds[j]? = some d → ∃ ρb, (∀ s H C cl fp, VG (blkX X scope s H C cl fp) tg (own.map (·.2)) d (wipeS ρ1 (own.map (·.2))) ρb) ∧ (∀ s H C cl fp, VTs (blkX X scope s H C cl fp) ρb ifs (p d) ρb) ∧ (p d = true → ∀ s H C cl fp, VE (blkX X scope s H C cl fp) ρb elt (f d) ρb)) :
    CompOk X ρ elt tg iter ifs scope own ((ds.filter p).map f) ρ1 := by
  obtain ⟨wi, pi, qi⟩ := hi
  generalize hvs : own.map (·.2) = vs at ht
  refine ⟨wi, fun v σ H Q => ∀ s H0 C cl fp, ∃ t, PG (blkX X scope s H0 C cl fp) tg t ∧ t v σ H Q, fun σ H Q => ∀ s H0 C cl fp, ∃ t, PTs (blkX X scope s H0 C cl fp) ifs t ∧ t σ H Q, fun σ H Q => ∀ s H0 C cl fp, ∃ t, PE (blkX X scope s H0 C cl fp) elt t ∧ t σ H Q, pi,
    fun s H C cl fp => ⟨fun pins s' σ H' v u Q I r h => let ⟨t, pt, q⟩ := h s H C cl fp; pt.run pins s' σ H' v u Q I r q⟩, fun s H C cl fp => ⟨fun pins s' σ H' Q I h => let ⟨t, pt, q⟩ := h s H C cl fp; pt.run pins s' σ H' Q I q⟩,
    fun s H C cl fp => ⟨fun pins s' σ H' Q I h => let ⟨t, pt, q⟩ := h s H C cl fp; pt.run pins s' σ H' Q I q⟩, fun σ H g Q k r q => ?_⟩
  rw [hvs]
  refine qi σ H g _ k r fun J H1 g1 k1 e1 r1 y D hD => ?_
  obtain ⟨hs1, hm1⟩ := k1.free hD
  refine ⟨fun i m H' => m = ds.length - i ∧ i ≤ ds.length ∧ ∃ g', GOk X.K g' H' ∧ Same g1.S g'.S ∧ (∀ p es, p ≠ D → g1.M p = some es → g'.M p = some es) ∧ g'.M D = some (((ds.take i).filter p).map f),
    ⟨ds.length, by simp, Nat.zero_le _, g1.hold D [], hold_ok (k1.upd hD) upd_same hs1 .nil, Same.refl _, fun q es n h => by show (if q = D then _ else _) = _; rw [if_neg n]; exact h, if_pos rfl⟩, ?_⟩
  rintro i m H' ⟨rfl, hi, g', k', st, mu, hmD⟩
  obtain ⟨y1, y2⟩ := y g' H' k' st
  by_cases hlt : i < ds.length
  · obtain ⟨d, hd'⟩ : ∃ d, ds[i]? = some d := ⟨ds[i], List.getElem?_eq_getElem hlt⟩
    obtain ⟨go, yl⟩ := y1 i d hd'
    have htake : ds.take (i + 1) = ds.take i ++ [d] := by
      have z := List.take_succ (l := ds) (i := i)
      rw [hd'] at z
      exact z
    refine .inr ⟨go, fun H2 => ∃ g2, GOk X.K g2 H2 ∧ Same g1.S g2.S ∧ (∀ p es, p ≠ D → g1.M p = some es → g2.M p = some es) ∧ g2.M D = some (((ds.take (i + 1)).filter p).map f), fun H2 z => ⟨ds.length - (i + 1), by omega, rfl, hlt, z⟩, fun x H3 hy => ?_⟩
    obtain ⟨g3, k3, gr3, rv3⟩ := yl x H3 hy
    obtain ⟨ρb, hg, hT, hE⟩ := ht i d hd'
    have g13 : Gro g1 g3 := ⟨st.trans gr3.st, fun p es h => gr3.mu p es (mu p es (fun z => by rw [z, hm1] at h; cases h) h)⟩
    have r3 : Rep X.K g3 (wipe σ vs) (wipeS ρ1 vs) := wipe_rep (r1.gro g13) vs
    have hm3 : g3.M D = some (((ds.take i).filter p).map f) := gr3.mu D _ hmD
    intro s0 H0 C0 cl0 fp0
    obtain ⟨t, pt, qt⟩ := hg s0 H0 C0 cl0 fp0
    refine ⟨t, pt, qt x _ H3 g3 _ k3 r3 rv3 fun σ4 a1 a2 a3 a4 => ⟨wipe_eq (a2.trans (wipe_length σ vs)) a3, fun s5 H5 C5 cl5 fp5 => ?_⟩⟩
    obtain ⟨u, pu, qu⟩ := hT s5 H5 C5 cl5 fp5
    refine ⟨u, pu, qu σ4 H3 g3 _ k3 a1 fun H6 g6 k6 e6 r6 => ?_⟩
    have gr6 := a1.gro_of r6 e6
    cases hb : p d with
    | false =>
      refine iteF ⟨g6, k6, g13.st.trans gr6.st, fun q es n h => gr6.mu q es (g13.mu q es h), ?_⟩
      rw [htake, List.filter_append, List.map_append, List.filter_cons_of_neg (by rw [hb]; exact Bool.false_ne_true), List.filter_nil, List.map_nil, List.append_nil]
      exact gr6.mu D _ hm3
    | true =>
      refine iteT fun s7 H7 C7 cl7 fp7 => ?_
      obtain ⟨w, pw, qw⟩ := hE hb s7 H7 C7 cl7 fp7
      refine ⟨w, pw, qw σ4 H6 g6 _ k6 r6 fun v H8 g8 k8 e8 r8 rv8 => ?_⟩
      have gr8 := r6.gro_of r8 e8
      have hm8 := gr8.mu D _ (gr6.mu D _ hm3)
      obtain ⟨n1, xs, n2, n3⟩ := k8.2 D _ hm8
      refine ⟨xs, n2, ?_, ⟨g8.S, fun q => if q = D then some (((ds.take (i + 1)).filter p).map f) else g8.M q⟩, ⟨fun b u e => ?_, fun q es e => ?_⟩, (g13.st.trans gr6.st).trans gr8.st, fun q es n h => ?_, if_pos rfl⟩
      · rw [n3.len, List.length_map]
        refine Nat.lt_of_le_of_lt (List.length_filter_le _ _) (Nat.lt_of_le_of_lt (by rw [List.length_take]; exact Nat.min_le_right _ _) (Nat.lt_of_le_of_lt hz (by decide)))
      · have nb : b ≠ D := fun z => by
          have e' : g8.S b = some u := e
          rw [z, n1] at e'
          cases e'
        rw [upd_ne nb]
        exact k8.1 b u e
      · have e' : (if q = D then some (((ds.take (i + 1)).filter p).map f) else g8.M q) = some es := e
        by_cases hq : q = D
        · subst hq
          rw [if_pos rfl] at e'
          cases e'
          refine ⟨n1, _, upd_same, ?_⟩
          rw [htake, List.filter_append, List.map_append, List.filter_cons_of_pos hb, List.filter_nil]
          exact n3.app (.cons rv8 .nil)
        · rw [if_neg hq] at e'
          obtain ⟨h1, ys, h2, h3⟩ := k8.2 q es e'
          exact ⟨h1, ys, by rw [upd_ne hq]; exact h2, h3⟩
      · show (if q = D then _ else _) = _
        rw [if_neg n]
        exact gr8.mu q es (gr6.mu q es (g13.mu q es h))
  · have e : i = ds.length := by omega
    subst e
    rw [List.take_length] at hmD
    obtain ⟨n1, xs, n2, n3⟩ := k'.2 D _ hmD
    have gr : Gro g1 ⟨g'.S, fun q => if q = D then none else g'.M q⟩ := ⟨st, fun q es h => by
      have n : q ≠ D := fun z => by rw [z, hm1] at h; cases h
      show (if q = D then none else g'.M q) = some es
      rw [if_neg n]
      exact mu q es n h⟩
    refine .inl ⟨y2, q D xs H' ⟨g'.S, fun q => if q = D then none else g'.M q⟩ ⟨k'.1, fun q es e => ?_⟩ (e1.trans (gr.ext _ _)) (r1.gro gr) n2 n1 (if_pos rfl) n3⟩
    have e' : (if q = D then none else g'.M q) = some es := e
    by_cases hq : q = D
    · rw [if_pos hq] at e'; cases e'
    · rw [if_neg hq] at e'
      exact k'.2 q es e'
theorem vl_comp (h : CompOk X ρ elt tg iter ifs scope own ds ρ1) (hc : X.calm = true) (hN : X.N.Nodup) (ok : BlkOk X.N X.env.scope scope own) (hf : ∀ x, foldedSetIterable iter X.env x = pure x := by intro _; rfl) :
    VL X ρ (.ListComp elt [⟨tg, iter, ifs, 0⟩] scope pos) ds ρ1 := by
  obtain ⟨wi, g, tt, te, h1, h2, h3, h4, h5⟩ := h.ok
  exact ⟨_, pe_lc hc hN h1 ok h2 h3 h4 hf, h5⟩
/-- y = [..] -/
theorem ws_setLc (i : Nat) {y : Str} {py spos : Pos} (h : CompOk X ρ elt tg iter ifs scope own ds ρ1) (k : κ.nx (ρ1.set i (.d (.lst ds)))) (hc : X.calm = true) (hN : X.N.Nodup) (ok : BlkOk X.N X.env.scope scope own) (hy : X.N[i]? = some y := by rfl) (hyl : X.env.scope.names.lookup y = some .local := by rfl)
    (hsw : swapsWith (.ListComp elt [⟨tg, iter, ifs, 0⟩] scope pos) (some (.Name y py)) spos.line X.env = pure true := by exact sw_true rfl rfl rfl (by decide +kernel)) (hf : ∀ x, foldedSetIterable iter X.env x = pure x := by intro _; rfl) : WS X Z ρ (.Assign [.Name y py] (.ListComp elt [⟨tg, iter, ifs, 0⟩] scope pos) spos) κ := by
  obtain ⟨wi, g, tt, te, h1, h2, h3, h4, h5⟩ := h.ok
  refine ⟨_, ps_setLc hc hN hy hyl hsw h1 ok h2 h3 h4 hf, fun σ H g D kk r f kd => h5 σ H g _ kk r fun pa xs H1 g1 k1 e1 r1 hp hs hm rv => ?_⟩
  have gr := stand_gro (g := g1) (p := pa) (o := .lst xs) hs
  exact kd.nx _ H1 _ _ (stand_ok k1 hp hs hm) ((r1.gro gr).setD i (Rp.lst (SqX.of upd_same) (rv.mono gr.st))) ((f.ext (e1.trans (gr.ext _ _))).slots fun p h => own_setS rfl h) (e1.st.trans gr.st) k
end
end DL
namespace DL
open PySem PySem.Spec PyProof.Rows L2

section
variable {X : Cx} {ρ ρ1 ρ2 ρ3 : List Sl} {e e2 : Expr} {es : List Expr} {d z : Dt} {ds : List Dt} {pos p : Pos} {id T : String} {x : Str} {r : List V → Hp → VK → Prop}
/-! ### built-ins by name -/
theorem ve_callB (hc : CallR X (.builtin id) r) (hr : RC X.K r ds z) (hm : X.mg x = none) (hv : bootBuiltins x = some (.builtin id)) (ha : VA X ρ (e :: es) ds ρ1) (hg : Gl X x := by rfl) (hn : x ≠ "__name__" := by decide) (hdb : (x == ("__debug__" : Str)) = false := by decide)
    (he : starEach (e :: es) X.env = (false, eval e X.env) :: starEach es X.env := by rfl) (hpl : (backTo pos (starEach es X.env)).any (·.1) = false := by rfl) : VE X ρ (.Call (.Name x p) (e :: es) [] pos) z ρ1 := by
  obtain ⟨t, pa, qa⟩ := ha
  exact ⟨_, pe_callB hc hg hm hv pa hn hdb he hpl, fun σ H g Q k rp q => qa σ H g _ k rp fun vs H1 g1 k1 e1 r1 rv => hr vs H1 g1 _ k1 rv fun w H2 g2 k2 gr rw' => q w H2 g2 k2 (e1.trans (gr.ext _ _)) (r1.gro gr) rw'⟩
theorem ve_callT (hc : CallR X (.type T) r) (hr : RC X.K r ds z) (hm : X.mg x = none) (hv : bootBuiltins x = some (.type T)) (ha : VA X ρ (e :: es) ds ρ1) (hg : Gl X x := by rfl) (hn : x ≠ "__name__" := by decide) (hdb : (x == ("__debug__" : Str)) = false := by decide)
    (he : starEach (e :: es) X.env = (false, eval e X.env) :: starEach es X.env := by rfl) (hpl : (backTo pos (starEach es X.env)).any (·.1) = false := by rfl) : VE X ρ (.Call (.Name x p) (e :: es) [] pos) z ρ1 := by
  obtain ⟨t, pa, qa⟩ := ha
  exact ⟨_, pe_callTy hc hg hm hv pa hn hdb he hpl, fun σ H g Q k rp q => qa σ H g _ k rp fun vs H1 g1 k1 e1 r1 rv => hr vs H1 g1 _ k1 rv fun w H2 g2 k2 gr rw' => q w H2 g2 k2 (e1.trans (gr.ext _ _)) (r1.gro gr) rw'⟩
/-- a list, read at once by a built-in -/
def RCl (K : PySem.W.Frag) (r : List V → Hp → VK → Prop) (ds : List Dt) (z : Dt) : Prop := ∀ a xs H g (Q : VK), GOk K g H → SqX K H a xs → RpAll K g.S xs ds →
  (∀ w H' g', GOk K g' H' → Gro g g' → Rp K g'.S w z → Q w H') → r [V.ref a] H Q
theorem ve_callL (hc : CallR X (.builtin id) r) (hr : RCl X.K r ds z) (hm : X.mg x = none) (hv : bootBuiltins x = some (.builtin id)) (ha : VR X ρ e ds ρ1) (hg : Gl X x := by rfl) (hn : x ≠ "__name__" := by decide) (hdb : (x == ("__debug__" : Str)) = false := by decide)
    (he : starEach (e :: []) X.env = (false, eval e X.env) :: starEach [] X.env := by rfl) (hpl : (backTo pos (starEach [] X.env)).any (·.1) = false := by rfl) : VE X ρ (.Call (.Name x p) [e] [] pos) z ρ1 := by
  obtain ⟨t, pa, qa⟩ := ha
  exact ⟨_, pe_callB hc hg hm hv (pa_cons pa pa_nil he) hn hdb he hpl, fun σ H g Q k rp q => qa σ H g _ k rp fun a xs H1 g1 k1 e1 r1 hs rv => hr a xs H1 g1 _ k1 hs rv fun w H2 g2 k2 gr rw' => q w H2 g2 k2 (e1.trans (gr.ext _ _)) (r1.gro gr) rw'⟩
theorem ve_len (hm : X.mg "len" = none) (ha : VR X ρ e ds ρ1) (hg : Gl X "len" := by rfl) (he : starEach (e :: []) X.env = (false, eval e X.env) :: starEach [] X.env := by rfl) : VE X ρ (.Call (.Name "len" p) [e] [] pos) (.int (ds.length : Int)) ρ1 :=
  ve_callL call_len_seq (fun a xs H g Q k hs rv q => ⟨a, xs, rfl, .inl hs.l, q _ H g k (Gro.refl g) (by rw [rv.len]; exact Rp.int _)⟩) hm PySem.boot_len ha hg (by decide) (by decide) he
theorem ve_lenT (hm : X.mg "len" = none) (ha : VE X ρ e (.tup ds) ρ1) (hg : Gl X "len" := by rfl) (he : starEach (e :: []) X.env = (false, eval e X.env) :: starEach [] X.env := by rfl) : VE X ρ (.Call (.Name "len" p) [e] [] pos) (.int (ds.length : Int)) ρ1 :=
  ve_callB call_len_seq (fun vs H g Q k rv q => by
    cases rv with
    | cons r1 r2 =>
      cases r2
      cases r1 with
      | tup h1 h2 => exact ⟨_, _, rfl, .inr (sqt_mono k.1 h1), q _ H g k (Gro.refl g) (by rw [h2.len]; exact Rp.int _)⟩) hm PySem.boot_len (va_cons ha va_nil he) hg (by decide) (by decide) he
theorem ve_sum {ns : List Int} (hc : X.calm = true) (hm : X.mg "sum" = none) (ha : VR X ρ e (ns.map Dt.int) ρ1) (hg : Gl X "sum" := by rfl) (he : starEach (e :: []) X.env = (false, eval e X.env) :: starEach [] X.env := by rfl) : VE X ρ (.Call (.Name "sum" p) [e] [] pos) (.int ns.sum) ρ1 :=
  ve_callL (cr_sum hc) (fun a xs H g Q k hs rv q => ⟨a, ns, rfl, by rw [← rv.ints]; exact hs.l, q _ H g k (Gro.refl g) (Rp.int _)⟩) hm (by decide +kernel) ha hg (by decide) (by decide) he
/-- the greatest, the least of some ints -/
def lmax : List Int → Int
  | [] => 0
  | [a] => a
  | a :: b :: r => max a (lmax (b :: r))
def lmin : List Int → Int
  | [] => 0
  | [a] => a
  | a :: b :: r => min a (lmin (b :: r))
theorem lmax_mem : ∀ {ns : List Int}, ns ≠ [] → lmax ns ∈ ns ∧ ∀ y ∈ ns, y ≤ lmax ns
  | [], h => absurd rfl h
  | [a], _ => ⟨by simp [lmax], fun y h => by simp at h; simp [lmax, h]⟩
  | a :: b :: r, _ => by
    have ih := lmax_mem (ns := b :: r) (by simp)
    have e : lmax (a :: b :: r) = max a (lmax (b :: r)) := rfl
    rw [e]
    refine ⟨?_, fun y h => ?_⟩
    · by_cases q : a ≤ lmax (b :: r)
      · rw [Int.max_eq_right q]; exact List.mem_cons_of_mem _ ih.1
      · rw [Int.max_eq_left (by omega)]; exact List.mem_cons_self
    · rcases List.mem_cons.mp h with z | z
      · subst z; omega
      · have := ih.2 y z; omega
theorem lmin_mem : ∀ {ns : List Int}, ns ≠ [] → lmin ns ∈ ns ∧ ∀ y ∈ ns, lmin ns ≤ y
  | [], h => absurd rfl h
  | [a], _ => ⟨by simp [lmin], fun y h => by simp at h; simp [lmin, h]⟩
  | a :: b :: r, _ => by
    have ih := lmin_mem (ns := b :: r) (by simp)
    have e : lmin (a :: b :: r) = min a (lmin (b :: r)) := rfl
    rw [e]
    refine ⟨?_, fun y h => ?_⟩
    · by_cases q : a ≤ lmin (b :: r)
      · rw [Int.min_eq_left q]; exact List.mem_cons_self
      · rw [Int.min_eq_right (by omega)]; exact List.mem_cons_of_mem _ ih.1
    · rcases List.mem_cons.mp h with z | z
      · subst z; omega
      · have := ih.2 y z; omega
theorem lmax_eq {ns : List Int} {m : Int} (h1 : m ∈ ns) (h2 : ∀ y ∈ ns, y ≤ m) : m = lmax ns := by
  have hn : ns ≠ [] := fun z => by rw [z] at h1; cases h1
  obtain ⟨a, b⟩ := lmax_mem hn
  have := h2 _ a
  have := b _ h1
  omega
theorem lmin_eq {ns : List Int} {m : Int} (h1 : m ∈ ns) (h2 : ∀ y ∈ ns, m ≤ y) : m = lmin ns := by
  have hn : ns ≠ [] := fun z => by rw [z] at h1; cases h1
  obtain ⟨a, b⟩ := lmin_mem hn
  have := h2 _ a
  have := b _ h1
  omega
theorem ve_maxL {ns : List Int} (hc : X.calm = true) (hm : X.mg "max" = none) (ha : VR X ρ e (ns.map Dt.int) ρ1) (hz : ns ≠ []) (hg : Gl X "max" := by rfl) (he : starEach (e :: []) X.env = (false, eval e X.env) :: starEach [] X.env := by rfl) : VE X ρ (.Call (.Name "max" p) [e] [] pos) (.int (lmax ns)) ρ1 :=
  ve_callL (cr_max hc) (fun a xs H g Q k hs rv q => ⟨a, ns, rfl, by rw [← rv.ints]; exact hs.l, List.length_pos_iff.mpr hz, fun m h1 h2 => by rw [lmax_eq h1 h2]; exact q _ H g k (Gro.refl g) (Rp.int _)⟩) hm (by decide +kernel) ha hg (by decide) (by decide) he
theorem ve_minL {ns : List Int} (hc : X.calm = true) (hm : X.mg "min" = none) (ha : VR X ρ e (ns.map Dt.int) ρ1) (hz : ns ≠ []) (hg : Gl X "min" := by rfl) (he : starEach (e :: []) X.env = (false, eval e X.env) :: starEach [] X.env := by rfl) : VE X ρ (.Call (.Name "min" p) [e] [] pos) (.int (lmin ns)) ρ1 :=
  ve_callL (cr_min hc) (fun a xs H g Q k hs rv q => ⟨a, ns, rfl, by rw [← rv.ints]; exact hs.l, List.length_pos_iff.mpr hz, fun m h1 h2 => by rw [lmin_eq h1 h2]; exact q _ H g k (Gro.refl g) (Rp.int _)⟩) hm (by decide +kernel) ha hg (by decide) (by decide) he
theorem ve_all {bs : List Bool} (hc : X.calm = true) (hm : X.mg "all" = none) (ha : VR X ρ e (bs.map Dt.bl) ρ1) (hg : Gl X "all" := by rfl) (he : starEach (e :: []) X.env = (false, eval e X.env) :: starEach [] X.env := by rfl) : VE X ρ (.Call (.Name "all" p) [e] [] pos) (.bl (bs.all fun b => b)) ρ1 :=
  ve_callL (cr_all hc) (fun a xs H g Q k hs rv q => ⟨a, bs, rfl, by rw [← rv.bls]; exact hs.l, q _ H g k (Gro.refl g) (Rp.bl _)⟩) hm (by decide +kernel) ha hg (by decide) (by decide) he
theorem ve_any {bs : List Bool} (hc : X.calm = true) (hm : X.mg "any" = none) (ha : VR X ρ e (bs.map Dt.bl) ρ1) (hg : Gl X "any" := by rfl) (he : starEach (e :: []) X.env = (false, eval e X.env) :: starEach [] X.env := by rfl) : VE X ρ (.Call (.Name "any" p) [e] [] pos) (.bl (bs.any fun b => b)) ρ1 :=
  ve_callL (cr_any hc) (fun a xs H g Q k hs rv q => ⟨a, bs, rfl, by rw [← rv.bls]; exact hs.l, q _ H g k (Gro.refl g) (Rp.bl _)⟩) hm (by decide +kernel) ha hg (by decide) (by decide) he
theorem ve_max2 {i j : Int} (hc : X.calm = true) (hm : X.mg "max" = none) (ha : VA X ρ [e, e2] [.int i, .int j] ρ1) (hg : Gl X "max" := by rfl) (he : starEach [e, e2] X.env = (false, eval e X.env) :: starEach [e2] X.env := by rfl) (hpl : (backTo pos (starEach [e2] X.env)).any (·.1) = false := by rfl) : VE X ρ (.Call (.Name "max" p) [e, e2] [] pos) (.int (max i j)) ρ1 :=
  ve_callB (call_max2 hc) (fun vs H g Q k rv q => by
    cases rv with
    | cons r1 r2 =>
      cases r1
      cases r2 with
      | cons r2 r3 =>
        cases r2
        cases r3
        refine ⟨i, j, rfl, ?_⟩
        have z : (if j > i then j else i) = max i j := by split <;> omega
        rw [z]
        exact q _ H g k (Gro.refl g) (Rp.int _)) hm (by decide +kernel) ha hg (by decide) (by decide) he hpl
theorem ve_min2 {i j : Int} (hc : X.calm = true) (hm : X.mg "min" = none) (ha : VA X ρ [e, e2] [.int i, .int j] ρ1) (hg : Gl X "min" := by rfl) (he : starEach [e, e2] X.env = (false, eval e X.env) :: starEach [e2] X.env := by rfl) (hpl : (backTo pos (starEach [e2] X.env)).any (·.1) = false := by rfl) : VE X ρ (.Call (.Name "min" p) [e, e2] [] pos) (.int (min i j)) ρ1 :=
  ve_callB (call_min2 hc) (fun vs H g Q k rv q => by
    cases rv with
    | cons r1 r2 =>
      cases r1
      cases r2 with
      | cons r2 r3 =>
        cases r2
        cases r3
        refine ⟨i, j, rfl, ?_⟩
        have z : (if j < i then j else i) = min i j := by split <;> omega
        rw [z]
        exact q _ H g k (Gro.refl g) (Rp.int _)) hm (by decide +kernel) ha hg (by decide) (by decide) he hpl
theorem ve_abs {i : Int} (hm : X.mg "abs" = none) (ha : VE X ρ e (.int i) ρ1) (hg : Gl X "abs" := by rfl) (he : starEach [e] X.env = (false, eval e X.env) :: starEach [] X.env := by rfl) : VE X ρ (.Call (.Name "abs" p) [e] [] pos) (.int (i.natAbs : Int)) ρ1 :=
  ve_callB call_abs (fun vs H g Q k rv q => by
    cases rv with
    | cons r1 r2 =>
      cases r1
      cases r2
      refine ⟨i, rfl, ?_⟩
      have z : (if i < 0 then -i else i) = (i.natAbs : Int) := by split <;> omega
      rw [z]
      exact q _ H g k (Gro.refl g) (Rp.int _)) hm (by decide +kernel) (va_cons ha va_nil he) hg (by decide) (by decide) he
theorem ve_intI {i : Int} (hm : X.mg "int" = none) (ha : VE X ρ e (.int i) ρ1) (hg : Gl X "int" := by rfl) (he : starEach [e] X.env = (false, eval e X.env) :: starEach [] X.env := by rfl) : VE X ρ (.Call (.Name "int" p) [e] [] pos) (.int i) ρ1 :=
  ve_callT call_int1 (fun vs H g Q k rv q => by
    cases rv with
    | cons r1 r2 =>
      cases r1
      cases r2
      exact .inl ⟨i, rfl, q _ H g k (Gro.refl g) (Rp.int _)⟩) hm (by decide +kernel) (va_cons ha va_nil he) hg (by decide) (by decide) he
def b2n (b : Bool) : Int := if b then 1 else 0
theorem ve_intB {b : Bool} (hm : X.mg "int" = none) (ha : VE X ρ e (.bl b) ρ1) (hg : Gl X "int" := by rfl) (he : starEach [e] X.env = (false, eval e X.env) :: starEach [] X.env := by rfl) : VE X ρ (.Call (.Name "int" p) [e] [] pos) (.int (b2n b)) ρ1 :=
  ve_callT call_int1 (fun vs H g Q k rv q => by
    cases rv with
    | cons r1 r2 =>
      cases r1
      cases r2
      exact .inr ⟨b, rfl, q _ H g k (Gro.refl g) (Rp.int _)⟩) hm (by decide +kernel) (va_cons ha va_nil he) hg (by decide) (by decide) he
/-- list(xs) of a list -/
theorem vl_list (hm : X.mg "list" = none) (ha : VR X ρ e ds ρ1) (hg : Gl X "list" := by rfl) (he : starEach (e :: []) X.env = (false, eval e X.env) :: starEach [] X.env := by rfl) : VL X ρ (.Call (.Name "list" p) [e] [] pos) ds ρ1 := by
  obtain ⟨t, pa, qa⟩ := ha
  refine ⟨_, pe_callTy call_list_of hg hm (by decide +kernel) (pa_cons pa pa_nil he) (by decide) (by decide) he rfl, fun σ H g Q k rp q => qa σ H g _ k rp fun a xs H1 g1 k1 e1 r1 hs rv => ⟨a, xs, rfl, .inl hs.l, fun l hl => ?_⟩⟩
  obtain ⟨f1, f2⟩ := k1.free hl
  exact q l xs _ g1 (k1.upd hl) e1 r1 upd_same f1 f2 rv
theorem vl_listT (hm : X.mg "list" = none) (ha : VE X ρ e (.tup ds) ρ1) (hg : Gl X "list" := by rfl) (he : starEach (e :: []) X.env = (false, eval e X.env) :: starEach [] X.env := by rfl) : VL X ρ (.Call (.Name "list" p) [e] [] pos) ds ρ1 := by
  obtain ⟨t, pa, qa⟩ := ha
  refine ⟨_, pe_callTy call_list_of hg hm (by decide +kernel) (pa_cons pa pa_nil he) (by decide) (by decide) he rfl, fun σ H g Q k rp q => qa σ H g _ k rp fun v H1 g1 k1 e1 r1 rv => ?_⟩
  cases rv with
  | tup h1 h2 =>
    refine ⟨_, _, rfl, .inr (sqt_mono k1.1 h1), fun l hl => ?_⟩
    obtain ⟨f1, f2⟩ := k1.free hl
    exact q l _ _ g1 (k1.upd hl) e1 r1 upd_same f1 f2 h2
theorem rgV_rng (a b : Int) : rgV a b = (rng a (b - a).toNat).map V.int := by
  unfold rgV rng
  rw [List.map_map]
  rfl
/-- list(range(n)), list(range(a, b)) -/
theorem vl_range1 {n : Int} {pr pos' : Pos} (hc : X.calm = true) (hm : X.mg "list" = none) (hm2 : X.mg "range" = none) (ha : VE X ρ e (.int n) ρ1) (hb : -(2 ^ 24) ≤ n ∧ n ≤ 2 ^ 24) (hg : Gl X "list" := by rfl) (hg2 : Gl X "range" := by rfl) (na : starEach [e] X.env = (false, eval e X.env) :: starEach [] X.env := by rfl)
    (na2 : starEach [.Call (.Name "range" pr) [e] [] pos'] X.env = (false, eval (.Call (.Name "range" pr) [e] [] pos') X.env) :: starEach [] X.env := by rfl) : VL X ρ (.Call (.Name "list" p) [.Call (.Name "range" pr) [e] [] pos'] [] pos) ((rng 0 n.toNat).map Dt.int) ρ1 := by
  obtain ⟨t, pa, qa⟩ := ha
  refine ⟨_, pe_listRg hc hg hm (prg_1 hg2 hm2 pa na) na2, fun σ H g Q k rp q => qa σ H g _ k rp fun v H1 g1 k1 e1 r1 rv => ?_⟩
  cases rv
  refine ⟨n, rfl, ⟨by omega, by omega, by omega, by omega, by omega⟩, fun l hl => ?_⟩
  obtain ⟨f1, f2⟩ := k1.free hl
  refine q l _ _ g1 (k1.upd hl) e1 r1 upd_same f1 f2 ?_
  rw [rgV_rng, Int.sub_zero]
  exact RpAll.of_ints _
theorem vl_range2 {m n : Int} {pr pos' : Pos} (hc : X.calm = true) (hm : X.mg "list" = none) (hm2 : X.mg "range" = none) (ha : VE X ρ e (.int m) ρ1) (hb : VE X ρ1 e2 (.int n) ρ2) (hbd : RgOk m n) (hg : Gl X "list" := by rfl) (hg2 : Gl X "range" := by rfl) (na : starEach [e, e2] X.env = (false, eval e X.env) :: starEach [e2] X.env := by rfl) (nb : starEach [e2] X.env = (false, eval e2 X.env) :: starEach [] X.env := by rfl)
    (hp : (backTo pos' (starEach [e2] X.env)).any (·.1) = false := by rfl) (na2 : starEach [.Call (.Name "range" pr) [e, e2] [] pos'] X.env = (false, eval (.Call (.Name "range" pr) [e, e2] [] pos') X.env) :: starEach [] X.env := by rfl) : VL X ρ (.Call (.Name "list" p) [.Call (.Name "range" pr) [e, e2] [] pos'] [] pos) ((rng m (n - m).toNat).map Dt.int) ρ2 := by
  obtain ⟨t, pa, qa⟩ := ha
  obtain ⟨t2, pb, qb⟩ := hb
  refine ⟨_, pe_listRg hc hg hm (prg_2 hg2 hm2 pa pb na nb hp) na2, fun σ H g Q k rp q => qa σ H g _ k rp fun v H1 g1 k1 e1 r1 rv => qb σ H1 g1 _ k1 r1 fun u H2 g2 k2 e2 r2 ru => ?_⟩
  cases rv
  cases ru
  refine ⟨m, n, rfl, rfl, hbd, fun l hl => ?_⟩
  obtain ⟨f1, f2⟩ := k2.free hl
  refine q l _ _ g2 (k2.upd hl) (e1.trans e2) r2 upd_same f1 f2 ?_
  rw [rgV_rng]
  exact RpAll.of_ints _

/-! ### lists: slices, +, * -/
def VO (X : Cx) (ρ : List Sl) (e : Option Expr) (v : Option Int) : Prop := ∃ t, PO X e t ∧ ∀ (σ : L2.St) (H : Hp) (g : G) (Q : Option Int → Hp → Prop), GOk X.K g H → Rep X.K g σ ρ → (∀ H' g', GOk X.K g' H' → Gro g g' → Q v H') → t σ H Q
theorem vo_none : VO X ρ none none := ⟨_, po_none, fun σ H g Q k r q => q H g k (Gro.refl g)⟩
theorem vo_some {i : Int} (h : VE X ρ e (.int i) ρ) : VO X ρ (some e) (some i) := by
  obtain ⟨t, p, q⟩ := h
  exact ⟨_, po_some p, fun σ H g Q k r z => q σ H g _ k r fun v H1 g1 k1 e1 r1 rv => by cases rv; exact ⟨i, rfl, z H1 g1 k1 (r.gro_of r1 e1)⟩⟩
def cutD (ds : List Dt) (lo hi : Option Int) : List Dt := (ds.drop (HT.sIx ds.length 0 lo)).take (HT.sIx ds.length ds.length hi - HT.sIx ds.length 0 lo)
theorem cut_rp {K : PySem.W.Frag} {S : Hp} {xs : List V} {lo hi : Option Int} (r : RpAll K S xs ds) : RpAll K S (cutV xs lo hi) (cutD ds lo hi) := by
  unfold cutV cutD
  rw [r.len]
  exact (r.drop _).take _
theorem vl_slice {lo hi : Option Expr} {a b : Option Int} {p2 : Pos} (h : VE X ρ e (.lst ds) ρ1) (h1 : VO X ρ1 lo a) (h2 : VO X ρ1 hi b) : VL X ρ (.Subscript e (.Slice lo hi none p2) pos) (cutD ds a b) ρ1 := by
  obtain ⟨t, p, q⟩ := h
  obtain ⟨t1, p1, q1⟩ := h1
  obtain ⟨t2, p2', q2⟩ := h2
  refine ⟨_, pe_slice sl_list p p1 p2', fun σ H g Q k r z => q σ H g _ k r fun v H1 g1 k1 e1 r1 rv => q1 σ H1 g1 _ k1 r1 fun H2 g2 k2 gr2 => q2 σ H2 g2 _ k2 (r1.gro gr2) fun H3 g3 k3 gr3 => ?_⟩
  cases rv with
  | lst i1 i2 =>
    have st := gr2.st.trans gr3.st
    refine ⟨_, _, rfl, (sqx_mono k3.1 (sqx_mono st i1)).l, fun l hl => ?_⟩
    obtain ⟨f1, f2⟩ := k3.free hl
    exact z l _ _ g3 (k3.upd hl) (e1.trans ((gr2.trans gr3).ext _ _)) (r1.gro (gr2.trans gr3)) upd_same f1 f2 (cut_rp (i2.mono st))
/-- xs + ys, any lists that stand -/
def rCatX (K : PySem.W.Frag) : R2 := fun x y H Q => ∃ l b xs zs, x = V.ref l ∧ y = V.ref b ∧ SqX K H l xs ∧ SqX K H b zs ∧ xs.length + zs.length ≤ sizeLine ∧ ∀ p, H p = none → Q (V.ref p) (upd H p (.lst (xs ++ zs)))
theorem op_catX : OpR X (binaryOp .Add) (rCatX X.K) := by
  intro pins s σ H x y v u Q I rx ry h
  obtain ⟨l, b, xs, zs, rfl, rfl, hl, hb, hz, q⟩ := h
  cases rx
  cases ry
  obtain ⟨its, n, r1, z1, o1⟩ := SqX.obj I hl
  obtain ⟨its', n', r2, z2, o2⟩ := SqX.obj I hb
  have c1 := r1.length
  have c2 := r2.length
  have en : (its.toArray ++ its'.toArray) = (its ++ its').toArray := by simp
  refine PySem.P.add_list o1 o2 ?_ (by rw [List.size_toArray, List.size_toArray, ← c1, ← c2]; exact hz)
  rw [en]
  exact ⟨V.ref _, _, I.lnew (t' := s.toks) (Vals.append r1 r2) (by rw [List.length_append]; exact hz), rfl, q _ I.fresh⟩
theorem vl_cat {es' : List Dt} (ha : VE X ρ e (.lst ds) ρ1) (hb : VE X ρ1 e2 (.lst es') ρ2) (hz : ds.length + es'.length ≤ 1000000) : VL X ρ (.BinOp e .Add e2 pos) (ds ++ es') ρ2 := by
  obtain ⟨t, p, q⟩ := ha
  obtain ⟨t2, p2, q2⟩ := hb
  refine ⟨_, pe_op op_catX p p2, fun σ H g Q k r z => q σ H g _ k r fun v H1 g1 k1 e1 r1 rv => q2 σ H1 g1 _ k1 r1 fun u H2 g2 k2 e2 r2 ru => ?_⟩
  cases rv with
  | lst i1 i2 =>
    cases ru with
    | lst j1 j2 =>
      refine ⟨_, _, _, _, rfl, rfl, sqx_mono k2.1 (sqx_mono e2.st i1), sqx_mono k2.1 j1, by rw [i2.len, j2.len]; exact le_line hz, fun l hl => ?_⟩
      obtain ⟨f1, f2⟩ := k2.free hl
      exact z l _ _ g2 (k2.upd hl) (e1.trans e2) r2 upd_same f1 f2 ((i2.mono e2.st).app j2)
theorem vl_rep {i : Int} (ha : VL X ρ e ds ρ1) (hb : VE X ρ1 e2 (.int i) ρ1) (hz : -(2 ^ 63) ≤ i ∧ i < 2 ^ 63 ∧ ds.length * i.toNat ≤ 1000000) : VL X ρ (.BinOp e .Mult e2 pos) (List.replicate i.toNat ds).flatten ρ1 := by
  obtain ⟨t, p, q⟩ := ha
  obtain ⟨t2, p2, q2⟩ := hb
  refine ⟨_, pe_op op_rep p p2, fun σ H g Q k r z => q σ H g _ k r fun a xs H1 g1 k1 e1 r1 hp hs hm rv => ?_⟩
  have gr := hold_gro (g := g1) (p := a) (ds := ds) hm
  refine q2 σ H1 (g1.hold a ds) _ (hold_ok k1 hp hs rv) (r1.gro gr) fun u H2 g2 k2 e2 r2 ru => ?_
  cases ru
  have gr2 := (r1.gro gr).gro_of r2 e2
  obtain ⟨n1, ys, n2, n3⟩ := k2.2 a ds (gr2.mu a ds (if_pos rfl))
  refine ⟨a, i, ys, rfl, rfl, n2, hz.1, hz.2.1, by rw [n3.len]; exact le_line hz.2.2, fun l hl => ?_⟩
  obtain ⟨f1, f2⟩ := k2.free hl
  exact z l _ _ g2 (k2.upd hl) (e1.trans ((gr.trans gr2).ext _ _)) r2 upd_same f1 f2 (n3.rep _)
theorem flat_rep1 {α : Type} (a : α) : ∀ n : Nat, (List.replicate n [a]).flatten = List.replicate n a
  | 0 => rfl
  | n + 1 => by rw [List.replicate_succ, List.flatten_cons, flat_rep1 a n]; rfl

/-! ### repr -/
def rRepr (K : PySem.W.Frag) : List V → Hp → VK → Prop := fun xs H Q => ∃ a d, xs = [V.ref a] ∧ Dp K H (V.ref a) d ∧ d.showable = true ∧ d.depth ≤ 100 ∧ d.shown.length ≤ sizeLine ∧ Q (.str d.shown) H
mutual
theorem Dp.noDict {K : PySem.W.Frag} {H : Hp} : ∀ {v : V} {d : PyData}, Dp K H v d → d.hasDict = false
  | _, _, .non => by simp [PyData.hasDict]
  | _, _, .bl _ => by simp [PyData.hasDict]
  | _, _, .int _ => by simp [PyData.hasDict]
  | _, _, .str _ => by simp [PyData.hasDict]
  | _, _, .lst _ h => by simp [PyData.hasDict, DpAll.noDict h]
  | _, _, .tup _ h => by simp [PyData.hasDict, DpAll.noDict h]
theorem DpAll.noDict {K : PySem.W.Frag} {H : Hp} : ∀ {v : List V} {d : List PyData}, DpAll K H v d → PyData.hasDictAll d = false
  | _, _, .nil => by simp [PyData.hasDictAll]
  | _, _, .cons h t => by simp [PyData.hasDictAll, Dp.noDict h, DpAll.noDict t]
end
theorem cr_repr {k : Nat} (hgd : X.A.guards = some []) (hr : Room k X.A) : CallR X (.builtin "repr") (rRepr X.K) := by
  intro pins s σ H xs us Q I r h
  obtain ⟨a, d, rfl, hd, h1, h2, h3, q⟩ := h
  obtain ⟨u, rfl, ru⟩ := vals1 r
  cases ru
  obtain ⟨as, rd⟩ := Dp.reads I d (V.ref a) (Value.ref a) hd rfl
  refine repr_of_reads' rd h1 (fun h' => by rw [Dp.noDict hd] at h'; cases h') hgd (by have := hr.un; omega) (fun b o e => e) (fun h' t tk kp => ?_) h3
  exact ⟨.str d.shown, H, I.kept kp, ⟨t, rfl⟩, q⟩
def Dt.text (d : Dt) : Str := d.py.shown
def Dt.fits (d : Dt) : Bool := d.plain && d.py.showable && decide (d.py.depth ≤ 100) && decide (d.py.shown.length ≤ sizeLine)
theorem ve_repr {k : Nat} (hgd : X.A.guards = some []) (hr : Room k X.A) (hm : X.mg "repr" = none) (ha : VE X ρ e d ρ1) (hk : (∃ ds, d = .lst ds) ∨ ∃ ds, d = .tup ds) (hf : d.fits = true) (hg : Gl X "repr" := by rfl) (he : starEach [e] X.env = (false, eval e X.env) :: starEach [] X.env := by rfl) :
    VE X ρ (.Call (.Name "repr" p) [e] [] pos) (.str d.text) ρ1 :=
  ve_callB (cr_repr hgd hr) (fun vs H g Q kk rv q => by
    cases rv with
    | cons r1 r2 =>
      cases r2
      simp only [Dt.fits, Bool.and_eq_true, decide_eq_true_eq] at hf
      obtain ⟨⟨⟨f1, f2⟩, f3⟩, f4⟩ := hf
      have dp := dp_mono kk.1 _ _ (Rp.dp d _ f1 r1)
      rcases hk with ⟨ds, rfl⟩ | ⟨ds, rfl⟩
      · cases r1 with
        | lst h1 h2 => exact ⟨_, _, rfl, dp, f2, f3, f4, q _ H g kk (Gro.refl g) (Rp.str _)⟩
      · cases r1 with
        | tup h1 h2 => exact ⟨_, _, rfl, dp, f2, f3, f4, q _ H g kk (Gro.refl g) (Rp.str _)⟩) hm (by decide +kernel) (va_cons ha va_nil he) hg (by decide) (by decide) he

/-! ### == of data -/
theorem ve_eqD {k : Nat} {d' : Dt} {e2 : Expr} (hr : Room k X.A) (ha : VE X ρ e d ρ1) (hb : VE X ρ1 e2 d' ρ2) (h1 : d.plain = true) (h2 : d'.plain = true) (h3 : SeqAt.shaped d.py = true) (h4 : SeqAt.shaped d'.py = true) : VE X ρ (.Compare e [.Eq] [e2] pos) (.bl (PyData.eqv d.py d'.py)) ρ2 :=
  ve_cmp (op_eqD hr.units) (fun v u H g Q kk rv ru q => ⟨_, _, dp_mono kk.1 _ _ (Rp.dp d _ h1 rv), dp_mono kk.1 _ _ (Rp.dp d' _ h2 ru), h3, h4, q _ H g kk (Gro.refl g) (Rp.bl _)⟩) (nomark _) ha hb
theorem ve_neD {k : Nat} {d' : Dt} {e2 : Expr} (hr : Room k X.A) (ha : VE X ρ e d ρ1) (hb : VE X ρ1 e2 d' ρ2) (h1 : d.plain = true) (h2 : d'.plain = true) (h3 : SeqAt.shaped d.py = true) (h4 : SeqAt.shaped d'.py = true) : VE X ρ (.Compare e [.NotEq] [e2] pos) (.bl (!PyData.eqv d.py d'.py)) ρ2 :=
  ve_cmp (op_neD hr.units) (fun v u H g Q kk rv ru q => ⟨_, _, dp_mono kk.1 _ _ (Rp.dp d _ h1 rv), dp_mono kk.1 _ _ (Rp.dp d' _ h2 ru), h3, h4, q _ H g kk (Gro.refl g) (Rp.bl _)⟩) (nomark _) ha hb
/-- a test by == of data, and by != -/
theorem vt_eqD {k : Nat} {d' : Dt} {e2 : Expr} (hr : Room k X.A) (ha : VE X ρ e d ρ1) (hb : VE X ρ1 e2 d' ρ2) (h1 : d.plain = true) (h2 : d'.plain = true) (h3 : SeqAt.shaped d.py = true) (h4 : SeqAt.shaped d'.py = true) : VT X ρ (.Compare e [.Eq] [e2] pos) (PyData.eqv d.py d'.py) ρ2 :=
  vt_cmp (op_eqD hr.units) (fun v u H g Q kk rv ru q => ⟨_, _, dp_mono kk.1 _ _ (Rp.dp d _ h1 rv), dp_mono kk.1 _ _ (Rp.dp d' _ h2 ru), h3, h4, q _ H g kk (Gro.refl g) (Rp.bl _)⟩) (nomark _) ha hb
theorem vt_neD {k : Nat} {d' : Dt} {e2 : Expr} (hr : Room k X.A) (ha : VE X ρ e d ρ1) (hb : VE X ρ1 e2 d' ρ2) (h1 : d.plain = true) (h2 : d'.plain = true) (h3 : SeqAt.shaped d.py = true) (h4 : SeqAt.shaped d'.py = true) : VT X ρ (.Compare e [.NotEq] [e2] pos) (!PyData.eqv d.py d'.py) ρ2 :=
  vt_cmp (op_neD hr.units) (fun v u H g Q kk rv ru q => ⟨_, _, dp_mono kk.1 _ _ (Rp.dp d _ h1 rv), dp_mono kk.1 _ _ (Rp.dp d' _ h2 ru), h3, h4, q _ H g kk (Gro.refl g) (Rp.bl _)⟩) (nomark _) ha hb
end

section
variable {X : Cx} {Z : Fx} {ρ ρ1 ρ2 : List Sl} {κ : KD} {e io : Expr} {d : Dt} {ds : List Dt} {pos : Pos}
/-- xs[i] = e, xs a list that may be changed -/
theorem ws_item (i : Nat) {x : Str} {px ps : Pos} {s : Sl} {j : Int} {jn : Nat} (h : VE X ρ e d ρ1) (hi : VE X ρ1 io (.int j) ρ1) (hs1 : ρ1[i]? = some s := by rfl) (hc : s.cont = some ds := by rfl) (hj : ixN ds.length j = some jn) (k : κ.nx (ρ1.set i (s.put (ds.set jn d)))) (hN : X.N[i]? = some x := by rfl)
    (hv : Vis X.env.scope x := by first | exact Or.inl rfl | exact Or.inr (Or.inl rfl) | exact Or.inr (Or.inr rfl)) (hd1 : (x == ("__debug__" : Str)) = false := by decide) (hcd : (x == ("__classdict__" : Str)) = false := by decide)
    (ha : ∀ v, assign (.Subscript (.Name x px) io ps) X.env v = (do
      let ov ← holding [v] (eval (.Name x px) X.env)
      let iv ← holding [v, ov] (eval io X.env)
      standAt ps
      holding [v, ov, iv] (setItem ov iv v)
      release [v, ov, iv] []) := by intro _; rfl)
    (hs : swapsWithSole [.Subscript (.Name x px) io ps] e pos.line X.env = pure false := by rfl) (hw : swappedStores [.Subscript (.Name x px) io ps] e X.env = pure none := by rfl)
    (h1 : (assignEach [.Subscript (.Name x px) io ps] X.env).map (·.2) = [assign (.Subscript (.Name x px) io ps) X.env] := by rfl) : WS X Z ρ (.Assign [.Subscript (.Name x px) io ps] e pos) κ := by
  obtain ⟨t, p, q⟩ := h
  obtain ⟨t2, p2, q2⟩ := hi
  refine ⟨_, ps_asg p (pg_sub (pe_var hN hv hd1 hcd) p2 set_list ha) hs hw h1, fun σ H g D kk r f kd => q σ H g _ kk r fun v H1 g1 k1 e1 r1 rv => ?_⟩
  obtain ⟨pp, s', f1, f2, f3, f4⟩ := r1.cont (i := i) (ds := ds) (by rw [hs1]; exact hc)
  rw [hs1] at f1
  cases f1
  refine ⟨_, f3, q2 σ H1 g1 _ k1 r1 fun u H2 g2 k2 e2 r2 ru => ?_⟩
  cases ru
  have gr := r1.gro_of r2 e2
  have f5 := gr.mu pp ds f4
  obtain ⟨n1, xs, n2, n3⟩ := k2.2 _ _ f5
  refine ⟨_, xs, j, jn, rfl, rfl, n2, by rw [n3.len]; exact hj, ?_⟩
  let g3 : G := ⟨g2.S, fun q => if q = pp then some (ds.set jn d) else g2.M q⟩
  obtain ⟨r3, ex3⟩ := r2.put (g' := g3) (ls := ds.set jn d) hs1 f2 f3 (Same.refl _) (fun q es n e => by show (if q = pp then _ else _) = _; rw [if_neg n]; exact e) (if_pos rfl)
  refine kd.nx σ _ g3 _ ⟨fun b u e => ?_, fun q es e => ?_⟩ r3 (((f.ext e1).ext e2).ext ex3) ((e1.st.trans e2.st).trans ex3.st) k
  · have nb : b ≠ pp := fun z => by
      have e' : g2.S b = some u := e
      rw [z, n1] at e'
      cases e'
    rw [upd_ne nb]
    exact k2.1 b u e
  · have e' : (if q = pp then some (ds.set jn d) else g2.M q) = some es := e
    by_cases hq : q = pp
    · subst hq
      rw [if_pos rfl] at e'
      cases e'
      exact ⟨n1, _, upd_same, n3.set (rv.mono e2.st) jn⟩
    · rw [if_neg hq] at e'
      obtain ⟨h1, ys, h2, h3⟩ := k2.2 q es e'
      exact ⟨h1, ys, by rw [upd_ne hq]; exact h2, h3⟩
end
end DL
namespace DL
open PySem PySem.Spec PyProof.Rows L2

/-! ### a def by its body -/
section
variable {P : Program} {w : World} {K : PySem.W.Frag} {mg : Str → Option Value} {base : Heap}
/-- over readings -/
theorem fnG_of {k : Nat} {f : Addr} {x qual : Str} {st : Stmt} {fd : FuncData} {N ps : List Str} {sp : Sp} (F : Fun K x qual st f fd) (S : FnScope N ps (defScope st)) (len : ∀ vs H Q E, sp vs H Q E → vs.length = ps.length)
    (hbody : ∀ (cdv : Value) (A : Around) (outer : List Env) (s : Shared) (H : Hp) (vs : List V) (Q : VK) (E : XK), (A.deeper (envOfC qual (defScope st) s.heap.objs.size f cdv)).guards = some [] → Room k (A.deeper (envOfC qual (defScope st) s.heap.objs.size f cdv)) → sp vs H Q E →
      ∃ t, PSs (cxOf (L2.CX P w) P w K mg base N qual (defScope st) f cdv A outer s H E) (defBody st) t ∧ t { nx := fun _ H' => Q V.non H', rt := Q } (start N vs) H) : FnG P w K mg base (k + 1) f fd ps sp := by
  obtain ⟨oc, od, kV, doc, pm, an, cdv, ct, osl, rfl, lk, hcd⟩ := F.ex
  refine ⟨len, fun A outer s H args us vs Q E hgd hr e0 hb rv hsp => ?_⟩
  have inK : K.In s.heap := e0.mod.kin.keeps fun b o e => (e0.bs b o e).1
  have lim : s.heap.NoLimit := e0.mod.nolimit.keeps fun b o e => (e0.bs b o e).1
  have places : ∀ y ∈ ps.zip us, (defScope st).names.lookup y.1 = some .local ∨ ((defScope st).names.lookup y.1 = some .cell ∧ ((cellsFrom (s.heap.objs.size + 1) (defScope st).names []).lookup y.1).isSome = true) := by
    rintro ⟨n, v⟩ hy
    rcases S.par n (List.of_mem_zip hy).1 with q | q
    · exact Or.inl q
    · exact Or.inr ⟨q, PySem.W.cellsFrom_some _ _ _ (Or.inl q)⟩
  refine codeAny_call_function hr.depth (inK _ _ lk) rfl S.co S.gen rfl (PySem.W.codeRec_of inK hcd) (hb _ _ _ _ (wpAny_newFunctionEnv_cells S.kind places fun env he s1 xc => ?_))
  subst he
  refine ⟨lim.keeps xc.toInCall.keep, codeAny_func ?_⟩
  obtain ⟨t, ht, hq⟩ := hbody cdv A outer s H vs Q E hgd (hr.deeper _) hsp
  have I := inv_start (CX := L2.CX P w) (E := E) S hr.hd e0 (len _ _ _ _ hsp) rv xc
  refine wpAny_mono (ht.run [] s1 (start N vs) H _ I hq) (fun fl s' hs => ?_) fun _ _ z => z
  cases fl with
  | ret u =>
    obtain ⟨v, σ', H', J, r', q⟩ := hs
    exact ⟨v, H', J.os, J.bare, J.base, J.hok, r', q⟩
  | next =>
    obtain ⟨σ', H', J, q⟩ := hs
    exact ⟨V.non, H', J.os, J.bare, J.base, J.hok, rfl, q⟩
  | brk =>
    obtain ⟨_, _, _, z⟩ := hs
    cases z
  | cont =>
    obtain ⟨_, _, _, z⟩ := hs
    cases z
def startS (N : List Str) (ds : List Dt) : List Sl := ds.map Sl.d ++ List.replicate (N.length - ds.length) Sl.no
theorem start_rep {g : G} {N : List Str} {vs : List V} {ds : List Dt} (h : RpAll K g.S vs ds) (hl : vs.length ≤ N.length) : Rep K g (start N vs) (startS N ds) := by
  have e := h.len
  refine ⟨by unfold L2.start startS; simp [e], fun i s hi => ?_, fun i j s t p n h1 h2 w1 w2 => ?_⟩
  · unfold startS at hi
    unfold L2.start
    by_cases il : i < ds.length
    · rw [List.getElem?_append_left (by simpa using il), List.getElem?_map] at hi
      rw [List.getElem?_append_left (by simpa [e] using il), List.getElem?_map]
      obtain ⟨d, hd⟩ : ∃ d, ds[i]? = some d := ⟨ds[i], List.getElem?_eq_getElem il⟩
      rw [hd] at hi
      cases hi
      obtain ⟨v, v1, v2⟩ := h.at hd
      rw [v1]
      exact ⟨some v, rfl, v, rfl, v2⟩
    · rw [List.getElem?_append_right (by simpa using il), List.getElem?_replicate] at hi
      rw [List.getElem?_append_right (by simpa [e] using il), List.getElem?_replicate]
      split at hi
      · cases hi
        rename_i q
        rw [List.length_map] at q ⊢
        rw [if_pos (by rw [e]; exact q)]
        exact ⟨none, rfl, trivial⟩
      · cases hi
  · have no : s.bare = true := by
      unfold startS at h1
      by_cases il : i < ds.length
      · rw [List.getElem?_append_left (by simpa using il), List.getElem?_map] at h1
        cases q : ds[i]? with
        | none => rw [q] at h1; cases h1
        | some d => rw [q] at h1; cases h1; rfl
      · rw [List.getElem?_append_right (by simpa using il), List.getElem?_replicate] at h1
        split at h1
        · cases h1; rfl
        · cases h1
    exact adr_bare no w1
theorem startS_own {g : G} {N : List Str} {vs : List V} {ds : List Dt} (p : Addr) : ¬ OwnAt (start N vs) (startS N ds) p := by
  rintro ⟨i, s, h1, w1⟩
  have no : s.bare = true := by
    unfold startS at h1
    by_cases il : i < ds.length
    · rw [List.getElem?_append_left (by simpa using il), List.getElem?_map] at h1
      cases q : ds[i]? with
      | none => rw [q] at h1; cases h1
      | some d => rw [q] at h1; cases h1; rfl
    · rw [List.getElem?_append_right (by simpa using il), List.getElem?_replicate] at h1
      split at h1
      · cases h1; rfl
      · cases h1
  exact adr_bare no w1
/-- a def that changes no argument -/
theorem okD {k n : Nat} {f : Addr} {x qual : Str} {st : Stmt} {fd : FuncData} {N ps : List Str} {R : List Dt → Res → Prop} (F : Fun K x qual st f fd) (S : FnScope N ps (defScope st)) (hn : ps.length = n) (hN : ps.length ≤ N.length)
    (hret : ∀ ds r, R ds r → ∃ d, r = .ret d)
    (hbody : ∀ (cdv : Value) (A : Around) (outer : List Env) (s : Shared) (H : Hp) (E : XK) (g0 : G) (ds : List Dt) (d : Dt), (cxOf (L2.CX P w) P w K mg base N qual (defScope st) f cdv A outer s H E).A.guards = some [] → Room k (cxOf (L2.CX P w) P w K mg base N qual (defScope st) f cdv A outer s H E).A → R ds (.ret d) → ds.length = n →
      WSs (cxOf (L2.CX P w) P w K mg base N qual (defScope st) f cdv A outer s H E) ⟨[], g0, E⟩ (startS N ds) (defBody st) { nx := fun _ => d = .non, rt := fun d' _ => d' = d }) : FnG P w K mg base (k + 1) f fd ps (spD K n R) := by
  refine fnG_of F S (fun vs H Q E h => (spD_len vs H Q E h).trans hn.symm) fun cdv A outer s H vs Q E hgd hr h => ?_
  obtain ⟨g, ds, r, hl, ok, rv, hR, hq⟩ := h
  obtain ⟨d, rfl⟩ := hret ds r hR
  obtain ⟨t, p, q⟩ := hbody cdv A outer s H E g ds d hgd hr hR hl
  have rep : Rep K g (start N vs) (startS N ds) := start_rep rv (by rw [rv.len, hl, ← hn]; exact hN)
  refine ⟨t, p, q (start N vs) H g _ ok rep ⟨Same.refl _, fun _ _ _ z => z, fun p z => absurd z (startS_own (g := g) p)⟩ ⟨fun σ H' g' ρ k' r' f' s' z => ?_, fun v σ H' g' ρ d' k' r' f' s' rd z => ?_, fun _ _ _ _ _ _ _ _ z => z.elim, fun _ _ _ _ _ _ _ _ z => z.elim, fun _ _ _ _ _ _ _ _ _ _ _ _ _ _ _ z => z.elim⟩⟩
  · have z' : d = .non := z
    subst z'
    exact hq V.non H' g' k' ⟨f'.st, fun p es => f'.mu p es (by simp)⟩ Rp.non
  · have z' : d' = d := z
    subst z'
    exact hq v H' g' k' ⟨f'.st, fun p es => f'.mu p es (by simp)⟩ rd
/-- a def that hands back a new list, the caller's own -/
def spL (K : PySem.W.Frag) (n : Nat) (R : List Dt → List Dt → Prop) : Sp := fun vs H Q _ => ∃ g ds ls, ds.length = n ∧ GOk K g H ∧ RpAll K g.S vs ds ∧ R ds ls ∧
  ∀ p xs H' g', GOk K g' H' → Gro g g' → H' p = some (.lst xs) → g'.S p = none → g'.M p = none → RpAll K g'.S xs ls → Q (V.ref p) H'
theorem okL {k n : Nat} {f : Addr} {x qual : Str} {st : Stmt} {fd : FuncData} {N ps : List Str} {R : List Dt → List Dt → Prop} (F : Fun K x qual st f fd) (S : FnScope N ps (defScope st)) (hn : ps.length = n) (hN : ps.length ≤ N.length)
    (hbody : ∀ (cdv : Value) (A : Around) (outer : List Env) (s : Shared) (H : Hp) (E : XK) (g0 : G) (ds ls : List Dt), (cxOf (L2.CX P w) P w K mg base N qual (defScope st) f cdv A outer s H E).A.guards = some [] → Room k (cxOf (L2.CX P w) P w K mg base N qual (defScope st) f cdv A outer s H E).A → R ds ls → ds.length = n →
      WSs (cxOf (L2.CX P w) P w K mg base N qual (defScope st) f cdv A outer s H E) ⟨[], g0, E⟩ (startS N ds) (defBody st) { nx := fun _ => False, rt := fun _ _ => False, rl := fun ls' _ => ls' = ls }) : FnG P w K mg base (k + 1) f fd ps (spL K n R) := by
  refine fnG_of F S (fun vs H Q E h => ?_) fun cdv A outer s H vs Q E hgd hr h => ?_
  · obtain ⟨g, ds, ls, hl, _, rv, _⟩ := h
    rw [rv.len, hl, hn]
  obtain ⟨g, ds, ls, hl, ok, rv, hR, hq⟩ := h
  obtain ⟨t, p, q⟩ := hbody cdv A outer s H E g ds ls hgd hr hR hl
  have rep : Rep K g (L2.start N vs) (startS N ds) := start_rep rv (by rw [rv.len, hl, ← hn]; exact hN)
  refine ⟨t, p, q (L2.start N vs) H g _ ok rep ⟨Same.refl _, fun _ _ _ z => z, fun p z => absurd z (startS_own (g := g) p)⟩ ⟨fun _ _ _ _ _ _ _ _ z => z.elim, fun _ _ _ _ _ _ _ _ _ _ _ z => z.elim, fun _ _ _ _ _ _ _ _ z => z.elim, fun _ _ _ _ _ _ _ _ z => z.elim, fun pa xs σ H' g' ρ ds' k' r' f' s' hp hs hm rd z => ?_⟩⟩
  have z' : ds' = ls := z
  subst z'
  exact hq pa xs H' g' k' ⟨f'.st, fun p es => f'.mu p es (by simp)⟩ hp hs hm rd
/-- a def that changes its first argument, a list; it comes back with a value -/
theorem okI {k n : Nat} {f : Addr} {x qual : Str} {st : Stmt} {fd : FuncData} {N ps : List Str} {R : List Dt → List Dt → Dt → List Dt → Prop} (F : Fun K x qual st f fd) (S : FnScope N ps (defScope st)) (hn : ps.length = n + 1) (hN : ps.length ≤ N.length)
    (hbody : ∀ (cdv : Value) (A : Around) (outer : List Env) (s : Shared) (H : Hp) (E : XK) (g0 : G) (p : Addr) (ls ds : List Dt) (d : Dt) (ls' : List Dt), (cxOf (L2.CX P w) P w K mg base N qual (defScope st) f cdv A outer s H E).A.guards = some [] → Room k (cxOf (L2.CX P w) P w K mg base N qual (defScope st) f cdv A outer s H E).A → R ls ds d ls' → ds.length = n →
      WSs (cxOf (L2.CX P w) P w K mg base N qual (defScope st) f cdv A outer s H E) ⟨[p], g0, E⟩ (.i p ls :: startS (N.drop 1) ds) (defBody st) { nx := fun _ => False, rt := fun d' ρ' => d' = d ∧ ρ'[0]? = some (.i p ls') }) : FnG P w K mg base (k + 1) f fd ps (spI K n R) := by
  refine fnG_of F S (fun vs H Q E h => (spI_len vs H Q E h).trans hn.symm) fun cdv A outer s H vs Q E hgd hr h => ?_
  obtain ⟨g, p, ls, us, ds, d, ls', rfl, hl, ok, hM, rv, hR, hq⟩ := h
  obtain ⟨t, pt, q⟩ := hbody cdv A outer s H E g p ls ds d ls' hgd hr hR hl
  have e := rv.len
  have hus : us.length ≤ (N.drop 1).length := by rw [e, hl, List.length_drop]; omega
  have r0 : Rep K g (start (N.drop 1) us) (startS (N.drop 1) ds) := start_rep rv hus
  have es : start N (V.ref p :: us) = some (V.ref p) :: start (N.drop 1) us := by
    unfold L2.start
    rw [List.map_cons, List.cons_append, List.length_cons, List.length_drop, Nat.sub_sub, Nat.add_comm 1]
  have noT : ∀ (i : Nat) (s : Sl), (startS (N.drop 1) ds)[i]? = some s → s.bare = true := fun i s h1 => by
    unfold startS at h1
    by_cases il : i < ds.length
    · rw [List.getElem?_append_left (by simpa using il), List.getElem?_map] at h1
      cases q : ds[i]? with
      | none => rw [q] at h1; cases h1
      | some d => rw [q] at h1; cases h1; rfl
    · rw [List.getElem?_append_right (by simpa using il), List.getElem?_replicate] at h1
      split at h1
      · cases h1; rfl
      · cases h1
  have rep : Rep K g (start N (V.ref p :: us)) (.i p ls :: startS (N.drop 1) ds) := by
    rw [es]
    refine ⟨by rw [List.length_cons, List.length_cons, r0.len], fun i s hi => ?_, fun i j s t q n h1 h2 w1 w2 => ?_⟩
    · cases i with
      | zero => cases hi; exact ⟨_, rfl, rfl, hM⟩
      | succ i => exact r0.sl i s hi
    · cases i with
      | zero =>
        cases j with
        | zero => exact n rfl
        | succ j =>
          have z := noT j t h2
          exact (adr_bare z w2).elim
      | succ i =>
        have z := noT i s h1
        exact (adr_bare z w1).elim
  refine ⟨t, pt, q _ H g _ ok rep ⟨Same.refl _, fun _ _ _ z => z, fun q' ⟨i, s, a1, a2⟩ => ?_⟩ ⟨fun _ _ _ _ _ _ _ _ z => z.elim, fun v σ H' g' ρ d' k' r' f' s' rd z => ?_, fun _ _ _ _ _ _ _ _ z => z.elim, fun _ _ _ _ _ _ _ _ z => z.elim, fun _ _ _ _ _ _ _ _ _ _ _ _ _ _ _ z => z.elim⟩⟩
  · cases i with
    | zero =>
      cases a1
      have a3 : (L2.start N (V.ref p :: us))[0]? = some (some (V.ref q')) := a2
      rw [es] at a3
      cases a3
      exact .inl (by simp)
    | succ i =>
      have z := noT i s a1
      exact (adr_bare z a2).elim
  · obtain ⟨z1, z2⟩ := z
    subst z1
    obtain ⟨y1, y2⟩ := r'.getI z2
    exact hq v H' g' k' f'.st (fun q es n => f'.mu q es (by simpa using n)) y2 rd
end

/-! ### the law -/
theorem sqx_script {K : PySem.W.Frag} {h : Heap} {a : Addr} {vs : List Value} {ns : List Int} (X : K.In h) (ha : h.get? a = some { cls := .type "list", data := .seq vs.toArray }) (hi : IntsAre vs ns) (hl : ns.length ≤ sizeLine) {o : Obj} (hk : K.lookup a = some o) :
    K.lookup a = some { cls := .type "list", data := .seq vs.toArray } := by
  have e := X a o hk
  rw [ha] at e
  rw [hk, e]
/-- the law's def keeps its promise: so the law holds. As the layer's own end, for defs that run where nothing is being shown -/
theorem law_g {P : Program} {w : World} {K : PySem.W.Frag} {mg mb : Str → Option Value} {k : Nat} {fa a : Addr} {fd : FuncData} {x : Str} {R : List Dt → Res → Prop} {s₁ : Shared} {vs : List Value} {ns : List Int}
    (inK : K.In s₁.heap) (hns : s₁.heap.Ns mainGlobals mg) (hb : s₁.heap.Ns builtinsNs mb) (hbb : ∀ y : Str, y ≠ "__name__" → mb y = bootBuiltins y) (hlim : s₁.heap.NoLimit) (hg : s₁.gens = #[])
    (ha : s₁.heap.get? a = some { cls := .type "list", data := .seq vs.toArray }) (hi : IntsAre vs ns) (hl : ns.length ≤ sizeLine) (hr : Room k callerA)
    (F : ∀ base : Heap, K.In base → base.Ns mainGlobals mg → FnG P w K mg base k fa fd [x] (spD K 1 R)) (hbind : ∀ (s : Shared) (u : Value), BindsTo s fd ⟨[u], []⟩ [(x, u)]) (hR : R [.lst (ns.map Dt.int)] (.ret (.bl true))) :
    codeAny (model P w) callerA (.call (.ref fa) ⟨[.ref a], []⟩) (fun r s' => r = .ok (.ret (.bool true)) ∧ OldK s₁.heap s'.heap ∧ s'.os = s₁.os ∧ AllBare s'.gens) s₁ := by
  let lo : HO := .frz { cls := .type "list", data := .seq vs.toArray } (.lst (ns.map V.int))
  -- what is tracked: the script, where it is no object of the module
  obtain ⟨H, hH⟩ : ∃ H : Hp, H = fun b => if b = a ∧ K.lookup a = none then some lo else none := ⟨_, rfl⟩
  have at_ : ∀ b o, H b = some o → b = a ∧ K.lookup a = none ∧ o = lo := fun b o e => by
    rw [hH] at e
    by_cases q : b = a ∧ K.lookup a = none
    · have e' := (if_pos q).symm.trans e
      cases e'
      exact ⟨q.1, q.2, rfl⟩
    · have e' := (if_neg q).symm.trans e
      cases e'
  have rv := vals_ints hi
  have ok : HOk P w H s₁.heap := fun b o e => by
    obtain ⟨rfl, _, rfl⟩ := at_ b o e
    exact ⟨ha, by rw [List.length_map]; exact hl, vs, 0, rv, ha⟩
  have stays : ∀ {b : Addr} {o : Obj}, s₁.heap.get? b = some o → H b = none → (hidT s₁.heap H).get? b = some o := fun e n => hidT_get e n
  have noD : ∀ {b : Addr} {o : Obj} {es : Array DictEntry} {ep : Nat}, s₁.heap.get? b = some o → o.data = .dict es ep → H b = none := fun {b o es ep} e d => by
    cases q : H b with
    | none => rfl
    | some u =>
      obtain ⟨rfl, _, _⟩ := at_ b u q
      rw [ha] at e
      cases e
      cases d
  have space : ∀ {b : Addr} {m : Str → Option Value}, s₁.heap.Ns b m → (hidT s₁.heap H).Ns b m := fun {b m} z => by
    obtain ⟨o, es, ep, e, d, r⟩ := z
    exact ⟨o, es, ep, stays e (noD e d), d, r⟩
  have inB : K.In (hidT s₁.heap H) := fun b o e => stays (inK b o e) (by
    cases q : H b with
    | none => rfl
    | some u =>
      obtain ⟨rfl, z, _⟩ := at_ b u q
      rw [z] at e
      cases e)
  have hM : Mod K mg (hidT s₁.heap H) := ⟨inB, space hns, ⟨mb, space hb, hbb⟩, by obtain ⟨mc, h1, h2⟩ := hlim; exact ⟨mc, space h1, h2⟩⟩
  have e0 : Env0 P w K mg (hidT s₁.heap H) callerA [] s₁ H := ⟨rfl, hM, fun b o e => of_hidT e, Nat.le_of_eq (hidT_size _ _), trivial, fun b z => absurd (show b ∈ ([] : List Addr) from z) (by simp), ok, .of_eq hg⟩
  have sq : SqX K H a (ns.map V.int) := by
    cases hk : K.lookup a with
    | some o => exact .inr ⟨vs.toArray, 0, sqx_script inK ha hi hl hk, by rw [List.size_toArray, hi.length]; exact hl, by simpa using rv⟩
    | none => exact .inl (.inr ⟨_, by rw [hH]; exact if_pos ⟨rfl, hk⟩⟩)
  have sp : spD K 1 R [V.ref a] H (fun v _ => v = V.bl true) fun _ _ _ => False := ⟨⟨H, fun _ => none⟩, [.lst (ns.map Dt.int)], .ret (.bl true), rfl, ⟨fun _ _ e => e, fun _ _ e => by cases e⟩, .cons (.lst sq (RpAll.of_ints ns)) .nil, hR, fun v H' g' k' gr rd => by cases rd; rfl⟩
  refine codeAny_mono ((F _ inB (space hns)).go callerA [] s₁ H ⟨[.ref a], []⟩ [.ref a] [V.ref a] _ _ rfl hr e0 (hbind s₁ (.ref a)) (.cons rfl .nil) sp) fun r s' h => ?_
  cases r with
  | error e =>
    have h' : L2.CX P w [] H s₁ (fun _ _ _ => False) e s' := h
    obtain ⟨_, _, _, _, _, _, _, _, _, _, _, _, z⟩ := h'
    cases z
  | ok fl =>
    cases fl with
    | next => cases h
    | brk => cases h
    | cont => cases h
    | ret u =>
      obtain ⟨v, H', os, bare, un, hok', r', q⟩ := h
      obtain rfl : v = V.bl true := q
      obtain rfl : u = Value.bool true := r'
      refine ⟨rfl, OldK.of_keep fun b o e => ?_, os, bare⟩
      cases q : H b with
      | none => exact un.keep b o e q (fun z => absurd (show b ∈ ([] : List Addr) from z) (by simp)) (by simp)
      | some u =>
        obtain ⟨_, _, rfl⟩ := at_ b u q
        obtain ⟨e1, _⟩ := ok b _ q
        obtain ⟨e2, _⟩ := hok' b _ (un.frzs b _ _ q)
        rw [e] at e1
        cases e1
        exact e2
theorem walk_g {l : PySem.W.OpenLaw} {n k : Nat} {q : Program} {loose : List Str} {XP : (Str → Option Value) → Heap → Prop} {YP : World → Heap → Prop} {d : DefRec} {K : Params → PySem.W.Frag} {x : Str} {R : List Dt → Res → Prop}
    (hn : l.most = some n) (hn2 : n ≤ sizeLine) (hdf : d.params.defaults = []) (hr : Room k callerA) (hY : ∀ (w : World) (h : Heap), YP w h → (K w.params).In h)
    (F : ∀ (w : World) (mg : Str → Option Value) (fa : Addr) (h : Heap), (K w.params).In h → h.Ns mainGlobals mg → mg d.name = some (.ref fa) →
      ∃ fd : FuncData, (∀ (s : Shared) (u : Value), BindsTo s fd ⟨[u], []⟩ [(x, u)]) ∧ ∀ base : Heap, (K w.params).In base → base.Ns mainGlobals mg → FnG l.prog w (K w.params) mg base k fa fd [x] (spD (K w.params) 1 R))
    (hR : ∀ ns : List Int, ns.length ≤ n → R [.lst (ns.map Dt.int)] (.ret (.bl true))) : PySem.W.WalkO q loose XP YP l.row.toRowW d [] (fun f vs => PySem.call f vs) := by
  refine Att.attach_call hn hdf fun w s₀ s₁ mg mb fa o pm cd doc a vs ns G Y ho hd hcd hmg hobj hints hlen hg => ?_
  have inK := hY w _ Y
  obtain ⟨fd, hb, hF⟩ := F w mg fa _ inK G.T.g hmg
  exact law_g inK G.T.g G.T.b G.T.builtins G.T.nolimit hg hobj hints (Nat.le_trans hlen hn2) hr hF hb (hR ns hlen)
end DL
namespace DL
open PySem PySem.Spec PyProof.Rows L2

/-! ### isinstance -/
def Dt.ty : Dt → String
  | .non => "NoneType"
  | .bl _ => "bool"
  | .int _ => "int"
  | .str _ => "str"
  | .lst _ => "list"
  | .tup _ => "tuple"
  | .opq _ => ""
theorem tyN : Dt.non.ty ≠ "" := (show ("NoneType" : String) ≠ "" by decide)
theorem tyB {b : Bool} : (Dt.bl b).ty ≠ "" := (show ("bool" : String) ≠ "" by decide)
theorem tyI {i : Int} : (Dt.int i).ty ≠ "" := (show ("int" : String) ≠ "" by decide)
theorem tyS {x : Str} : (Dt.str x).ty ≠ "" := (show ("str" : String) ≠ "" by decide)
theorem tyL {ds : List Dt} : (Dt.lst ds).ty ≠ "" := (show ("list" : String) ≠ "" by decide)
theorem tyT {ds : List Dt} : (Dt.tup ds).ty ≠ "" := (show ("tuple" : String) ≠ "" by decide)
theorem tyx_list {K : PySem.W.Frag} {H : Hp} {a : Addr} {xs : List V} (h : SqX K H a xs) : TyX K H (V.ref a) (.type "list") := by
  rcases h with (h | ⟨o, h⟩) | ⟨its, n, h, _⟩
  · exact .base (.lst h)
  · exact .base (.frz h)
  · exact .kList h rfl
theorem tyx_tup {K : PySem.W.Frag} {H : Hp} {a : Addr} {xs : List V} (h : SqT K H a xs) : TyX K H (V.ref a) (.type "tuple") := by
  rcases h with (h | ⟨o, h⟩) | ⟨o, its, n, h, c, _⟩
  · exact .base (.tup h)
  · exact .fTuple h
  · exact .kTuple h c
theorem Rp.tyx {K : PySem.W.Frag} {S H : Hp} {v : V} {d : Dt} (e : Same S H) (h : Rp K S v d) (n : d.ty ≠ "") : TyX K H v (.type d.ty) := by
  cases h with
  | non => exact .base .non
  | bl b => exact .base (.bl b)
  | int i => exact .base (.int i)
  | str x => exact .base (.str x)
  | lst h1 _ => exact tyx_list (sqx_mono e h1)
  | tup h1 _ => exact tyx_tup (sqt_mono e h1)
  | opq a => exact absurd rfl n
section
variable {X : Cx} {ρ ρ1 : List Sl} {e : Expr} {d : Dt} {pos p p2 : Pos} {T : String} {tn : Str} {b : Bool}
theorem ve_isi (hm : X.mg "isinstance" = none) (hm2 : X.mg tn = none) (ha : VE X ρ e d ρ1) (hk : kitB d.ty T = some b) (n : d.ty ≠ "") (ht : bootBuiltins tn = some (.type T)) (hg : Gl X "isinstance" := by rfl) (hg2 : Gl X tn := by rfl) (hn2 : tn ≠ "__name__" := by decide) (hd2 : (tn == ("__debug__" : Str)) = false := by decide)
    (he : starEach [e, .Name tn p2] X.env = (false, eval e X.env) :: starEach [.Name tn p2] X.env := by rfl) (he2 : starEach [.Name tn p2] X.env = (false, eval (.Name tn p2) X.env) :: starEach [] X.env := by rfl) (hpl : (backTo pos (starEach [.Name tn p2] X.env)).any (·.1) = false := by rfl) :
    VE X ρ (.Call (.Name "isinstance" p) [e, .Name tn p2] [] pos) (.bl b) ρ1 := by
  obtain ⟨t, pa, qa⟩ := ha
  refine ⟨_, pe_callB call_isi hg hm (by decide +kernel) (pa_cons pa (pa_cons (pe_bltn (v := V.ty T) hg2 hm2 ht rfl hn2 hd2) pa_nil he2) he) (by decide) (by decide) he hpl, fun σ H g Q k rp q => qa σ H g _ k rp fun v H1 g1 k1 e1 r1 rv => ?_⟩
  exact ⟨v, V.ty T, _, _, b, rfl, .ty T, rv.tyx k1.1 n, kit_ty hk, q _ H1 g1 k1 e1 r1 (Rp.bl b)⟩
end
/-- which of its classes a piece of data is an instance of -/
def Dt.isInt : Dt → Bool
  | .int _ => true
  | .bl _ => true
  | _ => false
def Dt.isBool : Dt → Bool
  | .bl _ => true
  | _ => false
def Dt.isLst : Dt → Bool
  | .lst _ => true
  | _ => false
def Dt.isTup : Dt → Bool
  | .tup _ => true
  | _ => false
def Dt.isStr : Dt → Bool
  | .str _ => true
  | _ => false
theorem kit_isInt (d : Dt) (n : d.ty ≠ "") : kitB d.ty "int" = some d.isInt := by
  cases d with
  | non => exact (show kitB "NoneType" "int" = some false by decide +kernel)
  | bl _ => exact (show kitB "bool" "int" = some true by decide +kernel)
  | int _ => exact (show kitB "int" "int" = some true by decide +kernel)
  | str _ => exact (show kitB "str" "int" = some false by decide +kernel)
  | lst _ => exact (show kitB "list" "int" = some false by decide +kernel)
  | tup _ => exact (show kitB "tuple" "int" = some false by decide +kernel)
  | opq _ => exact absurd rfl n
theorem kit_isBool (d : Dt) (n : d.ty ≠ "") : kitB d.ty "bool" = some d.isBool := by
  cases d with
  | non => exact (show kitB "NoneType" "bool" = some false by decide +kernel)
  | bl _ => exact (show kitB "bool" "bool" = some true by decide +kernel)
  | int _ => exact (show kitB "int" "bool" = some false by decide +kernel)
  | str _ => exact (show kitB "str" "bool" = some false by decide +kernel)
  | lst _ => exact (show kitB "list" "bool" = some false by decide +kernel)
  | tup _ => exact (show kitB "tuple" "bool" = some false by decide +kernel)
  | opq _ => exact absurd rfl n
theorem kit_isLst (d : Dt) (n : d.ty ≠ "") : kitB d.ty "list" = some d.isLst := by
  cases d with
  | non => exact (show kitB "NoneType" "list" = some false by decide +kernel)
  | bl _ => exact (show kitB "bool" "list" = some false by decide +kernel)
  | int _ => exact (show kitB "int" "list" = some false by decide +kernel)
  | str _ => exact (show kitB "str" "list" = some false by decide +kernel)
  | lst _ => exact (show kitB "list" "list" = some true by decide +kernel)
  | tup _ => exact (show kitB "tuple" "list" = some false by decide +kernel)
  | opq _ => exact absurd rfl n
theorem kit_isTup (d : Dt) (n : d.ty ≠ "") : kitB d.ty "tuple" = some d.isTup := by
  cases d with
  | non => exact (show kitB "NoneType" "tuple" = some false by decide +kernel)
  | bl _ => exact (show kitB "bool" "tuple" = some false by decide +kernel)
  | int _ => exact (show kitB "int" "tuple" = some false by decide +kernel)
  | str _ => exact (show kitB "str" "tuple" = some false by decide +kernel)
  | lst _ => exact (show kitB "list" "tuple" = some false by decide +kernel)
  | tup _ => exact (show kitB "tuple" "tuple" = some true by decide +kernel)
  | opq _ => exact absurd rfl n
theorem kit_isStr (d : Dt) (n : d.ty ≠ "") : kitB d.ty "str" = some d.isStr := by
  cases d with
  | non => exact (show kitB "NoneType" "str" = some false by decide +kernel)
  | bl _ => exact (show kitB "bool" "str" = some false by decide +kernel)
  | int _ => exact (show kitB "int" "str" = some false by decide +kernel)
  | str _ => exact (show kitB "str" "str" = some true by decide +kernel)
  | lst _ => exact (show kitB "list" "str" = some false by decide +kernel)
  | tup _ => exact (show kitB "tuple" "str" = some false by decide +kernel)
  | opq _ => exact absurd rfl n
section
variable {X : Cx} {ρ ρ1 : List Sl} {e : Expr} {d : Dt} {pos p p2 : Pos}
theorem ve_isInt (hm : X.mg "isinstance" = none) (hm2 : X.mg "int" = none) (ha : VE X ρ e d ρ1) (n : d.ty ≠ "") (hg : Gl X "isinstance" := by rfl) (hg2 : Gl X "int" := by rfl)
    (he : starEach [e, .Name "int" p2] X.env = (false, eval e X.env) :: starEach [.Name "int" p2] X.env := by rfl) : VE X ρ (.Call (.Name "isinstance" p) [e, .Name "int" p2] [] pos) (.bl d.isInt) ρ1 := ve_isi hm hm2 ha (kit_isInt d n) n (by decide +kernel) hg hg2 (by decide) (by decide) he
theorem ve_isBool (hm : X.mg "isinstance" = none) (hm2 : X.mg "bool" = none) (ha : VE X ρ e d ρ1) (n : d.ty ≠ "") (hg : Gl X "isinstance" := by rfl) (hg2 : Gl X "bool" := by rfl)
    (he : starEach [e, .Name "bool" p2] X.env = (false, eval e X.env) :: starEach [.Name "bool" p2] X.env := by rfl) : VE X ρ (.Call (.Name "isinstance" p) [e, .Name "bool" p2] [] pos) (.bl d.isBool) ρ1 := ve_isi hm hm2 ha (kit_isBool d n) n (by decide +kernel) hg hg2 (by decide) (by decide) he
theorem ve_isLst (hm : X.mg "isinstance" = none) (hm2 : X.mg "list" = none) (ha : VE X ρ e d ρ1) (n : d.ty ≠ "") (hg : Gl X "isinstance" := by rfl) (hg2 : Gl X "list" := by rfl)
    (he : starEach [e, .Name "list" p2] X.env = (false, eval e X.env) :: starEach [.Name "list" p2] X.env := by rfl) : VE X ρ (.Call (.Name "isinstance" p) [e, .Name "list" p2] [] pos) (.bl d.isLst) ρ1 := ve_isi hm hm2 ha (kit_isLst d n) n (by decide +kernel) hg hg2 (by decide) (by decide) he
theorem ve_isTup (hm : X.mg "isinstance" = none) (hm2 : X.mg "tuple" = none) (ha : VE X ρ e d ρ1) (n : d.ty ≠ "") (hg : Gl X "isinstance" := by rfl) (hg2 : Gl X "tuple" := by rfl)
    (he : starEach [e, .Name "tuple" p2] X.env = (false, eval e X.env) :: starEach [.Name "tuple" p2] X.env := by rfl) : VE X ρ (.Call (.Name "isinstance" p) [e, .Name "tuple" p2] [] pos) (.bl d.isTup) ρ1 := ve_isi hm hm2 ha (kit_isTup d n) n (by decide +kernel) hg hg2 (by decide) (by decide) he
theorem ve_isStr (hm : X.mg "isinstance" = none) (hm2 : X.mg "str" = none) (ha : VE X ρ e d ρ1) (n : d.ty ≠ "") (hg : Gl X "isinstance" := by rfl) (hg2 : Gl X "str" := by rfl)
    (he : starEach [e, .Name "str" p2] X.env = (false, eval e X.env) :: starEach [.Name "str" p2] X.env := by rfl) : VE X ρ (.Call (.Name "isinstance" p) [e, .Name "str" p2] [] pos) (.bl d.isStr) ρ1 := ve_isi hm hm2 ha (kit_isStr d n) n (by decide +kernel) hg hg2 (by decide) (by decide) he
end

/-! ### a def where it stands, with all that a call of it asks -/
structure FnAt (P : Program) (w : World) (K : PySem.W.Frag) (mg : Str → Option Value) (base : Heap) (x : Str) (st : Stmt) (k : Nat) (ps : List Str) (sp : Sp) : Prop where
  it : ∃ (f : Addr) (fd : FuncData), mg x = some (.ref f) ∧ Fun K x x st f fd ∧ Binds K fd ps [] ∧ FnG P w K mg base k f fd ps sp
/-- a list's items at some places -/
def perm {α : Type} (π : List Nat) (l : List α) : List α := π.filterMap fun i => l[i]?
theorem perm_vals {vs : List V} {us : List Value} (r : Vals vs us) : ∀ π : List Nat, Vals (perm π vs) (perm π us)
  | [] => .nil
  | i :: π => by
    have ih := perm_vals r π
    unfold perm at ih ⊢
    rw [List.filterMap_cons, List.filterMap_cons]
    cases e : vs[i]? with
    | none =>
      rw [Vals.none_of r e]
      exact ih
    | some x =>
      obtain ⟨u, e2, r2⟩ := Vals.get r e
      rw [e2]
      exact .cons r2 ih
theorem perm_rp {K : PySem.W.Frag} {S : Hp} {vs : List V} {us : List Dt} (r : RpAll K S vs us) : ∀ π : List Nat, RpAll K S (perm π vs) (perm π us)
  | [] => .nil
  | i :: π => by
    have ih := perm_rp r π
    unfold perm at ih ⊢
    rw [List.filterMap_cons, List.filterMap_cons]
    cases e : vs[i]? with
    | none =>
      have z : us[i]? = none := by
        rw [List.getElem?_eq_none_iff] at e ⊢
        rw [← r.len]
        exact e
      rw [z]
      exact ih
    | some x =>
      obtain ⟨u, e2, r2⟩ := r.atV e
      rw [e2]
      exact .cons r2 ih
section
variable {X : Cx} {ρ ρ1 : List Sl} {k n : Nat} {ps ks : List Str} {x : Str} {st : Stmt} {p pos : Pos} {e : Expr} {es : List Expr} {kws : List Keyword} {ds : List Dt} {d : Dt} {R : List Dt → Res → Prop}
theorem vc (F : FnAt X.prog X.w X.K X.mg X.base x st k ps (spD X.K n R)) (hgd : X.A.guards = some []) (hr : Room k X.A) (ha : VA X ρ (e :: es) ds ρ1) (hR : R ds (.ret d)) (hn : ds.length = n := by rfl) (hg : Gl X x := by rfl) (hdb : (x == ("__debug__" : Str)) = false := by decide)
    (he : starEach (e :: es) X.env = (false, eval e X.env) :: starEach es X.env := by rfl) (hpl : (backTo pos (starEach es X.env)).any (·.1) = false := by rfl) : VE X ρ (.Call (.Name x p) (e :: es) [] pos) d ρ1 := by
  obtain ⟨f, fd, h1, h2, h3, h4⟩ := F.it
  exact ve_call hgd hr h4 h1 h2.kp h3 ha hR hn hg hdb he hpl
theorem vcL {R : List Dt → List Dt → Prop} {ls : List Dt} (F : FnAt X.prog X.w X.K X.mg X.base x st k ps (spL X.K n R)) (hgd : X.A.guards = some []) (hr : Room k X.A) (ha : VA X ρ (e :: es) ds ρ1) (hR : R ds ls) (hn : ds.length = n := by rfl) (hg : Gl X x := by rfl) (hdb : (x == ("__debug__" : Str)) = false := by decide)
    (he : starEach (e :: es) X.env = (false, eval e X.env) :: starEach es X.env := by rfl) (hpl : (backTo pos (starEach es X.env)).any (·.1) = false := by rfl) : VL X ρ (.Call (.Name x p) (e :: es) [] pos) ls ρ1 := by
  obtain ⟨f, fd, h1, h2, h3, h4⟩ := F.it
  obtain ⟨t, pa, qa⟩ := ha
  refine ⟨_, pe_callG h4 hgd hr hg h1 h2.kp h3 passL pa hdb he hpl, fun σ H g Q kk rp q => qa σ H g _ kk rp fun vs H1 g1 k1 e1 r1 rv => ?_⟩
  exact ⟨g1, ds, ls, hn, k1, rv, hR, fun p xs H2 g2 k2 gr hp hs hm rd => q p xs H2 g2 k2 (e1.trans (gr.ext _ _)) (r1.gro gr) hp hs hm rd⟩
theorem vcI {R : List Dt → List Dt → Dt → List Dt → Prop} {ls ls' : List Dt} {s : Sl} (i : Nat) {nm : Str} {pos' : Pos} (F : FnAt X.prog X.w X.K X.mg X.base x st k ps (spI X.K n R)) (hgd : X.A.guards = some []) (hr : Room k X.A)
    (ha : VA X ρ es ds ρ1) (hs : ρ1[i]? = some s) (hc : s.cont = some ls) (hR : R ls ds d ls') (hn : ds.length = n := by rfl) (hN : X.N[i]? = some nm := by rfl) (hv : Vis X.env.scope nm := by first | exact Or.inl rfl | exact Or.inr (Or.inl rfl) | exact Or.inr (Or.inr rfl))
    (hsl : ∃ s0, ρ[i]? = some s0 ∧ s0.own = true := by exact ⟨_, rfl, rfl⟩) (hg : Gl X x := by rfl) (hdb : (x == ("__debug__" : Str)) = false := by decide) (he : starEach (.Name nm pos' :: es) X.env = (false, eval (.Name nm pos') X.env) :: starEach es X.env := by rfl) (hpl : (backTo pos (starEach es X.env)).any (·.1) = false := by rfl)
    (hd1 : (nm == ("__debug__" : Str)) = false := by decide) (hcd : (nm == ("__classdict__" : Str)) = false := by decide) : VE X ρ (.Call (.Name x p) (.Name nm pos' :: es) [] pos) d (ρ1.set i (s.put ls')) := by
  obtain ⟨f, fd, h1, h2, h3, h4⟩ := F.it
  exact ve_callI i hgd hr h4 h1 h2.kp h3 ha hs hc hR hn hN hv hsl hg hdb he hpl hd1 hcd
/-- all by keywords, π the places of the parameters among them -/
theorem vck (π : List Nat) (F : FnAt X.prog X.w X.K X.mg X.base x st k ps (spD X.K n R)) (hgd : X.A.guards = some []) (hr : Room k X.A)
    (hb : ∀ (kV doc pm : Value) (an : Option Addr) (cdv ct : Value) (ws : List Value), ws.length = ks.length → bindArgs (PySem.W.fnOf x x (defArgs st) (defBody st) (defScope st) .none kV doc pm an cdv ct) ⟨[], ks.zip ws⟩ = pure (ps.zip (perm π ws)))
    (ha : VK' X ρ kws ds ρ1) (hR : R (perm π ds) (.ret d)) (hn : (perm π ds).length = n := by rfl) (hkl : ds.length = ks.length := by rfl) (hg : Gl X x := by rfl) (hall : (backToKw pos (keywordEach kws X.env)).all (·.1.isSome) = true := by rfl) (hks : (backToKw pos (keywordEach kws X.env)).filterMap (·.1) = ks := by rfl)
    (hdb : (x == ("__debug__" : Str)) = false := by decide) (hpl : ((backTo pos (starEach [] X.env)).any (·.1) || (backToKw pos (keywordEach kws X.env)).any (·.1.isNone)) = false := by rfl) : VE X ρ (.Call (.Name x p) [] kws pos) d ρ1 := by
  obtain ⟨f, fd, h1, h2, h3, h4⟩ := F.it
  obtain ⟨oc, od, kV, doc, pm, an, cdv, ct, osl, rfl, lk, hcd⟩ := h2.ex
  obtain ⟨t, pa, qa⟩ := ha
  -- the keywords' values are as many as the names
  let sp' : Sp := spD X.K n R
  refine ⟨fun σ H Q => t σ H fun zs H1 => zs.length = ks.length ∧ sp' (perm π zs) H1 Q E0, ⟨fun pins s σ H Q I h => ?_⟩, fun σ H g Q kk rp q => qa σ H g _ kk rp fun vs H1 g1 k1 e1 r1 rv => ⟨by rw [rv.len]; exact hkl, ?_⟩⟩
  · refine wpAny_Call_Name_kw (ld_glob I hg h1 (PySem.W.callWith_KW0 (h₀ := X.base) I.ok.mod.kin h2.kp hall (thn (pa.run pos pins s σ H _ I h) fun ws s1 ⟨zs, H1, I1, r, hl, q⟩ => ⟨I1.kIn, ?_⟩) hpl) hdb)
    rw [hks]
    exact run_g h4 hgd hr (fun _ => .of_eq (hb kV doc pm an cdv ct ws (by rw [← r.length]; exact hl))) passL I1 (perm_vals r π) q
  · exact ⟨g1, perm π ds, .ret d, hn, k1, perm_rp rv π, hR, fun v H2 g2 k2 gr rd => q v H2 g2 k2 (e1.trans (gr.ext _ _)) (r1.gro gr) rd⟩
end
end DL
namespace DL
open PySem PySem.Spec PyProof.Rows L2

/-! ### bounds on ints, by powers of two -/
def Bd (n : Nat) (i : Int) : Prop := i.natAbs < 2 ^ n
section
variable {a b n : Nat} {i j : Int}
theorem Bd.up (h : Bd a i) (hab : a ≤ b) : Bd b i := Nat.lt_of_lt_of_le h (Nat.pow_le_pow_right (by decide) hab)
theorem Bd.neg (h : Bd a i) : Bd a (-i) := by unfold Bd at *; rw [Int.natAbs_neg]; exact h
theorem two_pow_succ' (n : Nat) : 2 ^ (n + 1) = 2 ^ n + 2 ^ n := by rw [Nat.pow_succ]; omega
theorem Bd.add (h : Bd a i) (h' : Bd b j) : Bd (max a b + 1) (i + j) := by
  have h1 : i.natAbs < 2 ^ (max a b) := h.up (Nat.le_max_left a b)
  have h2 : j.natAbs < 2 ^ (max a b) := h'.up (Nat.le_max_right a b)
  unfold Bd
  rw [two_pow_succ']
  omega
theorem Bd.sub (h : Bd a i) (h' : Bd b j) : Bd (max a b + 1) (i - j) := by
  rw [Int.sub_eq_add_neg]
  exact h.add h'.neg
theorem Bd.mul (h : Bd a i) (h' : Bd b j) : Bd (a + b) (i * j) := by
  unfold Bd at *
  rw [Int.natAbs_mul, Nat.pow_add]
  exact Nat.mul_lt_mul'' h h'
theorem Bd.le (h : Bd a j) (h1 : i.natAbs ≤ j.natAbs) : Bd a i := Nat.lt_of_le_of_lt h1 h
theorem Bd.div (h : Bd a i) (hj : 0 < j) : Bd (a + 1) (i / j) := by
  have e : (i / j).natAbs ≤ i.natAbs + 1 := by
    have h1 : i / j ≤ (i.natAbs : Int) := by
      have z := Int.ediv_le_self (a := (i.natAbs : Int)) j (by omega)
      have z2 : i / j ≤ (i.natAbs : Int) / j := Int.ediv_le_ediv hj (by omega)
      omega
    have h2 : -((i.natAbs : Int)) - 1 ≤ i / j := by
      have z2 : (-(i.natAbs : Int)) / j ≤ i / j := Int.ediv_le_ediv hj (by omega)
      have z3 : -((i.natAbs : Int)) ≤ (-(i.natAbs : Int)) / j := by
        rw [Int.le_ediv_iff_mul_le hj]
        have p : 0 ≤ (i.natAbs : Int) := by omega
        have q : (i.natAbs : Int) * 1 ≤ (i.natAbs : Int) * j := Int.mul_le_mul_of_nonneg_left (by omega) p
        rw [Int.neg_mul]
        omega
      omega
    omega
  have p := two_pow_succ' a
  have q : 0 < 2 ^ a := Nat.pow_pos (by decide)
  unfold Bd at *
  omega
theorem Bd.mod (h : Bd b j) (hj : 0 < j) : Bd b (i % j) := by
  have h1 := Int.emod_nonneg i (show j ≠ 0 by omega)
  have h2 := Int.emod_lt_of_pos i hj
  unfold Bd at *
  omega
theorem Bd.pow (h : Bd a i) (n : Nat) : Bd (a * n + 1) (i ^ n) := by
  unfold Bd at *
  rw [Int.natAbs_pow]
  refine Nat.lt_of_le_of_lt (Nat.pow_le_pow_left (Nat.le_of_lt h) n) ?_
  rw [← Nat.pow_mul]
  exact Nat.pow_lt_pow_right (by decide) (by omega)
theorem Bd.max (h : Bd a i) (h' : Bd b j) : Bd (Nat.max a b) (max i j) := by
  by_cases q : i ≤ j
  · rw [Int.max_eq_right q]; exact h'.up (Nat.le_max_right a b)
  · rw [Int.max_eq_left (by omega)]; exact h.up (Nat.le_max_left a b)
theorem Bd.min (h : Bd a i) (h' : Bd b j) : Bd (Nat.max a b) (min i j) := by
  by_cases q : i ≤ j
  · rw [Int.min_eq_left q]; exact h.up (Nat.le_max_left a b)
  · rw [Int.min_eq_right (by omega)]; exact h'.up (Nat.le_max_right a b)
theorem Bd.b2n (k : Bool) : Bd 1 (b2n k) := by
  cases k with
  | true => exact (show (1 : Nat) < 2 ^ 1 by decide)
  | false => exact (show (0 : Nat) < 2 ^ 1 by decide)
theorem Bd.lit (h : i.natAbs.blt (2 ^ n) = true) : Bd n i := by
  unfold Bd
  exact Nat.blt_eq.mp h
theorem Bd.len {α : Type} {l : List α} (h : l.length ≤ 1000000) : Bd 20 (l.length : Int) := by
  unfold Bd
  omega
theorem Bd.log (h : Bd a i) : i.natAbs.log2 ≤ a := by
  have q : i.natAbs < 2 ^ (a + 1) := Nat.lt_trans h (Nat.pow_lt_pow_right (by decide) (by omega))
  have z := PySem.Flt.log2_lt_of (by omega) q
  omega
theorem bd_mul (h : Bd a i) (h' : Bd b j) (hab : a + b < 1000000) : CMulW i j := by
  have := h.log
  have := h'.log
  unfold CMulW
  omega
theorem bd_div (hj : 0 < j) (h' : Bd b j) (hb : b < 9000) : CDivW i j := ⟨hj, by have := h'.log; omega⟩
theorem bd_pow (h : Bd a i) (hj : 0 ≤ j) (hb : ((a + 1 : Nat) : Int) * j ≤ 2 ^ 27) : CPowD i j := by
  refine ⟨hj, ?_⟩
  have e : Builtin.Int.intBits i ≤ a + 1 := by
    have := h.log
    unfold Builtin.Int.intBits
    split <;> omega
  refine Int.le_trans (Int.mul_le_mul_of_nonneg_right ?_ hj) hb
  omega
end

/-! ### the module's ints -/
theorem ve_gi {X : Cx} {ρ : List Sl} {nm : Str} {i : Int} {pos : Pos} (h : ∃ t, X.mg nm = some (Value.int i t)) (hg : Gl X nm := by rfl) (hd : (nm == ("__debug__" : Str)) = false := by decide) : VE X ρ (.Name nm pos) (.int i) ρ := by
  obtain ⟨t, h⟩ := h
  exact ve_globI hg h ⟨t, rfl⟩ hd
/-! ### least of three -/
section
variable {X : Cx} {ρ ρ1 : List Sl} {e e2 e3 : Expr} {pos p : Pos} {i j l : Int}
theorem vals_3 {x y z : V} {us : List Value} (r : Vals [x, y, z] us) : ∃ a b c, us = [a, b, c] ∧ RelV x a ∧ RelV y b ∧ RelV z c := by
  cases r with
  | cons r1 r =>
    cases r with
    | cons r2 r =>
      cases r with
      | cons r3 r =>
        cases r
        exact ⟨_, _, _, rfl, r1, r2, r3⟩
theorem call_min3 (hc : X.calm = true) : CallR X (.builtin "min") (fun xs H Q => ∃ i j l, xs = [V.int i, V.int j, V.int l] ∧ Q (.int (min i (min j l))) H) := by
  intro pins s σ H xs us Q I r h
  obtain ⟨i, j, l, rfl, q⟩ := h
  obtain ⟨a, b, c, rfl, ⟨t1, rfl⟩, ⟨t2, rfl⟩, ⟨t3, rfl⟩⟩ := vals_3 r
  refine min_three_ints (I.ok.hd hc) fun h' tk k => ⟨_, H, I.kept k, ?_, q⟩
  by_cases h1 : j < i
  · by_cases h2 : l < j
    · rw [if_pos h1, if_pos h2, show min i (min j l) = l by omega]
      exact ⟨t3, rfl⟩
    · rw [if_pos h1, if_neg h2, show min i (min j l) = j by omega]
      exact ⟨t2, rfl⟩
  · by_cases h3 : l < i
    · rw [if_neg h1, if_pos h3, show min i (min j l) = l by omega]
      exact ⟨t3, rfl⟩
    · rw [if_neg h1, if_neg h3, show min i (min j l) = i by omega]
      exact ⟨t1, rfl⟩
theorem ve_min3 (hc : X.calm = true) (hm : X.mg "min" = none) (ha : VA X ρ [e, e2, e3] [.int i, .int j, .int l] ρ1) (hg : Gl X "min" := by rfl) (he : starEach [e, e2, e3] X.env = (false, eval e X.env) :: starEach [e2, e3] X.env := by rfl) (hpl : (backTo pos (starEach [e2, e3] X.env)).any (·.1) = false := by rfl) : VE X ρ (.Call (.Name "min" p) [e, e2, e3] [] pos) (.int (min i (min j l))) ρ1 :=
  ve_callB (call_min3 hc) (fun vs H g Q k rv q => by
    cases rv with
    | cons r1 r2 =>
      cases r1
      cases r2 with
      | cons r2 r3 =>
        cases r2
        cases r3 with
        | cons r3 r4 =>
          cases r3
          cases r4
          exact ⟨i, j, l, rfl, q _ H g k (Gro.refl g) (Rp.int _)⟩) hm (by decide +kernel) ha hg (by decide) (by decide) he hpl
end
/-- what is walked away from: a way that is not taken -/
theorem wss_no {X : Cx} {Z : Fx} {ρ : List Sl} {κ : KD} {st : List Stmt} (h : False) : WSs X Z ρ st κ := h.elim
theorem ve_no {X : Cx} {ρ ρ' : List Sl} {e : Expr} {d : Dt} (h : False) : VE X ρ e d ρ' := h.elim
theorem vw_no {X : Cx} {ρ ρ' : List Sl} {e : Expr} {b : Bool} (h : False) : VW X ρ e b ρ' := h.elim
theorem vt_no {X : Cx} {ρ ρ' : List Sl} {e : Expr} {b : Bool} (h : False) : VT X ρ e b ρ' := h.elim
end DL
/-! what the program's and the laws' common defs compute -/
namespace Ev
open PySem L2 DL
/-- an int that is no bool, between two bounds -/
def hiOk (hi : Option Int) (i : Int) : Bool := match hi with
  | none => true
  | some h => decide (i ≤ h)
def isInt (d : Dt) (lo : Int) (hi : Option Int) : Bool := match d with
  | .int i => decide (lo ≤ i) && hiOk hi i
  | _ => false
def oI : Option Int → Dt
  | none => .non
  | some h => .int h
theorem isInt_yes {i lo hi : Int} (h1 : lo ≤ i) (h2 : i ≤ hi) : isInt (.int i) lo (some hi) = true := by
  simp [isInt, hiOk, h1, h2]
theorem isInt_yesN {i lo : Int} (h1 : lo ≤ i) : isInt (.int i) lo none = true := by
  simp [isInt, hiOk, h1]
abbrev MP : Int := 10 ^ 30 - 1
structure LoadOk (p q : Int) (ss : List Int) : Prop where
  p1 : 1 ≤ p
  p2 : p ≤ 12
  q1 : 1 ≤ q
  q2 : q ≤ MP
  l1 : 1 ≤ ss.length
  l2 : ss.length ≤ 12
  sh : ∀ s ∈ ss, 1 ≤ s ∧ s ≤ q
  sm : ss.sum ≤ p * q
def load (p q : Int) (ss : List Int) : Dt := .tup [.int p, .int q, .lst (ss.map Dt.int)]
theorem LoadOk.bq {p q : Int} {ss : List Int} (h : LoadOk p q ss) : Bd 110 q := by
  have h1 := h.q1
  have h2 := h.q2
  unfold Bd
  show q.natAbs < 2 ^ 110
  have e : (2 : Nat) ^ 110 = 1298074214633706907132624082305024 := by decide
  rw [e]
  unfold MP at h2
  omega
theorem LoadOk.bp {p q : Int} {ss : List Int} (h : LoadOk p q ss) : Bd 4 p := by
  have h1 := h.p1
  have h2 := h.p2
  unfold Bd
  omega
theorem LoadOk.bs {p q : Int} {ss : List Int} (h : LoadOk p q ss) {s : Int} (hs : s ∈ ss) : Bd 110 s := by
  have h1 := h.sh s hs
  refine h.bq.le ?_
  omega
/-! ### the source of drawn numbers -/
structure Src where
  a : Int
  b : Int
  c : Int
def Src.ls (s : Src) : List Dt := [.int s.a, .int s.b, .int s.c]
structure Src.Ok (n : Nat) (s : Src) : Prop where
  a0 : 0 ≤ s.a
  b0 : Bd 200 s.b
  c0 : 0 ≤ s.c
  cn : s.c ≤ (n : Int)
def mix1 (s : Src) : Int := (s.b + 800011 * (s.c + 1)) ^ 3 % (10 ^ 37 + 43)
def mix2 (s : Src) : Int := (mix1 s * (s.c + 1) + 70001) ^ 3 % (10 ^ 39 + 3)
/-- a drawn number below n, and the source behind it -/
def draw (s : Src) (n : Int) : Int × Src := if 0 < s.a then (s.a % n, { s with a := s.a / n }) else (mix2 s / 65521 % n, { s with c := s.c + 1 })
theorem draw_lo (s : Src) {n : Int} (h : 0 < n) : 0 ≤ (draw s n).1 := by
  unfold draw
  split
  · exact Int.emod_nonneg _ (by omega)
  · exact Int.emod_nonneg _ (by omega)
theorem draw_hi (s : Src) {n : Int} (h : 0 < n) : (draw s n).1 < n := by
  unfold draw
  split
  · exact Int.emod_lt_of_pos _ h
  · exact Int.emod_lt_of_pos _ h
theorem draw_ok {s : Src} {m : Nat} {n : Int} (k : s.Ok m) (h : 0 < n) : (draw s n).2.Ok (m + 1) := by
  have h1 := k.a0
  have h2 := k.c0
  have h3 := k.cn
  unfold draw
  split
  · exact ⟨Int.ediv_nonneg h1 (by omega), k.b0, h2, by show s.c ≤ _; omega⟩
  · exact ⟨h1, k.b0, by show 0 ≤ s.c + 1; omega, by show s.c + 1 ≤ _; omega⟩
theorem Src.Ok.up {s : Src} {m n : Nat} (k : s.Ok m) (h : m ≤ n) : s.Ok n := ⟨k.a0, k.b0, k.c0, by have := k.cn; omega⟩
/-- the source of a cell -/
def src (cell k : Int) : Src := ⟨max 0 ((cell.natAbs : Int) - 10 ^ 18), (cell.natAbs : Int) % (10 ^ 41 + 61) * 83 + 2 * k + b2n (decide (cell < 0)), 0⟩
theorem src_ok {cell k : Int} (h0 : 0 ≤ k) (h1 : k ≤ 100) : (src cell k).Ok 0 := by
  refine ⟨by show 0 ≤ max 0 _; omega, ?_, Int.le_refl 0, Int.le_refl 0⟩
  show Bd 200 ((cell.natAbs : Int) % (10 ^ 41 + 61) * 83 + 2 * k + b2n (decide (cell < 0)))
  have a1 := Int.emod_nonneg (cell.natAbs : Int) (show (10 ^ 41 + 61 : Int) ≠ 0 by decide)
  have a2 := Int.emod_lt_of_pos (cell.natAbs : Int) (show (0 : Int) < 10 ^ 41 + 61 by decide)
  have b1 : 0 ≤ b2n (decide (cell < 0)) ∧ b2n (decide (cell < 0)) ≤ 1 := by unfold b2n; split <;> omega
  unfold Bd
  have e : (2 : Nat) ^ 200 = 1606938044258990275541962092341162602522202993782792835301376 := by decide
  rw [e]
  omega
/-! ### drawn parts with a sum -/
/-- the ends of a part, what is left and how many parts follow -/
def lowOf (far left : Int) (rest : Int) : Int := max 1 (left - far * rest)
def highOf (far left : Int) (rest : Int) : Int := min far (left - rest)
/-- m parts -/
def parts (far : Int) : Nat → Int → Src → List Int × Src
  | 0, _, s => ([], s)
  | m + 1, left, s =>
    let lo := lowOf far left m
    let x := draw s (highOf far left m - lo + 1)
    let r := parts far m (left - (lo + x.1)) x.2
    ((lo + x.1) :: r.1, r.2)
/-- a sum of m parts from 1 to far -/
def Fits (far : Int) (m : Nat) (left : Int) : Prop := (m : Int) ≤ left ∧ left ≤ (m : Int) * far
theorem fits_pos {far : Int} {m : Nat} {left : Int} (hf : 1 ≤ far) (h : Fits far (m + 1) left) : lowOf far left m ≤ highOf far left m ∧ 1 ≤ lowOf far left m ∧ highOf far left m ≤ far := by
  obtain ⟨h1, h2⟩ := h
  have e : ((m + 1 : Nat) : Int) * far = far * (m : Int) + far := by rw [Int.natCast_add, Int.add_mul, Int.mul_comm]; simp
  rw [e] at h2
  have p : (m : Int) ≤ far * (m : Int) := by
    have z : 1 * (m : Int) ≤ far * (m : Int) := Int.mul_le_mul_of_nonneg_right hf (by omega)
    omega
  unfold lowOf highOf
  have h1' : (m : Int) + 1 ≤ left := by have := h1; omega
  omega
theorem fits_next {far : Int} {m : Nat} {left x : Int} (hf : 1 ≤ far) (h : Fits far (m + 1) left) (h1 : lowOf far left m ≤ x) (h2 : x ≤ highOf far left m) : Fits far m (left - x) := by
  obtain ⟨a1, a2⟩ := h
  have e : ((m + 1 : Nat) : Int) * far = far * (m : Int) + far := by rw [Int.natCast_add, Int.add_mul, Int.mul_comm]; simp
  rw [e] at a2
  unfold lowOf at h1
  unfold highOf at h2
  unfold Fits
  rw [Int.mul_comm (m : Int) far]
  omega
theorem parts_spec {far : Int} (hf : 1 ≤ far) : ∀ (m : Nat) (left : Int) (s : Src) (n : Nat), Fits far m left → s.Ok n →
    (parts far m left s).1.length = m ∧ (∀ x ∈ (parts far m left s).1, 1 ≤ x ∧ x ≤ far) ∧ (parts far m left s).1.sum = left ∧ (parts far m left s).2.Ok (n + m)
  | 0, left, s, n, h, k => by
    obtain ⟨h1, h2⟩ := h
    have e : left = 0 := by
      have z : ((0 : Nat) : Int) * far = 0 := by simp
      rw [z] at h2
      have := h1
      omega
    subst e
    exact ⟨rfl, (fun x hx => by cases hx), rfl, k⟩
  | m + 1, left, s, n, h, k => by
    obtain ⟨q1, q2, q3⟩ := fits_pos hf h
    have hp : 0 < highOf far left m - lowOf far left m + 1 := by omega
    have d1 := draw_lo s hp
    have d2 := draw_hi s hp
    have kx := draw_ok k hp
    have ih := parts_spec hf m (left - (lowOf far left m + (draw s (highOf far left m - lowOf far left m + 1)).1)) (draw s (highOf far left m - lowOf far left m + 1)).2 (n + 1) (fits_next hf h (by omega) (by omega)) kx
    obtain ⟨i1, i2, i3, i4⟩ := ih
    refine ⟨by show _ + 1 = _; rw [i1], fun x hx => ?_, ?_, i4.up (by omega)⟩
    · rcases List.mem_cons.mp hx with z | z
      · subst z; omega
      · exact i2 x z
    · show (_ :: _).sum = _
      rw [List.sum_cons, i3]
      omega
/-! ### a drawn load -/
def loadOf (s : Src) (units span most : Int) : List Int × Src :=
  let x := draw s most
  let often := min most (min (units * span) (units + x.1))
  if often < units then
    let y := draw x.2 (min units often * span - often + 1)
    parts span often.toNat (often + y.1) y.2
  else
    let z := draw x.2 3
    if z.1 = 0 then
      let y := draw z.2 (min units often * span - often + 1)
      parts span often.toNat (often + y.1) y.2
    else parts span often.toNat (units * span) z.2
theorem loadOf_spec {s : Src} {units span most : Int} {n : Nat} (k : s.Ok n) (h1 : 1 ≤ units) (h2 : units ≤ 12) (h3 : 1 ≤ span) (h4 : span ≤ MP) (h5 : 1 ≤ most) (h6 : most ≤ 12) :
    LoadOk units span (loadOf s units span most).1 ∧ (loadOf s units span most).2.Ok (n + 15) ∧ ((loadOf s units span most).1.length : Int) ≤ most := by
  have hx0 := draw_lo s (show 0 < most by omega)
  have hx1 := draw_hi s (show 0 < most by omega)
  have kx := draw_ok k (show 0 < most by omega)
  have kz := draw_ok kx (show (0 : Int) < 3 by decide)
  have hw : units ≤ units * span := by
    have z : units * 1 ≤ units * span := Int.mul_le_mul_of_nonneg_left h3 (by omega)
    omega
  obtain ⟨often, ho⟩ : ∃ o, o = min most (min (units * span) (units + (draw s most).1)) := ⟨_, rfl⟩
  have o1 : 1 ≤ often := by omega
  have o2 : often ≤ 12 := by omega
  have o3 : often ≤ units * span := by omega
  have o4 : often ≤ most := by omega
  have oc : ((often.toNat : Nat) : Int) = often := by omega
  -- whatever the sum is
  have fin : ∀ (whole : Int) (t : Src), Fits span often.toNat whole → whole ≤ units * span → t.Ok (n + 3) →
      LoadOk units span (parts span often.toNat whole t).1 ∧ (parts span often.toNat whole t).2.Ok (n + 15) ∧ ((parts span often.toNat whole t).1.length : Int) ≤ most := fun whole t f hs kt => by
    obtain ⟨i1, i2, i3, i4⟩ := parts_spec h3 often.toNat whole t (n + 3) f kt
    exact ⟨⟨h1, h2, h3, h4, by rw [i1]; omega, by rw [i1]; omega, i2, by rw [i3]; exact hs⟩, i4.up (by omega), by rw [i1]; omega⟩
  have drawn : ∀ (t : Src) (m : Nat), t.Ok m → m ≤ n + 2 → LoadOk units span (parts span often.toNat (often + (draw t (min units often * span - often + 1)).1) (draw t (min units often * span - often + 1)).2).1 ∧
      (parts span often.toNat (often + (draw t (min units often * span - often + 1)).1) (draw t (min units often * span - often + 1)).2).2.Ok (n + 15) ∧ ((parts span often.toNat (often + (draw t (min units often * span - often + 1)).1) (draw t (min units often * span - often + 1)).2).1.length : Int) ≤ most := fun t m kt hm => by
    have pm : often ≤ min units often * span := by
      by_cases q : units ≤ often
      · rw [Int.min_eq_left q]; exact o3
      · rw [Int.min_eq_right (by omega)]
        have z : often * 1 ≤ often * span := Int.mul_le_mul_of_nonneg_left h3 (by omega)
        omega
    have pu : min units often * span ≤ units * span := Int.mul_le_mul_of_nonneg_right (by omega) (by omega)
    have po : min units often * span ≤ often * span := Int.mul_le_mul_of_nonneg_right (by omega) (by omega)
    have hp : 0 < min units often * span - often + 1 := by omega
    have d1 := draw_lo t hp
    have d2 := draw_hi t hp
    refine fin _ _ ⟨by rw [oc]; omega, by rw [oc]; omega⟩ (by omega) ((draw_ok kt hp).up (by omega))
  have e : loadOf s units span most = if often < units then parts span often.toNat (often + (draw (draw s most).2 (min units often * span - often + 1)).1) (draw (draw s most).2 (min units often * span - often + 1)).2
    else if (draw (draw s most).2 3).1 = 0 then parts span often.toNat (often + (draw (draw (draw s most).2 3).2 (min units often * span - often + 1)).1) (draw (draw (draw s most).2 3).2 (min units often * span - often + 1)).2
    else parts span often.toNat (units * span) (draw (draw s most).2 3).2 := by rw [ho]; rfl
  rw [e]
  by_cases c1 : often < units
  · rw [if_pos c1]
    exact drawn _ (n + 1) kx (by omega)
  · rw [if_neg c1]
    by_cases c2 : (draw (draw s most).2 3).1 = 0
    · rw [if_pos c2]
      exact drawn _ (n + 2) kz (by omega)
    · rw [if_neg c2]
      have z : units * span ≤ often * span := Int.mul_le_mul_of_nonneg_right (by omega) (by omega)
      exact fin _ _ ⟨by rw [oc]; omega, by rw [oc]; exact z⟩ (Int.le_refl _) (kz.up (by omega))
end Ev
namespace DL
open PySem PySem.Spec PyProof.Rows L2
mutual
/-- data whose text fits: ints below 2 ^ 1900, no objects -/
def Dt.Sm : Dt → Prop
  | .int i => Bd 1900 i
  | .str x => (reprText x).length ≤ 10000 ∧ PyData.strOk x = true
  | .lst ds => Dt.SmA ds
  | .tup ds => Dt.SmA ds
  | .opq _ => False
  | _ => True
def Dt.SmA : List Dt → Prop
  | [] => True
  | d :: ds => Dt.Sm d ∧ Dt.SmA ds
end
mutual
/-- a bound of its text's length -/
def Dt.wt : Dt → Nat
  | .non => 4
  | .bl _ => 5
  | .int _ => 1921
  | .str _ => 10000
  | .lst ds => Dt.wtA ds + 2
  | .tup ds => Dt.wtA ds + 3
  | .opq _ => 0
def Dt.wtA : List Dt → Nat
  | [] => 0
  | d :: ds => Dt.wt d + 2 + Dt.wtA ds
end
mutual
def Dt.dep : Dt → Nat
  | .lst ds => Dt.depA ds + 1
  | .tup ds => Dt.depA ds + 1
  | _ => 0
def Dt.depA : List Dt → Nat
  | [] => 0
  | d :: ds => max (Dt.dep d) (Dt.depA ds)
end
theorem SmA.of : ∀ {ds : List Dt}, (∀ d ∈ ds, d.Sm) → Dt.SmA ds
  | [], _ => trivial
  | d :: ds, h => ⟨h d List.mem_cons_self, SmA.of fun x hx => h x (List.mem_cons_of_mem _ hx)⟩
theorem sm_ints {ns : List Int} (h : ∀ n ∈ ns, Bd 1900 n) : Dt.SmA (ns.map Dt.int) := SmA.of fun d hd => by
  obtain ⟨n, hn, rfl⟩ := List.mem_map.mp hd
  exact h n hn
theorem wt_ints : ∀ ns : List Int, Dt.wtA (ns.map Dt.int) = ns.length * 1923
  | [] => rfl
  | n :: ns => by
    show 1921 + 2 + Dt.wtA (ns.map Dt.int) = _
    rw [wt_ints ns, List.length_cons]
    omega
theorem dep_ints : ∀ ns : List Int, Dt.depA (ns.map Dt.int) = 0
  | [] => rfl
  | n :: ns => by
    show max 0 (Dt.depA (ns.map Dt.int)) = 0
    rw [dep_ints ns]
    rfl
theorem piled_le_list (ts : List Str) : (listText ts).length ≤ piled ts + 2 := by
  cases ts with
  | nil => decide
  | cons t r =>
    have h := textFrom_length_pos r 1 (("[" : Str) ++ (if (0 : Nat) > 0 then ", " else "" : String) ++ t) (Nat.succ_pos 0)
    have e : ((("[" : Str) ++ (if (0 : Nat) > 0 then ", " else "" : String) ++ t)).length = 1 + t.length := by
      rw [strLen_append, strLen_append]
      rfl
    have e2 : (listText (t :: r)).length = (textFrom 1 (("[" : Str) ++ (if (0 : Nat) > 0 then ", " else "" : String) ++ t) r).length + 1 := by
      show (textFrom 1 _ r ++ "]").length = _
      rw [strLen_append]
      rfl
    rw [e2, h, e, piled_cons]
    omega
theorem piled_le_tup (ts : List Str) : (tupleText ts).length ≤ piled ts + 3 := by
  unfold tupleText
  rw [strLen_append, strLen_append]
  have e1 : ((("(" : String) : Str)).length = 1 := rfl
  have e3 : (((if ts.length == 1 then ",)" else ")" : String) : Str)).length ≤ 2 := by split <;> decide
  rw [e1]
  by_cases h : ts = []
  · subst h
    have z : (Str.join ", " ([] : List Str)).length = 0 := rfl
    rw [z]
    omega
  · have := join_length_add ts h
    omega
theorem sm_log {i : Int} (h : Bd 1900 i) : i.natAbs.log2 < 1920 := by
  have := h.log
  omega
theorem toStr_len {i : Int} (h : Bd 1900 i) : (PyData.shown (.int i)).length ≤ 1921 := int_text_len_1921 (sm_log h)
mutual
theorem shown_le : ∀ d : Dt, d.Sm → d.py.shown.length ≤ d.wt
  | .non, _ => by decide
  | .bl b, _ => by cases b <;> decide
  | .int i, h => toStr_len h
  | .str x, h => h.1
  | .lst ds, h => by
    show (listText (PyData.shownAll (Dt.pyAll ds))).length ≤ Dt.wtA ds + 2
    have a := piled_le_list (PyData.shownAll (Dt.pyAll ds))
    have b := shownAll_le ds h
    omega
  | .tup ds, h => by
    show (tupleText (PyData.shownAll (Dt.pyAll ds))).length ≤ Dt.wtA ds + 3
    have a := piled_le_tup (PyData.shownAll (Dt.pyAll ds))
    have b := shownAll_le ds h
    omega
  | .opq _, h => h.elim
theorem shownAll_le : ∀ ds : List Dt, Dt.SmA ds → piled (PyData.shownAll (Dt.pyAll ds)) ≤ Dt.wtA ds
  | [], _ => by decide
  | d :: ds, h => by
    have a := shown_le d h.1
    have b := shownAll_le ds h.2
    show piled (d.py.shown :: PyData.shownAll (Dt.pyAll ds)) ≤ d.wt + 2 + Dt.wtA ds
    rw [piled_cons]
    omega
end
mutual
theorem sm_plain : ∀ d : Dt, d.Sm → d.plain = true
  | .non, _ => rfl
  | .bl _, _ => rfl
  | .int _, _ => rfl
  | .str _, _ => rfl
  | .lst ds, h => smA_plain ds h
  | .tup ds, h => smA_plain ds h
  | .opq _, h => h.elim
theorem smA_plain : ∀ ds : List Dt, Dt.SmA ds → Dt.plainAll ds = true
  | [], _ => rfl
  | d :: ds, h => by
    show (d.plain && Dt.plainAll ds) = true
    rw [sm_plain d h.1, smA_plain ds h.2]
    rfl
end
mutual
theorem sm_show : ∀ d : Dt, d.Sm → d.py.showable = true
  | .non, _ => by simp [Dt.py, PyData.showable]
  | .bl _, _ => by simp [Dt.py, PyData.showable]
  | .int i, h => by simp [Dt.py, PyData.showable, sm_log h]
  | .str _, _ => by simp [Dt.py, PyData.showable]
  | .lst ds, h => by simp [Dt.py, PyData.showable, smA_show ds h]
  | .tup ds, h => by simp [Dt.py, PyData.showable, smA_show ds h]
  | .opq _, h => h.elim
theorem smA_show : ∀ ds : List Dt, Dt.SmA ds → PyData.showableAll (Dt.pyAll ds) = true
  | [], _ => by simp [Dt.pyAll, PyData.showableAll]
  | d :: ds, h => by simp [Dt.pyAll, PyData.showableAll, sm_show d h.1, smA_show ds h.2]
end
mutual
theorem dep_py : ∀ d : Dt, d.py.depth = d.dep
  | .non => by simp [Dt.py, PyData.depth, Dt.dep]
  | .bl _ => by simp [Dt.py, PyData.depth, Dt.dep]
  | .int i => by simp [Dt.py, PyData.depth, Dt.dep]
  | .str _ => by simp [Dt.py, PyData.depth, Dt.dep]
  | .lst ds => by simp [Dt.py, PyData.depth, Dt.dep, depA_py ds]
  | .tup ds => by simp [Dt.py, PyData.depth, Dt.dep, depA_py ds]
  | .opq _ => by simp [Dt.py, PyData.depth, Dt.dep]
theorem depA_py : ∀ ds : List Dt, PyData.depthAll (Dt.pyAll ds) = Dt.depA ds
  | [] => by simp [Dt.pyAll, PyData.depthAll, Dt.depA]
  | d :: ds => by simp [Dt.pyAll, PyData.depthAll, Dt.depA, dep_py d, depA_py ds]
end
theorem fits_of {d : Dt} (h : d.Sm) (hd : d.dep ≤ 100) (hw : d.wt ≤ 16777216) : d.fits = true := by
  have h1 := shown_le d h
  have e : sizeLine = 16777216 := sizeLine_eq
  simp only [Dt.fits, Bool.and_eq_true, decide_eq_true_eq]
  exact ⟨⟨⟨sm_plain d h, sm_show d h⟩, by rw [dep_py]; exact hd⟩, by omega⟩
mutual
theorem sm_lay : ∀ d : Dt, d.Sm → d.py.canLay0 = true
  | .non, _ => by simp [Dt.py, PyData.canLay0]
  | .bl _, _ => by simp [Dt.py, PyData.canLay0]
  | .int i, h => by simp [Dt.py, PyData.canLay0]
  | .str x, h => by
    have h' : PyData.strOk x = true := h.2
    simp [Dt.py, PyData.canLay0, h']
  | .lst ds, h => by simp [Dt.py, PyData.canLay0, smA_lay ds h]
  | .tup ds, h => by simp [Dt.py, PyData.canLay0, smA_lay ds h]
  | .opq _, h => h.elim
theorem smA_lay : ∀ ds : List Dt, Dt.SmA ds → PyData.canLayAll0 (Dt.pyAll ds) = true
  | [], _ => by simp [Dt.pyAll, PyData.canLayAll0]
  | d :: ds, h => by simp [Dt.pyAll, PyData.canLayAll0, sm_lay d h.1, smA_lay ds h.2]
end
theorem shaped_of {d : Dt} (h : d.Sm) (hd : d.dep ≤ 64) : SeqAt.shaped d.py = true := by
  unfold SeqAt.shaped
  rw [sm_lay d h, dep_py, decide_eq_true hd]
  rfl
theorem eqv_same {d : Dt} (h : d.Sm) : PyData.eqv d.py d.py = true := SeqAt.eqv_refl d.py (sm_lay d h)
section
variable {X : Cx} {ρ ρ1 ρ2 : List Sl} {e e2 : Expr} {d d' : Dt} {pos p1 p2 q1 q2 : Pos} {k : Nat}
/-- repr(a) != repr(b) of equal data -/
theorem vt_reprNe (hgd : X.A.guards = some []) (hr : Room k X.A) (hm : X.mg "repr" = none) (ha : VE X ρ e d ρ1) (hb : VE X ρ1 e2 d' ρ2) (hdd : d' = d) (hk : (∃ ds, d = .lst ds) ∨ ∃ ds, d = .tup ds) (hs : d.Sm) (hd : Nat.ble d.dep 100 = true) (hw : d.wt ≤ 16777216) (hg : Gl X "repr" := by rfl)
    (he : starEach [e] X.env = (false, eval e X.env) :: starEach [] X.env := by rfl) (he2 : starEach [e2] X.env = (false, eval e2 X.env) :: starEach [] X.env := by rfl) :
    VT X ρ (.Compare (.Call (.Name "repr" p1) [e] [] q1) [.NotEq] [.Call (.Name "repr" p2) [e2] [] q2] pos) false ρ2 := by
  subst hdd
  have f := fits_of hs (Nat.le_of_ble_eq_true hd) hw
  exact VT.to (vt_neS (ve_repr hgd hr hm ha hk f hg he) (ve_repr hgd hr hm hb hk f hg he2)) (by rw [decide_eq_true rfl]; rfl)
end
end DL
namespace Ev
open PySem L2 DL
/-! ### the script's ints as data; pieces of lists -/
theorem plainAll_ints : ∀ ns : List Int, Dt.plainAll (ns.map Dt.int) = true
  | [] => rfl
  | n :: ns => by
    show (Dt.plain (.int n) && Dt.plainAll (ns.map Dt.int)) = true
    rw [plainAll_ints ns]
    rfl
theorem canLayL_ints : ∀ ns : List Int, PyData.canLay0 (Dt.py (.lst (ns.map Dt.int))) = true := fun ns => by
  simp only [Dt.py, PyData.canLay0]
  induction ns with
  | nil => simp [Dt.pyAll, PyData.canLayAll0]
  | cons n ns ih => simp_all [Dt.pyAll, Dt.py, PyData.canLay0, PyData.canLayAll0]
theorem shaped_ints (ns : List Int) : SeqAt.shaped (Dt.py (.lst (ns.map Dt.int))) = true := by
  unfold SeqAt.shaped
  rw [canLayL_ints, dep_py]
  show (true && decide (Dt.depA (ns.map Dt.int) + 1 ≤ 64)) = true
  rw [dep_ints]
  rfl
theorem cut_item {ds : List Dt} {lo hi : Option Int} {j : Nat} {x : Dt} (h : (cutD ds lo hi)[j]? = some x) : x ∈ ds ∧ j < ds.length := by
  unfold cutD at h
  have hm := List.mem_of_getElem? h
  have hl := (List.getElem?_eq_some_iff.mp h).1
  rw [List.length_take, List.length_drop] at hl
  exact ⟨List.mem_of_mem_drop (List.mem_of_mem_take hm), by omega⟩
theorem cut_int {ns : List Int} {y : Int} {lo hi : Option Int} {j : Nat} {x : Dt} (h : (cutD (ns.map Dt.int ++ [.int y]) lo hi)[j]? = some x) : j < ns.length + 1 ∧ ∃ c : Int, x = .int c := by
  obtain ⟨h1, h2⟩ := cut_item h
  rw [List.length_append, List.length_map] at h2
  refine ⟨h2, ?_⟩
  rcases List.mem_append.mp h1 with z | z
  · obtain ⟨n, _, rfl⟩ := List.mem_map.mp z
    exact ⟨n, rfl⟩
  · exact ⟨y, List.mem_singleton.mp z⟩
end Ev
namespace DL
open PySem L2
/-! ### a def that the top has written, and where it stands -/
structure DefIn (K : PySem.W.Frag) (x : Str) (st : Stmt) : Prop where
  it : ∃ (f : Addr) (kV doc pm : Value) (an : Option Addr) (cdv ct : Value), PySem.W.nsIn K mainGlobals x = some (some (.ref f)) ∧ Fun K x x st f (PySem.W.fnOf x x (defArgs st) (defBody st) (defScope st) .none kV doc pm an cdv ct)
theorem def_in {K : PySem.W.Frag} {x : Str} {st : Stmt} {f : Addr} {oc kV doc pm cdv ct : Value} {od an : Option Addr} {osl : Array (Option Value)} (a : PySem.W.nsIn K mainGlobals x = some (some (.ref f)))
    (l : K.lookup f = some ⟨oc, od, .func (PySem.W.fnOf x x (defArgs st) (defBody st) (defScope st) .none kV doc pm an cdv ct), osl⟩) (c : PySem.W.codeIn K cdv x = true) (k : PySem.W.keepIn K (.ref f) = true) : DefIn K x st :=
  ⟨f, kV, doc, pm, an, cdv, ct, a, fun_mk l c k⟩
theorem DefIn.at {K : PySem.W.Frag} {x : Str} {st : Stmt} {P : Program} {w : World} {mg : Str → Option Value} {base h : Heap} {k : Nat} {ps : List Str} {sp : Sp} (D : DefIn K x st) (X : K.In h) (G : h.Ns mainGlobals mg)
    (hb : ∀ (kV doc pm : Value) (an : Option Addr) (cdv ct : Value) (us : List Value), us.length = ps.length → bindArgs (PySem.W.fnOf x x (defArgs st) (defBody st) (defScope st) .none kV doc pm an cdv ct) ⟨us, []⟩ = pure (ps.zip us))
    (ok : ∀ (f : Addr) (fd : FuncData), Fun K x x st f fd → FnG P w K mg base k f fd ps sp) : FnAt P w K mg base x st k ps sp := by
  obtain ⟨f, kV, doc, pm, an, cdv, ct, a, F⟩ := D.it
  exact ⟨f, _, PySem.W.mg_of X G a, F, F.binds hb, ok f _ F⟩
theorem DefIn.law {K : PySem.W.Frag} {x y : Str} {st : Stmt} {P : Program} {w : World} {mg : Str → Option Value} {h : Heap} {k : Nat} {sp : Sp} {fa : Addr} (D : DefIn K x st) (X : K.In h) (G : h.Ns mainGlobals mg) (hfa : mg x = some (.ref fa))
    (hb : ∀ (kV doc pm : Value) (an : Option Addr) (cdv ct : Value) (u : Value), bindArgs (PySem.W.fnOf x x (defArgs st) (defBody st) (defScope st) .none kV doc pm an cdv ct) ⟨[u], []⟩ = pure [(y, u)])
    (ok : ∀ (base : Heap), K.In base → base.Ns mainGlobals mg → ∀ (f : Addr) (fd : FuncData), Fun K x x st f fd → FnG P w K mg base k f fd [y] sp) :
    ∃ fd : FuncData, (∀ (s : Shared) (u : Value), BindsTo s fd ⟨[u], []⟩ [(y, u)]) ∧ ∀ base : Heap, K.In base → base.Ns mainGlobals mg → FnG P w K mg base k fa fd [y] sp := by
  obtain ⟨f, kV, doc, pm, an, cdv, ct, a, F⟩ := D.it
  have e := hfa.symm.trans (PySem.W.mg_of X G a)
  cases e
  exact ⟨_, fun s u => .of_eq (hb kV doc pm an cdv ct u), fun base Xb Gb => ok base Xb Gb _ _ F⟩
end DL
namespace Ev
open PySem L2 DL
/-! ### dues and windows -/
theorem div_eq {a q k : Int} (hq : 0 < q) (h1 : k * q ≤ a) (h2 : a < k * q + q) : a / q = k := by
  have x1 : k ≤ a / q := (Int.le_ediv_iff_mul_le hq).mpr h1
  have x2 : a / q < k + 1 := (Int.ediv_lt_iff_lt_mul hq).mpr (by rw [Int.add_mul]; omega)
  omega
theorem div_lo (a : Int) {q : Int} (hq : 0 < q) : a / q * q ≤ a := (Int.le_ediv_iff_mul_le hq).mp (Int.le_refl _)
theorem div_hi (a : Int) {q : Int} (hq : 0 < q) : a < a / q * q + q := by
  have x2 : a < (a / q + 1) * q := (Int.ediv_lt_iff_lt_mul hq).mp (by omega)
  rw [Int.add_mul] at x2
  omega
/-- rounded up: one more where it does not go up -/
theorem up_eq (a : Int) {q : Int} (hq : 0 < q) : -(-a / q) = a / q + b2n (decide (a / q * q < a)) := by
  have h1 := div_lo a hq
  have h2 := div_hi a hq
  by_cases h : a / q * q < a
  · rw [decide_eq_true h]
    have e : -a / q = -(a / q + 1) := div_eq hq (by rw [Int.neg_mul, Int.add_mul]; omega) (by rw [Int.neg_mul, Int.add_mul]; omega)
    rw [e]
    show - -(a / q + 1) = a / q + 1
    omega
  · rw [decide_eq_false h]
    have e : -a / q = -(a / q) := div_eq hq (by rw [Int.neg_mul]; omega) (by rw [Int.neg_mul]; omega)
    rw [e]
    show - -(a / q) = a / q + 0
    omega
def wFirst (s q n : Int) : Int := n * q / s
def wLast (s q n : Int) : Int := -(-(n + 1) * q / s) - 1
theorem first_iff {s q n t : Int} (hs : 0 < s) : wFirst s q n ≤ t ↔ q * n < s * (t + 1) := by
  unfold wFirst
  have z : n * q / s < t + 1 ↔ n * q < (t + 1) * s := Int.ediv_lt_iff_lt_mul hs
  rw [Int.mul_comm q n, Int.mul_comm s (t + 1)]
  omega
theorem last_iff {s q n t : Int} (hs : 0 < s) : t ≤ wLast s q n ↔ s * t < q * (n + 1) := by
  unfold wLast
  have z : -(n + 1) * q / s < -t ↔ -(n + 1) * q < -t * s := Int.ediv_lt_iff_lt_mul hs
  have e1 : -(n + 1) * q = -(q * (n + 1)) := by rw [Int.neg_mul, Int.mul_comm]
  have e2 : -t * s = -(s * t) := by rw [Int.neg_mul, Int.mul_comm]
  rw [e1, e2] at z
  rw [e1]
  omega
theorem first_nonneg {s q n : Int} (hs : 0 < s) (hq : 0 ≤ q) (hn : 0 ≤ n) : 0 ≤ wFirst s q n := Int.ediv_nonneg (Int.mul_nonneg hn hq) (by omega)
theorem first_le_last {s q n : Int} (hs : 0 < s) (hq : s ≤ q) : wFirst s q n ≤ wLast s q n := by
  rw [last_iff hs]
  have h := div_lo (n * q) hs
  unfold wFirst
  rw [Int.mul_comm s, Int.mul_add, Int.mul_comm q n, Int.mul_one]
  omega
theorem last_lt {s q n : Int} (hs : 0 < s) (hn : n < 2 * s) (hq : 0 < q) : wLast s q n < 2 * q := by
  have h : ¬ 2 * q ≤ wLast s q n := by
    rw [last_iff hs]
    have z : q * (n + 1) ≤ q * (2 * s) := Int.mul_le_mul_of_nonneg_left (by omega) (by omega)
    have e : q * (2 * s) = s * (2 * q) := by
      rw [Int.mul_comm q (2 * s), Int.mul_comm 2 s, Int.mul_assoc]
    omega
  omega
/-! ### stretches of ints -/
theorem rng_succ (a : Int) (n : Nat) : rng a (n + 1) = rng a n ++ [a + (n : Int)] := by
  unfold rng
  rw [List.range_succ, List.map_append]
  rfl
theorem rng_append (a : Int) (m : Nat) : ∀ n : Nat, rng a (m + n) = rng a m ++ rng (a + (m : Int)) n
  | 0 => by
    show rng a m = rng a m ++ []
    rw [List.append_nil]
  | n + 1 => by
    rw [← Nat.add_assoc, rng_succ, rng_append a m n, rng_succ, List.append_assoc]
    have e : a + ((m + n : Nat) : Int) = a + (m : Int) + (n : Int) := by omega
    rw [e]
theorem rng_mem {a : Int} {n : Nat} {x : Int} (h : x ∈ rng a n) : a ≤ x ∧ x < a + (n : Int) := by
  unfold rng at h
  obtain ⟨k, hk, rfl⟩ := List.mem_map.mp h
  have := List.mem_range.mp hk
  omega
/-- those of a stretch that lie in another one -/
theorem filter_rng {p : Int → Bool} {f l : Int} {n : Nat} (h0 : 0 ≤ f) (h1 : f ≤ l) (h2 : l < (n : Int)) (hp : ∀ x, 0 ≤ x → x < (n : Int) → (p x = true ↔ f ≤ x ∧ x ≤ l)) : (rng 0 n).filter p = rng f (l + 1 - f).toNat := by
  obtain ⟨a, ha⟩ : ∃ a : Nat, (a : Int) = f := ⟨f.toNat, by omega⟩
  obtain ⟨b, hb⟩ : ∃ b : Nat, (b : Int) = l + 1 - f := ⟨(l + 1 - f).toNat, by omega⟩
  obtain ⟨c, hc⟩ : ∃ c : Nat, (c : Int) = (n : Int) - (l + 1) := ⟨((n : Int) - (l + 1)).toNat, by omega⟩
  have en : n = a + (b + c) := by omega
  have eb : (l + 1 - f).toNat = b := by omega
  rw [eb, en, rng_append, rng_append, List.filter_append, List.filter_append]
  have e1 : (rng 0 a).filter p = [] := by
    rw [List.filter_eq_nil_iff]
    intro x hx hpx
    have := rng_mem hx
    have := (hp x (by omega) (by omega)).mp hpx
    omega
  have e2 : (rng (0 + (a : Int)) b).filter p = rng (0 + (a : Int)) b := by
    rw [List.filter_eq_self]
    intro x hx
    have := rng_mem hx
    exact (hp x (by omega) (by omega)).mpr (by omega)
  have e3 : (rng (0 + (a : Int) + (b : Int)) c).filter p = [] := by
    rw [List.filter_eq_nil_iff]
    intro x hx hpx
    have := rng_mem hx
    have := (hp x (by omega) (by omega)).mp hpx
    omega
  rw [e1, e2, e3, List.nil_append, List.append_nil, Int.zero_add, ha]
theorem rng_first {a : Int} {n : Nat} (h : 0 < n) : atI ((rng a n).map Dt.int) 0 = some (.int a) := by
  refine atI_nat (j := 0) ?_
  unfold rng
  rw [List.getElem?_map, List.getElem?_map, List.getElem?_range h]
  simp
theorem rng_last {a : Int} {n : Nat} (h : 0 < n) : atI ((rng a n).map Dt.int) (-1) = some (.int (a + (n : Int) - 1)) := by
  obtain ⟨m, rfl⟩ : ∃ m, n = m + 1 := ⟨n - 1, by omega⟩
  rw [rng_succ, List.map_append]
  have e : a + ((m + 1 : Nat) : Int) - 1 = a + (m : Int) := by omega
  rw [e]
  exact atI_last _ _
theorem filter_map_int (p : Dt → Bool) (ns : List Int) : (ns.map Dt.int).filter p = (ns.filter fun n => p (.int n)).map Dt.int := by
  rw [List.filter_map]
  rfl
end Ev
namespace Ev
open PySem L2 DL
def win (s p n : Int) : Dt := .tup [.int (n * p / s), .int (-(-(n + 1) * p / s) - 1)]
theorem comp_ints {ss : List Int} {f : Dt → Dt} {g : Int → Dt} (h : ∀ s ∈ ss, f (.int s) = g s) : (((ss.map Dt.int).filter fun _ => true).map f) = ss.map g := by
  rw [List.filter_eq_self.mpr (fun _ _ => rfl), List.map_map]
  exact List.map_congr_left h
theorem int_at {ss : List Int} {j : Nat} {d : Dt} (h : (ss.map Dt.int)[j]? = some d) : ∃ s, ss[j]? = some s ∧ d = .int s ∧ s ∈ ss := by
  rw [List.getElem?_map] at h
  cases e : ss[j]? with
  | none => rw [e] at h; cases h
  | some s =>
    rw [e] at h
    cases h
    exact ⟨s, rfl, rfl, List.mem_of_getElem? e⟩
theorem share_at {ss : List Int} {i : Int} (h1 : 0 ≤ i) (h2 : i < (ss.length : Int)) : atI (ss.map Dt.int) i = some (.int (ss.getD i.toNat 0)) := by
  obtain ⟨j, rfl⟩ : ∃ j : Nat, i = (j : Int) := ⟨i.toNat, by omega⟩
  have hl : j < ss.length := by omega
  refine atI_nat ?_
  rw [List.getElem?_map, Int.toNat_natCast, List.getD_eq_getElem?_getD, List.getElem?_eq_getElem hl]
  rfl
theorem share_mem {ss : List Int} {i : Int} (h1 : 0 ≤ i) (h2 : i < (ss.length : Int)) : ss.getD i.toNat 0 ∈ ss := by
  have hl : i.toNat < ss.length := by omega
  rw [List.getD_eq_getElem?_getD, List.getElem?_eq_getElem hl]
  exact List.getElem_mem hl
/-- a right load, one of its processes, a moment -/
def LPN (ds : List Dt) (p q : Int) (ss : List Int) (i n : Int) : Prop := LoadOk p q ss ∧ 0 ≤ i ∧ i < (ss.length : Int) ∧ 0 ≤ n ∧ Bd 1500 n ∧ ds = [load p q ss, .int i, .int n]
def due (s q n : Int) : Dt := .tup [.int (s * n / q), .int (-(-s * n / q))]
def R_source (ds ls : List Dt) : Prop := ∃ c k : Int, ds = [.int c, .int k] ∧ 0 ≤ k ∧ k ≤ 100 ∧ ls = (src c k).ls
def R_draw (ls ds : List Dt) (d : Dt) (ls' : List Dt) : Prop := ∃ (s : Src) (n : Int) (m : Nat), s.Ok m ∧ m ≤ 1000000 ∧ 0 < n ∧ Bd 2000 n ∧ ls = s.ls ∧ ds = [.int n] ∧ d = .int (draw s n).1 ∧ ls' = (draw s n).2.ls
def R_parts (ls ds : List Dt) (d : Dt) (ls' : List Dt) : Prop := ∃ (s : Src) (whole often far : Int) (m : Nat), s.Ok m ∧ m ≤ 900000 ∧ 1 ≤ far ∧ far ≤ MP ∧ 0 ≤ often ∧ often ≤ 100 ∧ Fits far often.toNat whole ∧ ls = s.ls ∧ ds = [.int whole, .int often, .int far] ∧
  d = .lst ((parts far often.toNat whole s).1.map Dt.int) ∧ ls' = (parts far often.toNat whole s).2.ls
theorem mp_bd {x : Int} (h1 : 0 ≤ x) (h2 : x ≤ MP) : Bd 110 x := by
  unfold Bd
  have e : (2 : Nat) ^ 110 = 1298074214633706907132624082305024 := by decide
  rw [e]
  unfold MP at h2
  omega
def R_load (ls ds : List Dt) (d : Dt) (ls' : List Dt) : Prop := ∃ (s : Src) (units span most : Int) (m : Nat), s.Ok m ∧ m ≤ 800000 ∧ 1 ≤ units ∧ units ≤ 12 ∧ 1 ≤ span ∧ span ≤ MP ∧ 1 ≤ most ∧ most ≤ 12 ∧ ls = s.ls ∧ ds = [.int units, .int span, .int most] ∧
  d = load units span (loadOf s units span most).1 ∧ ls' = (loadOf s units span most).2.ls
/-- drawn small loads -/
def unitsOf (x : Int) : Int := [1, 1, 2, 3].getD x.toNat 0
theorem units_at {x : Int} (h0 : 0 ≤ x) (h1 : x < 4) : atI [Dt.int 1, Dt.int 1, Dt.int 2, Dt.int 3] x = some (.int (unitsOf x)) ∧ 1 ≤ unitsOf x ∧ unitsOf x ≤ 3 := by
  have h : x = 0 ∨ x = 1 ∨ x = 2 ∨ x = 3 := by omega
  rcases h with rfl | rfl | rfl | rfl <;> exact ⟨rfl, by decide, by decide⟩
structure Sml where
  u : Int
  q : Int
  ss : List Int
  s : Src
def small (s : Src) (far : Int) : Sml :=
  let x := draw s 4
  let y := draw x.2 far
  let r := loadOf y.2 (unitsOf x.1) (1 + y.1) 6
  ⟨unitsOf x.1, 1 + y.1, r.1, r.2⟩
theorem small_ok {s : Src} {far : Int} {n : Nat} (k : s.Ok n) (h1 : 1 ≤ far) (h2 : far ≤ MP) : LoadOk (small s far).u (small s far).q (small s far).ss ∧ (small s far).s.Ok (n + 17) ∧ (small s far).u ≤ 3 ∧ (small s far).q ≤ far ∧ (small s far).ss.length ≤ 6 := by
  have x0 := draw_lo s (show (0 : Int) < 4 by decide)
  have x1 := draw_hi s (show (0 : Int) < 4 by decide)
  have kx := draw_ok k (show (0 : Int) < 4 by decide)
  have y0 := draw_lo (draw s 4).2 (show 0 < far by omega)
  have y1 := draw_hi (draw s 4).2 (show 0 < far by omega)
  have ky := draw_ok kx (show 0 < far by omega)
  obtain ⟨_, u1, u2⟩ := units_at x0 x1
  obtain ⟨l1, l2, l3⟩ := loadOf_spec ky u1 (by omega) (show 1 ≤ 1 + (draw (draw s 4).2 far).1 by omega) (by omega) (show (1 : Int) ≤ 6 by decide) (by decide)
  refine ⟨l1, l2.up (by omega), u2, ?_, ?_⟩
  · show 1 + _ ≤ far
    omega
  · show (loadOf _ _ _ _).1.length ≤ 6
    omega
def R_small (ls ds : List Dt) (d : Dt) (ls' : List Dt) : Prop := ∃ (s : Src) (far : Int) (m : Nat), s.Ok m ∧ m ≤ 700000 ∧ 1 ≤ far ∧ far ≤ MP ∧ ls = s.ls ∧ ds = [.int far] ∧ d = load (small s far).u (small s far).q (small s far).ss ∧ ls' = (small s far).s.ls
def fitsB (s q n t : Int) : Bool := decide (s * t < q * (n + 1)) && decide (q * n < s * (t + 1))
def R_fits (ds : List Dt) (r : Res) : Prop := ∃ s q n t : Int, ds = [.int s, .int q, .int n, .int t] ∧ Bd 200 s ∧ Bd 200 q ∧ Bd 200 n ∧ Bd 200 t ∧ r = .ret (.bl (fitsB s q n t))
theorem CompOk.cast {X : Cx} {ρ ρ1 : List Sl} {elt tg iter : Expr} {ifs : List Expr} {scope : Scope} {own : List (Str × Nat)} {a b : List Dt} (e : a = b) (h : CompOk X ρ elt tg iter ifs scope own a ρ1) : CompOk X ρ elt tg iter ifs scope own b ρ1 := e ▸ h
def right (s : Src) (far : Int) : Src := (draw (small s far).s ((small s far).ss.length : Int)).2
theorem right_ok {s : Src} {far : Int} {n : Nat} (k : s.Ok n) (h1 : 1 ≤ far) (h2 : far ≤ MP) : (right s far).Ok (n + 18) := by
  obtain ⟨l, k2, _⟩ := small_ok k h1 h2
  have := l.l1
  exact (draw_ok k2 (show (0 : Int) < ((small s far).ss.length : Int) by omega)).up (by omega)
def R_right (ls ds : List Dt) (d : Dt) (ls' : List Dt) : Prop := ∃ (s : Src) (far : Int) (m : Nat), s.Ok m ∧ m ≤ 600000 ∧ 1 ≤ far ∧ far ≤ 1000 ∧ ls = s.ls ∧ ds = [.int far] ∧ d = .bl true ∧ ls' = (right s far).ls
theorem due_eq {s q n low : Int} (hq : 0 < q) (h1 : low * q ≤ s * n) (h2 : s * n < low * q + q) : due s q n = .tup [.int low, .int (low + b2n (decide (low * q < s * n)))] := by
  have e := div_eq hq h1 h2
  unfold due
  rw [Int.neg_mul, up_eq (s * n) hq, e]
theorem sml_bd {x : Int} (h : -1000000 ≤ x) (h2 : x ≤ 1000000) : Bd 1900 x := (show Bd 20 x by unfold Bd; omega).up (by decide)
theorem five_ok : LoadOk 1 10 [4, 5, 1] := ⟨by decide, by decide, by decide, by decide, by decide, by decide, by decide, by decide⟩
end Ev
namespace DL
open PySem PySem.Spec PyProof.Rows L2
section
variable {X : Cx} {ρ ρ1 ρ2 : List Sl} {e e2 : Expr} {d d' : Dt} {pos p p1 p2 q1 q2 : Pos} {k : Nat} {i j : Int}
/-- the text of an int -/
theorem ve_reprI (hm : X.mg "repr" = none) (ha : VE X ρ e (.int i) ρ1) (hi : Bd 1900 i) (hg : Gl X "repr" := by rfl) (he : starEach [e] X.env = (false, eval e X.env) :: starEach [] X.env := by rfl) :
    VE X ρ (.Call (.Name "repr" p) [e] [] pos) (.str (toString i)) ρ1 :=
  ve_callB SkE.call_repr_int (fun vs H g Q kk rv q => by
    cases rv with
    | cons r1 r2 =>
      cases r2
      cases r1
      exact ⟨i, rfl, by have := hi.log; omega, q _ H g kk (Gro.refl g) (Rp.str _)⟩) hm (by decide +kernel) (va_cons ha va_nil he) hg (by decide) (by decide) he
theorem vt_reprNeI (hgd : X.A.guards = some []) (hr : Room k X.A) (hm : X.mg "repr" = none) (ha : VE X ρ e (.int i) ρ1) (hb : VE X ρ1 e2 (.int j) ρ2) (hdd : j = i) (hi : Bd 1900 i) (hg : Gl X "repr" := by rfl)
    (he : starEach [e] X.env = (false, eval e X.env) :: starEach [] X.env := by rfl) (he2 : starEach [e2] X.env = (false, eval e2 X.env) :: starEach [] X.env := by rfl) :
    VT X ρ (.Compare (.Call (.Name "repr" p1) [e] [] q1) [.NotEq] [.Call (.Name "repr" p2) [e2] [] q2] pos) false ρ2 := by
  subst hdd
  exact VT.to (vt_neS (ve_reprI hm ha hi hg he) (ve_reprI hm hb hi hg he2)) (by rw [decide_eq_true rfl]; rfl)
/-- == and != of equal small data -/
theorem ve_eqDS {d' : Dt} (hr : Room k X.A) (ha : VE X ρ e d ρ1) (hb : VE X ρ1 e2 d' ρ2) (hdd : d' = d) (hs : d.Sm) (hd : Nat.ble d.dep 64 = true := by rfl) : VE X ρ (.Compare e [.Eq] [e2] pos) (.bl true) ρ2 := by
  subst hdd
  have h := shaped_of hs (Nat.le_of_ble_eq_true hd)
  exact VE.to (ve_eqD hr ha hb (sm_plain _ hs) (sm_plain _ hs) h h) (by rw [eqv_same hs])
theorem vt_eqDS {d' : Dt} (hr : Room k X.A) (ha : VE X ρ e d ρ1) (hb : VE X ρ1 e2 d' ρ2) (hdd : d' = d) (hs : d.Sm) (hd : Nat.ble d.dep 64 = true := by rfl) : VT X ρ (.Compare e [.Eq] [e2] pos) true ρ2 := by
  subst hdd
  have h := shaped_of hs (Nat.le_of_ble_eq_true hd)
  exact VT.to (vt_eqD hr ha hb (sm_plain _ hs) (sm_plain _ hs) h h) (eqv_same hs)
theorem vt_neDS {d' : Dt} (hr : Room k X.A) (ha : VE X ρ e d ρ1) (hb : VE X ρ1 e2 d' ρ2) (hdd : d' = d) (hs : d.Sm) (hd : Nat.ble d.dep 64 = true := by rfl) : VT X ρ (.Compare e [.NotEq] [e2] pos) false ρ2 := by
  subst hdd
  have h := shaped_of hs (Nat.le_of_ble_eq_true hd)
  exact VT.to (vt_neD hr ha hb (sm_plain _ hs) (sm_plain _ hs) h h) (by rw [eqv_same hs]; rfl)
end
end DL
namespace DL
open PySem PySem.Spec PyProof.Rows L2
/-- a list that was changed will stand from now on -/
def G.rest (g : G) (p : Addr) (o : HO) : G := ⟨upd g.S p o, fun q => if q = p then none else g.M q⟩
section
variable {X : Cx} {Z : Fx} {ρ : List Sl} {κ : KD} {ds : List Dt} {st : List Stmt}
theorem wss_frz (i : Nat) (k : WSs X Z (ρ.set i (.d (.lst ds))) st κ) (hi : ρ[i]? = some (.o ds) := by rfl) : WSs X Z ρ st κ := by
  obtain ⟨t, pt, q⟩ := k
  refine ⟨t, pt, fun σ H g D kk r f kd => ?_⟩
  obtain ⟨v, hv, p, rfl, hm⟩ := r.sl i _ hi
  obtain ⟨hs, xs, hx, ra⟩ := kk.2 p ds hm
  have own : OwnAt σ ρ p := ⟨i, _, hi, hv⟩
  have st' : Same g.S (g.rest p (.lst xs)).S := fun b u e => by show upd g.S p _ b = some u; rw [upd_ne (ne_of_none e hs)]; exact e
  have mne : ∀ q, q ≠ p → (g.rest p (.lst xs)).M q = g.M q := fun q hq => by show (if q = p then none else g.M q) = g.M q; rw [if_neg hq]
  have kk' : GOk X.K (g.rest p (.lst xs)) H := by
    refine ⟨fun b u e => ?_, fun q es e => ?_⟩
    · by_cases hb : b = p
      · subst hb
        have e' : upd g.S b (HO.lst xs) b = some u := e
        rw [upd_same] at e'
        rw [← e', hx]
      · have e' : upd g.S p (HO.lst xs) b = some u := e
        rw [upd_ne hb] at e'
        exact kk.1 b u e'
    · have e' : (if q = p then none else g.M q) = some es := e
      by_cases hq : q = p
      · rw [if_pos hq] at e'; cases e'
      · rw [if_neg hq] at e'
        obtain ⟨h1, ys, h2, h3⟩ := kk.2 q es e'
        exact ⟨by show upd g.S p _ q = none; rw [upd_ne hq]; exact h1, ys, h2, h3.mono st'⟩
  have eσ : σ.set i (some (V.ref p)) = σ := by
    refine List.ext_getElem? fun j => ?_
    by_cases hj : i = j
    · subst hj
      rw [List.getElem?_set_self (List.getElem?_eq_some_iff.mp hv).1, hv]
    · rw [List.getElem?_set_ne hj]
  have sl' : ∀ (j : Nat) (s : Sl), (ρ.set i (.d (.lst ds)))[j]? = some s → ∃ v, σ[j]? = some v ∧ SlOk X.K (g.rest p (.lst xs)) v s := fun j s e => by
    by_cases hj : i = j
    · subst hj
      rw [List.getElem?_set_self (List.getElem?_eq_some_iff.mp hi).1] at e
      cases e
      exact ⟨_, hv, V.ref p, rfl, Rp.lst (SqX.of upd_same) (ra.mono st')⟩
    · rw [List.getElem?_set_ne hj] at e
      obtain ⟨w, w1, w2⟩ := r.sl j s e
      refine ⟨w, w1, ?_⟩
      cases s with
      | no => trivial
      | d x =>
        obtain ⟨u, e1, e2⟩ := w2
        exact ⟨u, e1, e2.mono st'⟩
      | o es =>
        obtain ⟨b, rfl, e2⟩ := w2
        have hb : b ≠ p := fun z => r.ne i j _ _ p hj hi e hv (z ▸ w1)
        exact ⟨b, rfl, by rw [mne b hb]; exact e2⟩
      | i b es =>
        obtain ⟨rfl, e2⟩ := w2
        have hb : b ≠ p := fun z => r.ne i j _ _ p hj hi e hv (z ▸ w1)
        exact ⟨rfl, by rw [mne b hb]; exact e2⟩
      | t cs y =>
        obtain ⟨⟨u, z1, z2⟩, nd, z3⟩ := w2
        exact ⟨⟨u, z1, z2.mono st'⟩, nd, fun b es hb => by rw [mne b (fun z => r.ne i j _ _ p hj hi e hv (List.mem_map.mpr ⟨(b, es), hb, z⟩))]; exact z3 b es hb⟩
  have off : ∀ (m : Nat) (y : Sl) (q : Addr), (ρ.set i (.d (.lst ds)))[m]? = some y → Adr σ m y q → m ≠ i ∧ ρ[m]? = some y := fun m y q a b => by
    by_cases hm : i = m
    · subst hm
      rw [List.getElem?_set_self (List.getElem?_eq_some_iff.mp hi).1] at a
      cases a
      cases b
    · rw [List.getElem?_set_ne hm] at a
      exact ⟨fun z => hm z.symm, a⟩
  have r' : Rep X.K (g.rest p (.lst xs)) σ (ρ.set i (.d (.lst ds))) := by
    refine ⟨by rw [List.length_set]; exact r.len, sl', fun j l s t b n h1 h2 w1 w2 => ?_⟩
    exact r.ne j l s t b n (off j s b h1 w1).2 (off l t b h2 w2).2 w1 w2
  have f' : FrOk Z σ (ρ.set i (.d (.lst ds))) (g.rest p (.lst xs)) := by
    refine ⟨f.st.trans st', fun b es n e => ?_, fun b ⟨m, y, a1, a2⟩ => f.ow b ⟨m, y, (off m y b a1 a2).2, a2⟩⟩
    have hb : b ≠ p := fun z => by
      rcases f.ow p own with h | h
      · exact n (z ▸ h)
      · rw [z, h] at e; cases e
    rw [mne b hb]
    exact f.mu b es n e
  exact q σ H _ D kk' r' f' (kd.mono st')
end
end DL
/-! ### list(range(a, b)) for bounds of any size -/
namespace PySem
open Sem (wp)
section
variable {prog : Program} {w : World} {A : Around} {E : Value → Shared → Prop} {s : Shared}
theorem ext_longR {R : Result → Shared → Prop} {rg : Addr} {lo up st : Int} {t1 t2 t3 : Tok} {n : Nat} (hh : A.handled = none) (hg : IsRange s.heap rg lo up st t1 t2 t3) (big : Builtin.Range.small lo up st = false) (hn : Builtin.Range.rangeSize lo up st = n) (hz : n ≤ 2 ^ 24) (L : Addr) (res : Value) (c0 : Nat) (hL : s.heap.get? L = some { cls := .type "list", data := .seq #[] c0 })
    (hR : ∀ (hp : Heap) (tk : Nat) (xs : Array Value) (c : Nat), (∀ b o, b ≠ L → s.heap.get? b = some o → hp.get? b = some o) → hp.get? L = some { cls := .type "list", dict := none, data := .seq xs c, slots := #[] } → ItemsOf (fun i v => ∃ t, v = .int (lo + i * st) t) xs n → R (.ok (.ret res)) { s with heap := hp, toks := tk }) :
    wpAny (model prog w) A.in1 (Builtin.List.listExtendWith (.ref L) (.ref rg) res) (fun fin s' => match fin with | .done f => R (.ok f) s' | .again c' => c'.quiet = true ∧ codeAny (model prog w) A c' R s') (fun e s' => R (.error e) s') s := by
  have dif : L ≠ rg := fun e => by rw [e, hg] at hL; simp at hL
  have old : L < s.heap.objs.size := Heap.lt_size hL
  have dif2 : L ≠ s.heap.objs.size := Nat.ne_of_lt old
  have out : L ∉ [s.heap.objs.size] := fun m => dif2 (List.mem_singleton.mp m)
  have wk := (Walks.longrange (prog := prog) (w := w) (A := A.in1) hh s.heap.objs.size lo st n).toS
  have run : ∀ (hp : Heap) (c1 tk : Nat), IsLongIter hp s.heap.objs.size (lo + ((0 : Nat) : Int) * st) ((n : Int) - ((0 : Nat) : Int)) st → (∀ b o, b ≠ L → s.heap.get? b = some o → hp.get? b = some o) →
      hp.get? L = some { cls := .type "list", data := .seq #[] c1 } → codeAny (model prog w) A (.builtin "list.extend.loop" ⟨[.ref L, .ref s.heap.objs.size, res], []⟩) R { s with heap := hp, toks := tk } := by
    intro hp c1 tk it keep hL1
    refine codeAny_extend_loopS wk (by rw [sizeLine_eq]; omega) L out res n 0 _ #[] c1 rfl (Nat.zero_le _) it hL1 (ItemsOf.nil _) fun s2 xs c mv hL2 ys => ?_
    rw [Moved.eq_with mv]
    refine hR s2.heap s2.toks xs c (fun b o nb e => mv.heap b o (fun m => ?_) (keep b o nb e)) hL2 ys
    rcases List.mem_cons.mp m with z | z
    · exact nb z
    · exact absurd (Heap.lt_size e) (by rw [List.mem_singleton.mp z]; exact Nat.lt_irrefl _)
  unfold Builtin.List.listExtendWith
  refine wpAny_bind (wpAny_typeOf (T := "range") ⟨_, hg, rfl⟩ ?_)
  have n1 : Builtin.List.listSameRef (.ref L) (.ref rg) = false := by simp [Builtin.List.listSameRef, dif]
  have n2 : (Value.type "range" == Value.type "list") = false := by decide
  have n3 : (Value.type "range" == Value.type "tuple") = false := by decide
  simp only [n1, n2, n3, Bool.or_false, Bool.false_eq_true, if_false]
  refine wpAny_bind (wpAny_pyIter_longrange hg big ?_)
  refine wpAny_bind (wpAny_holding (wpAny_hint_range (n := n) (Heap.get?_push_of_some _ hg) hn hz ?_))
  have it1 : IsLongIter (s.heap.push { cls := .type "longrange_iterator", data := .fields #[rawInt lo, rawInt (Builtin.Range.rangeSize lo up st), rawInt st] }) s.heap.objs.size (lo + ((0 : Nat) : Int) * st) ((n : Int) - ((0 : Nat) : Int)) st := by
    show IsLongIter _ _ _ _ _
    rw [hn]
    simpa using Heap.get?_push_size _ rfl
  have hL1 := Heap.get?_push_of_some { cls := .type "longrange_iterator", data := .fields #[rawInt lo, rawInt (Builtin.Range.rangeSize lo up st), rawInt st] } hL
  refine wpAny_ite_split (fun _ => ?_) (fun _ => wpAny_pure ⟨plainId_quiet F.plain_extend_loop _, run _ c0 _ it1 (fun b o _ e => Heap.get?_push_of_some _ e) hL1⟩)
  refine wpAny_bind (wpAny_rule (wpAny_bind ?_))
  show wpAny _ _ (updateSeq L (·.push .none) >>= fun _ => updateSeq L (·.pop)) _ _ _
  refine wpAny_bind (wpAny_updateSeq hL1 rfl ?_)
  have hL2 := Heap.get?_update_self (Obj.mapSeq (·.push Value.none)) hL1 rfl
  refine wpAny_updateSeq (hz := by seq_fits) hL2 rfl ?_
  have hL3 := Heap.get?_update_self (Obj.mapSeq (·.pop)) hL2 rfl
  refine wpAny_pure ⟨plainId_quiet F.plain_extend_loop _, run _ _ _ ?_ (fun b o nb e => ?_) hL3⟩
  · exact (Heap.get?_update_other _ _ dif2).trans ((Heap.get?_update_other _ _ dif2).trans it1)
  · exact (Heap.get?_update_other _ _ (Ne.symm nb)).trans ((Heap.get?_update_other _ _ (Ne.symm nb)).trans (Heap.get?_push_of_some _ e))
theorem init_longR {R : Result → Shared → Prop} {rg : Addr} {lo up st : Int} {t1 t2 t3 : Tok} {n : Nat} (hh : A.handled = none) (hg : IsRange s.heap rg lo up st t1 t2 t3) (big : Builtin.Range.small lo up st = false) (hn : Builtin.Range.rangeSize lo up st = n) (hz : n ≤ 2 ^ 24) (L : Addr) (hL : s.heap.get? L = some { cls := .type "list", data := .seq #[] })
    (hR : ∀ (hp : Heap) (tk : Nat) (xs : Array Value) (c : Nat), (∀ b o, b ≠ L → s.heap.get? b = some o → hp.get? b = some o) → hp.get? L = some { cls := .type "list", dict := none, data := .seq xs c, slots := #[] } → ItemsOf (fun i v => ∃ t, v = .int (lo + i * st) t) xs n → R (.ok (.ret .none)) { s with heap := hp, toks := tk }) :
    wpAny (model prog w) A.in1 (Builtin.«list.__init__» ⟨[.ref L, .ref rg], []⟩) (fun fin s' => match fin with | .done f => R (.ok f) s' | .again c' => c'.quiet = true ∧ codeAny (model prog w) A c' R s') (fun e s' => R (.error e) s') s := by
  have dif : L ≠ rg := fun e => by rw [e, hg] at hL; simp at hL
  show wpAny _ _ (do let old ← Builtin.List.listItems (.ref L); Builtin.List.listUpdate (.ref L) (fun _ => #[]); letGo old.toList.reverse; Builtin.List.listExtendWith (.ref L) (.ref rg) .none) _ _ s
  refine wpAny_bind ?_
  unfold Builtin.List.listItems
  refine wpAny_bind (wpAny_seqItems hL rfl (wpAny_pure ?_))
  show wpAny _ _ (updateSeq L (fun _ => #[]) >>= fun _ => letGo (#[] : Array Value).toList.reverse >>= fun _ => Builtin.List.listExtendWith (.ref L) (.ref rg) .none) _ _ s
  refine wpAny_bind (wpAny_updateSeq hL rfl ?_)
  have hL2 := Heap.get?_update_self (Obj.mapSeq (fun _ => (#[] : Array Value))) hL rfl
  have oth : ∀ b o, b ≠ L → s.heap.get? b = some o → (s.heap.update L (Obj.mapSeq (fun _ => (#[] : Array Value)))).get? b = some o :=
    fun b o nb e => (Heap.get?_update_other _ _ (Ne.symm nb)).trans e
  refine wpAny_bind (wpAny_letGo (ext_longR hh (oth rg _ (Ne.symm dif) hg) big hn hz L .none _ hL2 fun hp tk xs c keep hL3 ys => ?_))
  exact hR hp tk xs c (fun b o nb e => keep b o nb (oth b o nb e)) hL3 ys
theorem call_list_longR {Q : Value → Shared → Prop} {rg : Addr} {lo up st : Int} {t1 t2 t3 : Tok} {n : Nat} (hh : A.handled = none) (hg : IsRange s.heap rg lo up st t1 t2 t3) (big : Builtin.Range.small lo up st = false) (hn : Builtin.Range.rangeSize lo up st = n) (hz : n ≤ 2 ^ 24)
    (hQ : ∀ (hp : Heap) (tk : Nat) (xs : Array Value) (c : Nat), (∀ b o, s.heap.get? b = some o → hp.get? b = some o) → hp.get? s.heap.objs.size = some { cls := .type "list", dict := none, data := .seq xs c, slots := #[] } → ItemsOf (fun i v => ∃ t, v = .int (lo + i * st) t) xs n → Q (.ref s.heap.objs.size) { s with heap := hp, toks := tk }) :
    wpAny (model prog w) A (call (.type "list") [.ref rg]) Q E s := by
  refine callType_codes (Q₁ := fun obj z => obj = .ref s.heap.objs.size ∧ z = { s with heap := s.heap.push { cls := .type "list", data := .seq #[] } }) F.called_list (F.typeCall_list_1 _) F.entry_list_init (code_list_new _ ⟨rfl, rfl⟩) fun obj z hz1 => ?_
  obtain ⟨rfl, rfl⟩ := hz1
  have hL : (s.heap.push { cls := .type "list", data := .seq #[] }).get? s.heap.objs.size = some { cls := .type "list", data := .seq #[] } := Heap.get?_push_size _ rfl
  refine ⟨⟨_, hL, rfl⟩, F.args_list_init_2 _ _, init_longR (A := A.in1) hh (Heap.get?_push_of_some _ hg) big hn hz _ hL fun hp tk xs c keep hL3 ys => ?_⟩
  exact ⟨rfl, hQ hp tk xs c (fun b o e => keep b o (Nat.ne_of_lt (Heap.lt_size e)) (Heap.get?_push_of_some _ e)) hL3 ys⟩
end
end PySem
namespace DL
open PySem PySem.Spec PyProof.Rows L2
def RgAny (a b : Int) : Prop := (b - a).toNat ≤ 2 ^ 24
section
variable {X : Cx} {e : Expr} {te : L2.St → Hp → (Int → Int → Hp → Prop) → Prop}
def tLstAny (te : L2.St → Hp → (Int → Int → Hp → Prop) → Prop) : TE := fun σ H Q => te σ H fun a b H1 => RgAny a b ∧ ∀ q, H1 q = none → Q (.ref q) (upd H1 q (.lst (rgV a b)))
theorem pe_listAny {p pos : Pos} (hc : X.calm = true) (hg : Gl X "list") (hm : X.mg "list" = none) (he : PRg X e te) (na : starEach [e] X.env = (false, eval e X.env) :: starEach [] X.env := by rfl) : PE X (.Call (.Name "list" p) [e] [] pos) (tLstAny te) := by
  refine ⟨fun pins s σ H Q I h => ?_⟩
  refine Call_ (ld_blt I hg hm boot_list (PyProof.Rows.callWith_type1 (args_cons (thn (he pins s σ H _ I h) fun x z ⟨r, a, b, t, u, v, H1, ex, hr, I1, ok, q⟩ => args_nil ?_) na) na))
  subst ex
  have fin : ∀ (h' : Heap) (tk : Nat) (acc : Array Value) (c' : Nat), (∀ b o, z.heap.get? b = some o → h'.get? b = some o) → h'.get? z.heap.objs.size = some { cls := .type "list", dict := none, data := .seq acc c', slots := #[] } → ItemsOf (fun i v => ∃ t, v = .int (a + i * 1) t) acc (b - a).toNat →
      EP X pins σ Q (.ref z.heap.objs.size) { z with heap := h', toks := tk } := fun h' tk acc c' hk e' hi => by
    refine ⟨.ref z.heap.objs.size, upd H1 z.heap.objs.size (.lst (rgV a b)), I1.laid hk (Nat.le_refl _) (show ObjOk X.prog X.w _ _ _ (.lst (rgV a b)) from ⟨?_, acc.toList, c', vals_rg hi, ?_⟩), rfl, q _ (I1.hok.fresh (Nat.le_refl _))⟩
    · have ok' : (b - a).toNat ≤ 2 ^ 24 := ok
      rw [rgV_length, sizeLine_eq]
      omega
    · rw [Array.toArray_toList]
      exact e'
  cases sm : Builtin.Range.small a b 1 with
  | true => exact call_list_range (n := (b - a).toNat) (I1.ok.hd hc) hr sm (rangeSize_nat a b) ok fin
  | false => exact call_list_longR (n := (b - a).toNat) (I1.ok.hd hc) hr sm (rangeSize_nat a b) ok fin
end
section
variable {X : Cx} {ρ ρ1 ρ2 : List Sl} {e e2 : Expr} {pos p : Pos}
theorem vl_rangeAny {m n : Int} {pr pos' : Pos} (hc : X.calm = true) (hm : X.mg "list" = none) (hm2 : X.mg "range" = none) (ha : VE X ρ e (.int m) ρ1) (hb : VE X ρ1 e2 (.int n) ρ2) (hbd : (n - m).toNat ≤ 2 ^ 24) (hg : Gl X "list" := by rfl) (hg2 : Gl X "range" := by rfl) (na : starEach [e, e2] X.env = (false, eval e X.env) :: starEach [e2] X.env := by rfl) (nb : starEach [e2] X.env = (false, eval e2 X.env) :: starEach [] X.env := by rfl)
    (hp : (backTo pos' (starEach [e2] X.env)).any (·.1) = false := by rfl) (na2 : starEach [.Call (.Name "range" pr) [e, e2] [] pos'] X.env = (false, eval (.Call (.Name "range" pr) [e, e2] [] pos') X.env) :: starEach [] X.env := by rfl) : VL X ρ (.Call (.Name "list" p) [.Call (.Name "range" pr) [e, e2] [] pos'] [] pos) ((rng m (n - m).toNat).map Dt.int) ρ2 := by
  obtain ⟨t, pa, qa⟩ := ha
  obtain ⟨t2, pb, qb⟩ := hb
  refine ⟨_, pe_listAny hc hg hm (prg_2 hg2 hm2 pa pb na nb hp) na2, fun σ H g Q k rp q => qa σ H g _ k rp fun v H1 g1 k1 e1 r1 rv => qb σ H1 g1 _ k1 r1 fun u H2 g2 k2 e2 r2 ru => ?_⟩
  cases rv
  cases ru
  refine ⟨m, n, rfl, rfl, hbd, fun l hl => ?_⟩
  obtain ⟨f1, f2⟩ := k2.free hl
  refine q l _ _ g2 (k2.upd hl) (e1.trans e2) r2 upd_same f1 f2 ?_
  rw [rgV_rng]
  exact RpAll.of_ints _
end
end DL
namespace DL
open PySem PySem.Spec PyProof.Rows L2
theorem inV_ints (i : Int) : ∀ ns : List Int, inV (V.int i) (ns.map V.int) = decide (i ∈ ns)
  | [] => by simp [inV]
  | n :: ns => by
    have ih := inV_ints i ns
    unfold inV at ih ⊢
    rw [List.map_cons, List.any_cons, ih]
    show ((n == i) || decide (i ∈ ns)) = decide (i ∈ n :: ns)
    by_cases h : n = i
    · subst h
      simp
    · have h' : ¬ i = n := fun z => h z.symm
      simp [h, h']
theorem flat_ints : ∀ ns : List Int, (ns.map V.int).all flatV = true
  | [] => rfl
  | n :: ns => by rw [List.map_cons, List.all_cons, flat_ints ns]; rfl
section
variable {X : Cx} {ρ ρ1 ρ2 : List Sl} {a b : Expr} {pos : Pos} {i : Int} {ns : List Int}
theorem ve_inI (ha : VE X ρ a (.int i) ρ1) (hb : VE X ρ1 b (.lst (ns.map Dt.int)) ρ2) (hm : behindInMarks .In b = false := by rfl) : VE X ρ (.Compare a [.In] [b] pos) (.bl (decide (i ∈ ns))) ρ2 :=
  ve_cmp op_in_seq (fun v u H g Q kk rv ru q => by
    cases rv
    cases ru with
    | lst h1 h2 =>
      cases RpAll.ints h2
      exact ⟨_, _, rfl, .inl (sqx_mono kk.1 h1).l, rfl, flat_ints ns, q _ H g kk (Gro.refl g) (by rw [inV_ints]; exact Rp.bl _)⟩) hm ha hb
theorem vt_inI (ha : VE X ρ a (.int i) ρ1) (hb : VE X ρ1 b (.lst (ns.map Dt.int)) ρ2) (hm : behindInMarks .In b = false := by rfl) : VT X ρ (.Compare a [.In] [b] pos) (decide (i ∈ ns)) ρ2 :=
  vt_cmp op_in_seq (fun v u H g Q kk rv ru q => by
    cases rv
    cases ru with
    | lst h1 h2 =>
      cases RpAll.ints h2
      exact ⟨_, _, rfl, .inl (sqx_mono kk.1 h1).l, rfl, flat_ints ns, q _ H g kk (Gro.refl g) (by rw [inV_ints]; exact Rp.bl _)⟩) hm ha hb
end
end DL
namespace DL
open PySem PySem.Spec PyProof.Rows L2
/-! ### structures of own lists: cells (address, items), linked by opq -/
abbrev Cells := List (Addr × List Dt)
/-- new cells: this frame's own, in no slot yet -/
structure NewC (K : PySem.W.Frag) (σ : L2.St) (ρ ρ' : List Sl) (g g' : G) (cs : Cells) : Prop where
  nd : (cs.map (·.1)).Nodup
  hd : ∀ a ds, (a, ds) ∈ cs → g'.M a = some ds
  un : ∀ a, a ∈ cs.map (·.1) → ¬ OwnAt σ ρ' a
  mi : ∀ a, a ∈ cs.map (·.1) → ∀ Z : Fx, FrOk Z σ ρ g → a ∈ Z.I ∨ Z.g0.M a = none
  nw : ∀ a, a ∈ cs.map (·.1) → ∀ es, g.M a = some es → OwnAt σ ρ a
def RN (K : PySem.W.Frag) (t : TE) (ρ : List Sl) (T : Cells → Dt → Prop) (ρ' : List Sl) : Prop :=
  ∀ (σ : L2.St) (H : Hp) (g : G) (Q : VK), GOk K g H → Rep K g σ ρ →
    (∀ v H' g' cs x, GOk K g' H' → Ext σ ρ ρ' g g' → Rep K g' σ ρ' → Rp K g'.S v x → NewC K σ ρ ρ' g g' cs → T cs x → Q v H') → t σ H Q
def RNs (K : PySem.W.Frag) (t : TA) (ρ : List Sl) (T : Cells → List Dt → Prop) (ρ' : List Sl) : Prop :=
  ∀ (σ : L2.St) (H : Hp) (g : G) (Q : List V → Hp → Prop), GOk K g H → Rep K g σ ρ →
    (∀ vs H' g' cs xs, GOk K g' H' → Ext σ ρ ρ' g g' → Rep K g' σ ρ' → RpAll K g'.S vs xs → NewC K σ ρ ρ' g g' cs → T cs xs → Q vs H') → t σ H Q
/-- a new structure -/
def VN (X : Cx) (ρ : List Sl) (e : Expr) (T : Cells → Dt → Prop) (ρ' : List Sl) : Prop := ∃ t, PE X e t ∧ RN X.K t ρ T ρ'
def VNs (X : Cx) (ρ : List Sl) (es : List Expr) (T : Cells → List Dt → Prop) (ρ' : List Sl) : Prop := ∃ t, PA X es t ∧ RNs X.K t ρ T ρ'
section
variable {K : PySem.W.Frag} {σ : L2.St} {ρ ρ1 ρ2 : List Sl} {g g1 g2 : G} {cs ds : Cells}
theorem NewC.nil : NewC K σ ρ ρ1 g g1 [] := ⟨List.nodup_nil, fun _ _ h => (by cases h), fun _ h => (by cases h), fun _ h => (by cases h), fun _ h => (by cases h)⟩
theorem NewC.app (a : NewC K σ ρ ρ1 g g1 cs) (e1 : Ext σ ρ ρ1 g g1) (b : NewC K σ ρ1 ρ2 g1 g2 ds) (e2 : Ext σ ρ1 ρ2 g1 g2) : NewC K σ ρ ρ2 g g2 (cs ++ ds) := by
  have inM : ∀ p, p ∈ cs.map (·.1) → ∃ es, g1.M p = some es := fun p hp => by
    obtain ⟨⟨q, es⟩, h1, rfl⟩ := List.mem_map.mp hp
    exact ⟨es, a.hd _ _ h1⟩
  refine ⟨?_, fun p es h => ?_, fun p h => ?_, fun p h Z f => ?_, fun p h es he => ?_⟩
  · rw [List.map_append]
    refine List.nodup_append.mpr ⟨a.nd, b.nd, fun x hx y hy z => ?_⟩
    subst z
    obtain ⟨es, h1⟩ := inM x hx
    exact a.un x hx (b.nw x hy es h1)
  · rcases List.mem_append.mp h with h | h
    · exact e2.mu p es (a.hd p es h) (a.un p (List.mem_map.mpr ⟨_, h, rfl⟩))
    · exact b.hd p es h
  · rw [List.map_append] at h
    rcases List.mem_append.mp h with h | h
    · exact fun z => a.un p h (e2.ow p z)
    · exact b.un p h
  · rw [List.map_append] at h
    rcases List.mem_append.mp h with h | h
    · exact a.mi p h Z f
    · exact b.mi p h Z (f.ext e1)
  · rw [List.map_append] at h
    rcases List.mem_append.mp h with h | h
    · exact a.nw p h es he
    · by_cases hp : OwnAt σ ρ p
      · exact hp
      · exact (hp (e1.ow p (b.nw p h es (e1.mu p es he hp)))).elim
/-- one cell more, held at last -/
theorem NewC.hold (a : NewC K σ ρ ρ1 g g1 cs) (r : Rep K g1 σ ρ1) (e1 : Ext σ ρ ρ1 g g1) {p : Addr} {xs : List Dt} (hm : g1.M p = none) : NewC K σ ρ ρ1 g (g1.hold p xs) ((p, xs) :: cs) := by
  have inM : ∀ q, q ∈ cs.map (·.1) → ∃ es, g1.M q = some es := fun q hq => by
    obtain ⟨⟨b, es⟩, h1, rfl⟩ := List.mem_map.mp hq
    exact ⟨es, a.hd _ _ h1⟩
  refine ⟨?_, fun q es h => ?_, fun q h => ?_, fun q h Z f => ?_, fun q h es he => ?_⟩
  · rw [List.map_cons]
    refine List.nodup_cons.mpr ⟨fun z => ?_, a.nd⟩
    obtain ⟨es, h1⟩ := inM p z
    rw [hm] at h1
    cases h1
  · rcases List.mem_cons.mp h with h | h
    · cases h
      exact if_pos rfl
    · exact (hold_gro hm).mu q es (a.hd q es h)
  · rw [List.map_cons] at h
    rcases List.mem_cons.mp h with h | h
    · rw [h]
      rintro ⟨m, y, a1, a2⟩
      obtain ⟨es, h1⟩ := adr_held r a1 a2
      rw [hm] at h1
      cases h1
    · exact a.un q h
  · rw [List.map_cons] at h
    rcases List.mem_cons.mp h with h | h
    · rw [h]
      by_cases hI : p ∈ Z.I
      · exact .inl hI
      · refine .inr ?_
        cases z : Z.g0.M p with
        | none => rfl
        | some es =>
          have z1 := (f.ext e1).mu p es hI z
          rw [hm] at z1
          cases z1
    · exact a.mi q h Z f
  · rw [List.map_cons] at h
    rcases List.mem_cons.mp h with h | h
    · rw [h] at he ⊢
      by_cases hp : OwnAt σ ρ p
      · exact hp
      · have z1 := e1.mu p es he hp
        rw [hm] at z1
        cases z1
    · exact a.nw q h es he
/-- the slot of a new structure -/
theorem Rep.setT (r : Rep K g σ ρ) (i : Nat) {v : V} {x : Dt} (h : Rp K g.S v x) (nd : (cs.map (·.1)).Nodup) (hd : ∀ a ds, (a, ds) ∈ cs → g.M a = some ds) (un : ∀ a, a ∈ cs.map (·.1) → ¬ OwnAt σ ρ a) : Rep K g (σ.set i (some v)) (ρ.set i (.t cs x)) := by
  refine ⟨by rw [List.length_set, List.length_set]; exact r.len, fun j t e => ?_, fun j l t u q n e1 e2 w1 w2 => ?_⟩
  · by_cases hj : j = i
    · subst hj
      by_cases il : j < ρ.length
      · rw [List.getElem?_set_self il] at e
        cases e
        exact ⟨_, List.getElem?_set_self (by rw [r.len]; exact il), ⟨v, rfl, h⟩, nd, hd⟩
      · rw [List.getElem?_eq_none (by rw [List.length_set]; omega)] at e
        cases e
    · rw [List.getElem?_set_ne (Ne.symm hj)] at e
      obtain ⟨w, w1, w2⟩ := r.sl j t e
      exact ⟨w, by rw [List.getElem?_set_ne (Ne.symm hj)]; exact w1, w2⟩
  · have sp : ∀ (m : Nat) (y : Sl), (ρ.set i (.t cs x))[m]? = some y → Adr (σ.set i (some v)) m y q → (m = i ∧ q ∈ cs.map (·.1)) ∨ (m ≠ i ∧ ρ[m]? = some y ∧ Adr σ m y q) := fun m y a c => by
      by_cases hm' : m = i
      · subst hm'
        by_cases il : m < ρ.length
        · rw [List.getElem?_set_self il] at a
          cases a
          exact .inl ⟨rfl, c⟩
        · rw [List.getElem?_eq_none (by rw [List.length_set]; omega)] at a
          cases a
      · rw [List.getElem?_set_ne (Ne.symm hm')] at a
        exact .inr ⟨hm', a, (adr_set hm').mp c⟩
    rcases sp j t e1 w1 with ⟨a1, a2⟩ | ⟨a1, a2, a3⟩
    · rcases sp l u e2 w2 with ⟨b1, b2⟩ | ⟨b1, b2, b3⟩
      · exact n (a1.trans b1.symm)
      · exact un q a2 ⟨l, u, b2, b3⟩
    · rcases sp l u e2 w2 with ⟨b1, b2⟩ | ⟨b1, b2, b3⟩
      · exact un q b2 ⟨j, t, a2, a3⟩
      · exact r.ne j l t u q n a2 b2 a3 b3
end
section
variable {X : Cx} {Z : Fx} {κ : KD} {ρ ρ1 ρ2 : List Sl} {e : Expr} {es : List Expr} {d : Dt} {ds : List Dt} {pos : Pos} {T : Cells → Dt → Prop} {Ts : Cells → List Dt → Prop}
theorem vn_ve (h : VE X ρ e d ρ1) : VN X ρ e (fun cs x => cs = [] ∧ x = d) ρ1 := by
  obtain ⟨t, p, q⟩ := h
  exact ⟨t, p, fun σ H g Q k r z => q σ H g Q k r fun v H1 g1 k1 e1 r1 rv => z v H1 g1 [] d k1 e1 r1 rv NewC.nil ⟨rfl, rfl⟩⟩
theorem vn_vl (h : VL X ρ e ds ρ1) : VN X ρ e (fun cs x => ∃ a, cs = [(a, ds)] ∧ x = .opq a) ρ1 := by
  obtain ⟨t, p, q⟩ := h
  refine ⟨t, p, fun σ H g Q k r z => q σ H g Q k r fun a xs H1 g1 k1 e1 r1 hp hs hm rv => ?_⟩
  have gr := hold_gro (g := g1) (ds := ds) hm
  exact z _ H1 (g1.hold a ds) [(a, ds)] (.opq a) (hold_ok k1 hp hs rv) (e1.trans (gr.ext _ _)) (r1.gro gr) (Rp.opq a) (NewC.nil.hold r1 e1 hm) ⟨a, rfl, rfl⟩
theorem vns_nil : VNs X ρ [] (fun cs xs => cs = [] ∧ xs = []) ρ := ⟨_, pa_nil, fun σ H g Q k r z => z [] H g [] [] k (Ext.refl _ _ _) r .nil NewC.nil ⟨rfl, rfl⟩⟩
theorem vns_cons (h : VN X ρ e T ρ1) (h2 : VNs X ρ1 es Ts ρ2) (he : starEach (e :: es) X.env = (false, eval e X.env) :: starEach es X.env := by rfl) :
    VNs X ρ (e :: es) (fun cs xs => ∃ c1 x1 c2 x2, T c1 x1 ∧ Ts c2 x2 ∧ cs = c1 ++ c2 ∧ xs = x1 :: x2) ρ2 := by
  obtain ⟨t, p, q⟩ := h
  obtain ⟨u, p2, q2⟩ := h2
  refine ⟨_, pa_cons p p2 he, fun σ H g Q k r z => q σ H g _ k r fun v H1 g1 c1 x1 k1 e1 r1 rv n1 t1 => q2 σ H1 g1 _ k1 r1 fun vs H2 g2 c2 x2 k2 e2 r2 rv2 n2 t2 => ?_⟩
  exact z (v :: vs) H2 g2 (c1 ++ c2) (x1 :: x2) k2 (e1.trans e2) r2 (.cons (rv.mono e2.st) rv2) (n1.app e1 n2 e2) ⟨c1, x1, c2, x2, t1, t2, rfl, rfl⟩
/-- a new list of new structures -/
theorem vn_lst (h : VNs X ρ es Ts ρ1) (hz : ∀ cs xs, Ts cs xs → xs.length ≤ 1000000) : VN X ρ (.List es pos) (fun cs x => ∃ a c2 x2, Ts c2 x2 ∧ cs = (a, x2) :: c2 ∧ x = .opq a) ρ1 := by
  obtain ⟨t, p, q⟩ := h
  refine ⟨_, pe_lst p, fun σ H g Q k r z => q σ H g _ k r fun vs H1 g1 c2 x2 k1 e1 r1 rv n1 t1 => ⟨by rw [rv.len]; exact le_line (hz _ _ t1), fun a ha => ?_⟩⟩
  obtain ⟨hs, hm⟩ := k1.free ha
  have gr := hold_gro (g := g1) (ds := x2) hm
  exact z _ _ (g1.hold a x2) ((a, x2) :: c2) (.opq a) (hold_ok (k1.upd ha) upd_same hs rv) (e1.trans (gr.ext _ _)) (r1.gro gr) (Rp.opq a) (n1.hold r1 e1 hm) ⟨a, c2, x2, t1, rfl, rfl⟩
theorem VN.imp {T' : Cells → Dt → Prop} (h : VN X ρ e T ρ1) (hi : ∀ cs x, T cs x → T' cs x) : VN X ρ e T' ρ1 := by
  obtain ⟨t, p, q⟩ := h
  exact ⟨t, p, fun σ H g Q k r z => q σ H g Q k r fun v H1 g1 cs x k1 e1 r1 rv n1 t1 => z v H1 g1 cs x k1 e1 r1 rv n1 (hi _ _ t1)⟩
/-- name = a new structure -/
theorem ws_setT (i : Nat) {x : Str} {pos' : Pos} (h : VN X ρ e T ρ1) (k : ∀ cs y, T cs y → κ.nx (ρ1.set i (.t cs y))) (hN : X.N.Nodup) (hi : X.N[i]? = some x := by rfl) (hx : Loc X.env.scope x := by first | exact Or.inl rfl | exact Or.inr rfl)
    (hs : swapsWith e (some (.Name x pos')) pos.line X.env = pure false := by rfl) (hf : X.fn x = true ∨ X.env.scope.names.lookup x = some .local := by first | exact .inl rfl | exact .inr rfl) : WS X Z ρ (.Assign [.Name x pos'] e pos) κ := by
  obtain ⟨t, p, q⟩ := h
  refine ⟨_, ps_set hN hi hx p hs hf, fun σ H g D kk r f kd => q σ H g _ kk r fun v H1 g1 cs y k1 e1 r1 rv n1 t1 => ?_⟩
  have f1 := f.ext e1
  refine kd.nx _ H1 g1 _ k1 (r1.setT i rv n1.nd n1.hd n1.un) ⟨f1.st, f1.mu, fun a ⟨m, s, a1, a2⟩ => ?_⟩ e1.st (k cs y t1)
  by_cases hmi : m = i
  · subst hmi
    by_cases il : m < ρ1.length
    · rw [List.getElem?_set_self il] at a1
      cases a1
      exact n1.mi a a2 Z f
    · rw [List.getElem?_eq_none (by rw [List.length_set]; omega)] at a1
      cases a1
  · rw [List.getElem?_set_ne (Ne.symm hmi)] at a1
    exact f1.ow a ⟨m, s, a1, (adr_set hmi).mp a2⟩
/-- the structure's value, its links as they are -/
theorem ve_varT {cs : Cells} (i : Nat) {nm : Str} (h : ρ[i]? = some (.t cs d) := by rfl) (hN : X.N[i]? = some nm := by rfl) (hv : Vis X.env.scope nm := by first | exact Or.inl rfl | exact Or.inr (Or.inl rfl) | exact Or.inr (Or.inr rfl))
    (hd : (nm == ("__debug__" : Str)) = false := by decide) (hcd : (nm == ("__classdict__" : Str)) = false := by decide) : VE X ρ (.Name nm pos) d ρ :=
  ⟨_, pe_var hN hv hd hcd, fun σ H g Q k r q => by
    obtain ⟨v, e1, ⟨u, rfl, e2⟩, _⟩ := r.sl i _ h
    exact ⟨u, e1, q u H g k (Ext.refl _ _ _) r e2⟩⟩
end
end DL
namespace DL
open PySem PySem.Spec PyProof.Rows L2
/-! ### the data that a structure tells, its links followed -/
mutual
inductive Full (cs : Cells) : Dt → Dt → Prop
  | same (d : Dt) : Full cs d d
  | cell {a : Addr} {ds es : List Dt} : (a, ds) ∈ cs → FullA cs ds es → Full cs (.opq a) (.lst es)
  | tup {ds es : List Dt} : FullA cs ds es → Full cs (.tup ds) (.tup es)
inductive FullA (cs : Cells) : List Dt → List Dt → Prop
  | nil : FullA cs [] []
  | cons {d e : Dt} {ds es : List Dt} : Full cs d e → FullA cs ds es → FullA cs (d :: ds) (e :: es)
end
theorem FullA.same {cs : Cells} : ∀ ds : List Dt, FullA cs ds ds
  | [] => .nil
  | d :: ds => .cons (.same d) (FullA.same ds)
/-- what stands, and the own lists as they are now -/
def seeS (g : G) (H : Hp) : Hp := fun b => match g.M b with
  | some _ => H b
  | none => g.S b
section
variable {K : PySem.W.Frag} {g : G} {H : Hp}
theorem see_st (k : GOk K g H) : Same g.S (seeS g H) := fun b u e => by
  unfold seeS
  cases h : g.M b with
  | none => exact e
  | some ds => exact k.1 b u e
theorem see_H (k : GOk K g H) : Same (seeS g H) H := fun b u e => by
  unfold seeS at e
  cases h : g.M b with
  | none => rw [h] at e; exact k.1 b u e
  | some ds => rw [h] at e; exact e
mutual
theorem full_rp (k : GOk K g H) {cs : Cells} (hd : ∀ a ds, (a, ds) ∈ cs → g.M a = some ds) : ∀ {x d : Dt} {v : V}, Full cs x d → Rp K g.S v x → Rp K (seeS g H) v d
  | _, _, _, .same d, r => r.mono (see_st k)
  | _, _, _, .cell h f, r => by
    cases r
    obtain ⟨h1, xs, h2, h3⟩ := k.2 _ _ (hd _ _ h)
    refine Rp.lst (SqX.of ?_) (full_rpA k hd f h3)
    unfold seeS
    rw [hd _ _ h]
    exact h2
  | _, _, _, .tup f, r => by
    cases r with
    | tup h1 h2 => exact Rp.tup (sqt_mono (see_st k) h1) (full_rpA k hd f h2)
theorem full_rpA (k : GOk K g H) {cs : Cells} (hd : ∀ a ds, (a, ds) ∈ cs → g.M a = some ds) : ∀ {xs ds : List Dt} {vs : List V}, FullA cs xs ds → RpAll K g.S vs xs → RpAll K (seeS g H) vs ds
  | _, _, _, .nil, r => by
    cases r
    exact .nil
  | _, _, _, .cons f fs, r => by
    cases r with
    | cons r1 r2 => exact .cons (full_rp k hd f r1) (full_rpA k hd fs r2)
end
end
/-- data that is read at once -/
def RQ (K : PySem.W.Frag) (t : TE) (ρ : List Sl) (d : Dt) (ρ' : List Sl) : Prop :=
  ∀ (σ : L2.St) (H : Hp) (g : G) (Q : VK), GOk K g H → Rep K g σ ρ →
    (∀ v H' g' S', GOk K g' H' → Ext σ ρ ρ' g g' → Rep K g' σ ρ' → Same S' H' → Rp K S' v d → Q v H') → t σ H Q
def VQ (X : Cx) (ρ : List Sl) (e : Expr) (d : Dt) (ρ' : List Sl) : Prop := ∃ t, PE X e t ∧ RQ X.K t ρ d ρ'
section
variable {X : Cx} {ρ ρ1 ρ2 : List Sl} {e e2 : Expr} {x d d' : Dt} {ds : List Dt} {cs : Cells} {y : Dt} {pos p p1 p2 q1 q2 : Pos} {k : Nat}
theorem vq_ve (h : VE X ρ e d ρ1) : VQ X ρ e d ρ1 := by
  obtain ⟨t, p, q⟩ := h
  exact ⟨t, p, fun σ H g Q k r z => q σ H g Q k r fun v H1 g1 k1 e1 r1 rv => z v H1 g1 g1.S k1 e1 r1 k1.1 rv⟩
/-- a part of the structure in slot i -/
theorem vq_cell (i : Nat) (h : VE X ρ e x ρ1) (f : Full cs x d) (hs : ρ1[i]? = some (.t cs y) := by rfl) : VQ X ρ e d ρ1 := by
  obtain ⟨t, p, q⟩ := h
  refine ⟨t, p, fun σ H g Q k r z => q σ H g Q k r fun v H1 g1 k1 e1 r1 rv => ?_⟩
  obtain ⟨w, w1, w2, nd, hd⟩ := r1.sl i _ hs
  exact z v H1 g1 _ k1 e1 r1 (see_H k1) (full_rp k1 hd f rv)
theorem vq_own (i : Nat) {nm : Str} (h : (ρ[i]?.bind Sl.cont) = some ds := by rfl) (hN : X.N[i]? = some nm := by rfl) (hv : Vis X.env.scope nm := by first | exact Or.inl rfl | exact Or.inr (Or.inl rfl) | exact Or.inr (Or.inr rfl))
    (hd : (nm == ("__debug__" : Str)) = false := by decide) (hcd : (nm == ("__classdict__" : Str)) = false := by decide) : VQ X ρ (.Name nm pos) (.lst ds) ρ :=
  ⟨_, pe_var hN hv hd hcd, fun σ H g Q k r q => by
    obtain ⟨p, s, e1, e2, e3, e4⟩ := r.cont h
    obtain ⟨h1, xs, h2, h3⟩ := k.2 p _ e4
    exact ⟨_, e3, q _ H g _ k (Ext.refl _ _ _) r (see_H k) (full_rp (cs := [(p, ds)]) (x := .opq p) k (fun a es z => by cases List.mem_singleton.mp z; exact e4) (.cell (List.mem_singleton.mpr rfl) (FullA.same ds)) (Rp.opq p))⟩⟩
theorem ve_reprQ (hgd : X.A.guards = some []) (hr : Room k X.A) (hm : X.mg "repr" = none) (ha : VQ X ρ e d ρ1) (hk : (∃ ds, d = .lst ds) ∨ ∃ ds, d = .tup ds) (hf : d.fits = true) (hg : Gl X "repr" := by rfl) (he : starEach [e] X.env = (false, eval e X.env) :: starEach [] X.env := by rfl) :
    VE X ρ (.Call (.Name "repr" p) [e] [] pos) (.str d.text) ρ1 := by
  obtain ⟨t, pa, qa⟩ := ha
  refine ⟨_, pe_callB (cr_repr hgd hr) hg hm (by decide +kernel) (pa_cons pa pa_nil he) (by decide) (by decide) he rfl, fun σ H g Q kk rp q => qa σ H g _ kk rp fun v H1 g1 S' k1 e1 r1 st rv => ?_⟩
  simp only [Dt.fits, Bool.and_eq_true, decide_eq_true_eq] at hf
  obtain ⟨⟨⟨f1, f2⟩, f3⟩, f4⟩ := hf
  have dp := dp_mono st _ _ (Rp.dp d _ f1 rv)
  rcases hk with ⟨ds, rfl⟩ | ⟨ds, rfl⟩
  · cases rv with
    | lst h1 h2 => exact ⟨_, _, rfl, dp, f2, f3, f4, q _ H1 g1 k1 e1 r1 (Rp.str _)⟩
  · cases rv with
    | tup h1 h2 => exact ⟨_, _, rfl, dp, f2, f3, f4, q _ H1 g1 k1 e1 r1 (Rp.str _)⟩
/-- repr(a) != repr(b) of equal data, read at once -/
theorem vt_reprNeQ (hgd : X.A.guards = some []) (hr : Room k X.A) (hm : X.mg "repr" = none) (ha : VQ X ρ e d ρ1) (hb : VQ X ρ1 e2 d' ρ2) (hdd : d' = d) (hk : (∃ ds, d = .lst ds) ∨ ∃ ds, d = .tup ds) (hs : d.Sm) (hd : Nat.ble d.dep 100 = true) (hw : d.wt ≤ 16777216) (hg : Gl X "repr" := by rfl)
    (he : starEach [e] X.env = (false, eval e X.env) :: starEach [] X.env := by rfl) (he2 : starEach [e2] X.env = (false, eval e2 X.env) :: starEach [] X.env := by rfl) :
    VT X ρ (.Compare (.Call (.Name "repr" p1) [e] [] q1) [.NotEq] [.Call (.Name "repr" p2) [e2] [] q2] pos) false ρ2 := by
  subst hdd
  have f := fits_of hs (Nat.le_of_ble_eq_true hd) hw
  exact VT.to (vt_neS (ve_reprQ hgd hr hm ha hk f hg he) (ve_reprQ hgd hr hm hb hk f hg he2)) (by rw [decide_eq_true rfl]; rfl)
/-- e[j], e a list of the structure in slot i -/
theorem ve_ixQ (i : Nat) {a : Addr} {j : Int} {b : Expr} (ha : VE X ρ e (.opq a) ρ1) (hb : VE X ρ1 b (.int j) ρ2) (hm : (a, ds) ∈ cs) (h : atI ds j = some d) (hs : ρ2[i]? = some (.t cs y) := by rfl) (hx : PlainIx b := by intro _ _; rfl) : VE X ρ (.Subscript e b pos) d ρ2 := by
  obtain ⟨ta, pa, qa⟩ := ha
  obtain ⟨tb, pb, qb⟩ := hb
  refine ⟨_, pe_ix ix_list pa pb hx, fun σ H g Q k rp q => qa σ H g _ k rp fun v H1 g1 k1 e1 r1 rv => qb σ H1 g1 _ k1 r1 fun u H2 g2 k2 e2 r2 ru => ?_⟩
  cases rv
  cases ru
  obtain ⟨w, w1, w2, nd, hd⟩ := r2.sl i _ hs
  obtain ⟨_, xs, h2, h3⟩ := k2.2 _ _ (hd _ _ hm)
  obtain ⟨z, z1, z2⟩ := at_rp h3 h
  exact ⟨a, xs, j, z, rfl, rfl, SqL.of h2, z1, q z H2 g2 k2 (e1.trans e2) r2 z2⟩
theorem ve_lenQ (i : Nat) {a : Addr} (hm0 : X.mg "len" = none) (ha : VE X ρ e (.opq a) ρ1) (hm : (a, ds) ∈ cs) (hs : ρ1[i]? = some (.t cs y) := by rfl) (hg : Gl X "len" := by rfl) (he : starEach (e :: []) X.env = (false, eval e X.env) :: starEach [] X.env := by rfl) : VE X ρ (.Call (.Name "len" p) [e] [] pos) (.int (ds.length : Int)) ρ1 := by
  obtain ⟨t, pa, qa⟩ := ha
  refine ⟨_, pe_callB call_len_seq hg hm0 PySem.boot_len (pa_cons pa pa_nil he) (by decide) (by decide) he rfl, fun σ H g Q kk rp q => qa σ H g _ kk rp fun v H1 g1 k1 e1 r1 rv => ?_⟩
  cases rv
  obtain ⟨w, w1, w2, nd, hd⟩ := r1.sl i _ hs
  obtain ⟨_, xs, h2, h3⟩ := k1.2 _ _ (hd _ _ hm)
  exact ⟨a, xs, rfl, .inl (SqL.of h2), q _ H1 g1 k1 e1 r1 (by rw [h3.len]; exact Rp.int _)⟩
end
/-! ### one list of a structure is changed -/
inductive UpdC (a : Addr) (ds : List Dt) : Cells → Cells → Prop
  | here {es : List Dt} {cs : Cells} : UpdC a ds ((a, es) :: cs) ((a, ds) :: cs)
  | there {c : Addr × List Dt} {cs cs' : Cells} : UpdC a ds cs cs' → UpdC a ds (c :: cs) (c :: cs')
theorem UpdC.fst {a : Addr} {ds : List Dt} : ∀ {cs cs' : Cells}, UpdC a ds cs cs' → cs'.map (·.1) = cs.map (·.1)
  | _, _, .here => rfl
  | _, _, .there h => by rw [List.map_cons, List.map_cons, h.fst]
theorem UpdC.in {a : Addr} {ds : List Dt} : ∀ {cs cs' : Cells}, UpdC a ds cs cs' → a ∈ cs.map (·.1)
  | _, _, .here => List.mem_cons_self
  | _, _, .there h => List.mem_cons_of_mem _ h.in
theorem UpdC.mem {a : Addr} {ds : List Dt} : ∀ {cs cs' : Cells}, UpdC a ds cs cs' → (cs.map (·.1)).Nodup → ∀ {b : Addr} {es : List Dt}, (b, es) ∈ cs' → (b = a ∧ es = ds) ∨ (b ≠ a ∧ (b, es) ∈ cs)
  | _, _, .here (cs := cs), nd, b, es, h => by
    rcases List.mem_cons.mp h with h1 | h1
    · cases h1
      exact .inl ⟨rfl, rfl⟩
    · exact .inr ⟨fun z => (List.nodup_cons.mp nd).1 (List.mem_map.mpr ⟨_, h1, z⟩), List.mem_cons_of_mem _ h1⟩
  | _, _, .there (c := c) u, nd, b, es, h => by
    rcases List.mem_cons.mp h with h1 | h1
    · refine .inr ⟨fun z => (List.nodup_cons.mp nd).1 ?_, List.mem_cons.mpr (.inl h1)⟩
      have e : c.1 = a := by rw [← h1]; exact z
      show c.1 ∈ _
      rw [e]
      exact u.in
    · rcases u.mem (List.nodup_cons.mp nd).2 h1 with z | ⟨z1, z2⟩
      · exact .inl z
      · exact .inr ⟨z1, List.mem_cons_of_mem _ z2⟩
theorem Rep.putC {K : PySem.W.Frag} {g g' : G} {σ : L2.St} {ρ : List Sl} {i : Nat} {a : Addr} {cs cs' : Cells} {y : Dt} {ls : List Dt} (r : Rep K g σ ρ) (hs : ρ[i]? = some (.t cs y)) (u : UpdC a ls cs cs') (st : Same g.S g'.S)
    (mu : ∀ q es, q ≠ a → g.M q = some es → g'.M q = some es) (hp : g'.M a = some ls) : Rep K g' σ (ρ.set i (.t cs' y)) ∧ Ext σ ρ (ρ.set i (.t cs' y)) g g' := by
  have il : i < ρ.length := (List.getElem?_eq_some_iff.mp hs).1
  have ha : Adr σ i (.t cs y) a := u.in
  have bk : ∀ (j : Nat) (t : Sl), (ρ.set i (.t cs' y))[j]? = some t → ∃ s, ρ[j]? = some s ∧ ∀ q, Adr σ j t q → Adr σ j s q := fun j t e => by
    by_cases hj : j = i
    · subst hj
      rw [List.getElem?_set_self il] at e
      cases e
      exact ⟨_, hs, fun q z => by have z' : q ∈ cs'.map (·.1) := z; rw [u.fst] at z'; exact z'⟩
    · rw [List.getElem?_set_ne (Ne.symm hj)] at e
      exact ⟨t, e, fun q z => z⟩
  refine ⟨⟨by rw [List.length_set]; exact r.len, fun j t e => ?_, fun j l t s q n e1 e2 w1 w2 => ?_⟩, ⟨st, fun q es e n => mu q es (fun z => n ⟨i, _, hs, by rw [z]; exact ha⟩) e, fun q ⟨j, t, e1, e2⟩ => ?_⟩⟩
  · by_cases hj : j = i
    · subst hj
      rw [List.getElem?_set_self il] at e
      cases e
      obtain ⟨v, z1, ⟨w, z2, z3⟩, nd, hd⟩ := r.sl j _ hs
      refine ⟨v, z1, ⟨w, z2, z3.mono st⟩, by rw [u.fst]; exact nd, fun b es hb => ?_⟩
      rcases u.mem nd hb with ⟨h1, h2⟩ | ⟨h1, h2⟩
      · rw [h1, h2]
        exact hp
      · exact mu b es h1 (hd b es h2)
    · rw [List.getElem?_set_ne (Ne.symm hj)] at e
      obtain ⟨v, w1, w2⟩ := r.sl j t e
      refine ⟨v, w1, ?_⟩
      cases t with
      | no => trivial
      | d x => obtain ⟨w, z1, z2⟩ := w2; exact ⟨w, z1, z2.mono st⟩
      | o es =>
        obtain ⟨p2, z1, z2⟩ := w2
        refine ⟨p2, z1, mu _ _ (fun z => ?_) z2⟩
        subst z
        exact r.ne i j _ _ p2 (Ne.symm hj) hs e ha (show σ[j]? = _ by rw [w1, z1])
      | i p2 es =>
        obtain ⟨z1, z2⟩ := w2
        refine ⟨z1, mu _ _ (fun z => ?_) z2⟩
        subst z
        exact r.ne i j _ _ p2 (Ne.symm hj) hs e ha (show σ[j]? = _ by rw [w1, z1])
      | t cs2 x =>
        obtain ⟨⟨w, z1, z2⟩, nd, z3⟩ := w2
        exact ⟨⟨w, z1, z2.mono st⟩, nd, fun b es hb => mu _ _ (fun z => r.ne i j _ _ a (Ne.symm hj) hs e ha (List.mem_map.mpr ⟨(b, es), hb, z⟩)) (z3 b es hb)⟩
  · obtain ⟨t', a1, a2⟩ := bk j t e1
    obtain ⟨s', b1, b2⟩ := bk l s e2
    exact r.ne j l t' s' q n a1 b1 (a2 q w1) (b2 q w2)
  · obtain ⟨s', a1, a2⟩ := bk j t e1
    exact ⟨j, s', a1, a2 q e2⟩
section
variable {X : Cx} {Z : Fx} {κ : KD} {ρ ρ1 ρ2 : List Sl} {e eo : Expr} {d : Dt} {ds : List Dt} {cs cs' : Cells} {y : Dt} {pos apos cpos : Pos} {a : Addr}
/-- E.append(e), E a list of the structure in slot i -/
theorem ws_appQ (i : Nat) {cs0 : Cells} {y0 : Dt} {ds0 : List Dt} (ho : VE X ρ eo (.opq a) ρ1) (h : VE X ρ1 e d ρ2) (hm0 : (a, ds0) ∈ cs0) (hm : (a, ds) ∈ cs) (hz : ds.length < 1000000) (u : UpdC a (ds ++ [d]) cs cs') (k : κ.nx (ρ2.set i (.t cs' y))) (hs0 : ρ1[i]? = some (.t cs0 y0) := by rfl) (hs : ρ2[i]? = some (.t cs y) := by rfl)
    (hbase : attributeBase eo "append" X.env (eval eo X.env) = eval eo X.env := by rfl)
    (hfew : ((backTo cpos (starEach (e :: []) X.env)).all (fun x => !x.1) && (backToKw cpos (keywordEach [] X.env)).all (fun x => x.1.isSome) && decide ((e :: ([] : List Expr)).length + ([] : List Keyword).length + (if ([] : List Keyword).isEmpty then 0 else 1) < 30)) = true := by rfl)
    (hline : (apos.endLine == cpos.line) = true := by rfl) (hst : starEach (e :: []) X.env = (false, eval e X.env) :: starEach [] X.env := by rfl) (hplain : (backTo cpos (starEach [] X.env)).any (·.1) = false := by rfl)
    (hsw : swapsWith (.Call (.Attribute eo "append" apos) [e] [] cpos) none pos.line X.env = pure false := by rfl) : WS X Z ρ (.Expr (.Call (.Attribute eo "append" apos) [e] [] cpos) pos) κ := by
  obtain ⟨to, po, qo⟩ := ho
  obtain ⟨t, p, q⟩ := h
  refine ⟨_, ps_expr (pe_bm PySem.F.plainAttrs_list PySem.F.slot_list_append PySem.F.type_list_append mt_append po (pa_cons p pa_nil hst) hbase hfew hline hst hplain) hsw, fun σ H g D kk r f kd => ?_⟩
  refine qo σ H g _ kk r fun v H1 g1 k1 e1 r1 rv => ?_
  cases rv
  obtain ⟨_, _, _, nd0, hd0⟩ := r1.sl i _ hs0
  obtain ⟨_, xs0, z5, _⟩ := k1.2 a ds0 (hd0 _ _ hm0)
  refine ⟨.inl ⟨rfl, xs0, SqL.of z5⟩, q σ H1 g1 _ k1 r1 fun w H2 g2 k2 e2 r2 rw2 => ?_⟩
  obtain ⟨_, _, _, nd, hd⟩ := r2.sl i _ hs
  obtain ⟨n1, xs, n2, n3⟩ := k2.2 a ds (hd _ _ hm)
  refine ⟨_, xs, w, rfl, rfl, n2, by rw [n3.len]; exact Nat.lt_of_lt_of_le hz (by decide), ?_⟩
  let g3 : G := ⟨g2.S, fun q => if q = a then some (ds ++ [d]) else g2.M q⟩
  obtain ⟨r3, ex3⟩ := r2.putC (g' := g3) hs u (Same.refl _) (fun q es n e => by show (if q = a then _ else _) = _; rw [if_neg n]; exact e) (if_pos rfl)
  refine kd.nx σ _ g3 _ ⟨fun b o eb => ?_, fun q es eq => ?_⟩ r3 ((f.ext (e1.trans e2)).ext ex3) ((e1.st.trans e2.st).trans ex3.st) k
  · have nb : b ≠ a := fun z => by
      have e' : g2.S b = some o := eb
      rw [z, n1] at e'
      cases e'
    rw [upd_ne nb]
    exact k2.1 b o eb
  · have e' : (if q = a then some (ds ++ [d]) else g2.M q) = some es := eq
    by_cases hq : q = a
    · subst hq
      rw [if_pos rfl] at e'
      cases e'
      exact ⟨n1, _, upd_same, n3.app (.cons rw2 .nil)⟩
    · rw [if_neg hq] at e'
      obtain ⟨h1, ys, h2, h3⟩ := k2.2 q es e'
      exact ⟨h1, ys, by rw [upd_ne hq]; exact h2, h3⟩
end
/-! ### the walk over a list of the structure in slot i; the list itself stays -/
section
variable {X : Cx} {ρ ρ1 : List Sl} {tg : Expr} {pos : Pos} {ds : List Dt}
theorem ws_forQ (n : Nat) {Z : Fx} {κ : KD} {iter : Expr} {body : List Stmt} {a : Addr} (hc : X.calm = true) (hi : VE X ρ iter (.opq a) ρ1) (Pv : Nat → List Sl → Prop) (h0 : Pv 0 ρ1) (hq : ∀ i ρ, Pv i ρ → ∃ cs y, ρ[n]? = some (.t cs y) ∧ (a, ds) ∈ cs)
    (hs : ∀ j d ρ, ds[j]? = some d → Pv j ρ → ∃ ρ' is, VG X tg is d ρ ρ' ∧ WSs X Z ρ' body { κ with nx := Pv (j + 1), ct := Pv (j + 1), bk := κ.nx }) (hd : ∀ ρ, Pv ds.length ρ → κ.nx ρ)
    (hp : PassesOwn (model X.prog X.w) X.A X.env X.xe) (hf : ∀ x, foldedSetIterable iter X.env x = pure x := by intro _; rfl) : WS X Z ρ (.For tg iter body [] pos) κ := by
  obtain ⟨wi, p, q⟩ := hi
  refine ⟨_, ps_for (g := fun v σ H Q => ∃ t, PG X tg t ∧ t v σ H Q) (tb := fun D σ H => ∃ u, PSs X body u ∧ u D σ H) hp hc (pi_list p) ⟨fun pins s σ H v u Q I r ⟨t, pt, ht⟩ => pt.run pins s σ H v u Q I r ht⟩ ⟨fun pins s σ H D I ⟨u, pu, hu⟩ => pu.run pins s σ H D I hu⟩ hf, fun σ H g D k r f kd => ?_⟩
  have now : ∀ {i : Nat} {ρ' : List Sl} {g' : G} {H' : Hp} {σ' : L2.St}, Pv i ρ' → GOk X.K g' H' → Rep X.K g' σ' ρ' → ∃ xs, H' a = some (.lst xs) ∧ RpAll X.K g'.S xs ds := fun pv k' r' => by
    obtain ⟨cs, y, e1, e2⟩ := hq _ _ pv
    obtain ⟨_, _, _, nd, hd'⟩ := r'.sl n _ e1
    obtain ⟨_, xs, h2, h3⟩ := k'.2 a ds (hd' _ _ e2)
    exact ⟨xs, h2, h3⟩
  refine q σ H g _ k r fun v H1 g1 k1 e1 r1 rv => ?_
  cases rv
  obtain ⟨xs1, h1, _⟩ := now h0 k1 r1
  refine ⟨a, rfl, ⟨_, SqL.of h1⟩, ?_⟩
  have f1 := f.ext e1
  refine ⟨fun i m σ' H' => m = ds.length - i ∧ i ≤ ds.length ∧ ∃ g' ρ', GOk X.K g' H' ∧ Rep X.K g' σ' ρ' ∧ FrOk Z σ' ρ' g' ∧ Same g1.S g'.S ∧ Pv i ρ', ⟨ds.length, by simp, Nat.zero_le _, g1, ρ1, k1, r1, f1, Same.refl _, h0⟩, ?_⟩
  rintro i m σ' H' ⟨rfl, hi, g', ρ', k', r', f', st, pv⟩
  obtain ⟨xs, hx, rx⟩ := now pv k' r'
  by_cases hlt : i < ds.length
  · obtain ⟨d, hd'⟩ : ∃ d, ds[i]? = some d := ⟨ds[i], List.getElem?_eq_getElem hlt⟩
    obtain ⟨v, v1, v2⟩ := rx.at hd'
    refine .inr ⟨⟨xs, v, SqL.of hx, v1⟩, fun σ2 H2 => ∃ g2 ρ2, GOk X.K g2 H2 ∧ Rep X.K g2 σ2 ρ2 ∧ FrOk Z σ2 ρ2 g2 ∧ Same g1.S g2.S ∧ Pv (i + 1) ρ2, fun σ2 H2 z => ⟨ds.length - (i + 1), by omega, rfl, hlt, z⟩, fun x H3 ⟨y1, y2⟩ => ?_⟩
    subst y1
    have ev := y2 xs (SqL.of hx)
    rw [v1] at ev
    cases ev
    obtain ⟨ρ4, is, ⟨t, pt, qt⟩, ⟨u, pu, qu⟩⟩ := hs i d ρ' hd' pv
    refine ⟨t, pt, qt _ σ' _ g' _ k' r' v2 fun σ4 a1 a2 a3 a4 => ⟨u, pu, ?_⟩⟩
    refine qu σ4 _ g' _ k' a1 (f'.slots a4) ⟨fun σ5 H5 g5 ρ5 k5 r5 f5 s5 z => ?_, fun v σ5 H5 g5 ρ5 d5 k5 r5 f5 s5 z => ?_, fun σ5 H5 g5 ρ5 k5 r5 f5 s5 z => ?_, fun σ5 H5 g5 ρ5 k5 r5 f5 s5 z => ?_, fun pa xs σ5 H5 g5 ρ5 ds5 k5 r5 f5 s5 => kd.rl pa xs σ5 H5 g5 ρ5 ds5 k5 r5 f5 ((e1.st.trans st).trans s5)⟩
    · exact ⟨g5, ρ5, k5, r5, f5, st.trans s5, z⟩
    · exact kd.rt v σ5 H5 g5 ρ5 d5 k5 r5 f5 ((e1.st.trans st).trans s5) z
    · exact kd.nx σ5 H5 g5 ρ5 k5 r5 f5 ((e1.st.trans st).trans s5) z
    · exact ⟨g5, ρ5, k5, r5, f5, st.trans s5, z⟩
  · have e : i = ds.length := by omega
    subst e
    exact .inl ⟨⟨xs, SqL.of hx, by rw [rx.len]; exact Nat.le_refl _⟩, kd.nx σ' H' g' ρ' k' r' f' (e1.st.trans st) (hd ρ' pv)⟩
end
/-! ### a call by keywords that hands back a new list -/
section
variable {X : Cx} {ρ ρ1 : List Sl} {k n : Nat} {x : Str} {st : Stmt} {ps ks : List Str} {kws : List Keyword} {ds ls : List Dt} {p pos : Pos} {R : List Dt → List Dt → Prop}
theorem vckL (π : List Nat) (F : FnAt X.prog X.w X.K X.mg X.base x st k ps (spL X.K n R)) (hgd : X.A.guards = some []) (hr : Room k X.A)
    (hb : ∀ (kV doc pm : Value) (an : Option Addr) (cdv ct : Value) (ws : List Value), ws.length = ks.length → bindArgs (PySem.W.fnOf x x (defArgs st) (defBody st) (defScope st) .none kV doc pm an cdv ct) ⟨[], ks.zip ws⟩ = pure (ps.zip (perm π ws)))
    (ha : VK' X ρ kws ds ρ1) (hR : R (perm π ds) ls) (hn : (perm π ds).length = n := by rfl) (hkl : ds.length = ks.length := by rfl) (hg : Gl X x := by rfl) (hall : (backToKw pos (keywordEach kws X.env)).all (·.1.isSome) = true := by rfl) (hks : (backToKw pos (keywordEach kws X.env)).filterMap (·.1) = ks := by rfl)
    (hdb : (x == ("__debug__" : Str)) = false := by decide) (hpl : ((backTo pos (starEach [] X.env)).any (·.1) || (backToKw pos (keywordEach kws X.env)).any (·.1.isNone)) = false := by rfl) : VL X ρ (.Call (.Name x p) [] kws pos) ls ρ1 := by
  obtain ⟨f, fd, h1, h2, h3, h4⟩ := F.it
  obtain ⟨oc, od, kV, doc, pm, an, cdv, ct, osl, rfl, lk, hcd⟩ := h2.ex
  obtain ⟨t, pa, qa⟩ := ha
  let sp' : Sp := spL X.K n R
  refine ⟨fun σ H Q => t σ H fun zs H1 => zs.length = ks.length ∧ sp' (perm π zs) H1 Q E0, ⟨fun pins s σ H Q I h => ?_⟩, fun σ H g Q kk rp q => qa σ H g _ kk rp fun vs H1 g1 k1 e1 r1 rv => ⟨by rw [rv.len]; exact hkl, ?_⟩⟩
  · refine wpAny_Call_Name_kw (ld_glob I hg h1 (PySem.W.callWith_KW0 (h₀ := X.base) I.ok.mod.kin h2.kp hall (thn (pa.run pos pins s σ H _ I h) fun ws s1 ⟨zs, H1, I1, r, hl, q⟩ => ⟨I1.kIn, ?_⟩) hpl) hdb)
    rw [hks]
    exact run_g h4 hgd hr (fun _ => .of_eq (hb kV doc pm an cdv ct ws (by rw [← r.length]; exact hl))) passL I1 (perm_vals r π) q
  · exact ⟨g1, perm π ds, ls, hn, k1, perm_rp rv π, hR, fun pa2 xs H2 g2 k2 gr hp hs hm rd => q pa2 xs H2 g2 k2 (e1.trans (gr.ext _ _)) (r1.gro gr) hp hs hm rd⟩
end
end DL
namespace DL
open PySem PySem.Spec PyProof.Rows L2
/-- a list let go -/
def G.drop (g : G) (p : Addr) : G := ⟨g.S, fun q => if q = p then none else g.M q⟩
section
variable {X : Cx} {ρ : List Sl} {ds : List Dt} {pos : Pos}
/-- a list of one's own, handed on as a new list: the name is not used any more -/
theorem vl_give (i : Nat) {nm : Str} (h : ρ[i]? = some (.o ds) := by rfl) (hN : X.N[i]? = some nm := by rfl) (hv : Vis X.env.scope nm := by first | exact Or.inl rfl | exact Or.inr (Or.inl rfl) | exact Or.inr (Or.inr rfl))
    (hd : (nm == ("__debug__" : Str)) = false := by decide) (hcd : (nm == ("__classdict__" : Str)) = false := by decide) : VL X ρ (.Name nm pos) ds (ρ.set i .no) :=
  ⟨_, pe_var hN hv hd hcd, fun σ H g Q k r q => by
    obtain ⟨p, e3, e4⟩ := r.getO h
    obtain ⟨hs, xs, e5, e6⟩ := k.2 p _ e4
    refine ⟨_, e3, ?_⟩
    have il : i < ρ.length := (List.getElem?_eq_some_iff.mp h).1
    have mo : ∀ q es, g.M q = some es → q ≠ p → (g.drop p).M q = some es := fun q es e n => by show (if q = p then none else g.M q) = some es; rw [if_neg n]; exact e
    have off : ∀ j s b, (ρ.set i .no)[j]? = some s → Adr σ j s b → j ≠ i ∧ ρ[j]? = some s := fun j s b e1 e2 => by
      by_cases hj : j = i
      · subst hj
        rw [List.getElem?_set_self il] at e1
        cases e1
        exact e2.elim
      · rw [List.getElem?_set_ne (Ne.symm hj)] at e1
        exact ⟨hj, e1⟩
    refine q p xs H (g.drop p) ⟨k.1, fun q es e => ?_⟩ ⟨Same.refl _, fun q es e n => mo q es e fun z => n ⟨i, _, h, by rw [z]; exact e3⟩, fun q ⟨j, s, e1, e2⟩ => ⟨j, s, (off j s _ e1 e2).2, e2⟩⟩ ⟨by rw [List.length_set]; exact r.len, fun j s e => ?_, fun j l s t b n e1 e2 w1 w2 => ?_⟩ e5 hs (if_pos rfl) e6
    · have e' : (if q = p then none else g.M q) = some es := e
      by_cases hq : q = p
      · rw [if_pos hq] at e'; cases e'
      · rw [if_neg hq] at e'
        exact k.2 q es e'
    · by_cases hj : j = i
      · subst hj
        rw [List.getElem?_set_self il] at e
        cases e
        exact ⟨_, e3, trivial⟩
      · rw [List.getElem?_set_ne (Ne.symm hj)] at e
        obtain ⟨v, w1, w2⟩ := r.sl j s e
        refine ⟨v, w1, ?_⟩
        cases s with
        | no => trivial
        | d y => exact w2
        | o es =>
          obtain ⟨p2, z1, z2⟩ := w2
          refine ⟨p2, z1, mo _ _ z2 fun z => ?_⟩
          subst z
          exact r.ne i j _ _ p2 (Ne.symm hj) h e e3 (show σ[j]? = _ by rw [w1, z1])
        | i p2 es =>
          obtain ⟨z1, z2⟩ := w2
          refine ⟨z1, mo _ _ z2 fun z => ?_⟩
          subst z
          exact r.ne i j _ _ p2 (Ne.symm hj) h e e3 (show σ[j]? = _ by rw [w1, z1])
        | t cs y =>
          obtain ⟨z1, nd, z3⟩ := w2
          exact ⟨z1, nd, fun b es hb => mo _ _ (z3 b es hb) fun z => r.ne i j _ _ p (Ne.symm hj) h e e3 (List.mem_map.mpr ⟨(b, es), hb, z⟩)⟩
    · exact r.ne j l s t b n (off j s b e1 w1).2 (off l t b e2 w2).2 w1 w2⟩
end
end DL
namespace Ev
open PySem L2 DL
def top (i : Nat) : Stmt := PySem.Challenge.pw_evenslices_k03_slices_at_ticks_and_windo.main.body.getD i (.Pass ⟨0, 0, 0, 0⟩)
abbrev s__law_source : Stmt := top 19
abbrev s_is_integer : Stmt := top 9
abbrev s_wrong_item : Stmt := top 10
abbrev s_need_load : Stmt := top 11
abbrev s_need_process : Stmt := top 13
abbrev s_need_number : Stmt := top 12
abbrev s_down : Stmt := top 14
abbrev s_up : Stmt := top 15
abbrev s_slices_at : Stmt := top 16
abbrev s_windows_within : Stmt := top 17
abbrev s__law_draw : Stmt := top 20
abbrev s__law_parts : Stmt := top 21
abbrev s__law_load : Stmt := top 22
abbrev s__law_small : Stmt := top 23
abbrev s__law_windows : Stmt := top 24
abbrev s__law_right : Stmt := top 25
abbrev s_law : Stmt := top 26
structure Txt (mg : Str → Option Value) : Prop where
  b_abs : mg "abs" = none
  b_max : mg "max" = none
  b_int : mg "int" = none
  b_isinstance : mg "isinstance" = none
  b_bool : mg "bool" = none
  b_list : mg "list" = none
  b_all : mg "all" = none
  b_sum : mg "sum" = none
  b_len : mg "len" = none
  b_tuple : mg "tuple" = none
  b_range : mg "range" = none
  b_min : mg "min" = none
  b_repr : mg "repr" = none
  b_enumerate : mg "enumerate" = none
  c_MOST_PROCESSORS : ∃ t, mg "MOST_PROCESSORS" = some (Value.int (12) t)
  c_MOST_PERIOD : ∃ t, mg "MOST_PERIOD" = some (Value.int (10 ^ 30 - 1) t)
  c_MOST_PROCESSES : ∃ t, mg "MOST_PROCESSES" = some (Value.int (12) t)
end Ev
namespace Ev
open PySem L2 DL
section
variable {P : Program} {w : World} {K : PySem.W.Frag} {mg : Str → Option Value} {base : Heap} {f : Addr} {fd : FuncData}
theorem sc__law_source : FnScope ["cell", "k", "great"] ["cell", "k"] (defScope s__law_source) := ⟨rfl, rfl, rfl, by decide +kernel, rfl, by decide +kernel, by decide +kernel⟩
theorem ok__law_source (T : Txt mg) (F : Fun K "_law_source" "_law_source" s__law_source f fd) : FnG P w K mg base 1 f fd ["cell", "k"] (spL K 2 R_source) := by
  refine okL F sc__law_source rfl (by decide) ?_
  rintro cdv A outer s H E g0 ds ls hgd hr ⟨c, k, rfl, h1, h2, rfl⟩ hl
  show WSs _ _ [.d (.int c), .d (.int k), .no] _ _
  have p1 : Bd 10 (10 : Int) := Bd.lit rfl
  have bk : Bd 10 k := by unfold Bd; omega
  have b2 : Bd 10 (2 : Int) := Bd.lit rfl
  have b83 : Bd 10 (83 : Int) := Bd.lit rfl
  have bm : Bd 200 ((c.natAbs : Int) % (10 ^ 41 + 61)) := Bd.mod (Bd.lit rfl) (by decide)
  refine (wss_cons (ws_set 2 (ve_abs T.b_abs (ve_var 0)) (wss_one (ws_retL (vl_lst (va_cons (ve_max2 rfl T.b_max (va_cons ve_int (va_cons (ve_sub (ve_var 2) (ve_pow ve_int ve_int (bd_pow p1 (by decide) (by decide)))) va_nil))) (va_cons (ve_add (ve_add (ve_mul (ve_mod (ve_intI T.b_int (ve_var 2)) (ve_add (ve_pow ve_int ve_int (bd_pow p1 (by decide) (by decide))) ve_int) ?h1) ve_int ?h2) (ve_mul ve_int (ve_var 1) (bd_mul b2 bk (by decide)))) (ve_intB T.b_int (ve_lt (ve_var 0) ve_int))) (va_cons ve_int va_nil)))) rfl)) sc__law_source.nd))
  case h1 => decide
  case h2 => exact bd_mul bm b83 (by decide)
end
end Ev
namespace Ev
open PySem L2 DL
section
variable {P : Program} {w : World} {K : PySem.W.Frag} {mg : Str → Option Value} {base : Heap} {f : Addr} {fd : FuncData}
theorem sc_is_integer : FnScope ["value", "low", "high"] ["value", "low", "high"] (defScope s_is_integer) := ⟨rfl, rfl, rfl, by decide +kernel, rfl, by decide +kernel, by decide +kernel⟩
def R_is_integer (ds : List Dt) (r : Res) : Prop := ∃ (v : Dt) (lo : Int) (hi : Option Int), ds = [v, .int lo, oI hi] ∧ v.ty ≠ "" ∧ r = .ret (.bl (isInt v lo hi))
theorem ok_is_integer (T : Txt mg) (F : Fun K "is_integer" "is_integer" s_is_integer f fd) : FnG P w K mg base 1 f fd ["value", "low", "high"] (spD K 3 R_is_integer) := by
  refine okD F sc_is_integer rfl (by decide) (fun ds r ⟨_, _, _, _, _, h⟩ => ⟨_, h⟩) ?_
  rintro cdv A outer s H E g0 ds d hgd hr ⟨v, lo, hi, rfl, hv, hd⟩ hl
  cases hd
  show WSs _ _ [.d v, .d (.int lo), .d (oI hi)] _ _
  cases v with
  | int i =>
    refine (wss_cons (ws_if (vw_or (vt_not (vt_val (ve_isInt T.b_isinstance T.b_int (ve_var 0) hv))) fun hb => (vw_or (vt_val (ve_isBool T.b_isinstance T.b_bool (ve_var 0) hv)) fun hb => (vw_or1 (vt_lt (ve_var 0) (ve_var 1))))).t (fun hb => (wss_one (ws_ret ve_bl ?h1))) (fun hb => wss_nil ?h2)))
    case h1 =>
      have z : decide (i < lo) = true := hb
      have z' := of_decide_eq_true z
      show Dt.bl false = Dt.bl (decide (lo ≤ i) && _)
      rw [decide_eq_false (show ¬ lo ≤ i by omega), Bool.false_and]
    case h2 =>
      have z : decide (i < lo) = false := hb
      have z' := of_decide_eq_false z
      have e : isInt (.int i) lo hi = hiOk hi i := by
        show (decide (lo ≤ i) && _) = _
        rw [decide_eq_true (show lo ≤ i by omega), Bool.true_and]
      rw [e]
      cases hi with
      | none => exact wss_one (ws_ret (ve_or (ve_isN (ve_var 2)) fun hb => ve_no (d := .bl true) (by cases hb)) rfl)
      | some h => exact wss_one (ws_ret (ve_or (ve_isN (ve_var 2)) fun hb => (ve_one (ve_le (ve_var 0) (ve_var 2)))) rfl)
  | bl b => exact (wss_cons (ws_if (vw_or (vt_not (vt_val (ve_isInt T.b_isinstance T.b_int (ve_var 0) hv))) fun hb => (vw_or (vt_val (ve_isBool T.b_isinstance T.b_bool (ve_var 0) hv)) fun hb => vw_no (by cases hb) (b := false) (ρ' := [.d (.bl b), .d (.int lo), .d (oI hi)]))).t (fun hb => (wss_one (ws_ret ve_bl rfl))) (fun hb => absurd hb (by simp [Dt.isInt, Dt.isBool]))))
  | _ => exact (wss_cons (ws_if (vw_or (vt_not (vt_val (ve_isInt T.b_isinstance T.b_int (ve_var 0) hv))) fun hb => vw_no (by cases hb) (b := false)).t (fun hb => (wss_one (ws_ret ve_bl rfl))) (fun hb => absurd hb (by simp [Dt.isInt, Dt.isBool]))))

end
end Ev
namespace Ev
open PySem L2 DL
section
variable {P : Program} {w : World} {K : PySem.W.Frag} {mg : Str → Option Value} {base : Heap} {f : Addr} {fd : FuncData}
theorem sc_wrong_item : FnScope ["value", "processors", "period", "shares", "share"] ["value"] (defScope s_wrong_item) := ⟨rfl, rfl, rfl, by decide +kernel, rfl, by decide +kernel, by decide +kernel⟩
def R_wrong_item (ds : List Dt) (r : Res) : Prop := ∃ p q ss, LoadOk p q ss ∧ ds = [load p q ss] ∧ r = .ret .non
theorem ok_wrong_item (T : Txt mg) (G_is_integer : FnAt P w K mg base "is_integer" s_is_integer 1 ["value", "low", "high"] (spD K 3 R_is_integer)) (F : Fun K "wrong_item" "wrong_item" s_wrong_item f fd) : FnG P w K mg base 2 f fd ["value"] (spD K 1 R_wrong_item) := by
  refine okD F sc_wrong_item rfl (by decide) (fun ds r ⟨_, _, _, _, _, h⟩ => ⟨_, h⟩) ?_
  rintro cdv A outer s H E g0 ds d hgd hr ⟨p, q, ss, k, rfl, hd⟩ hl
  cases hd
  have k1 := k.p1
  have k2 := k.p2
  have k3 := k.q1
  have k4 := k.q2
  have k5 := k.l1
  have k6 := k.l2
  show WSs _ _ [.d (.tup [.int p, .int q, .lst (ss.map Dt.int)]), .no, .no, .no, .no] _ _
  refine (wss_cons (ws_asg (ve_var 0) (vg_tup rfl (vgs_cons (vg_name 1 sc_wrong_item.nd) (vgs_cons (vg_name 2 sc_wrong_item.nd) (vgs_cons (vg_name 3 sc_wrong_item.nd) vgs_nil)))) ?_))
  show WSs _ _ [.d (.tup [.int p, .int q, .lst (ss.map Dt.int)]), .d (.int p), .d (.int q), .d (.lst (ss.map Dt.int)), .no] _ _
  refine (wss_cons (ws_if (vt_not (vt_val (vc G_is_integer hgd (hr.mono (by decide)) (va_cons (ve_var 1) (va_cons ve_int (va_cons (ve_gi T.c_MOST_PROCESSORS) va_nil))) ⟨.int p, 1, some 12, rfl, tyI, by rw [isInt_yes k1 k2]⟩))) (fun hb => by cases hb) (fun hb => wss_nil ?_)))
  refine (wss_cons (ws_if (vt_not (vt_val (vc G_is_integer hgd (hr.mono (by decide)) (va_cons (ve_var 2) (va_cons ve_int (va_cons (ve_gi T.c_MOST_PERIOD) va_nil))) ⟨.int q, 1, some MP, rfl, tyI, by rw [isInt_yes k3 k4]⟩))) (fun hb => by cases hb) (fun hb => wss_nil ?_)))
  refine (wss_cons (ws_if (vw_or (vt_not (vt_val (ve_isLst T.b_isinstance T.b_list (ve_var 3) tyL))) fun hb => (vw_or1 (vt_not (vt_chain op_le op_le ve_int (ve_len T.b_len (ve_var 3).r) (ve_gi T.c_MOST_PROCESSES))))).t (fun hb => ?_) (fun hb => wss_nil ?_)))
  · exfalso
    have e : (List.map Dt.int ss).length = ss.length := List.length_map ..
    have z : (decide ((1 : Int) ≤ ((List.map Dt.int ss).length : Int)) && decide (((List.map Dt.int ss).length : Int) ≤ 12)) = true := by
      rw [e, decide_eq_true (show (1 : Int) ≤ (ss.length : Int) by omega), decide_eq_true (show (ss.length : Int) ≤ 12 by omega)]
      rfl
    rw [z] at hb
    cases hb
  refine (wss_cons (ws_if (vw_or (vt_not (vt_val (ve_all (bs := ss.map fun _ => true) rfl T.b_all (VR.to (vl_comp (comp_ok (p := fun _ => true) (f := fun _ => .bl true) (vi_list (ve_var 3)) (by rw [List.length_map]; omega) (fun j d hj => ?_)) rfl sc_wrong_item.nd (blkOk_by (N := ["value", "processors", "period", "shares", "share"]) (sc := defScope s_wrong_item) (own := [("share", 4)]) (by decide +kernel))).r ?_)))) fun hb => (vw_or1 (vt_gt (ve_sum rfl T.b_sum (ve_var 3).r) (ve_mul (ve_var 1) (ve_var 2) (bd_mul k.bp k.bq (by decide)))))).t (fun hb => ?_) (fun hb => wss_nil (wss_one (ws_ret ve_non rfl)))))
  · obtain ⟨s', _, rfl, hs⟩ := int_at hj
    obtain ⟨z1, z2⟩ := k.sh s' hs
    refine ⟨_, fun s H C cl fp => vg_name 4 sc_wrong_item.nd, fun s H C cl fp => vts_nil, fun _ s H C cl fp => vc G_is_integer hgd (hr.mono (by decide)) (va_cons (ve_var 4) (va_cons ve_int (va_cons (ve_var 2) va_nil))) ⟨.int s', 1, some q, rfl, tyI, by rw [isInt_yes z1 z2]⟩⟩
  · rw [comp_ints (g := fun _ => .bl true) (fun _ _ => rfl), List.map_map]
    rfl
  · exfalso
    have z1 : ((ss.map fun _ => true).all fun b => b) = true := by
      rw [List.all_eq_true]
      intro x hx
      obtain ⟨_, _, rfl⟩ := List.mem_map.mp hx
      rfl
    have z2 : decide (p * q < ss.sum) = false := decide_eq_false (by have := k.sm; omega)
    rw [z1, z2] at hb
    cases hb
end
end Ev
namespace Ev
open PySem L2 DL
section
variable {P : Program} {w : World} {K : PySem.W.Frag} {mg : Str → Option Value} {base : Heap} {f : Addr} {fd : FuncData}
theorem sc_need_load : FnScope ["load", "wrong"] ["load"] (defScope s_need_load) := ⟨rfl, rfl, rfl, by decide +kernel, rfl, by decide +kernel, by decide +kernel⟩
theorem ok_need_load (T : Txt mg) (G_wrong_item : FnAt P w K mg base "wrong_item" s_wrong_item 2 ["value"] (spD K 1 R_wrong_item)) (F : Fun K "need_load" "need_load" s_need_load f fd) : FnG P w K mg base 3 f fd ["load"] (spD K 1 R_wrong_item) := by
  refine okD F sc_need_load rfl (by decide) (fun ds r ⟨_, _, _, _, _, h⟩ => ⟨_, h⟩) ?_
  rintro cdv A outer s H E g0 ds d hgd hr ⟨p, q, ss, k, rfl, hd⟩ hl
  cases hd
  show WSs _ _ [.d (.tup [.int p, .int q, .lst (ss.map Dt.int)]), .no] _ _
  refine (wss_cons (ws_if (vw_or (vt_not (vt_val (ve_isTup T.b_isinstance T.b_tuple (ve_var 0) tyT))) fun hb => (vw_or1 (vt_neI (ve_lenT T.b_len (ve_var 0)) ve_int))).t (fun hb => by cases hb) (fun hb => wss_nil (wss_cons (ws_set 1 (vc G_wrong_item hgd (hr.mono (by decide)) (va_cons (ve_var 0) va_nil) ⟨p, q, ss, k, rfl, rfl⟩) (wss_cons (ws_if (vt_notN (ve_var 1)) (fun hb => by cases hb) (fun hb => wss_nil (wss_nil rfl)))) sc_need_load.nd)))))
end
end Ev
namespace Ev
open PySem L2 DL
section
variable {P : Program} {w : World} {K : PySem.W.Frag} {mg : Str → Option Value} {base : Heap} {f : Addr} {fd : FuncData}
theorem sc_need_process : FnScope ["load", "process"] ["load", "process"] (defScope s_need_process) := ⟨rfl, rfl, rfl, by decide +kernel, rfl, by decide +kernel, by decide +kernel⟩
def R_need_process (ds : List Dt) (r : Res) : Prop := ∃ p q ss i, LoadOk p q ss ∧ 0 ≤ i ∧ i < (ss.length : Int) ∧ ds = [load p q ss, .int i] ∧ r = .ret .non
theorem ok_need_process (T : Txt mg) (G_is_integer : FnAt P w K mg base "is_integer" s_is_integer 1 ["value", "low", "high"] (spD K 3 R_is_integer)) (F : Fun K "need_process" "need_process" s_need_process f fd) : FnG P w K mg base 2 f fd ["load", "process"] (spD K 2 R_need_process) := by
  refine okD F sc_need_process rfl (by decide) (fun ds r ⟨_, _, _, _, _, _, _, _, h⟩ => ⟨_, h⟩) ?_
  rintro cdv A outer s H E g0 ds d hgd hr ⟨p, q, ss, i, k, h1, h2, rfl, hd⟩ hl
  cases hd
  show WSs _ _ [.d (.tup [.int p, .int q, .lst (ss.map Dt.int)]), .d (.int i)] _ _
  refine wss_cons (ws_if (vt_not (vt_val (vc G_is_integer hgd (hr.mono (by decide)) (va_cons (ve_var 1) (va_cons ve_int (va_cons (ve_sub (ve_len T.b_len (ve_ixT (ve_var 0) ve_int rfl).r) ve_int) va_nil))) ⟨.int i, 0, some (((ss.map Dt.int).length : Int) - 1), rfl, tyI, by rw [isInt_yes h1 (by rw [List.length_map]; omega)]⟩))) (fun hb => by cases hb) (fun hb => wss_nil (wss_nil rfl)))
end
end Ev
namespace Ev
open PySem L2 DL
section
variable {P : Program} {w : World} {K : PySem.W.Frag} {mg : Str → Option Value} {base : Heap} {f : Addr} {fd : FuncData}
theorem sc_need_number : FnScope ["value", "low", "high"] ["value", "low", "high"] (defScope s_need_number) := ⟨rfl, rfl, rfl, by decide +kernel, rfl, by decide +kernel, by decide +kernel⟩
def R_need_number (ds : List Dt) (r : Res) : Prop := ∃ (v : Dt) (lo : Int) (hi : Option Int), ds = [v, .int lo, oI hi] ∧ v.ty ≠ "" ∧ isInt v lo hi = true ∧ r = .ret .non
theorem ok_need_number (T : Txt mg) (G_is_integer : FnAt P w K mg base "is_integer" s_is_integer 1 ["value", "low", "high"] (spD K 3 R_is_integer)) (F : Fun K "need_number" "need_number" s_need_number f fd) : FnG P w K mg base 2 f fd ["value", "low", "high"] (spD K 3 R_need_number) := by
  refine okD F sc_need_number rfl (by decide) (fun ds r ⟨_, _, _, _, _, _, h⟩ => ⟨_, h⟩) ?_
  rintro cdv A outer s H E g0 ds d hgd hr ⟨v, lo, hi, rfl, hv, hi', hd⟩ hl
  cases hd
  show WSs _ _ [.d v, .d (.int lo), .d (oI hi)] _ _
  exact wss_cons (ws_if (vt_not (vt_val (vc G_is_integer hgd (hr.mono (by decide)) (va_cons (ve_var 0) (va_cons (ve_var 1) (va_cons (ve_var 2) va_nil))) ⟨v, lo, hi, rfl, hv, by rw [hi']⟩))) (fun hb => by cases hb) (fun hb => wss_nil (wss_nil rfl)))
end
end Ev
namespace Ev
open PySem L2 DL
section
variable {P : Program} {w : World} {K : PySem.W.Frag} {mg : Str → Option Value} {base : Heap} {f : Addr} {fd : FuncData}
theorem sc_down : FnScope ["share", "period", "moment"] ["share", "period", "moment"] (defScope s_down) := ⟨rfl, rfl, rfl, by decide +kernel, rfl, by decide +kernel, by decide +kernel⟩
def R_down (ds : List Dt) (r : Res) : Prop := ∃ s p m : Int, ds = [.int s, .int p, .int m] ∧ 0 < p ∧ Bd 2000 s ∧ Bd 2000 p ∧ Bd 2000 m ∧ r = .ret (.int (s * m / p))
theorem ok_down (F : Fun K "down" "down" s_down f fd) : FnG P w K mg base 1 f fd ["share", "period", "moment"] (spD K 3 R_down) := by
  refine okD F sc_down rfl (by decide) (fun ds r ⟨_, _, _, _, _, _, _, _, h⟩ => ⟨_, h⟩) ?_
  rintro cdv A outer s H E g0 ds d hgd hr ⟨share, period, moment, rfl, hp, b_share, b_period, b_moment, hd⟩ hl
  cases hd
  show WSs _ _ [.d (.int share), .d (.int period), .d (.int moment)] _ _
  refine (wss_one (ws_ret (ve_div (ve_mul (ve_var 0) (ve_var 2) (bd_mul b_share b_moment (by decide))) (ve_var 1) (bd_div hp b_period (by decide))) ?h1))
  rfl
end
end Ev
namespace Ev
open PySem L2 DL
section
variable {P : Program} {w : World} {K : PySem.W.Frag} {mg : Str → Option Value} {base : Heap} {f : Addr} {fd : FuncData}
theorem sc_up : FnScope ["share", "period", "moment"] ["share", "period", "moment"] (defScope s_up) := ⟨rfl, rfl, rfl, by decide +kernel, rfl, by decide +kernel, by decide +kernel⟩
def R_up (ds : List Dt) (r : Res) : Prop := ∃ s p m : Int, ds = [.int s, .int p, .int m] ∧ 0 < p ∧ Bd 2000 s ∧ Bd 2000 p ∧ Bd 2000 m ∧ r = .ret (.int (-(-s * m / p)))
theorem ok_up (F : Fun K "up" "up" s_up f fd) : FnG P w K mg base 1 f fd ["share", "period", "moment"] (spD K 3 R_up) := by
  refine okD F sc_up rfl (by decide) (fun ds r ⟨_, _, _, _, _, _, _, _, h⟩ => ⟨_, h⟩) ?_
  rintro cdv A outer s H E g0 ds d hgd hr ⟨share, period, moment, rfl, hp, b_share, b_period, b_moment, hd⟩ hl
  cases hd
  show WSs _ _ [.d (.int share), .d (.int period), .d (.int moment)] _ _
  refine (wss_one (ws_ret (ve_neg (ve_div (ve_mul (ve_neg (ve_var 0)) (ve_var 2) (bd_mul b_share.neg b_moment (by decide))) (ve_var 1) (bd_div hp b_period (by decide)))) rfl))
end
end Ev
namespace Ev
open PySem L2 DL
/-! ### straight and early ticks -/
/-- the tick of the slice n in the straight row of a shift -/
def strt (s q sh n : Int) : Int := -((sh - (n + 1) * q) / s) - 1
theorem strt_lo {s q sh n : Int} (hs : 0 < s) : s * strt s q sh n < (n + 1) * q - sh := by
  unfold strt
  have h1 := Int.lt_mul_ediv_self_add (x := sh - (n + 1) * q) hs
  have h2 := Int.mul_ediv_self_le (x := sh - (n + 1) * q) (k := s) (by omega)
  have e : s * (-((sh - (n + 1) * q) / s) - 1) = -(s * ((sh - (n + 1) * q) / s)) - s := by
    rw [Int.mul_sub, Int.mul_neg, Int.mul_one]
  omega
theorem strt_hi {s q sh n : Int} (hs : 0 < s) : (n + 1) * q - sh ≤ s * (strt s q sh n + 1) := by
  unfold strt
  have h2 := Int.mul_ediv_self_le (x := sh - (n + 1) * q) (k := s) (by omega)
  have e : s * (-((sh - (n + 1) * q) / s) - 1 + 1) = -(s * ((sh - (n + 1) * q) / s)) := by
    rw [Int.sub_add_cancel, Int.mul_neg]
  omega
theorem div_is {a q n : Int} (hq : 0 < q) (h1 : n * q ≤ a) (h2 : a < (n + 1) * q) : a / q = n := by
  have h3 : n ≤ a / q := (Int.le_ediv_iff_mul_le hq).mpr h1
  have h4 : a / q < n + 1 := (Int.ediv_lt_iff_lt_mul hq).mpr h2
  omega
theorem up_is {a q n : Int} (hq : 0 < q) (h1 : (n - 1) * q < a) (h2 : a ≤ n * q) : -(-a / q) = n := by
  have e : -a / q = -n := div_is hq (by rw [Int.neg_mul]; omega) (by
    have z : (-n + 1) * q = -((n - 1) * q) := by rw [← Int.neg_mul]; congr 1; omega
    omega)
  omega
/-- the ticks of a straight row: just so many slices, and shift, ahead of it and behind -/
theorem strt_counts {s q sh n : Int} (hs : 0 < s) (hq : s ≤ q) (h0 : 0 ≤ sh) (h1 : sh < q) : (s * strt s q sh n + sh) / q = n ∧ (s * (strt s q sh n + 1) + sh) / q = n + 1 := by
  have a := strt_lo (s := s) (q := q) (sh := sh) (n := n) hs
  have b := strt_hi (s := s) (q := q) (sh := sh) (n := n) hs
  have c : s * (strt s q sh n + 1) = s * strt s q sh n + s := by rw [Int.mul_add, Int.mul_one]
  have d : (n + 1) * q = n * q + q := by rw [Int.add_mul, Int.one_mul]
  have e : (n + 1 + 1) * q = n * q + q + q := by rw [Int.add_mul, Int.one_mul, d]
  exact ⟨div_is (by omega) (by omega) (by omega), div_is (by omega) (by omega) (by omega)⟩
theorem early_lo {s q n : Int} (hs : 0 < s) : s * (n * q / s) ≤ n * q ∧ n * q < s * (n * q / s) + s :=
  ⟨Int.mul_ediv_self_le (by omega), Int.lt_mul_ediv_self_add hs⟩
theorem early_counts {s q n : Int} (hs : 0 < s) (hq : s ≤ q) : -(-s * (n * q / s) / q) = n ∧ -(-s * (n * q / s + 1) / q) = n + 1 := by
  obtain ⟨a, b⟩ := early_lo (s := s) (q := q) (n := n) hs
  have c : s * (n * q / s + 1) = s * (n * q / s) + s := by rw [Int.mul_add, Int.mul_one]
  have d : (n + 1) * q = n * q + q := by rw [Int.add_mul, Int.one_mul]
  have e : (n - 1) * q = n * q - q := by rw [Int.sub_mul, Int.one_mul]
  have g : (n + 1 - 1) * q = n * q := by rw [Int.add_sub_cancel]
  rw [Int.neg_mul, Int.neg_mul]
  exact ⟨up_is (by omega) (by omega) (by omega), up_is (by omega) (by omega) (by omega)⟩
theorem early_le {s q sh n : Int} (hs : 0 < s) (h1 : sh < q) : n * q / s ≤ strt s q sh n := by
  obtain ⟨a, b⟩ := early_lo (s := s) (q := q) (n := n) hs
  have c := strt_hi (s := s) (q := q) (sh := sh) (n := n) hs
  have d : (n + 1) * q = n * q + q := by rw [Int.add_mul, Int.one_mul]
  have e : s * (n * q / s) < s * (strt s q sh n + 1) := by omega
  have := Int.lt_of_mul_lt_mul_left e (by omega)
  omega
theorem strt_0 (s q n : Int) : win s q n = .tup [.int (n * q / s), .int (strt s q 0 n)] := by
  unfold win strt
  rw [Int.zero_sub, Int.neg_mul]
/-! ### one of some written items -/
theorem pick2 {a b : Dt} {x : Int} (h0 : 0 ≤ x) (h1 : x < 2) (Q : Dt → Prop) (qa : Q a) (qb : Q b) : ∃ d, atI [a, b] x = some d ∧ Q d := by
  have : x = 0 ∨ x = 1 := by omega
  rcases this with rfl | rfl
  · exact ⟨a, rfl, qa⟩
  · exact ⟨b, rfl, qb⟩
theorem pick3 {a b c : Dt} {x : Int} (h0 : 0 ≤ x) (h1 : x < 3) (Q : Dt → Prop) (qa : Q a) (qb : Q b) (qc : Q c) : ∃ d, atI [a, b, c] x = some d ∧ Q d := by
  have : x = 0 ∨ x = 1 ∨ x = 2 := by omega
  rcases this with rfl | rfl | rfl
  · exact ⟨a, rfl, qa⟩
  · exact ⟨b, rfl, qb⟩
  · exact ⟨c, rfl, qc⟩
theorem pick4 {a b c d : Dt} {x : Int} (h0 : 0 ≤ x) (h1 : x < 4) (Q : Dt → Prop) (qa : Q a) (qb : Q b) (qc : Q c) (qd : Q d) : ∃ e, atI [a, b, c, d] x = some e ∧ Q e := by
  have : x = 0 ∨ x = 1 ∨ x = 2 ∨ x = 3 := by omega
  rcases this with rfl | rfl | rfl | rfl
  · exact ⟨a, rfl, qa⟩
  · exact ⟨b, rfl, qb⟩
  · exact ⟨c, rfl, qc⟩
  · exact ⟨d, rfl, qd⟩
theorem bd_lt {x y : Int} {n : Nat} (h0 : 0 ≤ x) (h1 : x < y) (h : Bd n y) : Bd n x := h.le (by omega)
theorem sm_pair {x y : Int} (h1 : Bd 1900 x) (h2 : Bd 1900 y) : Dt.Sm (.lst [.int x, .int y]) := ⟨h1, h2, trivial⟩
theorem sm_tup2 {x y : Int} (h1 : Bd 1900 x) (h2 : Bd 1900 y) : Dt.Sm (.tup [.int x, .int y]) := ⟨h1, h2, trivial⟩
end Ev
namespace Ev
open PySem L2 DL
/-! ### ticks within a limit -/
theorem strt_iff {s q sh n x : Int} (hs : 0 < s) : x ≤ strt s q sh n ↔ s * x < (n + 1) * q - sh := by
  have a := strt_lo (s := s) (q := q) (sh := sh) (n := n) hs
  have b := strt_hi (s := s) (q := q) (sh := sh) (n := n) hs
  constructor
  · intro h
    have := Int.mul_le_mul_of_nonneg_left h (Int.le_of_lt hs)
    omega
  · intro h
    have e : s * x < s * (strt s q sh n + 1) := by omega
    have := Int.lt_of_mul_lt_mul_left e (Int.le_of_lt hs)
    omega
/-- the ticks of the slice n that keep the limit -/
def wthn (s q n b : Int) : Dt := .tup [.int (max 0 (strt s q b n)), .int ((n * q + b) / s)]
theorem neg1_div {a s : Int} (hs : 0 < s) : (-1 - a) / s = -(a / s) - 1 := by
  have h1 := Int.mul_ediv_self_le (x := a) (k := s) (by omega)
  have h2 := Int.lt_mul_ediv_self_add (x := a) hs
  refine div_is hs ?_ ?_
  · rw [Int.sub_mul, Int.neg_mul, Int.one_mul, Int.mul_comm]; omega
  · rw [Int.sub_add_cancel, Int.neg_mul, Int.mul_comm]; omega
theorem wthn_win {s q n : Int} (hs : 0 < s) (hq : 0 < q) (hn : 0 ≤ n) : wthn s q n (q - 1) = win s q n := by
  have d : (n + 1) * q = n * q + q := by rw [Int.add_mul, Int.one_mul]
  have nq : 0 ≤ n * q := Int.mul_nonneg hn (by omega)
  have e1 : strt s q (q - 1) n = n * q / s := by
    unfold strt
    have e : q - 1 - (n + 1) * q = -1 - n * q := by omega
    rw [e, neg1_div hs]
    omega
  have e2 : (n * q + (q - 1)) / s = -(-(n + 1) * q / s) - 1 := by
    have e : n * q + (q - 1) = -1 - (-(n + 1) * q) := by rw [Int.neg_mul]; omega
    rw [e, neg1_div hs]
  have p : 0 ≤ n * q / s := Int.ediv_nonneg nq (by omega)
  unfold wthn win
  rw [e1, e2, Int.max_eq_right p]
/-! ### a load as data whose text is asked -/
theorem LoadOk.smd {p q : Int} {ss : List Int} (k : LoadOk p q ss) : (load p q ss).Sm :=
  ⟨k.bp.up (by decide), k.bq.up (by decide), sm_ints fun n hn => (k.bs hn).up (by decide), trivial⟩
theorem load_dep (p q : Int) (ss : List Int) : (load p q ss).dep = 2 := by
  show max 0 (max 0 (max (Dt.depA (ss.map Dt.int) + 1) 0)) + 1 = 2
  rw [dep_ints]
  rfl
theorem load_wt {p q : Int} {ss : List Int} (k : LoadOk p q ss) : (load p q ss).wt ≤ 40000 := by
  have e := wt_ints ss
  have l2 := k.l2
  simp only [load, Dt.wt, Dt.wtA]
  omega
theorem LoadOk.fit {p q : Int} {ss : List Int} (k : LoadOk p q ss) : (load p q ss).fits = true :=
  fits_of k.smd (by rw [load_dep]; decide) (Nat.le_trans (load_wt k) (by decide))
theorem wthn_sm {s q n b : Int} (hs : 0 < s) (bq : Bd 400 q) (bn : Bd 400 n) (bb : Bd 400 b) : (wthn s q n b).Sm := by
  refine ⟨?_, ?_, trivial⟩
  · exact (Bd.max (show Bd 1 (0 : Int) from Bd.lit rfl) ((((bb.sub ((bn.add (show Bd 1 (1 : Int) from Bd.lit rfl)).mul bq)).div hs).neg).sub (show Bd 1 (1 : Int) from Bd.lit rfl))).up (by decide)
  · exact (((bn.mul bq).add bb).div hs).up (by decide)
end Ev
namespace Ev
open PySem L2 DL
/-! ### slices at ticks, windows within a stretch -/
theorem mem_rng {x a : Int} {n : Nat} : x ∈ rng a n ↔ a ≤ x ∧ x < a + (n : Int) := by
  constructor
  · exact rng_mem
  · rintro ⟨h1, h2⟩
    have e : (rng a n)[(x - a).toNat]? = some x := by
      unfold rng
      rw [List.getElem?_map, List.getElem?_range (by omega)]
      show some (a + (((x - a).toNat : Nat) : Int)) = some x
      congr 1
      omega
    exact List.mem_of_getElem? e
theorem dn_le {a q n : Int} (hq : 0 < q) : a / q ≤ n ↔ a < (n + 1) * q := by
  rw [← Int.ediv_lt_iff_lt_mul hq]
  omega
theorem le_dn {a q n : Int} (hq : 0 < q) : n ≤ a / q ↔ n * q ≤ a := Int.le_ediv_iff_mul_le hq
theorem up_le {a q n : Int} (hq : 0 < q) : -(-a / q) ≤ n ↔ a ≤ n * q := by
  have h := le_dn (a := -a) (n := -n) hq
  rw [Int.neg_mul] at h
  constructor
  · intro z
    have := h.mp (by omega)
    omega
  · intro z
    have := h.mpr (by omega)
    omega
theorem lt_up {a q n : Int} (hq : 0 < q) : n < -(-a / q) ↔ n * q < a := by
  have := up_le (a := a) (n := n) hq
  omega
def loS (s q t : Int) : Int := s * t / q
def hiS (s q t : Int) : Int := -(-s * t / q)
theorem loS_le {s q t n : Int} (hq : 0 < q) : loS s q t ≤ n ↔ s * t < (n + 1) * q := dn_le hq
theorem le_loS {s q t n : Int} (hq : 0 < q) : n ≤ loS s q t ↔ n * q ≤ s * t := le_dn hq
theorem hiS_le {s q t n : Int} (hq : 0 < q) : hiS s q t ≤ n ↔ s * t ≤ n * q := by unfold hiS; rw [Int.neg_mul]; exact up_le hq
theorem lt_hiS {s q t n : Int} (hq : 0 < q) : n < hiS s q t ↔ n * q < s * t := by unfold hiS; rw [Int.neg_mul]; exact lt_up hq
theorem loS_move {s q t k : Int} (hq : 0 < q) : loS s q (t + k * q) = loS s q t + k * s := by
  unfold loS
  rw [Int.mul_add, show s * (k * q) = k * s * q by rw [← Int.mul_assoc, Int.mul_comm s k], Int.add_mul_ediv_right _ _ (by omega)]
theorem hiS_move {s q t k : Int} (hq : 0 < q) : hiS s q (t + k * q) = hiS s q t + k * s := by
  unfold hiS
  rw [Int.mul_add, show -s * (k * q) = -(k * s) * q by rw [Int.neg_mul, ← Int.mul_assoc, Int.mul_comm s k, ← Int.neg_mul], Int.add_mul_ediv_right _ _ (by omega)]
  omega
theorem loS_hiS {s q t : Int} (hq : 0 < q) : loS s q t ≤ hiS s q t ∧ hiS s q t ≤ loS s q t + 1 := by
  constructor
  · rw [loS_le hq]
    have h := (hiS_le (s := s) (t := t) hq).mp (Int.le_refl _)
    rw [Int.add_mul]
    omega
  · rw [hiS_le hq]
    have h := (loS_le (s := s) (t := t) hq).mp (Int.le_refl _)
    omega
theorem loS_mono {s q t u : Int} (hs : 0 ≤ s) (hq : 0 < q) (h : t ≤ u) : loS s q t ≤ loS s q u := by
  rw [le_loS hq]
  have a := (le_loS (s := s) (t := t) hq).mp (Int.le_refl _)
  have b := Int.mul_le_mul_of_nonneg_left h hs
  omega
theorem hiS_mono {s q t u : Int} (hs : 0 ≤ s) (hq : 0 < q) (h : t ≤ u) : hiS s q t ≤ hiS s q u := by
  rw [hiS_le hq]
  have a := (hiS_le (s := s) (t := u) hq).mp (Int.le_refl _)
  have b := Int.mul_le_mul_of_nonneg_left h hs
  omega
/-- the numbers of the slices whose windows have the tick -/
def slc (s q t : Int) : List Int := rng (loS s q t) (hiS s q (t + 1) - loS s q t).toNat
theorem slc_size {s q t : Int} (hs : 0 < s) (hq : s ≤ q) : 1 ≤ hiS s q (t + 1) - loS s q t ∧ hiS s q (t + 1) - loS s q t ≤ 2 := by
  have hq0 : 0 < q := by omega
  have e : s * (t + 1) = s * t + s := by rw [Int.mul_add, Int.mul_one]
  have a := (loS_le (s := s) (t := t) hq0).mp (Int.le_refl _)
  have b := (le_loS (s := s) (t := t) hq0).mp (Int.le_refl _)
  have c : loS s q t < hiS s q (t + 1) := by rw [lt_hiS hq0]; omega
  have d : hiS s q (t + 1) ≤ loS s q t + 2 := by
    rw [hiS_le hq0, e]
    have z : (loS s q t + 2) * q = (loS s q t + 1) * q + q := by rw [show loS s q t + 2 = loS s q t + 1 + 1 by omega, Int.add_mul (loS s q t + 1) 1 q, Int.one_mul]
    omega
  omega
theorem mem_slc {s q t n : Int} (hs : 0 < s) (hq : s ≤ q) : n ∈ slc s q t ↔ s * t < (n + 1) * q ∧ n * q < s * (t + 1) := by
  have hq0 : 0 < q := by omega
  have z := slc_size (t := t) hs hq
  unfold slc
  rw [mem_rng, ← loS_le hq0, ← lt_hiS hq0]
  omega
theorem slc_move {s q t k : Int} (hq : 0 < q) : slc s q (t + k * q) = (slc s q t).map fun n => n + k * s := by
  unfold slc
  rw [loS_move hq, show t + k * q + 1 = t + 1 + k * q by omega, hiS_move hq]
  unfold rng
  rw [List.map_map, show hiS s q (t + 1) + k * s - (loS s q t + k * s) = hiS s q (t + 1) - loS s q t by omega]
  refine List.map_congr_left fun j _ => ?_
  show loS s q t + k * s + (j : Int) = loS s q t + (j : Int) + k * s
  omega
/-- windows within a stretch -/
def wwn (s q a b : Int) : Int := max 0 (loS s q b - hiS s q a)
theorem wwn_move {s q a b k : Int} (hq : 0 < q) : wwn s q (a + k * q) (b + k * q) = wwn s q a b := by
  unfold wwn
  rw [loS_move hq, hiS_move hq]
  congr 1
  omega
theorem wwn_cut {s q a m b : Int} (hs : 0 ≤ s) (hq : 0 < q) (h1 : a ≤ m) (h2 : m ≤ b) : wwn s q a b - 1 ≤ wwn s q a m + wwn s q m b ∧ wwn s q a m + wwn s q m b ≤ wwn s q a b := by
  have x1 := loS_hiS (s := s) (t := m) hq
  have x2 := hiS_mono hs hq h1
  have x3 := loS_mono hs hq h2
  unfold wwn
  omega
theorem wwn_back {s q a b : Int} (hs : 0 ≤ s) (hq : 0 < q) (h : a ≤ b) : wwn s q b a = 0 := by
  have x1 := loS_hiS (s := s) (t := a) hq
  have x2 := hiS_mono hs hq h
  unfold wwn
  omega
theorem win_move {s q n k : Int} (hs : 0 < s) : win s q (n + k * s) = .tup [.int (n * q / s + k * q), .int (-(-(n + 1) * q / s) - 1 + k * q)] := by
  unfold win
  have e1 : (n + k * s) * q / s = n * q / s + k * q := by
    rw [Int.add_mul, show k * s * q = k * q * s by rw [Int.mul_assoc, Int.mul_comm s q, ← Int.mul_assoc], Int.add_mul_ediv_right _ _ (by omega)]
  have e2 : -(n + k * s + 1) * q / s = -(n + 1) * q / s - k * q := by
    rw [show -(n + k * s + 1) * q = -(n + 1) * q + -(k * q) * s by
      rw [show -(n + k * s + 1) = -(n + 1) + -(k * s) by omega, Int.add_mul, Int.neg_mul (k * s), Int.neg_mul (k * q), show k * s * q = k * q * s by rw [Int.mul_assoc, Int.mul_comm s q, ← Int.mul_assoc]], Int.add_mul_ediv_right _ _ (by omega)]
    omega
  rw [e1, e2]
  congr 3
  congr 1
  omega
theorem due_move {s q t k : Int} (hq : 0 < q) : due s q (t + k * q) = .tup [.int (loS s q t + k * s), .int (hiS s q t + k * s)] := by
  show Dt.tup [.int (loS s q (t + k * q)), .int (hiS s q (t + k * q))] = _
  rw [loS_move hq, hiS_move hq]
/-- the window of a slice, and the tick it keeps -/
theorem win_has {s q n t : Int} (hs : 0 < s) (hq : s ≤ q) : (n * q / s ≤ t ∧ t ≤ strt s q 0 n) ↔ n ∈ slc s q t := by
  rw [mem_slc hs hq, dn_le hs, strt_iff hs, Int.sub_zero, Int.mul_comm (t + 1) s]
  exact And.comm
theorem slc_last {s q t : Int} (hs : 0 < s) (hq : s ≤ q) : slc s q t = rng (loS s q t) (hiS s q (t + 1) - 1 + 1 - loS s q t).toNat := by
  unfold slc
  congr 2
  omega
end Ev
namespace Ev
open PySem L2 DL
section
variable {P : Program} {w : World} {K : PySem.W.Frag} {mg : Str → Option Value} {base : Heap} {f : Addr} {fd : FuncData}
theorem sc_slices_at : FnScope ["load", "process", "tick", "share", "period"] ["load", "process", "tick"] (defScope s_slices_at) := ⟨rfl, rfl, rfl, by decide +kernel, rfl, by decide +kernel, by decide +kernel⟩
def R_slices_at (ds ls : List Dt) : Prop := ∃ p q ss i n, LPN ds p q ss i n ∧ ls = (slc (ss.getD i.toNat 0) q n).map Dt.int
theorem ok_slices_at (T : Txt mg) (G_need_load : FnAt P w K mg base "need_load" s_need_load 3 ["load"] (spD K 1 R_wrong_item)) (G_need_process : FnAt P w K mg base "need_process" s_need_process 2 ["load", "process"] (spD K 2 R_need_process)) (G_need_number : FnAt P w K mg base "need_number" s_need_number 2 ["value", "low", "high"] (spD K 3 R_need_number))
    (G_down : FnAt P w K mg base "down" s_down 1 ["share", "period", "moment"] (spD K 3 R_down)) (G_up : FnAt P w K mg base "up" s_up 1 ["share", "period", "moment"] (spD K 3 R_up)) (F : Fun K "slices_at" "slices_at" s_slices_at f fd) : FnG P w K mg base 4 f fd ["load", "process", "tick"] (spL K 3 R_slices_at) := by
  refine okL F sc_slices_at rfl (by decide) ?_
  rintro cdv A outer s H E g0 ds ls hgd hr ⟨p, q, ss, i, n, ⟨k, h1, h2, h3, h4, rfl⟩, rfl⟩ hl
  have hm := share_mem h1 h2
  have bs := (k.bs hm).up (show 110 ≤ 2000 by decide)
  have bq := k.bq.up (show 110 ≤ 2000 by decide)
  have bn1 : Bd 2000 (n + 1) := (h4.add (show Bd 1 (1 : Int) from Bd.lit rfl)).up (by decide)
  have hq : 0 < q := by have := k.q1; omega
  obtain ⟨s1, s2⟩ := k.sh _ hm
  have z := slc_size (s := ss.getD i.toNat 0) (q := q) (t := n) (by omega) s2
  show WSs _ _ [.d (.tup [.int p, .int q, .lst (ss.map Dt.int)]), .d (.int i), .d (.int n), .no, .no] _ _
  refine wss_cons (ws_expr (vc G_need_load hgd (hr.mono (by decide)) (va_cons (ve_var 0) va_nil) ⟨p, q, ss, k, rfl, rfl⟩) ?_)
  refine wss_cons (ws_expr (vc G_need_process hgd (hr.mono (by decide)) (va_cons (ve_var 0) (va_cons (ve_var 1) va_nil)) ⟨p, q, ss, i, k, h1, h2, rfl, rfl⟩) ?_)
  refine wss_cons (ws_expr (vc G_need_number hgd (hr.mono (by decide)) (va_cons (ve_var 2) (va_cons ve_int (va_cons ve_non va_nil))) ⟨.int n, 0, none, rfl, tyI, isInt_yesN h3, rfl⟩) ?_)
  refine wss_cons (ws_par 3 4 (va_cons (ve_ix (ve_ixT (ve_var 0) ve_int rfl) (ve_var 1) (share_at h1 h2)) (va_cons (ve_ixT (ve_var 0) ve_int rfl) va_nil)) ?_ rfl sc_slices_at.nd)
  exact wss_one (ws_retL (vl_rangeAny rfl T.b_list T.b_range (vc G_down hgd (hr.mono (by decide)) (va_cons (ve_var 3) (va_cons (ve_var 4) (va_cons (ve_var 2) va_nil))) ⟨_, q, n, rfl, hq, bs, bq, h4.up (by decide), rfl⟩) (vc G_up hgd (hr.mono (by decide)) (va_cons (ve_var 3) (va_cons (ve_var 4) (va_cons (ve_add (ve_var 2) ve_int) va_nil))) ⟨_, q, n + 1, rfl, hq, bs, bq, bn1, rfl⟩) (show (hiS (ss.getD i.toNat 0) q (n + 1) - loS (ss.getD i.toNat 0) q n).toNat ≤ 2 ^ 24 by omega)) rfl)
end
end Ev
namespace Ev
open PySem L2 DL
section
variable {P : Program} {w : World} {K : PySem.W.Frag} {mg : Str → Option Value} {base : Heap} {f : Addr} {fd : FuncData}
theorem sc_windows_within : FnScope ["load", "process", "begin", "end", "share", "period"] ["load", "process", "begin", "end"] (defScope s_windows_within) := ⟨rfl, rfl, rfl, by decide +kernel, rfl, by decide +kernel, by decide +kernel⟩
def R_windows_within (ds : List Dt) (r : Res) : Prop := ∃ p q ss i a b, LoadOk p q ss ∧ 0 ≤ i ∧ i < (ss.length : Int) ∧ 0 ≤ a ∧ Bd 1500 a ∧ 0 ≤ b ∧ Bd 1500 b ∧ ds = [load p q ss, .int i, .int a, .int b] ∧ r = .ret (.int (wwn (ss.getD i.toNat 0) q a b))
theorem ok_windows_within (T : Txt mg) (G_need_load : FnAt P w K mg base "need_load" s_need_load 3 ["load"] (spD K 1 R_wrong_item)) (G_need_process : FnAt P w K mg base "need_process" s_need_process 2 ["load", "process"] (spD K 2 R_need_process)) (G_need_number : FnAt P w K mg base "need_number" s_need_number 2 ["value", "low", "high"] (spD K 3 R_need_number))
    (G_down : FnAt P w K mg base "down" s_down 1 ["share", "period", "moment"] (spD K 3 R_down)) (G_up : FnAt P w K mg base "up" s_up 1 ["share", "period", "moment"] (spD K 3 R_up)) (F : Fun K "windows_within" "windows_within" s_windows_within f fd) : FnG P w K mg base 4 f fd ["load", "process", "begin", "end"] (spD K 4 R_windows_within) := by
  refine okD F sc_windows_within rfl (by decide) (fun ds r ⟨_, _, _, _, _, _, _, _, _, _, _, _, _, _, h⟩ => ⟨_, h⟩) ?_
  rintro cdv A outer s H E g0 ds d hgd hr ⟨p, q, ss, i, a, b, k, h1, h2, h3, h4, h5, h6, rfl, hd⟩ hl
  cases hd
  have hm := share_mem h1 h2
  have bs := (k.bs hm).up (show 110 ≤ 2000 by decide)
  have bq := k.bq.up (show 110 ≤ 2000 by decide)
  have hq : 0 < q := by have := k.q1; omega
  show WSs _ _ [.d (.tup [.int p, .int q, .lst (ss.map Dt.int)]), .d (.int i), .d (.int a), .d (.int b), .no, .no] _ _
  refine wss_cons (ws_expr (vc G_need_load hgd (hr.mono (by decide)) (va_cons (ve_var 0) va_nil) ⟨p, q, ss, k, rfl, rfl⟩) ?_)
  refine wss_cons (ws_expr (vc G_need_process hgd (hr.mono (by decide)) (va_cons (ve_var 0) (va_cons (ve_var 1) va_nil)) ⟨p, q, ss, i, k, h1, h2, rfl, rfl⟩) ?_)
  refine wss_cons (ws_expr (vc G_need_number hgd (hr.mono (by decide)) (va_cons (ve_var 2) (va_cons ve_int (va_cons ve_non va_nil))) ⟨.int a, 0, none, rfl, tyI, isInt_yesN h3, rfl⟩) ?_)
  refine wss_cons (ws_expr (vc G_need_number hgd (hr.mono (by decide)) (va_cons (ve_var 3) (va_cons ve_int (va_cons ve_non va_nil))) ⟨.int b, 0, none, rfl, tyI, isInt_yesN h5, rfl⟩) ?_)
  refine wss_cons (ws_par 4 5 (va_cons (ve_ix (ve_ixT (ve_var 0) ve_int rfl) (ve_var 1) (share_at h1 h2)) (va_cons (ve_ixT (ve_var 0) ve_int rfl) va_nil)) ?_ rfl sc_windows_within.nd)
  exact wss_one (ws_ret (ve_max2 rfl T.b_max (va_cons ve_int (va_cons (ve_sub (vc G_down hgd (hr.mono (by decide)) (va_cons (ve_var 4) (va_cons (ve_var 5) (va_cons (ve_var 3) va_nil))) ⟨_, q, b, rfl, hq, bs, bq, h6.up (by decide), rfl⟩) (vc G_up hgd (hr.mono (by decide)) (va_cons (ve_var 4) (va_cons (ve_var 5) (va_cons (ve_var 2) va_nil))) ⟨_, q, a, rfl, hq, bs, bq, h4.up (by decide), rfl⟩)) va_nil))) rfl)
end
end Ev
namespace Ev
open PySem L2 DL
section
variable {P : Program} {w : World} {K : PySem.W.Frag} {mg : Str → Option Value} {base : Heap} {f : Addr} {fd : FuncData}
theorem sc__law_draw : FnScope ["source", "count", "digit", "mixed"] ["source", "count"] (defScope s__law_draw) := ⟨rfl, rfl, rfl, by decide +kernel, rfl, by decide +kernel, by decide +kernel⟩
theorem ok__law_draw (T : Txt mg) (F : Fun K "_law_draw" "_law_draw" s__law_draw f fd) : FnG P w K mg base 1 f fd ["source", "count"] (spI K 1 R_draw) := by
  refine okI F sc__law_draw rfl (by decide) ?_
  rintro cdv A outer s0 H E g0 p ls ds d ls' hgd hr ⟨s, n, m, k, hm, hn, bn, rfl, rfl, rfl, rfl⟩ hl
  show WSs _ _ [.i p [.int s.a, .int s.b, .int s.c], .d (.int n), .no, .no] _ _
  have k0 := k.c0
  have kc := k.cn
  have bc : Bd 30 s.c := by unfold Bd; omega
  have bc1 : Bd 31 (s.c + 1) := by unfold Bd; omega
  have b8 : Bd 30 (800011 : Int) := Bd.lit rfl
  have b7 : Bd 30 (70001 : Int) := Bd.lit rfl
  have b10 : Bd 10 (10 : Int) := Bd.lit rfl
  have b65 : Bd 30 (65521 : Int) := Bd.lit rfl
  have bm1 : Bd 200 ((s.b + 800011 * (s.c + 1)) ^ 3 % (10 ^ 37 + 43)) := Bd.mod (Bd.lit rfl) (by decide)
  refine (wss_cons (ws_if (vt_gt (ve_ixO 0 rfl ve_int rfl) ve_int) (fun hb => (wss_cons (ws_set 2 (ve_mod (ve_intI T.b_int (ve_ixO 0 rfl ve_int rfl)) (ve_var 1) hn) (wss_cons (ws_item 0 (ve_div (ve_ixO 0 rfl ve_int rfl) (ve_var 1) (bd_div hn bn (by decide))) ve_int rfl rfl rfl (wss_one (ws_ret (ve_var 2) ?h1)))) sc__law_draw.nd))) (fun hb => wss_nil (wss_cons (ws_item 0 (ve_add (ve_ixO 0 rfl ve_int rfl) ve_int) ve_int rfl rfl rfl
    (wss_cons (ws_set 3 (ve_mod (ve_intI T.b_int (ve_pow (ve_add (ve_ixO 0 rfl ve_int rfl) (ve_mul ve_int (ve_ixO 0 rfl ve_int rfl) (bd_mul b8 bc1 (by decide)))) ve_int (bd_pow (k.b0.add (b8.mul bc1)) (by decide) (by decide)))) (ve_add (ve_pow ve_int ve_int (bd_pow b10 (by decide) (by decide))) ve_int) ?h3)
    (wss_cons (ws_set 3 (ve_mod (ve_intI T.b_int (ve_pow (ve_add (ve_mul (ve_var 3) (ve_ixO 0 rfl ve_int rfl) (bd_mul bm1 bc1 (by decide))) ve_int) ve_int (bd_pow ((bm1.mul bc1).add b7) (by decide) (by decide)))) (ve_add (ve_pow ve_int ve_int (bd_pow b10 (by decide) (by decide))) ve_int) ?h4) (wss_one (ws_ret (ve_mod (ve_intI T.b_int (ve_div (ve_var 3) ve_int (bd_div (by decide) b65 (by decide)))) (ve_var 1) hn) ?h2)) sc__law_draw.nd)) sc__law_draw.nd)))))))
  case h1 =>
    have z : 0 < s.a := of_decide_eq_true hb
    unfold draw
    rw [if_pos z]
    exact ⟨rfl, rfl⟩
  case h2 =>
    have z : ¬ 0 < s.a := of_decide_eq_false hb
    unfold draw
    rw [if_neg z]
    exact ⟨rfl, rfl⟩
  case h3 => decide
  case h4 => decide
end
end Ev
namespace Ev
open PySem L2 DL
section
variable {P : Program} {w : World} {K : PySem.W.Frag} {mg : Str → Option Value} {base : Heap} {f : Addr} {fd : FuncData}
theorem sc__law_parts : FnScope ["source", "whole", "often", "far", "found", "left", "turn", "low", "high"] ["source", "whole", "often", "far"] (defScope s__law_parts) := ⟨rfl, rfl, rfl, by decide +kernel, rfl, by decide +kernel, by decide +kernel⟩
theorem ok__law_parts (T : Txt mg) (G__law_draw : FnAt P w K mg base "_law_draw" s__law_draw 1 ["source", "count"] (spI K 1 R_draw)) (F : Fun K "_law_parts" "_law_parts" s__law_parts f fd) : FnG P w K mg base 2 f fd ["source", "whole", "often", "far"] (spI K 3 R_parts) := by
  refine okI F sc__law_parts rfl (by decide) ?_
  rintro cdv A outer s0 H E g0 p ls ds d ls' hgd hr ⟨s, whole, often, far, m, k, hm, hf, hf2, ho, ho2, fit, rfl, rfl, rfl, rfl⟩ hl
  show WSs _ _ [.i p s.ls, .d (.int whole), .d (.int often), .d (.int far), .no, .no, .no, .no, .no] _ _
  have bf : Bd 110 far := mp_bd (by omega) hf2
  refine (wss_cons (ws_parO 4 5 (vl_lst va_nil) (ve_var 1) ?_ rfl sc__law_parts.nd))
  show WSs _ _ [.i p s.ls, .d (.int whole), .d (.int often), .d (.int far), .o [], .d (.int whole), .no, .no, .no] _ _
  refine wss_cons (ws_for rfl (vi_range1 T.b_range (ve_var 2) (by omega)) (fun j ρ => ∃ (acc : List Int) (left : Int) (t : Src) (x y z : Sl), j ≤ often.toNat ∧ acc.length = j ∧ t.Ok (m + j) ∧ Fits far (often.toNat - j) left ∧
    (parts far often.toNat whole s).1 = acc ++ (parts far (often.toNat - j) left t).1 ∧ (parts far often.toNat whole s).2 = (parts far (often.toNat - j) left t).2 ∧
    ρ = [.i p t.ls, .d (.int whole), .d (.int often), .d (.int far), .o (acc.map Dt.int), .d (.int left), x, y, z])
    ⟨[], whole, s, .no, .no, .no, Nat.zero_le _, rfl, k, fit, rfl, rfl, rfl⟩ ?_ ?_ (passes_of rfl))
  · rintro j d ρ hj ⟨acc, left, t, x, y, z, h1, h2, kt, ft, e1, e2, rfl⟩
    obtain ⟨hj1, rfl⟩ := rng_get hj
    refine ⟨_, _, vg_name 6 sc__law_parts.nd, ?_⟩
    obtain ⟨r, hrr⟩ : ∃ r, often.toNat - j = r + 1 := ⟨often.toNat - j - 1, by omega⟩
    have hr2 : often.toNat - (j + 1) = r := by omega
    rw [hrr] at ft e1 e2
    have er : often - (0 + (j : Int)) - 1 = (r : Int) := by omega
    obtain ⟨q1, q2, q3⟩ := fits_pos hf ft
    have bl : Bd 130 left := by
      obtain ⟨f1, f2⟩ := ft
      have z : ((r + 1 : Nat) : Int) * far ≤ 101 * far := Int.mul_le_mul_of_nonneg_right (by omega) (by omega)
      have z2 : 101 * far ≤ 101 * MP := Int.mul_le_mul_of_nonneg_left hf2 (by decide)
      unfold Bd
      have e : (2 : Nat) ^ 130 = 1361129467683753853853498429727072845824 := by decide
      rw [e]
      have e3 : (101 : Int) * MP = 100999999999999999999999999999899 := by decide
      omega
    have br : Bd 10 (often - (0 + (j : Int)) - 1) := by rw [er]; unfold Bd; omega
    show WSs _ _ [.i p t.ls, .d (.int whole), .d (.int often), .d (.int far), .o (acc.map Dt.int), .d (.int left), .d (.int (0 + (j : Int))), y, z] _ _
    refine wss_cons (ws_par 7 8 (va_cons (ve_max2 rfl T.b_max (va_cons ve_int (va_cons (ve_sub (ve_var 5) (ve_mul (ve_var 3) (ve_sub (ve_sub (ve_var 2) (ve_var 6)) ve_int) (bd_mul bf br (by decide)))) va_nil))) (va_cons (ve_min2 rfl T.b_min (va_cons (ve_var 3) (va_cons (ve_sub (ve_var 5) (ve_sub (ve_sub (ve_var 2) (ve_var 6)) ve_int)) va_nil))) va_nil)) ?_ rfl sc__law_parts.nd)
    rw [er]
    show WSs _ _ [.i p t.ls, .d (.int whole), .d (.int often), .d (.int far), .o (acc.map Dt.int), .d (.int left), .d (.int (0 + (j : Int))), .d (.int (lowOf far left r)), .d (.int (highOf far left r))] _ _
    have bc : Bd 2000 (highOf far left r - lowOf far left r + 1) := by
      have z := mp_bd (x := highOf far left r - lowOf far left r) (by omega) (by omega)
      exact (z.add (Bd.lit (n := 1) rfl)).up (by decide)
    refine wss_cons (ws_append 4 (ve_add (ve_var 7) (vcI 0 G__law_draw hgd (hr.mono (by decide)) (va_cons (ve_add (ve_sub (ve_var 8) (ve_var 7)) ve_int) va_nil) rfl rfl ⟨t, _, m + j, kt, by omega, by omega, bc, rfl, rfl, rfl, rfl⟩)) rfl rfl (by rw [List.length_map]; omega) ?_)
    refine wss_cons (ws_set 5 (ve_sub (ve_var 5) (ve_ixO 4 rfl (ve_neg ve_int) (atI_last _ _))) ?_ sc__law_parts.nd)
    refine wss_nil ⟨acc ++ [lowOf far left r + (draw t (highOf far left r - lowOf far left r + 1)).1], left - (lowOf far left r + (draw t (highOf far left r - lowOf far left r + 1)).1), (draw t (highOf far left r - lowOf far left r + 1)).2, .d (.int (0 + (j : Int))), .d (.int (lowOf far left r)), .d (.int (highOf far left r)), by omega, by rw [List.length_append, h2]; rfl, (draw_ok kt (by omega)).up (by omega), ?_, ?_, ?_, ?_⟩
    · rw [hr2]
      have d1 := draw_lo t (show 0 < highOf far left r - lowOf far left r + 1 by omega)
      have d2 := draw_hi t (show 0 < highOf far left r - lowOf far left r + 1 by omega)
      exact fits_next hf ft (by omega) (by omega)
    · rw [hr2, e1, List.append_assoc]
      rfl
    · rw [hr2, e2]
      rfl
    · rw [List.map_append]
      rfl
  · rintro ρ ⟨acc, left, t, x, y, z, h1, h2, kt, ft, e1, e2, rfl⟩
    have el : ((rng 0 often.toNat).map Dt.int).length = often.toNat := by rw [List.length_map, rng_length]
    rw [el, Nat.sub_self] at e1 e2
    have e1' : (parts far often.toNat whole s).1 = acc := by rw [e1]; exact List.append_nil acc
    have e2' : (parts far often.toNat whole s).2 = t := e2
    rw [e1', e2']
    exact wss_one (ws_ret (ve_give 4) ⟨rfl, rfl⟩)
end
end Ev
namespace Ev
open PySem L2 DL
section
variable {P : Program} {w : World} {K : PySem.W.Frag} {mg : Str → Option Value} {base : Heap} {f : Addr} {fd : FuncData}
theorem sc__law_load : FnScope ["source", "units", "span", "most_often", "whole", "often"] ["source", "units", "span", "most_often"] (defScope s__law_load) := ⟨rfl, rfl, rfl, by decide +kernel, rfl, by decide +kernel, by decide +kernel⟩
theorem ok__law_load (T : Txt mg) (G__law_draw : FnAt P w K mg base "_law_draw" s__law_draw 1 ["source", "count"] (spI K 1 R_draw)) (G__law_parts : FnAt P w K mg base "_law_parts" s__law_parts 2 ["source", "whole", "often", "far"] (spI K 3 R_parts)) (F : Fun K "_law_load" "_law_load" s__law_load f fd) : FnG P w K mg base 3 f fd ["source", "units", "span", "most_often"] (spI K 3 R_load) := by
  refine okI F sc__law_load rfl (by decide) ?_
  rintro cdv A outer s0 H E g0 p ls ds d ls' hgd hr ⟨s, units, span, most, n, k, hn, h1, h2, h3, h4, h5, h6, rfl, rfl, rfl, rfl⟩ hl
  have bu : Bd 5 units := by unfold Bd; omega
  have bsp : Bd 110 span := mp_bd (by omega) h4
  have bmo : Bd 5 most := by unfold Bd; omega
  have hx0 := draw_lo s (show 0 < most by omega)
  have hx1 := draw_hi s (show 0 < most by omega)
  have kx := draw_ok k (show 0 < most by omega)
  have kz := draw_ok kx (show (0 : Int) < 3 by decide)
  have hw : units ≤ units * span := by
    have z : units * 1 ≤ units * span := Int.mul_le_mul_of_nonneg_left h3 (by omega)
    omega
  show WSs _ _ [.i p s.ls, .d (.int units), .d (.int span), .d (.int most), .no, .no] _ _
  refine wss_cons (ws_set 4 (ve_mul (ve_var 1) (ve_var 2) (bd_mul bu bsp (by decide))) ?_ sc__law_load.nd)
  refine wss_cons (ws_set 5 (ve_min3 rfl T.b_min (va_cons (ve_var 3) (va_cons (ve_var 4) (va_cons (ve_add (ve_var 1) (vcI 0 G__law_draw hgd (hr.mono (by decide)) (va_cons (ve_var 3) va_nil) rfl rfl ⟨s, most, n, k, by omega, by omega, bmo.up (by decide), rfl, rfl, rfl, rfl⟩)) va_nil)))) ?_ sc__law_load.nd)
  obtain ⟨often, ho⟩ : ∃ o, o = min most (min (units * span) (units + (draw s most).1)) := ⟨_, rfl⟩
  have e : loadOf s units span most = if often < units then parts span often.toNat (often + (draw (draw s most).2 (min units often * span - often + 1)).1) (draw (draw s most).2 (min units often * span - often + 1)).2
    else if (draw (draw s most).2 3).1 = 0 then parts span often.toNat (often + (draw (draw (draw s most).2 3).2 (min units often * span - often + 1)).1) (draw (draw (draw s most).2 3).2 (min units often * span - often + 1)).2
    else parts span often.toNat (units * span) (draw (draw s most).2 3).2 := by rw [ho]; rfl
  rw [e]
  show WSs _ _ [.i p (draw s most).2.ls, .d (.int units), .d (.int span), .d (.int most), .d (.int (units * span)), .d (.int (min most (min (units * span) (units + (draw s most).1))))] _ _
  rw [← ho]
  have o1 : 1 ≤ often := by omega
  have o2 : often ≤ 12 := by omega
  have o3 : often ≤ units * span := by omega
  have oc : ((often.toNat : Nat) : Int) = often := by omega
  have bo : Bd 5 often := by unfold Bd; omega
  have pm : often ≤ min units often * span := by
    by_cases q : units ≤ often
    · rw [Int.min_eq_left q]; exact o3
    · rw [Int.min_eq_right (by omega)]
      have z : often * 1 ≤ often * span := Int.mul_le_mul_of_nonneg_left h3 (by omega)
      omega
  have po : min units often * span ≤ often * span := Int.mul_le_mul_of_nonneg_right (by omega) (by omega)
  have hp : 0 < min units often * span - often + 1 := by omega
  have bmm : Bd 5 (min units often) := by unfold Bd; omega
  have bcount : Bd 2000 (min units often * span - often + 1) := (((bmm.mul bsp).sub bo).add (Bd.lit (n := 1) rfl)).up (by decide)
  -- the end, whatever the sum
  have fin : ∀ (t : Src) (mm : Nat) (whole : Int), t.Ok mm → mm ≤ 900000 → Fits span often.toNat whole → ∀ {dd : Dt} {ll : List Dt}, dd = load units span (parts span often.toNat whole t).1 → ll = (parts span often.toNat whole t).2.ls →
      WSs (cxOf (L2.CX P w) P w K mg base ["source", "units", "span", "most_often", "whole", "often"] "_law_load" (defScope s__law_load) f cdv A outer s0 H E) ⟨[p], g0, E⟩ [.i p t.ls, .d (.int units), .d (.int span), .d (.int most), .d (.int whole), .d (.int often)] ((defBody s__law_load).drop 3) { nx := fun _ => False, rt := fun d' ρ' => d' = dd ∧ ρ'[0]? = some (.i p ll) } := fun t mm whole kt hmm fit dd ll e1 e2 => by
    subst e1 e2
    exact wss_one (ws_ret (ve_tup (va_cons (ve_var 1) (va_cons (ve_var 2) (va_cons (vcI 0 G__law_parts hgd (hr.mono (by decide)) (va_cons (ve_var 4) (va_cons (ve_var 5) (va_cons (ve_var 2) va_nil))) rfl rfl ⟨t, whole, often, span, mm, kt, hmm, h3, h4, by omega, by omega, fit, rfl, rfl, rfl, rfl⟩) va_nil)))) ⟨rfl, rfl⟩)
  have fitd : ∀ (t : Src), Fits span often.toNat (often + (draw t (min units often * span - often + 1)).1) := fun t => by
    have d1 := draw_lo t hp
    have d2 := draw_hi t hp
    exact ⟨by rw [oc]; omega, by rw [oc]; omega⟩
  by_cases c1 : often < units
  · rw [if_pos c1]
    refine wss_cons (ws_if (w := true) (ρ1 := [.i p (draw s most).2.ls, .d (.int units), .d (.int span), .d (.int most), .d (.int (units * span)), .d (.int often)]) (VW.t (vw_orT (vt_lt (ve_var 5) (ve_var 1)) (by rw [decide_eq_true c1]))) (fun _ => ?_) (fun hb => by cases hb))
    refine wss_cons (ws_set 4 (ve_add (ve_var 5) (vcI 0 G__law_draw hgd (hr.mono (by decide)) (va_cons (ve_add (ve_sub (ve_mul (ve_min2 rfl T.b_min (va_cons (ve_var 1) (va_cons (ve_var 5) va_nil))) (ve_var 2) (bd_mul bmm bsp (by decide))) (ve_var 5)) ve_int) va_nil) rfl rfl ⟨(draw s most).2, _, n + 1, kx, by omega, hp, bcount, rfl, rfl, rfl, rfl⟩)) (wss_nil ?_) sc__law_load.nd)
    exact fin _ (n + 2) _ (draw_ok kx hp) (by omega) (fitd _) rfl rfl
  · rw [if_neg c1]
    by_cases c2 : (draw (draw s most).2 3).1 = 0
    · rw [if_pos c2]
      refine wss_cons (ws_if (w := true) (ρ1 := [.i p (draw (draw s most).2 3).2.ls, .d (.int units), .d (.int span), .d (.int most), .d (.int (units * span)), .d (.int often)]) (VT.to (VW.t (vw_or0 (vt_lt (ve_var 5) (ve_var 1)) (by rw [decide_eq_false c1]) (vw_or1 (vt_eqI (vcI 0 G__law_draw hgd (hr.mono (by decide)) (va_cons ve_int va_nil) rfl rfl ⟨(draw s most).2, 3, n + 1, kx, by omega, by decide, Bd.lit rfl, rfl, rfl, rfl, rfl⟩) ve_int)))) (by rw [decide_eq_true c2])) (fun _ => ?_) (fun hb => by cases hb))
      refine wss_cons (ws_set 4 (ve_add (ve_var 5) (vcI 0 G__law_draw hgd (hr.mono (by decide)) (va_cons (ve_add (ve_sub (ve_mul (ve_min2 rfl T.b_min (va_cons (ve_var 1) (va_cons (ve_var 5) va_nil))) (ve_var 2) (bd_mul bmm bsp (by decide))) (ve_var 5)) ve_int) va_nil) rfl rfl ⟨(draw (draw s most).2 3).2, _, n + 2, kz, by omega, hp, bcount, rfl, rfl, rfl, rfl⟩)) (wss_nil ?_) sc__law_load.nd)
      exact fin _ (n + 3) _ (draw_ok kz hp) (by omega) (fitd _) rfl rfl
    · rw [if_neg c2]
      refine wss_cons (ws_if (w := false) (ρ1 := [.i p (draw (draw s most).2 3).2.ls, .d (.int units), .d (.int span), .d (.int most), .d (.int (units * span)), .d (.int often)]) (VT.to (VW.t (vw_or0 (vt_lt (ve_var 5) (ve_var 1)) (by rw [decide_eq_false c1]) (vw_or1 (vt_eqI (vcI 0 G__law_draw hgd (hr.mono (by decide)) (va_cons ve_int va_nil) rfl rfl ⟨(draw s most).2, 3, n + 1, kx, by omega, by decide, Bd.lit rfl, rfl, rfl, rfl, rfl⟩) ve_int)))) (by rw [decide_eq_false c2])) (fun hb => by cases hb) (fun _ => wss_nil ?_))
      have z : units * span ≤ often * span := Int.mul_le_mul_of_nonneg_right (by omega) (by omega)
      exact fin _ (n + 2) _ kz (by omega) ⟨by rw [oc]; omega, by rw [oc]; exact z⟩ rfl rfl
end
end Ev
namespace Ev
open PySem L2 DL
section
variable {P : Program} {w : World} {K : PySem.W.Frag} {mg : Str → Option Value} {base : Heap} {f : Addr} {fd : FuncData}
theorem sc__law_small : FnScope ["source", "far"] ["source", "far"] (defScope s__law_small) := ⟨rfl, rfl, rfl, by decide +kernel, rfl, by decide +kernel, by decide +kernel⟩
theorem ok__law_small (T : Txt mg) (G__law_draw : FnAt P w K mg base "_law_draw" s__law_draw 1 ["source", "count"] (spI K 1 R_draw)) (G__law_load : FnAt P w K mg base "_law_load" s__law_load 3 ["source", "units", "span", "most_often"] (spI K 3 R_load)) (F : Fun K "_law_small" "_law_small" s__law_small f fd) : FnG P w K mg base 4 f fd ["source", "far"] (spI K 1 R_small) := by
  refine okI F sc__law_small rfl (by decide) ?_
  rintro cdv A outer s0 H E g0 p ls ds d ls' hgd hr ⟨s, far, m, k, hm, h1, h2, rfl, rfl, rfl, rfl⟩ hl
  have x0 := draw_lo s (show (0 : Int) < 4 by decide)
  have x1 := draw_hi s (show (0 : Int) < 4 by decide)
  have kx := draw_ok k (show (0 : Int) < 4 by decide)
  have y0 := draw_lo (draw s 4).2 (show 0 < far by omega)
  have y1 := draw_hi (draw s 4).2 (show 0 < far by omega)
  have ky := draw_ok kx (show 0 < far by omega)
  obtain ⟨ua, u1, u2⟩ := units_at x0 x1
  show WSs _ _ [.i p s.ls, .d (.int far)] _ _
  exact wss_one (ws_ret (vcI 0 G__law_load hgd (hr.mono (by decide)) (va_cons (ve_ix (VL.v (vl_lst (va_cons ve_int (va_cons ve_int (va_cons ve_int (va_cons ve_int va_nil)))))) (vcI 0 G__law_draw hgd (hr.mono (by decide)) (va_cons ve_int va_nil) rfl rfl ⟨s, 4, m, k, by omega, by decide, Bd.lit rfl, rfl, rfl, rfl, rfl⟩) ua)
    (va_cons (ve_add ve_int (vcI 0 G__law_draw hgd (hr.mono (by decide)) (va_cons (ve_var 1) va_nil) rfl rfl ⟨(draw s 4).2, far, m + 1, kx, by omega, by omega, (mp_bd (by omega) h2).up (by decide), rfl, rfl, rfl, rfl⟩)) (va_cons ve_int va_nil))) rfl rfl
    ⟨(draw (draw s 4).2 far).2, unitsOf (draw s 4).1, 1 + (draw (draw s 4).2 far).1, 6, m + 2, ky, by omega, u1, by omega, by omega, by omega, by decide, by decide, rfl, rfl, rfl, rfl⟩) ⟨rfl, rfl⟩)
end
end Ev
namespace Ev
open PySem L2 DL
/-! ### windows in a row, and those that have a tick or lie in a stretch -/
def wins (s q : Int) (n : Nat) : List Dt := (rng 0 n).map (win s q)
theorem wins_succ (s q : Int) (n : Nat) : wins s q (n + 1) = wins s q n ++ [win s q (n : Int)] := by
  unfold wins
  rw [rng_succ, List.map_append, Int.zero_add]
  rfl
theorem rng_at {a : Int} {n j : Nat} (h : j < n) : (rng a n)[j]? = some (a + (j : Int)) := by
  unfold rng
  rw [List.getElem?_map, List.getElem?_range h]
  rfl
theorem enum_wins (s q : Int) (n : Nat) : enum (wins s q n) = (rng 0 n).map fun j => .tup [.int j, win s q j] := by
  unfold enum wins
  refine List.ext_getElem? fun j => ?_
  rw [List.getElem?_mapIdx, List.getElem?_map, List.getElem?_map]
  by_cases hj : j < n
  · rw [rng_at hj, Int.zero_add]
    rfl
  · rw [List.getElem?_eq_none (by rw [rng_length]; omega)]
    rfl
theorem wins_at {s q : Int} {n j : Nat} {d : Dt} (h : (wins s q n)[j]? = some d) : j < n ∧ d = win s q (j : Int) := by
  unfold wins at h
  rw [List.getElem?_map] at h
  by_cases hj : j < n
  · rw [rng_at hj, Int.zero_add] at h
    cases h
    exact ⟨hj, rfl⟩
  · rw [List.getElem?_eq_none (by rw [rng_length]; omega)] at h
    cases h
/-- the sides hold the tick -/
def holdsB (t : Int) (a b : Int) : Bool := decide (a ≤ t) && decide (t ≤ b)
def pW (t : Int) : Dt → Bool
  | .tup [_, .tup [.int a, .int b]] => holdsB t a b
  | _ => false
def fW : Dt → Dt
  | .tup (x :: _) => x
  | _ => .non
theorem pW_win (s q t j : Int) : pW t (.tup [.int j, win s q j]) = (decide (j * q / s ≤ t) && decide (t ≤ strt s q 0 j)) := by
  rw [strt_0]
  rfl
theorem sides_at {s q t : Int} (hs : 0 < s) (hq : s ≤ q) (h0 : 0 ≤ t) (h1 : t < 2 * q) : ((enum (wins s q (2 * s).toNat)).filter (pW t)).map fW = (slc s q t).map Dt.int := by
  have hq0 : 0 < q := by omega
  rw [enum_wins, List.filter_map, List.map_map]
  have e1 : (fW ∘ fun j => Dt.tup [.int j, win s q j]) = Dt.int := rfl
  rw [e1]
  congr 1
  have z := slc_size (t := t) hs hq
  have l0 : 0 ≤ loS s q t := (le_loS hq0).mpr (by rw [Int.zero_mul]; exact Int.mul_nonneg (by omega) h0)
  have h2 : hiS s q (t + 1) ≤ 2 * s := (hiS_le hq0).mpr (by
    have a : s * (t + 1) ≤ s * (2 * q) := Int.mul_le_mul_of_nonneg_left (by omega) (by omega)
    have b : s * (2 * q) = 2 * s * q := by rw [← Int.mul_assoc, Int.mul_comm s 2]
    omega)
  have e := filter_rng (p := pW t ∘ fun j => Dt.tup [.int j, win s q j]) (f := loS s q t) (l := hiS s q (t + 1) - 1) (n := (2 * s).toNat) l0 (by omega) (by omega) fun x x0 x1 => by
    show pW t (.tup [.int x, win s q x]) = true ↔ _
    rw [pW_win, Bool.and_eq_true, decide_eq_true_eq, decide_eq_true_eq, win_has hs hq]
    unfold slc
    rw [mem_rng]
    omega
  rw [e]
  unfold slc
  congr 2
  omega
/-- the sides lie in the stretch -/
def pV (a b : Int) : Dt → Bool
  | .tup [.int x, .int y] => decide (a ≤ x) && decide (y < b)
  | _ => false
theorem cnt_rng {p : Int → Bool} {a b : Int} {n : Nat} (h0 : 0 ≤ a) (h1 : b ≤ (n : Int)) (hp : ∀ x, 0 ≤ x → x < (n : Int) → (p x = true ↔ a ≤ x ∧ x < b)) : (((rng 0 n).filter p).length : Int) = max 0 (b - a) := by
  by_cases h : a < b
  · rw [filter_rng (f := a) (l := b - 1) h0 (by omega) (by omega) fun x x0 x1 => by rw [hp x x0 x1]; omega, rng_length]
    omega
  · have e : (rng 0 n).filter p = [] := by
      rw [List.filter_eq_nil_iff]
      intro x hx hpx
      have := rng_mem hx
      have := (hp x (by omega) (by omega)).mp hpx
      omega
    rw [e]
    show (0 : Int) = _
    omega
theorem sides_in {s q a b : Int} (hs : 0 < s) (hq : s ≤ q) (h0 : 0 ≤ a) (h1 : b ≤ 2 * q) : ((((wins s q (2 * s).toNat).filter (pV a b)).map fun d => d).length : Int) = wwn s q a b := by
  have hq0 : 0 < q := by omega
  rw [List.length_map]
  unfold wins
  rw [List.filter_map, List.length_map]
  unfold wwn
  refine cnt_rng ?_ ?_ fun x x0 x1 => ?_
  · have : -1 < hiS s q a := (lt_hiS hq0).mpr (by have := Int.mul_nonneg (Int.le_of_lt hs) h0; omega)
    omega
  · have : loS s q b ≤ 2 * s := by
      have e : loS s q (2 * q) = 2 * s := by
        have z := loS_move (s := s) (t := 0) (k := 2) hq0
        rw [Int.zero_add] at z
        rw [z]
        unfold loS
        rw [Int.mul_zero, Int.zero_ediv, Int.zero_add]
      rw [← e]
      exact loS_mono (by omega) hq0 h1
    omega
  · show pV a b (win s q x) = true ↔ _
    rw [strt_0]
    show (decide (a ≤ x * q / s) && decide (strt s q 0 x < b)) = true ↔ _
    rw [Bool.and_eq_true, decide_eq_true_eq, decide_eq_true_eq, Int.le_ediv_iff_mul_le hs, hiS_le hq0]
    have e1 : strt s q 0 x < b ↔ x < loS s q b := by
      have u := strt_iff (s := s) (q := q) (sh := 0) (n := x) (x := b) hs
      have v := le_loS (s := s) (q := q) (t := b) (n := x + 1) hq0
      rw [Int.sub_zero] at u
      omega
    rw [e1, Int.mul_comm a s]
end Ev
namespace Ev
open PySem L2 DL
section
variable {P : Program} {w : World} {K : PySem.W.Frag} {mg : Str → Option Value} {base : Heap} {f : Addr} {fd : FuncData}
theorem sc__law_windows : FnScope ["part", "span", "often", "found", "spot", "some", "at"] ["part", "span", "often"] (defScope s__law_windows) := ⟨rfl, rfl, rfl, by decide +kernel, rfl, by decide +kernel, by decide +kernel⟩
def R_windows03 (ds ls : List Dt) : Prop := ∃ s q : Int, 0 < s ∧ s ≤ q ∧ q ≤ 1000 ∧ ds = [.int s, .int q, .int (2 * s)] ∧ ls = wins s q (2 * s).toNat
theorem ok__law_windows (T : Txt mg) (F : Fun K "_law_windows" "_law_windows" s__law_windows f fd) : FnG P w K mg base 1 f fd ["part", "span", "often"] (spL K 3 R_windows03) := by
  refine okL F sc__law_windows rfl (by decide) ?_
  rintro cdv A outer s0 H E g0 ds ls hgd hr ⟨s, q, hs, hq, hq2, rfl, rfl⟩ hl
  have bs : Bd 30 s := by unfold Bd; omega
  have bq : Bd 30 q := by unfold Bd; omega
  have b1 : Bd 1 (1 : Int) := Bd.lit rfl
  have b2 : Bd 2 (2 : Int) := Bd.lit rfl
  show WSs _ _ [.d (.int s), .d (.int q), .d (.int (2 * s)), .no, .no, .no, .no] _ _
  refine wss_cons (ws_setO 3 (vl_lst va_nil) ?_ sc__law_windows.nd)
  refine wss_cons (ws_for rfl (vi_range1 T.b_range (ve_var 2) (by omega)) (fun j ρ => ∃ x4 x5 : Sl, ρ = [.d (.int s), .d (.int q), .d (.int (2 * s)), .o (wins s q j), x4, x5, .no]) ⟨_, _, rfl⟩ ?_ ?_ (passes_of rfl))
  · rintro j d ρ hj ⟨x4, x5, rfl⟩
    obtain ⟨hj1, rfl⟩ := rng_get hj
    refine ⟨_, _, vg_name 4 sc__law_windows.nd, ?_⟩
    rw [Int.zero_add]
    have hj2 : (j : Int) < 2 * s := by omega
    have bj : Bd 30 (j : Int) := by unfold Bd; omega
    show WSs _ _ [.d (.int s), .d (.int q), .d (.int (2 * s)), .o (wins s q j), .d (.int (j : Int)), x5, .no] _ _
    have w0 := first_nonneg (s := s) (q := q) (n := (j : Int)) (by omega) (by omega) (by omega)
    have w1 := first_le_last (s := s) (q := q) (n := (j : Int)) (by omega) (by omega)
    have w2 := last_lt (s := s) (q := q) (n := (j : Int)) (by omega) (by omega) (by omega)
    have e : (((rng 0 (2 * q).toNat).map Dt.int).filter (fun d => match d with | .int t => decide (s * t < q * ((j : Int) + 1)) && decide (s * (t + 1) > q * (j : Int)) | _ => false)).map (fun d => d) = (rng (wFirst s q j) (wLast s q j + 1 - wFirst s q j).toNat).map Dt.int := by
      rw [List.map_id', filter_map_int]
      congr 1
      refine filter_rng w0 w1 (by omega) fun x x0 x1 => ?_
      show (decide (s * x < q * ((j : Int) + 1)) && decide (s * (x + 1) > q * (j : Int))) = true ↔ _
      rw [Bool.and_eq_true, decide_eq_true_eq, decide_eq_true_eq, ← last_iff (by omega), gt_iff_lt, ← first_iff (by omega)]
      exact And.comm
    refine wss_cons (ws_setLc 5 (CompOk.cast e (comp_ok (own := [("at", 6)]) (vi_range1 T.b_range (ve_mul ve_int (ve_var 1) (bd_mul b2 bq (by decide))) (by omega)) (by rw [List.length_map, rng_length]; omega) (fun i d hi => by
            obtain ⟨hi1, rfl⟩ := rng_get hi
            have bi : Bd 30 (0 + (i : Int)) := by unfold Bd; omega
            exact ⟨_, fun s H C cl fp => vg_name 6 sc__law_windows.nd, fun s H C cl fp => vts_one (VW.t (vw_and (vt_lt (ve_mul (ve_var 0) (ve_var 6) (bd_mul bs bi (by decide))) (ve_mul (ve_var 1) (ve_add (ve_var 4) ve_int) (bd_mul bq (bj.add b1) (by decide)))) fun _ => vw_and1 (vt_gt (ve_mul (ve_var 0) (ve_add (ve_var 6) ve_int) (bd_mul bs (bi.add b1) (by decide))) (ve_mul (ve_var 1) (ve_var 4) (bd_mul bq bj (by decide)))))), fun _ s H C cl fp => ve_var 6⟩))) ?_ rfl sc__law_windows.nd (blkOk_by (N := ["part", "span", "often", "found", "spot", "some", "at"]) (sc := defScope s__law_windows) (own := [("at", 6)]) (by decide +kernel)))
    have cnt : ((wLast s q j + 1 - wFirst s q j).toNat : Int) = wLast s q j + 1 - wFirst s q j := by omega
    have at0 : atI ((rng (wFirst s q j) (wLast s q j + 1 - wFirst s q j).toNat).map Dt.int) 0 = some (.int (wFirst s q j)) := rng_first (by omega)
    have at1 : atI ((rng (wFirst s q j) (wLast s q j + 1 - wFirst s q j).toNat).map Dt.int) (-1) = some (.int (wLast s q j)) := by
      rw [rng_last (by omega), cnt]
      congr 2
      omega
    refine wss_one (ws_append 3 (ve_tup (va_cons (ve_ix (ve_var 5) ve_int at0) (va_cons (ve_ix (ve_var 5) (ve_neg ve_int) at1) va_nil))) rfl rfl (by unfold wins; rw [List.length_map, rng_length]; omega) ?_)
    refine ⟨.d (.int (j : Int)), .d (.lst ((rng (wFirst s q j) (wLast s q j + 1 - wFirst s q j).toNat).map Dt.int)), ?_⟩
    rw [wins_succ]
    rfl
  · rintro ρ ⟨x4, x5, rfl⟩
    exact wss_one (ws_retL (vl_give 3) (by rw [List.length_map, rng_length]))
end
end Ev
namespace Ev
open PySem L2 DL
def it03 (q : Int) : Nat → Src → Src
  | 0, x => x
  | k + 1, x => (draw (draw (it03 q k x) (2 * q + 1)).2 (2 * q + 1)).2
theorem it03_ok {q : Int} (hq : 0 < q) {x : Src} {m : Nat} (k : x.Ok m) : ∀ j : Nat, (it03 q j x).Ok (m + 2 * j)
  | 0 => k
  | j + 1 => (draw_ok (draw_ok (it03_ok hq k j) (by omega)) (by omega)).up (by omega)
def right03 (x : Src) (far : Int) : Src := it03 (small x far).q 12 (draw (small x far).s ((small x far).ss.length : Int)).2
theorem right03_ok {x : Src} {far : Int} {m : Nat} (k : x.Ok m) (h1 : 1 ≤ far) (h2 : far ≤ MP) : (right03 x far).Ok (m + 42) := by
  obtain ⟨lo, k2, _⟩ := small_ok k h1 h2
  have l1 := lo.l1
  have q1 := lo.q1
  exact (it03_ok (by omega) (draw_ok k2 (by omega)) 12).up (by omega)
end Ev
namespace Ev
open PySem L2 DL
section
variable {P : Program} {w : World} {K : PySem.W.Frag} {mg : Str → Option Value} {base : Heap} {f : Addr} {fd : FuncData}
theorem sc__law_right : FnScope ["source", "far", "task", "one", "span", "part", "sides", "at", "due", "told", "turn", "low", "high", "spot", "side"] ["source", "far"] (defScope s__law_right) := ⟨rfl, rfl, rfl, by decide +kernel, rfl, by decide +kernel, by decide +kernel⟩
def R_right03 (ls ds : List Dt) (d : Dt) (ls' : List Dt) : Prop := ∃ (s : Src) (far : Int) (m : Nat), s.Ok m ∧ m ≤ 600000 ∧ 1 ≤ far ∧ far ≤ 1000 ∧ ls = s.ls ∧ ds = [.int far] ∧ d = .bl true ∧ ls' = (right03 s far).ls
theorem ok__law_right (T : Txt mg) (G__law_draw : FnAt P w K mg base "_law_draw" s__law_draw 1 ["source", "count"] (spI K 1 R_draw)) (G__law_small : FnAt P w K mg base "_law_small" s__law_small 4 ["source", "far"] (spI K 1 R_small)) (G__law_windows : FnAt P w K mg base "_law_windows" s__law_windows 1 ["part", "span", "often"] (spL K 3 R_windows03))
    (G_slices_at : FnAt P w K mg base "slices_at" s_slices_at 4 ["load", "process", "tick"] (spL K 3 R_slices_at)) (G_windows_within : FnAt P w K mg base "windows_within" s_windows_within 4 ["load", "process", "begin", "end"] (spD K 4 R_windows_within)) (F : Fun K "_law_right" "_law_right" s__law_right f fd) : FnG P w K mg base 5 f fd ["source", "far"] (spI K 1 R_right03) := by
  refine okI F sc__law_right rfl (by decide) ?_
  rintro cdv A outer s0 H E g0 pp ls ds d ls' hgd hr ⟨x, far, m, kx, hm, f1, f2, rfl, rfl, rfl, rfl⟩ hl
  obtain ⟨lo, k2, hu, hq, hn⟩ := small_ok kx f1 (show far ≤ MP from Int.le_trans f2 (by decide))
  have l1 := lo.l1
  have q1 := lo.q1
  have er : right03 x far = it03 (small x far).q 12 (draw (small x far).s ((small x far).ss.length : Int)).2 := rfl
  rw [er]
  show WSs _ _ [.i pp x.ls, .d (.int far), .no, .no, .no, .no, .no, .no, .no, .no, .no, .no, .no, .no, .no] _ _
  refine wss_cons (ws_set 2 (vcI 0 G__law_small hgd (hr.mono (by decide)) (va_cons (ve_var 1) va_nil) rfl rfl ⟨x, far, m, kx, by omega, f1, Int.le_trans f2 (by decide), rfl, rfl, rfl, rfl⟩) ?_ sc__law_right.nd)
  generalize (small x far).s = x2 at *
  generalize (small x far).q = q at *
  generalize (small x far).u = u at *
  generalize (small x far).ss = ss at *
  show WSs _ _ [.i pp x2.ls, .d (.int far), .d (.tup [.int u, .int q, .lst (ss.map Dt.int)]), .no, .no, .no, .no, .no, .no, .no, .no, .no, .no, .no, .no] _ _
  have hp : (0 : Int) < (ss.length : Int) := by omega
  have c0 := draw_lo x2 hp
  have c1 := draw_hi x2 hp
  have kc := draw_ok k2 hp
  refine wss_cons (ws_set 3 (vcI 0 G__law_draw hgd (hr.mono (by decide)) (va_cons (VE.to (ve_len T.b_len (VE.r (ve_ixT (ve_var 2) ve_int rfl))) (by rw [List.length_map])) va_nil) rfl rfl ⟨x2, (ss.length : Int), _, k2, by omega, hp, (show Bd 20 _ by unfold Bd; omega).up (by decide), rfl, rfl, rfl, rfl⟩) ?_ sc__law_right.nd)
  generalize draw x2 (ss.length : Int) = o at *
  have hat := share_at c0 c1
  have hmem := share_mem c0 c1
  obtain ⟨s1, s2⟩ := lo.sh _ hmem
  obtain ⟨s, hss⟩ : ∃ s, s = ss.getD o.1.toNat 0 := ⟨_, rfl⟩
  rw [← hss] at hat s1 s2
  have hs : 0 < s := by omega
  have hq0 : 0 < q := by omega
  have bs : Bd 30 s := by unfold Bd; omega
  have bq : Bd 30 q := by unfold Bd; omega
  have b2 : Bd 2 (2 : Int) := Bd.lit rfl
  refine wss_cons (ws_par 4 5 (va_cons (ve_ixT (ve_var 2) ve_int rfl) (va_cons (ve_ix (ve_ixT (ve_var 2) ve_int rfl) (ve_var 3) hat) va_nil)) ?_ rfl sc__law_right.nd)
  refine wss_cons (ws_set 6 (VL.v (vcL G__law_windows hgd (hr.mono (by decide)) (va_cons (ve_var 5) (va_cons (ve_var 4) (va_cons (ve_mul ve_int (ve_var 5) (bd_mul b2 bs (by decide))) va_nil))) ⟨s, q, hs, s2, by omega, rfl, rfl⟩)) ?_ sc__law_right.nd)
  obtain ⟨W, hW⟩ : ∃ W, W = wins s q (2 * s).toNat := ⟨_, rfl⟩
  rw [← hW]
  obtain ⟨task, htask⟩ : ∃ t, t = load u q ss := ⟨_, rfl⟩
  show WSs _ _ [.i pp o.2.ls, .d (.int far), .d (load u q ss), .d (.int o.1), .d (.int q), .d (.int s), .d (.lst W), .no, .no, .no, .no, .no, .no, .no, .no] _ _
  rw [← htask]
  have rs : ∀ t, 0 ≤ t → Bd 1500 t → R_slices_at [task, .int o.1, .int t] ((slc s q t).map Dt.int) := fun t t0 t1 => ⟨u, q, ss, o.1, t, ⟨lo, c0, c1, t0, t1, by rw [htask]⟩, by rw [hss]⟩
  have rv : ∀ a b, 0 ≤ a → Bd 1500 a → 0 ≤ b → Bd 1500 b → R_windows_within [task, .int o.1, .int a, .int b] (.ret (.int (wwn s q a b))) := fun a b a0 a1 b0 b1 => ⟨u, q, ss, o.1, a, b, lo, c0, c1, a0, a1, b0, b1, by rw [htask], by rw [hss]⟩
  have tdx : task = .tup [.int u, .int q, .lst (ss.map Dt.int)] := htask
  refine wss_cons (ws_for rfl (vi_range1 T.b_range (ve_mul ve_int (ve_var 4) (bd_mul b2 bq (by decide))) (by omega)) (fun j ρ => ∃ x7 x8 x9 : Sl, ρ = [.i pp o.2.ls, .d (.int far), .d task, .d (.int o.1), .d (.int q), .d (.int s), .d (.lst W), x7, x8, x9, .no, .no, .no, .no, .no]) ⟨_, _, _, rfl⟩ ?_ ?_ (passes_of rfl))
  · rintro j d ρ hj ⟨x7, x8, x9, rfl⟩
    obtain ⟨hj1, rfl⟩ := rng_get hj
    refine ⟨_, _, vg_name 7 sc__law_right.nd, ?_⟩
    rw [Int.zero_add]
    have j2 : (j : Int) < 2 * q := by omega
    have bj : Bd 30 (j : Int) := by unfold Bd; omega
    have r1 := rs (j : Int) (by omega) (bj.up (by decide))
    have es := sides_at (t := (j : Int)) hs s2 (by omega) j2
    rw [← hW] at es
    have z := slc_size (t := (j : Int)) hs s2
    have ln : (slc s q (j : Int)).length = (hiS s q ((j : Int) + 1) - loS s q (j : Int)).toNat := by
      unfold slc
      rw [rng_length]
    have l0 : 0 ≤ loS s q (j : Int) := (le_loS hq0).mpr (by rw [Int.zero_mul]; exact Int.mul_nonneg (by omega) (by omega))
    have h2 : loS s q (j : Int) ≤ 2 * s := by
      have e : loS s q (2 * q) = 2 * s := by
        have z := loS_move (s := s) (t := 0) (k := 2) hq0
        rw [Int.zero_add] at z
        rw [z]
        unfold loS
        rw [Int.mul_zero, Int.zero_ediv, Int.zero_add]
      rw [← e]
      exact loS_mono (by omega) hq0 (by omega)
    have sb : ∀ v ∈ slc s q (j : Int), Bd 1900 v := fun v hv => by
      have := rng_mem hv
      exact sml_bd (by omega) (by omega)
    obtain ⟨B, hB⟩ : ∃ B, B = (slc s q (j : Int)).map Dt.int := ⟨_, rfl⟩
    have lB : B.length ≤ 2 ∧ 1 ≤ B.length := by rw [hB, List.length_map, ln]; omega
    have smB : Dt.Sm (.lst B) := by rw [hB]; exact sm_ints sb
    have dB : Dt.depA B = 0 := by rw [hB]; exact dep_ints _
    have wB : Dt.wtA B ≤ 4000 := by rw [hB, wt_ints, ln]; omega
    rw [← hB] at r1 es
    show WSs _ _ [.i pp o.2.ls, .d (.int far), .d task, .d (.int o.1), .d (.int q), .d (.int s), .d (.lst W), .d (.int (j : Int)), x8, x9, .no, .no, .no, .no, .no] _ _
    refine wss_cons (ws_setLc 8 (CompOk.cast es (comp_ok (own := [("spot", 13), ("side", 14)]) (vi_enum T.b_enumerate (ve_var 6)) (by rw [enum_length, hW]; unfold wins; rw [List.length_map, rng_length]; omega) (fun i d hi => by
            obtain ⟨v, hv, rfl⟩ := enum_get hi
            rw [hW] at hv
            obtain ⟨_, rfl⟩ := wins_at hv
            rw [strt_0]
            exact ⟨_, fun s H C cl fp => vg_tup rfl (vgs_cons (vg_name 13 sc__law_right.nd) (vgs_cons (vg_name 14 sc__law_right.nd) vgs_nil)), fun s H C cl fp => vts_one (vt_chain op_le op_le (ve_ixT (ve_var 14) ve_int rfl) (ve_var 7) (ve_ixT (ve_var 14) ve_int rfl)), fun _ s H C cl fp => ve_var 13⟩))) ?_ rfl sc__law_right.nd (blkOk_by (N := ["source", "far", "task", "one", "span", "part", "sides", "at", "due", "told", "turn", "low", "high", "spot", "side"]) (sc := defScope s__law_right) (own := [("spot", 13), ("side", 14)]) (by decide +kernel)))
    show WSs _ _ [.i pp o.2.ls, .d (.int far), .d task, .d (.int o.1), .d (.int q), .d (.int s), .d (.lst W), .d (.int (j : Int)), .d (.lst B), x9, .no, .no, .no, .no, .no] _ _
    refine wss_cons (ws_setT 9 (vn_lst (vns_cons (vn_vl (vcL G_slices_at hgd (hr.mono (by decide)) (va_cons (ve_var 2) (va_cons (ve_var 3) (va_cons (ve_var 7) va_nil))) r1)) (vns_cons (vn_vl (vckL (ks := ["tick", "process", "load"]) [2, 1, 0] G_slices_at hgd (hr.mono (by decide)) (fun _ _ _ _ _ _ ws hl => match ws, hl with | [_, _, _], _ => rfl) (vk_cons (ve_var 7) (vk_cons (ve_var 3) (vk_cons (ve_var 2) vk_nil))) r1)) vns_nil)) (by rintro _ _ ⟨_, _, _, _, _, ⟨_, _, _, _, _, ⟨_, rfl⟩, _, rfl⟩, _, rfl⟩; exact Nat.le_of_ble_eq_true rfl)) ?_ sc__law_right.nd)
    rintro cs y ⟨a, c2, x2', ⟨_, _, _, _, ⟨a1, rfl, rfl⟩, ⟨_, _, _, _, ⟨a2, rfl, rfl⟩, ⟨rfl, rfl⟩, rfl, rfl⟩, rfl, rfl⟩, rfl, rfl⟩
    show WSs _ _ [.i pp o.2.ls, .d (.int far), .d task, .d (.int o.1), .d (.int q), .d (.int s), .d (.lst W), .d (.int (j : Int)), .d (.lst B), .t [(a, [.opq a1, .opq a2]), (a1, B), (a2, B)] (.opq a), .no, .no, .no, .no, .no] _ _
    have full : Full [(a, [.opq a1, .opq a2]), (a1, B), (a2, B)] (.opq a) (.lst [.lst B, .lst B]) := .cell (.head _) (.cons (.cell (.tail _ (.head _)) (FullA.same _)) (.cons (.cell (.tail _ (.tail _ (.head _))) (FullA.same _)) .nil))
    have sm2 : Dt.Sm (.lst [.lst B, .lst B]) := ⟨smB, smB, trivial⟩
    have d2 : Nat.ble (Dt.dep (.lst [.lst B, .lst B])) 100 = true := by
      show Nat.ble (max (Dt.depA B + 1) (max (Dt.depA B + 1) 0) + 1) 100 = true
      rw [dB]
      rfl
    have w2 : Dt.wt (.lst [.lst B, .lst B]) ≤ 16777216 := by
      simp only [Dt.wt, Dt.wtA]
      omega
    refine wss_cons (ws_if (VT.to (VW.t (vw_or (vt_reprNeQ hgd hr T.b_repr (vq_cell 9 (ve_varT 9) full) (vq_ve (VL.v (vl_lst (va_cons (ve_var 8) (va_cons (ve_var 8) va_nil))))) rfl (.inl ⟨_, rfl⟩) sm2 d2 w2) fun _ => vw_or1 (vt_not (vt_chain op_le op_le ve_int (ve_len T.b_len (VE.r (ve_var 8))) ve_int)))) (show (false || !(decide ((1 : Int) ≤ (B.length : Int)) && decide ((B.length : Int) ≤ 2))) = false by rw [decide_eq_true (show (1 : Int) ≤ (B.length : Int) by omega), decide_eq_true (show (B.length : Int) ≤ 2 by omega)]; rfl)) (fun hb => by cases hb) (fun hb => wss_nil ?_))
    refine wss_cons (ws_appQ 9 (cs' := [(a, [.opq a1, .opq a2]), (a1, B ++ [.non]), (a2, B)]) (ve_ixQ 9 (ve_varT 9) ve_int (.head _) rfl) ve_non (.tail _ (.head _)) (.tail _ (.head _)) (by omega) (.there .here) ?_)
    have sdB : Nat.ble (Dt.lst B).dep 64 = true := by
      show Nat.ble (Dt.depA B + 1) 64 = true
      rw [dB]
      rfl
    exact wss_one (ws_if (vt_neDS hr (VL.v (vcL G_slices_at hgd (hr.mono (by decide)) (va_cons (ve_var 2) (va_cons (ve_var 3) (va_cons (ve_var 7) va_nil))) r1)) (ve_var 8) rfl smB sdB) (fun hb => by cases hb) (fun hb => wss_nil ⟨_, _, _, rfl⟩))
  · rintro ρ ⟨x7, x8, x9, rfl⟩
    refine wss_cons (ws_for rfl (vi_range1 T.b_range ve_int (by decide)) (fun j ρ => ∃ x8 x9 x10 x11 x12 : Sl, ρ = [.i pp (it03 q j o.2).ls, .d (.int far), .d task, .d (.int o.1), .d (.int q), .d (.int s), .d (.lst W), x7, x8, x9, x10, x11, x12, .no, .no]) ⟨_, _, _, _, _, rfl⟩ ?_ ?_ (passes_of rfl))
    · rintro j d ρ hj ⟨x8, x9, x10, x11, x12, rfl⟩
      obtain ⟨hj1, rfl⟩ := rng_get hj
      have hj3 : j < 12 := hj1
      refine ⟨_, _, vg_name 10 sc__law_right.nd, ?_⟩
      have ky := it03_ok hq0 kc j
      have en : it03 q (j + 1) o.2 = (draw (draw (it03 q j o.2) (2 * q + 1)).2 (2 * q + 1)).2 := rfl
      rw [en]
      generalize it03 q j o.2 = y at *
      have m0 : 0 < 2 * q + 1 := by omega
      have bm : Bd 2000 (2 * q + 1) := (show Bd 30 (2 * q + 1) by unfold Bd; omega).up (by decide)
      have d0 := draw_lo y m0
      have d1 := draw_hi y m0
      have kd := draw_ok ky m0
      have e0 := draw_lo (draw y (2 * q + 1)).2 m0
      have e1 := draw_hi (draw y (2 * q + 1)).2 m0
      refine wss_cons (ws_asg (ve_tup (va_cons (vcI 0 G__law_draw hgd (hr.mono (by decide)) (va_cons (ve_add (ve_mul ve_int (ve_var 4) (bd_mul b2 bq (by decide))) ve_int) va_nil) rfl rfl ⟨y, 2 * q + 1, _, ky, by omega, m0, bm, rfl, rfl, rfl, rfl⟩) (va_cons (vcI 0 G__law_draw hgd (hr.mono (by decide)) (va_cons (ve_add (ve_mul ve_int (ve_var 4) (bd_mul b2 bq (by decide))) ve_int) va_nil) rfl rfl ⟨(draw y (2 * q + 1)).2, 2 * q + 1, _, kd, by omega, m0, bm, rfl, rfl, rfl, rfl⟩) va_nil))) (vg_tup rfl (vgs_cons (vg_name 11 sc__law_right.nd) (vgs_cons (vg_name 12 sc__law_right.nd) vgs_nil))) ?_)
      generalize hA : (draw y (2 * q + 1)).1 = lw at *
      generalize hC : (draw (draw y (2 * q + 1)).2 (2 * q + 1)).1 = hg at *
      generalize (draw (draw y (2 * q + 1)).2 (2 * q + 1)).2 = y2 at *
      show WSs _ _ [.i pp y2.ls, .d (.int far), .d task, .d (.int o.1), .d (.int q), .d (.int s), .d (.lst W), x7, x8, x9, .d (.int (0 + (j : Int))), .d (.int lw), .d (.int hg), .no, .no] _ _
      have ec := sides_in (a := lw) (b := hg) hs s2 d0 (by omega)
      rw [← hW] at ec
      have blw : Bd 30 lw := by unfold Bd; omega
      have bhg : Bd 30 hg := by unfold Bd; omega
      have r2 := rv lw hg d0 (blw.up (by decide)) e0 (bhg.up (by decide))
      refine wss_cons (ws_set 8 (VE.to (ve_len T.b_len (VE.r (VL.v (vl_comp (comp_ok (own := [("side", 14)]) (p := pV lw hg) (f := fun d => d) (vi_list (ve_var 6)) (by rw [hW]; unfold wins; rw [List.length_map, rng_length]; omega) (fun i d hi => by
            rw [hW] at hi
            obtain ⟨_, rfl⟩ := wins_at hi
            rw [strt_0]
            exact ⟨_, fun s H C cl fp => vg_name 14 sc__law_right.nd, fun s H C cl fp => vts_one (VW.t (vw_and (vt_le (ve_var 11) (ve_ixT (ve_var 14) ve_int rfl)) fun _ => vw_and1 (vt_lt (ve_ixT (ve_var 14) ve_int rfl) (ve_var 12)))), fun _ s H C cl fp => ve_var 14⟩)) rfl sc__law_right.nd (blkOk_by (N := ["source", "far", "task", "one", "span", "part", "sides", "at", "due", "told", "turn", "low", "high", "spot", "side"]) (sc := defScope s__law_right) (own := [("side", 14)]) (by decide +kernel)))))) (by rw [ec])) ?_ sc__law_right.nd)
      have wz : 0 ≤ wwn s q lw hg ∧ wwn s q lw hg ≤ 1000000 := by
        have a1 : loS s q hg ≤ 2 * s := by
          have e : loS s q (2 * q) = 2 * s := by
            have z := loS_move (s := s) (t := 0) (k := 2) hq0
            rw [Int.zero_add] at z
            rw [z]
            unfold loS
            rw [Int.mul_zero, Int.zero_ediv, Int.zero_add]
          rw [← e]
          exact loS_mono (by omega) hq0 (by omega)
        have a2 : -1 < hiS s q lw := (lt_hiS hq0).mpr (by have := Int.mul_nonneg (Int.le_of_lt hs) d0; omega)
        unfold wwn
        omega
      have smw : Dt.Sm (.lst [.int (wwn s q lw hg), .int (wwn s q lw hg)]) := sm_pair (sml_bd (by omega) wz.2) (sml_bd (by omega) wz.2)
      refine wss_cons (ws_set 9 (VL.v (vl_lst (va_cons (vc G_windows_within hgd (hr.mono (by decide)) (va_cons (ve_var 2) (va_cons (ve_var 3) (va_cons (ve_var 11) (va_cons (ve_var 12) va_nil)))) r2) (va_cons (vck (ks := ["end", "begin", "process", "load"]) [3, 2, 1, 0] G_windows_within hgd (hr.mono (by decide)) (fun _ _ _ _ _ _ ws hl => match ws, hl with | [_, _, _, _], _ => rfl) (vk_cons (ve_var 12) (vk_cons (ve_var 11) (vk_cons (ve_var 3) (vk_cons (ve_var 2) vk_nil)))) r2) va_nil)))) ?_ sc__law_right.nd)
      exact wss_one (ws_if (vt_reprNe hgd hr T.b_repr (ve_var 9) (VL.v (vl_lst (va_cons (ve_var 8) (va_cons (ve_var 8) va_nil)))) rfl (.inl ⟨_, rfl⟩) smw rfl (Nat.le_of_ble_eq_true rfl)) (fun hb => by cases hb) (fun _ => wss_nil ⟨_, _, _, _, _, rfl⟩))
    · rintro ρ ⟨x8, x9, x10, x11, x12, rfl⟩
      exact wss_one (ws_ret ve_bl ⟨rfl, rfl⟩)
end
end Ev
namespace Ev
open PySem L2 DL
section
variable {P : Program} {w : World} {K : PySem.W.Frag} {mg : Str → Option Value} {base : Heap} {f : Addr} {fd : FuncData}
theorem sc_law : FnScope ["script", "k", "cell", "source", "turn", "five"] ["script"] (defScope s_law) := ⟨rfl, rfl, rfl, by decide +kernel, rfl, by decide +kernel, by decide +kernel⟩
def R_law (ds : List Dt) (r : Res) : Prop := ∃ ns : List Int, ns.length ≤ 63 ∧ ds = [.lst (ns.map Dt.int)] ∧ r = .ret (.bl true)
theorem ok_law (T : Txt mg) (G__law_source : FnAt P w K mg base "_law_source" s__law_source 1 ["cell", "k"] (spL K 2 R_source)) (G__law_right : FnAt P w K mg base "_law_right" s__law_right 5 ["source", "far"] (spI K 1 R_right03))
    (G_slices_at : FnAt P w K mg base "slices_at" s_slices_at 4 ["load", "process", "tick"] (spL K 3 R_slices_at)) (G_windows_within : FnAt P w K mg base "windows_within" s_windows_within 4 ["load", "process", "begin", "end"] (spD K 4 R_windows_within)) (F : Fun K "law" "law" s_law f fd) : FnG P w K mg base 6 f fd ["script"] (spD K 1 R_law) := by
  refine okD F sc_law rfl (by decide) (fun ds r ⟨_, _, _, h⟩ => ⟨_, h⟩) ?_
  rintro cdv A outer s H E g0 ds d hgd hr ⟨ns, hn, rfl, hd⟩ hl
  cases hd
  show WSs _ _ [.d (.lst (ns.map Dt.int)), .no, .no, .no, .no, .no] _ _
  refine wss_cons (ws_for rfl (vi_enum T.b_enumerate (VL.v (vl_slice (VL.v (vl_cat (ve_var 0) (VL.v (vl_lst (va_cons ve_int va_nil))) (by rw [List.length_map]; show ns.length + 1 ≤ 1000000; omega))) vo_none (vo_some (ve_max2 rfl T.b_max (va_cons ve_int (va_cons (ve_min2 rfl T.b_min (va_cons (ve_len T.b_len (VE.r (ve_var 0))) (va_cons ve_int va_nil))) va_nil)))))))
    (fun j ρ => ∃ x1 x2 x3 x4 : Sl, ρ = [.d (.lst (ns.map Dt.int)), x1, x2, x3, x4, .no]) ⟨.no, .no, .no, .no, rfl⟩ ?_ ?_ (passes_of rfl))
  · rintro j d ρ hj ⟨x1, x2, x3, x4, rfl⟩
    obtain ⟨x, hx, rfl⟩ := enum_get hj
    obtain ⟨hjl, c, rfl⟩ := cut_int hx
    refine ⟨_, _, vg_tup rfl (vgs_cons (vg_name 1 sc_law.nd) (vgs_cons (vg_name 2 sc_law.nd) vgs_nil)), ?_⟩
    show WSs _ _ [.d (.lst (ns.map Dt.int)), .d (.int (j : Int)), .d (.int c), x3, x4, .no] _ _
    refine wss_cons (ws_setO 3 (vcL G__law_source hgd (hr.mono (by decide)) (va_cons (ve_var 2) (va_cons (ve_var 1) va_nil)) ⟨c, (j : Int), rfl, by omega, by omega, rfl⟩) ?_ sc_law.nd)
    show WSs _ _ [.d (.lst (ns.map Dt.int)), .d (.int (j : Int)), .d (.int c), .o (src c j).ls, x4, .no] _ _
    refine wss_one (ws_for rfl (vi_range1 T.b_range ve_int (by decide)) (fun i ρ => ∃ (t : Src) (y4 : Sl), t.Ok (42 * i) ∧ ρ = [.d (.lst (ns.map Dt.int)), .d (.int (j : Int)), .d (.int c), .o t.ls, y4, .no])
      ⟨_, _, src_ok (by omega) (by omega), rfl⟩ ?_ ?_ (passes_of rfl))
    · rintro i d ρ hi ⟨t, y4, kt, rfl⟩
      obtain ⟨hi1, rfl⟩ := rng_get hi
      refine ⟨_, _, vg_name 4 sc_law.nd, ?_⟩
      obtain ⟨far, f1, f2, f3⟩ : ∃ far : Int, atI [Dt.int 9, Dt.int 30] (b2n (!PyData.eqv (Dt.py (.lst (ns.map Dt.int))) (Dt.py (.lst [])))) = some (.int far) ∧ 1 ≤ far ∧ far ≤ 1000 := by
        cases (!PyData.eqv (Dt.py (.lst (ns.map Dt.int))) (Dt.py (.lst [])))
        · exact ⟨9, rfl, by decide, by decide⟩
        · exact ⟨30, rfl, by decide, by decide⟩
      have hi3 : i < 2 := hi1
      refine wss_one (ws_if (VT.to (vt_not (vt_val (vcI 3 G__law_right hgd (hr.mono (by decide)) (va_cons (ve_ix (VL.v (vl_lst (va_cons ve_int (va_cons ve_int va_nil)))) (ve_intB T.b_int (ve_neD hr (ve_var 0) (VL.v (vl_lst va_nil)) (show (Dt.lst (ns.map Dt.int)).plain = true from plainAll_ints ns) rfl (shaped_ints ns) rfl)) f1) va_nil) rfl rfl ⟨t, far, 42 * i, kt, by omega, f2, f3, rfl, rfl, rfl, rfl⟩))) rfl) (fun hb => by cases hb) (fun _ => wss_nil ⟨right03 t far, _, (right03_ok kt f2 (Int.le_trans f3 (by decide))).up (by omega), rfl⟩))
    · rintro ρ ⟨t, y4, kt, rfl⟩
      exact ⟨_, _, _, _, rfl⟩
  · rintro ρ ⟨x1, x2, x3, x4, rfl⟩
    refine wss_cons (ws_set 5 (ve_tup (va_cons ve_int (va_cons ve_int (va_cons (VL.v (vl_lst (va_cons ve_int (va_cons ve_int (va_cons ve_int va_nil))))) va_nil)))) ?_ sc_law.nd)
    show WSs _ _ [.d (.lst (ns.map Dt.int)), x1, x2, x3, x4, .d (load 1 10 [4, 5, 1])] _ _
    refine wss_one (ws_ret (ve_eqD hr (VL.v (vl_lst (va_cons (VL.v (vcL G_slices_at hgd (hr.mono (by decide)) (va_cons (ve_var 5) (va_cons ve_int (va_cons ve_int va_nil))) ⟨1, 10, [4, 5, 1], 0, 2, ⟨five_ok, by decide, by decide, by decide, Bd.lit rfl, rfl⟩, rfl⟩)) (va_cons (VL.v (vcL G_slices_at hgd (hr.mono (by decide)) (va_cons (ve_var 5) (va_cons ve_int (va_cons ve_int va_nil))) ⟨1, 10, [4, 5, 1], 0, 5, ⟨five_ok, by decide, by decide, by decide, Bd.lit rfl, rfl⟩, rfl⟩)) (va_cons (vc G_windows_within hgd (hr.mono (by decide)) (va_cons (ve_var 5) (va_cons ve_int (va_cons ve_int (va_cons ve_int va_nil)))) ⟨1, 10, [4, 5, 1], 1, 4, 6, five_ok, by decide, by decide, by decide, Bd.lit rfl, by decide, Bd.lit rfl, rfl, rfl⟩) va_nil))))) (VL.v (vl_lst (va_cons (VL.v (vl_lst (va_cons ve_int (va_cons ve_int va_nil)))) (va_cons (VL.v (vl_lst (va_cons ve_int va_nil))) (va_cons ve_int va_nil))))) rfl rfl rfl rfl) ?_)
    rfl
end
end Ev
namespace Ev
open PySem L2 DL
section
theorem end_mk {l : PySem.W.OpenLaw} {w : World} {K : PySem.W.Frag} {h : Heap} {mg : Str → Option Value} {fa : Addr} (X : K.In h) (G : h.Ns mainGlobals mg) (hfa : mg "law" = some (.ref fa))
    (D__law_source : DefIn K "_law_source" s__law_source) (D_is_integer : DefIn K "is_integer" s_is_integer) (D_wrong_item : DefIn K "wrong_item" s_wrong_item) (D_need_load : DefIn K "need_load" s_need_load)
    (D_need_process : DefIn K "need_process" s_need_process) (D_need_number : DefIn K "need_number" s_need_number) (D_down : DefIn K "down" s_down) (D_up : DefIn K "up" s_up)
    (D_slices_at : DefIn K "slices_at" s_slices_at) (D_windows_within : DefIn K "windows_within" s_windows_within) (D__law_draw : DefIn K "_law_draw" s__law_draw) (D__law_parts : DefIn K "_law_parts" s__law_parts)
    (D__law_load : DefIn K "_law_load" s__law_load) (D__law_small : DefIn K "_law_small" s__law_small) (D__law_windows : DefIn K "_law_windows" s__law_windows) (D__law_right : DefIn K "_law_right" s__law_right)
    (D_law : DefIn K "law" s_law) (N_abs : PySem.W.nsIn K mainGlobals "abs" = some none) (N_max : PySem.W.nsIn K mainGlobals "max" = some none) (N_int : PySem.W.nsIn K mainGlobals "int" = some none)
    (N_isinstance : PySem.W.nsIn K mainGlobals "isinstance" = some none) (N_bool : PySem.W.nsIn K mainGlobals "bool" = some none) (N_list : PySem.W.nsIn K mainGlobals "list" = some none) (N_all : PySem.W.nsIn K mainGlobals "all" = some none)
    (N_sum : PySem.W.nsIn K mainGlobals "sum" = some none) (N_len : PySem.W.nsIn K mainGlobals "len" = some none) (N_tuple : PySem.W.nsIn K mainGlobals "tuple" = some none) (N_range : PySem.W.nsIn K mainGlobals "range" = some none)
    (N_min : PySem.W.nsIn K mainGlobals "min" = some none) (N_repr : PySem.W.nsIn K mainGlobals "repr" = some none) (N_enumerate : PySem.W.nsIn K mainGlobals "enumerate" = some none) {t_MOST_PROCESSORS : Addr} (I_MOST_PROCESSORS : PySem.W.nsIn K mainGlobals "MOST_PROCESSORS" = some (some (Value.int (12) t_MOST_PROCESSORS)))
    {t_MOST_PERIOD : Addr} (I_MOST_PERIOD : PySem.W.nsIn K mainGlobals "MOST_PERIOD" = some (some (Value.int (10 ^ 30 - 1) t_MOST_PERIOD))) {t_MOST_PROCESSES : Addr} (I_MOST_PROCESSES : PySem.W.nsIn K mainGlobals "MOST_PROCESSES" = some (some (Value.int (12) t_MOST_PROCESSES))) :
    ∃ fd : FuncData, (∀ (s : Shared) (u : Value), BindsTo s fd ⟨[u], []⟩ [("script", u)]) ∧ ∀ base : Heap, K.In base → base.Ns mainGlobals mg → FnG l.prog w K mg base 6 fa fd ["script"] (spD K 1 R_law) := by
  have T : Txt mg := ⟨PySem.W.mg_none_of X G N_abs, PySem.W.mg_none_of X G N_max, PySem.W.mg_none_of X G N_int, PySem.W.mg_none_of X G N_isinstance, PySem.W.mg_none_of X G N_bool, PySem.W.mg_none_of X G N_list, PySem.W.mg_none_of X G N_all, PySem.W.mg_none_of X G N_sum, PySem.W.mg_none_of X G N_len, PySem.W.mg_none_of X G N_tuple, PySem.W.mg_none_of X G N_range, PySem.W.mg_none_of X G N_min, PySem.W.mg_none_of X G N_repr, PySem.W.mg_none_of X G N_enumerate, ⟨_, PySem.W.mg_of X G I_MOST_PROCESSORS⟩, ⟨_, PySem.W.mg_of X G I_MOST_PERIOD⟩, ⟨_, PySem.W.mg_of X G I_MOST_PROCESSES⟩⟩
  refine D_law.law X G hfa (fun _ _ _ _ _ _ _ => rfl) fun base Xb Gb f fd F => ?_
  have G__law_source : FnAt l.prog w K mg base "_law_source" s__law_source 1 ["cell", "k"] (spL K 2 R_source) := D__law_source.at X G (fun _ _ _ _ _ _ us hl => match us, hl with | [_, _], _ => rfl) fun f fd F => ok__law_source T F
  have G_is_integer : FnAt l.prog w K mg base "is_integer" s_is_integer 1 ["value", "low", "high"] (spD K 3 R_is_integer) := D_is_integer.at X G (fun _ _ _ _ _ _ us hl => match us, hl with | [_, _, _], _ => rfl) fun f fd F => ok_is_integer T F
  have G_wrong_item : FnAt l.prog w K mg base "wrong_item" s_wrong_item 2 ["value"] (spD K 1 R_wrong_item) := D_wrong_item.at X G (fun _ _ _ _ _ _ us hl => match us, hl with | [_], _ => rfl) fun f fd F => ok_wrong_item T G_is_integer F
  have G_need_load : FnAt l.prog w K mg base "need_load" s_need_load 3 ["load"] (spD K 1 R_wrong_item) := D_need_load.at X G (fun _ _ _ _ _ _ us hl => match us, hl with | [_], _ => rfl) fun f fd F => ok_need_load T G_wrong_item F
  have G_need_process : FnAt l.prog w K mg base "need_process" s_need_process 2 ["load", "process"] (spD K 2 R_need_process) := D_need_process.at X G (fun _ _ _ _ _ _ us hl => match us, hl with | [_, _], _ => rfl) fun f fd F => ok_need_process T G_is_integer F
  have G_need_number : FnAt l.prog w K mg base "need_number" s_need_number 2 ["value", "low", "high"] (spD K 3 R_need_number) := D_need_number.at X G (fun _ _ _ _ _ _ us hl => match us, hl with | [_, _, _], _ => rfl) fun f fd F => ok_need_number T G_is_integer F
  have G_down : FnAt l.prog w K mg base "down" s_down 1 ["share", "period", "moment"] (spD K 3 R_down) := D_down.at X G (fun _ _ _ _ _ _ us hl => match us, hl with | [_, _, _], _ => rfl) fun f fd F => ok_down F
  have G_up : FnAt l.prog w K mg base "up" s_up 1 ["share", "period", "moment"] (spD K 3 R_up) := D_up.at X G (fun _ _ _ _ _ _ us hl => match us, hl with | [_, _, _], _ => rfl) fun f fd F => ok_up F
  have G_slices_at : FnAt l.prog w K mg base "slices_at" s_slices_at 4 ["load", "process", "tick"] (spL K 3 R_slices_at) := D_slices_at.at X G (fun _ _ _ _ _ _ us hl => match us, hl with | [_, _, _], _ => rfl) fun f fd F => ok_slices_at T G_need_load G_need_process G_need_number G_down G_up F
  have G_windows_within : FnAt l.prog w K mg base "windows_within" s_windows_within 4 ["load", "process", "begin", "end"] (spD K 4 R_windows_within) := D_windows_within.at X G (fun _ _ _ _ _ _ us hl => match us, hl with | [_, _, _, _], _ => rfl) fun f fd F => ok_windows_within T G_need_load G_need_process G_need_number G_down G_up F
  have G__law_draw : FnAt l.prog w K mg base "_law_draw" s__law_draw 1 ["source", "count"] (spI K 1 R_draw) := D__law_draw.at X G (fun _ _ _ _ _ _ us hl => match us, hl with | [_, _], _ => rfl) fun f fd F => ok__law_draw T F
  have G__law_parts : FnAt l.prog w K mg base "_law_parts" s__law_parts 2 ["source", "whole", "often", "far"] (spI K 3 R_parts) := D__law_parts.at X G (fun _ _ _ _ _ _ us hl => match us, hl with | [_, _, _, _], _ => rfl) fun f fd F => ok__law_parts T G__law_draw F
  have G__law_load : FnAt l.prog w K mg base "_law_load" s__law_load 3 ["source", "units", "span", "most_often"] (spI K 3 R_load) := D__law_load.at X G (fun _ _ _ _ _ _ us hl => match us, hl with | [_, _, _, _], _ => rfl) fun f fd F => ok__law_load T G__law_draw G__law_parts F
  have G__law_small : FnAt l.prog w K mg base "_law_small" s__law_small 4 ["source", "far"] (spI K 1 R_small) := D__law_small.at X G (fun _ _ _ _ _ _ us hl => match us, hl with | [_, _], _ => rfl) fun f fd F => ok__law_small T G__law_draw G__law_load F
  have G__law_windows : FnAt l.prog w K mg base "_law_windows" s__law_windows 1 ["part", "span", "often"] (spL K 3 R_windows03) := D__law_windows.at X G (fun _ _ _ _ _ _ us hl => match us, hl with | [_, _, _], _ => rfl) fun f fd F => ok__law_windows T F
  have G__law_right : FnAt l.prog w K mg base "_law_right" s__law_right 5 ["source", "far"] (spI K 1 R_right03) := D__law_right.at X G (fun _ _ _ _ _ _ us hl => match us, hl with | [_, _], _ => rfl) fun f fd F => ok__law_right T G__law_draw G__law_small G__law_windows G_slices_at G_windows_within F
  exact ok_law T G__law_source G__law_right G_slices_at G_windows_within F
end
end Ev
open PySem PySem.W PyProof.Rows
set_option maxRecDepth 100000 in
set_option maxHeartbeats 0 in
theorem PySem.Challenge.cw_evenslices_k03_slices_at_ticks_and_windo_holds : PySem.Challenge.rw_evenslices_k03_slices_at_ticks_and_windo.Holds := by
  w_on; o_law; k_head; (case hw => w_witness2)
  k_fill
  refine DL.walk_g (l := PySem.Challenge.rw_evenslices_k03_slices_at_ticks_and_windo) (n := 63) (k := 6) (x := "script") (R := Ev.R_law) rfl (by decide) rfl ⟨rfl, by decide, by decide⟩ (fun w h Y => PySem.W.kIn_of Y) ?F (fun ns hn => ⟨ns, hn, rfl, rfl⟩)
  case F =>
    intro w mg fa h KX G hmg
    refine' Ev.end_mk KX G hmg (DL.def_in ?a__law_source ?l__law_source ?c__law_source ?k__law_source) (DL.def_in ?a_is_integer ?l_is_integer ?c_is_integer ?k_is_integer) (DL.def_in ?a_wrong_item ?l_wrong_item ?c_wrong_item ?k_wrong_item) (DL.def_in ?a_need_load ?l_need_load ?c_need_load ?k_need_load) (DL.def_in ?a_need_process ?l_need_process ?c_need_process ?k_need_process) (DL.def_in ?a_need_number ?l_need_number ?c_need_number ?k_need_number) (DL.def_in ?a_down ?l_down ?c_down ?k_down) (DL.def_in ?a_up ?l_up ?c_up ?k_up) (DL.def_in ?a_slices_at ?l_slices_at ?c_slices_at ?k_slices_at) (DL.def_in ?a_windows_within ?l_windows_within ?c_windows_within ?k_windows_within) (DL.def_in ?a__law_draw ?l__law_draw ?c__law_draw ?k__law_draw) (DL.def_in ?a__law_parts ?l__law_parts ?c__law_parts ?k__law_parts) (DL.def_in ?a__law_load ?l__law_load ?c__law_load ?k__law_load) (DL.def_in ?a__law_small ?l__law_small ?c__law_small ?k__law_small) (DL.def_in ?a__law_windows ?l__law_windows ?c__law_windows ?k__law_windows) (DL.def_in ?a__law_right ?l__law_right ?c__law_right ?k__law_right) (DL.def_in ?a_law ?l_law ?c_law ?k_law) ?n_abs ?n_max ?n_int ?n_isinstance ?n_bool ?n_list ?n_all ?n_sum ?n_len ?n_tuple ?n_range ?n_min ?n_repr ?n_enumerate ?i_MOST_PROCESSORS ?i_MOST_PERIOD ?i_MOST_PROCESSES
    (case a__law_source => k_is); (case l__law_source => k_is); (case c__law_source => k_is); (case k__law_source => k_is)
    (case a_is_integer => k_is); (case l_is_integer => k_is); (case c_is_integer => k_is); (case k_is_integer => k_is)
    (case a_wrong_item => k_is); (case l_wrong_item => k_is); (case c_wrong_item => k_is); (case k_wrong_item => k_is)
    (case a_need_load => k_is); (case l_need_load => k_is); (case c_need_load => k_is); (case k_need_load => k_is)
    (case a_need_process => k_is); (case l_need_process => k_is); (case c_need_process => k_is); (case k_need_process => k_is)
    (case a_need_number => k_is); (case l_need_number => k_is); (case c_need_number => k_is); (case k_need_number => k_is)
    (case a_down => k_is); (case l_down => k_is); (case c_down => k_is); (case k_down => k_is)
    (case a_up => k_is); (case l_up => k_is); (case c_up => k_is); (case k_up => k_is)
    (case a_slices_at => k_is); (case l_slices_at => k_is); (case c_slices_at => k_is); (case k_slices_at => k_is)
    (case a_windows_within => k_is); (case l_windows_within => k_is); (case c_windows_within => k_is); (case k_windows_within => k_is)
    (case a__law_draw => k_is); (case l__law_draw => k_is); (case c__law_draw => k_is); (case k__law_draw => k_is)
    (case a__law_parts => k_is); (case l__law_parts => k_is); (case c__law_parts => k_is); (case k__law_parts => k_is)
    (case a__law_load => k_is); (case l__law_load => k_is); (case c__law_load => k_is); (case k__law_load => k_is)
    (case a__law_small => k_is); (case l__law_small => k_is); (case c__law_small => k_is); (case k__law_small => k_is)
    (case a__law_windows => k_is); (case l__law_windows => k_is); (case c__law_windows => k_is); (case k__law_windows => k_is)
    (case a__law_right => k_is); (case l__law_right => k_is); (case c__law_right => k_is); (case k__law_right => k_is)
    (case a_law => k_is); (case l_law => k_is); (case c_law => k_is); (case k_law => k_is)
    (case n_abs => k_is)
    (case n_max => k_is)
    (case n_int => k_is)
    (case n_isinstance => k_is)
    (case n_bool => k_is)
    (case n_list => k_is)
    (case n_all => k_is)
    (case n_sum => k_is)
    (case n_len => k_is)
    (case n_tuple => k_is)
    (case n_range => k_is)
    (case n_min => k_is)
    (case n_repr => k_is)
    (case n_enumerate => k_is)
    (case i_MOST_PROCESSORS => k_is)
    (case i_MOST_PERIOD => k_is)
    (case i_MOST_PROCESSES => k_is)
