import PyProof.Rows.All
import Wide.All
import OpenK.AllK
import Wide.FinOn
import HandS.ForMost
import HandS.ForExc
import HandS.Wide
import HandS.Conv
import HandS.IsInst
import HandS.ExcCtx
import HandS.RaiseMore
import PyProof.LongRange
import PyProof.ListRange
import HandS.Iter
import HandS.Style
import HandS.SortInts
import HandS.Deep
import KE.KSortedM
import HandS.SetFor
import HandS.Strs
import KE.DataMinMax
import KE.SortData
import KE.GoesEnum
import KE.KStar
import PySem.Challenge.RW_evenslices_k73_changes_by_search
set_option Elab.async false
set_option linter.all false
set_option maxRecDepth 100000
set_option maxHeartbeats 4000000
namespace DL
open PySem PySem.Spec PyProof.Rows L2
/-! ### data -/
inductive Dt where
  | non
  | bl (b : Bool)
  | int (i : Int)
  | str (x : Str)
  | lst (ds : List Dt)
  | tup (ds : List Dt)
  | opq (a : Addr)
  | emp
/-- a list that is read, its object known to the letter -/
def SqX (K : PySem.W.Frag) (S : Hp) (a : Addr) (xs : List V) : Prop :=
  Rd S a (.lst xs) ∨ ∃ (its : Array Value) (n : Nat), K.lookup a = some { cls := .type "list", data := .seq its n } ∧ its.size ≤ sizeLine ∧ Vals xs its.toList
theorem SqX.l {K : PySem.W.Frag} {S : Hp} {a : Addr} {xs : List V} (h : SqX K S a xs) : SqL K S a xs := by
  rcases h with h | ⟨its, n, h1, h2, h3⟩
  · exact Or.inl h
  · exact Or.inr ⟨_, its, n, h1, rfl, rfl, rfl, h2, h3⟩
theorem SqX.of {K : PySem.W.Frag} {S : Hp} {a : Addr} {xs : List V} (h : S a = some (.lst xs)) : SqX K S a xs := Or.inl (Or.inl h)
theorem SqX.obj {X : Cx} {pins : List (Addr × Obj)} {σ : L2.St} {H : Hp} {s : Shared} {a : Addr} {xs : List V} (I : Inv X pins σ H s) (h : SqX X.K H a xs) :
    ∃ (its : List Value) (n : Nat), Vals xs its ∧ xs.length ≤ sizeLine ∧ s.heap.get? a = some { cls := .type "list", data := .seq its.toArray n } := by
  rcases h with h | ⟨its, n, h1, h2, h3⟩
  · obtain ⟨z, its, n, r, e⟩ := h.ok I.hok
    exact ⟨its, n, r, z, e⟩
  · have e := h3.length
    simp only [Array.length_toList] at e
    exact ⟨its.toList, n, h3, by omega, by simpa using I.kIn a _ h1⟩
mutual
inductive Rp (K : PySem.W.Frag) (S : Hp) : V → Dt → Prop
  | non : Rp K S V.non Dt.non
  | bl (b : Bool) : Rp K S (V.bl b) (Dt.bl b)
  | int (i : Int) : Rp K S (V.int i) (Dt.int i)
  | str (x : Str) : Rp K S (V.str x) (Dt.str x)
  | lst {a : Addr} {xs : List V} {ds : List Dt} : SqX K S a xs → RpAll K S xs ds → Rp K S (V.ref a) (Dt.lst ds)
  | tup {a : Addr} {xs : List V} {ds : List Dt} : SqT K S a xs → RpAll K S xs ds → Rp K S (V.ref a) (Dt.tup ds)
  | opq (a : Addr) : Rp K S (V.ref a) (Dt.opq a)
  | emp {a : Addr} : Rd S a (.dK []) → Rp K S (V.ref a) Dt.emp
inductive RpAll (K : PySem.W.Frag) (S : Hp) : List V → List Dt → Prop
  | nil : RpAll K S [] []
  | cons {v : V} {vs : List V} {d : Dt} {ds : List Dt} : Rp K S v d → RpAll K S vs ds → RpAll K S (v :: vs) (d :: ds)
end
section
variable {K : PySem.W.Frag} {S S' : Hp}
theorem sql_mono (e : Same S S') {a : Addr} {xs : List V} (h : SqL K S a xs) : SqL K S' a xs := e.seq h
theorem sqx_mono (e : Same S S') {a : Addr} {xs : List V} (h : SqX K S a xs) : SqX K S' a xs := by
  rcases h with (h | ⟨o, h⟩) | h
  · exact Or.inl (Or.inl (e _ _ h))
  · exact Or.inl (Or.inr ⟨o, e _ _ h⟩)
  · exact Or.inr h
theorem sqt_mono (e : Same S S') {a : Addr} {xs : List V} (h : SqT K S a xs) : SqT K S' a xs := by
  rcases h with (h | ⟨o, h⟩) | h
  · exact Or.inl (Or.inl (e _ _ h))
  · exact Or.inl (Or.inr ⟨o, e _ _ h⟩)
  · exact Or.inr h
mutual
theorem Rp.mono (e : Same S S') : ∀ (d : Dt) (v : V), Rp K S v d → Rp K S' v d
  | .non, _, h => by cases h; exact Rp.non
  | .bl b, _, h => by cases h; exact Rp.bl b
  | .int i, _, h => by cases h; exact Rp.int i
  | .str x, _, h => by cases h; exact Rp.str x
  | .lst ds, _, h => by
    cases h with
    | lst hs ha => exact Rp.lst (sqx_mono e hs) (RpAll.mono e ds _ ha)
  | .tup ds, _, h => by
    cases h with
    | tup hs ha => exact Rp.tup (sqt_mono e hs) (RpAll.mono e ds _ ha)
  | .opq w, _, h => by cases h; exact Rp.opq w
  | .emp, _, h => by
    cases h with
    | emp hd =>
      rcases hd with hd | ⟨o, hd⟩
      · exact Rp.emp (Or.inl (e _ _ hd))
      · exact Rp.emp (Or.inr ⟨o, e _ _ hd⟩)
theorem RpAll.mono (e : Same S S') : ∀ (ds : List Dt) (vs : List V), RpAll K S vs ds → RpAll K S' vs ds
  | [], _, h => by cases h; exact RpAll.nil
  | d :: ds, _, h => by
    cases h with
    | cons h1 h2 => exact RpAll.cons (Rp.mono e d _ h1) (RpAll.mono e ds _ h2)
end
theorem RpAll.len : ∀ {vs : List V} {ds : List Dt}, RpAll K S vs ds → vs.length = ds.length
  | _, _, .nil => rfl
  | _, _, .cons _ t => by rw [List.length_cons, List.length_cons, RpAll.len t]
theorem RpAll.at : ∀ {vs : List V} {ds : List Dt} {i : Nat} {d : Dt}, RpAll K S vs ds → ds[i]? = some d → ∃ v, vs[i]? = some v ∧ Rp K S v d
  | _, _, _, _, .nil, e => by simp at e
  | _, _, 0, _, .cons r _, e => by simp at e; subst e; exact ⟨_, rfl, r⟩
  | _, _, i + 1, d, .cons _ t, e => by
    obtain ⟨u, h1, h2⟩ := RpAll.at (i := i) (d := d) t (by simpa using e)
    exact ⟨u, by simpa using h1, h2⟩
theorem RpAll.atV : ∀ {vs : List V} {ds : List Dt} {i : Nat} {v : V}, RpAll K S vs ds → vs[i]? = some v → ∃ d, ds[i]? = some d ∧ Rp K S v d
  | _, _, _, _, .nil, e => by simp at e
  | _, _, 0, _, .cons r _, e => by simp at e; subst e; exact ⟨_, rfl, r⟩
  | _, _, i + 1, v, .cons _ t, e => by
    obtain ⟨u, h1, h2⟩ := RpAll.atV (i := i) (v := v) t (by simpa using e)
    exact ⟨u, by simpa using h1, h2⟩
theorem RpAll.app : ∀ {vs ws : List V} {ds es : List Dt}, RpAll K S vs ds → RpAll K S ws es → RpAll K S (vs ++ ws) (ds ++ es)
  | _, _, _, _, .nil, s => s
  | _, _, _, _, .cons r t, s => .cons r (RpAll.app t s)
theorem RpAll.take : ∀ {vs : List V} {ds : List Dt} (n : Nat), RpAll K S vs ds → RpAll K S (vs.take n) (ds.take n)
  | _, _, 0, _ => .nil
  | _, _, _ + 1, .nil => .nil
  | _, _, n + 1, .cons r t => .cons r (RpAll.take n t)
theorem RpAll.drop : ∀ {vs : List V} {ds : List Dt} (n : Nat), RpAll K S vs ds → RpAll K S (vs.drop n) (ds.drop n)
  | _, _, 0, r => r
  | _, _, _ + 1, .nil => .nil
  | _, _, n + 1, .cons _ t => RpAll.drop n t
theorem RpAll.set {v : V} {d : Dt} (r : Rp K S v d) : ∀ {vs : List V} {ds : List Dt} (i : Nat), RpAll K S vs ds → RpAll K S (vs.set i v) (ds.set i d)
  | _, _, _, .nil => .nil
  | _, _, 0, .cons _ t => .cons r t
  | _, _, i + 1, .cons q t => .cons q (RpAll.set r i t)
theorem RpAll.ints : ∀ {ns : List Int} {vs : List V}, RpAll K S vs (ns.map Dt.int) → vs = ns.map V.int
  | [], _, h => by cases h; rfl
  | n :: ns, _, h => by
    cases h with
    | cons r t =>
      cases r
      rw [List.map_cons, RpAll.ints t]
theorem RpAll.of_ints : ∀ (ns : List Int), RpAll K S (ns.map V.int) (ns.map Dt.int)
  | [] => .nil
  | n :: ns => .cons (.int n) (RpAll.of_ints ns)
theorem RpAll.rep {vs : List V} {ds : List Dt} (h : RpAll K S vs ds) : ∀ k : Nat, RpAll K S (List.replicate k vs).flatten (List.replicate k ds).flatten
  | 0 => .nil
  | k + 1 => by
    rw [List.replicate_succ, List.replicate_succ, List.flatten_cons, List.flatten_cons]
    exact h.app (RpAll.rep h k)
end
/-! ### to the library's data -/
mutual
def Dt.py : Dt → PyData
  | .non => .none
  | .bl b => .bool b
  | .int i => .int i
  | .str x => .str x
  | .lst ds => .list (Dt.pyAll ds)
  | .tup ds => .tuple (Dt.pyAll ds)
  | .opq _ => .none
  | .emp => .dict []
def Dt.pyAll : List Dt → List PyData
  | [] => []
  | d :: ds => Dt.py d :: Dt.pyAll ds
end
mutual
def Dt.plain : Dt → Bool
  | .lst ds => Dt.plainAll ds
  | .tup ds => Dt.plainAll ds
  | .opq _ => false
  | .emp => false
  | _ => true
def Dt.plainAll : List Dt → Bool
  | [] => true
  | d :: ds => Dt.plain d && Dt.plainAll ds
end
section
variable {K : PySem.W.Frag} {S : Hp}
mutual
theorem Rp.dp : ∀ (d : Dt) (v : V), Dt.plain d = true → Rp K S v d → Dp K S v (Dt.py d)
  | .non, _, _, h => by cases h; exact Dp.non
  | .bl b, _, _, h => by cases h; exact Dp.bl b
  | .int i, _, _, h => by cases h; exact Dp.int i
  | .str x, _, _, h => by cases h; exact Dp.str x
  | .lst ds, _, p, h => by
    cases h with
    | lst hs ha => exact Dp.lst hs.l (RpAll.dp ds _ p ha)
  | .tup ds, _, p, h => by
    cases h with
    | tup hs ha => exact Dp.tup hs (RpAll.dp ds _ p ha)
  | .opq w, _, p, _ => by cases p
  | .emp, _, p, _ => by cases p
theorem RpAll.dp : ∀ (ds : List Dt) (vs : List V), Dt.plainAll ds = true → RpAll K S vs ds → DpAll K S vs (Dt.pyAll ds)
  | [], _, _, h => by cases h; exact DpAll.nil
  | d :: ds, _, p, h => by
    cases h with
    | cons h1 h2 =>
      have q : (Dt.plain d && Dt.plainAll ds) = true := p
      rw [Bool.and_eq_true] at q
      exact DpAll.cons (Rp.dp d _ q.1 h1) (RpAll.dp ds _ q.2 h2)
end
mutual
theorem dp_mono {S' : Hp} (e : Same S S') : ∀ (d : PyData) (v : V), Dp K S v d → Dp K S' v d
  | .none, _, h => by cases h; exact Dp.non
  | .bool b, _, h => by cases h; exact Dp.bl b
  | .int i, _, h => by cases h; exact Dp.int i
  | .str x, _, h => by cases h; exact Dp.str x
  | .list ds, _, h => by
    cases h with
    | lst hs ha => exact Dp.lst (sql_mono e hs) (dpAll_mono e ds _ ha)
  | .tuple ds, _, h => by
    cases h with
    | tup hs ha => exact Dp.tup (sqt_mono e hs) (dpAll_mono e ds _ ha)
  | .dict _, _, h => by cases h
theorem dpAll_mono {S' : Hp} (e : Same S S') : ∀ (ds : List PyData) (vs : List V), DpAll K S vs ds → DpAll K S' vs ds
  | [], _, h => by cases h; exact DpAll.nil
  | d :: ds, _, h => by
    cases h with
    | cons h1 h2 => exact DpAll.cons (dp_mono e d _ h1) (dpAll_mono e ds _ h2)
end
end
/-! ### the state: what stands, and the lists that are changed -/
structure G where
  S : Hp
  M : Addr → Option (List Dt)
def GOk (K : PySem.W.Frag) (g : G) (H : Hp) : Prop :=
  Same g.S H ∧ ∀ p ds, g.M p = some ds → g.S p = none ∧ ∃ xs, H p = some (.lst xs) ∧ RpAll K g.S xs ds
inductive Sl where
  | no
  | d (x : Dt)
  | o (ds : List Dt)
  | i (p : Addr) (ds : List Dt)
  | t (cs : List (Addr × List Dt)) (x : Dt)
def SlOk (K : PySem.W.Frag) (g : G) (v : Option V) : Sl → Prop
  | .no => True
  | .d x => ∃ u, v = some u ∧ Rp K g.S u x
  | .o ds => ∃ p, v = some (V.ref p) ∧ g.M p = some ds
  | .i p ds => v = some (V.ref p) ∧ g.M p = some ds
  | .t cs x => (∃ u, v = some u ∧ Rp K g.S u x) ∧ (cs.map (·.1)).Nodup ∧ ∀ a ds, (a, ds) ∈ cs → g.M a = some ds
def Sl.own : Sl → Bool
  | .o _ => true
  | .i _ _ => true
  | _ => false
/-- the lists that a slot has for its own -/
def Adr (σ : L2.St) (i : Nat) : Sl → Addr → Prop
  | .no, _ => False
  | .d _, _ => False
  | .o _, p => σ[i]? = some (some (V.ref p))
  | .i _ _, p => σ[i]? = some (some (V.ref p))
  | .t cs _, p => p ∈ cs.map (·.1)
/-- slots without lists of their own -/
def Sl.bare : Sl → Bool
  | .no => true
  | .d _ => true
  | _ => false
def OwnAt (σ : L2.St) (ρ : List Sl) (p : Addr) : Prop := ∃ (i : Nat) (s : Sl), ρ[i]? = some s ∧ Adr σ i s p
structure Rep (K : PySem.W.Frag) (g : G) (σ : L2.St) (ρ : List Sl) : Prop where
  len : σ.length = ρ.length
  sl : ∀ (i : Nat) (s : Sl), ρ[i]? = some s → ∃ v, σ[i]? = some v ∧ SlOk K g v s
  ne : ∀ (i j : Nat) (s t : Sl) (p : Addr), i ≠ j → ρ[i]? = some s → ρ[j]? = some t → Adr σ i s p → Adr σ j t p → False
structure Ext (σ : L2.St) (ρ ρ' : List Sl) (g g' : G) : Prop where
  st : Same g.S g'.S
  mu : ∀ p ds, g.M p = some ds → ¬ OwnAt σ ρ p → g'.M p = some ds
  ow : ∀ p, OwnAt σ ρ' p → OwnAt σ ρ p
theorem Ext.refl (σ : L2.St) (ρ : List Sl) (g : G) : Ext σ ρ ρ g g := ⟨Same.refl _, fun _ _ h _ => h, fun _ h => h⟩
theorem Ext.trans {σ : L2.St} {ρ ρ1 ρ2 : List Sl} {g g1 g2 : G} (a : Ext σ ρ ρ1 g g1) (b : Ext σ ρ1 ρ2 g1 g2) : Ext σ ρ ρ2 g g2 :=
  ⟨a.st.trans b.st, fun p ds h n => b.mu p ds (a.mu p ds h n) fun q => n (a.ow p q), fun p h => a.ow p (b.ow p h)⟩
/-- the state only grows, no list is changed -/
structure Gro (g g' : G) : Prop where
  st : Same g.S g'.S
  mu : ∀ p ds, g.M p = some ds → g'.M p = some ds
theorem Gro.refl (g : G) : Gro g g := ⟨Same.refl _, fun _ _ h => h⟩
theorem Gro.trans {g g1 g2 : G} (a : Gro g g1) (b : Gro g1 g2) : Gro g g2 := ⟨a.st.trans b.st, fun p ds h => b.mu p ds (a.mu p ds h)⟩
theorem Gro.ext {g g' : G} (a : Gro g g') (σ : L2.St) (ρ : List Sl) : Ext σ ρ ρ g g' := ⟨a.st, fun p ds h _ => a.mu p ds h, fun _ h => h⟩
section
variable {K : PySem.W.Frag} {g g' : G} {σ : L2.St} {ρ : List Sl} {H : Hp}
theorem SlOk.gro (a : Gro g g') {v : Option V} : ∀ {s : Sl}, SlOk K g v s → SlOk K g' v s
  | .no, _ => trivial
  | .d x, ⟨u, e, r⟩ => ⟨u, e, r.mono a.st⟩
  | .o ds, ⟨p, e, r⟩ => ⟨p, e, a.mu _ _ r⟩
  | .i p ds, ⟨e, r⟩ => ⟨e, a.mu _ _ r⟩
  | .t cs x, ⟨⟨u, e, r⟩, n, h⟩ => ⟨⟨u, e, r.mono a.st⟩, n, fun p ds z => a.mu _ _ (h p ds z)⟩
theorem Rep.gro (r : Rep K g σ ρ) (a : Gro g g') : Rep K g' σ ρ :=
  ⟨r.len, fun i s h => let ⟨v, e, q⟩ := r.sl i s h; ⟨v, e, q.gro a⟩, r.ne⟩
theorem GOk.free (o : GOk K g H) {p : Addr} (h : H p = none) : g.S p = none ∧ g.M p = none := by
  refine ⟨o.1.free h, ?_⟩
  cases q : g.M p with
  | none => rfl
  | some ds =>
    obtain ⟨_, xs, e, _⟩ := o.2 p ds q
    rw [h] at e; cases e
/-- a new object that will stand -/
def G.stand (g : G) (p : Addr) (o : HO) : G := ⟨upd g.S p o, g.M⟩
/-- a new list that may be changed -/
def G.hold (g : G) (p : Addr) (ds : List Dt) : G := ⟨g.S, fun q => if q = p then some ds else g.M q⟩
theorem stand_gro {p : Addr} {o : HO} (h : g.S p = none) : Gro g (g.stand p o) :=
  ⟨fun b u e => by show upd g.S p o b = some u; rw [upd_ne (ne_of_none e h)]; exact e, fun _ _ h => h⟩
theorem stand_ok (k : GOk K g H) {p : Addr} {o : HO} (h : H p = some o) (hs : g.S p = none) (hm : g.M p = none) : GOk K (g.stand p o) H := by
  refine ⟨fun b u e => ?_, fun q ds e => ?_⟩
  · by_cases hb : b = p
    · subst hb
      have e' : upd g.S b o b = some u := e
      rw [upd_same] at e'
      rw [← e', h]
    · have e' : upd g.S p o b = some u := e
      rw [upd_ne hb] at e'
      exact k.1 b u e'
  · have e' : g.M q = some ds := e
    obtain ⟨h1, xs, h2, h3⟩ := k.2 q ds e'
    have hq : q ≠ p := fun z => by rw [z, hm] at e'; cases e'
    exact ⟨by show upd g.S p o q = none; rw [upd_ne hq]; exact h1, xs, h2, h3.mono (stand_gro hs).st⟩
theorem hold_gro {p : Addr} {ds : List Dt} (h : g.M p = none) : Gro g (g.hold p ds) :=
  ⟨Same.refl _, fun q es e => by
    have hq : q ≠ p := fun z => by rw [z, h] at e; cases e
    show (if q = p then some ds else g.M q) = some es
    rw [if_neg hq]; exact e⟩
theorem hold_ok (k : GOk K g H) {p : Addr} {xs : List V} {ds : List Dt} (h : H p = some (.lst xs)) (hs : g.S p = none) (r : RpAll K g.S xs ds) : GOk K (g.hold p ds) H := by
  refine ⟨k.1, fun q es e => ?_⟩
  have e' : (if q = p then some ds else g.M q) = some es := e
  by_cases hq : q = p
  · subst hq
    rw [if_pos rfl] at e'
    cases e'
    exact ⟨hs, xs, h, r⟩
  · rw [if_neg hq] at e'
    exact k.2 q es e'
theorem Rep.get (r : Rep K g σ ρ) {i : Nat} {x : Dt} (h : ρ[i]? = some (.d x)) : ∃ u, σ[i]? = some (some u) ∧ Rp K g.S u x := by
  obtain ⟨v, e, u, rfl, q⟩ := r.sl i _ h
  exact ⟨u, e, q⟩
end
end DL
namespace DL
open PySem PySem.Spec PyProof.Rows L2
/-! ### judgements over data -/
def RE (K : PySem.W.Frag) (t : TE) (ρ : List Sl) (d : Dt) (ρ' : List Sl) : Prop :=
  ∀ (σ : L2.St) (H : Hp) (g : G) (Q : VK), GOk K g H → Rep K g σ ρ →
    (∀ v H' g', GOk K g' H' → Ext σ ρ ρ' g g' → Rep K g' σ ρ' → Rp K g'.S v d → Q v H') → t σ H Q
/-- a new list -/
def RL (K : PySem.W.Frag) (t : TE) (ρ : List Sl) (ds : List Dt) (ρ' : List Sl) : Prop :=
  ∀ (σ : L2.St) (H : Hp) (g : G) (Q : VK), GOk K g H → Rep K g σ ρ →
    (∀ p xs H' g', GOk K g' H' → Ext σ ρ ρ' g g' → Rep K g' σ ρ' → H' p = some (.lst xs) → g'.S p = none → g'.M p = none → RpAll K g'.S xs ds → Q (V.ref p) H') → t σ H Q
def RT (K : PySem.W.Frag) (t : TT) (ρ : List Sl) (b : Bool) (ρ' : List Sl) : Prop :=
  ∀ (σ : L2.St) (H : Hp) (g : G) (Q : Bool → Hp → Prop), GOk K g H → Rep K g σ ρ →
    (∀ H' g', GOk K g' H' → Ext σ ρ ρ' g g' → Rep K g' σ ρ' → Q b H') → t σ H Q
def VE (X : Cx) (ρ : List Sl) (e : Expr) (d : Dt) (ρ' : List Sl) : Prop := ∃ t, PE X e t ∧ RE X.K t ρ d ρ'
def VL (X : Cx) (ρ : List Sl) (e : Expr) (ds : List Dt) (ρ' : List Sl) : Prop := ∃ t, PE X e t ∧ RL X.K t ρ ds ρ'
def VT (X : Cx) (ρ : List Sl) (e : Expr) (b : Bool) (ρ' : List Sl) : Prop := ∃ t, PT X e t ∧ RT X.K t ρ b ρ'
def VW (X : Cx) (ρ : List Sl) (e : Expr) (b : Bool) (ρ' : List Sl) : Prop := ∃ t, PW X e t ∧ RT X.K t ρ b ρ'
/-! ### operations on values -/
def RO (K : PySem.W.Frag) (r : R2) (x y z : Dt) : Prop := ∀ v u H g (Q : VK), GOk K g H → Rp K g.S v x → Rp K g.S u y →
  (∀ w H' g', GOk K g' H' → Gro g g' → Rp K g'.S w z → Q w H') → r v u H Q
section
variable {K : PySem.W.Frag} {x y z : Dt}
theorem dec_s {i j : Str} : decide (V.str i = V.str j) = decide (i = j) := by
  by_cases h : i = j
  · subst h; simp
  · have n : ¬ V.str i = V.str j := fun e => h (V.str.inj e)
    rw [decide_eq_false h, decide_eq_false n]
def Dt.isNon : Dt → Bool
  | .non => true
  | _ => false
theorem rp_non {S : Hp} {v : V} (r : Rp K S v x) : decide (v = V.non) = x.isNon := by
  cases r <;> simp [Dt.isNon]
end
section
variable {X : Cx} {ρ ρ1 ρ2 ρ3 : List Sl} {a b c e : Expr} {es : List Expr} {x y z d : Dt} {ds : List Dt} {pos : Pos} {k : Nat}
/-! ### names, constants -/
/-! ### operators -/
theorem RE.op {ta tb : TE} {r : R2} {K : PySem.W.Frag} (ha : RE K ta ρ x ρ1) (hb : RE K tb ρ1 y ρ2) (hr : RO K r x y z) : RE K (tOp r ta tb) ρ z ρ2 := fun σ H g Q k rp q =>
  ha σ H g _ k rp fun v H1 g1 k1 e1 r1 rv => hb σ H1 g1 _ k1 r1 fun u H2 g2 k2 e2 r2 ru => hr v u H2 g2 _ k2 (rv.mono e2.st) ru fun w H3 g3 k3 e3 rw' =>
    q w H3 g3 k3 ((e1.trans e2).trans (e3.ext _ _)) (r2.gro e3) rw'
def CPowD (i j : Int) : Prop := 0 ≤ j ∧ (Builtin.Int.intBits i : Int) * j ≤ 2 ^ 27
theorem op_powD : OpR X (binaryOp .Pow) (rI CPowD fun i j => .int (i ^ j.toNat)) := opI fun _ _ _ _ _ _ _ hc q => PyProof.Rows.pow_int hc.1 hc.2 q
/-! ### comparisons: as values, as tests -/
end
end DL
namespace DL
open PySem PySem.Spec PyProof.Rows L2
section
variable {X : Cx} {ρ ρ1 ρ2 ρ3 : List Sl} {a b c e : Expr} {es : List Expr} {x y z d : Dt} {ds : List Dt} {pos : Pos} {k : Nat}
/-! ### nothing is asked of what is not reached -/
theorem pe_no : PE X e (fun _ _ _ => False) := ⟨fun _ _ _ _ _ _ h => h.elim⟩
theorem pt_no : PT X e (fun _ _ _ => False) := ⟨fun _ _ _ _ _ _ h => h.elim⟩
theorem pw_no : PW X e (fun _ _ _ => False) := ⟨fun _ _ _ _ _ _ _ h => h.elim⟩
theorem ps_no {st : Stmt} : PS X st (fun _ _ _ => False) := ⟨fun _ _ _ _ _ _ h => h.elim⟩
theorem pss_no {st : List Stmt} : PSs X st (fun _ _ _ => False) := ⟨fun _ _ _ _ _ _ h => h.elim⟩
/-! ### chains -/
/-! ### and, or, not, if -/
theorem VW.t {w : Bool} (h : VW X ρ e w ρ1) : VT X ρ e w ρ1 := let ⟨t, p, q⟩ := h; ⟨t, p.pt, q⟩
/-! ### arguments, displays -/
theorem VL.v (h : VL X ρ e ds ρ1) : VE X ρ e (.lst ds) ρ1 := by
  obtain ⟨t, p, q⟩ := h
  refine ⟨t, p, fun σ H g Q kk rp z => q σ H g Q kk rp fun p xs H1 g1 k1 e1 r1 hp hs hm rv => ?_⟩
  have gr := stand_gro (g := g1) (p := p) (o := .lst xs) hs
  exact z _ H1 (g1.stand p (.lst xs)) (stand_ok k1 hp hs hm) (e1.trans (gr.ext _ _)) (r1.gro gr) (Rp.lst (SqX.of upd_same) (rv.mono gr.st))
/-! ### items -/
end
end DL
namespace DL
open PySem PySem.Spec PyProof.Rows L2
/-! ### defs that run where nothing is being shown (no guard on the way): repr asks that -/
structure FnG (P : Program) (w : World) (K : PySem.W.Frag) (mg : Str → Option Value) (base : Heap) (k : Nat) (f : Addr) (fd : FuncData) (ps : List Str) (sp : Sp) : Prop where
  len : ∀ vs H Q E, sp vs H Q E → vs.length = ps.length
  go : ∀ (A : Around) (outer : List Env) (s : Shared) (H : Hp) (args : Args) (us : List Value) (vs : List V) (Q : VK) (E : XK), A.guards = some [] → Room k A → Env0 P w K mg base A outer s H →
    BindsTo s fd args (ps.zip us) → Vals vs us → sp vs H Q E → codeAny (model P w) A (.call (.ref f) args) (CR (L2N.CX P w) outer P w H s Q E) s
theorem FnG.mono {P : Program} {w : World} {K : PySem.W.Frag} {mg : Str → Option Value} {base : Heap} {j k : Nat} {f : Addr} {fd : FuncData} {ps : List Str} {sp : Sp} (F : FnG P w K mg base j f fd ps sp) (h : j ≤ k) :
    FnG P w K mg base k f fd ps sp :=
  ⟨F.len, fun A outer s H args us vs Q E hg hr => F.go A outer s H args us vs Q E hg (hr.mono h)⟩
/-! ### what a def promises over data -/
/-- what comes of a call: a value, or an error of an own class, with its one field where it has one -/
inductive Res where
  | ret (d : Dt)
  | exc (C : Addr)
  | excF (C : Addr) (f : Str) (d : Dt)
def ResOk (K : PySem.W.Frag) (g : G) (Q : VK) (E : XK) : Res → Prop
  | .ret d => ∀ v H' g', GOk K g' H' → Gro g g' → Rp K g'.S v d → Q v H'
  | .exc C => ∀ H' g', GOk K g' H' → Gro g g' → E (.ref C) none H'
  | .excF C f d => ∀ H' g' a v, GOk K g' H' → Gro g g' → g'.S a = some (.xd [(f, v)]) → Rp K g'.S v d → E (.ref C) (some a) H'
/-- no argument is changed -/
def spD (K : PySem.W.Frag) (n : Nat) (R : List Dt → Res → Prop) : Sp := fun vs H Q E => ∃ g ds r, ds.length = n ∧ GOk K g H ∧ RpAll K g.S vs ds ∧ R ds r ∧ ResOk K g Q E r
end DL
namespace DL
open PySem PySem.Spec PyProof.Rows L2
/-! ### slots -/
section
variable {K : PySem.W.Frag} {g g' : G} {σ σ' : L2.St} {ρ ρ' : List Sl} {H : Hp}
/-- what is told in a slot is in M -/
theorem adr_held (r : Rep K g σ ρ) {m : Nat} {y : Sl} {p : Addr} (a : ρ[m]? = some y) (b : Adr σ m y p) : ∃ es, g.M p = some es := by
  obtain ⟨w, w1, w2⟩ := r.sl m y a
  cases y with
  | no => exact b.elim
  | d _ => exact b.elim
  | o es =>
    obtain ⟨q, z1, z2⟩ := w2
    have b' : σ[m]? = some (some (V.ref p)) := b
    rw [b'] at w1
    cases w1
    cases z1
    exact ⟨es, z2⟩
  | i q es =>
    obtain ⟨z1, z2⟩ := w2
    have b' : σ[m]? = some (some (V.ref p)) := b
    rw [b'] at w1
    cases w1
    cases z1
    exact ⟨es, z2⟩
  | t cs x =>
    obtain ⟨⟨b', es⟩, hb, rfl⟩ := List.mem_map.mp b
    exact ⟨es, w2.2.2 _ _ hb⟩
end
/-! ### statements over data -/
/-- the def's entry: the lists that are handed over to be changed, the state, what is wanted of an error -/
structure Fx where
  I : List Addr
  g0 : G
  E : XK
structure FrOk (Z : Fx) (σ : L2.St) (ρ : List Sl) (g : G) : Prop where
  st : Same Z.g0.S g.S
  mu : ∀ p ds, p ∉ Z.I → Z.g0.M p = some ds → g.M p = some ds
  ow : ∀ p, OwnAt σ ρ p → p ∈ Z.I ∨ Z.g0.M p = none
structure KD where
  nx : List Sl → Prop
  rt : Dt → List Sl → Prop
  bk : List Sl → Prop := fun _ => False
  ct : List Sl → Prop := fun _ => False
  rl : List Dt → List Sl → Prop := fun _ _ => False
/-- what is wanted over data is what is wanted of the machine; S is what stood at the statement's beginning -/
structure KOk (K : PySem.W.Frag) (Z : Fx) (S : Hp) (κ : KD) (D : Ends) : Prop where
  nx : ∀ σ H g ρ, GOk K g H → Rep K g σ ρ → FrOk Z σ ρ g → Same S g.S → κ.nx ρ → D.nx σ H
  rt : ∀ v σ H g ρ d, GOk K g H → Rep K g σ ρ → FrOk Z σ ρ g → Same S g.S → Rp K g.S v d → κ.rt d ρ → D.rt v H
  bk : ∀ σ H g ρ, GOk K g H → Rep K g σ ρ → FrOk Z σ ρ g → Same S g.S → κ.bk ρ → D.bk σ H
  ct : ∀ σ H g ρ, GOk K g H → Rep K g σ ρ → FrOk Z σ ρ g → Same S g.S → κ.ct ρ → D.ct σ H
  rl : ∀ p xs σ H g ρ ds, GOk K g H → Rep K g σ ρ → FrOk Z σ ρ g → Same S g.S → H p = some (.lst xs) → g.S p = none → g.M p = none → RpAll K g.S xs ds → κ.rl ds ρ → D.rt (V.ref p) H
theorem KOk.mono {K : PySem.W.Frag} {Z : Fx} {S S' : Hp} {κ : KD} {D : Ends} (h : KOk K Z S κ D) (e : Same S S') : KOk K Z S' κ D :=
  ⟨fun σ H g ρ k r f s => h.nx σ H g ρ k r f (e.trans s), fun v σ H g ρ d k r f s => h.rt v σ H g ρ d k r f (e.trans s), fun σ H g ρ k r f s => h.bk σ H g ρ k r f (e.trans s), fun σ H g ρ k r f s => h.ct σ H g ρ k r f (e.trans s), fun p xs σ H g ρ ds k r f s => h.rl p xs σ H g ρ ds k r f (e.trans s)⟩
def RS (K : PySem.W.Frag) (Z : Fx) (t : TS) (ρ : List Sl) (κ : KD) : Prop :=
  ∀ (σ : L2.St) (H : Hp) (g : G) (D : Ends), GOk K g H → Rep K g σ ρ → FrOk Z σ ρ g → KOk K Z g.S κ D → t D σ H
theorem FrOk.ext {Z : Fx} {σ : L2.St} {ρ ρ' : List Sl} {g g' : G} (f : FrOk Z σ ρ g) (e : Ext σ ρ ρ' g g') : FrOk Z σ ρ' g' := by
  refine ⟨f.st.trans e.st, fun p ds h1 h2 => e.mu p ds (f.mu p ds h1 h2) fun z => ?_, fun p h => f.ow p (e.ow p h)⟩
  rcases f.ow p z with q | q
  · exact h1 q
  · rw [q] at h2; cases h2
end DL
namespace DL
open PySem PySem.Spec PyProof.Rows L2
/-! ### targets -/
/-! ### what is walked -/
section
variable {X : Cx} {ρ ρ1 ρ2 : List Sl} {d : Dt} {ds es' : List Dt} {pos : Pos} {e e2 tg : Expr}
/-- lo, lo + 1, .. -/
def rng (lo : Int) (n : Nat) : List Int := (List.range n).map fun (k : Nat) => lo + (k : Int)
theorem rng_get {lo : Int} {n j : Nat} {d : Dt} (h : ((rng lo n).map Dt.int)[j]? = some d) : j < n ∧ d = .int (lo + (j : Int)) := by
  unfold rng at h
  rw [List.getElem?_map, List.getElem?_map] at h
  by_cases hj : j < n
  · rw [List.getElem?_range hj] at h
    cases h
    exact ⟨hj, rfl⟩
  · rw [List.getElem?_eq_none (by rw [List.length_range]; omega)] at h
    cases h
theorem rng_length (lo : Int) (n : Nat) : (rng lo n).length = n := by unfold rng; rw [List.length_map, List.length_range]
/-- pairs of a number and an item -/
def enum (ds : List Dt) : List Dt := ds.mapIdx fun j d => .tup [.int (j : Int), d]
theorem enum_get {j : Nat} {d : Dt} (h : (enum ds)[j]? = some d) : ∃ x, ds[j]? = some x ∧ d = .tup [.int (j : Int), x] := by
  unfold enum at h
  rw [List.getElem?_mapIdx] at h
  cases e : ds[j]? with
  | none => rw [e] at h; cases h
  | some x =>
    rw [e] at h
    cases h
    exact ⟨x, rfl, rfl⟩
theorem enum_length : (enum ds).length = ds.length := by unfold enum; rw [List.length_mapIdx]
def zip2 (ds es : List Dt) : List Dt := List.zipWith (fun x y => Dt.tup [x, y]) ds es
theorem zip2_get {es : List Dt} {j : Nat} {d : Dt} (h : (zip2 ds es)[j]? = some d) : ∃ x y, ds[j]? = some x ∧ es[j]? = some y ∧ d = .tup [x, y] := by
  unfold zip2 at h
  rw [List.getElem?_zipWith] at h
  cases e : ds[j]? with
  | none => rw [e] at h; cases h
  | some x =>
    cases e' : es[j]? with
    | none => rw [e, e'] at h; cases h
    | some y =>
      rw [e, e'] at h
      cases h
      exact ⟨x, y, rfl, rfl, rfl⟩
/-! ### for -/
end
end DL
namespace DL
open PySem PySem.Spec PyProof.Rows L2
/-! ### comprehensions -/
abbrev blkX (X : Cx) (scope : Scope) (s : Shared) (H : Hp) (C : Addr) (cl : List (Str × Addr)) (fp : List Addr) : Cx := X.blk s H scope (compEnvC scope cl C X.env) fp
section
variable {K : PySem.W.Frag} {g g' : G} {σ σ' : L2.St} {ρ : List Sl}
theorem wipe_in {i : Nat} : ∀ {vs : List Nat}, i ∈ vs → (wipe σ vs)[i]? = if i < σ.length then some none else none
  | [], h => by cases h
  | v :: vs, h => by
    unfold wipe
    by_cases hi : v = i
    · subst hi
      by_cases hl : v < σ.length
      · rw [if_pos hl, List.getElem?_set_self (by rw [wipe_length]; exact hl)]
      · rw [if_neg hl, List.getElem?_eq_none (by rw [List.length_set, wipe_length]; omega)]
    · rw [List.getElem?_set_ne hi]
      rcases List.mem_cons.mp h with z | z
      · exact absurd z.symm hi
      · exact wipe_in z
theorem wipe_eq {vs : List Nat} (hl : σ'.length = σ.length) (h : ∀ j, j ∉ vs → σ'[j]? = (wipe σ vs)[j]?) : wipe σ' vs = wipe σ vs := by
  refine List.ext_getElem? fun j => ?_
  by_cases hj : j ∈ vs
  · rw [wipe_in hj, wipe_in hj, hl]
  · rw [wipe_out hj, h j hj]
end
end DL
namespace DL
open PySem PySem.Spec PyProof.Rows L2
section
variable {X : Cx} {ρ ρ1 ρ2 ρ3 : List Sl} {e e2 : Expr} {es : List Expr} {d z : Dt} {ds : List Dt} {pos p : Pos} {id T : String} {x : Str} {r : List V → Hp → VK → Prop}
/-! ### built-ins by name -/
def b2n (b : Bool) : Int := if b then 1 else 0
/-! ### lists: slices, +, * -/
def cutD (ds : List Dt) (lo hi : Option Int) : List Dt := (ds.drop (HT.sIx ds.length 0 lo)).take (HT.sIx ds.length ds.length hi - HT.sIx ds.length 0 lo)
theorem cut_rp {K : PySem.W.Frag} {S : Hp} {xs : List V} {lo hi : Option Int} (r : RpAll K S xs ds) : RpAll K S (cutV xs lo hi) (cutD ds lo hi) := by
  unfold cutV cutD
  rw [r.len]
  exact (r.drop _).take _
/-- xs + ys, any lists that stand -/
def rCatX (K : PySem.W.Frag) : R2 := fun x y H Q => ∃ l b xs zs, x = V.ref l ∧ y = V.ref b ∧ SqX K H l xs ∧ SqX K H b zs ∧ xs.length + zs.length ≤ sizeLine ∧ ∀ p, H p = none → Q (V.ref p) (upd H p (.lst (xs ++ zs)))
theorem op_catX : OpR X (binaryOp .Add) (rCatX X.K) := by
  intro pins s σ H x y v u Q I rx ry h
  obtain ⟨l, b, xs, zs, rfl, rfl, hl, hb, hz, q⟩ := h
  cases rx
  cases ry
  obtain ⟨its, n, r1, z1, o1⟩ := SqX.obj I hl
  obtain ⟨its', n', r2, z2, o2⟩ := SqX.obj I hb
  have c1 := r1.length
  have c2 := r2.length
  have en : (its.toArray ++ its'.toArray) = (its ++ its').toArray := by simp
  refine PySem.P.add_list o1 o2 ?_ (by rw [List.size_toArray, List.size_toArray, ← c1, ← c2]; exact hz)
  rw [en]
  exact ⟨V.ref _, _, I.lnew (t' := s.toks) (Vals.append r1 r2) (by rw [List.length_append]; exact hz), rfl, q _ I.fresh⟩
/-! ### repr -/
def rRepr (K : PySem.W.Frag) : List V → Hp → VK → Prop := fun xs H Q => ∃ a d, xs = [V.ref a] ∧ Dp K H (V.ref a) d ∧ d.showable = true ∧ d.depth ≤ 100 ∧ d.shown.length ≤ sizeLine ∧ Q (.str d.shown) H
mutual
theorem Dp.noDict {K : PySem.W.Frag} {H : Hp} : ∀ {v : V} {d : PyData}, Dp K H v d → d.hasDict = false
  | _, _, .non => by simp [PyData.hasDict]
  | _, _, .bl _ => by simp [PyData.hasDict]
  | _, _, .int _ => by simp [PyData.hasDict]
  | _, _, .str _ => by simp [PyData.hasDict]
  | _, _, .lst _ h => by simp [PyData.hasDict, DpAll.noDict h]
  | _, _, .tup _ h => by simp [PyData.hasDict, DpAll.noDict h]
theorem DpAll.noDict {K : PySem.W.Frag} {H : Hp} : ∀ {v : List V} {d : List PyData}, DpAll K H v d → PyData.hasDictAll d = false
  | _, _, .nil => by simp [PyData.hasDictAll]
  | _, _, .cons h t => by simp [PyData.hasDictAll, Dp.noDict h, DpAll.noDict t]
end
theorem cr_repr {k : Nat} (hgd : X.A.guards = some []) (hr : Room k X.A) : CallR X (.builtin "repr") (rRepr X.K) := by
  intro pins s σ H xs us Q I r h
  obtain ⟨a, d, rfl, hd, h1, h2, h3, q⟩ := h
  obtain ⟨u, rfl, ru⟩ := vals1 r
  cases ru
  obtain ⟨as, rd⟩ := Dp.reads I d (V.ref a) (Value.ref a) hd rfl
  refine repr_of_reads' rd h1 (fun h' => by rw [Dp.noDict hd] at h'; cases h') hgd (by have := hr.un; omega) (fun b o e => e) (fun h' t tk kp => ?_) h3
  exact ⟨.str d.shown, H, I.kept kp, ⟨t, rfl⟩, q⟩
def Dt.text (d : Dt) : Str := d.py.shown
def Dt.fits (d : Dt) : Bool := d.plain && d.py.showable && decide (d.py.depth ≤ 100) && decide (d.py.shown.length ≤ sizeLine)
/-! ### == of data -/
end
end DL
namespace DL
open PySem PySem.Spec PyProof.Rows L2
/-! ### a def by its body -/
section
variable {P : Program} {w : World} {K : PySem.W.Frag} {mg : Str → Option Value} {base : Heap}
/-- over readings -/
theorem fnG_of {k : Nat} {f : Addr} {x qual : Str} {st : Stmt} {fd : FuncData} {N ps : List Str} {sp : Sp} (F : Fun K x qual st f fd) (S : FnScope N ps (defScope st)) (len : ∀ vs H Q E, sp vs H Q E → vs.length = ps.length)
    (hbody : ∀ (cdv : Value) (A : Around) (outer : List Env) (s : Shared) (H : Hp) (vs : List V) (Q : VK) (E : XK), (A.deeper (envOfC qual (defScope st) s.heap.objs.size f cdv)).guards = some [] → Room k (A.deeper (envOfC qual (defScope st) s.heap.objs.size f cdv)) → sp vs H Q E →
      ∃ t, PSs (cxOf (L2N.CX P w) P w K mg base N qual (defScope st) f cdv A outer s H E) (defBody st) t ∧ t { nx := fun _ H' => Q V.non H', rt := Q } (start N vs) H) : FnG P w K mg base (k + 1) f fd ps sp := by
  obtain ⟨oc, od, kV, doc, pm, an, cdv, ct, osl, rfl, lk, hcd⟩ := F.ex
  refine ⟨len, fun A outer s H args us vs Q E hgd hr e0 hb rv hsp => ?_⟩
  have inK : K.In s.heap := e0.mod.kin.keeps fun b o e => (e0.bs b o e).1
  have lim : s.heap.NoLimit := e0.mod.nolimit.keeps fun b o e => (e0.bs b o e).1
  have places : ∀ y ∈ ps.zip us, (defScope st).names.lookup y.1 = some .local ∨ ((defScope st).names.lookup y.1 = some .cell ∧ ((cellsFrom (s.heap.objs.size + 1) (defScope st).names []).lookup y.1).isSome = true) := by
    rintro ⟨n, v⟩ hy
    rcases S.par n (List.of_mem_zip hy).1 with q | q
    · exact Or.inl q
    · exact Or.inr ⟨q, PySem.W.cellsFrom_some _ _ _ (Or.inl q)⟩
  refine codeAny_call_function hr.depth (inK _ _ lk) rfl S.co S.gen rfl (PySem.W.codeRec_of inK hcd) (hb _ _ _ _ (wpAny_newFunctionEnv_cells S.kind places fun env he s1 xc => ?_))
  subst he
  refine ⟨lim.keeps xc.toInCall.keep, codeAny_func ?_⟩
  obtain ⟨t, ht, hq⟩ := hbody cdv A outer s H vs Q E hgd (hr.deeper _) hsp
  have I := inv_start (CX := L2N.CX P w) (E := E) S hr.hd e0 (len _ _ _ _ hsp) rv xc
  refine wpAny_mono (ht.run [] s1 (start N vs) H _ I hq) (fun fl s' hs => ?_) fun _ _ z => z
  cases fl with
  | ret u =>
    obtain ⟨v, σ', H', J, r', q⟩ := hs
    exact ⟨v, H', J.os, J.bare, J.base, J.hok, r', q⟩
  | next =>
    obtain ⟨σ', H', J, q⟩ := hs
    exact ⟨V.non, H', J.os, J.bare, J.base, J.hok, rfl, q⟩
  | brk =>
    obtain ⟨_, _, _, z⟩ := hs
    cases z
  | cont =>
    obtain ⟨_, _, _, z⟩ := hs
    cases z
end
/-! ### the law -/
theorem sqx_script {K : PySem.W.Frag} {h : Heap} {a : Addr} {vs : List Value} {ns : List Int} (X : K.In h) (ha : h.get? a = some { cls := .type "list", data := .seq vs.toArray }) (hi : IntsAre vs ns) (hl : ns.length ≤ sizeLine) {o : Obj} (hk : K.lookup a = some o) :
    K.lookup a = some { cls := .type "list", data := .seq vs.toArray } := by
  have e := X a o hk
  rw [ha] at e
  rw [hk, e]
/-- the law's def keeps its promise: so the law holds. As the layer's own end, for defs that run where nothing is being shown -/
theorem law_g {P : Program} {w : World} {K : PySem.W.Frag} {mg mb : Str → Option Value} {k : Nat} {fa a : Addr} {fd : FuncData} {x : Str} {R : List Dt → Res → Prop} {s₁ : Shared} {vs : List Value} {ns : List Int}
    (inK : K.In s₁.heap) (hns : s₁.heap.Ns mainGlobals mg) (hb : s₁.heap.Ns builtinsNs mb) (hbb : ∀ y : Str, y ≠ "__name__" → mb y = bootBuiltins y) (hlim : s₁.heap.NoLimit) (hg : s₁.gens = #[])
    (ha : s₁.heap.get? a = some { cls := .type "list", data := .seq vs.toArray }) (hi : IntsAre vs ns) (hl : ns.length ≤ sizeLine) (hr : Room k callerA)
    (F : ∀ base : Heap, K.In base → base.Ns mainGlobals mg → FnG P w K mg base k fa fd [x] (spD K 1 R)) (hbind : ∀ (s : Shared) (u : Value), BindsTo s fd ⟨[u], []⟩ [(x, u)]) (hR : R [.lst (ns.map Dt.int)] (.ret (.bl true))) :
    codeAny (model P w) callerA (.call (.ref fa) ⟨[.ref a], []⟩) (fun r s' => r = .ok (.ret (.bool true)) ∧ OldK s₁.heap s'.heap ∧ s'.os = s₁.os ∧ AllBare s'.gens) s₁ := by
  let lo : HO := .frz { cls := .type "list", data := .seq vs.toArray } (.lst (ns.map V.int))
  -- what is tracked: the script, where it is no object of the module
  obtain ⟨H, hH⟩ : ∃ H : Hp, H = fun b => if b = a ∧ K.lookup a = none then some lo else none := ⟨_, rfl⟩
  have at_ : ∀ b o, H b = some o → b = a ∧ K.lookup a = none ∧ o = lo := fun b o e => by
    rw [hH] at e
    by_cases q : b = a ∧ K.lookup a = none
    · have e' := (if_pos q).symm.trans e
      cases e'
      exact ⟨q.1, q.2, rfl⟩
    · have e' := (if_neg q).symm.trans e
      cases e'
  have rv := vals_ints hi
  have ok : HOk P w H s₁.heap := fun b o e => by
    obtain ⟨rfl, _, rfl⟩ := at_ b o e
    exact ⟨ha, by rw [List.length_map]; exact hl, vs, 0, rv, ha⟩
  have stays : ∀ {b : Addr} {o : Obj}, s₁.heap.get? b = some o → H b = none → (hidT s₁.heap H).get? b = some o := fun e n => hidT_get e n
  have noD : ∀ {b : Addr} {o : Obj} {es : Array DictEntry} {ep : Nat}, s₁.heap.get? b = some o → o.data = .dict es ep → H b = none := fun {b o es ep} e d => by
    cases q : H b with
    | none => rfl
    | some u =>
      obtain ⟨rfl, _, _⟩ := at_ b u q
      rw [ha] at e
      cases e
      cases d
  have space : ∀ {b : Addr} {m : Str → Option Value}, s₁.heap.Ns b m → (hidT s₁.heap H).Ns b m := fun {b m} z => by
    obtain ⟨o, es, ep, e, d, r⟩ := z
    exact ⟨o, es, ep, stays e (noD e d), d, r⟩
  have inB : K.In (hidT s₁.heap H) := fun b o e => stays (inK b o e) (by
    cases q : H b with
    | none => rfl
    | some u =>
      obtain ⟨rfl, z, _⟩ := at_ b u q
      rw [z] at e
      cases e)
  have hM : Mod K mg (hidT s₁.heap H) := ⟨inB, space hns, ⟨mb, space hb, hbb⟩, by obtain ⟨mc, h1, h2⟩ := hlim; exact ⟨mc, space h1, h2⟩⟩
  have e0 : Env0 P w K mg (hidT s₁.heap H) callerA [] s₁ H := ⟨rfl, hM, fun b o e => of_hidT e, Nat.le_of_eq (hidT_size _ _), trivial, fun b z => absurd (show b ∈ ([] : List Addr) from z) (by simp), ok, .of_eq hg⟩
  have sq : SqX K H a (ns.map V.int) := by
    cases hk : K.lookup a with
    | some o => exact .inr ⟨vs.toArray, 0, sqx_script inK ha hi hl hk, by rw [List.size_toArray, hi.length]; exact hl, by simpa using rv⟩
    | none => exact .inl (.inr ⟨_, by rw [hH]; exact if_pos ⟨rfl, hk⟩⟩)
  have sp : spD K 1 R [V.ref a] H (fun v _ => v = V.bl true) fun _ _ _ => False := ⟨⟨H, fun _ => none⟩, [.lst (ns.map Dt.int)], .ret (.bl true), rfl, ⟨fun _ _ e => e, fun _ _ e => by cases e⟩, .cons (.lst sq (RpAll.of_ints ns)) .nil, hR, fun v H' g' k' gr rd => by cases rd; rfl⟩
  refine codeAny_mono ((F _ inB (space hns)).go callerA [] s₁ H ⟨[.ref a], []⟩ [.ref a] [V.ref a] _ _ rfl hr e0 (hbind s₁ (.ref a)) (.cons rfl .nil) sp) fun r s' h => ?_
  cases r with
  | error e =>
    have h' : L2N.CX P w [] H s₁ (fun _ _ _ => False) e s' := h
    obtain ⟨_, _, _, _, _, _, _, _, _, _, _, _, z⟩ := h'
    cases z
  | ok fl =>
    cases fl with
    | next => cases h
    | brk => cases h
    | cont => cases h
    | ret u =>
      obtain ⟨v, H', os, bare, un, hok', r', q⟩ := h
      obtain rfl : v = V.bl true := q
      obtain rfl : u = Value.bool true := r'
      refine ⟨rfl, OldK.of_keep fun b o e => ?_, os, bare⟩
      cases q : H b with
      | none => exact un.keep b o e q (fun z => absurd (show b ∈ ([] : List Addr) from z) (by simp)) (by simp)
      | some u =>
        obtain ⟨_, _, rfl⟩ := at_ b u q
        obtain ⟨e1, _⟩ := ok b _ q
        obtain ⟨e2, _⟩ := hok' b _ (un.frzs b _ _ q)
        rw [e] at e1
        cases e1
        exact e2
theorem walk_g {l : PySem.W.OpenLaw} {n k : Nat} {q : Program} {loose : List Str} {XP : (Str → Option Value) → Heap → Prop} {YP : World → Heap → Prop} {d : DefRec} {K : Params → PySem.W.Frag} {x : Str} {R : List Dt → Res → Prop}
    (hn : l.most = some n) (hn2 : n ≤ sizeLine) (hdf : d.params.defaults = []) (hr : Room k callerA) (hY : ∀ (w : World) (h : Heap), YP w h → (K w.params).In h)
    (F : ∀ (w : World) (mg : Str → Option Value) (fa : Addr) (h : Heap), (K w.params).In h → h.Ns mainGlobals mg → mg d.name = some (.ref fa) →
      ∃ fd : FuncData, (∀ (s : Shared) (u : Value), BindsTo s fd ⟨[u], []⟩ [(x, u)]) ∧ ∀ base : Heap, (K w.params).In base → base.Ns mainGlobals mg → FnG l.prog w (K w.params) mg base k fa fd [x] (spD (K w.params) 1 R))
    (hR : ∀ ns : List Int, ns.length ≤ n → R [.lst (ns.map Dt.int)] (.ret (.bl true))) : PySem.W.WalkO q loose XP YP l.row.toRowW d [] (fun f vs => PySem.call f vs) := by
  refine Att.attach_call hn hdf fun w s₀ s₁ mg mb fa o pm cd doc a vs ns G Y ho hd hcd hmg hobj hints hlen hg => ?_
  have inK := hY w _ Y
  obtain ⟨fd, hb, hF⟩ := F w mg fa _ inK G.T.g hmg
  exact law_g inK G.T.g G.T.b G.T.builtins G.T.nolimit hg hobj hints (Nat.le_trans hlen hn2) hr hF hb (hR ns hlen)
end DL
namespace DL
open PySem PySem.Spec PyProof.Rows L2
/-! ### isinstance -/
def Dt.ty : Dt → String
  | .non => "NoneType"
  | .bl _ => "bool"
  | .int _ => "int"
  | .str _ => "str"
  | .lst _ => "list"
  | .tup _ => "tuple"
  | .opq _ => ""
  | .emp => "dict"
theorem tyB {b : Bool} : (Dt.bl b).ty ≠ "" := (show ("bool" : String) ≠ "" by decide)
theorem tyI {i : Int} : (Dt.int i).ty ≠ "" := (show ("int" : String) ≠ "" by decide)
theorem tyL {ds : List Dt} : (Dt.lst ds).ty ≠ "" := (show ("list" : String) ≠ "" by decide)
theorem tyT {ds : List Dt} : (Dt.tup ds).ty ≠ "" := (show ("tuple" : String) ≠ "" by decide)
theorem tyx_list {K : PySem.W.Frag} {H : Hp} {a : Addr} {xs : List V} (h : SqX K H a xs) : TyX K H (V.ref a) (.type "list") := by
  rcases h with (h | ⟨o, h⟩) | ⟨its, n, h, _⟩
  · exact .base (.lst h)
  · exact .base (.frz h)
  · exact .kList h rfl
theorem tyx_tup {K : PySem.W.Frag} {H : Hp} {a : Addr} {xs : List V} (h : SqT K H a xs) : TyX K H (V.ref a) (.type "tuple") := by
  rcases h with (h | ⟨o, h⟩) | ⟨o, its, n, h, c, _⟩
  · exact .base (.tup h)
  · exact .fTuple h
  · exact .kTuple h c
theorem Rp.tyx {K : PySem.W.Frag} {S H : Hp} {v : V} {d : Dt} (e : Same S H) (h : Rp K S v d) (n : d.ty ≠ "") : TyX K H v (.type d.ty) := by
  cases h with
  | non => exact .base .non
  | bl b => exact .base (.bl b)
  | int i => exact .base (.int i)
  | str x => exact .base (.str x)
  | lst h1 _ => exact tyx_list (sqx_mono e h1)
  | tup h1 _ => exact tyx_tup (sqt_mono e h1)
  | opq a => exact absurd rfl n
  | emp h1 =>
    rcases h1 with h1 | ⟨o, h1⟩
    · exact .base (.dK (e _ _ h1))
    · exact .fDict (e _ _ h1)
/-- which of its classes a piece of data is an instance of -/
def Dt.isInt : Dt → Bool
  | .int _ => true
  | .bl _ => true
  | _ => false
def Dt.isBool : Dt → Bool
  | .bl _ => true
  | _ => false
def Dt.isLst : Dt → Bool
  | .lst _ => true
  | _ => false
def Dt.isTup : Dt → Bool
  | .tup _ => true
  | _ => false
theorem kit_isInt (d : Dt) (n : d.ty ≠ "") : kitB d.ty "int" = some d.isInt := by
  cases d with
  | non => exact (show kitB "NoneType" "int" = some false by decide +kernel)
  | bl _ => exact (show kitB "bool" "int" = some true by decide +kernel)
  | int _ => exact (show kitB "int" "int" = some true by decide +kernel)
  | str _ => exact (show kitB "str" "int" = some false by decide +kernel)
  | lst _ => exact (show kitB "list" "int" = some false by decide +kernel)
  | tup _ => exact (show kitB "tuple" "int" = some false by decide +kernel)
  | opq _ => exact absurd rfl n
  | emp => exact (show kitB "dict" "int" = some false by decide +kernel)
theorem kit_isBool (d : Dt) (n : d.ty ≠ "") : kitB d.ty "bool" = some d.isBool := by
  cases d with
  | non => exact (show kitB "NoneType" "bool" = some false by decide +kernel)
  | bl _ => exact (show kitB "bool" "bool" = some true by decide +kernel)
  | int _ => exact (show kitB "int" "bool" = some false by decide +kernel)
  | str _ => exact (show kitB "str" "bool" = some false by decide +kernel)
  | lst _ => exact (show kitB "list" "bool" = some false by decide +kernel)
  | tup _ => exact (show kitB "tuple" "bool" = some false by decide +kernel)
  | opq _ => exact absurd rfl n
  | emp => exact (show kitB "dict" "bool" = some false by decide +kernel)
theorem kit_isLst (d : Dt) (n : d.ty ≠ "") : kitB d.ty "list" = some d.isLst := by
  cases d with
  | non => exact (show kitB "NoneType" "list" = some false by decide +kernel)
  | bl _ => exact (show kitB "bool" "list" = some false by decide +kernel)
  | int _ => exact (show kitB "int" "list" = some false by decide +kernel)
  | str _ => exact (show kitB "str" "list" = some false by decide +kernel)
  | lst _ => exact (show kitB "list" "list" = some true by decide +kernel)
  | tup _ => exact (show kitB "tuple" "list" = some false by decide +kernel)
  | opq _ => exact absurd rfl n
  | emp => exact (show kitB "dict" "list" = some false by decide +kernel)
/-! ### a def where it stands, with all that a call of it asks -/
structure FnAt (P : Program) (w : World) (K : PySem.W.Frag) (mg : Str → Option Value) (base : Heap) (x : Str) (st : Stmt) (k : Nat) (ps : List Str) (sp : Sp) : Prop where
  it : ∃ (f : Addr) (fd : FuncData), mg x = some (.ref f) ∧ Fun K x x st f fd ∧ Binds K fd ps [] ∧ FnG P w K mg base k f fd ps sp
/-- a list's items at some places -/
def perm {α : Type} (π : List Nat) (l : List α) : List α := π.filterMap fun i => l[i]?
theorem perm_vals {vs : List V} {us : List Value} (r : Vals vs us) : ∀ π : List Nat, Vals (perm π vs) (perm π us)
  | [] => .nil
  | i :: π => by
    have ih := perm_vals r π
    unfold perm at ih ⊢
    rw [List.filterMap_cons, List.filterMap_cons]
    cases e : vs[i]? with
    | none =>
      rw [Vals.none_of r e]
      exact ih
    | some x =>
      obtain ⟨u, e2, r2⟩ := Vals.get r e
      rw [e2]
      exact .cons r2 ih
theorem perm_rp {K : PySem.W.Frag} {S : Hp} {vs : List V} {us : List Dt} (r : RpAll K S vs us) : ∀ π : List Nat, RpAll K S (perm π vs) (perm π us)
  | [] => .nil
  | i :: π => by
    have ih := perm_rp r π
    unfold perm at ih ⊢
    rw [List.filterMap_cons, List.filterMap_cons]
    cases e : vs[i]? with
    | none =>
      have z : us[i]? = none := by
        rw [List.getElem?_eq_none_iff] at e ⊢
        rw [← r.len]
        exact e
      rw [z]
      exact ih
    | some x =>
      obtain ⟨u, e2, r2⟩ := r.atV e
      rw [e2]
      exact .cons r2 ih
end DL
namespace DL
open PySem PySem.Spec PyProof.Rows L2
/-! ### bounds on ints, by powers of two -/
def Bd (n : Nat) (i : Int) : Prop := i.natAbs < 2 ^ n
section
variable {a b n : Nat} {i j : Int}
theorem Bd.up (h : Bd a i) (hab : a ≤ b) : Bd b i := Nat.lt_of_lt_of_le h (Nat.pow_le_pow_right (by decide) hab)
theorem Bd.neg (h : Bd a i) : Bd a (-i) := by unfold Bd at *; rw [Int.natAbs_neg]; exact h
theorem two_pow_succ' (n : Nat) : 2 ^ (n + 1) = 2 ^ n + 2 ^ n := by rw [Nat.pow_succ]; omega
theorem Bd.add (h : Bd a i) (h' : Bd b j) : Bd (max a b + 1) (i + j) := by
  have h1 : i.natAbs < 2 ^ (max a b) := h.up (Nat.le_max_left a b)
  have h2 : j.natAbs < 2 ^ (max a b) := h'.up (Nat.le_max_right a b)
  unfold Bd
  rw [two_pow_succ']
  omega
theorem Bd.sub (h : Bd a i) (h' : Bd b j) : Bd (max a b + 1) (i - j) := by
  rw [Int.sub_eq_add_neg]
  exact h.add h'.neg
theorem Bd.le (h : Bd a j) (h1 : i.natAbs ≤ j.natAbs) : Bd a i := Nat.lt_of_le_of_lt h1 h
theorem Bd.mod (h : Bd b j) (hj : 0 < j) : Bd b (i % j) := by
  have h1 := Int.emod_nonneg i (show j ≠ 0 by omega)
  have h2 := Int.emod_lt_of_pos i hj
  unfold Bd at *
  omega
theorem Bd.max (h : Bd a i) (h' : Bd b j) : Bd (Nat.max a b) (max i j) := by
  by_cases q : i ≤ j
  · rw [Int.max_eq_right q]; exact h'.up (Nat.le_max_right a b)
  · rw [Int.max_eq_left (by omega)]; exact h.up (Nat.le_max_left a b)
theorem Bd.min (h : Bd a i) (h' : Bd b j) : Bd (Nat.max a b) (min i j) := by
  by_cases q : i ≤ j
  · rw [Int.min_eq_left q]; exact h.up (Nat.le_max_left a b)
  · rw [Int.min_eq_right (by omega)]; exact h'.up (Nat.le_max_right a b)
theorem Bd.b2n (k : Bool) : Bd 1 (b2n k) := by
  cases k with
  | true => exact (show (1 : Nat) < 2 ^ 1 by decide)
  | false => exact (show (0 : Nat) < 2 ^ 1 by decide)
theorem Bd.len {α : Type} {l : List α} (h : l.length ≤ 1000000) : Bd 20 (l.length : Int) := by
  unfold Bd
  omega
theorem Bd.log (h : Bd a i) : i.natAbs.log2 ≤ a := by
  have q : i.natAbs < 2 ^ (a + 1) := Nat.lt_trans h (Nat.pow_lt_pow_right (by decide) (by omega))
  have z := PySem.Flt.log2_lt_of (by omega) q
  omega
theorem bd_pow (h : Bd a i) (hj : 0 ≤ j) (hb : ((a + 1 : Nat) : Int) * j ≤ 2 ^ 27) : CPowD i j := by
  refine ⟨hj, ?_⟩
  have e : Builtin.Int.intBits i ≤ a + 1 := by
    have := h.log
    unfold Builtin.Int.intBits
    split <;> omega
  refine Int.le_trans (Int.mul_le_mul_of_nonneg_right ?_ hj) hb
  omega
end
/-! ### the module's ints -/
/-! ### least of three -/
section
variable {X : Cx} {ρ ρ1 : List Sl} {e e2 e3 : Expr} {pos p : Pos} {i j l : Int}
theorem vals_3 {x y z : V} {us : List Value} (r : Vals [x, y, z] us) : ∃ a b c, us = [a, b, c] ∧ RelV x a ∧ RelV y b ∧ RelV z c := by
  cases r with
  | cons r1 r =>
    cases r with
    | cons r2 r =>
      cases r with
      | cons r3 r =>
        cases r
        exact ⟨_, _, _, rfl, r1, r2, r3⟩
theorem call_min3 (hc : X.calm = true) : CallR X (.builtin "min") (fun xs H Q => ∃ i j l, xs = [V.int i, V.int j, V.int l] ∧ Q (.int (min i (min j l))) H) := by
  intro pins s σ H xs us Q I r h
  obtain ⟨i, j, l, rfl, q⟩ := h
  obtain ⟨a, b, c, rfl, ⟨t1, rfl⟩, ⟨t2, rfl⟩, ⟨t3, rfl⟩⟩ := vals_3 r
  refine min_three_ints (I.ok.hd hc) fun h' tk k => ⟨_, H, I.kept k, ?_, q⟩
  by_cases h1 : j < i
  · by_cases h2 : l < j
    · rw [if_pos h1, if_pos h2, show min i (min j l) = l by omega]
      exact ⟨t3, rfl⟩
    · rw [if_pos h1, if_neg h2, show min i (min j l) = j by omega]
      exact ⟨t2, rfl⟩
  · by_cases h3 : l < i
    · rw [if_neg h1, if_pos h3, show min i (min j l) = l by omega]
      exact ⟨t3, rfl⟩
    · rw [if_neg h1, if_neg h3, show min i (min j l) = i by omega]
      exact ⟨t1, rfl⟩
end
end DL
/-! what the program's and the laws' common defs compute -/
namespace Ev
open PySem L2 DL
/-- an int that is no bool, between two bounds -/
def hiOk (hi : Option Int) (i : Int) : Bool := match hi with
  | none => true
  | some h => decide (i ≤ h)
def isInt (d : Dt) (lo : Int) (hi : Option Int) : Bool := match d with
  | .int i => decide (lo ≤ i) && hiOk hi i
  | _ => false
abbrev MP : Int := 10 ^ 30 - 1
structure LoadOk (p q : Int) (ss : List Int) : Prop where
  p1 : 1 ≤ p
  p2 : p ≤ 12
  q1 : 1 ≤ q
  q2 : q ≤ MP
  l1 : 1 ≤ ss.length
  l2 : ss.length ≤ 12
  sh : ∀ s ∈ ss, 1 ≤ s ∧ s ≤ q
  sm : ss.sum ≤ p * q
theorem LoadOk.bq {p q : Int} {ss : List Int} (h : LoadOk p q ss) : Bd 110 q := by
  have h1 := h.q1
  have h2 := h.q2
  unfold Bd
  show q.natAbs < 2 ^ 110
  have e : (2 : Nat) ^ 110 = 1298074214633706907132624082305024 := by decide
  rw [e]
  unfold MP at h2
  omega
theorem LoadOk.bs {p q : Int} {ss : List Int} (h : LoadOk p q ss) {s : Int} (hs : s ∈ ss) : Bd 110 s := by
  have h1 := h.sh s hs
  refine h.bq.le ?_
  omega
/-! ### the source of drawn numbers -/
structure Src where
  a : Int
  b : Int
  c : Int
structure Src.Ok (n : Nat) (s : Src) : Prop where
  a0 : 0 ≤ s.a
  b0 : Bd 200 s.b
  c0 : 0 ≤ s.c
  cn : s.c ≤ (n : Int)
def mix1 (s : Src) : Int := (s.b + 800011 * (s.c + 1)) ^ 3 % (10 ^ 37 + 43)
def mix2 (s : Src) : Int := (mix1 s * (s.c + 1) + 70001) ^ 3 % (10 ^ 39 + 3)
/-- a drawn number below n, and the source behind it -/
def draw (s : Src) (n : Int) : Int × Src := if 0 < s.a then (s.a % n, { s with a := s.a / n }) else (mix2 s / 65521 % n, { s with c := s.c + 1 })
theorem draw_lo (s : Src) {n : Int} (h : 0 < n) : 0 ≤ (draw s n).1 := by
  unfold draw
  split
  · exact Int.emod_nonneg _ (by omega)
  · exact Int.emod_nonneg _ (by omega)
theorem draw_hi (s : Src) {n : Int} (h : 0 < n) : (draw s n).1 < n := by
  unfold draw
  split
  · exact Int.emod_lt_of_pos _ h
  · exact Int.emod_lt_of_pos _ h
theorem draw_ok {s : Src} {m : Nat} {n : Int} (k : s.Ok m) (h : 0 < n) : (draw s n).2.Ok (m + 1) := by
  have h1 := k.a0
  have h2 := k.c0
  have h3 := k.cn
  unfold draw
  split
  · exact ⟨Int.ediv_nonneg h1 (by omega), k.b0, h2, by show s.c ≤ _; omega⟩
  · exact ⟨h1, k.b0, by show 0 ≤ s.c + 1; omega, by show s.c + 1 ≤ _; omega⟩
theorem Src.Ok.up {s : Src} {m n : Nat} (k : s.Ok m) (h : m ≤ n) : s.Ok n := ⟨k.a0, k.b0, k.c0, by have := k.cn; omega⟩
/-- the source of a cell -/
def src (cell k : Int) : Src := ⟨max 0 ((cell.natAbs : Int) - 10 ^ 18), (cell.natAbs : Int) % (10 ^ 41 + 61) * 83 + 2 * k + b2n (decide (cell < 0)), 0⟩
theorem src_ok {cell k : Int} (h0 : 0 ≤ k) (h1 : k ≤ 100) : (src cell k).Ok 0 := by
  refine ⟨by show 0 ≤ max 0 _; omega, ?_, Int.le_refl 0, Int.le_refl 0⟩
  show Bd 200 ((cell.natAbs : Int) % (10 ^ 41 + 61) * 83 + 2 * k + b2n (decide (cell < 0)))
  have a1 := Int.emod_nonneg (cell.natAbs : Int) (show (10 ^ 41 + 61 : Int) ≠ 0 by decide)
  have a2 := Int.emod_lt_of_pos (cell.natAbs : Int) (show (0 : Int) < 10 ^ 41 + 61 by decide)
  have b1 : 0 ≤ b2n (decide (cell < 0)) ∧ b2n (decide (cell < 0)) ≤ 1 := by unfold b2n; split <;> omega
  unfold Bd
  have e : (2 : Nat) ^ 200 = 1606938044258990275541962092341162602522202993782792835301376 := by decide
  rw [e]
  omega
/-! ### drawn parts with a sum -/
/-- the ends of a part, what is left and how many parts follow -/
def lowOf (far left : Int) (rest : Int) : Int := max 1 (left - far * rest)
def highOf (far left : Int) (rest : Int) : Int := min far (left - rest)
/-- m parts -/
def parts (far : Int) : Nat → Int → Src → List Int × Src
  | 0, _, s => ([], s)
  | m + 1, left, s =>
    let lo := lowOf far left m
    let x := draw s (highOf far left m - lo + 1)
    let r := parts far m (left - (lo + x.1)) x.2
    ((lo + x.1) :: r.1, r.2)
/-! ### a drawn load -/
def loadOf (s : Src) (units span most : Int) : List Int × Src :=
  let x := draw s most
  let often := min most (min (units * span) (units + x.1))
  if often < units then
    let y := draw x.2 (min units often * span - often + 1)
    parts span often.toNat (often + y.1) y.2
  else
    let z := draw x.2 3
    if z.1 = 0 then
      let y := draw z.2 (min units often * span - often + 1)
      parts span often.toNat (often + y.1) y.2
    else parts span often.toNat (units * span) z.2
end Ev
namespace DL
open PySem PySem.Spec PyProof.Rows L2
mutual
/-- data whose text fits: ints below 2 ^ 1900, no objects -/
def Dt.Sm : Dt → Prop
  | .int i => Bd 1900 i
  | .str x => (reprText x).length ≤ 10000 ∧ PyData.strOk x = true
  | .lst ds => Dt.SmA ds
  | .tup ds => Dt.SmA ds
  | .opq _ => False
  | .emp => False
  | _ => True
def Dt.SmA : List Dt → Prop
  | [] => True
  | d :: ds => Dt.Sm d ∧ Dt.SmA ds
end
mutual
/-- a bound of its text's length -/
def Dt.wt : Dt → Nat
  | .non => 4
  | .bl _ => 5
  | .int _ => 1921
  | .str _ => 10000
  | .lst ds => Dt.wtA ds + 2
  | .tup ds => Dt.wtA ds + 3
  | .opq _ => 0
  | .emp => 2
def Dt.wtA : List Dt → Nat
  | [] => 0
  | d :: ds => Dt.wt d + 2 + Dt.wtA ds
end
mutual
def Dt.dep : Dt → Nat
  | .lst ds => Dt.depA ds + 1
  | .tup ds => Dt.depA ds + 1
  | .emp => 1
  | _ => 0
def Dt.depA : List Dt → Nat
  | [] => 0
  | d :: ds => max (Dt.dep d) (Dt.depA ds)
end
theorem SmA.of : ∀ {ds : List Dt}, (∀ d ∈ ds, d.Sm) → Dt.SmA ds
  | [], _ => trivial
  | d :: ds, h => ⟨h d List.mem_cons_self, SmA.of fun x hx => h x (List.mem_cons_of_mem _ hx)⟩
theorem dep_ints : ∀ ns : List Int, Dt.depA (ns.map Dt.int) = 0
  | [] => rfl
  | n :: ns => by
    show max 0 (Dt.depA (ns.map Dt.int)) = 0
    rw [dep_ints ns]
    rfl
theorem piled_le_list (ts : List Str) : (listText ts).length ≤ piled ts + 2 := by
  cases ts with
  | nil => decide
  | cons t r =>
    have h := textFrom_length_pos r 1 (("[" : Str) ++ (if (0 : Nat) > 0 then ", " else "" : String) ++ t) (Nat.succ_pos 0)
    have e : ((("[" : Str) ++ (if (0 : Nat) > 0 then ", " else "" : String) ++ t)).length = 1 + t.length := by
      rw [strLen_append, strLen_append]
      rfl
    have e2 : (listText (t :: r)).length = (textFrom 1 (("[" : Str) ++ (if (0 : Nat) > 0 then ", " else "" : String) ++ t) r).length + 1 := by
      show (textFrom 1 _ r ++ "]").length = _
      rw [strLen_append]
      rfl
    rw [e2, h, e, piled_cons]
    omega
theorem piled_le_tup (ts : List Str) : (tupleText ts).length ≤ piled ts + 3 := by
  unfold tupleText
  rw [strLen_append, strLen_append]
  have e1 : ((("(" : String) : Str)).length = 1 := rfl
  have e3 : (((if ts.length == 1 then ",)" else ")" : String) : Str)).length ≤ 2 := by split <;> decide
  rw [e1]
  by_cases h : ts = []
  · subst h
    have z : (Str.join ", " ([] : List Str)).length = 0 := rfl
    rw [z]
    omega
  · have := join_length_add ts h
    omega
theorem sm_log {i : Int} (h : Bd 1900 i) : i.natAbs.log2 < 1920 := by
  have := h.log
  omega
theorem toStr_len {i : Int} (h : Bd 1900 i) : (PyData.shown (.int i)).length ≤ 1921 := int_text_len_1921 (sm_log h)
mutual
theorem sm_plain : ∀ d : Dt, d.Sm → d.plain = true
  | .non, _ => rfl
  | .bl _, _ => rfl
  | .int _, _ => rfl
  | .str _, _ => rfl
  | .lst ds, h => smA_plain ds h
  | .tup ds, h => smA_plain ds h
  | .opq _, h => h.elim
  | .emp, h => h.elim
theorem smA_plain : ∀ ds : List Dt, Dt.SmA ds → Dt.plainAll ds = true
  | [], _ => rfl
  | d :: ds, h => by
    show (d.plain && Dt.plainAll ds) = true
    rw [sm_plain d h.1, smA_plain ds h.2]
    rfl
end
mutual
theorem dep_py : ∀ d : Dt, d.py.depth = d.dep
  | .non => by simp [Dt.py, PyData.depth, Dt.dep]
  | .bl _ => by simp [Dt.py, PyData.depth, Dt.dep]
  | .int i => by simp [Dt.py, PyData.depth, Dt.dep]
  | .str _ => by simp [Dt.py, PyData.depth, Dt.dep]
  | .lst ds => by simp [Dt.py, PyData.depth, Dt.dep, depA_py ds]
  | .tup ds => by simp [Dt.py, PyData.depth, Dt.dep, depA_py ds]
  | .opq _ => by simp [Dt.py, PyData.depth, Dt.dep]
  | .emp => by simp [Dt.py, PyData.depth, PyData.depthKv, Dt.dep]
theorem depA_py : ∀ ds : List Dt, PyData.depthAll (Dt.pyAll ds) = Dt.depA ds
  | [] => by simp [Dt.pyAll, PyData.depthAll, Dt.depA]
  | d :: ds => by simp [Dt.pyAll, PyData.depthAll, Dt.depA, dep_py d, depA_py ds]
end
mutual
theorem sm_lay : ∀ d : Dt, d.Sm → d.py.canLay0 = true
  | .non, _ => by simp [Dt.py, PyData.canLay0]
  | .bl _, _ => by simp [Dt.py, PyData.canLay0]
  | .int i, h => by simp [Dt.py, PyData.canLay0]
  | .str x, h => by
    have h' : PyData.strOk x = true := h.2
    simp [Dt.py, PyData.canLay0, h']
  | .lst ds, h => by simp [Dt.py, PyData.canLay0, smA_lay ds h]
  | .tup ds, h => by simp [Dt.py, PyData.canLay0, smA_lay ds h]
  | .opq _, h => h.elim
  | .emp, h => h.elim
theorem smA_lay : ∀ ds : List Dt, Dt.SmA ds → PyData.canLayAll0 (Dt.pyAll ds) = true
  | [], _ => by simp [Dt.pyAll, PyData.canLayAll0]
  | d :: ds, h => by simp [Dt.pyAll, PyData.canLayAll0, sm_lay d h.1, smA_lay ds h.2]
end
theorem shaped_of {d : Dt} (h : d.Sm) (hd : d.dep ≤ 64) : SeqAt.shaped d.py = true := by
  unfold SeqAt.shaped
  rw [sm_lay d h, dep_py, decide_eq_true hd]
  rfl
theorem eqv_same {d : Dt} (h : d.Sm) : PyData.eqv d.py d.py = true := SeqAt.eqv_refl d.py (sm_lay d h)
end DL
namespace Ev
open PySem L2 DL
/-! ### the script's ints as data; pieces of lists -/
theorem plainAll_ints : ∀ ns : List Int, Dt.plainAll (ns.map Dt.int) = true
  | [] => rfl
  | n :: ns => by
    show (Dt.plain (.int n) && Dt.plainAll (ns.map Dt.int)) = true
    rw [plainAll_ints ns]
    rfl
theorem canLayL_ints : ∀ ns : List Int, PyData.canLay0 (Dt.py (.lst (ns.map Dt.int))) = true := fun ns => by
  simp only [Dt.py, PyData.canLay0]
  induction ns with
  | nil => simp [Dt.pyAll, PyData.canLayAll0]
  | cons n ns ih => simp_all [Dt.pyAll, Dt.py, PyData.canLay0, PyData.canLayAll0]
theorem cut_item {ds : List Dt} {lo hi : Option Int} {j : Nat} {x : Dt} (h : (cutD ds lo hi)[j]? = some x) : x ∈ ds ∧ j < ds.length := by
  unfold cutD at h
  have hm := List.mem_of_getElem? h
  have hl := (List.getElem?_eq_some_iff.mp h).1
  rw [List.length_take, List.length_drop] at hl
  exact ⟨List.mem_of_mem_drop (List.mem_of_mem_take hm), by omega⟩
theorem cut_int {ns : List Int} {y : Int} {lo hi : Option Int} {j : Nat} {x : Dt} (h : (cutD (ns.map Dt.int ++ [.int y]) lo hi)[j]? = some x) : j < ns.length + 1 ∧ ∃ c : Int, x = .int c := by
  obtain ⟨h1, h2⟩ := cut_item h
  rw [List.length_append, List.length_map] at h2
  refine ⟨h2, ?_⟩
  rcases List.mem_append.mp h1 with z | z
  · obtain ⟨n, _, rfl⟩ := List.mem_map.mp z
    exact ⟨n, rfl⟩
  · exact ⟨y, List.mem_singleton.mp z⟩
end Ev
namespace DL
open PySem L2
/-! ### a def that the top has written, and where it stands -/
structure DefIn (K : PySem.W.Frag) (x : Str) (st : Stmt) : Prop where
  it : ∃ (f : Addr) (kV doc pm : Value) (an : Option Addr) (cdv ct : Value), PySem.W.nsIn K mainGlobals x = some (some (.ref f)) ∧ Fun K x x st f (PySem.W.fnOf x x (defArgs st) (defBody st) (defScope st) .none kV doc pm an cdv ct)
theorem def_in {K : PySem.W.Frag} {x : Str} {st : Stmt} {f : Addr} {oc kV doc pm cdv ct : Value} {od an : Option Addr} {osl : Array (Option Value)} (a : PySem.W.nsIn K mainGlobals x = some (some (.ref f)))
    (l : K.lookup f = some ⟨oc, od, .func (PySem.W.fnOf x x (defArgs st) (defBody st) (defScope st) .none kV doc pm an cdv ct), osl⟩) (c : PySem.W.codeIn K cdv x = true) (k : PySem.W.keepIn K (.ref f) = true) : DefIn K x st :=
  ⟨f, kV, doc, pm, an, cdv, ct, a, fun_mk l c k⟩
theorem DefIn.at {K : PySem.W.Frag} {x : Str} {st : Stmt} {P : Program} {w : World} {mg : Str → Option Value} {base h : Heap} {k : Nat} {ps : List Str} {sp : Sp} (D : DefIn K x st) (X : K.In h) (G : h.Ns mainGlobals mg)
    (hb : ∀ (kV doc pm : Value) (an : Option Addr) (cdv ct : Value) (us : List Value), us.length = ps.length → bindArgs (PySem.W.fnOf x x (defArgs st) (defBody st) (defScope st) .none kV doc pm an cdv ct) ⟨us, []⟩ = pure (ps.zip us))
    (ok : ∀ (f : Addr) (fd : FuncData), Fun K x x st f fd → FnG P w K mg base k f fd ps sp) : FnAt P w K mg base x st k ps sp := by
  obtain ⟨f, kV, doc, pm, an, cdv, ct, a, F⟩ := D.it
  exact ⟨f, _, PySem.W.mg_of X G a, F, F.binds hb, ok f _ F⟩
theorem DefIn.law {K : PySem.W.Frag} {x y : Str} {st : Stmt} {P : Program} {w : World} {mg : Str → Option Value} {h : Heap} {k : Nat} {sp : Sp} {fa : Addr} (D : DefIn K x st) (X : K.In h) (G : h.Ns mainGlobals mg) (hfa : mg x = some (.ref fa))
    (hb : ∀ (kV doc pm : Value) (an : Option Addr) (cdv ct : Value) (u : Value), bindArgs (PySem.W.fnOf x x (defArgs st) (defBody st) (defScope st) .none kV doc pm an cdv ct) ⟨[u], []⟩ = pure [(y, u)])
    (ok : ∀ (base : Heap), K.In base → base.Ns mainGlobals mg → ∀ (f : Addr) (fd : FuncData), Fun K x x st f fd → FnG P w K mg base k f fd [y] sp) :
    ∃ fd : FuncData, (∀ (s : Shared) (u : Value), BindsTo s fd ⟨[u], []⟩ [(y, u)]) ∧ ∀ base : Heap, K.In base → base.Ns mainGlobals mg → FnG P w K mg base k fa fd [y] sp := by
  obtain ⟨f, kV, doc, pm, an, cdv, ct, a, F⟩ := D.it
  have e := hfa.symm.trans (PySem.W.mg_of X G a)
  cases e
  exact ⟨_, fun s u => .of_eq (hb kV doc pm an cdv ct u), fun base Xb Gb => ok base Xb Gb _ _ F⟩
end DL
namespace Ev
open PySem L2 DL
/-! ### dues and windows -/
theorem div_lo (a : Int) {q : Int} (hq : 0 < q) : a / q * q ≤ a := (Int.le_ediv_iff_mul_le hq).mp (Int.le_refl _)
theorem div_hi (a : Int) {q : Int} (hq : 0 < q) : a < a / q * q + q := by
  have x2 : a < (a / q + 1) * q := (Int.ediv_lt_iff_lt_mul hq).mp (by omega)
  rw [Int.add_mul] at x2
  omega
/-! ### stretches of ints -/
end Ev
namespace Ev
open PySem L2 DL
theorem mp_bd {x : Int} (h1 : 0 ≤ x) (h2 : x ≤ MP) : Bd 110 x := by
  unfold Bd
  have e : (2 : Nat) ^ 110 = 1298074214633706907132624082305024 := by decide
  rw [e]
  unfold MP at h2
  omega
/-- drawn small loads -/
def unitsOf (x : Int) : Int := [1, 1, 2, 3].getD x.toNat 0
structure Sml where
  u : Int
  q : Int
  ss : List Int
  s : Src
def small (s : Src) (far : Int) : Sml :=
  let x := draw s 4
  let y := draw x.2 far
  let r := loadOf y.2 (unitsOf x.1) (1 + y.1) 6
  ⟨unitsOf x.1, 1 + y.1, r.1, r.2⟩
end Ev
namespace DL
open PySem PySem.Spec PyProof.Rows L2
end DL
namespace DL
open PySem PySem.Spec PyProof.Rows L2
end DL
/-! ### list(range(a, b)) for bounds of any size -/
namespace PySem
open Sem (wp)
end PySem
namespace DL
open PySem PySem.Spec PyProof.Rows L2
end DL
namespace DL
open PySem PySem.Spec PyProof.Rows L2
end DL
namespace DL
open PySem PySem.Spec PyProof.Rows L2
/-! ### structures of own lists: cells (address, items), linked by opq -/
abbrev Cells := List (Addr × List Dt)
/-- new cells: this frame's own, in no slot yet -/
structure NewC (K : PySem.W.Frag) (σ : L2.St) (ρ ρ' : List Sl) (g g' : G) (cs : Cells) : Prop where
  nd : (cs.map (·.1)).Nodup
  hd : ∀ a ds, (a, ds) ∈ cs → g'.M a = some ds
  un : ∀ a, a ∈ cs.map (·.1) → ¬ OwnAt σ ρ' a
  mi : ∀ a, a ∈ cs.map (·.1) → ∀ Z : Fx, FrOk Z σ ρ g → a ∈ Z.I ∨ Z.g0.M a = none
  nw : ∀ a, a ∈ cs.map (·.1) → ∀ es, g.M a = some es → OwnAt σ ρ a
section
variable {K : PySem.W.Frag} {σ : L2.St} {ρ ρ1 ρ2 : List Sl} {g g1 g2 : G} {cs ds : Cells}
theorem NewC.nil : NewC K σ ρ ρ1 g g1 [] := ⟨List.nodup_nil, fun _ _ h => (by cases h), fun _ h => (by cases h), fun _ h => (by cases h), fun _ h => (by cases h)⟩
theorem NewC.app (a : NewC K σ ρ ρ1 g g1 cs) (e1 : Ext σ ρ ρ1 g g1) (b : NewC K σ ρ1 ρ2 g1 g2 ds) (e2 : Ext σ ρ1 ρ2 g1 g2) : NewC K σ ρ ρ2 g g2 (cs ++ ds) := by
  have inM : ∀ p, p ∈ cs.map (·.1) → ∃ es, g1.M p = some es := fun p hp => by
    obtain ⟨⟨q, es⟩, h1, rfl⟩ := List.mem_map.mp hp
    exact ⟨es, a.hd _ _ h1⟩
  refine ⟨?_, fun p es h => ?_, fun p h => ?_, fun p h Z f => ?_, fun p h es he => ?_⟩
  · rw [List.map_append]
    refine List.nodup_append.mpr ⟨a.nd, b.nd, fun x hx y hy z => ?_⟩
    subst z
    obtain ⟨es, h1⟩ := inM x hx
    exact a.un x hx (b.nw x hy es h1)
  · rcases List.mem_append.mp h with h | h
    · exact e2.mu p es (a.hd p es h) (a.un p (List.mem_map.mpr ⟨_, h, rfl⟩))
    · exact b.hd p es h
  · rw [List.map_append] at h
    rcases List.mem_append.mp h with h | h
    · exact fun z => a.un p h (e2.ow p z)
    · exact b.un p h
  · rw [List.map_append] at h
    rcases List.mem_append.mp h with h | h
    · exact a.mi p h Z f
    · exact b.mi p h Z (f.ext e1)
  · rw [List.map_append] at h
    rcases List.mem_append.mp h with h | h
    · exact a.nw p h es he
    · by_cases hp : OwnAt σ ρ p
      · exact hp
      · exact (hp (e1.ow p (b.nw p h es (e1.mu p es he hp)))).elim
/-- one cell more, held at last -/
theorem NewC.hold (a : NewC K σ ρ ρ1 g g1 cs) (r : Rep K g1 σ ρ1) (e1 : Ext σ ρ ρ1 g g1) {p : Addr} {xs : List Dt} (hm : g1.M p = none) : NewC K σ ρ ρ1 g (g1.hold p xs) ((p, xs) :: cs) := by
  have inM : ∀ q, q ∈ cs.map (·.1) → ∃ es, g1.M q = some es := fun q hq => by
    obtain ⟨⟨b, es⟩, h1, rfl⟩ := List.mem_map.mp hq
    exact ⟨es, a.hd _ _ h1⟩
  refine ⟨?_, fun q es h => ?_, fun q h => ?_, fun q h Z f => ?_, fun q h es he => ?_⟩
  · rw [List.map_cons]
    refine List.nodup_cons.mpr ⟨fun z => ?_, a.nd⟩
    obtain ⟨es, h1⟩ := inM p z
    rw [hm] at h1
    cases h1
  · rcases List.mem_cons.mp h with h | h
    · cases h
      exact if_pos rfl
    · exact (hold_gro hm).mu q es (a.hd q es h)
  · rw [List.map_cons] at h
    rcases List.mem_cons.mp h with h | h
    · rw [h]
      rintro ⟨m, y, a1, a2⟩
      obtain ⟨es, h1⟩ := adr_held r a1 a2
      rw [hm] at h1
      cases h1
    · exact a.un q h
  · rw [List.map_cons] at h
    rcases List.mem_cons.mp h with h | h
    · rw [h]
      by_cases hI : p ∈ Z.I
      · exact .inl hI
      · refine .inr ?_
        cases z : Z.g0.M p with
        | none => rfl
        | some es =>
          have z1 := (f.ext e1).mu p es hI z
          rw [hm] at z1
          cases z1
    · exact a.mi q h Z f
  · rw [List.map_cons] at h
    rcases List.mem_cons.mp h with h | h
    · rw [h] at he ⊢
      by_cases hp : OwnAt σ ρ p
      · exact hp
      · have z1 := e1.mu p es he hp
        rw [hm] at z1
        cases z1
    · exact a.nw q h es he
end
end DL
namespace DL
open PySem PySem.Spec PyProof.Rows L2
/-! ### the data that a structure tells, its links followed -/
/-! ### one list of a structure is changed -/
/-! ### the walk over a list of the structure in slot i; the list itself stays -/
/-! ### a call by keywords that hands back a new list -/
end DL
namespace DL
open PySem PySem.Spec PyProof.Rows L2
/-- a list let go -/
def G.drop (g : G) (p : Addr) : G := ⟨g.S, fun q => if q = p then none else g.M q⟩
end DL
namespace DL
open PySem PySem.Spec PyProof.Rows L2
/-- the ints a, a - 1, .. : n of them -/
def dng (a : Int) (n : Nat) : List Int := (List.range n).map fun (k : Nat) => a - (k : Int)
section
variable {X : Cx} {ρ ρ1 ρ2 ρ3 : List Sl} {d : Dt} {ds : List Dt} {pos p : Pos} {e e2 e3 tg : Expr}
/-- the text of None -/
theorem call_repr_non : CallR X (.builtin "repr") (fun xs H Q => xs = [V.non] ∧ Q (.str "None") H) := by
  intro pins s σ H xs us Q I r h
  obtain ⟨rfl, q⟩ := h
  obtain ⟨u, rfl, ru⟩ := vals1 r
  cases ru
  exact PySem.P.repr_of_none ⟨.str _, H, I.tok _, ⟨_, rfl⟩, q⟩
end
end DL
namespace DL
open PySem PySem.Spec PyProof.Rows L2
/-! ### one slot told in another way -/
/-! ### three plain names at once, each a new structure -/
end DL
/-! repr of data in which empty dicts may stand -/
namespace DL
open PySem PySem.Spec PyProof.Rows L2
mutual
def Dt.plainR : Dt → Bool
  | .lst ds => Dt.plainRA ds
  | .tup ds => Dt.plainRA ds
  | .opq _ => false
  | _ => true
def Dt.plainRA : List Dt → Bool
  | [] => true
  | d :: ds => Dt.plainR d && Dt.plainRA ds
end
mutual
def Dt.SmR : Dt → Prop
  | .int i => Bd 1900 i
  | .str x => (reprText x).length ≤ 10000
  | .lst ds => Dt.SmRA ds
  | .tup ds => Dt.SmRA ds
  | .opq _ => False
  | _ => True
def Dt.SmRA : List Dt → Prop
  | [] => True
  | d :: ds => Dt.SmR d ∧ Dt.SmRA ds
end
def Dt.fitsE (d : Dt) : Bool := d.plainR && d.py.showable && decide (d.py.depth ≤ 100) && decide (d.py.shown.length ≤ sizeLine)
mutual
theorem plain_R : ∀ d : Dt, d.plain = true → d.plainR = true
  | .non, _ => rfl
  | .bl _, _ => rfl
  | .int _, _ => rfl
  | .str _, _ => rfl
  | .lst ds, h => plainA_R ds h
  | .tup ds, h => plainA_R ds h
  | .opq _, h => by cases h
  | .emp, h => rfl
theorem plainA_R : ∀ ds : List Dt, Dt.plainAll ds = true → Dt.plainRA ds = true
  | [], _ => rfl
  | d :: ds, h => by
    have h' : (d.plain && Dt.plainAll ds) = true := h
    rw [Bool.and_eq_true] at h'
    show (d.plainR && Dt.plainRA ds) = true
    rw [plain_R d h'.1, plainA_R ds h'.2]
    rfl
end
theorem fits_E {d : Dt} (h : d.fits = true) : d.fitsE = true := by
  simp only [Dt.fits, Bool.and_eq_true] at h
  simp only [Dt.fitsE, Bool.and_eq_true]
  exact ⟨⟨⟨plain_R d h.1.1.1, h.1.1.2⟩, h.1.2⟩, h.2⟩
theorem SmRA.of : ∀ {ds : List Dt}, (∀ d ∈ ds, d.SmR) → Dt.SmRA ds
  | [], _ => trivial
  | d :: ds, h => ⟨h d List.mem_cons_self, SmRA.of fun x hx => h x (List.mem_cons_of_mem _ hx)⟩
mutual
theorem shownR_le : ∀ d : Dt, d.SmR → d.py.shown.length ≤ d.wt
  | .non, _ => by decide
  | .bl b, _ => by cases b <;> decide
  | .int i, h => toStr_len h
  | .str x, h => h
  | .lst ds, h => by
    have a := piled_le_list (PyData.shownAll (Dt.pyAll ds))
    have b := shownRA_le ds h
    show (listText (PyData.shownAll (Dt.pyAll ds))).length ≤ Dt.wtA ds + 2
    omega
  | .tup ds, h => by
    have a := piled_le_tup (PyData.shownAll (Dt.pyAll ds))
    have b := shownRA_le ds h
    show (tupleText (PyData.shownAll (Dt.pyAll ds))).length ≤ Dt.wtA ds + 3
    omega
  | .opq _, h => h.elim
  | .emp, _ => by decide
theorem shownRA_le : ∀ ds : List Dt, Dt.SmRA ds → piled (PyData.shownAll (Dt.pyAll ds)) ≤ Dt.wtA ds
  | [], _ => by decide
  | d :: ds, h => by
    have b := shownRA_le ds h.2
    have a := shownR_le d h.1
    show piled (d.py.shown :: PyData.shownAll (Dt.pyAll ds)) ≤ d.wt + 2 + Dt.wtA ds
    rw [piled_cons]
    omega
end
mutual
theorem smR_plain : ∀ d : Dt, d.SmR → d.plainR = true
  | .non, _ => rfl
  | .bl _, _ => rfl
  | .int _, _ => rfl
  | .str _, _ => rfl
  | .lst ds, h => smRA_plain ds h
  | .tup ds, h => smRA_plain ds h
  | .opq _, h => h.elim
  | .emp, _ => rfl
theorem smRA_plain : ∀ ds : List Dt, Dt.SmRA ds → Dt.plainRA ds = true
  | [], _ => rfl
  | d :: ds, h => by
    show (d.plainR && Dt.plainRA ds) = true
    rw [smR_plain d h.1, smRA_plain ds h.2]
    rfl
end
mutual
theorem smR_show : ∀ d : Dt, d.SmR → d.py.showable = true
  | .non, _ => by simp [Dt.py, PyData.showable]
  | .bl _, _ => by simp [Dt.py, PyData.showable]
  | .int i, h => by simp [Dt.py, PyData.showable, sm_log h]
  | .str _, _ => by simp [Dt.py, PyData.showable]
  | .lst ds, h => by simp [Dt.py, PyData.showable, smRA_show ds h]
  | .tup ds, h => by simp [Dt.py, PyData.showable, smRA_show ds h]
  | .opq _, h => h.elim
  | .emp, _ => by simp [Dt.py, PyData.showable, PyData.showableKv]
theorem smRA_show : ∀ ds : List Dt, Dt.SmRA ds → PyData.showableAll (Dt.pyAll ds) = true
  | [], _ => by simp [Dt.pyAll, PyData.showableAll]
  | d :: ds, h => by simp [Dt.pyAll, PyData.showableAll, smR_show d h.1, smRA_show ds h.2]
end
theorem fitsE_of {d : Dt} (h : d.SmR) (hd : d.dep ≤ 100) (hw : d.wt ≤ 16777216) : d.fitsE = true := by
  have h1 := shownR_le d h
  have e : sizeLine = 16777216 := sizeLine_eq
  simp only [Dt.fitsE, Bool.and_eq_true, decide_eq_true_eq]
  exact ⟨⟨⟨smR_plain d h, smR_show d h⟩, by rw [dep_py]; exact hd⟩, by omega⟩
/-! the data as the heap holds it -/
mutual
inductive RdE (h : Heap) : Value → PyData → Prop
  | non : RdE h .none .none
  | bl (b) : RdE h (.bool b) (.bool b)
  | int (i t) : RdE h (.int i t) (.int i)
  | str (x t) : RdE h (.str x t) (.str x)
  | lst {a o vs n xs} : h.get? a = some o → o.cls = .type "list" → o.data = .seq vs n → RdEs h vs.toList xs → RdE h (.ref a) (.list xs)
  | tup {a o vs n xs} : h.get? a = some o → o.cls = .type "tuple" → o.data = .seq vs n → RdEs h vs.toList xs → RdE h (.ref a) (.tuple xs)
  | emp {a o n} : h.get? a = some o → o.cls = .type "dict" → o.data = .dict #[] n → (a == sysModules) = false → RdE h (.ref a) (.dict [])
inductive RdEs (h : Heap) : List Value → List PyData → Prop
  | nil : RdEs h [] []
  | cons {v vs d ds} : RdE h v d → RdEs h vs ds → RdEs h (v :: vs) (d :: ds)
end
section
variable {h₀ : Heap} {prog : Program} {w : World}
mutual
theorem RdE.reads : ∀ {v : Value} {d : PyData}, RdE h₀ v d → ∃ as, Reads h₀ v d as
  | _, _, .non => ⟨_, .none⟩
  | _, _, .bl b => ⟨_, .bool b⟩
  | _, _, .int i t => ⟨_, .int i t⟩
  | _, _, .str x t => ⟨_, .str x t⟩
  | _, _, .lst h1 h2 h3 h4 => let ⟨_, r⟩ := RdEs.reads h4; ⟨_, .list h1 h2 h3 r⟩
  | _, _, .tup h1 h2 h3 h4 => let ⟨_, r⟩ := RdEs.reads h4; ⟨_, .tuple h1 h2 h3 r⟩
  | _, _, .emp h1 h2 h3 _ => ⟨_, .dict h1 h2 h3 .nil .nil⟩
theorem RdEs.reads : ∀ {vs : List Value} {ds : List PyData}, RdEs h₀ vs ds → ∃ as, ReadsAll h₀ vs ds as
  | _, _, .nil => ⟨_, .nil⟩
  | _, _, .cons r rs => let ⟨_, a⟩ := RdE.reads r; let ⟨_, b⟩ := RdEs.reads rs; ⟨_, .cons a b⟩
end
mutual
theorem rdE_k : ∀ {v : Value} {d : PyData}, RdE h₀ v d → d.showable = true → d.shown.length ≤ sizeLine → ∃ bs, ReadAtMost h₀ d.depth bs ∧ ReprK prog w bs h₀ d.depth v d.shown
  | _, _, .non, _, _ => ⟨[], (fun _ z => nomatch z), by simp only [PyData.shown]; exact ReprK.of_is ReprIs.none _ _ _⟩
  | _, _, .bl b, _, _ => ⟨[], (fun _ z => nomatch z), by simp only [PyData.shown]; exact ReprK.of_is (ReprIs.bool b) _ _ _⟩
  | _, _, .int i t, hs, _ => ⟨[], (fun _ z => nomatch z), by simp only [PyData.shown]; exact ReprK.of_is (ReprIs.int t (by simpa [PyData.showable] using hs)) _ _ _⟩
  | _, _, .str x t, _, hz => ⟨[], (fun _ z => nomatch z), by simp only [PyData.shown]; exact ReprK.of_is (ReprIs.str x t (by simpa only [PyData.shown] using hz)) _ _ _⟩
  | _, _, .lst (a := a) (vs := vs) (xs := xs) h1 h2 h3 h4, hs, hz => by
    have z2 : (listText (PyData.shownAll xs)).length ≤ sizeLine := by simpa only [PyData.shown] using hz
    obtain ⟨bs, hb, hk⟩ := rdEs_k h4 (by simpa [PyData.showable] using hs) fun t ht => Nat.le_trans (listText_mem_le ht) z2
    obtain ⟨as, ra⟩ := RdEs.reads h4
    have out : a ∉ bs := not_mem_of_deeper (Reads.list h1 h2 h3 ra) (by simp only [PyData.depth]; omega) hb
    refine ⟨a :: bs, (Reads.list h1 h2 h3 ra |> fun r => ReadAtMost.cons r (by simp only [PyData.depth]; omega) hb), ?_⟩
    simp only [PyData.shown, PyData.depth]
    obtain ⟨l⟩ := vs
    cases l with
    | nil =>
      cases (show RdEs h₀ [] xs from h4)
      simp only [PyData.shownAll, listText_nil]
      exact ReprK.listEmpty h1 h2 h3
    | cons x l => exact .list h1 h2 h3 out (by simpa using hk.length_eq) fun i y e => hk.item i y (by simpa using e)
  | _, _, .tup (a := a) (xs := xs) h1 h2 h3 h4, hs, hz => by
    have z2 : (tupleText (PyData.shownAll xs)).length ≤ sizeLine := by simpa only [PyData.shown] using hz
    obtain ⟨bs, hb, hk⟩ := rdEs_k h4 (by simpa [PyData.showable] using hs) fun t ht => Nat.le_trans (tupleText_mem_le ht) z2
    obtain ⟨as, ra⟩ := RdEs.reads h4
    have out : a ∉ bs := not_mem_of_deeper (Reads.tuple h1 h2 h3 ra) (by simp only [PyData.depth]; omega) hb
    refine ⟨a :: bs, (Reads.tuple h1 h2 h3 ra |> fun r => ReadAtMost.cons r (by simp only [PyData.depth]; omega) hb), ?_⟩
    simp only [PyData.shown, PyData.depth]
    exact .tuple h1 h2 h3 out hk
  | _, _, .emp (a := a) h1 h2 h3 h4, _, _ => by
    refine ⟨[a], (Reads.dict h1 h2 h3 .nil .nil |> fun r => ReadAtMost.cons (bs := []) r (Nat.zero_le _) fun _ z => nomatch z), ?_⟩
    simp only [PyData.shown, PyData.depth, PyData.shownKv, PyData.depthKv]
    exact .dict (as := []) h1 h2 h3 h4 (fun z => nomatch z) .nil
theorem rdEs_k : ∀ {vs : List Value} {ds : List PyData}, RdEs h₀ vs ds → PyData.showableAll ds = true → (∀ t ∈ PyData.shownAll ds, t.length ≤ sizeLine) → ∃ bs, ReadAtMost h₀ (PyData.depthAll ds) bs ∧ ReprAllK prog w bs h₀ (PyData.depthAll ds) vs (PyData.shownAll ds)
  | _, _, .nil, _, _ => ⟨[], (fun _ z => nomatch z), by simp only [PyData.shownAll]; exact ReprAllK.nil⟩
  | _, _, .cons (d := d) (ds := ds) r rs, hs, hz => by
    obtain ⟨s1, s2⟩ : d.showable = true ∧ PyData.showableAll ds = true := by simpa [PyData.showableAll] using hs
    obtain ⟨b1, m1, k1⟩ := rdE_k r s1 (hz _ (by simp only [PyData.shownAll]; exact List.mem_cons_self))
    obtain ⟨b2, m2, k2⟩ := rdEs_k rs s2 fun t ht => hz t (by simp only [PyData.shownAll]; exact List.mem_cons_of_mem _ ht)
    simp only [PyData.depthAll, PyData.shownAll]
    exact ⟨b1 ++ b2, (m1.mono (Nat.le_max_left _ _)).append (m2.mono (Nat.le_max_right _ _)), .cons ((k1.more fun b hb => List.mem_append_left _ hb).level_le (Nat.le_max_left _ _)) (k2.more_le (fun b hb => List.mem_append_right _ hb) (Nat.le_max_right _ _))⟩
end
/-- repr(x) -/
theorem repr_rdE {A : Around} {E : Value → Shared → Prop} {s : Shared} {Q : Value → Shared → Prop} {a : Addr} {d : PyData} (r : RdE h₀ (.ref a) d) (hs : d.showable = true) (hg : A.guards = some []) (hu : A.units + (d.depth + 1) < cLine) (hk : ∀ b o, h₀.get? b = some o → s.heap.get? b = some o)
    (hQ : ∀ h' u tk, (∀ b o, s.heap.get? b = some o → h'.get? b = some o) → Q (.str d.shown u) { s with heap := h', toks := tk }) (hz : d.shown.length ≤ sizeLine) : wpAny (model prog w) A (call (.builtin "repr") [.ref a]) Q E s := by
  cases r with
  | @lst _ o vs n xs h1 h2 h3 h4 =>
    have z2 : (listText (PyData.shownAll xs)).length ≤ sizeLine := by simpa only [PyData.shown] using hz
    obtain ⟨bs, hb, kk⟩ := rdEs_k (prog := prog) (w := w) h4 (by simpa [PyData.showable] using hs) fun t ht => Nat.le_trans (listText_mem_le ht) z2
    obtain ⟨as, ra⟩ := RdEs.reads h4
    have out : a ∉ bs := not_mem_of_deeper (Reads.list h1 h2 h3 ra) (by simp only [PyData.depth]; omega) hb
    simp only [PyData.depth] at hu
    simp only [PyData.shown] at hQ
    refine call_repr_slot (by omega) ⟨o, hk _ _ h1, h2⟩ F.slot_list_repr.toG ?_
    obtain ⟨l⟩ := vs
    cases l with
    | nil =>
      cases (show RdEs h₀ [] xs from h4)
      simp only [PyData.shownAll, listText_nil] at hQ
      exact call_list_repr_empty ⟨o, hk _ _ h1, h2⟩ (hk _ _ h1) h3 ⟨_, _, rfl, hQ s.heap _ _ fun _ _ e => e⟩
    | cons x l =>
      exact call_list_reprK h1 h2 h3 out (by simpa using kk.length_eq) (fun i y e => kk.item i y (by simpa using e)) hg (fun b _ => Clear.nil b) (by show A.units + 1 + (PyData.depthAll xs + 1) < cLine; omega) hk (fun h' u tk k2 => ⟨_, _, rfl, hQ h' u tk k2⟩) z2
  | @tup _ o vs n xs h1 h2 h3 h4 =>
    have z2 : (tupleText (PyData.shownAll xs)).length ≤ sizeLine := by simpa only [PyData.shown] using hz
    obtain ⟨bs, hb, kk⟩ := rdEs_k (prog := prog) (w := w) h4 (by simpa [PyData.showable] using hs) fun t ht => Nat.le_trans (tupleText_mem_le ht) z2
    obtain ⟨as, ra⟩ := RdEs.reads h4
    have out : a ∉ bs := not_mem_of_deeper (Reads.tuple h1 h2 h3 ra) (by simp only [PyData.depth]; omega) hb
    simp only [PyData.depth] at hu
    simp only [PyData.shown] at hQ
    exact call_repr_slot (by omega) ⟨o, hk _ _ h1, h2⟩ F.slot_tuple_repr (call_tuple_reprK h1 h2 h3 out kk hg (fun b _ => Clear.nil b) (by show A.units + 1 + (PyData.depthAll xs + 1) < cLine; omega) hk (fun h' u tk k2 => ⟨_, _, rfl, hQ h' u tk k2⟩) z2)
  | @emp _ o n h1 h2 h3 h4 =>
    simp only [PyData.depth, PyData.depthKv] at hu
    simp only [PyData.shown, PyData.shownKv] at hQ
    exact call_repr_slot (by omega) ⟨o, hk _ _ h1, h2⟩ F.slot_dict_repr (call_dict_reprK (as := []) (d := 0) (ps := []) h1 h2 h3 h4 (fun z => nomatch z) .nil hg (fun b _ => Clear.nil b) (by show A.units + 1 + (0 + 1) < cLine; omega) hk (fun h' u tk k2 => ⟨_, _, rfl, hQ h' u tk k2⟩) (by decide))
end
section
variable {X : Cx} {pins : List (Addr × Obj)} {σ : L2.St} {H : Hp} {s : Shared}
theorem emp_at {a : Addr} (I : Inv X pins σ H s) (h : Rd H a (.dK [])) : ∃ o n, s.heap.get? a = some o ∧ o.cls = .type "dict" ∧ o.data = .dict #[] n ∧ (a == sysModules) = false := by
  obtain ⟨_, h2, vs, kv, o, es, ep, g1, g2, g3, g4, g5, _⟩ := h.ok I.hok
  cases kv
  obtain ⟨l⟩ := es
  cases l with
  | nil => exact ⟨o, ep, g1, g2.1, g3, h2⟩
  | cons _ _ => cases g5
mutual
theorem Rp.rdE {S : Hp} (I : Inv X pins σ H s) (st : Same S H) : ∀ (d : Dt) (v : V) (u : Value), d.plainR = true → Rp X.K S v d → RelV v u → RdE s.heap u d.py
  | .non, _, _, _, h, r => by
    cases h; cases r
    exact RdE.non
  | .bl b, _, _, _, h, r => by
    cases h; cases r
    exact RdE.bl b
  | .int i, _, _, _, h, r => by
    cases h
    obtain ⟨t, rfl⟩ := r
    exact RdE.int i t
  | .str x, _, _, _, h, r => by
    cases h
    obtain ⟨t, rfl⟩ := r
    exact RdE.str x t
  | .lst ds, _, _, p, h, r => by
    cases h with
    | lst hs ha =>
      cases r
      obtain ⟨its, rv, ⟨o, n, ho, hc, _, hd⟩, _⟩ := I.list (sqx_mono st hs).l
      exact RdE.lst ho hc hd (RpAll.rdE I st ds _ its p ha rv)
  | .tup ds, _, _, p, h, r => by
    cases h with
    | tup hs ha =>
      cases r
      obtain ⟨its, rv, ⟨o, ho, hc, n, hd⟩, _⟩ := I.tuple (sqt_mono st hs)
      exact RdE.tup ho hc hd (RpAll.rdE I st ds _ its p ha rv)
  | .opq _, _, _, p, _, _ => by cases p
  | .emp, _, _, _, h, r => by
    cases h with
    | @emp a hd =>
      cases r
      have hd' : Rd H a (.dK []) := hd.elim (fun z => .inl (st _ _ z)) fun ⟨o, z⟩ => .inr ⟨o, st _ _ z⟩
      obtain ⟨o, n, h1, h2, h3, h4⟩ := emp_at I hd'
      exact RdE.emp h1 h2 h3 h4
theorem RpAll.rdE {S : Hp} (I : Inv X pins σ H s) (st : Same S H) : ∀ (ds : List Dt) (vs : List V) (us : List Value), Dt.plainRA ds = true → RpAll X.K S vs ds → Vals vs us → RdEs s.heap us (Dt.pyAll ds)
  | [], _, _, _, h, r => by
    cases h; cases r
    exact RdEs.nil
  | d :: ds, _, _, p, h, r => by
    have p' : (Dt.plainR d && Dt.plainRA ds) = true := p
    rw [Bool.and_eq_true] at p'
    cases h with
    | cons h1 h2 =>
      cases r with
      | cons r1 r2 => exact RdEs.cons (Rp.rdE I st d _ _ p'.1 h1 r1) (RpAll.rdE I st ds _ _ p'.2 h2 r2)
end
def rReprE (K : PySem.W.Frag) : List V → Hp → VK → Prop := fun xs H Q => ∃ (a : Addr) (d : Dt) (S : Hp), xs = [V.ref a] ∧ Same S H ∧ Rp K S (V.ref a) d ∧ d.fitsE = true ∧ Q (.str d.text) H
theorem cr_reprE {k : Nat} (hgd : X.A.guards = some []) (hr : Room k X.A) : CallR X (.builtin "repr") (rReprE X.K) := by
  intro pins s σ H xs us Q I r h
  obtain ⟨a, d, S, rfl, st, rp, hf, q⟩ := h
  obtain ⟨u, rfl, ru⟩ := vals1 r
  cases ru
  simp only [Dt.fitsE, Bool.and_eq_true, decide_eq_true_eq] at hf
  obtain ⟨⟨⟨f1, f2⟩, f3⟩, f4⟩ := hf
  have rd := Rp.rdE I st d (V.ref a) (Value.ref a) f1 rp rfl
  exact repr_rdE rd f2 hgd (by have := hr.un; omega) (fun b o e => e) (fun h' t tk kp => ⟨.str d.py.shown, H, I.kept kp, ⟨t, rfl⟩, q⟩) f4
theorem call_repr_bl : CallR X (.builtin "repr") (fun xs H Q => ∃ b, xs = [V.bl b] ∧ Q (.str (if b then "True" else "False")) H) := by
  intro pins s σ H xs us Q I r h
  obtain ⟨b, rfl, q⟩ := h
  obtain ⟨u, rfl, ru⟩ := vals1 r
  cases ru
  exact PySem.P.repr_of_bool ⟨.str _, H, I.tok _, ⟨_, rfl⟩, q⟩
theorem call_repr_str : CallR X (.builtin "repr") (fun xs H Q => ∃ x, xs = [V.str x] ∧ (reprText x).length ≤ sizeLine ∧ Q (.str (reprText x)) H) := by
  intro pins s σ H xs us Q I r h
  obtain ⟨x, rfl, hz, q⟩ := h
  obtain ⟨u, rfl, ru⟩ := vals1 r
  obtain ⟨t, rfl⟩ := ru
  exact PySem.P.repr_of_str ⟨.str _, H, I.tok _, ⟨_, rfl⟩, q⟩ hz
end
end DL
namespace OW
open PySem PySem.Spec PyProof.Rows L2
open DL (Dt Rp RpAll SqX)
/-! ### values as trees: what is shared stands still, what is owned may be changed -/
inductive Kd where
  | lst
  | ob (c : Str) (ns : List Str)
  | dk (ks : List Key)
  | dt (ks : List (List Key))
  | tp
  | xc (a : Addr) (d : Option (Addr × Str))
  | any
inductive Ow where
  | no
  | f (d : Dt)
  | n (k : Kd) (os : List Ow)
abbrev Ow.l (os : List Ow) : Ow := .n .lst os
abbrev Ow.i (i : Int) : Ow := .f (.int i)
abbrev Ow.b (i : Bool) : Ow := .f (.bl i)
/-- what stands, and what is owned -/
structure Gs where
  S : Hp
  M : Hp
structure GsOk (g : Gs) (H : Hp) : Prop where
  s : Same g.S H
  m : Same g.M H
  d : ∀ p o, g.M p = some o → g.S p = none
abbrev Fp := Addr → Prop
def Dj (F G : Fp) : Prop := ∀ p, F p → G p → False
def Em (F : Fp) : Prop := ∀ p, ¬ F p
/-- growth: what was owned and is not given is as it was -/
structure Stp (g : Gs) (F : Fp) (g' : Gs) (F' : Fp) : Prop where
  st : Same g.S g'.S
  mu : ∀ p o, g.M p = some o → ¬ F p → g'.M p = some o
  fr : ∀ p, F' p → F p ∨ (g.S p = none ∧ g.M p = none)
/-- kept: what is in F -/
structure Kp (g g' : Gs) (F : Fp) : Prop where
  st : Same g.S g'.S
  mu : ∀ p o, F p → g.M p = some o → g'.M p = some o
section
variable {g g' g1 g2 : Gs} {F F' F1 F2 Fa : Fp} {H H' : Hp}
theorem GsOk.free (k : GsOk g H) {p : Addr} (h : H p = none) : g.S p = none ∧ g.M p = none := ⟨k.s.free h, k.m.free h⟩
theorem same_none {S S' : Hp} (e : Same S S') {p : Addr} (h : S' p = none) : S p = none := by
  cases q : S p with
  | none => rfl
  | some u => rw [e _ _ q] at h; cases h
theorem Stp.refl (h : ∀ p, F' p → F p) : Stp g F g F' := ⟨fun _ _ e => e, fun _ _ e _ => e, fun p z => .inl (h p z)⟩
theorem Stp.sub (a : Stp g F g' F1) (h : ∀ p, F' p → F1 p) : Stp g F g' F' := ⟨a.st, a.mu, fun p z => a.fr p (h p z)⟩
theorem Stp.trans (a : Stp g F g1 fun p => F1 p ∨ Fa p) (b : Stp g1 F1 g2 F2) : Stp g F g2 fun p => F2 p ∨ Fa p := by
  refine ⟨fun p u e => b.st _ _ (a.st _ _ e), fun p o e n => b.mu p o (a.mu p o e n) fun z => ?_, fun p z => ?_⟩
  · rcases a.fr p (.inl z) with y | ⟨_, y⟩
    · exact n y
    · rw [e] at y; cases y
  · rcases z with z | z
    · rcases b.fr p z with y | ⟨y1, y2⟩
      · exact a.fr p (.inl y)
      · by_cases hF : F p
        · exact .inl hF
        · refine .inr ⟨same_none a.st y1, ?_⟩
          cases q : g.M p with
          | none => rfl
          | some o => rw [a.mu p o q hF] at y2; cases y2
    · exact a.fr p (.inr z)
theorem Stp.tr (a : Stp g F g1 F1) (b : Stp g1 F1 g2 F2) : Stp g F g2 F2 :=
  (Stp.trans (Fa := fun _ => False) (a.sub fun p z => z.elim id False.elim) b).sub fun p z => .inl z
/-- what is no part of the step's ground stays -/
theorem Stp.kp (a : Stp g F g' F') (h : Dj F1 F) : Kp g g' F1 := ⟨a.st, fun p o z e => a.mu p o e fun y => h p z y⟩
theorem Kp.refl : Kp g g F := ⟨fun _ _ e => e, fun _ _ _ e => e⟩
theorem Kp.sub (a : Kp g g' F) (h : ∀ p, F' p → F p) : Kp g g' F' := ⟨a.st, fun p o z e => a.mu p o (h p z) e⟩
theorem Kp.trans (a : Kp g g1 F) (b : Kp g1 g2 F) : Kp g g2 F := ⟨fun p u e => b.st _ _ (a.st _ _ e), fun p o z e => b.mu p o z (a.mu p o z e)⟩
/-- a new object that stands, or is owned -/
def Gs.stand (g : Gs) (p : Addr) (o : HO) : Gs := ⟨upd g.S p o, g.M⟩
def Gs.hold (g : Gs) (p : Addr) (o : HO) : Gs := ⟨g.S, upd g.M p o⟩
theorem same_upd {S : Hp} {p : Addr} {o : HO} (h : S p = none) : Same S (upd S p o) := fun b u e => by rw [upd_ne (ne_of_none e h)]; exact e
theorem stand_ok (k : GsOk g H) {p : Addr} {o : HO} (hp : H p = none) : GsOk (g.stand p o) (upd H p o) := by
  obtain ⟨f1, f2⟩ := k.free hp
  refine ⟨fun b u e => ?_, fun b u e => ?_, fun b u e => ?_⟩
  · by_cases hb : b = p
    · subst hb
      have e' : upd g.S b o b = some u := e
      rw [upd_same] at e' ⊢
      exact e'
    · have e' : upd g.S p o b = some u := e
      rw [upd_ne hb] at e' ⊢
      exact k.s b u e'
  · rw [upd_ne (ne_of_none e f2)]
    exact k.m b u e
  · have hb : b ≠ p := ne_of_none e f2
    show upd g.S p o b = none
    rw [upd_ne hb]
    exact k.d b u e
theorem stand_stp {p : Addr} {o : HO} (h : g.S p = none) : Stp g F (g.stand p o) fun _ => False := ⟨same_upd h, fun _ _ e _ => e, fun _ z => z.elim⟩
theorem hold_ok (k : GsOk g H) {p : Addr} {o : HO} (hp : H p = none) : GsOk (g.hold p o) (upd H p o) := by
  obtain ⟨f1, f2⟩ := k.free hp
  refine ⟨fun b u e => ?_, fun b u e => ?_, fun b u e => ?_⟩
  · rw [upd_ne (ne_of_none e f1)]
    exact k.s b u e
  · by_cases hb : b = p
    · subst hb
      have e' : upd g.M b o b = some u := e
      rw [upd_same] at e' ⊢
      exact e'
    · have e' : upd g.M p o b = some u := e
      rw [upd_ne hb] at e' ⊢
      exact k.m b u e'
  · by_cases hb : b = p
    · subst hb
      exact f1
    · have e' : upd g.M p o b = some u := e
      rw [upd_ne hb] at e'
      exact k.d b u e'
/-- an owned object is changed -/
theorem put_ok (k : GsOk g H) {p : Addr} {o o' : HO} (hp : g.M p = some o') : GsOk (g.hold p o) (upd H p o) := by
  refine ⟨fun b u e => ?_, fun b u e => ?_, fun b u e => ?_⟩
  · rw [upd_ne (ne_of_none e (k.d _ _ hp))]
    exact k.s b u e
  · by_cases hb : b = p
    · subst hb
      have e' : upd g.M b o b = some u := e
      rw [upd_same] at e' ⊢
      exact e'
    · have e' : upd g.M p o b = some u := e
      rw [upd_ne hb] at e' ⊢
      exact k.m b u e'
  · by_cases hb : b = p
    · subst hb
      exact k.d _ _ hp
    · have e' : upd g.M p o b = some u := e
      rw [upd_ne hb] at e'
      exact k.d b u e'
theorem hold_kp {p : Addr} {o : HO} (h : ¬ F p) : Kp g (g.hold p o) F := ⟨fun _ _ e => e, fun b u z e => by
  have hb : b ≠ p := fun y => h (y ▸ z)
  show upd g.M p o b = some u
  rw [upd_ne hb]; exact e⟩
end
/-! ### how values tell trees -/
def Cell (mg : Str → Option Value) (g : Gs) (a : Addr) (F0 : Fp) (vs : List V) : Kd → Prop
  | .lst => g.M a = some (.lst vs) ∧ ∀ p, F0 p ↔ p = a
  | .ob c ns => ns.length = vs.length ∧ ∃ C dx, mg c = some (.ref C) ∧ g.M a = some (.ins C dx (ns.zip vs)) ∧ g.M dx = some (.own a) ∧ ∀ p, F0 p ↔ p = a ∨ p = dx
  | .dk ks => ks.length = vs.length ∧ g.M a = some (.dK (ks.zip vs)) ∧ ∀ p, F0 p ↔ p = a
  | .dt ks => ks.length = vs.length ∧ g.M a = some (.dT (ks.zip vs)) ∧ ∀ p, F0 p ↔ p = a
  | .tp => g.M a = some (.tup vs) ∧ ∀ p, F0 p ↔ p = a
  | .xc a0 none => a = a0 ∧ Em F0 ∧ vs = []
  | .xc a0 (some (dd, f)) => a = a0 ∧ Em F0 ∧ ∃ v, vs = [v] ∧ g.S dd = some (.xd [(f, v)])
  | .any => Em F0 ∧ vs = []
mutual
def OwR (mg : Str → Option Value) (K : PySem.W.Frag) (g : Gs) : Ow → V → Fp → Prop
  | .no, _, F => Em F
  | .f d, v, F => Rp K g.S v d ∧ Em F
  | .n k os, v, F => ∃ a vs F0 F1, v = .ref a ∧ Cell mg g a F0 vs k ∧ OwRs mg K g os vs F1 ∧ Dj F0 F1 ∧ ∀ p, F p ↔ F0 p ∨ F1 p
def OwRs (mg : Str → Option Value) (K : PySem.W.Frag) (g : Gs) : List Ow → List V → Fp → Prop
  | [], vs, F => vs = [] ∧ Em F
  | o :: os, vs, F => ∃ v r F1 F2, vs = v :: r ∧ OwR mg K g o v F1 ∧ OwRs mg K g os r F2 ∧ Dj F1 F2 ∧ ∀ p, F p ↔ F1 p ∨ F2 p
end
section
variable {mg : Str → Option Value} {K : PySem.W.Frag} {g g' : Gs} {H : Hp}
theorem Cell.in_ {a : Addr} {F0 : Fp} {vs : List V} : ∀ {k : Kd}, Cell mg g a F0 vs k → ∀ p, F0 p → ∃ o, g.M p = some o
  | .lst, ⟨h, e⟩, p, z => ⟨.lst vs, by have := (e p).mp z; subst this; exact h⟩
  | .tp, ⟨h, e⟩, p, z => ⟨.tup vs, by have := (e p).mp z; subst this; exact h⟩
  | .dk ks, ⟨_, h, e⟩, p, z => ⟨.dK (ks.zip vs), by have := (e p).mp z; subst this; exact h⟩
  | .dt ks, ⟨_, h, e⟩, p, z => ⟨.dT (ks.zip vs), by have := (e p).mp z; subst this; exact h⟩
  | .xc _ none, ⟨_, h, _⟩, p, z => (h p z).elim
  | .xc _ (some (_, _)), ⟨_, h, _⟩, p, z => (h p z).elim
  | .any, ⟨h, _⟩, p, z => (h p z).elim
  | .ob _ _, ⟨_, C, dx, _, h, h2, e⟩, p, z => by
    rcases (e p).mp z with y | y
    · subst y; exact ⟨_, h⟩
    · subst y; exact ⟨_, h2⟩
theorem Cell.kp {a : Addr} {F0 : Fp} {vs : List V} (w : Kp g g' F0) : ∀ {k : Kd}, Cell mg g a F0 vs k → Cell mg g' a F0 vs k
  | .lst, ⟨h, e⟩ => ⟨w.mu _ _ ((e a).mpr rfl) h, e⟩
  | .tp, ⟨h, e⟩ => ⟨w.mu _ _ ((e a).mpr rfl) h, e⟩
  | .dk _, ⟨l, h, e⟩ => ⟨l, w.mu _ _ ((e a).mpr rfl) h, e⟩
  | .dt _, ⟨l, h, e⟩ => ⟨l, w.mu _ _ ((e a).mpr rfl) h, e⟩
  | .xc _ none, h => h
  | .xc _ (some (_, _)), ⟨e, h, v, q1, q2⟩ => ⟨e, h, v, q1, w.st _ _ q2⟩
  | .any, h => h
  | .ob _ _, ⟨l, C, dx, hc, h, h2, e⟩ => ⟨l, C, dx, hc, w.mu _ _ ((e a).mpr (.inl rfl)) h, w.mu _ _ ((e dx).mpr (.inr rfl)) h2, e⟩
mutual
theorem OwR.in_ : ∀ (o : Ow) {v : V} {F : Fp}, OwR mg K g o v F → ∀ p, F p → ∃ u, g.M p = some u
  | .no, _, _, h, p, z => (h p z).elim
  | .f d, _, _, h, p, z => (h.2 p z).elim
  | .n k os, _, _, ⟨a, vs, F0, F1, _, hc, hs, _, e⟩, p, z => by
    rcases (e p).mp z with y | y
    · exact hc.in_ p y
    · exact OwRs.in_ os hs p y
theorem OwRs.in_ : ∀ (os : List Ow) {vs : List V} {F : Fp}, OwRs mg K g os vs F → ∀ p, F p → ∃ u, g.M p = some u
  | [], _, _, h, p, z => (h.2 p z).elim
  | o :: os, _, _, ⟨v, r, F1, F2, _, h1, h2, _, e⟩, p, z => by
    rcases (e p).mp z with y | y
    · exact OwR.in_ o h1 p y
    · exact OwRs.in_ os h2 p y
end
mutual
theorem OwR.kp : ∀ (o : Ow) {v : V} {F : Fp}, Kp g g' F → OwR mg K g o v F → OwR mg K g' o v F
  | .no, _, _, _, h => h
  | .f d, _, _, w, h => ⟨h.1.mono w.st, h.2⟩
  | .n k os, _, _, w, ⟨a, vs, F0, F1, e1, hc, hs, hd, e⟩ =>
    ⟨a, vs, F0, F1, e1, hc.kp (w.sub fun p z => (e p).mpr (.inl z)), OwRs.kp os (w.sub fun p z => (e p).mpr (.inr z)) hs, hd, e⟩
theorem OwRs.kp : ∀ (os : List Ow) {vs : List V} {F : Fp}, Kp g g' F → OwRs mg K g os vs F → OwRs mg K g' os vs F
  | [], _, _, _, h => h
  | o :: os, _, _, w, ⟨v, r, F1, F2, e1, h1, h2, hd, e⟩ =>
    ⟨v, r, F1, F2, e1, OwR.kp o (w.sub fun p z => (e p).mpr (.inl z)) h1, OwRs.kp os (w.sub fun p z => (e p).mpr (.inr z)) h2, hd, e⟩
end
mutual
theorem OwR.eqv : ∀ (o : Ow) {v : V} {F F' : Fp}, (∀ p, F p ↔ F' p) → OwR mg K g o v F → OwR mg K g o v F'
  | .no, _, _, _, w, h => fun p z => h p ((w p).mpr z)
  | .f d, _, _, _, w, h => ⟨h.1, fun p z => h.2 p ((w p).mpr z)⟩
  | .n k os, _, _, _, w, ⟨a, vs, F0, F1, e1, hc, hs, hd, e⟩ => ⟨a, vs, F0, F1, e1, hc, hs, hd, fun p => (w p).symm.trans (e p)⟩
theorem OwRs.eqv : ∀ (os : List Ow) {vs : List V} {F F' : Fp}, (∀ p, F p ↔ F' p) → OwRs mg K g os vs F → OwRs mg K g os vs F'
  | [], _, _, _, w, h => ⟨h.1, fun p z => h.2 p ((w p).mpr z)⟩
  | o :: os, _, _, _, w, ⟨v, r, F1, F2, e1, h1, h2, hd, e⟩ => ⟨v, r, F1, F2, e1, h1, h2, hd, fun p => (w p).symm.trans (e p)⟩
end
theorem OwRs.len : ∀ {os : List Ow} {vs : List V} {F : Fp}, OwRs mg K g os vs F → vs.length = os.length
  | [], _, _, h => by rw [h.1]; rfl
  | o :: os, _, _, ⟨v, r, F1, F2, e1, h1, h2, hd, e⟩ => by rw [e1, List.length_cons, List.length_cons, OwRs.len h2]
theorem OwRs.app : ∀ {os os' : List Ow} {vs vs' : List V} {F F' : Fp}, OwRs mg K g os vs F → OwRs mg K g os' vs' F' → Dj F F' → OwRs mg K g (os ++ os') (vs ++ vs') fun p => F p ∨ F' p
  | [], _, _, _, _, _, h, h', d => by
    rw [h.1]
    exact OwRs.eqv _ (fun p => ⟨.inr, fun z => z.elim (fun y => (h.2 p y).elim) id⟩) h'
  | o :: os, _, _, _, _, _, ⟨v, r, F1, F2, e1, h1, h2, hd, e⟩, h', d => by
    rw [e1]
    refine ⟨v, _, F1, _, rfl, h1, OwRs.app h2 h' fun p z y => d p ((e p).mpr (.inr z)) y, fun p z y => ?_, fun p => ?_⟩
    · exact y.elim (hd p z) (d p ((e p).mpr (.inl z)))
    · show (_ ∨ _) ↔ _
      rw [e p, or_assoc]
theorem OwRs.one {o : Ow} {v : V} {F : Fp} (h : OwR mg K g o v F) : OwRs mg K g [o] [v] F :=
  ⟨v, [], F, fun _ => False, rfl, h, ⟨rfl, fun _ z => z⟩, fun _ _ z => z, fun p => ⟨.inl, fun z => z.elim id False.elim⟩⟩
theorem OwRs.of_rp : ∀ {ds : List Dt} {vs : List V}, RpAll K g.S vs ds → OwRs mg K g (ds.map .f) vs fun _ => False
  | [], _, .nil => ⟨rfl, fun _ z => z⟩
  | d :: ds, _, .cons h t => ⟨_, _, fun _ => False, fun _ => False, rfl, ⟨h, fun _ z => z⟩, OwRs.of_rp t, fun _ _ z => z, fun p => ⟨.inl, fun z => z.elim id id⟩⟩
/-- an item, and what may be put in its place -/
theorem OwRs.at : ∀ {os : List Ow} {vs : List V} {F : Fp} {i : Nat} {o : Ow}, OwRs mg K g os vs F → os[i]? = some o →
    ∃ v F1 F2, vs[i]? = some v ∧ OwR mg K g o v F1 ∧ Dj F1 F2 ∧ (∀ p, F p ↔ F1 p ∨ F2 p) ∧
      ∀ g' o' v' F1', Kp g g' F2 → OwR mg K g' o' v' F1' → Dj F1' F2 → OwRs mg K g' (os.set i o') (vs.set i v') fun p => F1' p ∨ F2 p
  | [], _, _, _, _, _, e => by simp at e
  | o :: os, _, _, 0, _, ⟨v, r, F1, F2, e1, h1, h2, hd, e⟩, q => by
    rw [e1]
    simp at q
    subst q
    exact ⟨v, F1, F2, rfl, h1, hd, e, fun g' o' v' F1' w h' d' => ⟨v', r, F1', F2, rfl, h', OwRs.kp os w h2, d', fun p => Iff.rfl⟩⟩
  | o :: os, _, _, i + 1, _, ⟨v, r, F1, F2, e1, h1, h2, hd, e⟩, q => by
    rw [e1]
    obtain ⟨v2, G1, G2, f1, f2, f3, f4, f5⟩ := OwRs.at (i := i) h2 (by simpa using q)
    refine ⟨v2, G1, fun p => F1 p ∨ G2 p, by simpa using f1, f2, fun p z y => y.elim (fun y => hd p y ((f4 p).mpr (.inl z))) (f3 p z), fun p => ?_, fun g' o' v' F1' w h' d' => ?_⟩
    · rw [e p, f4 p]
      constructor
      · rintro (z | z | z) <;> simp [z]
      · rintro (z | z | z) <;> simp [z]
    · refine ⟨v, r.set i v', F1, fun p => F1' p ∨ G2 p, by simp, OwR.kp o (w.sub fun p z => .inl z) h1, f5 g' o' v' F1' (w.sub fun p z => .inr z) h' fun p z y => d' p z (.inr y), fun p z y => ?_, fun p => ?_⟩
      · rcases y with y | y
        · exact d' p y (.inl z)
        · exact hd p z ((f4 p).mpr (.inr y))
      · constructor
        · rintro (z | z | z) <;> simp [z]
        · rintro (z | z | z) <;> simp [z]
theorem OwRs.atV {os : List Ow} {vs : List V} {F : Fp} {i : Nat} {v : V} (h : OwRs mg K g os vs F) (e : vs[i]? = some v) : ∃ o, os[i]? = some o := by
  have il := (List.getElem?_eq_some_iff.mp e).1
  rw [h.len] at il
  exact ⟨os[i], List.getElem?_eq_getElem il⟩
end
/-! ### what is owned is given away: it stands from now on -/
mutual
def frz : Ow → Option Dt
  | .no => none
  | .f d => some d
  | .n .lst os => (frzs os).map .lst
  | .n .tp os => (frzs os).map .tup
  | .n _ _ => none
def frzs : List Ow → Option (List Dt)
  | [] => some []
  | o :: os => match frz o, frzs os with
    | some d, some ds => some (d :: ds)
    | _, _ => none
end
section
variable {mg : Str → Option Value} {K : PySem.W.Frag} {g g' : Gs} {H : Hp}
mutual
theorem frz_rp {S' : Hp} (st : Same g.S S') : ∀ (o : Ow) {d : Dt} {v : V} {F : Fp}, frz o = some d → OwR mg K g o v F → (∀ p u, F p → g.M p = some u → S' p = some u) → Rp K S' v d
  | .no, _, _, _, e, _, _ => by simp [frz] at e
  | .f d, _, _, _, e, h, _ => by
    simp [frz] at e
    subst e
    exact h.1.mono st
  | .n .lst os, _, _, _, e, ⟨a, vs, F0, F1, e1, hc, hs, hd, ef⟩, w => by
    simp [frz] at e
    obtain ⟨ds, e2, rfl⟩ := e
    subst e1
    exact .lst (SqX.of (w a _ ((ef a).mpr (.inl ((hc.2 a).mpr rfl))) hc.1)) (frzs_rp st os e2 hs fun p u z => w p u ((ef p).mpr (.inr z)))
  | .n .tp os, _, _, _, e, ⟨a, vs, F0, F1, e1, hc, hs, hd, ef⟩, w => by
    simp [frz] at e
    obtain ⟨ds, e2, rfl⟩ := e
    subst e1
    exact .tup (SqT.of (w a _ ((ef a).mpr (.inl ((hc.2 a).mpr rfl))) hc.1)) (frzs_rp st os e2 hs fun p u z => w p u ((ef p).mpr (.inr z)))
  | .n (.ob _ _) _, _, _, _, e, _, _ => by simp [frz] at e
  | .n (.dk _) _, _, _, _, e, _, _ => by simp [frz] at e
  | .n (.dt _) _, _, _, _, e, _, _ => by simp [frz] at e
  | .n (.xc _ _) _, _, _, _, e, _, _ => by simp [frz] at e
  | .n .any _, _, _, _, e, _, _ => by simp [frz] at e
theorem frzs_rp {S' : Hp} (st : Same g.S S') : ∀ (os : List Ow) {ds : List Dt} {vs : List V} {F : Fp}, frzs os = some ds → OwRs mg K g os vs F → (∀ p u, F p → g.M p = some u → S' p = some u) → RpAll K S' vs ds
  | [], _, _, _, e, h, _ => by
    simp [frzs] at e
    subst e
    rw [h.1]
    exact .nil
  | o :: os, _, _, _, e, ⟨v, r, F1, F2, e1, h1, h2, hd, ef⟩, w => by
    simp only [frzs] at e
    split at e
    · rename_i d ds q1 q2
      cases e
      subst e1
      exact .cons (frz_rp st o q1 h1 fun p u z => w p u ((ef p).mpr (.inl z))) (frzs_rp st os q2 h2 fun p u z => w p u ((ef p).mpr (.inr z)))
    · cases e
end
open Classical in
noncomputable def frzG (g : Gs) (F : Fp) : Gs := ⟨fun p => if F p ∧ (g.M p).isSome then g.M p else g.S p, fun p => if F p then none else g.M p⟩
open Classical in
theorem frzG_st (k : GsOk g H) {F : Fp} : Same g.S (frzG g F).S := fun p u e => by
  show (if F p ∧ (g.M p).isSome then g.M p else g.S p) = some u
  by_cases h : F p ∧ (g.M p).isSome
  · obtain ⟨o, ho⟩ := Option.isSome_iff_exists.mp h.2
    have := k.d p o ho
    rw [e] at this
    cases this
  · rw [if_neg h]; exact e
open Classical in
theorem frzG_ok (k : GsOk g H) {F : Fp} : GsOk (frzG g F) H := by
  refine ⟨fun p u e => ?_, fun p u e => ?_, fun p u e => ?_⟩
  · have e' : (if F p ∧ (g.M p).isSome then g.M p else g.S p) = some u := e
    by_cases h : F p ∧ (g.M p).isSome
    · rw [if_pos h] at e'; exact k.m p u e'
    · rw [if_neg h] at e'; exact k.s p u e'
  · have e' : (if F p then none else g.M p) = some u := e
    by_cases h : F p
    · rw [if_pos h] at e'; cases e'
    · rw [if_neg h] at e'; exact k.m p u e'
  · have e' : (if F p then none else g.M p) = some u := e
    by_cases h : F p
    · rw [if_pos h] at e'; cases e'
    · rw [if_neg h] at e'
      show (if F p ∧ (g.M p).isSome then g.M p else g.S p) = none
      rw [if_neg fun z => h z.1]
      exact k.d p u e'
open Classical in
theorem frzG_kp (k : GsOk g H) {F F' : Fp} (d : Dj F' F) : Kp g (frzG g F) F' := ⟨frzG_st k, fun p o z e => by
  show (if F p then none else g.M p) = some o
  rw [if_neg fun y => d p z y]; exact e⟩
open Classical in
theorem frzG_stp (k : GsOk g H) {F F' : Fp} (h : ∀ p, F p → F' p) : Stp g F' (frzG g F) fun p => F' p ∧ ¬ F p :=
  ⟨frzG_st k, fun p o e n => by
    show (if F p then none else g.M p) = some o
    rw [if_neg fun y => n (h p y)]; exact e, fun p z => .inl z.1⟩
open Classical in
theorem frzG_rp (k : GsOk g H) {o : Ow} {d : Dt} {v : V} {F : Fp} (e : frz o = some d) (h : OwR mg K g o v F) : Rp K (frzG g F).S v d :=
  frz_rp (frzG_st k) o e h fun p u z q => by
    show (if F p ∧ (g.M p).isSome then g.M p else g.S p) = some u
    rw [if_pos ⟨z, by rw [q]; rfl⟩]; exact q
end
/-! ### slots -/
def SlR (mg : Str → Option Value) (K : PySem.W.Frag) (g : Gs) (o : Ow) (v : Option V) (F : Fp) : Prop := (o = .no ∧ Em F) ∨ ∃ u, v = some u ∧ OwR mg K g o u F
def Srs (mg : Str → Option Value) (K : PySem.W.Frag) (g : Gs) : List Ow → List (Option V) → Fp → Prop
  | [], vs, F => vs = [] ∧ Em F
  | o :: os, vs, F => ∃ v r F1 F2, vs = v :: r ∧ SlR mg K g o v F1 ∧ Srs mg K g os r F2 ∧ Dj F1 F2 ∧ ∀ p, F p ↔ F1 p ∨ F2 p
section
variable {mg : Str → Option Value} {K : PySem.W.Frag} {g g' : Gs} {H : Hp}
theorem SlR.kp {o : Ow} {v : Option V} {F : Fp} (w : Kp g g' F) : SlR mg K g o v F → SlR mg K g' o v F
  | .inl h => .inl h
  | .inr ⟨u, e, h⟩ => .inr ⟨u, e, OwR.kp o w h⟩
theorem SlR.in_ {o : Ow} {v : Option V} {F : Fp} : SlR mg K g o v F → ∀ p, F p → ∃ u, g.M p = some u
  | .inl h, p, z => (h.2 p z).elim
  | .inr ⟨u, e, h⟩, p, z => OwR.in_ o h p z
theorem SlR.get {o : Ow} {v : Option V} {F : Fp} (h : SlR mg K g o v F) (n : o ≠ .no) : ∃ u, v = some u ∧ OwR mg K g o u F := by
  rcases h with h | h
  · exact absurd h.1 n
  · exact h
theorem Srs.kp : ∀ {os : List Ow} {vs : List (Option V)} {F : Fp}, Kp g g' F → Srs mg K g os vs F → Srs mg K g' os vs F
  | [], _, _, _, h => h
  | o :: os, _, _, w, ⟨v, r, F1, F2, e1, h1, h2, hd, e⟩ =>
    ⟨v, r, F1, F2, e1, h1.kp (w.sub fun p z => (e p).mpr (.inl z)), Srs.kp (w.sub fun p z => (e p).mpr (.inr z)) h2, hd, e⟩
theorem Srs.in_ : ∀ {os : List Ow} {vs : List (Option V)} {F : Fp}, Srs mg K g os vs F → ∀ p, F p → ∃ u, g.M p = some u
  | [], _, _, h, p, z => (h.2 p z).elim
  | o :: os, _, _, ⟨v, r, F1, F2, _, h1, h2, _, e⟩, p, z => by
    rcases (e p).mp z with y | y
    · exact h1.in_ p y
    · exact Srs.in_ h2 p y
theorem Srs.eqv : ∀ {os : List Ow} {vs : List (Option V)} {F F' : Fp}, (∀ p, F p ↔ F' p) → Srs mg K g os vs F → Srs mg K g os vs F'
  | [], _, _, _, w, h => ⟨h.1, fun p z => h.2 p ((w p).mpr z)⟩
  | o :: os, _, _, _, w, ⟨v, r, F1, F2, e1, h1, h2, hd, e⟩ => ⟨v, r, F1, F2, e1, h1, h2, hd, fun p => (w p).symm.trans (e p)⟩
theorem Srs.len : ∀ {os : List Ow} {vs : List (Option V)} {F : Fp}, Srs mg K g os vs F → vs.length = os.length
  | [], _, _, h => by rw [h.1]; rfl
  | o :: os, _, _, ⟨v, r, F1, F2, e1, h1, h2, hd, e⟩ => by rw [e1, List.length_cons, List.length_cons, Srs.len h2]
theorem Srs.at : ∀ {os : List Ow} {vs : List (Option V)} {F : Fp} {i : Nat} {o : Ow}, Srs mg K g os vs F → os[i]? = some o →
    ∃ v F1 F2, vs[i]? = some v ∧ SlR mg K g o v F1 ∧ Dj F1 F2 ∧ (∀ p, F p ↔ F1 p ∨ F2 p) ∧
      ∀ g' o' v' F1', Kp g g' F2 → SlR mg K g' o' v' F1' → Dj F1' F2 → Srs mg K g' (os.set i o') (vs.set i v') fun p => F1' p ∨ F2 p
  | [], _, _, _, _, _, e => by simp at e
  | o :: os, _, _, 0, _, ⟨v, r, F1, F2, e1, h1, h2, hd, e⟩, q => by
    rw [e1]
    simp at q
    subst q
    exact ⟨v, F1, F2, rfl, h1, hd, e, fun g' o' v' F1' w h' d' => ⟨v', r, F1', F2, rfl, h', Srs.kp w h2, d', fun p => Iff.rfl⟩⟩
  | o :: os, _, _, i + 1, _, ⟨v, r, F1, F2, e1, h1, h2, hd, e⟩, q => by
    rw [e1]
    obtain ⟨v2, G1, G2, f1, f2, f3, f4, f5⟩ := Srs.at (i := i) h2 (by simpa using q)
    refine ⟨v2, G1, fun p => F1 p ∨ G2 p, by simpa using f1, f2, fun p z y => y.elim (fun y => hd p y ((f4 p).mpr (.inl z))) (f3 p z), fun p => ?_, fun g' o' v' F1' w h' d' => ?_⟩
    · rw [e p, f4 p]
      constructor
      · rintro (z | z | z) <;> simp [z]
      · rintro (z | z | z) <;> simp [z]
    · refine ⟨v, r.set i v', F1, fun p => F1' p ∨ G2 p, by simp, h1.kp (w.sub fun p z => .inl z), f5 g' o' v' F1' (w.sub fun p z => .inr z) h' fun p z y => d' p z (.inr y), fun p z y => ?_, fun p => ?_⟩
      · rcases y with y | y
        · exact d' p y (.inl z)
        · exact hd p z ((f4 p).mpr (.inr y))
      · constructor
        · rintro (z | z | z) <;> simp [z]
        · rintro (z | z | z) <;> simp [z]
/-- the value stays in its slot -/
theorem set_self {α : Type} {vs : List α} {i : Nat} {v : α} (h : vs[i]? = some v) : vs.set i v = vs := by
  apply List.ext_getElem?
  intro j
  by_cases hj : i = j
  · subst hj
    rw [List.getElem?_set_self (List.getElem?_eq_some_iff.mp h).1, h]
  · rw [List.getElem?_set_ne hj]
theorem Srs.bare : ∀ (n : Nat), Srs mg K g (List.replicate n .no) (List.replicate n none) fun _ => False
  | 0 => ⟨rfl, fun _ z => z⟩
  | n + 1 => ⟨none, _, fun _ => False, fun _ => False, rfl, .inl ⟨rfl, fun _ z => z⟩, Srs.bare n, fun _ z _ => z, fun _ => ⟨.inl, fun z => z.elim id id⟩⟩
theorem Srs.of : ∀ {os : List Ow} {vs : List V} {F : Fp} (n : Nat), OwRs mg K g os vs F → Srs mg K g (os ++ List.replicate n .no) (vs.map some ++ List.replicate n none) F
  | [], _, _, n, h => by
    rw [h.1]
    exact Srs.eqv (fun p => ⟨False.elim, fun z => h.2 p z⟩) (Srs.bare n)
  | o :: os, _, _, n, ⟨v, r, F1, F2, e1, h1, h2, hd, e⟩ => by
    rw [e1]
    exact ⟨some v, _, F1, F2, rfl, .inr ⟨v, rfl, h1⟩, Srs.of n h2, hd, e⟩
end
structure Good (X : Cx) (g : Gs) (H : Hp) (σ : L2.St) (ρ : List Ow) (F : Fp) : Prop where
  ok : GsOk g H
  sr : Srs X.mg X.K g ρ σ F
end OW
namespace OW
open PySem PySem.Spec PyProof.Rows L2
open DL (Dt Rp RpAll SqX pe_no pt_no pw_no ps_no pss_no)
/-! ### what comes of a piece of a program -/
abbrev Ev := List Ow
inductive Rs (α : Type) where
  | ok (a : α) (ρ : Ev)
  | ex (c : Str) (d : Option (Str × Dt)) (ρ : Ev)
abbrev Fn (α : Type) := Ev → Option (Rs α)
def bnd {α β : Type} (m : Fn α) (k : α → Fn β) : Fn β := fun ρ => match m ρ with
  | none => none
  | some (.ok a ρ1) => k a ρ1
  | some (.ex c d ρ1) => some (.ex c d ρ1)
def ret {α : Type} (a : α) : Fn α := fun ρ => some (.ok a ρ)
def opt {α : Type} (a : Option α) : Fn α := fun ρ => match a with
  | some x => some (.ok x ρ)
  | none => none
theorem bnd_inv {α β : Type} {m : Fn α} {k : α → Fn β} {ρ : Ev} {r : Rs β} (h : bnd m k ρ = some r) : (∃ a ρ1, m ρ = some (.ok a ρ1) ∧ k a ρ1 = some r) ∨ ∃ c d ρ1, m ρ = some (.ex c d ρ1) ∧ r = .ex c d ρ1 := by
  unfold bnd at h
  split at h
  · cases h
  · rename_i a ρ1 e
    exact .inl ⟨a, ρ1, e, h⟩
  · rename_i c d ρ1 e
    cases h
    exact .inr ⟨c, d, ρ1, e, rfl⟩
theorem opt_inv {α : Type} {a : Option α} {ρ : Ev} {r : Rs α} (h : opt a ρ = some r) : ∃ x, a = some x ∧ r = .ok x ρ := by
  unfold opt at h
  split at h
  · cases h; exact ⟨_, rfl, rfl⟩
  · cases h
def ExR (X : Cx) (g : Gs) (c : Str) (d : Option (Str × Dt)) (cls : Value) (dx : Option Addr) : Prop := ∃ C, X.mg c = some (.ref C) ∧ cls = .ref C ∧ match d with
  | none => dx = none
  | some (f, y) => ∃ a v, dx = some a ∧ g.S a = some (.xd [(f, v)]) ∧ Rp X.K g.S v y
def Pst {α β : Type} (X : Cx) (W : WX) (rel : Gs → α → β → Fp → Prop) (σ : L2.St) (g : Gs) (F : Fp) (Q : β → Hp → Prop) : Rs α → Prop
  | .ok a ρ' => ∀ b H' g' F' Fv, Good X g' H' σ ρ' F' → rel g' a b Fv → Dj F' Fv → Stp g F g' (fun p => F' p ∨ Fv p) → Q b H'
  | .ex c d ρ' => ∀ cls dx H' g' F', Good X g' H' σ ρ' F' → ExR X g' c d cls dx → Stp g F g' F' → W cls dx σ H'
def RX {α β : Type} (X : Cx) (W : WX) (rel : Gs → α → β → Fp → Prop) (t : L2.St → Hp → (β → Hp → Prop) → Prop) (ρ : Ev) (r : Rs α) : Prop :=
  ∀ σ H g F Q, Good X g H σ ρ F → Pst X W rel σ g F Q r → t σ H Q
def rV (X : Cx) (g : Gs) (o : Ow) (v : V) (F : Fp) : Prop := OwR X.mg X.K g o v F
def rA (X : Cx) (g : Gs) (os : List Ow) (vs : List V) (F : Fp) : Prop := OwRs X.mg X.K g os vs F
def rB (g : Gs) (a b : Bool) (F : Fp) : Prop := a = b ∧ Em F
structure Frm {α β : Type} (rel : Gs → α → β → Fp → Prop) : Prop where
  kp : ∀ g g' a b F, Kp g g' F → rel g a b F → rel g' a b F
  in_ : ∀ g a b F, rel g a b F → ∀ p, F p → ∃ u, g.M p = some u
theorem frm_V {X : Cx} : Frm (rV X) := ⟨fun _ _ a _ _ w h => OwR.kp a w h, fun _ a _ _ h => OwR.in_ a h⟩
theorem frm_A {X : Cx} : Frm (rA X) := ⟨fun _ _ a _ _ w h => OwRs.kp a w h, fun _ a _ _ h => OwRs.in_ a h⟩
def DE (X : Cx) (W : WX) (e : Expr) (f : Fn Ow) : Prop := ∀ ρ r, f ρ = some r → ∃ t, PE X e t ∧ RX X W (rV X) t ρ r
def DT (X : Cx) (W : WX) (e : Expr) (f : Fn Bool) : Prop := ∀ ρ r, f ρ = some r → ∃ t, PT X e t ∧ RX X W rB t ρ r
def DW (X : Cx) (W : WX) (e : Expr) (f : Fn Bool) : Prop := ∀ ρ r, f ρ = some r → ∃ t, PW X e t ∧ RX X W rB t ρ r
def DA (X : Cx) (W : WX) (es : List Expr) (f : Fn (List Ow)) : Prop := ∀ ρ r, f ρ = some r → ∃ t, PA X es t ∧ RX X W (rA X) t ρ r
section
variable {X : Cx} {W : WX} {α β γ δ : Type} {rel : Gs → α → β → Fp → Prop} {rel2 : Gs → γ → δ → Fp → Prop} {σ : L2.St} {g g1 g2 g3 : Gs} {F F1 F2 Fa Fz : Fp} {H H1 H2 H3 : Hp} {ρ ρ1 ρ2 : Ev}
theorem Pst.ex {c : Str} {d : Option (Str × Dt)} {Q : β → Hp → Prop} {Q' : δ → Hp → Prop} (h : Pst X W rel σ g F Q (.ex c d ρ1)) (s : Stp g F g1 fun p => F1 p ∨ Fa p) : Pst X W rel2 σ g1 F1 Q' (.ex c d ρ1) :=
  fun cls dx H' g' F' G e z => h cls dx H' g' F' G e ((Stp.trans s z).sub fun _ => .inl)
/-- an operation on values, behind the evaluation of what it takes -/
theorem Good.op (G : Good X g2 H2 σ ρ F2) (s : Stp g F g2 fun p => F2 p ∨ Fa p) (d : Dj F2 Fa) (k : GsOk g3 H3) (z : Stp g2 Fa g3 Fz) : Good X g3 H3 σ ρ F2 ∧ Dj F2 Fz ∧ Stp g F g3 fun p => F2 p ∨ Fz p := by
  refine ⟨⟨k, G.sr.kp (z.kp d)⟩, fun p y w => ?_, (Stp.trans (F1 := Fa) (Fa := F2) (s.sub fun p => Or.symm) z).sub fun p => Or.symm⟩
  rcases z.fr p w with h | ⟨_, h⟩
  · exact d p y h
  · obtain ⟨u, e⟩ := G.sr.in_ p y
    rw [e] at h; cases h
/-- one behind the other, the first one's value is kept meanwhile -/
theorem RX.seq {a : α} {r2 : Rs γ} {t1 : L2.St → Hp → (β → Hp → Prop) → Prop} {t2 : L2.St → Hp → (δ → Hp → Prop) → Prop} {Q : β → δ → Hp → Prop} (fm : Frm rel) (fm2 : Frm rel2) (h1 : RX X W rel t1 ρ (.ok a ρ1)) (h2 : RX X W rel2 t2 ρ1 r2) (G : Good X g H σ ρ F)
    (hq : match r2 with
      | .ok b ρ2 => ∀ x y H2 g2 F2 Fa Fb, Good X g2 H2 σ ρ2 F2 → rel g2 a x Fa → rel2 g2 b y Fb → Dj Fa Fb → Dj F2 (fun p => Fa p ∨ Fb p) → Stp g F g2 (fun p => F2 p ∨ (Fa p ∨ Fb p)) → Q x y H2
      | .ex c d ρ2 => ∀ cls dx H' g' F', Good X g' H' σ ρ2 F' → ExR X g' c d cls dx → Stp g F g' F' → W cls dx σ H') : t1 σ H fun x H1 => t2 σ H1 fun y H2 => Q x y H2 := by
  refine h1 σ H g F _ G fun x H1 g1 F1 Fa G1 r1 d1 s1 => h2 σ H1 g1 F1 _ G1 ?_
  cases r2 with
  | ex c d ρ2 => exact fun cls dx H' g' F' G' e z => hq cls dx H' g' F' G' e ((Stp.trans s1 z).sub fun _ => .inl)
  | ok b ρ2 =>
    intro y H2 g2 F2 Fb G2 r2 d2 s2
    have k : Kp g1 g2 Fa := s2.kp fun p z y => d1 p y z
    have nf : ∀ p, Fa p → ∀ w : g1.S p = none ∧ g1.M p = none, False := fun p z w => by
      obtain ⟨u, e⟩ := fm.in_ _ _ _ _ r1 p z
      rw [e] at w; cases w.2
    refine hq x y H2 g2 F2 Fa Fb G2 (fm.kp _ _ _ _ _ k r1) r2 (fun p z y => ?_) (fun p z y => ?_) ((Stp.trans s1 s2).sub fun p z => ?_)
    · rcases s2.fr p (.inr y) with w | w
      · exact d1 p w z
      · exact nf p z w
    · rcases y with y | y
      · rcases s2.fr p (.inl z) with w | w
        · exact d1 p w y
        · exact nf p y w
      · exact d2 p z y
    · rcases z with z | z | z
      · exact .inl (.inl z)
      · exact .inr z
      · exact .inl (.inr z)
end
/-! ### names, constants -/
def xK (d : Dt) : Fn Ow := ret (.f d)
/-- a name: what it holds is shared from now on -/
def xV (i : Nat) : Fn Ow := fun ρ => match ρ[i]? with
  | some (.f d) => some (.ok (.f d) ρ)
  | some o => match frz o with
    | some d => some (.ok (.f d) (ρ.set i (.f d)))
    | none => none
  | none => none
/-- a name, whose value is taken out of it -/
def xM (i : Nat) : Fn Ow := fun ρ => match ρ[i]? with
  | some (.f d) => some (.ok (.f d) ρ)
  | some (.n k os) => some (.ok (.n k os) (ρ.set i .no))
  | _ => none
section
variable {X : Cx} {W : WX} {pos : Pos}
theorem rx_k {v : V} {d : Dt} {ρ : Ev} (h : ∀ S, Rp X.K S v d) : RX X W (rV X) (tC v) ρ (.ok (.f d) ρ) := fun σ H g F Q G q =>
  q v H g F (fun _ => False) G ⟨h _, fun _ z => z⟩ (fun _ _ z => z) (Stp.refl fun p z => z.elim id False.elim)
theorem de_int {i : Int} {j : Nat} : DE X W (.Constant (.int i) j pos) (xK (.int i)) := fun ρ r h => by cases h; exact ⟨_, pe_int, rx_k fun _ => .int i⟩
theorem de_bl {i : Bool} {j : Nat} : DE X W (.Constant (.bool i) j pos) (xK (.bl i)) := fun ρ r h => by cases h; exact ⟨_, pe_bl, rx_k fun _ => .bl i⟩
theorem de_non {j : Nat} : DE X W (.Constant .none j pos) (xK .non) := fun ρ r h => by cases h; exact ⟨_, pe_non, rx_k fun _ => .non⟩
theorem de_globI {nm : Str} {i : Int} (h : ∃ t, X.mg nm = some (Value.int i t)) (hg : Gl X nm := by rfl) (hd : (nm == ("__debug__" : Str)) = false := by decide) : DE X W (.Name nm pos) (xK (.int i)) := fun ρ r e => by
  cases e
  obtain ⟨t, h⟩ := h
  exact ⟨_, pe_glob (v := .int i) hg h ⟨_, rfl⟩ hd, rx_k fun _ => .int i⟩
theorem de_v (i : Nat) {nm : Str} (hN : X.N[i]? = some nm := by rfl) (hv : Vis X.env.scope nm := by first | exact Or.inl rfl | exact Or.inr (Or.inl rfl) | exact Or.inr (Or.inr rfl))
    (hd : (nm == ("__debug__" : Str)) = false := by decide) (hcd : (nm == ("__classdict__" : Str)) = false := by decide) : DE X W (.Name nm pos) (xV i) := fun ρ r h => by
  refine ⟨_, pe_var hN hv hd hcd, ?_⟩
  unfold xV at h
  split at h
  · rename_i d e
    cases h
    intro σ H g F Q G q
    obtain ⟨v, F1, F2, e1, e2, e3, e4, e5⟩ := G.sr.at e
    obtain ⟨u, rfl, hu⟩ := e2.get (by simp)
    exact ⟨u, e1, q u H g F (fun _ => False) G ⟨hu.1, fun _ z => z⟩ (fun _ _ z => z) (Stp.refl fun p z => z.elim id False.elim)⟩
  · rename_i o n e
    split at h
    · rename_i d ed
      cases h
      intro σ H g F Q G q
      obtain ⟨v, F1, F2, e1, e2, e3, e4, e5⟩ := G.sr.at e
      obtain ⟨u, rfl, hu⟩ := e2.get (by intro z; subst z; simp [frz] at ed)
      have rp := frzG_rp G.ok ed hu
      have st := frzG_stp G.ok (F := F1) (F' := F) fun p z => (e4 p).mpr (.inl z)
      have sr := e5 (frzG g F1) (.f d) (some u) (fun _ => False) (frzG_kp G.ok fun p y z => e3 p z y) (.inr ⟨u, rfl, rp, fun _ z => z⟩) fun _ z _ => z
      rw [set_self e1] at sr
      exact ⟨u, e1, q u H _ _ (fun _ => False) ⟨frzG_ok G.ok, sr⟩ ⟨rp, fun _ z => z⟩ (fun _ _ z => z) (st.sub fun p z => by
        rcases z with (z | z) | z
        · exact z.elim
        · exact ⟨(e4 p).mpr (.inr z), fun y => e3 p y z⟩
        · exact z.elim)⟩
    · cases h
  · cases h
theorem de_m (i : Nat) {nm : Str} (hN : X.N[i]? = some nm := by rfl) (hv : Vis X.env.scope nm := by first | exact Or.inl rfl | exact Or.inr (Or.inl rfl) | exact Or.inr (Or.inr rfl))
    (hd : (nm == ("__debug__" : Str)) = false := by decide) (hcd : (nm == ("__classdict__" : Str)) = false := by decide) : DE X W (.Name nm pos) (xM i) := fun ρ r h => by
  refine ⟨_, pe_var hN hv hd hcd, ?_⟩
  unfold xM at h
  split at h
  · rename_i d e
    cases h
    intro σ H g F Q G q
    obtain ⟨v, F1, F2, e1, e2, e3, e4, e5⟩ := G.sr.at e
    obtain ⟨u, rfl, hu⟩ := e2.get (by simp)
    exact ⟨u, e1, q u H g F (fun _ => False) G ⟨hu.1, fun _ z => z⟩ (fun _ _ z => z) (Stp.refl fun p z => z.elim id False.elim)⟩
  · rename_i k os e
    cases h
    intro σ H g F Q G q
    obtain ⟨v, F1, F2, e1, e2, e3, e4, e5⟩ := G.sr.at e
    obtain ⟨u, rfl, hu⟩ := e2.get (by simp)
    have sr := e5 g .no (some u) (fun _ => False) Kp.refl (.inl ⟨rfl, fun _ z => z⟩) fun _ z _ => z
    rw [set_self e1] at sr
    refine ⟨u, e1, q u H g (fun p => False ∨ F2 p) F1 ⟨G.ok, sr⟩ hu (fun p z y => z.elim id fun z => e3 p y z) (Stp.refl fun p z => ?_)⟩
    rcases z with (z | z) | z
    · exact z.elim
    · exact (e4 p).mpr (.inr z)
    · exact (e4 p).mpr (.inl z)
  · cases h
end
/-! ### operators -/
def xBin (B : Ow → Ow → Option Ow) (a b : Fn Ow) : Fn Ow := bnd a fun x => bnd b fun y => opt (B x y)
def xUn (B : Ow → Option Ow) (a : Fn Ow) : Fn Ow := bnd a fun x => opt (B x)
/-- a rule by values keeps the word -/
def RO2 (X : Cx) (r : R2) (x y z : Ow) : Prop := ∀ v u H g Fx Fy (Q : VK), GsOk g H → OwR X.mg X.K g x v Fx → OwR X.mg X.K g y u Fy → Dj Fx Fy →
  (∀ w H' g' Fz, GsOk g' H' → OwR X.mg X.K g' z w Fz → Stp g (fun p => Fx p ∨ Fy p) g' Fz → Q w H') → r v u H Q
def RU2 (X : Cx) (r : V → Hp → VK → Prop) (x z : Ow) : Prop := ∀ v H g Fx (Q : VK), GsOk g H → OwR X.mg X.K g x v Fx →
  (∀ w H' g' Fz, GsOk g' H' → OwR X.mg X.K g' z w Fz → Stp g Fx g' Fz → Q w H') → r v H Q
def RC2 (X : Cx) (r : List V → Hp → VK → Prop) (os : List Ow) (z : Ow) : Prop := ∀ vs H g Fx (Q : VK), GsOk g H → OwRs X.mg X.K g os vs Fx →
  (∀ w H' g' Fz, GsOk g' H' → OwR X.mg X.K g' z w Fz → Stp g Fx g' Fz → Q w H') → r vs H Q
section
variable {X : Cx} {W : WX} {pos : Pos} {a b c e : Expr} {es : List Expr} {fa fb fc fe : Fn Ow} {k : Nat}
theorem rx_bin {ta tb : TE} {r : R2} {x y z : Ow} {ρ ρ1 ρ2 : Ev} (ha : RX X W (rV X) ta ρ (.ok x ρ1)) (hb : RX X W (rV X) tb ρ1 (.ok y ρ2)) (hr : RO2 X r x y z) : RX X W (rV X) (tOp r ta tb) ρ (.ok z ρ2) := fun σ H g F Q G q =>
  RX.seq frm_V frm_V ha hb G fun v u H2 g2 F2 Fa Fb G2 r1 r2 d1 d2 s => hr v u H2 g2 Fa Fb Q G2.ok r1 r2 d1 fun w H3 g3 Fz k3 r3 s3 =>
    let ⟨G3, d3, s4⟩ := G2.op s d2 k3 s3
    q w H3 g3 F2 Fz G3 r3 d3 s4
theorem rx_bin_b {ta tb : TE} {r : R2} {x : Ow} {ρ ρ1 ρ2 : Ev} {c : Str} {d : Option (Str × Dt)} (ha : RX X W (rV X) ta ρ (.ok x ρ1)) (hb : RX X W (rV X) tb ρ1 (.ex c d ρ2)) : RX X W (rV X) (tOp r ta tb) ρ (.ex c d ρ2) := fun σ H g F Q G q =>
  RX.seq (Q := fun x y H2 => r x y H2 Q) frm_V frm_V ha hb G q
theorem rx_bin_a {ta tb : TE} {r : R2} {ρ ρ1 : Ev} {c : Str} {d : Option (Str × Dt)} (ha : RX X W (rV X) ta ρ (.ex c d ρ1)) : RX X W (rV X) (tOp r ta tb) ρ (.ex c d ρ1) := fun σ H g F Q G q => ha σ H g F _ G q
/-- two parts, an operator, any form of it -/
theorem de_bin_of {B : Ow → Ow → Option Ow} {T : R2 → TE → TE → TE} (hT : ∀ r ta tb, T r ta tb = tOp r ta tb) {O : R2 → Prop} (hP : ∀ r ta tb, O r → PE X a ta → PE X b tb → PE X e (T r ta tb)) (hB : ∀ x y z, B x y = some z → ∃ r, O r ∧ RO2 X r x y z) (h0 : ∃ r, O r) (ha : DE X W a fa) (hb : DE X W b fb) : DE X W e (xBin B fa fb) := fun ρ q h => by
  obtain ⟨r0, o0⟩ := h0
  rcases bnd_inv h with ⟨x, ρ1, h1, h2⟩ | ⟨c, d, ρ1, h1, rfl⟩
  · obtain ⟨ta, pa, qa⟩ := ha ρ _ h1
    rcases bnd_inv h2 with ⟨y, ρ2, h3, h4⟩ | ⟨c, d, ρ2, h3, rfl⟩
    · obtain ⟨tb, pb, qb⟩ := hb ρ1 _ h3
      obtain ⟨z, h5, rfl⟩ := opt_inv h4
      obtain ⟨r, o, hr⟩ := hB x y z h5
      exact ⟨_, hP r ta tb o pa pb, by rw [hT]; exact rx_bin qa qb hr⟩
    · obtain ⟨tb, pb, qb⟩ := hb ρ1 _ h3
      exact ⟨_, hP r0 ta tb o0 pa pb, by rw [hT]; exact rx_bin_b qa qb⟩
  · obtain ⟨ta, pa, qa⟩ := ha ρ _ h1
    exact ⟨_, hP r0 ta _ o0 pa pe_no, by rw [hT]; exact rx_bin_a qa⟩
theorem de_bin {op : Operator} {B : Ow → Ow → Option Ow} (hB : ∀ x y z, B x y = some z → ∃ r, OpR X (binaryOp op) r ∧ RO2 X r x y z) (h0 : ∃ r, OpR X (binaryOp op) r) (ha : DE X W a fa) (hb : DE X W b fb) : DE X W (.BinOp a op b pos) (xBin B fa fb) :=
  de_bin_of (T := tOp) (fun _ _ _ => rfl) (O := OpR X (binaryOp op)) (fun r ta tb o pa pb => pe_op o pa pb) hB h0 ha hb
theorem de_un {op : UnaryOp} {B : Ow → Option Ow} {r : V → Hp → VK → Prop} (ho : UnR X (unaryOp op) r) (hB : ∀ x z, B x = some z → RU2 X r x z) (ha : DE X W a fa) : DE X W (.UnaryOp op a pos) (xUn B fa) := fun ρ q h => by
  rcases bnd_inv h with ⟨x, ρ1, h1, h2⟩ | ⟨c, d, ρ1, h1, rfl⟩
  · obtain ⟨ta, pa, qa⟩ := ha ρ _ h1
    obtain ⟨z, h5, rfl⟩ := opt_inv h2
    refine ⟨_, pe_un ho pa, fun σ H g F Q G q => qa σ H g F _ G fun v H1 g1 F1 Fa G1 r1 d1 s1 => hB x z h5 v H1 g1 Fa Q G1.ok r1 fun w H3 g3 Fz k3 r3 s3 => ?_⟩
    obtain ⟨G3, d3, s4⟩ := G1.op s1 d1 k3 s3
    exact q w H3 g3 F1 Fz G3 r3 d3 s4
  · obtain ⟨ta, pa, qa⟩ := ha ρ _ h1
    exact ⟨_, pe_un ho pa, fun σ H g F Q G q => qa σ H g F _ G q⟩
end
/-! ### the rules of ints -/
section
variable {X : Cx} {x y z : Ow}
/-- what is told of a scalar -/
theorem ro_of {r : R2} {d e c : Dt} (h : ∀ v u H S (Q : VK), Rp X.K S v d → Rp X.K S u e → (∀ w, (∀ S, Rp X.K S w c) → Q w H) → r v u H Q) : RO2 X r (.f d) (.f e) (.f c) := fun v u H g Fx Fy Q k rx ry _ q =>
  h v u H g.S Q rx.1 ry.1 fun w hw => q w H g (fun _ => False) k ⟨hw _, fun _ z => z⟩ (Stp.refl fun _ z => z.elim)
theorem ro_ii {f : Int → Int → Int} {C : Int → Int → Prop} {i j : Int} (hc : C i j) : RO2 X (rI C fun i j => V.int (f i j)) (.i i) (.i j) (.i (f i j)) := ro_of fun v u H S Q rx ry q => by
  cases rx; cases ry
  exact ⟨i, j, rfl, rfl, hc, q _ fun _ => .int _⟩
theorem ro_i0 {f : Int → Int → Int} {i j : Int} : RO2 X (rI0 fun i j => V.int (f i j)) (.i i) (.i j) (.i (f i j)) := ro_of fun v u H S Q rx ry q => by
  cases rx; cases ry
  exact ⟨i, j, rfl, rfl, q _ fun _ => .int _⟩
theorem ro_b0 {f : Int → Int → Bool} {i j : Int} : RO2 X (rI0 fun i j => V.bl (f i j)) (.i i) (.i j) (.b (f i j)) := ro_of fun v u H S Q rx ry q => by
  cases rx; cases ry
  exact ⟨i, j, rfl, rfl, q _ fun _ => .bl _⟩
end
end OW
namespace OW
open PySem PySem.Spec PyProof.Rows L2
open DL (Dt Rp RpAll SqX pe_no pt_no pw_no ps_no pss_no CPowD op_powD)
/-! ### arguments -/
def xA0 : Fn (List Ow) := ret []
def xA1 (f : Fn Ow) (g : Fn (List Ow)) : Fn (List Ow) := bnd f fun o => bnd g fun os => ret (o :: os)
theorem pa_no {X : Cx} {es : List Expr} : PA X es (fun _ _ _ => False) := ⟨fun _ _ _ _ _ _ _ h => h.elim⟩
section
variable {X : Cx} {W : WX} {pos : Pos} {a b c e : Expr} {es : List Expr} {fa fb fc fe : Fn Ow} {fs : Fn (List Ow)} {k : Nat}
theorem rx_ret {α β : Type} {rel : Gs → α → β → Fp → Prop} {t : L2.St → Hp → (β → Hp → Prop) → Prop} {a : α} {b : β} {ρ : Ev} (ht : ∀ σ H Q, Q b H → t σ H Q) (h : ∀ g, rel g a b fun _ => False) : RX X W rel t ρ (.ok a ρ) := fun σ H g F Q G q =>
  ht σ H Q (q b H g F (fun _ => False) G (h g) (fun _ _ z => z) (Stp.refl fun p z => z.elim id False.elim))
theorem da_0 : DA X W [] xA0 := fun ρ r h => by
  cases h
  exact ⟨_, pa_nil, rx_ret (b := []) (fun σ H Q q => q) fun g => ⟨rfl, fun _ z => z⟩⟩
theorem da_1 (ha : DE X W e fe) (hs : DA X W es fs) (hst : starEach (e :: es) X.env = (false, eval e X.env) :: starEach es X.env := by rfl) : DA X W (e :: es) (xA1 fe fs) := fun ρ r h => by
  rcases bnd_inv h with ⟨x, ρ1, h1, h2⟩ | ⟨c, d, ρ1, h1, rfl⟩
  · obtain ⟨ta, pa, qa⟩ := ha ρ _ h1
    rcases bnd_inv h2 with ⟨os, ρ2, h3, h4⟩ | ⟨c, d, ρ2, h3, rfl⟩
    · obtain ⟨tb, pb, qb⟩ := hs ρ1 _ h3
      cases h4
      refine ⟨_, pa_cons pa pb hst, fun σ H g F Q G q => RX.seq (Q := fun x r H2 => Q (x :: r) H2) frm_V frm_A qa qb G fun v vs H2 g2 F2 Fa Fb G2 r1 r2 d1 d2 s => ?_⟩
      exact q (v :: vs) H2 g2 F2 (fun p => Fa p ∨ Fb p) G2 ⟨v, vs, Fa, Fb, rfl, r1, r2, d1, fun p => Iff.rfl⟩ d2 s
    · obtain ⟨tb, pb, qb⟩ := hs ρ1 _ h3
      exact ⟨_, pa_cons pa pb hst, fun σ H g F Q G q => RX.seq (Q := fun x r H2 => Q (x :: r) H2) frm_V frm_A qa qb G q⟩
  · obtain ⟨ta, pa, qa⟩ := ha ρ _ h1
    exact ⟨_, pa_cons pa pa_no hst, fun σ H g F Q G q => qa σ H g F _ G q⟩
end
/-! ### new lists and tuples -/
def LIM : Nat := 1000000
theorem lim_line {n : Nat} (h : n ≤ LIM) : n ≤ sizeLine := Nat.le_trans h (by decide)
section
variable {X : Cx} {W : WX} {pos : Pos} {a b c e : Expr} {es : List Expr} {fa fb fc fe : Fn Ow} {fs : Fn (List Ow)} {k : Nat} {mg : Str → Option Value} {K : PySem.W.Frag} {g : Gs} {H : Hp} {F : Fp} {vs : List V} {os : List Ow} {ds : List Dt}
theorem new_l (k : GsOk g H) (h : OwRs mg K g os vs F) {p : Addr} (hp : H p = none) :
    GsOk (g.hold p (.lst vs)) (upd H p (.lst vs)) ∧ OwR mg K (g.hold p (.lst vs)) (.l os) (.ref p) (fun q => q = p ∨ F q) ∧ Stp g F (g.hold p (.lst vs)) fun q => q = p ∨ F q := by
  obtain ⟨f1, f2⟩ := k.free hp
  have nF : ¬ F p := fun z => by
    obtain ⟨u, e⟩ := OwRs.in_ os h p z
    rw [f2] at e; cases e
  refine ⟨hold_ok k hp, ⟨p, vs, fun q => q = p, F, rfl, ⟨upd_same, fun q => Iff.rfl⟩, OwRs.kp os (hold_kp nF) h, fun q z y => nF (by rw [← show q = p from z]; exact y), fun q => Iff.rfl⟩, ⟨fun _ _ e => e, fun q u e n => ?_, fun q z => ?_⟩⟩
  · show upd g.M p _ q = _
    rw [upd_ne (ne_of_none e f2)]; exact e
  · rcases z with rfl | z
    · exact .inr ⟨f1, f2⟩
    · exact .inl z
theorem new_t (k : GsOk g H) (h : RpAll K g.S vs ds) {p : Addr} (hp : H p = none) :
    GsOk (g.stand p (.tup vs)) (upd H p (.tup vs)) ∧ Rp K (g.stand p (.tup vs)).S (.ref p) (.tup ds) ∧ Stp g F (g.stand p (.tup vs)) fun _ => False := by
  obtain ⟨f1, f2⟩ := k.free hp
  exact ⟨stand_ok k hp, .tup (SqT.of upd_same) (RpAll.mono (same_upd f1) _ _ h), stand_stp f1⟩
/-- what is given stands: the arguments of what reads alone -/
theorem frzs_ok (k : GsOk g H) (e : frzs os = some ds) (h : OwRs mg K g os vs F) : GsOk (frzG g F) H ∧ RpAll K (frzG g F).S vs ds ∧ Stp g F (frzG g F) fun _ => False := by
  classical
  refine ⟨frzG_ok k, frzs_rp (frzG_st k) os e h fun p u z q => ?_, (frzG_stp k fun _ z => z).sub fun p z => z.elim⟩
  show (if F p ∧ (g.M p).isSome then g.M p else g.S p) = some u
  rw [if_pos ⟨z, by rw [q]; rfl⟩]; exact q
def xLst (f : Fn (List Ow)) : Fn Ow := bnd f fun os => opt (if os.length ≤ LIM then some (.l os) else none)
def xTup (f : Fn (List Ow)) : Fn Ow := bnd f fun os => opt (if os.length ≤ LIM then (frzs os).map (fun ds => .f (.tup ds)) else none)
theorem de_lst (hs : DA X W es fs) : DE X W (.List es pos) (xLst fs) := fun ρ r h => by
  rcases bnd_inv h with ⟨os, ρ1, h1, h2⟩ | ⟨c, d, ρ1, h1, rfl⟩
  · obtain ⟨ta, pa, qa⟩ := hs ρ _ h1
    obtain ⟨z, h3, rfl⟩ := opt_inv h2
    split at h3
    · rename_i hl
      cases h3
      refine ⟨_, pe_lst pa, fun σ H g F Q G q => qa σ H g F _ G fun vs H1 g1 F1 Fa G1 r1 d1 s1 => ⟨by rw [OwRs.len r1]; exact lim_line hl, fun p hp => ?_⟩⟩
      obtain ⟨k, r, s⟩ := new_l G1.ok r1 hp
      obtain ⟨G3, d3, s3⟩ := G1.op s1 d1 k s
      exact q _ _ _ F1 _ G3 r d3 s3
    · cases h3
  · obtain ⟨ta, pa, qa⟩ := hs ρ _ h1
    exact ⟨_, pe_lst pa, fun σ H g F Q G q => qa σ H g F _ G q⟩
theorem de_tup (hs : DA X W es fs) : DE X W (.Tuple es k pos) (xTup fs) := fun ρ r h => by
  rcases bnd_inv h with ⟨os, ρ1, h1, h2⟩ | ⟨c, d, ρ1, h1, rfl⟩
  · obtain ⟨ta, pa, qa⟩ := hs ρ _ h1
    obtain ⟨z, h3, rfl⟩ := opt_inv h2
    split at h3
    · rename_i hl
      obtain ⟨ds, h4, rfl⟩ := Option.map_eq_some_iff.mp h3
      refine ⟨_, pe_tup pa, fun σ H g F Q G q => qa σ H g F _ G fun vs H1 g1 F1 Fa G1 r1 d1 s1 => ⟨by rw [OwRs.len r1]; exact lim_line hl, fun p hp => ?_⟩⟩
      obtain ⟨k1, r2, s2⟩ := frzs_ok G1.ok h4 r1
      obtain ⟨k, r, s⟩ := new_t (F := fun _ => False) k1 r2 hp
      obtain ⟨G3, d3, s3⟩ := G1.op s1 d1 k (s2.tr s)
      exact q _ _ _ F1 _ G3 ⟨r, fun _ z => z⟩ d3 s3
    · cases h3
  · obtain ⟨ta, pa, qa⟩ := hs ρ _ h1
    exact ⟨_, pe_tup pa, fun σ H g F Q G q => qa σ H g F _ G q⟩
end
/-! ### reading operations: what they take stands -/
def oB1 (B : Dt → Option Ow) (x : Ow) : Option Ow := match frz x with
  | some d => B d
  | none => none
def oB2 (B : Dt → Dt → Option Ow) (x y : Ow) : Option Ow := match frz x, frz y with
  | some d, some e => B d e
  | _, _ => none
def oBs (B : List Dt → Option Ow) (os : List Ow) : Option Ow := match frzs os with
  | some ds => B ds
  | none => none
def RF (X : Cx) (r : List V → Hp → VK → Prop) (ds : List Dt) (z : Ow) : Prop := ∀ vs H g (Q : VK), GsOk g H → RpAll X.K g.S vs ds →
  (∀ w H' g' Fz, GsOk g' H' → OwR X.mg X.K g' z w Fz → Stp g (fun _ => False) g' Fz → Q w H') → r vs H Q
section
variable {X : Cx} {W : WX} {pos p : Pos} {a b c e : Expr} {es : List Expr} {fa fb fc fe : Fn Ow} {fs : Fn (List Ow)} {k : Nat} {r : List V → Hp → VK → Prop} {os : List Ow} {ds : List Dt} {x y z : Ow}
theorem rf_rc (h : RF X r ds z) (e : frzs os = some ds) : RC2 X r os z := fun vs H g Fx Q k rv q => by
  obtain ⟨k1, r2, s2⟩ := frzs_ok k e rv
  exact h vs H _ Q k1 r2 fun w H' g' Fz k3 r3 s3 => q w H' g' Fz k3 r3 (s2.tr s3)
theorem oBs_rc {B : List Dt → Option Ow} {R : (List V → Hp → VK → Prop) → Prop} (hB : ∀ ds z, B ds = some z → ∃ r, R r ∧ RF X r ds z) {os : List Ow} {z : Ow} (h : oBs B os = some z) : ∃ r, R r ∧ RC2 X r os z := by
  unfold oBs at h
  split at h
  · rename_i ds e
    obtain ⟨r, o, hr⟩ := hB ds z h
    exact ⟨r, o, rf_rc hr e⟩
  · cases h
theorem oB2_ro {B : Dt → Dt → Option Ow} {R : R2 → Prop} (hB : ∀ d e z, B d e = some z → ∃ r, R r ∧ ∀ v u H g (Q : VK), GsOk g H → Rp X.K g.S v d → Rp X.K g.S u e → (∀ w H' g' Fz, GsOk g' H' → OwR X.mg X.K g' z w Fz → Stp g (fun _ => False) g' Fz → Q w H') → r v u H Q)
    {x y z : Ow} (h : oB2 B x y = some z) : ∃ r, R r ∧ RO2 X r x y z := by
  unfold oB2 at h
  split at h
  · rename_i d e e1 e2
    obtain ⟨r, o, hr⟩ := hB d e z h
    refine ⟨r, o, fun v u H g Fx Fy Q k rx ry dj q => ?_⟩
    have ef : frzs [x, y] = some [d, e] := by simp [frzs, e1, e2]
    have ow : OwRs X.mg X.K g [x, y] [v, u] fun p => Fx p ∨ Fy p := ⟨v, [u], Fx, Fy, rfl, rx, OwRs.one ry, dj, fun p => Iff.rfl⟩
    obtain ⟨k1, r2, s2⟩ := frzs_ok k ef ow
    cases r2 with
    | cons r3 r4 =>
      cases r4 with
      | cons r5 r6 => exact hr v u H _ Q k1 r3 r5 fun w H' g' Fz k3 r3 s3 => q w H' g' Fz k3 r3 (s2.tr s3)
  · cases h
/-- calls of what is built in -/
def xC (B : List Ow → Option Ow) (f : Fn (List Ow)) : Fn Ow := bnd f fun os => opt (B os)
theorem de_callB {id : String} {x : Str} {B : List Ow → Option Ow} (h0 : ∃ r, CallR X (.builtin id) r) (hB : ∀ os z, B os = some z → ∃ r, CallR X (.builtin id) r ∧ RC2 X r os z) (hm : X.mg x = none) (hv : bootBuiltins x = some (.builtin id)) (ha : DA X W (e :: es) fs)
    (hg : Gl X x := by rfl) (hn : x ≠ "__name__" := by decide) (hdb : (x == ("__debug__" : Str)) = false := by decide)
    (he : starEach (e :: es) X.env = (false, eval e X.env) :: starEach es X.env := by rfl) (hpl : (backTo pos (starEach es X.env)).any (·.1) = false := by rfl) : DE X W (.Call (.Name x p) (e :: es) [] pos) (xC B fs) := fun ρ r h => by
  obtain ⟨r0, o0⟩ := h0
  rcases bnd_inv h with ⟨os, ρ1, h1, h2⟩ | ⟨c, d, ρ1, h1, rfl⟩
  · obtain ⟨ta, pa, qa⟩ := ha ρ _ h1
    obtain ⟨z, h3, rfl⟩ := opt_inv h2
    obtain ⟨r, o, hr⟩ := hB os z h3
    refine ⟨_, pe_callB o hg hm hv pa hn hdb he hpl, fun σ H g F Q G q => qa σ H g F _ G fun vs H1 g1 F1 Fa G1 r1 d1 s1 => hr vs H1 g1 Fa Q G1.ok r1 fun w H3 g3 Fz k3 r3 s3 => ?_⟩
    obtain ⟨G3, d3, s4⟩ := G1.op s1 d1 k3 s3
    exact q w H3 g3 F1 Fz G3 r3 d3 s4
  · obtain ⟨ta, pa, qa⟩ := ha ρ _ h1
    exact ⟨_, pe_callB o0 hg hm hv pa hn hdb he hpl, fun σ H g F Q G q => qa σ H g F _ G q⟩
theorem de_callT {id : String} {x : Str} {B : List Ow → Option Ow} (h0 : ∃ r, CallR X (.type id) r) (hB : ∀ os z, B os = some z → ∃ r, CallR X (.type id) r ∧ RC2 X r os z) (hm : X.mg x = none) (hv : bootBuiltins x = some (.type id)) (ha : DA X W (e :: es) fs)
    (hg : Gl X x := by rfl) (hn : x ≠ "__name__" := by decide) (hdb : (x == ("__debug__" : Str)) = false := by decide)
    (he : starEach (e :: es) X.env = (false, eval e X.env) :: starEach es X.env := by rfl) (hpl : (backTo pos (starEach es X.env)).any (·.1) = false := by rfl) : DE X W (.Call (.Name x p) (e :: es) [] pos) (xC B fs) := fun ρ r h => by
  obtain ⟨r0, o0⟩ := h0
  rcases bnd_inv h with ⟨os, ρ1, h1, h2⟩ | ⟨c, d, ρ1, h1, rfl⟩
  · obtain ⟨ta, pa, qa⟩ := ha ρ _ h1
    obtain ⟨z, h3, rfl⟩ := opt_inv h2
    obtain ⟨r, o, hr⟩ := hB os z h3
    refine ⟨_, pe_callTy o hg hm hv pa hn hdb he hpl, fun σ H g F Q G q => qa σ H g F _ G fun vs H1 g1 F1 Fa G1 r1 d1 s1 => hr vs H1 g1 Fa Q G1.ok r1 fun w H3 g3 Fz k3 r3 s3 => ?_⟩
    obtain ⟨G3, d3, s4⟩ := G1.op s1 d1 k3 s3
    exact q w H3 g3 F1 Fz G3 r3 d3 s4
  · obtain ⟨ta, pa, qa⟩ := ha ρ _ h1
    exact ⟨_, pe_callTy o0 hg hm hv pa hn hdb he hpl, fun σ H g F Q G q => qa σ H g F _ G q⟩
theorem de_ix {B : Ow → Ow → Option Ow} (hB : ∀ x y z, B x y = some z → ∃ r, IxR X r ∧ RO2 X r x y z) (hs : PlainIx b) (ha : DE X W a fa) (hb : DE X W b fb) : DE X W (.Subscript a b pos) (xBin B fa fb) :=
  de_bin_of (T := tOp) (fun _ _ _ => rfl) (O := IxR X) (fun r ta tb o pa pb => pe_ix o pa pb hs) hB ⟨_, ix_list⟩ ha hb
end
end OW
namespace OW
open PySem PySem.Spec PyProof.Rows L2
open DL (Dt Rp RpAll SqX pe_no pt_no pw_no ps_no pss_no CPowD op_powD Bd bd_pow)
/-! ### ints -/
/-- a bound that all numbers keep -/
def Bn (i : Int) : Bool := decide (i.natAbs.log2 < 4000)
theorem bn_bd {i : Int} (h : Bn i = true) : Bd 4000 i := by
  unfold Bn at h
  rw [decide_eq_true_eq] at h
  unfold Bd
  by_cases h0 : i.natAbs = 0
  · rw [h0]; exact Nat.pow_pos (by decide)
  · exact (Nat.log2_lt h0).mp h
def its : Ow → Option (List Ow)
  | .n .lst os => some os
  | .f (.lst ds) => some (ds.map .f)
  | _ => none
def bLists (x y : Ow) : Option Ow := match its x, its y with
  | some a, some b => if a.length + b.length ≤ LIM then some (.l (a ++ b)) else none
  | _, _ => none
def bAdd : Ow → Ow → Option Ow
  | .f (.int i), .f (.int j) => some (.f (.int (i + j)))
  | .f (.str i), .f (.str j) => if i.length + j.length ≤ LIM then some (.f (.str (i ++ j))) else none
  | .f (.tup a), .f (.tup b) => if a ≠ [] ∧ b ≠ [] ∧ a.length + b.length ≤ LIM then some (.f (.tup (a ++ b))) else none
  | x, y => bLists x y
def bSub : Ow → Ow → Option Ow
  | .f (.int i), .f (.int j) => some (.f (.int (i - j)))
  | _, _ => none
def bRep (x : Ow) (j : Int) : Option Ow := match x with
  | .n .lst os => match frzs os with
    | some ds => if j ≤ LIM ∧ -LIM ≤ j ∧ ds.length * j.toNat ≤ LIM then some (.l ((List.replicate j.toNat ds).flatten.map .f)) else none
    | none => none
  | _ => none
def bMul : Ow → Ow → Option Ow
  | .f (.int i), .f (.int j) => if Bn i ∧ Bn j then some (.f (.int (i * j))) else none
  | x, .f (.int j) => bRep x j
  | _, _ => none
def bDiv : Ow → Ow → Option Ow
  | .f (.int i), .f (.int j) => if 0 < j ∧ Bn j then some (.f (.int (i / j))) else none
  | _, _ => none
def bMod : Ow → Ow → Option Ow
  | .f (.int i), .f (.int j) => if 0 < j then some (.f (.int (i % j))) else none
  | _, _ => none
def bPow : Ow → Ow → Option Ow
  | .f (.int i), .f (.int j) => if Bn i ∧ 0 ≤ j ∧ j ≤ 1000 then some (.f (.int (i ^ j.toNat))) else none
  | _, _ => none
def bNeg : Ow → Option Ow
  | .f (.int i) => some (.f (.int (-i)))
  | _ => none
section
variable {X : Cx} {W : WX} {pos : Pos} {a b : Expr} {fa fb : Fn Ow}
theorem its_get {mg : Str → Option Value} {K : PySem.W.Frag} {g : Gs} {H : Hp} {x : Ow} {os : List Ow} {v : V} {F : Fp} (k : GsOk g H) (e : its x = some os) (h : OwR mg K g x v F) : ∃ a vs F1, v = .ref a ∧ SqX K H a vs ∧ OwRs mg K g os vs F1 ∧ ∀ p, F1 p → F p := by
  match x, e, h with
  | .n .lst os, e, ⟨a, vs, F0, F1, e1, hc, hs, hd, ef⟩ =>
    cases e
    exact ⟨a, vs, F1, e1, SqX.of (k.m _ _ hc.1), hs, fun p z => (ef p).mpr (.inr z)⟩
  | .f (.lst ds), e, ⟨h1, h2⟩ =>
    cases e
    cases h1 with
    | lst hs ha => exact ⟨_, _, fun _ => False, rfl, sqx_mono' k.s hs, OwRs.of_rp ha, fun p z => z.elim⟩
where sqx_mono' {K : PySem.W.Frag} {S S' : Hp} (e : Same S S') {a : Addr} {xs : List V} (h : SqX K S a xs) : SqX K S' a xs := DL.sqx_mono e h
theorem lists_ro {x y z : Ow} (h : bLists x y = some z) : ∃ r, OpR X (binaryOp .Add) r ∧ RO2 X r x y z := by
  unfold bLists at h
  split at h
  · rename_i xs ys e1 e2
    split at h
    · rename_i hl
      cases h
      refine ⟨_, DL.op_catX, fun v u H g Fx Fy Q k rx ry dj q => ?_⟩
      obtain ⟨a, vs, F1, rfl, sx, hx, w1⟩ := its_get k e1 rx
      obtain ⟨b, us, F2, rfl, sy, hy, w2⟩ := its_get k e2 ry
      refine ⟨a, b, vs, us, rfl, rfl, sx, sy, by rw [hx.len, hy.len]; exact lim_line hl, fun p hp => ?_⟩
      obtain ⟨k3, r3, s3⟩ := new_l k (OwRs.app hx hy fun p z y => dj p (w1 p z) (w2 p y)) hp
      exact q _ _ _ _ k3 r3 ⟨s3.st, fun p o e n => s3.mu p o e fun z => n (z.elim (fun z => .inl (w1 p z)) fun z => .inr (w2 p z)), fun p z => (s3.fr p z).elim (fun z => .inl (z.elim (fun z => .inl (w1 p z)) fun z => .inr (w2 p z))) .inr⟩
    · cases h
  · cases h
theorem de_add (ha : DE X W a fa) (hb : DE X W b fb) : DE X W (.BinOp a .Add b pos) (xBin bAdd fa fb) := de_bin (fun x y z h => by
  unfold bAdd at h
  split at h
  · cases h; exact ⟨_, op_add, ro_i0⟩
  · rename_i i j
    split at h
    · rename_i hl
      cases h
      exact ⟨_, op_add_str, ro_of fun v u H S Q rx ry q => by cases rx; cases ry; exact ⟨i, j, rfl, rfl, lim_line hl, q _ fun _ => .str _⟩⟩
    · cases h
  · rename_i xs ys
    split at h
    · rename_i hl
      cases h
      refine ⟨_, op_catT, fun v u H g Fx Fy Q k rx ry dj q => ?_⟩
      obtain ⟨rx, _⟩ := rx
      obtain ⟨ry, _⟩ := ry
      cases rx with
      | tup h1 h2 =>
        cases ry with
        | tup h3 h4 =>
          refine ⟨_, _, _, _, rfl, rfl, DL.sqt_mono k.s h1, DL.sqt_mono k.s h3, fun z => ?_, by rw [h2.len, h4.len]; exact lim_line hl.2.2, fun z => ?_, fun _ p hp => ?_⟩
          · have e := h2.len
            rw [z] at e
            exact hl.1 (List.length_eq_zero_iff.mp e.symm)
          · have e := h4.len
            rw [z] at e
            exact absurd (List.length_eq_zero_iff.mp e.symm) hl.2.1
          · obtain ⟨k3, r3, s3⟩ := new_t (F := fun p => Fx p ∨ Fy p) k (h2.app h4) hp
            exact q _ _ _ (fun _ => False) k3 ⟨r3, fun _ z => z⟩ s3
    · cases h
  · exact lists_ro h) ⟨_, op_add⟩ ha hb
theorem de_sub (ha : DE X W a fa) (hb : DE X W b fb) : DE X W (.BinOp a .Sub b pos) (xBin bSub fa fb) := de_bin (fun x y z h => by
  unfold bSub at h
  split at h
  · cases h; exact ⟨_, op_sub, ro_i0⟩
  · cases h) ⟨_, op_sub⟩ ha hb
theorem de_div (ha : DE X W a fa) (hb : DE X W b fb) : DE X W (.BinOp a .FloorDiv b pos) (xBin bDiv fa fb) := de_bin (fun x y z h => by
  unfold bDiv at h
  split at h
  · split at h
    · rename_i hc
      cases h
      exact ⟨_, op_fdivW, ro_ii ⟨hc.1, by have := hc.2; unfold Bn at this; rw [decide_eq_true_eq] at this; omega⟩⟩
    · cases h
  · cases h) ⟨_, op_fdivW⟩ ha hb
theorem de_mod (ha : DE X W a fa) (hb : DE X W b fb) : DE X W (.BinOp a .Mod b pos) (xBin bMod fa fb) := de_bin (fun x y z h => by
  unfold bMod at h
  split at h
  · split at h
    · rename_i hc
      cases h
      exact ⟨_, op_mod, ro_ii hc⟩
    · cases h
  · cases h) ⟨_, op_mod⟩ ha hb
theorem de_pow (ha : DE X W a fa) (hb : DE X W b fb) : DE X W (.BinOp a .Pow b pos) (xBin bPow fa fb) := de_bin (fun x y z h => by
  unfold bPow at h
  split at h
  · split at h
    · rename_i hc
      cases h
      exact ⟨_, op_powD, ro_ii (bd_pow (bn_bd hc.1) hc.2.1 (by have := hc.2.2; have := hc.2.1; omega))⟩
    · cases h
  · cases h) ⟨_, op_powD⟩ ha hb
theorem rep_ro {x z : Ow} {j : Int} (h : bRep x j = some z) : RO2 X rRep x (.f (.int j)) z := by
  unfold bRep at h
  split at h
  · rename_i os
    split at h
    · rename_i ds ed
      split at h
      · rename_i hl
        cases h
        intro v u H g Fx Fy Q k rx ry dj q
        obtain ⟨a, vs, F0, F1, e1, hc, hs, hd, ef⟩ := rx
        obtain ⟨ry, _⟩ := ry
        cases ry
        subst e1
        obtain ⟨k1, r1, s1⟩ := frzs_ok k ed hs
        refine ⟨a, _, vs, rfl, rfl, k.m _ _ hc.1, by unfold LIM at hl; omega, by unfold LIM at hl; omega, by rw [r1.len]; exact lim_line hl.2.2, fun p hp => ?_⟩
        obtain ⟨k3, r3, s3⟩ := new_l k1 (OwRs.of_rp (r1.rep j.toNat)) hp
        refine q _ _ _ _ k3 r3 ⟨fun p u e => s3.st _ _ (s1.st _ _ e), fun p o e n => s3.mu p o (s1.mu p o e fun z => n (.inl ((ef p).mpr (.inr z)))) fun z => z, fun p z => ?_⟩
        rcases s3.fr p z with z | ⟨z1, z2⟩
        · exact z.elim
        · rcases z with rfl | z
          · exact .inr (k.free hp)
          · exact z.elim
      · cases h
    · cases h
  · cases h
theorem de_mul (ha : DE X W a fa) (hb : DE X W b fb) : DE X W (.BinOp a .Mult b pos) (xBin bMul fa fb) := de_bin (fun x y z h => by
  unfold bMul at h
  split at h
  · split at h
    · rename_i hc
      cases h
      exact ⟨_, op_mulW, ro_ii (by have h1 := hc.1; have h2 := hc.2; unfold Bn at h1 h2; rw [decide_eq_true_eq] at h1 h2; unfold CMulW; omega)⟩
    · cases h
  · exact ⟨_, op_rep, rep_ro h⟩
  · cases h) ⟨_, op_mulW⟩ ha hb
theorem de_neg (ha : DE X W a fa) : DE X W (.UnaryOp .USub a pos) (xUn bNeg fa) := de_un un_neg (fun x z h => by
  unfold bNeg at h
  split at h
  · cases h
    exact fun v H g Fx Q k rx q => by
      obtain ⟨rx, _⟩ := rx
      cases rx
      exact ⟨_, rfl, q _ H g (fun _ => False) k ⟨.int _, fun _ z => z⟩ (Stp.refl fun _ z => z.elim)⟩
  · cases h) ha
end
/-! ### comparisons -/
/-- a comparison: a value, or a test -/
def DC (X : Cx) (W : WX) (e : Expr) (f : Fn Ow) : Prop := ∀ ρ r, f ρ = some r → ∃ t, PE X e t ∧ PT X e (tTest t) ∧ RX X W (rV X) t ρ r
theorem DC.e {X : Cx} {W : WX} {e : Expr} {f : Fn Ow} (h : DC X W e f) : DE X W e f := fun ρ r hr => let ⟨t, p, _, q⟩ := h ρ r hr; ⟨t, p, q⟩
theorem dc_cmp {X : Cx} {W : WX} {pos : Pos} {a b : Expr} {fa fb : Fn Ow} {op : CmpOp} {B : Ow → Ow → Option Ow} (hB : ∀ x y z, B x y = some z → ∃ r, OpR X (compareOp op) r ∧ RO2 X r x y z) (h0 : ∃ r, OpR X (compareOp op) r) (hm : behindInMarks op b = false) (ha : DE X W a fa) (hb : DE X W b fb) : DC X W (.Compare a [op] [b] pos) (xBin B fa fb) := fun ρ q h => by
  obtain ⟨r0, o0⟩ := h0
  rcases bnd_inv h with ⟨x, ρ1, h1, h2⟩ | ⟨c, d, ρ1, h1, rfl⟩
  · obtain ⟨ta, pa, qa⟩ := ha ρ _ h1
    rcases bnd_inv h2 with ⟨y, ρ2, h3, h4⟩ | ⟨c, d, ρ2, h3, rfl⟩
    · obtain ⟨tb, pb, qb⟩ := hb ρ1 _ h3
      obtain ⟨z, h5, rfl⟩ := opt_inv h4
      obtain ⟨r, o, hr⟩ := hB x y z h5
      exact ⟨_, pe_cmpR o pa pb hm, pt_cmpR o pa pb hm, rx_bin qa qb hr⟩
    · obtain ⟨tb, pb, qb⟩ := hb ρ1 _ h3
      exact ⟨_, pe_cmpR o0 pa pb hm, pt_cmpR o0 pa pb hm, rx_bin_b qa qb⟩
  · obtain ⟨ta, pa, qa⟩ := ha ρ _ h1
    exact ⟨_, pe_cmpR o0 pa pe_no hm, pt_cmpR o0 pa pe_no hm, rx_bin_a qa⟩
/-- data that == can compare -/
def eqOk (d : Dt) : Bool := d.plain && SeqAt.shaped d.py
def deq (d e : Dt) : Bool := PyData.eqv d.py e.py
def cI (f : Int → Int → Bool) : Ow → Ow → Option Ow
  | .f (.int i), .f (.int j) => some (.f (.bl (f i j)))
  | _, _ => none
def cLt : Ow → Ow → Option Ow := cI fun i j => decide (i < j)
def cLe : Ow → Ow → Option Ow := cI fun i j => decide (i ≤ j)
def cGt : Ow → Ow → Option Ow := cI fun i j => decide (j < i)
def cGe : Ow → Ow → Option Ow := cI fun i j => decide (j ≤ i)
def cEq : Ow → Ow → Option Ow := oB2 fun d e => match d, e with
  | .str a, .str b => some (.f (.bl (decide (a = b))))
  | d, e => if eqOk d ∧ eqOk e then some (.f (.bl (deq d e))) else none
def cNe : Ow → Ow → Option Ow := oB2 fun d e => match d, e with
  | .str a, .str b => some (.f (.bl (!decide (a = b))))
  | d, e => if eqOk d ∧ eqOk e then some (.f (.bl (!deq d e))) else none
def cIs : Ow → Ow → Option Ow := oB2 fun d e => match e with
  | .non => some (.f (.bl d.isNon))
  | _ => none
def cIsN : Ow → Ow → Option Ow := oB2 fun d e => match e with
  | .non => some (.f (.bl (!d.isNon)))
  | _ => none
def flat : Dt → Bool
  | .non => true
  | .bl _ => true
  | .int _ => true
  | .str _ => true
  | _ => false
def dIn (d : Dt) (ds : List Dt) : Bool := ds.any fun z => deq z d
def cIn' (neg : Bool) : Ow → Ow → Option Ow := oB2 fun d e => match e with
  | .lst ds => if eqOk d ∧ eqOk (.lst ds) then some (.f (.bl (if neg then !dIn d ds else dIn d ds))) else none
  | .tup ds => if flat d ∧ ds.all flat then some (.f (.bl (if neg then !dIn d ds else dIn d ds))) else none
  | _ => none
def cNi : Ow → Ow → Option Ow := cIn' true
theorem eqv_flat {K : PySem.W.Frag} {S : Hp} {v u : V} {d e : Dt} (h : Rp K S v d) (h' : Rp K S u e) (f : flat d = true) (f' : flat e = true) : flatV v = true ∧ flatV u = true ∧ eqV v u = deq d e := by
  cases h with
  | non => cases h' with
    | non => exact ⟨rfl, rfl, by unfold deq Dt.py PyData.eqv; rfl⟩
    | bl _ => exact ⟨rfl, rfl, by unfold deq Dt.py PyData.eqv; rfl⟩
    | int _ => exact ⟨rfl, rfl, by unfold deq Dt.py PyData.eqv; rfl⟩
    | str _ => exact ⟨rfl, rfl, by unfold deq Dt.py PyData.eqv; rfl⟩
    | _ => cases f'
  | bl _ => cases h' with
    | non => exact ⟨rfl, rfl, by unfold deq Dt.py PyData.eqv; rfl⟩
    | bl _ => exact ⟨rfl, rfl, by unfold deq Dt.py PyData.eqv; rfl⟩
    | int _ => exact ⟨rfl, rfl, by unfold deq Dt.py PyData.eqv; rfl⟩
    | str _ => exact ⟨rfl, rfl, by unfold deq Dt.py PyData.eqv; rfl⟩
    | _ => cases f'
  | int _ => cases h' with
    | non => exact ⟨rfl, rfl, by unfold deq Dt.py PyData.eqv; rfl⟩
    | bl _ => exact ⟨rfl, rfl, by unfold deq Dt.py PyData.eqv; rfl⟩
    | int _ => exact ⟨rfl, rfl, by unfold deq Dt.py PyData.eqv; rfl⟩
    | str _ => exact ⟨rfl, rfl, by unfold deq Dt.py PyData.eqv; rfl⟩
    | _ => cases f'
  | str _ => cases h' with
    | non => exact ⟨rfl, rfl, by unfold deq Dt.py PyData.eqv; rfl⟩
    | bl _ => exact ⟨rfl, rfl, by unfold deq Dt.py PyData.eqv; rfl⟩
    | int _ => exact ⟨rfl, rfl, by unfold deq Dt.py PyData.eqv; rfl⟩
    | str _ => exact ⟨rfl, rfl, by unfold deq Dt.py PyData.eqv; rfl⟩
    | _ => cases f'
  | _ => cases f
theorem flat_rp {K : PySem.W.Frag} {S : Hp} {v : V} {d : Dt} (h : Rp K S v d) (f : flat d = true) : flatV v = true := by
  cases h with
  | non => rfl
  | bl _ => rfl
  | int _ => rfl
  | str _ => rfl
  | _ => cases f
theorem in_flat {K : PySem.W.Frag} {S : Hp} {v : V} {d : Dt} (h : Rp K S v d) (f : flat d = true) : ∀ {us : List V} {ds : List Dt}, RpAll K S us ds → ds.all flat = true → us.all flatV = true ∧ inV v us = dIn d ds
  | _, _, .nil, _ => ⟨rfl, rfl⟩
  | _, _, .cons h1 h2, fs => by
    rw [List.all_cons, Bool.and_eq_true] at fs
    obtain ⟨a1, a2⟩ := in_flat h f h2 fs.2
    obtain ⟨b1, b2, b3⟩ := eqv_flat h1 h fs.1 f
    refine ⟨by rw [List.all_cons, b1, a1]; rfl, ?_⟩
    unfold inV dIn at *
    rw [List.any_cons, List.any_cons, a2, b3]
section
variable {X : Cx} {W : WX} {pos : Pos} {a b c : Expr} {fa fb fc : Fn Ow} {k : Nat}
theorem ci_ro {f : Int → Int → Bool} {R : R2 → Prop} (h0 : R (rI0 fun i j => V.bl (f i j))) {x y z : Ow} (h : cI f x y = some z) : ∃ r, R r ∧ RO2 X r x y z := by
  unfold cI at h
  split at h
  · cases h; exact ⟨_, h0, ro_b0⟩
  · cases h
theorem dc_lt (ha : DE X W a fa) (hb : DE X W b fb) : DC X W (.Compare a [.Lt] [b] pos) (xBin cLt fa fb) := dc_cmp (fun x y z h => ci_ro op_lt h) ⟨_, op_lt⟩ (nomark _) ha hb
theorem dc_le (ha : DE X W a fa) (hb : DE X W b fb) : DC X W (.Compare a [.LtE] [b] pos) (xBin cLe fa fb) := dc_cmp (fun x y z h => ci_ro op_le h) ⟨_, op_le⟩ (nomark _) ha hb
theorem dc_gt (ha : DE X W a fa) (hb : DE X W b fb) : DC X W (.Compare a [.Gt] [b] pos) (xBin cGt fa fb) := dc_cmp (fun x y z h => ci_ro op_gt h) ⟨_, op_gt⟩ (nomark _) ha hb
theorem rpE_dp {K : PySem.W.Frag} {g : Gs} {H : Hp} {v : V} {d : Dt} (k : GsOk g H) (h : eqOk d = true) (r : Rp K g.S v d) : Dp K H v d.py ∧ SeqAt.shaped d.py = true := by
  unfold eqOk at h
  rw [Bool.and_eq_true] at h
  exact ⟨DL.dp_mono k.s _ _ (DL.Rp.dp d _ h.1 r), h.2⟩
theorem dc_eq (hr : Room k X.A) (ha : DE X W a fa) (hb : DE X W b fb) : DC X W (.Compare a [.Eq] [b] pos) (xBin cEq fa fb) := dc_cmp (fun x y z h => oB2_ro (fun d e z h => by
  split at h
  · cases h
    refine ⟨_, op_eq, fun v u H g Q k rv ru q => ?_⟩
    cases rv
    cases ru
    exact ⟨rfl, by rw [DL.dec_s]; exact q _ H g (fun _ => False) k ⟨.bl _, fun _ z => z⟩ (Stp.refl fun _ z => z)⟩
  split at h
  · rename_i hc
    cases h
    refine ⟨_, op_eqD hr.units, fun v u H g Q k rv ru q => ?_⟩
    obtain ⟨d1, s1⟩ := rpE_dp k hc.1 rv
    obtain ⟨d2, s2⟩ := rpE_dp k hc.2 ru
    exact ⟨_, _, d1, d2, s1, s2, q _ H g (fun _ => False) k ⟨.bl _, fun _ z => z⟩ (Stp.refl fun _ z => z)⟩
  · cases h) h) ⟨_, op_eqD hr.units⟩ (nomark _) ha hb
theorem dc_ne (hr : Room k X.A) (ha : DE X W a fa) (hb : DE X W b fb) : DC X W (.Compare a [.NotEq] [b] pos) (xBin cNe fa fb) := dc_cmp (fun x y z h => oB2_ro (fun d e z h => by
  split at h
  · cases h
    refine ⟨_, op_ne, fun v u H g Q k rv ru q => ?_⟩
    cases rv
    cases ru
    exact ⟨rfl, by rw [DL.dec_s]; exact q _ H g (fun _ => False) k ⟨.bl _, fun _ z => z⟩ (Stp.refl fun _ z => z)⟩
  split at h
  · rename_i hc
    cases h
    refine ⟨_, op_neD hr.units, fun v u H g Q k rv ru q => ?_⟩
    obtain ⟨d1, s1⟩ := rpE_dp k hc.1 rv
    obtain ⟨d2, s2⟩ := rpE_dp k hc.2 ru
    exact ⟨_, _, d1, d2, s1, s2, q _ H g (fun _ => False) k ⟨.bl _, fun _ z => z⟩ (Stp.refl fun _ z => z)⟩
  · cases h) h) ⟨_, op_neD hr.units⟩ (nomark _) ha hb
theorem dc_is (ha : DE X W a fa) (hb : DE X W b fb) : DC X W (.Compare a [.Is] [b] pos) (xBin cIs fa fb) := dc_cmp (fun x y z h => oB2_ro (fun d e z h => by
  split at h
  · cases h
    refine ⟨_, op_isN, fun v u H g Q k rv ru q => ?_⟩
    cases ru
    exact ⟨rfl, by rw [DL.rp_non rv]; exact q _ H g (fun _ => False) k ⟨.bl _, fun _ z => z⟩ (Stp.refl fun _ z => z)⟩
  · cases h) h) ⟨_, op_isN⟩ (nomark _) ha hb
theorem any_py {d : Dt} : ∀ ds : List Dt, ((DL.Dt.pyAll ds).any fun z => PyData.eqv z d.py) = dIn d ds
  | [] => by unfold DL.Dt.pyAll dIn; rfl
  | e :: ds => by
    unfold DL.Dt.pyAll dIn
    rw [List.any_cons, List.any_cons, any_py ds]
    rfl
theorem dc_ni (hr : Room k X.A) (hu : X.A.units + 65 < cLine) (ha : DE X W a fa) (hb : DE X W b fb) (hm : behindInMarks .NotIn b = false := by rfl) : DC X W (.Compare a [.NotIn] [b] pos) (xBin cNi fa fb) := dc_cmp (fun x y z h => oB2_ro (fun d e z h => by
  split at h
  · rename_i ds
    split at h
    · rename_i hc
      cases h
      refine ⟨_, op_notInD hu, fun v u H g Q k rv ru q => ?_⟩
      obtain ⟨d1, s1⟩ := rpE_dp k hc.1 rv
      obtain ⟨d2, s2⟩ := rpE_dp k hc.2 ru
      unfold DL.Dt.py at d2 s2
      exact ⟨_, _, d1, d2, s1, s2, by rw [any_py]; exact q _ H g (fun _ => False) k ⟨.bl _, fun _ z => z⟩ (Stp.refl fun _ z => z)⟩
    · cases h
  · rename_i ds
    split at h
    · rename_i hc
      cases h
      refine ⟨_, op_notIn_seq, fun v u H g Q k rv ru q => ?_⟩
      cases ru with
      | tup h1 h2 =>
        obtain ⟨f1, f2⟩ := in_flat rv hc.1 h2 hc.2
        have f0 := flat_rp rv hc.1
        exact ⟨_, _, rfl, .inr (DL.sqt_mono k.s h1), f0, f1, by rw [f2]; exact q _ H g (fun _ => False) k ⟨.bl _, fun _ z => z⟩ (Stp.refl fun _ z => z)⟩
    · cases h
  · cases h) h) ⟨_, op_notIn_seq⟩ hm ha hb
end
end OW
namespace OW
open PySem PySem.Spec PyProof.Rows L2
open DL (Dt Rp RpAll SqX pe_no pt_no pw_no ps_no pss_no)
/-! ### tests -/
def tV (f : Fn Ow) : Fn Bool := bnd f fun o => opt (match o with
  | .f (.bl b) => some b
  | _ => none)
def tAnd (f g : Fn Bool) : Fn Bool := bnd f fun b => if b then g else ret false
def tOr (f g : Fn Bool) : Fn Bool := bnd f fun b => if b then ret true else g
def tNot (f : Fn Bool) : Fn Bool := bnd f fun b => ret (!b)
def xNot (f : Fn Ow) : Fn Ow := bnd f fun o => opt (match o with
  | .f (.bl b) => some (.f (.bl (!b)))
  | _ => none)
def xAnd (f g : Fn Ow) : Fn Ow := bnd f fun o => match o with
  | .f (.bl true) => g
  | .f (.bl false) => ret (.f (.bl false))
  | _ => fun _ => none
def xOr (f g : Fn Ow) : Fn Ow := bnd f fun o => match o with
  | .f (.bl true) => ret (.f (.bl true))
  | .f (.bl false) => g
  | _ => fun _ => none
def xIf (c : Fn Bool) (f g : Fn Ow) : Fn Ow := bnd c fun b => if b then f else g
def xCh (p q : Int → Int → Bool) (f g h : Fn Ow) : Fn Ow := bnd f fun x => bnd g fun y => match x, y with
  | .f (.int i), .f (.int j) => if p i j then bnd h fun z => opt (match z with
    | .f (.int l) => some (.f (.bl (q j l)))
    | _ => none) else ret (.f (.bl false))
  | _, _ => fun _ => none
section
variable {X : Cx} {W : WX} {pos : Pos} {a b c e : Expr} {es : List Expr} {fa fb fc fe : Fn Ow} {ta tb tc : Fn Bool} {k : Nat}
/-- a value that is a scalar takes no room -/
theorem good_drop {g g' : Gs} {H' : Hp} {σ : L2.St} {ρ : Ev} {F F' Fv : Fp} (s : Stp g F g' fun p => F' p ∨ Fv p) : Stp g F g' fun p => F' p ∨ False := s.sub fun p z => z.elim .inl False.elim
theorem dt_v (h : DE X W e fe) (he : ∀ whole, isTrue e X.env whole = (do let v ← whole; standAt e.pos; holding [v] (truthy v)) := by intro _; rfl) : DT X W e (tV fe) := fun ρ r hr => by
  rcases bnd_inv hr with ⟨o, ρ1, h1, h2⟩ | ⟨c, d, ρ1, h1, rfl⟩
  · obtain ⟨t, p, q⟩ := h ρ _ h1
    obtain ⟨b, h3, rfl⟩ := opt_inv h2
    split at h3
    · rename_i w
      cases h3
      refine ⟨_, pt_val p he, fun σ H g F Q G z => q σ H g F _ G fun v H1 g1 F1 Fv G1 rv d1 s1 => ?_⟩
      obtain ⟨rv, ev⟩ := rv
      cases rv
      exact ⟨_, rfl, z _ H1 g1 F1 (fun _ => False) G1 ⟨rfl, fun _ z => z⟩ (fun _ _ z => z) (good_drop (H' := H1) (σ := σ) (ρ := ρ1) s1)⟩
    · cases h3
  · obtain ⟨t, p, q⟩ := h ρ _ h1
    exact ⟨_, pt_val p he, fun σ H g F Q G z => q σ H g F _ G z⟩
theorem DW.t (h : DW X W e ta) : DT X W e ta := fun ρ r hr => let ⟨t, p, q⟩ := h ρ r hr; ⟨t, p.pt, q⟩
theorem dt_not (h : DT X W a ta) : DT X W (.UnaryOp .Not a pos) (tNot ta) := fun ρ r hr => by
  rcases bnd_inv hr with ⟨o, ρ1, h1, h2⟩ | ⟨c, d, ρ1, h1, rfl⟩
  · obtain ⟨t, p, q⟩ := h ρ _ h1
    cases h2
    refine ⟨_, pt_not p, fun σ H g F Q G z => q σ H g F _ G fun v H1 g1 F1 Fv G1 rv d1 s1 => ?_⟩
    obtain ⟨rfl, ev⟩ := rv
    exact z _ H1 g1 F1 Fv G1 ⟨rfl, ev⟩ d1 s1
  · obtain ⟨t, p, q⟩ := h ρ _ h1
    exact ⟨_, pt_not p, fun σ H g F Q G z => q σ H g F _ G z⟩
theorem dw_and1 (h : DT X W a ta) : DW X W (.BoolOp .And [a] pos) ta := fun ρ r hr => let ⟨t, p, q⟩ := h ρ r hr; ⟨t, pw_and1 p, q⟩
theorem dw_or1 (h : DT X W a ta) : DW X W (.BoolOp .Or [a] pos) ta := fun ρ r hr => let ⟨t, p, q⟩ := h ρ r hr; ⟨t, pw_or1 p, q⟩
theorem dw_and (h : DT X W a ta) (h2 : DW X W (.BoolOp .And (b :: es) pos) tb) : DW X W (.BoolOp .And (a :: b :: es) pos) (tAnd ta tb) := fun ρ r hr => by
  rcases bnd_inv hr with ⟨o, ρ1, h1, hk⟩ | ⟨c, d, ρ1, h1, rfl⟩
  · obtain ⟨t, p, q⟩ := h ρ _ h1
    cases o with
    | false =>
      cases hk
      refine ⟨_, pw_and p pw_no, fun σ H g F Q G z => q σ H g F _ G fun v H1 g1 F1 Fv G1 rv d1 s1 => ?_⟩
      obtain ⟨rfl, ev⟩ := rv
      exact iteF (z _ H1 g1 F1 Fv G1 ⟨rfl, ev⟩ d1 s1)
    | true =>
      have hk' : tb ρ1 = some r := hk
      obtain ⟨u, p2, q2⟩ := h2 ρ1 _ hk'
      refine ⟨_, pw_and p p2, fun σ H g F Q G z => q σ H g F _ G fun v H1 g1 F1 Fv G1 rv d1 s1 => ?_⟩
      obtain ⟨rfl, ev⟩ := rv
      refine iteT (q2 σ H1 g1 F1 Q G1 ?_)
      cases r with
      | ok x ρ2 => exact fun b H2 g2 F2 Fb G2 r2 d2 s2 => z b H2 g2 F2 Fb G2 r2 d2 ((Stp.trans s1 s2).sub fun p => .inl)
      | ex c d ρ2 => exact fun cls dx H2 g2 F2 G2 e2 s2 => z cls dx H2 g2 F2 G2 e2 ((Stp.trans s1 s2).sub fun p => .inl)
  · obtain ⟨t, p, q⟩ := h ρ _ h1
    exact ⟨_, pw_and p pw_no, fun σ H g F Q G z => q σ H g F _ G z⟩
theorem dw_or (h : DT X W a ta) (h2 : DW X W (.BoolOp .Or (b :: es) pos) tb) : DW X W (.BoolOp .Or (a :: b :: es) pos) (tOr ta tb) := fun ρ r hr => by
  rcases bnd_inv hr with ⟨o, ρ1, h1, hk⟩ | ⟨c, d, ρ1, h1, rfl⟩
  · obtain ⟨t, p, q⟩ := h ρ _ h1
    cases o with
    | true =>
      cases hk
      refine ⟨_, pw_or p pw_no, fun σ H g F Q G z => q σ H g F _ G fun v H1 g1 F1 Fv G1 rv d1 s1 => ?_⟩
      obtain ⟨rfl, ev⟩ := rv
      exact iteT (z _ H1 g1 F1 Fv G1 ⟨rfl, ev⟩ d1 s1)
    | false =>
      have hk' : tb ρ1 = some r := hk
      obtain ⟨u, p2, q2⟩ := h2 ρ1 _ hk'
      refine ⟨_, pw_or p p2, fun σ H g F Q G z => q σ H g F _ G fun v H1 g1 F1 Fv G1 rv d1 s1 => ?_⟩
      obtain ⟨rfl, ev⟩ := rv
      refine iteF (q2 σ H1 g1 F1 Q G1 ?_)
      cases r with
      | ok x ρ2 => exact fun b H2 g2 F2 Fb G2 r2 d2 s2 => z b H2 g2 F2 Fb G2 r2 d2 ((Stp.trans s1 s2).sub fun p => .inl)
      | ex c d ρ2 => exact fun cls dx H2 g2 F2 G2 e2 s2 => z cls dx H2 g2 F2 G2 e2 ((Stp.trans s1 s2).sub fun p => .inl)
  · obtain ⟨t, p, q⟩ := h ρ _ h1
    exact ⟨_, pw_or p pw_no, fun σ H g F Q G z => q σ H g F _ G z⟩
theorem Pst.next {α β : Type} {rel : Gs → α → β → Fp → Prop} {σ : L2.St} {g g1 : Gs} {F F1 Fv : Fp} {Q : β → Hp → Prop} {r : Rs α} (z : Pst X W rel σ g F Q r) (s1 : Stp g F g1 fun p => F1 p ∨ Fv p) : Pst X W rel σ g1 F1 Q r := by
  cases r with
  | ok x ρ2 => exact fun b H2 g2 F2 Fb G2 r2 d2 s2 => z b H2 g2 F2 Fb G2 r2 d2 ((Stp.trans s1 s2).sub fun p => .inl)
  | ex c d ρ2 => exact fun cls dx H2 g2 F2 G2 e2 s2 => z cls dx H2 g2 F2 G2 e2 ((Stp.trans s1 s2).sub fun p => .inl)
theorem de_one {o : BoolOp} (h : DE X W a fa) : DE X W (.BoolOp o [a] pos) fa := fun ρ r hr => let ⟨t, p, q⟩ := h ρ r hr; ⟨t, pe_one p, q⟩
theorem de_and (h : DE X W a fa) (h2 : DE X W (.BoolOp .And (b :: es) pos) fb) : DE X W (.BoolOp .And (a :: b :: es) pos) (xAnd fa fb) := fun ρ r hr => by
  rcases bnd_inv hr with ⟨o, ρ1, h1, hk⟩ | ⟨c, d, ρ1, h1, rfl⟩
  · obtain ⟨t, p, q⟩ := h ρ _ h1
    split at hk
    · obtain ⟨u, p2, q2⟩ := h2 ρ1 _ hk
      refine ⟨_, pe_and p p2, fun σ H g F Q G z => q σ H g F _ G fun v H1 g1 F1 Fv G1 rv d1 s1 => ?_⟩
      obtain ⟨rv, ev⟩ := rv
      cases rv
      exact ⟨_, rfl, iteT (q2 σ H1 g1 F1 Q G1 (z.next s1))⟩
    · cases hk
      refine ⟨_, pe_and p pe_no, fun σ H g F Q G z => q σ H g F _ G fun v H1 g1 F1 Fv G1 rv d1 s1 => ?_⟩
      obtain ⟨rv, ev⟩ := rv
      cases rv
      exact ⟨_, rfl, iteF (z _ H1 g1 F1 Fv G1 ⟨.bl _, ev⟩ d1 s1)⟩
    · cases hk
  · obtain ⟨t, p, q⟩ := h ρ _ h1
    exact ⟨_, pe_and p pe_no, fun σ H g F Q G z => q σ H g F _ G z⟩
theorem de_or (h : DE X W a fa) (h2 : DE X W (.BoolOp .Or (b :: es) pos) fb) : DE X W (.BoolOp .Or (a :: b :: es) pos) (xOr fa fb) := fun ρ r hr => by
  rcases bnd_inv hr with ⟨o, ρ1, h1, hk⟩ | ⟨c, d, ρ1, h1, rfl⟩
  · obtain ⟨t, p, q⟩ := h ρ _ h1
    split at hk
    · cases hk
      refine ⟨_, pe_or p pe_no, fun σ H g F Q G z => q σ H g F _ G fun v H1 g1 F1 Fv G1 rv d1 s1 => ?_⟩
      obtain ⟨rv, ev⟩ := rv
      cases rv
      exact ⟨_, rfl, iteT (z _ H1 g1 F1 Fv G1 ⟨.bl _, ev⟩ d1 s1)⟩
    · obtain ⟨u, p2, q2⟩ := h2 ρ1 _ hk
      refine ⟨_, pe_or p p2, fun σ H g F Q G z => q σ H g F _ G fun v H1 g1 F1 Fv G1 rv d1 s1 => ?_⟩
      obtain ⟨rv, ev⟩ := rv
      cases rv
      exact ⟨_, rfl, iteF (q2 σ H1 g1 F1 Q G1 (z.next s1))⟩
    · cases hk
  · obtain ⟨t, p, q⟩ := h ρ _ h1
    exact ⟨_, pe_or p pe_no, fun σ H g F Q G z => q σ H g F _ G z⟩
theorem dc_ch {o o' : CmpOp} {p q : Int → Int → Bool} (ho : OpR X (compareOp o) (rI0 fun i j => V.bl (p i j))) (ho' : OpR X (compareOp o') (rI0 fun i j => V.bl (q i j)))
    (ha : DE X W a fa) (hb : DE X W b fb) (hc : DE X W c fc) (hm : lastMarks [o, o'] [b, c] = false := by with_unfolding_all rfl) : DC X W (.Compare a [o, o'] [b, c] pos) (xCh p q fa fb fc) := fun ρ r hr => by
  rcases bnd_inv hr with ⟨x, ρ1, h1, hk1⟩ | ⟨c, d, ρ1, h1, rfl⟩
  · obtain ⟨ta, pa, qa⟩ := ha ρ _ h1
    rcases bnd_inv hk1 with ⟨y, ρ2, h2, hk⟩ | ⟨c, d, ρ2, h2, rfl⟩
    · obtain ⟨tb, pb, qb⟩ := hb ρ1 _ h2
      split at hk
      · rename_i i j
        by_cases hp : p i j = true
        · rw [if_pos hp] at hk
          rcases bnd_inv hk with ⟨z, ρ3, h3, hk3⟩ | ⟨c, d, ρ3, h3, rfl⟩
          · obtain ⟨tc, pc, qc⟩ := hc ρ2 _ h3
            obtain ⟨w, h5, rfl⟩ := opt_inv hk3
            split at h5
            · rename_i l
              cases h5
              refine ⟨_, pe_chain ho ho' pa pb pc hm, pt_chain ho ho' pa pb pc hm, fun σ H g F Q G z => qa σ H g F _ G fun v H1 g1 F1 Fa G1 r1 d1 s1 => qb σ H1 g1 F1 _ G1 fun u H2 g2 F2 Fb G2 r2 d2 s2 => ?_⟩
              obtain ⟨r1, e1⟩ := r1
              obtain ⟨r2, e2⟩ := r2
              cases r1
              cases r2
              refine ⟨i, j, rfl, rfl, p i j, rfl, ?_⟩
              rw [if_pos hp]
              refine qc σ H2 g2 F2 _ G2 fun w H3 g3 F3 Fc G3 r3 d3 s3 => ?_
              obtain ⟨r3, e3⟩ := r3
              cases r3
              exact ⟨j, l, rfl, rfl, z _ H3 g3 F3 Fc G3 ⟨.bl _, e3⟩ d3 ((Stp.trans ((Stp.trans s1 s2).sub fun p => .inl) s3).sub fun p => .inl)⟩
            · cases h5
          · obtain ⟨tc, pc, qc⟩ := hc ρ2 _ h3
            refine ⟨_, pe_chain ho ho' pa pb pc hm, pt_chain ho ho' pa pb pc hm, fun σ H g F Q G z => qa σ H g F _ G fun v H1 g1 F1 Fa G1 r1 d1 s1 => qb σ H1 g1 F1 _ G1 fun u H2 g2 F2 Fb G2 r2 d2 s2 => ?_⟩
            obtain ⟨r1, e1⟩ := r1
            obtain ⟨r2, e2⟩ := r2
            cases r1
            cases r2
            refine ⟨i, j, rfl, rfl, p i j, rfl, ?_⟩
            rw [if_pos hp]
            exact qc σ H2 g2 F2 _ G2 ((Pst.next (rel := rV X) (Q := Q) (r := .ex c d ρ3) z s1).next s2)
        · rw [if_neg hp] at hk
          cases hk
          refine ⟨_, pe_chain ho ho' pa pb pe_no hm, pt_chain ho ho' pa pb pe_no hm, fun σ H g F Q G z => qa σ H g F _ G fun v H1 g1 F1 Fa G1 r1 d1 s1 => qb σ H1 g1 F1 _ G1 fun u H2 g2 F2 Fb G2 r2 d2 s2 => ?_⟩
          obtain ⟨r1, e1⟩ := r1
          obtain ⟨r2, e2⟩ := r2
          cases r1
          cases r2
          refine ⟨i, j, rfl, rfl, p i j, rfl, ?_⟩
          rw [if_neg hp]
          exact z _ H2 g2 F2 Fb G2 ⟨.bl _, e2⟩ d2 ((Stp.trans s1 s2).sub fun p => .inl)
      · cases hk
    · obtain ⟨tb, pb, qb⟩ := hb ρ1 _ h2
      exact ⟨_, pe_chain ho ho' pa pb pe_no hm, pt_chain ho ho' pa pb pe_no hm, fun σ H g F Q G z => qa σ H g F _ G fun v H1 g1 F1 Fa G1 r1 d1 s1 => qb σ H1 g1 F1 _ G1 (Pst.next (rel := rV X) (Q := Q) (r := .ex c d ρ2) z s1)⟩
  · obtain ⟨ta, pa, qa⟩ := ha ρ _ h1
    exact ⟨_, pe_chain ho ho' pa pe_no pe_no hm, pt_chain ho ho' pa pe_no pe_no hm, fun σ H g F Q G z => qa σ H g F _ G z⟩
theorem DC.t (h : DC X W e fe) : DT X W e (tV fe) := fun ρ r hr => by
  rcases bnd_inv hr with ⟨o, ρ1, h1, h2⟩ | ⟨c, d, ρ1, h1, rfl⟩
  · obtain ⟨t, p, p', q⟩ := h ρ _ h1
    obtain ⟨b, h3, rfl⟩ := opt_inv h2
    split at h3
    · rename_i w
      cases h3
      refine ⟨_, p', fun σ H g F Q G z => q σ H g F _ G fun v H1 g1 F1 Fv G1 rv d1 s1 => ?_⟩
      obtain ⟨rv, ev⟩ := rv
      cases rv
      exact ⟨_, rfl, z _ H1 g1 F1 (fun _ => False) G1 ⟨rfl, fun _ z => z⟩ (fun _ _ z => z) (good_drop (H' := H1) (σ := σ) (ρ := ρ1) s1)⟩
    · cases h3
  · obtain ⟨t, p, p', q⟩ := h ρ _ h1
    exact ⟨_, p', fun σ H g F Q G z => q σ H g F _ G z⟩
end
end OW
namespace OW
open PySem PySem.Spec PyProof.Rows L2
open DL (Dt Rp RpAll SqX pe_no pt_no pw_no ps_no pss_no FnG FnAt perm perm_vals)
/-! ### statements -/
inductive So where
  | nx (ρ : Ev)
  | rt (o : Ow) (ρ : Ev)
  | bk (ρ : Ev)
  | ct (ρ : Ev)
  | ex (c : Str) (d : Option (Str × Dt)) (ρ : Ev)
abbrev SF := Ev → Option So
def Zok (Z : List (Nat × V)) (σ : L2.St) : Prop := ∀ i v, (i, v) ∈ Z → σ[i]? = some (some v)
def SPst (X : Cx) (W : WX) (Z : List (Nat × V)) (g : Gs) (F : Fp) (D : Ends) : So → Prop
  | .nx ρ' => ∀ σ' H' g' F', Good X g' H' σ' ρ' F' → Zok Z σ' → Stp g F g' F' → D.nx σ' H'
  | .bk ρ' => ∀ σ' H' g' F', Good X g' H' σ' ρ' F' → Zok Z σ' → Stp g F g' F' → D.bk σ' H'
  | .ct ρ' => ∀ σ' H' g' F', Good X g' H' σ' ρ' F' → Zok Z σ' → Stp g F g' F' → D.ct σ' H'
  | .rt o ρ' => ∀ v σ' H' g' F' Fv, Good X g' H' σ' ρ' F' → Zok Z σ' → rV X g' o v Fv → Dj F' Fv → Stp g F g' (fun p => F' p ∨ Fv p) → D.rt v H'
  | .ex c d ρ' => ∀ cls dx σ' H' g' F', Good X g' H' σ' ρ' F' → Zok Z σ' → ExR X g' c d cls dx → Stp g F g' F' → W cls dx σ' H'
def RS (X : Cx) (W : WX) (Z : List (Nat × V)) (t : TS) (ρ : Ev) (r : So) : Prop := ∀ σ H g F D, Good X g H σ ρ F → Zok Z σ → SPst X W Z g F D r → t D σ H
def DS (X : Cx) (W : WX) (Z : List (Nat × V)) (st : Stmt) (f : SF) : Prop := ∀ ρ r, f ρ = some r → ∃ t, PS X st t ∧ RS X W Z t ρ r
def DSs (X : Cx) (W : WX) (Z : List (Nat × V)) (st : List Stmt) (f : SF) : Prop := ∀ ρ r, f ρ = some r → ∃ t, PSs X st t ∧ RS X W Z t ρ r
section
variable {X : Cx} {W : WX} {Z : List (Nat × V)} {g g1 : Gs} {F F1 Fa : Fp} {D D' : Ends} {r : So}
theorem SPst.next (h : SPst X W Z g F D r) (s : Stp g F g1 fun p => F1 p ∨ Fa p) : SPst X W Z g1 F1 D r := by
  cases r with
  | nx ρ => exact fun σ' H' g' F' G z w => h σ' H' g' F' G z ((Stp.trans s w).sub fun p => .inl)
  | bk ρ => exact fun σ' H' g' F' G z w => h σ' H' g' F' G z ((Stp.trans s w).sub fun p => .inl)
  | ct ρ => exact fun σ' H' g' F' G z w => h σ' H' g' F' G z ((Stp.trans s w).sub fun p => .inl)
  | rt o ρ => exact fun v σ' H' g' F' Fv G z r d w => h v σ' H' g' F' Fv G z r d ((Stp.trans s w).sub fun p => .inl)
  | ex c d ρ => exact fun cls dx σ' H' g' F' G z e w => h cls dx σ' H' g' F' G z e ((Stp.trans s w).sub fun p => .inl)
theorem SPst.next0 (h : SPst X W Z g F D r) (s : Stp g F g1 F1) : SPst X W Z g1 F1 D r := h.next (Fa := fun _ => False) (s.sub fun p z => z.elim id False.elim)
def sNil : SF := fun ρ => some (.nx ρ)
def sSeq (f h : SF) : SF := fun ρ => match f ρ with
  | some (.nx ρ1) => h ρ1
  | r => r
def sPass : SF := sNil
def sBrk : SF := fun ρ => some (.bk ρ)
def sCnt : SF := fun ρ => some (.ct ρ)
/-- an expression's value and its ways out -/
def sVal {α : Type} (f : Fn α) (k : α → SF) : SF := fun ρ => match f ρ with
  | none => none
  | some (.ok a ρ1) => k a ρ1
  | some (.ex c d ρ1) => some (.ex c d ρ1)
theorem sVal_inv {α : Type} {f : Fn α} {k : α → SF} {ρ : Ev} {r : So} (h : sVal f k ρ = some r) : (∃ a ρ1, f ρ = some (.ok a ρ1) ∧ k a ρ1 = some r) ∨ ∃ c d ρ1, f ρ = some (.ex c d ρ1) ∧ r = .ex c d ρ1 := by
  unfold sVal at h
  split at h
  · cases h
  · rename_i a ρ1 e
    exact .inl ⟨a, ρ1, e, h⟩
  · rename_i c d ρ1 e
    cases h
    exact .inr ⟨c, d, ρ1, e, rfl⟩
def sRet (f : Fn Ow) : SF := sVal f fun o ρ => some (.rt o ρ)
def sRetN : SF := fun ρ => some (.rt (.f .non) ρ)
def sExpr (f : Fn Ow) : SF := sVal f fun _ ρ => some (.nx ρ)
def sIf (t : Fn Bool) (f h : SF) : SF := sVal t fun b => if b then f else h
def setO (i : Nat) (o : Ow) (ρ : Ev) : Option Ev := if i < ρ.length then some (ρ.set i o) else none
def sSet (i : Nat) (f : Fn Ow) : SF := sVal f fun o ρ => (setO i o ρ).map .nx
end
section
variable {X : Cx} {W : WX} {Z : List (Nat × V)} {e c : Expr} {fe : Fn Ow} {tc : Fn Bool} {st : Stmt} {rest : List Stmt} {f h : SF} {pos : Pos} {body orelse : List Stmt}
theorem dss_nil : DSs X W Z [] sNil := fun ρ r e => by
  cases e
  exact ⟨_, pss_nil, fun σ H g F D G z q => q σ H g F G z (Stp.refl fun _ z => z)⟩
theorem dss_cons (h1 : DS X W Z st f) (h2 : DSs X W Z rest h) : DSs X W Z (st :: rest) (sSeq f h) := fun ρ r e => by
  unfold sSeq at e
  split at e
  · rename_i ρ1 e1
    obtain ⟨t, p, q⟩ := h1 ρ _ e1
    obtain ⟨u, p2, q2⟩ := h2 ρ1 _ e
    exact ⟨_, pss_cons p p2, fun σ H g F D G z k => q σ H g F { D with nx := u D } G z fun σ1 H1 g1 F1 G1 z1 s1 => q2 σ1 H1 g1 F1 D G1 z1 (k.next0 s1)⟩
  · rename_i n1
    obtain ⟨t, p, q⟩ := h1 ρ r e
    refine ⟨_, pss_cons p (pss_no (st := rest)), fun σ H g F D G z k => q σ H g F _ G z ?_⟩
    cases r with
    | nx ρ2 => exact (n1 _ e).elim
    | bk ρ2 => exact k
    | ct ρ2 => exact k
    | rt o ρ2 => exact k
    | ex c d ρ2 => exact k
theorem ds_ret (he : DE X W e fe) : DS X W Z (.Return (some e) pos) (sRet fe) := fun ρ r h => by
  rcases sVal_inv h with ⟨o, ρ1, h1, hk⟩ | ⟨c, d, ρ1, h1, rfl⟩
  · cases hk
    obtain ⟨t, p, q⟩ := he ρ _ h1
    exact ⟨_, ps_ret p, fun σ H g F D G z k => q σ H g F _ G fun v H1 g1 F1 Fv G1 r1 d1 s1 => k v σ H1 g1 F1 Fv G1 z r1 d1 s1⟩
  · obtain ⟨t, p, q⟩ := he ρ _ h1
    exact ⟨_, ps_ret p, fun σ H g F D G z k => q σ H g F _ G fun cls dx H1 g1 F1 G1 e1 s1 => k cls dx σ H1 g1 F1 G1 z e1 s1⟩
theorem ds_expr (he : DE X W e fe) (hs : swapsWith e none pos.line X.env = pure false := by rfl) : DS X W Z (.Expr e pos) (sExpr fe) := fun ρ r h => by
  rcases sVal_inv h with ⟨o, ρ1, h1, hk⟩ | ⟨c, d, ρ1, h1, rfl⟩
  · cases hk
    obtain ⟨t, p, q⟩ := he ρ _ h1
    exact ⟨_, ps_expr p hs, fun σ H g F D G z k => q σ H g F _ G fun v H1 g1 F1 Fv G1 r1 d1 s1 => k σ H1 g1 F1 G1 z (s1.sub fun p => .inl)⟩
  · obtain ⟨t, p, q⟩ := he ρ _ h1
    exact ⟨_, ps_expr p hs, fun σ H g F D G z k => q σ H g F _ G fun cls dx H1 g1 F1 G1 e1 s1 => k cls dx σ H1 g1 F1 G1 z e1 s1⟩
theorem ds_if (hc : DT X W c tc) (h1 : DSs X W Z body f) (h2 : DSs X W Z orelse h) : DS X W Z (.If c body orelse pos) (sIf tc f h) := fun ρ r hr => by
  rcases sVal_inv hr with ⟨b, ρ1, h3, hk⟩ | ⟨c, d, ρ1, h3, rfl⟩
  · obtain ⟨t, p, q⟩ := hc ρ _ h3
    cases b with
    | true =>
      obtain ⟨u, p1, q1⟩ := h1 ρ1 _ (show f ρ1 = some r from hk)
      refine ⟨_, ps_if p p1 (pss_no (st := orelse)), fun σ H g F D G z k => q σ H g F _ G fun v H1 g1 F1 Fv G1 r1 d1 s1 => ?_⟩
      obtain ⟨rfl, _⟩ := r1
      exact iteT (q1 σ H1 g1 F1 D G1 z (k.next s1))
    | false =>
      obtain ⟨u, p1, q1⟩ := h2 ρ1 _ (show h ρ1 = some r from hk)
      refine ⟨_, ps_if p (pss_no (st := body)) p1, fun σ H g F D G z k => q σ H g F _ G fun v H1 g1 F1 Fv G1 r1 d1 s1 => ?_⟩
      obtain ⟨rfl, _⟩ := r1
      exact iteF (q1 σ H1 g1 F1 D G1 z (k.next s1))
  · obtain ⟨t, p, q⟩ := hc ρ _ h3
    exact ⟨_, ps_if p (pss_no (st := body)) (pss_no (st := orelse)), fun σ H g F D G z k => q σ H g F _ G fun cls dx H1 g1 F1 G1 e1 s1 => k cls dx σ H1 g1 F1 G1 z e1 s1⟩
/-- a slot is given a value -/
theorem Good.set {g : Gs} {H : Hp} {σ : L2.St} {ρ ρ' : Ev} {F Fv : Fp} {o : Ow} {v : V} {i : Nat} (G : Good X g H σ ρ F) (hs : setO i o ρ = some ρ') (h : OwR X.mg X.K g o v Fv) (d : Dj F Fv) : ∃ F', Good X g H (σ.set i (some v)) ρ' F' ∧ ∀ p, F' p → F p ∨ Fv p := by
  unfold setO at hs
  split at hs
  · rename_i hi
    cases hs
    obtain ⟨v0, F1, F2, e1, e2, e3, e4, e5⟩ := G.sr.at (List.getElem?_eq_getElem hi)
    exact ⟨_, ⟨G.ok, e5 g o (some v) Fv Kp.refl (.inr ⟨v, rfl, h⟩) fun p z y => d p ((e4 p).mpr (.inr y)) z⟩, fun p z => z.elim .inr fun y => .inl ((e4 p).mpr (.inr y))⟩
  · cases hs
theorem Zok.set {σ : L2.St} {i : Nat} {v : Option V} (z : Zok Z σ) (h : i ∉ Z.map (·.1)) : Zok Z (σ.set i v) := fun j w hj => by
  have n : i ≠ j := fun e => h (by rw [e]; exact List.mem_map.mpr ⟨(j, w), hj, rfl⟩)
  rw [List.getElem?_set_ne n]
  exact z j w hj
theorem ds_set (i : Nat) {y : Str} {py : Pos} (he : DE X W e fe) (nd : X.N.Nodup) (hz : i ∉ Z.map (·.1) := by decide) (hy : X.N[i]? = some y := by rfl) (hv : Loc X.env.scope y := by first | exact Or.inl rfl | exact Or.inr rfl)
    (hsw : swapsWith e (some (.Name y py)) pos.line X.env = pure false := by rfl) (hf : X.fn y = true ∨ X.env.scope.names.lookup y = some .local := by first | exact .inl rfl | exact .inr rfl) : DS X W Z (.Assign [.Name y py] e pos) (sSet i fe) := fun ρ r h => by
  rcases sVal_inv h with ⟨o, ρ1, h1, hk⟩ | ⟨c, d, ρ1, h1, rfl⟩
  · obtain ⟨ρ2, h2, rfl⟩ := Option.map_eq_some_iff.mp hk
    obtain ⟨t, p, q⟩ := he ρ _ h1
    refine ⟨_, ps_set (i := i) nd hy hv p hsw hf, fun σ H g F D G z k => q σ H g F _ G fun v H1 g1 F1 Fv G1 r1 d1 s1 => ?_⟩
    obtain ⟨F2, G2, hF⟩ := G1.set h2 r1 d1
    exact k _ H1 g1 F2 G2 (z.set hz) (s1.sub hF)
  · obtain ⟨t, p, q⟩ := he ρ _ h1
    exact ⟨_, ps_set (i := i) nd hy hv p hsw hf, fun σ H g F D G z k => q σ H g F _ G fun cls dx H1 g1 F1 G1 e1 s1 => k cls dx σ H1 g1 F1 G1 z e1 s1⟩
end
end OW
namespace OW
open PySem PySem.Spec PyProof.Rows L2
open DL (Dt Rp RpAll SqX pe_no pt_no pw_no ps_no pss_no FnG FnAt perm perm_vals)
/-! ### targets -/
abbrev GF := Dt → Ev → Option Ev
def gN (i : Nat) : GF := fun d ρ => setO i (.f d) ρ
def gs0 : List Dt → Ev → Option Ev
  | [], ρ => some ρ
  | _, _ => none
def gs1 (f : GF) (h : List Dt → Ev → Option Ev) : List Dt → Ev → Option Ev
  | d :: ds, ρ => (f d ρ).bind (h ds)
  | [], _ => none
def gT (h : List Dt → Ev → Option Ev) : GF
  | .tup ds, ρ => h ds ρ
  | _, _ => none
/-- only the slots of vs are given -/
def Out (vs : List Nat) (σ σ' : L2.St) : Prop := σ'.length = σ.length ∧ ∀ j, j ∉ vs → σ'[j]? = σ[j]?
def DG (X : Cx) (Z : List (Nat × V)) (vs : List Nat) (tg : Expr) (f : GF) : Prop := ∀ d ρ ρ', f d ρ = some ρ' → ∃ t, PG X tg t ∧ ∀ v σ H g F (Q : L2.St → Hp → Prop), Good X g H σ ρ F → Zok Z σ → Rp X.K g.S v d →
  (∀ σ' F', Good X g H σ' ρ' F' → Zok Z σ' → (∀ p, F' p → F p) → Out vs σ σ' → Q σ' H) → t v σ H Q
def DGs (X : Cx) (Z : List (Nat × V)) (vs : List Nat) (tgs : List Expr) (f : List Dt → Ev → Option Ev) : Prop := ∀ ds ρ ρ', f ds ρ = some ρ' → ∃ t, PGs X tgs t ∧ ∀ us σ H g F (Q : L2.St → Hp → Prop), Good X g H σ ρ F → Zok Z σ → RpAll X.K g.S us ds →
  (∀ σ' F', Good X g H σ' ρ' F' → Zok Z σ' → (∀ p, F' p → F p) → Out vs σ σ' → Q σ' H) → t us σ H Q
theorem Out.refl {vs : List Nat} {σ : L2.St} : Out vs σ σ := ⟨rfl, fun _ _ => rfl⟩
theorem Out.trans {vs : List Nat} {σ σ1 σ2 : L2.St} (a : Out vs σ σ1) (b : Out vs σ1 σ2) : Out vs σ σ2 := ⟨b.1.trans a.1, fun j h => (b.2 j h).trans (a.2 j h)⟩
theorem Out.set {vs : List Nat} {σ : L2.St} {i : Nat} {v : Option V} (h : i ∈ vs) : Out vs σ (σ.set i v) := ⟨List.length_set, fun j n => List.getElem?_set_ne (by intro e; subst e; exact n h)⟩
section
variable {X : Cx} {W : WX} {Z : List (Nat × V)} {e c a b : Expr} {fe fa fb fc : Fn Ow} {tc : Fn Bool} {st : Stmt} {rest : List Stmt} {f h : SF} {pos : Pos} {body orelse : List Stmt} {vs : List Nat} {gf : GF} {tg : Expr}
theorem dg_n (i : Nat) {y : Str} {py : Pos} (nd : X.N.Nodup) (hv0 : i ∈ vs := by decide) (hz : i ∉ Z.map (·.1) := by decide) (hy : X.N[i]? = some y := by rfl) (hv : Loc X.env.scope y := by first | exact Or.inl rfl | exact Or.inr rfl)
    (hf : X.fn y = true ∨ X.env.scope.names.lookup y = some .local := by first | exact .inl rfl | exact .inr rfl) : DG X Z vs (.Name y py) (gN i) := fun d ρ ρ' e => by
  refine ⟨_, pg_name (i := i) nd hy hv hf, fun v σ H g F Q G z r q => ?_⟩
  obtain ⟨F2, G2, hF⟩ := G.set e (show OwR X.mg X.K g (.f d) v fun _ => False from ⟨r, fun _ z => z⟩) fun _ _ z => z
  exact q _ F2 G2 (z.set hz) (fun p w => (hF p w).elim id False.elim) (Out.set hv0)
theorem dgs_0 : DGs X Z vs [] gs0 := fun ds ρ ρ' e => by
  cases ds with
  | nil =>
    cases e
    exact ⟨_, pgs_nil, fun us σ H g F Q G z r q => by
      cases r
      exact ⟨rfl, q σ F G z (fun _ w => w) Out.refl⟩⟩
  | cons _ _ => cases e
theorem dgs_1 {es : List Expr} {hf : List Dt → Ev → Option Ev} (h1 : DG X Z vs e gf) (h2 : DGs X Z vs es hf) (hs : (assignEach (e :: es) X.env).map (·.2) = assign e X.env :: (assignEach es X.env).map (·.2) := by rfl) : DGs X Z vs (e :: es) (gs1 gf hf) := fun ds ρ ρ' e => by
  cases ds with
  | nil => cases e
  | cons d ds =>
    obtain ⟨ρ1, e1, e2⟩ := Option.bind_eq_some_iff.mp e
    obtain ⟨t, p, q⟩ := h1 d ρ ρ1 e1
    obtain ⟨u, p2, q2⟩ := h2 ds ρ1 ρ' e2
    refine ⟨_, pgs_cons p p2 hs, fun us σ H g F Q G z r k => ?_⟩
    cases r with
    | cons r1 r2 =>
      exact ⟨_, _, rfl, q _ σ H g F _ G z r1 fun σ1 F1 G1 z1 w1 o1 => q2 _ σ1 H g F1 _ G1 z1 r2 fun σ2 F2 G2 z2 w2 o2 => k σ2 F2 G2 z2 (fun p y => w1 p (w2 p y)) (o1.trans o2)⟩
theorem gs0_len {ds : List Dt} {ρ ρ' : Ev} (h : gs0 ds ρ = some ρ') : ds.length = 0 := by
  cases ds with
  | nil => rfl
  | cons _ _ => cases h
theorem gs1_len {f : GF} {hf : List Dt → Ev → Option Ev} {n : Nat} (hl : ∀ ds ρ ρ', hf ds ρ = some ρ' → ds.length = n) {ds : List Dt} {ρ ρ' : Ev} (h : gs1 f hf ds ρ = some ρ') : ds.length = n + 1 := by
  cases ds with
  | nil => cases h
  | cons d ds =>
    obtain ⟨ρ1, e1, e2⟩ := Option.bind_eq_some_iff.mp h
    rw [List.length_cons, hl _ _ _ e2]
theorem dg_t {es : List Expr} {k n : Nat} {hf : List Dt → Ev → Option Ev} (hc : X.calm = true) (h : DGs X Z vs es hf) (hl : ∀ ds ρ ρ', hf ds ρ = some ρ' → ds.length = n) (hn : (assignEach es X.env).length = n := by rfl) (hst : (assignEach es X.env).findIdx? (·.1) = none := by rfl) : DG X Z vs (.Tuple es k pos) (gT hf) := fun d ρ ρ' e => by
  unfold gT at e
  split at e
  · rename_i ds
    obtain ⟨t, p, q⟩ := h ds ρ ρ' e
    refine ⟨_, pg_tup hc p hn hst, fun v σ H g F Q G z r k => ?_⟩
    cases r with
    | tup h1 h2 => exact ⟨_, _, rfl, DL.sqt_mono G.ok.s h1, by rw [h2.len]; exact hl _ _ _ e, q _ σ H g F Q G z h2 k⟩
  · cases e
def sTgt (gf : GF) (f : Fn Ow) : SF := sVal f fun o ρ => match frz o with
  | some d => (gf d ρ).map .nx
  | none => none
theorem ds_tgt (he : DE X W e fe) (hg : DG X Z vs tg gf) (hs : swapsWithSole [tg] e pos.line X.env = pure false := by rfl) (hw : swappedStores [tg] e X.env = pure none := by rfl)
    (h1 : (assignEach [tg] X.env).map (·.2) = [assign tg X.env] := by rfl) : DS X W Z (.Assign [tg] e pos) (sTgt gf fe) := fun ρ r hr => by
  rcases sVal_inv hr with ⟨o, ρ1, h3, hk⟩ | ⟨c, d, ρ1, h3, rfl⟩
  · obtain ⟨t, p, q⟩ := he ρ _ h3
    split at hk
    · rename_i d ed
      obtain ⟨ρ2, h2, rfl⟩ := Option.map_eq_some_iff.mp hk
      obtain ⟨u, pu, qu⟩ := hg d ρ1 ρ2 h2
      refine ⟨_, ps_asg p pu hs hw h1, fun σ H g F D G z k => q σ H g F _ G fun v H1 g1 F1 Fv G1 r1 d1 s1 => ?_⟩
      have r2 := frzG_rp G1.ok ed r1
      have st := frzG_stp G1.ok (F := Fv) (F' := Fv) fun _ z => z
      obtain ⟨G2, d2, s2⟩ := G1.op s1 d1 (frzG_ok G1.ok) (st.sub (F' := fun _ => False) fun p z => z.elim)
      exact qu v σ H1 _ F1 _ G2 z r2 fun σ' F' G3 z3 w3 o3 => k σ' H1 _ F' G3 z3 (s2.sub fun p y => .inl (w3 p y))
    · cases hk
  · obtain ⟨t, p, q⟩ := he ρ _ h3
    exact ⟨_, ps_asg (g := fun _ _ _ _ => False) p ⟨fun _ _ _ _ _ _ _ _ _ h => h.elim⟩ hs hw h1, fun σ H g F D G z k => q σ H g F _ G fun cls dx H1 g1 F1 G1 e1 s1 => k cls dx σ H1 g1 F1 G1 z e1 s1⟩
/-- x, y = a, b: no tuple is made -/
def sPar (i j : Nat) (fa fb : Fn Ow) : SF := sVal (bnd fa fun x => bnd fb fun y => ret (x, y)) fun (xy : Ow × Ow) ρ => ((setO i xy.1 ρ).bind (setO j xy.2)).map .nx
theorem ds_par (i j : Nat) {x y : Str} {px py pt : Pos} {kt k2 pt2} (hc : X.calm = true) (nd : X.N.Nodup) (ha : DE X W a fa) (hb : DE X W b fb) (hzi : i ∉ Z.map (·.1) := by decide) (hzj : j ∉ Z.map (·.1) := by decide) (hi : X.N[i]? = some x := by rfl) (hj : X.N[j]? = some y := by rfl) (hij : i ≠ j := by decide)
    (hx : X.env.scope.names.lookup x = some .local := by rfl) (hy : X.env.scope.names.lookup y = some .local := by rfl)
    (hw : swappedStores [.Tuple [.Name x px, .Name y py] kt pt] (.Tuple [a, b] k2 pt2) X.env = pure (some [x, y]) := by rfl)
    (hs : swapsWithSole [.Tuple [.Name x px, .Name y py] kt pt] (.Tuple [a, b] k2 pt2) pos.line X.env = pure false := by rfl)
    (h1 : starEach [a, b] X.env = (false, eval a X.env) :: starEach [b] X.env := by rfl) (h2 : starEach [b] X.env = (false, eval b X.env) :: starEach [] X.env := by rfl) : DS X W Z (.Assign [.Tuple [.Name x px, .Name y py] kt pt] (.Tuple [a, b] k2 pt2) pos) (sPar i j fa fb) := fun ρ r hr => by
  rcases sVal_inv hr with ⟨o, ρ2, h3, hk⟩ | ⟨c, d, ρ1, h3, rfl⟩
  · rcases bnd_inv h3 with ⟨xo, ρ1, h4, h5⟩ | ⟨_, _, _, _, q⟩
    rotate_left
    · cases q
    rcases bnd_inv h5 with ⟨yo, ρ1', h6, h7⟩ | ⟨_, _, _, _, q⟩
    rotate_left
    · cases q
    cases h7
    obtain ⟨ρ3, h8, rfl⟩ := Option.map_eq_some_iff.mp hk
    obtain ⟨ρ4, h9, h10⟩ := Option.bind_eq_some_iff.mp h8
    obtain ⟨ta, pa, qa⟩ := ha ρ _ h4
    obtain ⟨tb, pb, qb⟩ := hb ρ1 _ h6
    refine ⟨_, ps_par hc nd hi hj hij hx hy (pa_cons pa (pa_cons pb pa_nil h2) h1) hw hs, fun σ H g F D G z k => ?_⟩
    refine RX.seq (Q := fun v u H2 => ∃ v' w', [v, u] = [v', w'] ∧ D.nx ((σ.set i (some v')).set j (some w')) H2) frm_V frm_V qa qb G fun v u H2 g2 F2 Fa Fb G2 r1 r2 d1 d2 s => ⟨v, u, rfl, ?_⟩
    obtain ⟨F3, G3, w3⟩ := G2.set h9 r1 fun p z y => d2 p z (.inl y)
    obtain ⟨F4, G4, w4⟩ := G3.set h10 r2 fun p z y => (w3 p z).elim (fun z => d2 p z (.inr y)) fun z => d1 p z y
    exact k _ H2 g2 F4 G4 ((z.set hzi).set hzj) (s.sub fun p z => (w4 p z).elim (fun z => (w3 p z).elim .inl fun z => .inr (.inl z)) fun z => .inr (.inr z))
  · rcases bnd_inv h3 with ⟨xo, ρ1', h4, h5⟩ | ⟨c', d', ρ', h4, q⟩
    · rcases bnd_inv h5 with ⟨yo, ρ1'', h6, h7⟩ | ⟨c', d', ρ', h6, q⟩
      · cases h7
      · cases q
        obtain ⟨ta, pa, qa⟩ := ha ρ _ h4
        obtain ⟨tb, pb, qb⟩ := hb _ _ h6
        exact ⟨_, ps_par hc nd hi hj hij hx hy (pa_cons pa (pa_cons pb pa_nil h2) h1) hw hs, fun σ H g F D G z k => RX.seq (Q := fun v u H2 => ∃ v' w', [v, u] = [v', w'] ∧ D.nx ((σ.set i (some v')).set j (some w')) H2) frm_V frm_V qa qb G fun cls dx H1 g1 F1 G1 e1 s1 => k cls dx σ H1 g1 F1 G1 z e1 s1⟩
    · cases q
      obtain ⟨ta, pa, qa⟩ := ha ρ _ h4
      exact ⟨_, ps_par hc nd hi hj hij hx hy (pa_cons pa (pa_cons (pe_no (e := b)) pa_nil h2) h1) hw hs, fun σ H g F D G z k => qa σ H g F _ G fun cls dx H1 g1 F1 G1 e1 s1 => k cls dx σ H1 g1 F1 G1 z e1 s1⟩
/-- x += e, ints -/
def sAug (i : Nat) (B : Int → Int → Int) (f : Fn Ow) : SF := fun ρ => match ρ[i]? with
  | some (.f (.int m)) => sVal f (fun o ρ => match o with
    | .f (.int n) => (setO i (.f (.int (B m n))) ρ).map .nx
    | _ => none) ρ
  | _ => none
end
/-! ### defs and their calls -/
inductive Fr where
  | rt (o : Ow) (ps : List Ow)
  | ex (c : Str) (d : Option (Str × Dt)) (ps : List Ow)
abbrev FO := List Ow → Option Fr
def ExK (K : PySem.W.Frag) (mg : Str → Option Value) (g : Gs) (c : Str) (d : Option (Str × Dt)) (cls : Value) (dx : Option Addr) : Prop := ∃ C, mg c = some (.ref C) ∧ cls = .ref C ∧ match d with
  | none => dx = none
  | some (f, y) => ∃ a v, dx = some a ∧ g.S a = some (.xd [(f, v)]) ∧ Rp K g.S v y
def FPst (mg : Str → Option Value) (K : PySem.W.Frag) (vs : List V) (g : Gs) (F : Fp) (Q : VK) (E : XK) : Fr → Prop
  | .rt o ps => ∀ v H' g' Fp Fv, GsOk g' H' → OwRs mg K g' ps vs Fp → OwR mg K g' o v Fv → Dj Fp Fv → Stp g F g' (fun p => Fp p ∨ Fv p) → Q v H'
  | .ex c d ps => ∀ cls dx H' g' Fp, GsOk g' H' → OwRs mg K g' ps vs Fp → ExK K mg g' c d cls dx → Stp g F g' Fp → E cls dx H'
def spO (mg : Str → Option Value) (K : PySem.W.Frag) (n : Nat) (fn : FO) : Sp := fun vs H Q E => ∃ g os F r, os.length = n ∧ OwRs mg K g os vs F ∧ GsOk g H ∧ fn os = some r ∧ FPst mg K vs g F Q E r
theorem spO_len {mg : Str → Option Value} {K : PySem.W.Frag} {n : Nat} {fn : FO} (vs : List V) (H : Hp) (Q : VK) (E : XK) (h : spO mg K n fn vs H Q E) : vs.length = n := by
  obtain ⟨g, os, F, r, h1, h2, _⟩ := h
  rw [h2.len, h1]
/-- what stands in the parameters' slots at the end: of those that are handed back -/
def outs : List Bool → Ev → List Ow
  | [], _ => []
  | b :: bs, o :: ρ => (if b then o else .no) :: outs bs ρ
  | _ :: bs, [] => .no :: outs bs []
def fnOf (nv : Nat) (io : List Bool) (body : SF) : FO := fun os => match body (os ++ List.replicate (nv - os.length) .no) with
  | some (.nx ρ) => some (.rt (.f .non) (outs io ρ))
  | some (.rt o ρ) => some (.rt o (outs io ρ))
  | some (.ex c d ρ) => some (.ex c d (outs io ρ))
  | _ => none
section
variable {mg : Str → Option Value} {K : PySem.W.Frag} {g : Gs}
theorem outs_rs : ∀ {io : List Bool} {ρ : Ev} {σ : L2.St} {F : Fp} {vs : List V}, Srs mg K g ρ σ F → vs.length = io.length → (∀ i : Nat, io[i]? = some true → ∃ v, vs[i]? = some v ∧ σ[i]? = some (some v)) →
    ∃ F', OwRs mg K g (outs io ρ) vs F' ∧ ∀ p, F' p → F p
  | [], ρ, σ, F, vs, h, hl, hp => ⟨fun _ => False, ⟨List.length_eq_zero_iff.mp hl, fun _ z => z⟩, fun _ z => z.elim⟩
  | b :: bs, [], σ, F, v :: vs, h, hl, hp => by
    obtain ⟨F', h1, h2⟩ := outs_rs (io := bs) (ρ := []) (σ := []) (F := F) (vs := vs) ⟨rfl, h.2⟩ (by simpa using hl) fun i hi => by
      obtain ⟨w, w1, w2⟩ := hp (i + 1) (by simpa using hi)
      rw [h.1] at w2
      simp at w2
    exact ⟨F', ⟨v, vs, fun _ => False, F', rfl, fun _ z => z, h1, fun _ z => z.elim, fun p => ⟨.inr, fun z => z.elim False.elim id⟩⟩, h2⟩
  | b :: bs, o :: ρ, _, F, v :: vs, ⟨s, r, F1, F2, e1, h1, h2, hd, e⟩, hl, hp => by
    subst e1
    obtain ⟨F', a1, a2⟩ := outs_rs (io := bs) h2 (by simpa using hl) fun i hi => by
      obtain ⟨w, w1, w2⟩ := hp (i + 1) (by simpa using hi)
      exact ⟨w, by simpa using w1, by simpa using w2⟩
    cases b with
    | false => exact ⟨F', ⟨v, vs, fun _ => False, F', rfl, fun _ z => z, a1, fun _ z => z.elim, fun p => ⟨.inr, fun z => z.elim False.elim id⟩⟩, fun p z => (e p).mpr (.inr (a2 p z))⟩
    | true =>
      obtain ⟨w, w1, w2⟩ := hp 0 rfl
      have w1' : v = w := by simpa using w1
      have w2' : s = some w := by simpa using w2
      subst w1'
      subst w2'
      have ho : OwR mg K g o v F1 := by
        rcases h1 with ⟨rfl, h⟩ | ⟨u, hu, h⟩
        · exact h
        · cases hu; exact h
      exact ⟨fun p => F1 p ∨ F' p, ⟨v, vs, F1, F', rfl, ho, a1, fun p z y => hd p z (a2 p y), fun p => Iff.rfl⟩, fun p z => (e p).mpr (z.elim .inl fun z => .inr (a2 p z))⟩
  | b :: bs, ρ, σ, F, [], h, hl, hp => by simp at hl
end
section
variable {P : Program} {w : World} {K : PySem.W.Frag} {mg : Str → Option Value} {base : Heap}
/-- the slots that are handed back keep their values -/
def pinsOf : Nat → List Bool → List V → List (Nat × V)
  | i, true :: bs, v :: vs => (i, v) :: pinsOf (i + 1) bs vs
  | i, false :: bs, _ :: vs => pinsOf (i + 1) bs vs
  | _, _, _ => []
theorem pinsOf_get : ∀ {io : List Bool} {vs : List V} {k i : Nat} {v : V}, io[i]? = some true → vs[i]? = some v → (k + i, v) ∈ pinsOf k io vs
  | [], _, _, _, _, h, _ => by simp at h
  | b :: bs, [], _, _, _, _, h => by simp at h
  | b :: bs, u :: vs, k, 0, v, h, h' => by
    simp at h h'
    subst h
    subst h'
    exact List.mem_cons_self
  | b :: bs, u :: vs, k, i + 1, v, h, h' => by
    have q := pinsOf_get (io := bs) (vs := vs) (k := k + 1) (i := i) (v := v) (by simpa using h) (by simpa using h')
    have e : k + 1 + i = k + (i + 1) := by omega
    rw [e] at q
    cases b
    · exact q
    · exact List.mem_cons_of_mem _ q
theorem pinsOf_mem : ∀ {io : List Bool} {vs : List V} {k j : Nat} {v : V}, (j, v) ∈ pinsOf k io vs → ∃ i, j = k + i ∧ vs[i]? = some v
  | [], _, _, _, _, h => by simp [pinsOf] at h
  | b :: bs, [], _, _, _, h => by cases b <;> simp [pinsOf] at h
  | true :: bs, u :: vs, k, j, v, h => by
    rcases List.mem_cons.mp h with e | h
    · cases e; exact ⟨0, rfl, rfl⟩
    · obtain ⟨i, e1, e2⟩ := pinsOf_mem h
      exact ⟨i + 1, by omega, by simpa using e2⟩
  | false :: bs, u :: vs, k, j, v, h => by
    obtain ⟨i, e1, e2⟩ := pinsOf_mem (k := k + 1) (show (j, v) ∈ pinsOf (k + 1) bs vs from h)
    exact ⟨i + 1, by omega, by simpa using e2⟩
theorem pinsOf_fst : ∀ {io : List Bool} {vs : List V} {k : Nat}, vs.length = io.length → (pinsOf k io vs).map (·.1) = (pinsOf k io (List.replicate io.length V.non)).map (·.1)
  | [], vs, k, h => by
    cases vs with
    | nil => rfl
    | cons _ _ => simp at h
  | b :: bs, [], k, h => by simp at h
  | true :: bs, u :: vs, k, h => by
    show k :: _ = k :: _
    rw [pinsOf_fst (by simpa using h)]
  | false :: bs, u :: vs, k, h => by
    show (pinsOf (k + 1) bs vs).map _ = (pinsOf (k + 1) bs (List.replicate bs.length V.non)).map _
    exact pinsOf_fst (by simpa using h)
theorem okO {k n : Nat} {f : Addr} {x qual : Str} {st : Stmt} {fd : FuncData} {N ps : List Str} {io : List Bool} {body : SF} (F : Fun K x qual st f fd) (S : FnScope N ps (defScope st)) (hn : ps.length = n) (hio : io.length = n) (hN : ps.length ≤ N.length)
    (hbody : ∀ (cdv : Value) (A : Around) (outer : List Env) (s : Shared) (H : Hp) (E : XK) (Z : List (Nat × V)) (W : WX), (cxOf (L2N.CX P w) P w K mg base N qual (defScope st) f cdv A outer s H E).A.guards = some [] → Room k (cxOf (L2N.CX P w) P w K mg base N qual (defScope st) f cdv A outer s H E).A →
      L2N.Takes (cxOf (L2N.CX P w) P w K mg base N qual (defScope st) f cdv A outer s H E) W → Z.map (·.1) = (pinsOf 0 io (List.replicate io.length V.non)).map (·.1) →
      DSs (cxOf (L2N.CX P w) P w K mg base N qual (defScope st) f cdv A outer s H E) W Z (defBody st) body) : FnG P w K mg base (k + 1) f fd ps (spO mg K n (fnOf N.length io body)) := by
  refine DL.fnG_of F S (fun vs H Q E h => (spO_len vs H Q E h).trans hn.symm) fun cdv A outer s H vs Q E hgd hr h => ?_
  obtain ⟨g, os, Fp, r, hl, rv, ok, hf, hq⟩ := h
  have lv : vs.length = n := by rw [rv.len, hl]
  have st0 : start N vs = vs.map some ++ List.replicate (N.length - os.length) none := by
    unfold L2.start
    rw [rv.len]
  have sr := Srs.of (N.length - os.length) rv
  rw [← st0] at sr
  obtain ⟨Z, hZ⟩ : ∃ Z, Z = pinsOf 0 io vs := ⟨_, rfl⟩
  have zok : Zok Z (start N vs) := fun j v hj => by
    rw [hZ] at hj
    obtain ⟨i, e1, e2⟩ := pinsOf_mem hj
    have il := (List.getElem?_eq_some_iff.mp e2).1
    rw [e1, st0, Nat.zero_add, List.getElem?_append_left (by simpa using il), List.getElem?_map, e2]
    rfl
  have zf : Z.map (·.1) = (pinsOf 0 io (List.replicate io.length V.non)).map (·.1) := by rw [hZ]; exact pinsOf_fst (by omega)
  have back : ∀ {σ' : L2.St} {g' : Gs} {ρ' : Ev} {F' : OW.Fp}, Srs mg K g' ρ' σ' F' → Zok Z σ' → ∃ F2, OwRs mg K g' (outs io ρ') vs F2 ∧ ∀ p, F2 p → F' p := fun sr z => outs_rs sr (by omega) fun i hi => by
    have il : i < vs.length := by
      have := (List.getElem?_eq_some_iff.mp hi).1
      omega
    refine ⟨vs[i], List.getElem?_eq_getElem il, z i _ ?_⟩
    rw [hZ]
    have q := pinsOf_get (k := 0) hi (List.getElem?_eq_getElem il)
    rw [Nat.zero_add] at q
    exact q
  unfold fnOf at hf
  have tk : L2N.Takes (cxOf (L2N.CX P w) P w K mg base N qual (defScope st) f cdv A outer s H E) (fun c d _ H => E c d H) := L2N.takes_of rfl rfl rfl rfl
  have hb := hbody cdv A outer s H E Z _ hgd hr tk zf
  have X0 : Good (cxOf (L2N.CX P w) P w K mg base N qual (defScope st) f cdv A outer s H E) g H (start N vs) (os ++ List.replicate (N.length - os.length) .no) Fp := ⟨ok, sr⟩
  split at hf
  · rename_i ρ' hb1
    cases hf
    obtain ⟨t, p, q⟩ := hb _ _ hb1
    refine ⟨t, p, q _ H g Fp _ X0 zok fun σ' H' g' F' G' z' s' => ?_⟩
    obtain ⟨F2, r2, w2⟩ := back G'.sr z'
    exact hq V.non H' g' F2 (fun _ => False) G'.ok r2 ⟨.non, fun _ z => z⟩ (fun _ _ z => z) (s'.sub fun p z => z.elim (w2 p) False.elim)
  · rename_i o ρ' hb1
    cases hf
    obtain ⟨t, p, q⟩ := hb _ _ hb1
    refine ⟨t, p, q _ H g Fp _ X0 zok fun v σ' H' g' F' Fv G' z' r' d' s' => ?_⟩
    obtain ⟨F2, r2, w2⟩ := back G'.sr z'
    exact hq v H' g' F2 Fv G'.ok r2 r' (fun p z y => d' p (w2 p z) y) (s'.sub fun p z => z.elim (fun z => .inl (w2 p z)) .inr)
  · rename_i c d ρ' hb1
    cases hf
    obtain ⟨t, p, q⟩ := hb _ _ hb1
    refine ⟨t, p, q _ H g Fp _ X0 zok fun cls dx σ' H' g' F' G' z' e' s' => ?_⟩
    obtain ⟨F2, r2, w2⟩ := back G'.sr z'
    exact hq cls dx H' g' F2 G'.ok r2 e' (s'.sub w2)
  · cases hf
end
end OW
namespace OW
open PySem PySem.Spec PyProof.Rows L2
open DL (Dt Rp RpAll SqX pe_no pt_no pw_no ps_no pss_no FnG FnAt perm perm_vals)
section
variable {X : Cx} {k : Nat} {f : Addr} {fd : FuncData} {ps ks : List Str} {sp : Sp} {E : L2.St → XK} {x : Str} {p pos : Pos} {e : Expr} {es : List Expr} {t tk : TA} {kws : List Keyword}
theorem run_gS {pins : List (Addr × Obj)} {σ : L2.St} {H : Hp} {s : Shared} {Q : VK} {us : List Value} {ws : List Value} {zs : List V} {kw : List (Str × Value)} (F : FnG X.prog X.w X.K X.mg X.base k f fd ps sp) (hgd : X.A.guards = some []) (hr : Room k X.A)
    (hb : (ws.length = ps.length → BindsTo s fd ⟨us, kw⟩ (ps.zip ws))) (hx : PassesAt (L2N.CX X.prog X.w) X σ (E σ)) (I : Inv X pins σ H s) (r : Vals zs ws) (h : sp zs H Q (E σ)) :
    wpAny (model X.prog X.w) X.A (call (.ref f) us kw) (EP X pins σ Q) X.xe s := by
  have hl : ws.length = ps.length := by
    rw [← r.length]
    exact F.len _ _ _ _ h
  refine wpAny_call (codeAny_mono (F.go X.A X.stack s H ⟨us, kw⟩ ws zs Q (E σ) hgd hr I.env0 (hb hl) r h) fun res s' hq => ?_)
  cases res with
  | error z =>
    have hq' : L2N.CX X.prog X.w X.stack H s (E σ) z s' := hq
    exact hx pins H s z s' I hq'
  | ok fl =>
    cases fl with
    | ret u =>
      have hq' : CE X.stack X.prog X.w H s Q u s' := hq
      exact I.after hq'
    | next => cases hq
    | brk => cases hq
    | cont => cases hq
theorem pe_callGS (F : FnG X.prog X.w X.K X.mg X.base k f fd ps sp) (hgd : X.A.guards = some []) (hr : Room k X.A) (hg : Gl X x) (hm : X.mg x = some (.ref f)) (hk : PySem.W.keepIn X.K (.ref f) = true) (hb : Binds X.K fd ps []) (hx : ∀ σ, PassesAt (L2N.CX X.prog X.w) X σ (E σ))
    (ha : PA X (e :: es) t) (hdb : (x == ("__debug__" : Str)) = false := by decide) (he : starEach (e :: es) X.env = (false, eval e X.env) :: starEach es X.env := by rfl) (hpl : (backTo pos (starEach es X.env)).any (·.1) = false := by rfl) :
    PE X (.Call (.Name x p) (e :: es) [] pos) (fun σ H Q => t σ H fun vs H1 => sp vs H1 Q (E σ)) :=
  ⟨fun pins s σ H Q I h => wpAny_Call_Name_kw (ld_glob I hg hm (PySem.W.callWith_K (h₀ := X.base) I.ok.mod.kin hk (thn (ha.run pos pins s σ H _ I h) fun us s1 ⟨vs, H1, I1, r, q⟩ =>
    ⟨I1.kIn, run_gS F hgd hr (fun hl => by
      have z := hb s1 us I1.kIn (by rw [List.append_nil]; exact hl)
      rw [List.append_nil] at z
      exact z) (hx σ) I1 r q⟩) he hpl) hdb)⟩
end
/-! ### arguments: values, and names whose object is handed over to be changed -/
inductive Ar where
  | v (o : Ow)
  | io (i : Nat)
def rAr (X : Cx) (σ : L2.St) (g : Gs) : List Ar → List V → Fp → Prop
  | [], vs, F => vs = [] ∧ Em F
  | .v o :: as, vs, F => ∃ v r F1 F2, vs = v :: r ∧ OwR X.mg X.K g o v F1 ∧ rAr X σ g as r F2 ∧ Dj F1 F2 ∧ ∀ p, F p ↔ F1 p ∨ F2 p
  | .io i :: as, vs, F => ∃ v r, vs = v :: r ∧ σ[i]? = some (some v) ∧ rAr X σ g as r F
/-- a reading at the slots σ -/
def RXa {α β : Type} (X : Cx) (W : WX) (rel : Gs → α → β → Fp → Prop) (σ : L2.St) (t : L2.St → Hp → (β → Hp → Prop) → Prop) (ρ : Ev) (r : Rs α) : Prop :=
  ∀ H g F Q, Good X g H σ ρ F → Pst X W rel σ g F Q r → t σ H Q
def DR (X : Cx) (W : WX) (es : List Expr) (f : Fn (List Ar)) : Prop := ∀ ρ r, f ρ = some r → ∃ t, PA X es t ∧ ∀ σ, RXa X W (rAr X σ) σ t ρ r
def xR0 : Fn (List Ar) := ret []
def xRv (f : Fn Ow) (h : Fn (List Ar)) : Fn (List Ar) := bnd f fun o => bnd h fun as => ret (.v o :: as)
def xRi (i : Nat) (h : Fn (List Ar)) : Fn (List Ar) := fun ρ => match ρ[i]? with
  | some .no => none
  | none => none
  | some _ => bnd h (fun as => ret (.io i :: as)) ρ
section
variable {X : Cx} {W : WX} {α β γ δ : Type} {rel : Gs → α → β → Fp → Prop} {σ : L2.St} {g : Gs} {F : Fp} {H : Hp} {ρ ρ1 : Ev}
theorem RX.seqA {rel2 : Gs → γ → δ → Fp → Prop} {a : α} {r2 : Rs γ} {t1 : L2.St → Hp → (β → Hp → Prop) → Prop} {t2 : L2.St → Hp → (δ → Hp → Prop) → Prop} {Q : β → δ → Hp → Prop} (fm : Frm rel) (h1 : RX X W rel t1 ρ (.ok a ρ1)) (h2 : RXa X W rel2 σ t2 ρ1 r2) (G : Good X g H σ ρ F)
    (hq : match r2 with
      | .ok b ρ2 => ∀ x y H2 g2 F2 Fa Fb, Good X g2 H2 σ ρ2 F2 → rel g2 a x Fa → rel2 g2 b y Fb → Dj Fa Fb → Dj F2 (fun p => Fa p ∨ Fb p) → Stp g F g2 (fun p => F2 p ∨ (Fa p ∨ Fb p)) → Q x y H2
      | .ex c d ρ2 => ∀ cls dx H' g' F', Good X g' H' σ ρ2 F' → ExR X g' c d cls dx → Stp g F g' F' → W cls dx σ H') : t1 σ H fun x H1 => t2 σ H1 fun y H2 => Q x y H2 := by
  refine h1 σ H g F _ G fun x H1 g1 F1 Fa G1 r1 d1 s1 => h2 H1 g1 F1 _ G1 ?_
  cases r2 with
  | ex c d ρ2 => exact fun cls dx H' g' F' G' e z => hq cls dx H' g' F' G' e ((Stp.trans s1 z).sub fun _ => .inl)
  | ok b ρ2 =>
    intro y H2 g2 F2 Fb G2 r2 d2 s2
    have k : Kp g1 g2 Fa := s2.kp fun p z y => d1 p y z
    have nf : ∀ p, Fa p → ∀ w : g1.S p = none ∧ g1.M p = none, False := fun p z w => by
      obtain ⟨u, e⟩ := fm.in_ _ _ _ _ r1 p z
      rw [e] at w; cases w.2
    refine hq x y H2 g2 F2 Fa Fb G2 (fm.kp _ _ _ _ _ k r1) r2 (fun p z y => ?_) (fun p z y => ?_) ((Stp.trans s1 s2).sub fun p z => ?_)
    · rcases s2.fr p (.inr y) with w | w
      · exact d1 p w z
      · exact nf p z w
    · rcases y with y | y
      · rcases s2.fr p (.inl z) with w | w
        · exact d1 p w y
        · exact nf p y w
      · exact d2 p z y
    · rcases z with z | z | z
      · exact .inl (.inl z)
      · exact .inr z
      · exact .inl (.inr z)
end
section
variable {X : Cx} {W : WX} {e : Expr} {es : List Expr} {fe : Fn Ow} {fs : Fn (List Ar)} {pos : Pos}
theorem dr_0 : DR X W [] xR0 := fun ρ r h => by
  cases h
  exact ⟨_, pa_nil, fun σ H g F Q G q => q [] H g F (fun _ => False) G ⟨rfl, fun _ z => z⟩ (fun _ _ z => z) (Stp.refl fun p z => z.elim id False.elim)⟩
theorem dr_v (ha : DE X W e fe) (hs : DR X W es fs) (hst : starEach (e :: es) X.env = (false, eval e X.env) :: starEach es X.env := by rfl) : DR X W (e :: es) (xRv fe fs) := fun ρ r h => by
  rcases bnd_inv h with ⟨x, ρ1, h1, h2⟩ | ⟨c, d, ρ1, h1, rfl⟩
  · obtain ⟨ta, pa, qa⟩ := ha ρ _ h1
    rcases bnd_inv h2 with ⟨os, ρ2, h3, h4⟩ | ⟨c, d, ρ2, h3, rfl⟩
    · obtain ⟨tb, pb, qb⟩ := hs ρ1 _ h3
      cases h4
      refine ⟨_, pa_cons pa pb hst, fun σ H g F Q G q => RX.seqA (Q := fun x r H2 => Q (x :: r) H2) frm_V qa (qb σ) G fun v vs H2 g2 F2 Fa Fb G2 r1 r2 d1 d2 s => ?_⟩
      exact q (v :: vs) H2 g2 F2 (fun p => Fa p ∨ Fb p) G2 ⟨v, vs, Fa, Fb, rfl, r1, r2, d1, fun p => Iff.rfl⟩ d2 s
    · obtain ⟨tb, pb, qb⟩ := hs ρ1 _ h3
      exact ⟨_, pa_cons pa pb hst, fun σ H g F Q G q => RX.seqA (Q := fun x r H2 => Q (x :: r) H2) frm_V qa (qb σ) G q⟩
  · obtain ⟨ta, pa, qa⟩ := ha ρ _ h1
    exact ⟨_, pa_cons pa pa_no hst, fun σ H g F Q G q => qa σ H g F _ G q⟩
theorem dr_i (i : Nat) {nm : Str} (hs : DR X W es fs) (hN : X.N[i]? = some nm := by rfl) (hv : Vis X.env.scope nm := by first | exact Or.inl rfl | exact Or.inr (Or.inl rfl) | exact Or.inr (Or.inr rfl))
    (hd : (nm == ("__debug__" : Str)) = false := by decide) (hcd : (nm == ("__classdict__" : Str)) = false := by decide) (hst : starEach (.Name nm pos :: es) X.env = (false, eval (.Name nm pos) X.env) :: starEach es X.env := by rfl) : DR X W (.Name nm pos :: es) (xRi i fs) := fun ρ r h => by
  unfold xRi at h
  split at h
  · cases h
  · cases h
  · rename_i o no e
    have get : ∀ {σ : L2.St} {H : Hp} {g : Gs} {F : Fp}, Good X g H σ ρ F → ∃ v, σ[i]? = some (some v) := fun G => by
      obtain ⟨v, F1, F2, e1, e2, _⟩ := G.sr.at e
      obtain ⟨u, rfl, _⟩ := e2.get fun z => no (by rw [z])
      exact ⟨u, e1⟩
    rcases bnd_inv h with ⟨os, ρ2, h3, h4⟩ | ⟨c, d, ρ2, h3, rfl⟩
    · obtain ⟨tb, pb, qb⟩ := hs ρ _ h3
      cases h4
      refine ⟨_, pa_cons (pe_var hN hv hd hcd) pb hst, fun σ H g F Q G q => ?_⟩
      obtain ⟨v, hvv⟩ := get G
      exact ⟨v, hvv, qb σ H g F _ G fun vs H2 g2 F2 Fb G2 r2 d2 s => q (v :: vs) H2 g2 F2 Fb G2 ⟨v, vs, rfl, hvv, r2⟩ d2 s⟩
    · obtain ⟨tb, pb, qb⟩ := hs ρ _ h3
      refine ⟨_, pa_cons (pe_var hN hv hd hcd) pb hst, fun σ H g F Q G q => ?_⟩
      obtain ⟨v, hvv⟩ := get G
      exact ⟨v, hvv, qb σ H g F _ G q⟩
end
/-- what is handed over leaves its slot meanwhile -/
def takeA : List Ar → Ev → Option (List Ow × Ev)
  | [], ρ => some ([], ρ)
  | .v o :: as, ρ => (takeA as ρ).map fun r => (o :: r.1, r.2)
  | .io i :: as, ρ => match ρ[i]? with
    | some .no => none
    | none => none
    | some o => (takeA as (ρ.set i .no)).map fun r => (o :: r.1, r.2)
def putA : List Ar → List Ow → Ev → Ev
  | .v _ :: as, _ :: ps, ρ => putA as ps ρ
  | .io i :: as, p :: ps, ρ => putA as ps (ρ.set i p)
  | _, _, ρ => ρ
section
variable {X : Cx} {σ : L2.St} {g : Gs} {H : Hp}
theorem takeA_ok : ∀ {as : List Ar} {ρ ρ' : Ev} {os : List Ow} {vs : List V} {F Fa : Fp}, takeA as ρ = some (os, ρ') → Good X g H σ ρ F → rAr X σ g as vs Fa → Dj F Fa →
    ∃ F' Fb, Good X g H σ ρ' F' ∧ OwRs X.mg X.K g os vs Fb ∧ Dj F' Fb ∧ ∀ p, F' p ∨ Fb p → F p ∨ Fa p
  | [], ρ, _, _, vs, F, Fa, e, G, h, d => by
    cases e
    exact ⟨F, Fa, G, h, d, fun p z => z⟩
  | .v o :: as, ρ, _, _, vs, F, Fa, e, G, ⟨v, r, F1, F2, e1, h1, h2, hd, ef⟩, d => by
    obtain ⟨⟨os, ρ'⟩, e2, e3⟩ := Option.map_eq_some_iff.mp e
    cases e3
    obtain ⟨F', Fb, a1, a2, a3, a4⟩ := takeA_ok e2 G h2 fun p z y => d p z ((ef p).mpr (.inr y))
    refine ⟨F', fun p => F1 p ∨ Fb p, a1, ⟨v, r, F1, Fb, e1, h1, a2, fun p z y => ?_, fun p => Iff.rfl⟩, fun p z y => ?_, fun p z => ?_⟩
    · rcases a4 p (.inr y) with w | w
      · exact d p w ((ef p).mpr (.inl z))
      · exact hd p z w
    · rcases y with y | y
      · rcases a4 p (.inl z) with w | w
        · exact d p w ((ef p).mpr (.inl y))
        · exact hd p y w
      · exact a3 p z y
    · rcases z with z | z | z
      · exact (a4 p (.inl z)).elim .inl fun w => .inr ((ef p).mpr (.inr w))
      · exact .inr ((ef p).mpr (.inl z))
      · exact (a4 p (.inr z)).elim .inl fun w => .inr ((ef p).mpr (.inr w))
  | .io i :: as, ρ, _, _, vs, F, Fa, e, G, ⟨v, r, e1, h1, h2⟩, d => by
    unfold takeA at e
    split at e
    · cases e
    · cases e
    · rename_i o no eo
      obtain ⟨⟨os, ρ'⟩, e2, e3⟩ := Option.map_eq_some_iff.mp e
      cases e3
      obtain ⟨v0, G1, G2, f1, f2, f3, f4, f5⟩ := G.sr.at eo
      obtain ⟨u, rfl, hu⟩ := f2.get fun z => no (by rw [z])
      rw [f1] at h1
      cases h1
      have sr := f5 g .no (some v) (fun _ => False) Kp.refl (.inl ⟨rfl, fun _ z => z⟩) fun _ z _ => z
      rw [set_self f1] at sr
      have Gn : Good X g H σ (ρ.set i .no) (fun p => False ∨ G2 p) := ⟨G.ok, sr⟩
      obtain ⟨F', Fb, a1, a2, a3, a4⟩ := takeA_ok e2 Gn h2 fun p z y => z.elim id fun z => d p ((f4 p).mpr (.inr z)) y
      have nFb : ∀ p, G1 p → Fb p → False := fun p z y => by
        rcases a4 p (.inr y) with (w | w) | w
        · exact w
        · exact f3 p z w
        · exact d p ((f4 p).mpr (.inl z)) w
      have nF' : ∀ p, F' p → G1 p → False := fun p y z => by
        rcases a4 p (.inl y) with (w | w) | w
        · exact w
        · exact f3 p z w
        · exact d p ((f4 p).mpr (.inl z)) w
      refine ⟨F', fun p => G1 p ∨ Fb p, a1, ⟨v, r, G1, Fb, e1, hu, a2, nFb, fun p => Iff.rfl⟩, fun p z y => y.elim (nF' p z) (a3 p z), fun p z => ?_⟩
      rcases z with z | z | z
      · rcases a4 p (.inl z) with (w | w) | w
        · exact w.elim
        · exact .inl ((f4 p).mpr (.inr w))
        · exact .inr w
      · exact .inl ((f4 p).mpr (.inl z))
      · rcases a4 p (.inr z) with (w | w) | w
        · exact w.elim
        · exact .inl ((f4 p).mpr (.inr w))
        · exact .inr w
/-- and comes back -/
theorem putA_ok : ∀ {as : List Ar} {ρ : Ev} {ps : List Ow} {vs : List V} {F Fa Fp' : Fp} {g0 : Gs}, Good X g H σ ρ F → rAr X σ g0 as vs Fa → OwRs X.mg X.K g ps vs Fp' → Dj F Fp' →
    ∃ F', Good X g H σ (putA as ps ρ) F' ∧ ∀ p, F' p → F p ∨ Fp' p
  | [], ρ, ps, vs, F, Fa, Fq, g0, G, h, hp, d => ⟨F, by cases ps <;> exact G, fun p z => .inl z⟩
  | .v o :: as, ρ, [], vs, F, Fa, Fq, g0, G, h, hp, d => ⟨F, G, fun p z => .inl z⟩
  | .io i :: as, ρ, [], vs, F, Fa, Fq, g0, G, h, hp, d => ⟨F, G, fun p z => .inl z⟩
  | .v o :: as, ρ, q :: ps, vs, F, Fa, Fq, g0, G, ⟨v, r, F1, F2, e1, h1, h2, hd, ef⟩, ⟨v', r', G1, G2, e1', h1', h2', hd', ef'⟩, d => by
    rw [e1] at e1'
    cases e1'
    obtain ⟨F', a1, a2⟩ := putA_ok G h2 h2' fun p z y => d p z ((ef' p).mpr (.inr y))
    exact ⟨F', a1, fun p z => (a2 p z).elim .inl fun z => .inr ((ef' p).mpr (.inr z))⟩
  | .io i :: as, ρ, q :: ps, vs, F, Fa, Fq, g0, G, ⟨v, r, e1, h1, h2⟩, ⟨v', r', G1, G2, e1', h1', h2', hd', ef'⟩, d => by
    rw [e1] at e1'
    cases e1'
    by_cases il : i < ρ.length
    · obtain ⟨v0, K1, K2, f1, f2, f3, f4, f5⟩ := G.sr.at (List.getElem?_eq_getElem il)
      rw [f1] at h1
      cases h1
      have sr := f5 g q (some v) G1 Kp.refl (.inr ⟨v, rfl, h1'⟩) fun p z y => d p ((f4 p).mpr (.inr y)) ((ef' p).mpr (.inl z))
      rw [set_self f1] at sr
      obtain ⟨F', a1, a2⟩ := putA_ok (F := fun p => G1 p ∨ K2 p) ⟨G.ok, sr⟩ h2 h2' fun p z y => by
        rcases z with z | z
        · exact hd' p z y
        · exact d p ((f4 p).mpr (.inr z)) ((ef' p).mpr (.inr y))
      refine ⟨F', a1, fun p z => ?_⟩
      rcases a2 p z with (z | z) | z
      · exact .inr ((ef' p).mpr (.inl z))
      · exact .inl ((f4 p).mpr (.inr z))
      · exact .inr ((ef' p).mpr (.inr z))
    · have e0 : ρ.set i q = ρ := List.set_eq_of_length_le (by omega)
      show ∃ F', Good X g H σ (putA as ps (ρ.set i q)) F' ∧ _
      rw [e0]
      obtain ⟨F', a1, a2⟩ := putA_ok G h2 h2' fun p z y => d p z ((ef' p).mpr (.inr y))
      exact ⟨F', a1, fun p z => (a2 p z).elim .inl fun z => .inr ((ef' p).mpr (.inr z))⟩
end
/-- a call: what is handed over, the def's own function, what comes back -/
def app (n : Nat) (fn : FO) (as : List Ar) : Fn Ow := fun ρ => match takeA as ρ with
  | none => none
  | some (os, ρ1) => if os.length = n then match fn os with
    | some (.rt o ps) => some (.ok o (putA as ps ρ1))
    | some (.ex c d ps) => some (.ex c d (putA as ps ρ1))
    | none => none
  else none
def xCall (n : Nat) (fn : FO) (f : Fn (List Ar)) : Fn Ow := bnd f (app n fn)
section
variable {X : Cx} {W : WX} {k n : Nat} {f : Addr} {fd : FuncData} {ps ks : List Str} {x : Str} {st : Stmt} {p pos : Pos} {e : Expr} {es : List Expr} {fs : Fn (List Ar)} {fn : FO} {kws : List Keyword}
theorem app_ok {σ : L2.St} {H : Hp} {g : Gs} {F Fa : Fp} {vs : List V} {as : List Ar} {ρ : Ev} {r : Rs Ow} {Q : VK} {g0 : Gs} {F0 : Fp} (h : app n fn as ρ = some r) (G : Good X g H σ ρ F) (ra : rAr X σ g as vs Fa) (d : Dj F Fa) (s : Stp g0 F0 g fun p => F p ∨ Fa p) (q : Pst X W (rV X) σ g0 F0 Q r) :
    spO X.mg X.K n fn vs H Q (WE W σ) := by
  unfold app at h
  split at h
  · cases h
  · rename_i os ρ1 et
    obtain ⟨F', Fb, G1, ro, d1, w1⟩ := takeA_ok et G ra d
    split at h
    rotate_left
    · cases h
    rename_i hl
    split at h
    · rename_i o ps' ef
      cases h
      refine ⟨g, os, Fb, _, hl, ro, G.ok, ef, fun v H' g' Fp Fv k' rp rv dj st => ?_⟩
      have G2 : Good X g' H' σ ρ1 F' := ⟨k', G1.sr.kp (st.kp d1)⟩
      have dF : ∀ p, F' p → Fp p ∨ Fv p → False := fun p z y => by
        rcases st.fr p y with w | ⟨_, w⟩
        · exact d1 p z w
        · obtain ⟨u, eu⟩ := G1.sr.in_ p z
          rw [eu] at w; cases w
      obtain ⟨F3, G3, w3⟩ := putA_ok G2 ra rp fun p z y => dF p z (.inl y)
      refine q v H' g' F3 Fv G3 rv (fun p z y => (w3 p z).elim (fun z => dF p z (.inr y)) fun z => dj p z y) ?_
      have t1 : Stp g0 F0 g fun p => Fb p ∨ F' p := s.sub fun p z => w1 p z.symm
      refine (Stp.trans t1 st).sub fun p z => ?_
      rcases z with z | z
      · exact (w3 p z).elim .inr fun z => .inl (.inl z)
      · exact .inl (.inr z)
    · rename_i c dd ps' ef
      cases h
      refine ⟨g, os, Fb, _, hl, ro, G.ok, ef, fun cls dx H' g' Fp k' rp re st => ?_⟩
      have G2 : Good X g' H' σ ρ1 F' := ⟨k', G1.sr.kp (st.kp d1)⟩
      have dF : ∀ p, F' p → Fp p → False := fun p z y => by
        rcases st.fr p y with w | ⟨_, w⟩
        · exact d1 p z w
        · obtain ⟨u, eu⟩ := G1.sr.in_ p z
          rw [eu] at w; cases w
      obtain ⟨F3, G3, w3⟩ := putA_ok G2 ra rp dF
      refine q cls dx H' g' F3 G3 re ?_
      have t1 : Stp g0 F0 g fun p => Fb p ∨ F' p := s.sub fun p z => w1 p z.symm
      exact (Stp.trans t1 st).sub fun p z => (w3 p z).elim .inr .inl
    · cases h
theorem de_call0 {FX : FnAt X.prog X.w X.K X.mg X.base x st k ps (spO X.mg X.K n fn)} (tk : L2N.Takes X W) (hgd : X.A.guards = some []) (hr : Room k X.A) (ha : DR X W (e :: es) fs) (hg : Gl X x := by rfl) (hdb : (x == ("__debug__" : Str)) = false := by decide)
    (he : starEach (e :: es) X.env = (false, eval e X.env) :: starEach es X.env := by rfl) (hpl : (backTo pos (starEach es X.env)).any (·.1) = false := by rfl) : DE X W (.Call (.Name x p) (e :: es) [] pos) (xCall n fn fs) := fun ρ r h => by
  obtain ⟨f, fd, m1, m2, m3, m4⟩ := FX.it
  rcases bnd_inv h with ⟨as, ρ1, h1, h2⟩ | ⟨c, d, ρ1, h1, rfl⟩
  · obtain ⟨t, pa, qa⟩ := ha ρ _ h1
    exact ⟨_, pe_callGS m4 hgd hr hg m1 m2.kp m3 (fun σ => L2N.passAt tk σ) pa hdb he hpl, fun σ H g F Q G q => qa σ H g F _ G fun vs H1 g1 F1 Fa G1 r1 d1 s1 => app_ok h2 G1 r1 d1 s1 q⟩
  · obtain ⟨t, pa, qa⟩ := ha ρ _ h1
    exact ⟨_, pe_callGS m4 hgd hr hg m1 m2.kp m3 (fun σ => L2N.passAt tk σ) pa hdb he hpl, fun σ H g F Q G q => qa σ H g F _ G q⟩
theorem de_call (FX : FnAt X.prog X.w X.K X.mg X.base x st k ps (spO X.mg X.K n fn)) (tk : L2N.Takes X W) (hgd : X.A.guards = some []) (hr : Room k X.A) (ha : DR X W (e :: es) fs) (hg : Gl X x := by rfl) (hdb : (x == ("__debug__" : Str)) = false := by decide)
    (he : starEach (e :: es) X.env = (false, eval e X.env) :: starEach es X.env := by rfl) (hpl : (backTo pos (starEach es X.env)).any (·.1) = false := by rfl) : DE X W (.Call (.Name x p) (e :: es) [] pos) (xCall n fn fs) := de_call0 (FX := FX) tk hgd hr ha hg hdb he hpl
/-- all by keywords -/
def DKw (X : Cx) (W : WX) (kws : List Keyword) (f : Fn (List Ow)) : Prop := ∀ ρ r, f ρ = some r → ∃ t, PK X kws t ∧ RX X W (rA X) t ρ r
theorem pk_no {X : Cx} {kws : List Keyword} : PK X kws (fun _ _ _ => False) := ⟨fun _ _ _ _ _ _ _ h => h.elim⟩
theorem dk_0 : DKw X W [] xA0 := fun ρ r h => by
  cases h
  exact ⟨_, pk_nil, rx_ret (b := []) (fun σ H Q q => q) fun g => ⟨rfl, fun _ z => z⟩⟩
theorem dk_1 {fe : Fn Ow} {fl : Fn (List Ow)} {nm : Option Str} {kpos : Pos} (ha : DE X W e fe) (hs : DKw X W kws fl) : DKw X W (⟨nm, e, kpos⟩ :: kws) (xA1 fe fl) := fun ρ r h => by
  rcases bnd_inv h with ⟨x, ρ1, h1, h2⟩ | ⟨c, d, ρ1, h1, rfl⟩
  · obtain ⟨ta, pa, qa⟩ := ha ρ _ h1
    rcases bnd_inv h2 with ⟨os, ρ2, h3, h4⟩ | ⟨c, d, ρ2, h3, rfl⟩
    · obtain ⟨tb, pb, qb⟩ := hs ρ1 _ h3
      cases h4
      refine ⟨_, pk_cons pa pb, fun σ H g F Q G q => RX.seq (Q := fun x r H2 => Q (x :: r) H2) frm_V frm_A qa qb G fun v vs H2 g2 F2 Fa Fb G2 r1 r2 d1 d2 s => ?_⟩
      exact q (v :: vs) H2 g2 F2 (fun p => Fa p ∨ Fb p) G2 ⟨v, vs, Fa, Fb, rfl, r1, r2, d1, fun p => Iff.rfl⟩ d2 s
    · obtain ⟨tb, pb, qb⟩ := hs ρ1 _ h3
      exact ⟨_, pk_cons pa pb, fun σ H g F Q G q => RX.seq (Q := fun x r H2 => Q (x :: r) H2) frm_V frm_A qa qb G q⟩
  · obtain ⟨ta, pa, qa⟩ := ha ρ _ h1
    exact ⟨_, pk_cons pa pk_no, fun σ H g F Q G q => qa σ H g F _ G q⟩
/-- the values in the parameters' order; what they hold stands from now on -/
def xCallK (n m : Nat) (π : List Nat) (fn : FO) (f : Fn (List Ow)) : Fn Ow := bnd f fun os => match frzs os with
  | some ds => if ds.length = m then app n fn ((perm π ds).map fun d => .v (.f d)) else fun _ => none
  | none => fun _ => none
theorem rAr_of {σ : L2.St} {g : Gs} : ∀ {ds : List Dt} {vs : List V}, RpAll X.K g.S vs ds → rAr X σ g (ds.map fun d => .v (.f d)) vs fun _ => False
  | [], _, .nil => ⟨rfl, fun _ z => z⟩
  | d :: ds, _, .cons h t => ⟨_, _, fun _ => False, fun _ => False, rfl, ⟨h, fun _ z => z⟩, rAr_of t, fun _ z _ => z, fun p => ⟨.inl, fun z => z.elim id id⟩⟩
theorem de_callK {fl : Fn (List Ow)} {m : Nat} (π : List Nat) (FX : FnAt X.prog X.w X.K X.mg X.base x st k ps (spO X.mg X.K n fn)) (tk : L2N.Takes X W) (hgd : X.A.guards = some []) (hr : Room k X.A)
    (hb : ∀ (kV doc pm : Value) (an : Option Addr) (cdv ct : Value) (ws : List Value), ws.length = ks.length → bindArgs (PySem.W.fnOf x x (defArgs st) (defBody st) (defScope st) .none kV doc pm an cdv ct) ⟨[], ks.zip ws⟩ = pure (ps.zip (perm π ws)))
    (ha : DKw X W kws fl) (hm : m = ks.length := by rfl) (hg : Gl X x := by rfl) (hall : (backToKw pos (keywordEach kws X.env)).all (·.1.isSome) = true := by rfl) (hks : (backToKw pos (keywordEach kws X.env)).filterMap (·.1) = ks := by rfl)
    (hdb : (x == ("__debug__" : Str)) = false := by decide) (hpl : ((backTo pos (starEach [] X.env)).any (·.1) || (backToKw pos (keywordEach kws X.env)).any (·.1.isNone)) = false := by rfl) : DE X W (.Call (.Name x p) [] kws pos) (xCallK n m π fn fl) := fun ρ r h => by
  obtain ⟨f, fd, h1, h2, h3, h4⟩ := FX.it
  obtain ⟨oc, od, kV, doc, pm, an, cdv, ct, osl, rfl, lk, hcd⟩ := h2.ex
  have pe : ∀ t, PK X kws t → PE X (.Call (.Name x p) [] kws pos) (fun σ H Q => t σ H fun zs H1 => zs.length = ks.length ∧ spO X.mg X.K n fn (perm π zs) H1 Q (WE W σ)) := fun t pa => ⟨fun pins s σ H Q I h => by
    refine wpAny_Call_Name_kw (ld_glob I hg h1 (PySem.W.callWith_KW0 (h₀ := X.base) I.ok.mod.kin h2.kp hall (thn (pa.run pos pins s σ H _ I h) fun ws s1 ⟨zs, H1, I1, r, hl, q⟩ => ⟨I1.kIn, ?_⟩) hpl) hdb)
    rw [hks]
    exact run_gS (E := WE W) h4 hgd hr (fun _ => .of_eq (hb kV doc pm an cdv ct ws (by rw [← r.length]; exact hl))) (L2N.passAt tk σ) I1 (perm_vals r π) q⟩
  rcases bnd_inv h with ⟨os, ρ1, h5, h6⟩ | ⟨c, d, ρ1, h5, rfl⟩
  · obtain ⟨t, pa, qa⟩ := ha ρ _ h5
    cases ed : frzs os with
    | none => rw [ed] at h6; cases h6
    | some ds =>
      rw [ed] at h6
      by_cases hl : ds.length = m
      · have h6 : app n fn ((perm π ds).map fun d => Ar.v (.f d)) ρ1 = some r := by
          have z : (if ds.length = m then app n fn ((perm π ds).map fun d => Ar.v (.f d)) else fun _ => none) ρ1 = some r := h6
          rw [if_pos hl] at z
          exact z
        refine ⟨_, pe t pa, fun σ H g F Q G q => qa σ H g F _ G fun vs H1 g1 F1 Fa G1 r1 d1 s1 => ?_⟩
        obtain ⟨k2, r2, s2⟩ := frzs_ok G1.ok ed r1
        obtain ⟨G3, d3, s3⟩ := G1.op s1 d1 k2 s2
        exact ⟨by rw [r2.len, hl, hm], app_ok h6 G3 (rAr_of (DL.perm_rp r2 π)) d3 s3 q⟩
      · have z : (if ds.length = m then app n fn ((perm π ds).map fun d => Ar.v (.f d)) else fun _ => none) ρ1 = some r := h6
        rw [if_neg hl] at z
        cases z
  · obtain ⟨t, pa, qa⟩ := ha ρ _ h5
    exact ⟨_, pe t pa, fun σ H g F Q G q => qa σ H g F _ G q⟩
end
end OW
/-! ranges between numbers of any size -/
namespace OW
open PySem PySem.Spec PyProof.Rows L2
theorem turn_long {P : Program} {w : World} {K : PySem.W.Frag} {tg : Expr} (it : Addr) (lo c : Int) (n : Nat) : Turn P w K tg (Itc lo c n) [it] it (fun i h => IsLongIter h it (lo + (i : Nat) * c) ((n : Int) - (i : Nat)) c) where
  mem := by simp
  obj := fun i h st b hb => by
    have e : b = it := by simpa using hb
    subst e
    exact ⟨_, st, fun v z => nomatch z⟩
  keep := fun i h h' st k => k it (by simp) _ st
  item := by
    intro X hP hw hK hc i pins s σ H E I hf st hg
    subst hP hw hK
    obtain ⟨f0, f1, f2, f3, f4, f5⟩ := hf it (by simp)
    have W := Walks.longrange (prog := X.prog) (w := X.w) (I.ok.hd hc) it lo c n
    refine W.item i s _ _ hg st fun v h' tk hv st' kk => ?_
    obtain ⟨t, rfl⟩ := hv
    have I1 : Inv X pins σ H { s with heap := h', toks := tk } := I.turned (fun b o hb e => kk b o (by simpa using hb) e) f0 f1 f3 f4 f5
    exact ⟨_, rfl, go_of (s := { s with heap := h', toks := tk }) (n := "longrange_iterator") st' rfl rfl (by decide) ⟨.int (lo + (i : Nat) * c), H, I1, ⟨t, rfl⟩, ⟨rfl, rfl⟩, st', fun b hb => (hf b hb).1⟩⟩
  done := by
    intro X hP hw hK hc i pins s σ H E I hf st hg
    subst hP hw hK
    obtain ⟨f0, f1, f2, f3, f4, f5⟩ := hf it (by simp)
    exact wpAny_pyNext_long_end (I.ok.hd hc) st (by have : n ≤ i := hg; omega) fun h' eb => ⟨rfl, I.turned (t' := s.toks) (fun b o hb e => eb b o hb e) f0 f1 f3 f4 f5⟩
  self := fun A i s Q E st h => wpAny_pyIter_longiter st h
section
variable {X : Cx} {tg : Expr}
theorem range_itL {pins : List (Addr × Obj)} {σ : L2.St} {H : Hp} {s : Shared} {R : It → Hp → Prop} {E : Value → Shared → Prop} {i j c : Int} {n : Nat} {t u v : Tok} {tk : Nat} (I : Inv X pins σ H s) (hn : Builtin.Range.rangeSize i j c = (n : Int))
    (q : R (Itc i c n) H) : wpAny (model X.prog X.w) X.A (pyIter (.ref s.heap.objs.size)) (PIE X pins σ tg R) E { s with heap := s.heap.push { cls := .type "range", data := .fields #[.int i t, .int j u, .int c v] }, toks := tk } := by
  have I2 : Inv X pins σ H { s with heap := s.heap.push { cls := .type "range", data := .fields #[.int i t, .int j u, .int c v] }, toks := tk } := I.kept (t' := tk) fun b o e => Heap.get?_push_of_some _ e
  have e1 : i + ((0 : Nat) : Int) * c = i := by simp
  have e2 : (n : Int) - ((0 : Nat) : Int) = Builtin.Range.rangeSize i j c := by rw [hn]; simp
  cases hs : Builtin.Range.small i j c with
  | true =>
    refine wpAny_pyIter_range (IsRange.new ..) hs ?_
    refine pi_one (tk := tk) I2 _ (turn_rangeC _ i c n) ?_ q
    show IsRangeIter _ _ (i + ((0 : Nat) : Int) * c) ((n : Int) - ((0 : Nat) : Int)) c
    rw [e1, e2]
    exact Heap.get?_push_size _ rfl
  | false =>
    refine wpAny_pyIter_longrange (IsRange.new ..) hs ?_
    refine pi_one (tk := tk) I2 _ (turn_long _ i c n) ?_ q
    show IsLongIter _ _ (i + ((0 : Nat) : Int) * c) ((n : Int) - ((0 : Nat) : Int)) c
    rw [e1, e2]
    exact Heap.get?_push_size _ rfl
def iRng1L (ta : TA) : TI := fun σ H R => ta σ H fun vs H1 => ∃ j : Int, vs = [.int j] ∧ R (Itc 0 1 j.toNat) H1
def iRng2L (ta : TA) : TI := fun σ H R => ta σ H fun vs H1 => ∃ i j : Int, vs = [.int i, .int j] ∧ R (Itc i 1 (j - i).toNat) H1
theorem size_one {i j : Int} : Builtin.Range.rangeSize i j 1 = (((j - i).toNat : Nat) : Int) := by rw [rangeSize_one]; split <;> omega
theorem pi_range1L {a : Expr} {ta : TA} {p pos : Pos} (hg : Gl X "range") (hm : X.mg "range" = none) (ha : PA X [a] ta) (hs : starEach [a] X.env = [(false, eval a X.env)] := by rfl) : PI X tg (.Call (.Name "range" p) [a] [] pos) (iRng1L ta) := by
  refine ⟨fun pins s σ H R I h => ?_⟩
  refine Call_ (ld_blt I hg hm boot_range (PyProof.Rows.callWith_type1 (thn (ha.run pos pins s σ H _ I h) fun us s1 ⟨vs, H1, I1, r1, q1⟩ => ?_) hs rfl))
  obtain ⟨j, e, q⟩ := q1
  subst e
  cases r1 with
  | cons r rr =>
    cases rr
    obtain ⟨t, rfl⟩ := r
    exact call_range_1 (range_itL I1 (by rw [size_one, Int.sub_zero]) q)
theorem pi_range2L {a b : Expr} {ta : TA} {p pos : Pos} (hg : Gl X "range") (hm : X.mg "range" = none) (ha : PA X [a, b] ta) (hs : starEach [a, b] X.env = [(false, eval a X.env), (false, eval b X.env)] := by rfl) (hs2 : starEach [b] X.env = [(false, eval b X.env)] := by rfl) :
    PI X tg (.Call (.Name "range" p) [a, b] [] pos) (iRng2L ta) := by
  refine ⟨fun pins s σ H R I h => ?_⟩
  refine Call_ (ld_blt I hg hm boot_range (PyProof.Rows.callWith_type1 (thn (ha.run pos pins s σ H _ I h) fun us s1 ⟨vs, H1, I1, r1, q1⟩ => ?_) (by rw [hs, hs2]) (by rw [hs2]; rfl)))
  obtain ⟨i, j, e, q⟩ := q1
  subst e
  cases r1 with
  | cons r rr =>
    cases rr with
    | cons r' rr =>
      cases rr
      obtain ⟨t, rfl⟩ := r
      obtain ⟨t', rfl⟩ := r'
      exact call_range_2 (range_itL I1 size_one q)
end
end OW
/-! set(..) of a list of ints -/
namespace OW
open PySem PySem.Spec PyProof.Rows L2
end OW
namespace OW
open PySem PySem.Spec PyProof.Rows L2
end OW
namespace OW
open PySem PySem.Spec PyProof.Rows L2
open DL (Dt Rp RpAll SqX pe_no pt_no pw_no ps_no pss_no FnG FnAt perm perm_vals rng enum zip2 blkX)
/-! ### what is walked -/
def Yld (K : PySem.W.Frag) (g : Gs) (ds : List Dt) (J : It) : Prop := ∀ g2 H2, GsOk g2 H2 → Same g.S g2.S →
  (∀ j d, ds[j]? = some d → J.go j H2 ∧ ∀ x H3, J.yld j H2 x H3 → ∃ g3, GsOk g3 H3 ∧ Same g2.S g3.S ∧ Same g2.M g3.M ∧ Rp K g3.S x d) ∧ J.stop ds.length H2
def rI (X : Cx) (g : Gs) (ds : List Dt) (J : It) (F : Fp) : Prop := Yld X.K g ds J ∧ Em F
def DI (X : Cx) (W : WX) (tg iter : Expr) (f : Fn (List Dt)) : Prop := ∀ ρ r, f ρ = some r → ∃ wi, PI X tg iter wi ∧ RX X W (rI X) wi ρ r
def iL (f : Fn Ow) : Fn (List Dt) := bnd f fun o => opt (match frz o with
  | some (.lst ds) => some ds
  | some (.tup ds) => some ds
  | _ => none)
def iR1 (f : Fn Ow) : Fn (List Dt) := bnd f fun o => opt (match o with
  | .f (.int n) => some ((rng 0 n.toNat).map .int)
  | _ => none)
def iR2 (f h : Fn Ow) : Fn (List Dt) := bnd f fun o => bnd h fun q => opt (match o, q with
  | .f (.int m), .f (.int n) => some ((rng m (n - m).toNat).map .int)
  | _, _ => none)
def iE (f : Fn Ow) : Fn (List Dt) := bnd f fun o => opt (match frz o with
  | some (.lst ds) => some (enum ds)
  | _ => none)
def iZ (f h : Fn Ow) : Fn (List Dt) := bnd f fun o => bnd h fun q => opt (match frz o, frz q with
  | some (.lst ds), some (.lst es) => some (zip2 ds es)
  | _, _ => none)
section
variable {X : Cx} {W : WX} {tg e e2 : Expr} {fe fe2 : Fn Ow} {pos p : Pos}
/-- what is walked stands -/
theorem wlk {σ : L2.St} {g g1 : Gs} {H1 : Hp} {F F1 Fv : Fp} {ρ1 : Ev} {o : Ow} {d : Dt} {v : V} (G1 : Good X g1 H1 σ ρ1 F1) (ed : frz o = some d) (r1 : OwR X.mg X.K g1 o v Fv) (d1 : Dj F1 Fv) (s1 : Stp g F g1 fun p => F1 p ∨ Fv p) :
    ∃ g2, Good X g2 H1 σ ρ1 F1 ∧ Rp X.K g2.S v d ∧ Stp g F g2 F1 ∧ Same g1.S g2.S := by
  have r2 := frzG_rp G1.ok ed r1
  have st := frzG_stp G1.ok (F := Fv) (F' := Fv) fun _ z => z
  obtain ⟨G2, d2, s2⟩ := G1.op s1 d1 (frzG_ok G1.ok) (st.sub (F' := fun _ => False) fun p z => z.elim)
  exact ⟨_, G2, r2, s2.sub fun p => .inl, frzG_st G1.ok⟩
theorem yld_list {K : PySem.W.Frag} {g : Gs} {a : Addr} {xs : List V} {ds : List Dt} (hs : SqX K g.S a xs) (rv : RpAll K g.S xs ds) : Yld K g ds (Itl K a) := fun g2 H2 k2 st => by
  have hs2 : SqL K H2 a xs := (DL.sqx_mono k2.s (DL.sqx_mono st hs)).l
  refine ⟨fun j d hj => ?_, ⟨xs, hs2, by rw [rv.len]; exact Nat.le_refl _⟩⟩
  obtain ⟨v, v1, v2⟩ := rv.at hj
  refine ⟨⟨xs, v, hs2, v1⟩, fun x H3 ⟨y1, y2⟩ => ?_⟩
  subst y1
  have e := y2 xs hs2
  rw [v1] at e
  cases e
  exact ⟨g2, k2, fun _ _ e => e, fun _ _ e => e, v2.mono st⟩
theorem yld_tup {K : PySem.W.Frag} {g : Gs} {a : Addr} {xs : List V} {ds : List Dt} (hs : SqT K g.S a xs) (rv : RpAll K g.S xs ds) : Yld K g ds (Itt K a) := fun g2 H2 k2 st => by
  have hs2 := DL.sqt_mono k2.s (DL.sqt_mono st hs)
  refine ⟨fun j d hj => ?_, ⟨xs, hs2, by rw [rv.len]; exact Nat.le_refl _⟩⟩
  obtain ⟨v, v1, v2⟩ := rv.at hj
  refine ⟨⟨xs, v, hs2, v1⟩, fun x H3 ⟨y1, y2⟩ => ?_⟩
  subst y1
  have e := y2 xs hs2
  rw [v1] at e
  cases e
  exact ⟨g2, k2, fun _ _ e => e, fun _ _ e => e, v2.mono st⟩
theorem yld_rngC {K : PySem.W.Frag} {g : Gs} {lo : Int} {n : Nat} : Yld K g ((rng lo n).map Dt.int) (Itc lo 1 n) := fun g2 H2 k2 st => by
  refine ⟨fun j d hj => ?_, show n ≤ _ by rw [List.length_map, DL.rng_length]; exact Nat.le_refl _⟩
  obtain ⟨h1, rfl⟩ := DL.rng_get hj
  refine ⟨h1, fun x H3 ⟨y1, y2⟩ => ?_⟩
  subst y1
  subst y2
  rw [Int.mul_one]
  exact ⟨g2, k2, fun _ _ e => e, fun _ _ e => e, Rp.int _⟩
theorem di_l (h : DE X W e fe) : DI X W tg e (iL fe) := fun ρ r hr => by
  rcases bnd_inv hr with ⟨o, ρ1, h1, h2⟩ | ⟨c, d, ρ1, h1, rfl⟩
  · obtain ⟨t, p, q⟩ := h ρ _ h1
    obtain ⟨ds, h3, rfl⟩ := opt_inv h2
    split at h3
    · rename_i ds' ed
      cases h3
      refine ⟨_, pi_list p, fun σ H g F R G z => q σ H g F _ G fun v H1 g1 F1 Fv G1 r1 d1 s1 => ?_⟩
      obtain ⟨g2, G2, rv, s2, st⟩ := wlk G1 ed r1 d1 s1
      cases rv with
      | lst a1 a2 => exact ⟨_, rfl, ⟨_, (DL.sqx_mono G2.ok.s a1).l⟩, z _ H1 g2 F1 (fun _ => False) G2 ⟨yld_list a1 a2, fun _ z => z⟩ (fun _ _ z => z) (s2.sub fun p y => y.elim id False.elim)⟩
    · rename_i ds' ed
      cases h3
      refine ⟨_, pi_tup p, fun σ H g F R G z => q σ H g F _ G fun v H1 g1 F1 Fv G1 r1 d1 s1 => ?_⟩
      obtain ⟨g2, G2, rv, s2, st⟩ := wlk G1 ed r1 d1 s1
      cases rv with
      | tup a1 a2 => exact ⟨_, rfl, ⟨_, DL.sqt_mono G2.ok.s a1⟩, z _ H1 g2 F1 (fun _ => False) G2 ⟨yld_tup a1 a2, fun _ z => z⟩ (fun _ _ z => z) (s2.sub fun p y => y.elim id False.elim)⟩
    · cases h3
  · obtain ⟨t, p, q⟩ := h ρ _ h1
    exact ⟨_, pi_list p, fun σ H g F R G z => q σ H g F _ G z⟩
theorem di_r1 {p : Pos} (hm : X.mg "range" = none) (h : DE X W e fe) (hg : Gl X "range" := by rfl) (hn : starEach [e] X.env = (false, eval e X.env) :: starEach [] X.env := by rfl) (hs : starEach [e] X.env = [(false, eval e X.env)] := by rfl) : DI X W tg (.Call (.Name "range" p) [e] [] pos) (iR1 fe) := fun ρ r hr => by
  rcases bnd_inv hr with ⟨o, ρ1, h1, h2⟩ | ⟨c, d, ρ1, h1, rfl⟩
  · obtain ⟨t, p, q⟩ := h ρ _ h1
    obtain ⟨ds, h3, rfl⟩ := opt_inv h2
    split at h3
    · cases h3
      refine ⟨_, pi_range1L hg hm (pa_cons p pa_nil hn) hs, fun σ H g F R G z => q σ H g F _ G fun v H1 g1 F1 Fv G1 r1 d1 s1 => ?_⟩
      obtain ⟨r1, ev⟩ := r1
      cases r1
      exact ⟨_, rfl, z _ H1 g1 F1 Fv G1 ⟨yld_rngC, ev⟩ d1 s1⟩
    · cases h3
  · obtain ⟨t, p, q⟩ := h ρ _ h1
    exact ⟨_, pi_range1L hg hm (pa_cons p pa_nil hn) hs, fun σ H g F R G z => q σ H g F _ G z⟩
theorem di_r2 {p : Pos} (hm : X.mg "range" = none) (h : DE X W e fe) (h' : DE X W e2 fe2) (hg : Gl X "range" := by rfl) (hn : starEach [e, e2] X.env = (false, eval e X.env) :: starEach [e2] X.env := by rfl) (hn2 : starEach [e2] X.env = (false, eval e2 X.env) :: starEach [] X.env := by rfl)
    (hs : starEach [e, e2] X.env = [(false, eval e X.env), (false, eval e2 X.env)] := by rfl) (hs2 : starEach [e2] X.env = [(false, eval e2 X.env)] := by rfl) : DI X W tg (.Call (.Name "range" p) [e, e2] [] pos) (iR2 fe fe2) := fun ρ r hr => by
  rcases bnd_inv hr with ⟨o, ρ1, h1, h2⟩ | ⟨c, d, ρ1, h1, rfl⟩
  · obtain ⟨t, p, q⟩ := h ρ _ h1
    rcases bnd_inv h2 with ⟨o2, ρ2, h3, h4⟩ | ⟨c, d, ρ2, h3, rfl⟩
    · obtain ⟨t2, p2, q2⟩ := h' ρ1 _ h3
      obtain ⟨ds, h5, rfl⟩ := opt_inv h4
      split at h5
      · cases h5
        · refine ⟨_, pi_range2L hg hm (pa_cons p (pa_cons p2 pa_nil hn2) hn) hs hs2, fun σ H g F R G z => q σ H g F _ G fun v H1 g1 F1 Fv G1 r1 d1 s1 => q2 σ H1 g1 F1 _ G1 fun v2 H2 g2 F2 Fw G2 r2 d2 s2 => ?_⟩
          obtain ⟨r1, ev⟩ := r1
          obtain ⟨r2, ev2⟩ := r2
          cases r1
          cases r2
          exact ⟨_, _, rfl, z _ H2 g2 F2 Fw G2 ⟨yld_rngC, ev2⟩ d2 ((Stp.trans s1 s2).sub fun p => .inl)⟩
      · cases h5
    · obtain ⟨t2, p2, q2⟩ := h' ρ1 _ h3
      exact ⟨_, pi_range2L hg hm (pa_cons p (pa_cons p2 pa_nil hn2) hn) hs hs2, fun σ H g F R G z => q σ H g F _ G fun v H1 g1 F1 Fv G1 r1 d1 s1 => q2 σ H1 g1 F1 _ G1 (Pst.next (rel := rI X) (Q := R) (r := .ex c d ρ2) z s1)⟩
  · obtain ⟨t, p, q⟩ := h ρ _ h1
    exact ⟨_, pi_range2L hg hm (pa_cons p (pa_cons (pe_no (e := e2)) pa_nil hn2) hn) hs hs2, fun σ H g F R G z => q σ H g F _ G z⟩
theorem di_e {elts : List Expr} {kk : Nat} {p tpos : Pos} (hm : X.mg "enumerate" = none) (h : DE X W e fe) (hg : Gl X "enumerate" := by rfl) (hn : starEach [e] X.env = (false, eval e X.env) :: starEach [] X.env := by rfl) (hs : starEach [e] X.env = [(false, eval e X.env)] := by rfl) :
    DI X W (.Tuple elts kk tpos) (.Call (.Name "enumerate" p) [e] [] pos) (iE fe) := fun ρ r hr => by
  rcases bnd_inv hr with ⟨o, ρ1, h1, h2⟩ | ⟨c, d, ρ1, h1, rfl⟩
  · obtain ⟨t, p, q⟩ := h ρ _ h1
    obtain ⟨ds, h3, rfl⟩ := opt_inv h2
    split at h3
    · rename_i ds' ed
      cases h3
      refine ⟨_, pi_enum hg hm (pa_cons p pa_nil hn) hs, fun σ H g F R G z => q σ H g F _ G fun v H1 g1 F1 Fv G1 r1 d1 s1 => ?_⟩
      obtain ⟨g2, G2, rv, s2, st⟩ := wlk G1 ed r1 d1 s1
      cases rv with
      | lst a1 a2 =>
        refine ⟨_, _, rfl, (DL.sqx_mono G2.ok.s a1).l, z _ H1 g2 F1 (fun _ => False) G2 ⟨fun g3 H3 k3 st3 => ?_, fun _ z => z⟩ (fun _ _ z => z) (s2.sub fun p y => y.elim id False.elim)⟩
        have hs2 := (DL.sqx_mono k3.s (DL.sqx_mono st3 a1)).l
        refine ⟨fun j d hj => ?_, ⟨_, hs2, by rw [DL.enum_length, a2.len]; exact Nat.le_refl _⟩⟩
        obtain ⟨y, y1, rfl⟩ := DL.enum_get hj
        obtain ⟨v, v1, v2⟩ := a2.at y1
        refine ⟨⟨_, v, hs2, v1⟩, fun x H4 ⟨T, w, w1, w2, w3, w4⟩ => ?_⟩
        subst w1
        subst w3
        have e := w4 _ hs2
        rw [v1] at e
        cases e
        obtain ⟨b1, b2, b3⟩ := new_t (F := fun _ => False) k3 (vs := [.int (j : Int), v]) (ds := [.int (j : Int), y]) (.cons (.int _) (.cons (v2.mono st3) .nil)) w2
        exact ⟨_, b1, b3.st, fun p o e => b3.mu p o e fun z => z, b2⟩
    · cases h3
  · obtain ⟨t, p, q⟩ := h ρ _ h1
    exact ⟨_, pi_enum hg hm (pa_cons p pa_nil hn) hs, fun σ H g F R G z => q σ H g F _ G z⟩
theorem di_z {elts : List Expr} {kk : Nat} {p tpos : Pos} (hm : X.mg "zip" = none) (h : DE X W e fe) (h' : DE X W e2 fe2) (hg : Gl X "zip" := by rfl) (hn : starEach [e, e2] X.env = (false, eval e X.env) :: starEach [e2] X.env := by rfl) (hn2 : starEach [e2] X.env = (false, eval e2 X.env) :: starEach [] X.env := by rfl)
    (hpl : (backTo pos (starEach [e2] X.env)).any (·.1) = false := by rfl) : DI X W (.Tuple elts kk tpos) (.Call (.Name "zip" p) [e, e2] [] pos) (iZ fe fe2) := fun ρ r hr => by
  rcases bnd_inv hr with ⟨o, ρ1, h1, h2⟩ | ⟨c, d, ρ1, h1, rfl⟩
  · obtain ⟨t, p, q⟩ := h ρ _ h1
    rcases bnd_inv h2 with ⟨o2, ρ2, h3, h4⟩ | ⟨c, d, ρ2, h3, rfl⟩
    · obtain ⟨t2, p2, q2⟩ := h' ρ1 _ h3
      obtain ⟨ds, h5, rfl⟩ := opt_inv h4
      split at h5
      · rename_i ds' es' ed ee
        cases h5
        refine ⟨_, pi_zip hg hm (pa_cons p (pa_cons p2 pa_nil hn2) hn) hn hpl, fun σ H g F R G z => RX.seq (Q := fun v u H2 => ∃ a b xs ys, [v, u] = [V.ref a, V.ref b] ∧ SqL X.K H2 a xs ∧ SqL X.K H2 b ys ∧ R _ H2) frm_V frm_V q q2 G fun v u H2 g2 F2 Fa Fb G2 r1 r2 d1 d2 s => ?_⟩
        have eo : frzs [o, o2] = some [.lst ds', .lst es'] := by simp [frzs, ed, ee]
        have ow : OwRs X.mg X.K g2 [o, o2] [v, u] fun p => Fa p ∨ Fb p := ⟨v, [u], Fa, Fb, rfl, r1, OwRs.one r2, d1, fun p => Iff.rfl⟩
        obtain ⟨k1, r3, s3⟩ := frzs_ok G2.ok eo ow
        obtain ⟨G3, d3, s4⟩ := G2.op s d2 k1 s3
        cases r3 with
        | cons r4 r5 =>
          cases r5 with
          | cons r6 r7 =>
            cases r4 with
            | lst h1 h2 =>
              cases r6 with
              | lst i1 i2 =>
                refine ⟨_, _, _, _, rfl, (DL.sqx_mono G3.ok.s h1).l, (DL.sqx_mono G3.ok.s i1).l, z _ H2 _ F2 (fun _ => False) G3 ⟨fun g3 H3 k3 st => ?_, fun _ z => z⟩ (fun _ _ z => z) s4⟩
                have a1 := (DL.sqx_mono k3.s (DL.sqx_mono st h1)).l
                have a2 := (DL.sqx_mono k3.s (DL.sqx_mono st i1)).l
                refine ⟨fun j d hj => ?_, ⟨_, _, a1, a2, ?_⟩⟩
                · obtain ⟨x, y, x1, y1, rfl⟩ := DL.zip2_get hj
                  obtain ⟨v, v1, v2⟩ := h2.at x1
                  obtain ⟨u, u1, u2⟩ := i2.at y1
                  refine ⟨⟨_, _, v, u, a1, a2, v1, u1⟩, fun x H4 ⟨T, w, w', w1, w2, w3, w4, w5⟩ => ?_⟩
                  subst w1
                  subst w3
                  have e := w4 _ a1
                  have e' := w5 _ a2
                  rw [v1] at e
                  rw [u1] at e'
                  cases e
                  cases e'
                  obtain ⟨b1, b2, b3⟩ := new_t (F := fun _ => False) k3 (RpAll.cons (v2.mono st) (.cons (u2.mono st) .nil)) w2
                  exact ⟨_, b1, b3.st, fun p o e => b3.mu p o e fun z => z, b2⟩
                · unfold zip2
                  rw [List.length_zipWith, h2.len, i2.len]
                  omega
      · cases h5
    · obtain ⟨t2, p2, q2⟩ := h' ρ1 _ h3
      exact ⟨_, pi_zip hg hm (pa_cons p (pa_cons p2 pa_nil hn2) hn) hn hpl, fun σ H g F R G z => q σ H g F _ G fun v H1 g1 F1 Fv G1 r1 d1 s1 => q2 σ H1 g1 F1 _ G1 (Pst.next (rel := rI X) (Q := R) (r := .ex c d ρ2) z s1)⟩
  · obtain ⟨t, p, q⟩ := h ρ _ h1
    exact ⟨_, pi_zip hg hm (pa_cons p (pa_cons (pe_no (e := e2)) pa_nil hn2) hn) hn hpl, fun σ H g F R G z => q σ H g F _ G z⟩
end
/-! ### for -/
def forL (gf : GF) (b : SF) : List Dt → SF
  | [], ρ => some (.nx ρ)
  | d :: ds, ρ => match gf d ρ with
    | none => none
    | some ρ1 => match b ρ1 with
      | some (.nx ρ2) => forL gf b ds ρ2
      | some (.ct ρ2) => forL gf b ds ρ2
      | some (.bk ρ2) => some (.nx ρ2)
      | r => r
def sFor (fi : Fn (List Dt)) (gf : GF) (b : SF) : SF := sVal fi fun ds => forL gf b ds
section
variable {X : Cx} {W : WX} {Z : List (Nat × V)} {tg iter c : Expr} {body : List Stmt} {fi : Fn (List Dt)} {gf : GF} {b : SF} {tc : Fn Bool} {pos : Pos} {vs : List Nat}
theorem ds_for (hc : X.calm = true) (hi : DI X W tg iter fi) (hg : DG X Z vs tg gf) (hb : DSs X W Z body b) (hp : PassesOwn (model X.prog X.w) X.A X.env X.xe) (hf : ∀ x, foldedSetIterable iter X.env x = pure x := by intro _; rfl) : DS X W Z (.For tg iter body [] pos) (sFor fi gf b) := fun ρ r hr => by
  have fp : ∀ {wi : TI}, PI X tg iter wi → PS X (.For tg iter body [] pos) (tFor wi (fun v σ H Q => ∃ t, PG X tg t ∧ t v σ H Q) (fun D σ H => ∃ u, PSs X body u ∧ u D σ H)) := fun p =>
    ps_for (g := fun v σ H Q => ∃ t, PG X tg t ∧ t v σ H Q) (tb := fun D σ H => ∃ u, PSs X body u ∧ u D σ H) hp hc p ⟨fun pins s σ H v u Q I r ⟨t, pt, ht⟩ => pt.run pins s σ H v u Q I r ht⟩ ⟨fun pins s σ H D I ⟨u, pu, hu⟩ => pu.run pins s σ H D I hu⟩ hf
  rcases sVal_inv hr with ⟨ds, ρ1, h1, h2⟩ | ⟨c, d, ρ1, h1, rfl⟩
  · obtain ⟨wi, pi, qi⟩ := hi ρ _ h1
    refine ⟨_, fp pi, fun σ H g F D G z k => qi σ H g F _ G fun J H1 g1 F1 Fv G1 ⟨y, ev⟩ d1 s1 => ?_⟩
    have s1' : Stp g F g1 F1 := s1.sub fun p => .inl
    refine ⟨fun i m σ' H' => m = ds.length - i ∧ i ≤ ds.length ∧ ∃ g' F' ρ', Good X g' H' σ' ρ' F' ∧ Zok Z σ' ∧ Stp g1 F1 g' F' ∧ forL gf b (ds.drop i) ρ' = some r, ⟨ds.length, by simp, Nat.zero_le _, g1, F1, ρ1, G1, z, Stp.refl fun _ z => z, by simpa using h2⟩, ?_⟩
    rintro i m σ' H' ⟨rfl, hi, g', F', ρ', G', z', st, hl⟩
    obtain ⟨y1, y2⟩ := y g' H' G'.ok st.st
    by_cases hlt : i < ds.length
    · obtain ⟨d, hd'⟩ : ∃ d, ds[i]? = some d := ⟨ds[i], List.getElem?_eq_getElem hlt⟩
      have hdrop : ds.drop i = d :: ds.drop (i + 1) := by
        rw [List.drop_eq_getElem_cons hlt]
        rw [List.getElem?_eq_getElem hlt] at hd'
        cases hd'
        rfl
      rw [hdrop] at hl
      obtain ⟨go, yl⟩ := y1 i d hd'
      unfold forL at hl
      cases eg : gf d ρ' with
      | none => rw [eg] at hl; cases hl
      | some ρ2 =>
        rw [eg] at hl
        refine .inr ⟨go, fun σ2 H2 => ∃ g2 F2 ρ3, Good X g2 H2 σ2 ρ3 F2 ∧ Zok Z σ2 ∧ Stp g1 F1 g2 F2 ∧ forL gf b (ds.drop (i + 1)) ρ3 = some r, fun σ2 H2 zz => ⟨ds.length - (i + 1), by omega, rfl, hlt, zz⟩, fun x H3 hy => ?_⟩
        obtain ⟨g3, k3, ss, sm, rv3⟩ := yl x H3 hy
        have G3 : Good X g3 H3 σ' ρ' F' := ⟨k3, G'.sr.kp ⟨ss, fun p o _ e => sm p o e⟩⟩
        have st3 : Stp g1 F1 g3 F' := st.tr ⟨ss, fun p o e _ => sm p o e, fun p z => .inl z⟩
        obtain ⟨t, pt, qt⟩ := hg d ρ' ρ2 eg
        refine ⟨t, pt, qt x σ' H3 g3 F' _ G3 z' rv3 fun σ4 F4 G4 z4 w4 o4 => ?_⟩
        have st4 : Stp g1 F1 g3 F4 := st3.sub w4
        cases eb : b ρ2 with
        | none => simp only [eb] at hl; cases hl
        | some r2 =>
          simp only [eb] at hl
          obtain ⟨u, pu, qu⟩ := hb ρ2 r2 eb
          refine ⟨u, pu, qu σ4 H3 g3 F4 _ G4 z4 ?_⟩
          have sb : Stp g F g3 F4 := s1'.tr st4
          cases r2 with
          | nx ρ5 => exact fun σ5 H5 g5 F5 G5 z5 s5 => ⟨g5, F5, ρ5, G5, z5, st4.tr s5, hl⟩
          | ct ρ5 => exact fun σ5 H5 g5 F5 G5 z5 s5 => ⟨g5, F5, ρ5, G5, z5, st4.tr s5, hl⟩
          | bk ρ5 =>
            cases hl
            exact fun σ5 H5 g5 F5 G5 z5 s5 => k σ5 H5 g5 F5 G5 z5 (sb.tr s5)
          | rt o ρ5 =>
            cases hl
            exact k.next0 sb
          | ex c d ρ5 =>
            cases hl
            exact k.next0 sb
    · have e : i = ds.length := by omega
      subst e
      rw [List.drop_length] at hl
      cases hl
      exact .inl ⟨y2, k σ' H' g' F' G' z' (s1'.tr st)⟩
  · obtain ⟨wi, pi, qi⟩ := hi ρ _ h1
    exact ⟨_, fp pi, fun σ H g F D G z k => qi σ H g F _ G fun cls dx H1 g1 F1 G1 e1 s1 => k cls dx σ H1 g1 F1 G1 z e1 s1⟩
/-! ### while -/
end
end OW
namespace OW
open PySem PySem.Spec PyProof.Rows L2
open DL (Dt Rp RpAll SqX pe_no pt_no pw_no ps_no pss_no FnG FnAt perm perm_vals rng enum zip2 blkX)
/-! ### comprehensions -/
def wipeO (ρ : Ev) : List Nat → Ev
  | [] => ρ
  | v :: vs => (wipeO ρ vs).set v .no
/-- the names of the block are what they were, where that was shared -/
def back (ρ0 ρ : Ev) : List Nat → Ev
  | [] => ρ
  | v :: vs => (back ρ0 ρ vs).set v (match ρ0[v]? with
    | some (.f d) => .f d
    | _ => .no)
def DTs (X : Cx) (W : WX) (ifs : List Expr) (f : Fn Bool) : Prop := ∀ ρ r, f ρ = some r → ∃ t, PTs X ifs t ∧ RX X W rB t ρ r
def tY : Fn Bool := ret true
abbrev W0 : WX := fun _ _ _ _ => False
theorem dts_0 {X : Cx} {W : WX} : DTs X W [] tY := fun ρ r h => by
  cases h
  exact ⟨_, pts_nil, rx_ret (b := true) (fun σ H Q q => q) fun g => ⟨rfl, fun _ z => z⟩⟩
theorem dts_1 {X : Cx} {W : WX} {c : Expr} {f : Fn Bool} (h : DT X W c f) : DTs X W [c] f := fun ρ r hr => let ⟨t, p, q⟩ := h ρ r hr; ⟨t, pts_one p, q⟩
def compL (vs : List Nat) (gf : GF) (tc : Fn Bool) (fe : Fn Ow) : List Dt → List Ow → Fn (List Ow)
  | [], acc, ρ => some (.ok acc ρ)
  | d :: ds, acc, ρ => match gf d (wipeO ρ vs) with
    | none => none
    | some ρ1 => match tc ρ1 with
      | some (.ok true ρ2) => match fe ρ2 with
        | some (.ok o ρ3) => compL vs gf tc fe ds (acc ++ [o]) (back ρ ρ3 vs)
        | _ => none
      | some (.ok false ρ2) => compL vs gf tc fe ds acc (back ρ ρ2 vs)
      | _ => none
def xComp (vs : List Nat) (fi : Fn (List Dt)) (gf : GF) (tc : Fn Bool) (fe : Fn Ow) : Fn Ow := bnd fi fun ds => if ds.length ≤ LIM then bnd (compL vs gf tc fe ds []) fun os => ret (.l os) else fun _ => none
section
variable {mg : Str → Option Value} {K : PySem.W.Frag} {g : Gs}
theorem Srs.setNo {ρ : Ev} {σ : L2.St} {F : Fp} (h : Srs mg K g ρ σ F) (i : Nat) (v : Option V) : ∃ F', Srs mg K g (ρ.set i .no) (σ.set i v) F' ∧ ∀ p, F' p → F p := by
  by_cases il : i < ρ.length
  · obtain ⟨v0, F1, F2, e1, e2, e3, e4, e5⟩ := h.at (List.getElem?_eq_getElem il)
    exact ⟨_, e5 g .no v (fun _ => False) Kp.refl (.inl ⟨rfl, fun _ z => z⟩) fun _ z _ => z, fun p z => (e4 p).mpr (.inr (z.elim False.elim id))⟩
  · have l := h.len
    rw [List.set_eq_of_length_le (by omega), List.set_eq_of_length_le (by omega)]
    exact ⟨F, h, fun _ z => z⟩
theorem Srs.wipe : ∀ {vs : List Nat} {ρ : Ev} {σ : L2.St} {F : Fp}, Srs mg K g ρ σ F → ∃ F', Srs mg K g (wipeO ρ vs) (L2.wipe σ vs) F' ∧ ∀ p, F' p → F p
  | [], _, _, F, h => ⟨F, h, fun _ z => z⟩
  | v :: vs, ρ, σ, F, h => by
    obtain ⟨F1, h1, w1⟩ := Srs.wipe (vs := vs) h
    obtain ⟨F2, h2, w2⟩ := h1.setNo v none
    exact ⟨F2, h2, fun p z => w1 p (w2 p z)⟩
/-- outside of the block: its own names have their former values -/
theorem Srs.back {ρ0 : Ev} {σ0 : L2.St} {F0 : Fp} {g0 : Gs} (h0 : Srs mg K g0 ρ0 σ0 F0) (st : Same g0.S g.S) : ∀ {vs : List Nat} {ρ : Ev} {σ : L2.St} {F : Fp}, Srs mg K g ρ σ F → σ.length = σ0.length → (∀ j, j ∉ vs → σ[j]? = σ0[j]?) →
    ∃ F', Srs mg K g (OW.back ρ0 ρ vs) σ0 F' ∧ ∀ p, F' p → F p := by
  -- one by one: the slots of a list are set to what they were
  have step : ∀ (vs : List Nat) (ρ : Ev) (σ : L2.St) (F : Fp), Srs mg K g ρ σ F → σ.length = σ0.length → ∃ σ' F', Srs mg K g (OW.back ρ0 ρ vs) σ' F' ∧ (∀ p, F' p → F p) ∧ σ'.length = σ.length ∧ (∀ j, j ∈ vs → j < σ0.length → σ'[j]? = σ0[j]?) ∧ ∀ j, j ∉ vs → σ'[j]? = σ[j]? := by
    intro vs
    induction vs with
    | nil => exact fun ρ σ F h _ => ⟨σ, F, h, fun _ z => z, rfl, fun j z => by simp at z, fun j _ => rfl⟩
    | cons v vs ih =>
      intro ρ σ F h hL
      obtain ⟨σ1, F1, h1, w1, l1, m1, n1⟩ := ih ρ σ F h hL
      have hlen : σ1.length = (OW.back ρ0 ρ vs).length := h1.len
      by_cases il : v < (OW.back ρ0 ρ vs).length
      · obtain ⟨v0, G1, G2, e1, e2, e3, e4, e5⟩ := h1.at (List.getElem?_eq_getElem il)
        have upd : ∀ (o : Ow) (x : Option V), σ0[v]? = some x → SlR mg K g o x (fun _ => False) → ∃ σ' F', Srs mg K g ((OW.back ρ0 ρ vs).set v o) σ' F' ∧ (∀ p, F' p → F p) ∧ σ'.length = σ.length ∧ (∀ j, j ∈ v :: vs → j < σ0.length → σ'[j]? = σ0[j]?) ∧ ∀ j, j ∉ v :: vs → σ'[j]? = σ[j]? := fun o x hx hs => by
          refine ⟨σ1.set v x, _, e5 g o x (fun _ => False) Kp.refl hs fun _ z _ => z, fun p z => w1 p ((e4 p).mpr (.inr (z.elim False.elim id))), by rw [List.length_set, l1], fun j hj hl => ?_, fun j hj => ?_⟩
          · by_cases hjv : v = j
            · subst hjv
              rw [List.getElem?_set_self (by omega), hx]
            · rw [List.getElem?_set_ne hjv]
              exact m1 j ((List.mem_cons.mp hj).resolve_left fun z => hjv z.symm) hl
          · rw [List.getElem?_set_ne fun z => hj (by rw [← z]; exact List.mem_cons_self)]
            exact n1 j fun z => hj (List.mem_cons_of_mem _ z)
        unfold OW.back
        by_cases i0 : v < σ0.length
        · have hx : σ0[v]? = some σ0[v] := List.getElem?_eq_getElem i0
          split
          · rename_i d ed
            refine upd _ _ hx ?_
            obtain ⟨w0, K1, K2, f1, f2, f3, f4, f5⟩ := h0.at ed
            rw [hx] at f1
            cases f1
            obtain ⟨u, hu, hr⟩ := f2.get (by simp)
            exact .inr ⟨u, hu, hr.1.mono st, fun _ z => z⟩
          · exact upd _ _ hx (.inl ⟨rfl, fun _ z => z⟩)
        · have e0 : ρ0[v]? = none := List.getElem?_eq_none (by have := h0.len; omega)
          rw [e0]
          obtain ⟨F2, a1, a2⟩ := h1.setNo v (σ1.getD v none)
          refine ⟨σ1.set v (σ1.getD v none), F2, a1, fun p z => w1 p (a2 p z), by rw [List.length_set, l1], fun j hj hl => ?_, fun j hj => ?_⟩
          · have hjv : v ≠ j := by omega
            rw [List.getElem?_set_ne hjv]
            exact m1 j ((List.mem_cons.mp hj).resolve_left fun z => hjv z.symm) hl
          · rw [List.getElem?_set_ne fun z => hj (by rw [← z]; exact List.mem_cons_self)]
            exact n1 j fun z => hj (List.mem_cons_of_mem _ z)
      · unfold OW.back
        rw [List.set_eq_of_length_le (by omega)]
        refine ⟨σ1, F1, h1, w1, l1, fun j hj hl => ?_, fun j hj => n1 j fun z => hj (List.mem_cons_of_mem _ z)⟩
        rcases List.mem_cons.mp hj with rfl | hj
        · omega
        · exact m1 j hj hl
  intro vs ρ σ F h hl ho
  obtain ⟨σ', F', h1, w1, l1, m1, n1⟩ := step vs ρ σ F h hl
  have e : σ' = σ0 := by
    apply List.ext_getElem?
    intro j
    by_cases hj : j ∈ vs
    · by_cases jl : j < σ0.length
      · exact m1 j hj jl
      · rw [List.getElem?_eq_none (by omega), List.getElem?_eq_none (by omega)]
    · rw [n1 j hj, ho j hj]
  rw [← e]
  exact ⟨F', h1, w1⟩
end
section
variable {X : Cx} {W : WX} {Z : List (Nat × V)} {elt tg iter : Expr} {ifs : List Expr} {scope : Scope} {own : List (Str × Nat)} {fi : Fn (List Dt)} {gf : GF} {tc : Fn Bool} {fe : Fn Ow} {pos : Pos}
/-- the reading of a comprehension -/
theorem comp_rx (hg : ∀ s H C cl fp, DG (blkX X scope s H C cl fp) [] (own.map (·.2)) tg gf) (ht : ∀ s H C cl fp, DTs (blkX X scope s H C cl fp) W0 ifs tc) (he : ∀ s H C cl fp, DE (blkX X scope s H C cl fp) W0 elt fe)
    {wi : TI} {ρ : Ev} {r : Rs Ow} (h : ∃ ds ρ1, RX X W (rI X) wi ρ (.ok ds ρ1) ∧ ds.length ≤ LIM ∧ ∃ out ρ2, compL (own.map (·.2)) gf tc fe ds [] ρ1 = some (.ok out ρ2) ∧ r = .ok (.l out) ρ2) :
    RX X W (rV X) (tLc wi (fun v σ H Q => ∀ s H0 C cl fp, ∃ t, PG (blkX X scope s H0 C cl fp) tg t ∧ t v σ H Q) (fun σ H Q => ∀ s H0 C cl fp, ∃ t, PTs (blkX X scope s H0 C cl fp) ifs t ∧ t σ H Q) (fun σ H Q => ∀ s H0 C cl fp, ∃ t, PE (blkX X scope s H0 C cl fp) elt t ∧ t σ H Q) (own.map (·.2))) ρ r := by
  obtain ⟨ds, ρ1, qi, hz, out, ρ2, hl0, rfl⟩ := h
  generalize hvs : own.map (·.2) = vs at *
  intro σ H g F Q G q
  refine qi σ H g F _ G fun J H1 g1 F1 Fv G1 ⟨y, ev⟩ d1 s1 D hD => ?_
  have s1' : Stp g F g1 F1 := s1.sub fun p => .inl
  obtain ⟨fS, fM⟩ := G1.ok.free hD
  have nF1 : ¬ F1 D := fun z => by
    obtain ⟨u, e⟩ := G1.sr.in_ D z
    rw [fM] at e; cases e
  refine ⟨fun i m H' => m = ds.length - i ∧ i ≤ ds.length ∧ ∃ g' F' ρ' acc va Fa, Good X g' H' σ ρ' F' ∧ g'.M D = some (.lst va) ∧ OwRs X.mg X.K g' acc va Fa ∧ acc.length ≤ i ∧ Dj F' Fa ∧ ¬ F' D ∧ ¬ Fa D ∧ Stp g1 F1 g' (fun p => F' p ∨ (p = D ∨ Fa p)) ∧ compL vs gf tc fe (ds.drop i) acc ρ' = some (.ok out ρ2),
    ⟨ds.length, by simp, Nat.zero_le _, g1.hold D (.lst []), F1, ρ1, [], [], fun _ => False, ⟨hold_ok G1.ok hD, G1.sr.kp (hold_kp nF1)⟩, upd_same, ⟨rfl, fun _ z => z⟩, Nat.le_refl _, fun _ _ z => z, nF1, fun z => z, ?_, by simpa using hl0⟩, ?_⟩
  · refine ⟨fun _ _ e => e, fun p o e n => ?_, fun p z => ?_⟩
    · show upd g1.M D _ p = _
      rw [upd_ne (ne_of_none e fM)]; exact e
    · rcases z with z | z | z
      · exact .inl z
      · subst z; exact .inr ⟨fS, fM⟩
      · exact z.elim
  rintro i m H' ⟨rfl, hi, g', F', ρ', acc, va, Fa, G', hm, ra, la, da, nD, nA, st, hl⟩
  obtain ⟨y1, y2⟩ := y g' H' G'.ok st.st
  by_cases hlt : i < ds.length
  · obtain ⟨d, hd'⟩ : ∃ d, ds[i]? = some d := ⟨ds[i], List.getElem?_eq_getElem hlt⟩
    have hdrop : ds.drop i = d :: ds.drop (i + 1) := by
      rw [List.drop_eq_getElem_cons hlt]
      rw [List.getElem?_eq_getElem hlt] at hd'
      cases hd'
      rfl
    rw [hdrop] at hl
    obtain ⟨go, yl⟩ := y1 i d hd'
    unfold compL at hl
    cases eg : gf d (wipeO ρ' vs) with
    | none => rw [eg] at hl; cases hl
    | some ρa =>
      rw [eg] at hl
      refine .inr ⟨go, fun H2 => ∃ g2 F2 ρ3 acc2 va2 Fa2, Good X g2 H2 σ ρ3 F2 ∧ g2.M D = some (.lst va2) ∧ OwRs X.mg X.K g2 acc2 va2 Fa2 ∧ acc2.length ≤ i + 1 ∧ Dj F2 Fa2 ∧ ¬ F2 D ∧ ¬ Fa2 D ∧ Stp g1 F1 g2 (fun p => F2 p ∨ (p = D ∨ Fa2 p)) ∧ compL vs gf tc fe (ds.drop (i + 1)) acc2 ρ3 = some (.ok out ρ2), fun H2 zz => ⟨ds.length - (i + 1), by omega, rfl, hlt, zz⟩, fun x H3 hy => ?_⟩
      obtain ⟨g3, k3, ss, sm, rv3⟩ := yl x H3 hy
      have kp3 : ∀ {A : Fp}, Kp g' g3 A := ⟨ss, fun p o _ e => sm p o e⟩
      have sr3 : Srs X.mg X.K g3 ρ' σ F' := G'.sr.kp kp3
      obtain ⟨Fw, srw, ww⟩ := sr3.wipe (vs := vs)
      have Gw : Good X g3 H3 (L2.wipe σ vs) (wipeO ρ' vs) Fw := ⟨k3, srw⟩
      intro s0 H0 C0 cl0 fp0
      obtain ⟨t, pt, qt⟩ := hg s0 H0 C0 cl0 fp0 d _ _ eg
      refine ⟨t, pt, qt x _ H3 g3 Fw _ ⟨Gw.ok, Gw.sr⟩ (fun _ _ z => by simp at z) rv3 fun σ4 F4 G4 z4 w4 o4 => ⟨?_, ?_⟩⟩
      · exact DL.wipe_eq (o4.1.trans (L2.wipe_length σ vs)) fun j hj => o4.2 j hj
      have len4 : σ4.length = σ.length := o4.1.trans (L2.wipe_length σ vs)
      have out4 : ∀ j, j ∉ vs → σ4[j]? = σ[j]? := fun j hj => (o4.2 j hj).trans (L2.wipe_out hj)
      intro s5 H5 C5 cl5 fp5
      have st3 : Stp g1 F1 g3 fun p => F4 p ∨ (p = D ∨ Fa p) := (st.tr (g2 := g3) (F2 := fun p => F' p ∨ (p = D ∨ Fa p)) ⟨ss, fun p o e _ => sm p o e, fun p z => .inl z⟩).sub fun p z => z.elim (fun z => .inl (ww p (w4 p z))) .inr
      have da4 : Dj F4 Fa := fun p z y => da p (ww p (w4 p z)) y
      have nD4 : ¬ F4 D := fun z => nD (ww D (w4 D z))
      have ra3 : OwRs X.mg X.K g3 acc va Fa := OwRs.kp acc kp3 ra
      -- what is kept while the block's own parts are reckoned
      have keep : ∀ {g6 : Gs} {F6 : Fp}, Stp g3 F4 g6 F6 → g6.M D = some (.lst va) ∧ OwRs X.mg X.K g6 acc va Fa ∧ Dj F6 Fa ∧ ¬ F6 D := fun {g6 F6} s6 => by
        have kA : Kp g3 g6 Fa := s6.kp fun p z y => da4 p y z
        have hD3 : g3.M D = some (.lst va) := sm D _ hm
        refine ⟨s6.mu D _ hD3 nD4, OwRs.kp acc kA ra3, fun p z y => ?_, fun z => ?_⟩
        · rcases s6.fr p z with w | ⟨_, w⟩
          · exact da4 p w y
          · obtain ⟨u, e⟩ := OwRs.in_ acc ra3 p y
            rw [e] at w; cases w
        · rcases s6.fr D z with w | ⟨_, w⟩
          · exact nD4 w
          · rw [hD3] at w; cases w
      cases et : tc ρa with
      | none => simp only [et] at hl; cases hl
      | some rt =>
        cases rt with
        | ex c dd ρt => simp only [et] at hl; cases hl
        | ok bb ρt =>
          simp only [et] at hl
          obtain ⟨u, pu, qu⟩ := ht s5 H5 C5 cl5 fp5 ρa _ et
          refine ⟨u, pu, qu σ4 H3 g3 F4 _ ⟨G4.ok, G4.sr⟩ fun b6 H6 g6 F6 Fb6 G6 rb6 d6 s6 => ?_⟩
          obtain ⟨rfl, _⟩ := rb6
          have s6' : Stp g3 F4 g6 F6 := s6.sub fun p => .inl
          obtain ⟨k1, k2, k3', k4⟩ := keep s6'
          have st6 : Stp g1 F1 g6 fun p => F6 p ∨ (p = D ∨ Fa p) := Stp.trans st3 s6'
          cases bb with
          | false =>
            simp only at hl
            obtain ⟨F7, sr7, w7⟩ := sr3.back (vs := vs) s6'.st G6.sr len4 out4
            refine iteF ⟨g6, F7, _, acc, va, Fa, ⟨G6.ok, sr7⟩, k1, k2, by omega, fun p z y => k3' p (w7 p z) y, fun z => k4 (w7 D z), nA, st6.sub fun p z => z.elim (fun z => .inl (w7 p z)) .inr, hl⟩
          | true =>
            simp only at hl
            cases ee : fe ρt with
            | none => simp only [ee] at hl; cases hl
            | some re =>
              cases re with
              | ex c dd ρe => simp only [ee] at hl; cases hl
              | ok o ρe =>
                simp only [ee] at hl
                refine iteT fun s7 H7 C7 cl7 fp7 => ?_
                obtain ⟨w, pw, qw⟩ := he s7 H7 C7 cl7 fp7 ρt _ ee
                refine ⟨w, pw, qw σ4 H6 g6 F6 _ ⟨G6.ok, G6.sr⟩ fun v8 H8 g8 F8 Fv8 G8 rv8 d8 s8 => ?_⟩
                have s68 : Stp g3 F4 g8 fun p => F8 p ∨ Fv8 p := s6'.tr s8
                obtain ⟨k1, k2, k3', k4⟩ := keep s68
                have st8 : Stp g1 F1 g8 fun p => (F8 p ∨ Fv8 p) ∨ (p = D ∨ Fa p) := Stp.trans st3 s68
                obtain ⟨F9, sr9, w9⟩ := sr3.back (vs := vs) s68.st G8.sr len4 out4
                have nV : ¬ Fv8 D := fun z => k4 (.inr z)
                refine ⟨va, G8.ok.m _ _ k1, by rw [k2.len]; exact Nat.lt_of_le_of_lt (Nat.le_trans la (Nat.le_of_lt (Nat.lt_of_lt_of_le hlt hz))) (by decide), g8.hold D (.lst (va ++ [v8])), F9, _, acc ++ [o], va ++ [v8], fun p => Fa p ∨ Fv8 p, ⟨put_ok G8.ok k1, sr9.kp (hold_kp fun z => k4 (.inl (w9 D z)))⟩, upd_same, ?_, by rw [List.length_append]; simp only [List.length_cons, List.length_nil]; omega, ?_, fun z => k4 (.inl (w9 D z)), fun z => z.elim nA nV, ?_, hl⟩
                · have kk : Kp g8 (g8.hold D (.lst (va ++ [v8]))) fun p => Fa p ∨ Fv8 p := hold_kp fun z => z.elim nA nV
                  exact OwRs.app (OwRs.kp acc (kk.sub fun p => .inl) k2) (OwRs.one (OwR.kp o (kk.sub fun p => .inr) rv8)) fun p z y => k3' p (.inr y) z
                · exact fun p z y => y.elim (k3' p (.inl (w9 p z))) (d8 p (w9 p z))
                · refine ⟨st8.st, fun p o' e n => ?_, fun p z => ?_⟩
                  · have e8 := st8.mu p o' e n
                    show upd g8.M D _ p = _
                    have hp : p ≠ D := fun z => by rw [z, fM] at e; cases e
                    rw [upd_ne hp]; exact e8
                  · refine st8.fr p ?_
                    rcases z with z | z | z | z
                    · exact .inl (.inl (w9 p z))
                    · exact .inr (.inl z)
                    · exact .inr (.inr z)
                    · exact .inl (.inr z)
  · have e : i = ds.length := by omega
    subst e
    rw [List.drop_length] at hl
    unfold compL at hl
    cases hl
    refine .inl ⟨y2, q (.ref D) H' g' F' (fun p => p = D ∨ Fa p) G' ⟨D, va, fun p => p = D, Fa, rfl, ⟨hm, fun p => Iff.rfl⟩, ra, fun p z y => nA (by rw [← show p = D from z]; exact y), fun p => Iff.rfl⟩ (fun p z y => y.elim (fun y => nD (by rw [← y]; exact z)) (da p z)) (s1'.tr st)⟩
theorem comp_inv {ρ : Ev} {r : Rs Ow} {vs : List Nat} (h : xComp vs fi gf tc fe ρ = some r) : (∃ ds ρ1, fi ρ = some (.ok ds ρ1) ∧ ds.length ≤ LIM ∧ ∃ out ρ2, compL vs gf tc fe ds [] ρ1 = some (.ok out ρ2) ∧ r = .ok (.l out) ρ2) ∨ ∃ c d ρ1, fi ρ = some (.ex c d ρ1) ∧ r = .ex c d ρ1 := by
  rcases bnd_inv h with ⟨ds, ρ1, h1, h2⟩ | z
  · by_cases hz : ds.length ≤ LIM
    · rw [if_pos hz] at h2
      rcases bnd_inv h2 with ⟨out, ρ2, h3, h4⟩ | ⟨c, d, ρ2, h3, h4⟩
      · cases h4
        exact .inl ⟨ds, ρ1, h1, hz, out, ρ2, h3, rfl⟩
      · exfalso
        have no : ∀ (ds : List Dt) (acc : List Ow) (ρ : Ev), compL vs gf tc fe ds acc ρ ≠ some (.ex c d ρ2) := by
          intro ds
          induction ds with
          | nil => intro acc ρ z; cases z
          | cons d ds ih =>
            intro acc ρ z
            unfold compL at z
            split at z
            · cases z
            · split at z
              · split at z
                · exact ih _ _ z
                · cases z
              · exact ih _ _ z
              · cases z
        exact no _ _ _ h3
    · rw [if_neg hz] at h2
      cases h2
  · exact .inr z
theorem de_comp (hc : X.calm = true) (hi : DI X W tg iter fi) (ok : BlkOk X.N X.env.scope scope own) (hN : X.N.Nodup) (hg : ∀ s H C cl fp, DG (blkX X scope s H C cl fp) [] (own.map (·.2)) tg gf) (ht : ∀ s H C cl fp, DTs (blkX X scope s H C cl fp) W0 ifs tc) (he : ∀ s H C cl fp, DE (blkX X scope s H C cl fp) W0 elt fe)
    (hf : ∀ x, foldedSetIterable iter X.env x = pure x := by intro _; rfl) : DE X W (.ListComp elt [⟨tg, iter, ifs, 0⟩] scope pos) (xComp (own.map (·.2)) fi gf tc fe) := fun ρ r h => by
  have pe : ∀ {wi : TI}, PI X tg iter wi → PE X (.ListComp elt [⟨tg, iter, ifs, 0⟩] scope pos) (tLc wi (fun v σ H Q => ∀ s H0 C cl fp, ∃ t, PG (blkX X scope s H0 C cl fp) tg t ∧ t v σ H Q) (fun σ H Q => ∀ s H0 C cl fp, ∃ t, PTs (blkX X scope s H0 C cl fp) ifs t ∧ t σ H Q) (fun σ H Q => ∀ s H0 C cl fp, ∃ t, PE (blkX X scope s H0 C cl fp) elt t ∧ t σ H Q) (own.map (·.2))) := fun p =>
    pe_lc hc hN p ok (fun s H C cl fp => ⟨fun pins s' σ H' v u Q I r h => let ⟨t, pt, q⟩ := h s H C cl fp; pt.run pins s' σ H' v u Q I r q⟩) (fun s H C cl fp => ⟨fun pins s' σ H' Q I h => let ⟨t, pt, q⟩ := h s H C cl fp; pt.run pins s' σ H' Q I q⟩) (fun s H C cl fp => ⟨fun pins s' σ H' Q I h => let ⟨t, pt, q⟩ := h s H C cl fp; pt.run pins s' σ H' Q I q⟩) hf
  rcases comp_inv h with ⟨ds, ρ1, h1, hz, out, ρ2, h2, rfl⟩ | ⟨c, d, ρ1, h1, rfl⟩
  · obtain ⟨wi, pi, qi⟩ := hi ρ _ h1
    exact ⟨_, pe pi, comp_rx hg ht he ⟨ds, ρ1, qi, hz, out, ρ2, h2, rfl⟩⟩
  · obtain ⟨wi, pi, qi⟩ := hi ρ _ h1
    exact ⟨_, pe pi, fun σ H g F Q G q => qi σ H g F _ G q⟩
/-- y = [..] -/
theorem ds_setLc (i : Nat) {y : Str} {py spos : Pos} (hc : X.calm = true) (hi : DI X W tg iter fi) (ok : BlkOk X.N X.env.scope scope own) (hN : X.N.Nodup) (hg : ∀ s H C cl fp, DG (blkX X scope s H C cl fp) [] (own.map (·.2)) tg gf) (ht : ∀ s H C cl fp, DTs (blkX X scope s H C cl fp) W0 ifs tc) (he : ∀ s H C cl fp, DE (blkX X scope s H C cl fp) W0 elt fe)
    (hz : i ∉ Z.map (·.1) := by decide) (hy : X.N[i]? = some y := by rfl) (hyl : X.env.scope.names.lookup y = some .local := by rfl)
    (hsw : swapsWith (.ListComp elt [⟨tg, iter, ifs, 0⟩] scope pos) (some (.Name y py)) spos.line X.env = pure true := by exact sw_true rfl rfl rfl (by decide +kernel)) (hf : ∀ x, foldedSetIterable iter X.env x = pure x := by intro _; rfl) : DS X W Z (.Assign [.Name y py] (.ListComp elt [⟨tg, iter, ifs, 0⟩] scope pos) spos) (sSet i (xComp (own.map (·.2)) fi gf tc fe)) := fun ρ r h => by
  have pe : ∀ {wi : TI} (p : PI X tg iter wi), PS X (.Assign [.Name y py] (.ListComp elt [⟨tg, iter, ifs, 0⟩] scope pos) spos) (tAsg (tLc wi (fun v σ H Q => ∀ s H0 C cl fp, ∃ t, PG (blkX X scope s H0 C cl fp) tg t ∧ t v σ H Q) (fun σ H Q => ∀ s H0 C cl fp, ∃ t, PTs (blkX X scope s H0 C cl fp) ifs t ∧ t σ H Q) (fun σ H Q => ∀ s H0 C cl fp, ∃ t, PE (blkX X scope s H0 C cl fp) elt t ∧ t σ H Q) (own.map (·.2))) (gName i)) := fun p =>
    ps_setLc hc hN hy hyl hsw p ok (fun s H C cl fp => ⟨fun pins s' σ H' v u Q I r h => let ⟨t, pt, q⟩ := h s H C cl fp; pt.run pins s' σ H' v u Q I r q⟩) (fun s H C cl fp => ⟨fun pins s' σ H' Q I h => let ⟨t, pt, q⟩ := h s H C cl fp; pt.run pins s' σ H' Q I q⟩) (fun s H C cl fp => ⟨fun pins s' σ H' Q I h => let ⟨t, pt, q⟩ := h s H C cl fp; pt.run pins s' σ H' Q I q⟩) hf
  rcases sVal_inv h with ⟨o, ρ2, h1, hk⟩ | ⟨c, d, ρ1, h1, rfl⟩
  · obtain ⟨ρ3, h2, rfl⟩ := Option.map_eq_some_iff.mp hk
    rcases comp_inv h1 with ⟨ds, ρ1, h3, hz', out, ρ2', h4, e⟩ | ⟨c, d, ρ1, h3, e⟩
    · cases e
      obtain ⟨wi, pi, qi⟩ := hi ρ _ h3
      refine ⟨_, pe pi, fun σ H g F D G z k => comp_rx hg ht he ⟨ds, ρ1, qi, hz', out, ρ2, h4, rfl⟩ σ H g F _ G fun v H1 g1 F1 Fv G1 r1 d1 s1 => ?_⟩
      obtain ⟨F2, G2, hF⟩ := G1.set h2 r1 d1
      exact k _ H1 g1 F2 G2 (z.set hz) (s1.sub hF)
    · cases e
  · rcases comp_inv h1 with ⟨ds, ρ1', h3, hz', out, ρ2', h4, e⟩ | ⟨c', d', ρ1', h3, e⟩
    · cases e
    · cases e
      obtain ⟨wi, pi, qi⟩ := hi ρ _ h3
      exact ⟨_, pe pi, fun σ H g F D G z k => qi σ H g F _ G fun cls dx H1 g1 F1 G1 e1 s1 => k cls dx σ H1 g1 F1 G1 z e1 s1⟩
end
end OW
namespace OW
open PySem PySem.Spec PyProof.Rows L2
open DL (Dt Rp RpAll SqX pe_no pt_no pw_no ps_no pss_no)
/-! ### a reading that leaves all as it was -/
def scal : Dt → Bool
  | .non => true
  | .bl _ => true
  | .int _ => true
  | .str _ => true
  | _ => false
/-- all that may be shared is shared, what else there is is hidden -/
def frzS (o : Ow) : Ow := match frz o with
  | some d => .f d
  | none => .no
section
variable {mg : Str → Option Value} {K : PySem.W.Frag} {g g' : Gs}
theorem frzS_sl {S' : Gs} (st : Same g.S S'.S) {o : Ow} {v : Option V} {F : Fp} (w : ∀ p u, F p → g.M p = some u → S'.S p = some u) (h : SlR mg K g o v F) : SlR mg K S' (frzS o) v fun _ => False := by
  unfold frzS
  split
  · rename_i d ed
    rcases h with ⟨rfl, _⟩ | ⟨u, rfl, h⟩
    · simp [frz] at ed
    · exact .inr ⟨u, rfl, frz_rp st o ed h w, fun _ z => z⟩
  · exact .inl ⟨rfl, fun _ z => z⟩
theorem frzS_srs {S' : Gs} (st : Same g.S S'.S) : ∀ {ρ : Ev} {σ : L2.St} {F : Fp}, (∀ p u, F p → g.M p = some u → S'.S p = some u) → Srs mg K g ρ σ F → Srs mg K S' (ρ.map frzS) σ fun _ => False
  | [], _, _, _, h => ⟨h.1, fun _ z => z⟩
  | o :: ρ, _, _, w, ⟨v, r, F1, F2, e1, h1, h2, hd, e⟩ => ⟨v, r, fun _ => False, fun _ => False, e1, frzS_sl st (fun p u z => w p u ((e p).mpr (.inl z))) h1, frzS_srs st (fun p u z => w p u ((e p).mpr (.inr z))) h2, fun _ z => z.elim, fun p => ⟨.inl, fun z => z.elim id id⟩⟩
end
/-- a test that leaves all as it was -/
def tBor (f : Fn Bool) : Fn Bool := fun ρ => match f (ρ.map frzS) with
  | some (.ok b _) => some (.ok b ρ)
  | _ => none
theorem dt_bor {X : Cx} {W : WX} {e : Expr} {ft : Fn Bool} (h : DT X W e ft) : DT X W e (tBor ft) := fun ρ r hr => by
  unfold tBor at hr
  split at hr
  · rename_i o ρ1 e1
    cases hr
    obtain ⟨t, p, q⟩ := h _ _ e1
    refine ⟨t, p, fun σ H g F Q G k => ?_⟩
    have ok1 := frzG_ok (F := F) G.ok
    have toS : ∀ p u, F p → g.M p = some u → (frzG g F).S p = some u := fun p u z w => by
      classical
      show (if F p ∧ (g.M p).isSome then g.M p else g.S p) = some u
      rw [if_pos ⟨z, by rw [w]; rfl⟩]; exact w
    have G1 : Good X (frzG g F) H σ (ρ.map frzS) fun _ => False := ⟨ok1, frzS_srs (frzG_st G.ok) toS G.sr⟩
    refine q σ H _ _ Q G1 fun v H' g' F' Fv G' rv dj st => ?_
    have kept : ∀ p u, g.M p = some u → H' p = some u := fun p u w => by
      classical
      by_cases hF : F p
      · exact G'.ok.s p u (st.st _ _ (toS p u hF w))
      · refine G'.ok.m p u (st.mu p u ?_ fun z => z)
        show (if F p then none else g.M p) = some u
        rw [if_neg hF]; exact w
    exact k v H' g F (fun _ => False) ⟨⟨fun p u w => G'.ok.s p u (st.st _ _ (frzG_st G.ok _ _ w)), kept, G.ok.d⟩, G.sr⟩ ⟨rv.1, fun _ z => z⟩ (fun _ _ z => z) (Stp.refl fun p z => z.elim id False.elim)
  · cases hr
/-! ### places within trees -/
def subO : Ow → List Nat → Option Ow
  | o, [] => some o
  | .n _ os, i :: π => match os[i]? with
    | some o => subO o π
    | none => none
  | _, _ :: _ => none
def setP : Ow → List Nat → Ow → Ow
  | _, [], x => x
  | .n k os, i :: π, x => match os[i]? with
    | some o => .n k (os.set i (setP o π x))
    | none => .n k os
  | o, _ :: _, _ => o
section
variable {mg : Str → Option Value} {K : PySem.W.Frag} {g : Gs}
theorem focus : ∀ (π : List Nat) {o o1 : Ow} {v : V} {F : Fp}, OwR mg K g o v F → subO o π = some o1 →
    ∃ v1 F1 F2, OwR mg K g o1 v1 F1 ∧ Dj F1 F2 ∧ (∀ p, F p ↔ F1 p ∨ F2 p) ∧ (π = [] → v1 = v) ∧ ∀ g' o' F1', Kp g g' F2 → OwR mg K g' o' v1 F1' → Dj F1' F2 → OwR mg K g' (setP o π o') v fun p => F1' p ∨ F2 p
  | [], o, o1, v, F, h, e => by
    cases e
    refine ⟨v, F, fun _ => False, h, fun _ _ z => z, fun p => ⟨.inl, fun z => z.elim id False.elim⟩, fun _ => rfl, fun g' o' F1' _ h' _ => ?_⟩
    have : setP o [] o' = o' := by cases o <;> rfl
    rw [this]
    exact OwR.eqv o' (fun p => ⟨.inl, fun z => z.elim id False.elim⟩) h'
  | i :: π, .no, _, _, _, _, e => by cases e
  | i :: π, .f _, _, _, _, _, e => by cases e
  | i :: π, .n k os, o1, v, F, ⟨a, vs, F0, Fc, e1, hc, hs, hd, ef⟩, e => by
    unfold subO at e
    split at e
    · rename_i oi ei
      obtain ⟨vi, G1, G2, f1, f2, f3, f4, f5⟩ := hs.at ei
      obtain ⟨v1, F1, F2, a1, a2, a3, _, a4⟩ := focus π f2 e
      refine ⟨v1, F1, fun p => F0 p ∨ (F2 p ∨ G2 p), a1, fun p z y => ?_, fun p => ?_, fun z => (by cases z), fun g' o' F1' w h' d' => ?_⟩
      · rcases y with y | y | y
        · exact hd p y ((f4 p).mpr (.inl ((a3 p).mpr (.inl z))))
        · exact a2 p z y
        · exact f3 p ((a3 p).mpr (.inl z)) y
      · rw [ef p, f4 p, a3 p]
        constructor
        · rintro (z | (z | z) | z) <;> simp [z]
        · rintro (z | z | z | z) <;> simp [z]
      · have q := a4 g' o' F1' (w.sub fun p z => .inr (.inl z)) h' fun p z y => d' p z (.inr (.inl y))
        have sr := f5 g' (setP oi π o') vi (fun p => F1' p ∨ F2 p) (w.sub fun p z => .inr (.inr z)) q fun p z y => z.elim (fun z => d' p z (.inr (.inr y))) fun z => f3 p ((a3 p).mpr (.inr z)) y
        rw [set_self f1] at sr
        have es : setP (.n k os) (i :: π) o' = .n k (os.set i (setP oi π o')) := by
          conv => lhs; unfold setP
          rw [ei]
        rw [es]
        refine ⟨a, vs, F0, _, e1, hc.kp (w.sub fun p z => .inl z), sr, fun p z y => ?_, fun p => ?_⟩
        · rcases y with (y | y) | y
          · exact d' p y (.inl z)
          · exact hd p z ((f4 p).mpr (.inl ((a3 p).mpr (.inr y))))
          · exact hd p z ((f4 p).mpr (.inr y))
        · constructor
          · rintro (z | z | z | z) <;> simp [z]
          · rintro (z | (z | z) | z) <;> simp [z]
    · cases e
end
def getE (ρ : Ev) (i : Nat) (π : List Nat) : Option Ow := match ρ[i]? with
  | some o => subO o π
  | none => none
def setE (ρ : Ev) (i : Nat) (π : List Nat) (x : Ow) : Ev := match ρ[i]? with
  | some o => ρ.set i (setP o π x)
  | none => ρ
/-- the object at a place, which may be changed -/
structure RefAt (X : Cx) (g : Gs) (σ : L2.St) (ρ : Ev) (F : Fp) (i : Nat) (π : List Nat) (v : V) : Prop where
  it : ∃ o F1 F2, getE ρ i π = some o ∧ OwR X.mg X.K g o v F1 ∧ Dj F1 F2 ∧ (∀ p, F p ↔ F1 p ∨ F2 p) ∧ ∀ g' o' F1', Kp g g' F2 → OwR X.mg X.K g' o' v F1' → Dj F1' F2 → Srs X.mg X.K g' (setE ρ i π o') σ fun p => F1' p ∨ F2 p
theorem ref_of {X : Cx} {g : Gs} {H : Hp} {σ : L2.St} {ρ : Ev} {F : Fp} {i : Nat} {π : List Nat} {o : Ow} (G : Good X g H σ ρ F) (h : getE ρ i π = some o) (n : o ≠ .no) : ∃ v, RefAt X g σ ρ F i π v ∧ (π = [] → σ[i]? = some (some v)) := by
  unfold getE at h
  split at h
  · rename_i o0 e0
    obtain ⟨v0, F1, F2, e1, e2, e3, e4, e5⟩ := G.sr.at e0
    have n0 : o0 ≠ .no := by
      intro z
      subst z
      cases π with
      | nil => cases h; exact n rfl
      | cons _ _ => cases h
    obtain ⟨u, rfl, hu⟩ := e2.get n0
    obtain ⟨v1, K1, K2, a1, a2, a3, a0, a4⟩ := focus π hu h
    refine ⟨v1, ⟨o, K1, fun p => K2 p ∨ F2 p, by unfold getE; rw [e0]; exact h, a1, fun p z y => y.elim (a2 p z) fun y => e3 p ((a3 p).mpr (.inl z)) y, fun p => ?_, fun g' o' F1' w h' d' => ?_⟩, fun z => by rw [a0 z]; exact e1⟩
    · rw [e4 p, a3 p]
      constructor
      · rintro ((z | z) | z) <;> simp [z]
      · rintro (z | z | z) <;> simp [z]
    · have q := a4 g' o' F1' (w.sub fun p z => .inl z) h' fun p z y => d' p z (.inl y)
      have sr := e5 g' (setP o0 π o') (some u) (fun p => F1' p ∨ K2 p) (w.sub fun p z => .inr z) (.inr ⟨u, rfl, q⟩) fun p z y => z.elim (fun z => d' p z (.inr y)) fun z => e3 p ((a3 p).mpr (.inr z)) y
      rw [set_self e1] at sr
      have es : setE ρ i π o' = ρ.set i (setP o0 π o') := by unfold setE; rw [e0]
      rw [es]
      refine Srs.eqv (fun p => ?_) sr
      constructor
      · rintro ((z | z) | z) <;> simp [z]
      · rintro (z | z | z) <;> simp [z]
  · cases h
/-- an expression that tells a place: names, subscripts by what is simple -/
def DP (X : Cx) (e : Expr) (f : Ev → Option (Nat × List Nat)) : Prop := ∀ ρ i π, f ρ = some (i, π) → ∃ t, PE X e t ∧ ∀ σ H g F (Q : VK), Good X g H σ ρ F → (∀ v, RefAt X g σ ρ F i π v → (π = [] → σ[i]? = some (some v)) → Q v H) → t σ H Q
/-- an expression that is reckoned at once, of what stands -/
def DQ (X : Cx) (e : Expr) (f : Ev → Option Dt) : Prop := ∀ ρ d, f ρ = some d → ∃ t, PE X e t ∧ ∀ σ H g F (Q : VK), Good X g H σ ρ F → (∀ v, Rp X.K g.S v d → Q v H) → t σ H Q
def qK (d : Dt) : Ev → Option Dt := fun _ => some d
def qV (i : Nat) : Ev → Option Dt := fun ρ => match ρ[i]? with
  | some (.f d) => some d
  | _ => none
def qB (B : Int → Int → Option Int) (f h : Ev → Option Dt) : Ev → Option Dt := fun ρ => match f ρ, h ρ with
  | some (.int i), some (.int j) => (B i j).map .int
  | _, _ => none
/-- an item of what a place holds, which stands -/
def qIx (f : Ev → Option (Nat × List Nat)) (h : Ev → Option Dt) : Ev → Option Dt := fun ρ => match f ρ, h ρ with
  | some (i, π), some (.int k) => match getE ρ i π with
    | some (.n .lst os) => match atI os k with
      | some (.f d) => some d
      | _ => none
    | some (.f (.lst ds)) => atI ds k
    | some (.f (.tup ds)) => atI ds k
    | _ => none
  | _, _ => none
def qI (f h : Ev → Option Dt) : Ev → Option Dt := fun ρ => match f ρ, h ρ with
  | some (.lst ds), some (.int k) => atI ds k
  | some (.tup ds), some (.int k) => atI ds k
  | _, _ => none
def pV (i : Nat) : Ev → Option (Nat × List Nat) := fun ρ => match ρ[i]? with
  | some .no => none
  | none => none
  | some _ => some (i, [])
def pI (f : Ev → Option (Nat × List Nat)) (h : Ev → Option Dt) : Ev → Option (Nat × List Nat) := fun ρ => match f ρ, h ρ with
  | some (i, π), some (.int k) => match getE ρ i π with
    | some (.n .lst os) => match ixN os.length k with
      | some j => match os[j]? with
        | some .no => none
        | none => none
        | some _ => some (i, π ++ [j])
      | none => none
    | some (.n .tp os) => match ixN os.length k with
      | some j => match os[j]? with
        | some .no => none
        | none => none
        | some _ => some (i, π ++ [j])
      | none => none
    | _ => none
  | _, _ => none
/-- the value of what is reckoned at once -/
def xQ (f : Ev → Option Dt) : Fn Ow := fun ρ => match f ρ with
  | some d => some (.ok (.f d) ρ)
  | none => none
theorem sub_app : ∀ (π : List Nat) {o o1 : Ow} {j : Nat}, subO o π = some o1 → subO o (π ++ [j]) = subO o1 [j]
  | [], o, o1, j, e => by cases e; rfl
  | i :: π, .no, _, _, e => by cases e
  | i :: π, .f _, _, _, e => by cases e
  | i :: π, .n k os, o1, j, e => by
    unfold subO at e
    split at e
    · rename_i oi ei
      show subO (.n k os) (i :: (π ++ [j])) = _
      rw [show subO (.n k os) (i :: (π ++ [j])) = subO oi (π ++ [j]) by conv => lhs; unfold subO; rw [ei]]
      exact sub_app π e
    · cases e
theorem set_app : ∀ (π : List Nat) {o : Ow} {k : Kd} {os : List Ow} {j : Nat} {oj x : Ow}, subO o π = some (.n k os) → os[j]? = some oj → setP o (π ++ [j]) x = setP o π (.n k (os.set j x))
  | [], o, k, os, j, oj, x, e, ej => by
    cases e
    show setP (.n k os) [j] x = setP (.n k os) [] _
    have a : setP (.n k os) [j] x = .n k (os.set j (setP oj [] x)) := by conv => lhs; unfold setP; rw [ej]
    have b : setP oj [] x = x := by cases oj <;> rfl
    rw [a, b]
    rfl
  | i :: π, .no, _, _, _, _, _, e, _ => by cases e
  | i :: π, .f _, _, _, _, _, _, e, _ => by cases e
  | i :: π, .n k0 os0, k, os, j, oj, x, e, ej => by
    unfold subO at e
    split at e
    · rename_i oi ei
      show setP (.n k0 os0) (i :: (π ++ [j])) x = _
      have a : setP (.n k0 os0) (i :: (π ++ [j])) x = .n k0 (os0.set i (setP oi (π ++ [j]) x)) := by conv => lhs; unfold setP; rw [ei]
      have b : setP (.n k0 os0) (i :: π) (.n k (os.set j x)) = .n k0 (os0.set i (setP oi π (.n k (os.set j x)))) := by conv => lhs; unfold setP; rw [ei]
      rw [a, b, set_app π e ej]
    · cases e
theorem atI_len {α β : Type} {xs : List α} {ys : List β} (h : ys.length = xs.length) {k : Int} {x : α} (e : atI xs k = some x) : ∃ j : Nat, ixN xs.length k = some j ∧ xs[j]? = some x ∧ atI ys k = ys[j]? := by
  unfold atI at e ⊢
  rw [h]
  cases q : ixN xs.length k with
  | none => rw [q] at e; cases e
  | some j => rw [q] at e; exact ⟨j, rfl, e, rfl⟩
section
variable {X : Cx} {W : WX} {pos : Pos} {e a b : Expr} {fq fq2 : Ev → Option Dt} {fp : Ev → Option (Nat × List Nat)}
theorem de_q (h : DQ X e fq) : DE X W e (xQ fq) := fun ρ r hr => by
  unfold xQ at hr
  split at hr
  · rename_i d ed
    cases hr
    obtain ⟨t, p, q⟩ := h ρ d ed
    exact ⟨t, p, fun σ H g F Q G k => q σ H g F Q G fun v rv => k v H g F (fun _ => False) G ⟨rv, fun _ z => z⟩ (fun _ _ z => z) (Stp.refl fun p z => z.elim id False.elim)⟩
  · cases hr
theorem dq_int {i : Int} {j : Nat} : DQ X (.Constant (.int i) j pos) (qK (.int i)) := fun ρ d h => by cases h; exact ⟨_, pe_int, fun σ H g F Q G k => k _ (.int i)⟩
theorem dq_v (i : Nat) {nm : Str} (hN : X.N[i]? = some nm := by rfl) (hv : Vis X.env.scope nm := by first | exact Or.inl rfl | exact Or.inr (Or.inl rfl) | exact Or.inr (Or.inr rfl))
    (hd : (nm == ("__debug__" : Str)) = false := by decide) (hcd : (nm == ("__classdict__" : Str)) = false := by decide) : DQ X (.Name nm pos) (qV i) := fun ρ d h => by
  unfold qV at h
  split at h
  · rename_i d' e
    cases h
    refine ⟨_, pe_var hN hv hd hcd, fun σ H g F Q G k => ?_⟩
    obtain ⟨v, F1, F2, e1, e2, _⟩ := G.sr.at e
    obtain ⟨u, rfl, hu⟩ := e2.get (by simp)
    exact ⟨u, e1, k u hu.1⟩
  · cases h
theorem dq_neg {i : Int} {j : Nat} {p : Pos} : DQ X (.UnaryOp .USub (.Constant (.int i) j p) pos) (qK (.int (-i))) := fun ρ d h => by
  cases h
  exact ⟨_, pe_un un_neg pe_int, fun σ H g F Q G k => ⟨i, rfl, k _ (.int (-i))⟩⟩
theorem dp_v (i : Nat) {nm : Str} (hN : X.N[i]? = some nm := by rfl) (hv : Vis X.env.scope nm := by first | exact Or.inl rfl | exact Or.inr (Or.inl rfl) | exact Or.inr (Or.inr rfl))
    (hd : (nm == ("__debug__" : Str)) = false := by decide) (hcd : (nm == ("__classdict__" : Str)) = false := by decide) : DP X (.Name nm pos) (pV i) := fun ρ i' π h => by
  unfold pV at h
  split at h
  · cases h
  · cases h
  · rename_i o n e
    cases h
    refine ⟨_, pe_var hN hv hd hcd, fun σ H g F Q G k => ?_⟩
    obtain ⟨v, hv, hs⟩ := ref_of (i := i) (π := []) (o := o) G (by unfold getE; rw [e]; cases o <;> rfl) fun z => n (by rw [z])
    exact ⟨v, hs rfl, k v hv hs⟩
theorem dp_i (ha : DP X a fp) (hb : DQ X b fq) (hs : PlainIx b := by exact fun _ _ => rfl) : DP X (.Subscript a b pos) (pI fp fq) := fun ρ i π h => by
  unfold pI at h
  split at h
  · rename_i i0 π0 k e1 e2
    split at h
    · rename_i os e3
      split at h
      · rename_i j ej
        split at h
        · cases h
        · cases h
        · rename_i oj nj eoj
          injection h with h
          injection h with h1 h2
          subst h1
          subst h2
          obtain ⟨ta, pa, qa⟩ := ha ρ _ _ e1
          obtain ⟨tb, pb, qb⟩ := hb ρ _ e2
          refine ⟨_, pe_ix ix_list pa pb hs, fun σ H g F Q G kk => qa σ H g F _ G fun v rv sv => qb σ H g F _ G fun u ru => ?_⟩
          cases ru
          obtain ⟨o, F1, F2, a1, a2, a3, a4, a5⟩ := rv.it
          rw [e3] at a1
          cases a1
          obtain ⟨l, vs, F0, Fc, b1, b2, b3, b4, b5⟩ := a2
          subst b1
          obtain ⟨w, K1, K2, c1, c2, c3, c4, c5⟩ := b3.at eoj
          have ge : getE ρ i0 (π0 ++ [j]) = some oj := by
            unfold getE at e3 ⊢
            split at e3
            · rename_i o0 eo0
              rw [sub_app π0 e3]
              unfold subO
              rw [eoj]
              cases oj <;> rfl
            · cases e3
          refine ⟨l, vs, k, w, rfl, rfl, (SqX.of (G.ok.m _ _ b2.1)).l, ?_, kk w ?_ fun z => by simp at z⟩
          · unfold atI
            rw [b3.len, ej]
            exact c1
          · obtain ⟨w', hw', _⟩ := ref_of (i := i0) (π := π0 ++ [j]) G ge fun z => nj (by rw [z])
            refine ⟨oj, K1, fun p => F0 p ∨ (K2 p ∨ F2 p), ge, c2, fun p z y => ?_, fun p => ?_, fun g' o' F1' w1 h' d' => ?_⟩
            · rcases y with y | y | y
              · exact b4 p y ((c4 p).mpr (.inl z))
              · exact c3 p z y
              · exact a3 p ((b5 p).mpr (.inr ((c4 p).mpr (.inl z)))) y
            · rw [a4 p, b5 p, c4 p]
              constructor
              · rintro ((z | z | z) | z) <;> simp [z]
              · rintro (z | z | z | z) <;> simp [z]
            · have sr := c5 g' o' w F1' (w1.sub fun p z => .inr (.inl z)) h' fun p z y => d' p z (.inr (.inl y))
              rw [set_self c1] at sr
              have nd : OwR X.mg X.K g' (.n .lst (os.set j o')) (.ref l) fun p => F0 p ∨ (F1' p ∨ K2 p) := ⟨l, vs, F0, _, rfl, b2.kp (w1.sub fun p z => .inl z), sr, fun p z y => y.elim (fun y => d' p y (.inl z)) fun y => b4 p z ((c4 p).mpr (.inr y)), fun p => Iff.rfl⟩
              have q := a5 g' _ _ (w1.sub fun p z => .inr (.inr z)) nd fun p z y => by
                rcases z with z | z | z
                · exact a3 p ((b5 p).mpr (.inl z)) y
                · exact d' p z (.inr (.inr y))
                · exact a3 p ((b5 p).mpr (.inr ((c4 p).mpr (.inr z)))) y
              have es : setE ρ i0 (π0 ++ [j]) o' = setE ρ i0 π0 (.n .lst (os.set j o')) := by
                unfold setE
                unfold getE at e3
                split at e3
                · rename_i o0 eo0
                  rw [set_app π0 e3 eoj]
                · cases e3
              rw [es]
              refine Srs.eqv (fun p => ?_) q
              constructor
              · rintro ((z | z | z) | z) <;> simp [z]
              · rintro (z | z | z | z) <;> simp [z]
      · cases h
    · rename_i os e3
      split at h
      · rename_i j ej
        split at h
        · cases h
        · cases h
        · rename_i oj nj eoj
          injection h with h
          injection h with h1 h2
          subst h1
          subst h2
          obtain ⟨ta, pa, qa⟩ := ha ρ _ _ e1
          obtain ⟨tb, pb, qb⟩ := hb ρ _ e2
          refine ⟨_, pe_ix ix_tup pa pb hs, fun σ H g F Q G kk => qa σ H g F _ G fun v rv sv => qb σ H g F _ G fun u ru => ?_⟩
          cases ru
          obtain ⟨o, F1, F2, a1, a2, a3, a4, a5⟩ := rv.it
          rw [e3] at a1
          cases a1
          obtain ⟨l, vs, F0, Fc, b1, b2, b3, b4, b5⟩ := a2
          subst b1
          obtain ⟨w, K1, K2, c1, c2, c3, c4, c5⟩ := b3.at eoj
          have ge : getE ρ i0 (π0 ++ [j]) = some oj := by
            unfold getE at e3 ⊢
            split at e3
            · rename_i o0 eo0
              rw [sub_app π0 e3]
              unfold subO
              rw [eoj]
              cases oj <;> rfl
            · cases e3
          refine ⟨l, vs, k, w, rfl, rfl, SqT.of (G.ok.m _ _ b2.1), ?_, kk w ?_ fun z => by simp at z⟩
          · unfold atI
            rw [b3.len, ej]
            exact c1
          · obtain ⟨w', hw', _⟩ := ref_of (i := i0) (π := π0 ++ [j]) G ge fun z => nj (by rw [z])
            refine ⟨oj, K1, fun p => F0 p ∨ (K2 p ∨ F2 p), ge, c2, fun p z y => ?_, fun p => ?_, fun g' o' F1' w1 h' d' => ?_⟩
            · rcases y with y | y | y
              · exact b4 p y ((c4 p).mpr (.inl z))
              · exact c3 p z y
              · exact a3 p ((b5 p).mpr (.inr ((c4 p).mpr (.inl z)))) y
            · rw [a4 p, b5 p, c4 p]
              constructor
              · rintro ((z | z | z) | z) <;> simp [z]
              · rintro (z | z | z | z) <;> simp [z]
            · have sr := c5 g' o' w F1' (w1.sub fun p z => .inr (.inl z)) h' fun p z y => d' p z (.inr (.inl y))
              rw [set_self c1] at sr
              have nd : OwR X.mg X.K g' (.n .tp (os.set j o')) (.ref l) fun p => F0 p ∨ (F1' p ∨ K2 p) := ⟨l, vs, F0, _, rfl, b2.kp (w1.sub fun p z => .inl z), sr, fun p z y => y.elim (fun y => d' p y (.inl z)) fun y => b4 p z ((c4 p).mpr (.inr y)), fun p => Iff.rfl⟩
              have q := a5 g' _ _ (w1.sub fun p z => .inr (.inr z)) nd fun p z y => by
                rcases z with z | z | z
                · exact a3 p ((b5 p).mpr (.inl z)) y
                · exact d' p z (.inr (.inr y))
                · exact a3 p ((b5 p).mpr (.inr ((c4 p).mpr (.inr z)))) y
              have es : setE ρ i0 (π0 ++ [j]) o' = setE ρ i0 π0 (.n .tp (os.set j o')) := by
                unfold setE
                unfold getE at e3
                split at e3
                · rename_i o0 eo0
                  rw [set_app π0 e3 eoj]
                · cases e3
              rw [es]
              refine Srs.eqv (fun p => ?_) q
              constructor
              · rintro ((z | z | z) | z) <;> simp [z]
              · rintro (z | z | z | z) <;> simp [z]
      · cases h
    · cases h
  · cases h
theorem dq_ix (ha : DP X a fp) (hb : DQ X b fq) (hs : PlainIx b := by exact fun _ _ => rfl) : DQ X (.Subscript a b pos) (qIx fp fq) := fun ρ d h => by
  unfold qIx at h
  split at h
  · rename_i i0 π0 k e1 e2
    obtain ⟨ta, pa, qa⟩ := ha ρ _ _ e1
    obtain ⟨tb, pb, qb⟩ := hb ρ _ e2
    split at h
    · rename_i os e3
      split at h
      · rename_i d' e4
        cases h
        refine ⟨_, pe_ix ix_list pa pb hs, fun σ H g F Q G kk => qa σ H g F _ G fun v rv sv => qb σ H g F _ G fun u ru => ?_⟩
        cases ru
        obtain ⟨o, F1, F2, a1, a2, _⟩ := rv.it
        rw [e3] at a1
        cases a1
        obtain ⟨l, vs, F0, Fc, b1, b2, b3, b4, b5⟩ := a2
        subst b1
        obtain ⟨j, j1, j2, j3⟩ := atI_len b3.len e4
        obtain ⟨w, K1, K2, c1, c2, _⟩ := b3.at j2
        exact ⟨l, vs, k, w, rfl, rfl, (SqX.of (G.ok.m _ _ b2.1)).l, by rw [j3]; exact c1, kk w c2.1⟩
      · cases h
    · rename_i ds e3
      refine ⟨_, pe_ix ix_list pa pb hs, fun σ H g F Q G kk => qa σ H g F _ G fun v rv sv => qb σ H g F _ G fun u ru => ?_⟩
      cases ru
      obtain ⟨o, F1, F2, a1, a2, _⟩ := rv.it
      rw [e3] at a1
      cases a1
      obtain ⟨a2, _⟩ := a2
      cases a2 with
      | lst h1 h2 =>
        obtain ⟨j, j1, j2, j3⟩ := atI_len h2.len h
        obtain ⟨w, w1, w2⟩ := h2.at j2
        exact ⟨_, _, k, w, rfl, rfl, (DL.sqx_mono G.ok.s h1).l, by rw [j3]; exact w1, kk w w2⟩
    · rename_i ds e3
      refine ⟨_, pe_ix ix_tup pa pb hs, fun σ H g F Q G kk => qa σ H g F _ G fun v rv sv => qb σ H g F _ G fun u ru => ?_⟩
      cases ru
      obtain ⟨o, F1, F2, a1, a2, _⟩ := rv.it
      rw [e3] at a1
      cases a1
      obtain ⟨a2, _⟩ := a2
      cases a2 with
      | tup h1 h2 =>
        obtain ⟨j, j1, j2, j3⟩ := atI_len h2.len h
        obtain ⟨w, w1, w2⟩ := h2.at j2
        exact ⟨_, _, k, w, rfl, rfl, DL.sqt_mono G.ok.s h1, by rw [j3]; exact w1, kk w w2⟩
    · cases h
  · cases h
end
end OW
namespace OW
open PySem PySem.Spec PyProof.Rows L2
open DL (Dt Rp RpAll SqX pe_no pt_no pw_no ps_no pss_no)
section
variable {X : Cx} {W : WX} {Z : List (Nat × V)} {pos apos cpos tpos : Pos} {e a b o : Expr} {fe : Fn Ow} {fq fq2 : Ev → Option Dt} {fp : Ev → Option (Nat × List Nat)}
/-- a list at a place gets other items -/
theorem ref_put {g : Gs} {H : Hp} {σ : L2.St} {ρ : Ev} {F : Fp} {i : Nat} {π : List Nat} {v : V} {os : List Ow} (R : RefAt X g σ ρ F i π v) (h : getE ρ i π = some (.n .lst os)) (k : GsOk g H) :
    ∃ l vs Fc, v = .ref l ∧ g.M l = some (.lst vs) ∧ H l = some (.lst vs) ∧ OwRs X.mg X.K g os vs Fc ∧ (∀ p, Fc p → F p) ∧ F l ∧ ¬ Fc l ∧ ∀ vs' os' Fn, OwRs X.mg X.K g os' vs' Fn → (∀ p, Fn p → Fc p ∨ ¬ F p) → ¬ Fn l →
      ∃ F', Good X (g.hold l (.lst vs')) (upd H l (.lst vs')) σ (setE ρ i π (.l os')) F' ∧ (∀ p, F' p → F p ∨ Fn p) ∧ ∀ Fx : Fp, (∀ p, Fn p → F p ∨ Fx p) → Stp g (fun p => F p ∨ Fx p) (g.hold l (.lst vs')) F' := by
  obtain ⟨o, F1, F2, a1, a2, a3, a4, a5⟩ := R.it
  rw [h] at a1
  cases a1
  obtain ⟨l, vs, F0, Fc, b1, b2, b3, b4, b5⟩ := a2
  obtain ⟨b2, b2'⟩ := b2
  have hl0 : F0 l := (b2' l).mpr rfl
  have hl1 : F1 l := (b5 l).mpr (.inl hl0)
  have hF : F l := (a4 l).mpr (.inl hl1)
  refine ⟨l, vs, Fc, b1, b2, k.m _ _ b2, b3, fun p z => (a4 p).mpr (.inl ((b5 p).mpr (.inr z))), hF, fun z => b4 l hl0 z, fun vs' os' Fn ro w nl => ?_⟩
  have n2 : ¬ F2 l := fun z => a3 l hl1 z
  have rn : OwR X.mg X.K (g.hold l (.lst vs')) (.n .lst os') v fun p => F0 p ∨ Fn p := ⟨l, vs', F0, Fn, b1, ⟨upd_same, b2'⟩, OwRs.kp os' (hold_kp nl) ro, fun p z y => nl (by rw [← (b2' p).mp z]; exact y), fun p => Iff.rfl⟩
  have sr := a5 _ _ _ (hold_kp n2) rn fun p z y => by
    rcases z with z | z
    · exact a3 p ((b5 p).mpr (.inl z)) y
    · rcases w p z with q | q
      · exact a3 p ((b5 p).mpr (.inr q)) y
      · exact q ((a4 p).mpr (.inr y))
  have hsub : ∀ p, (F0 p ∨ Fn p) ∨ F2 p → F p ∨ Fn p := fun p z => by
    rcases z with (z | z) | z
    · exact .inl ((a4 p).mpr (.inl ((b5 p).mpr (.inl z))))
    · exact .inr z
    · exact .inl ((a4 p).mpr (.inr z))
  refine ⟨_, ⟨put_ok k b2, sr⟩, hsub, fun Fx wx => ⟨fun _ _ e => e, fun p u e n => ?_, fun p z => .inl ((hsub p z).elim .inl (wx p))⟩⟩
  show upd g.M l _ p = _
  rw [upd_ne fun z => n (by rw [z]; exact .inl hF)]
  exact e
/-- x.append(e) -/
def sApp (i : Nat) (f : Fn Ow) : SF := fun ρ => match ρ[i]? with
  | some (.n .lst _) => sVal f (fun o ρ1 => match ρ1[i]? with
    | some (.n .lst os) => if os.length < LIM then some (.nx (ρ1.set i (.l (os ++ [o])))) else none
    | _ => none) ρ
  | _ => none
theorem getE_nil {ρ : Ev} {i : Nat} {o : Ow} (h : ρ[i]? = some o) : getE ρ i [] = some o := by
  unfold getE
  rw [h]
  cases o <;> rfl
theorem setE_nil {ρ : Ev} {i : Nat} {o x : Ow} (h : ρ[i]? = some o) : setE ρ i [] x = ρ.set i x := by
  unfold setE
  rw [h]
  have : setP o [] x = x := by cases o <;> rfl
  show ρ.set i (setP o [] x) = _
  rw [this]
theorem ds_app (i : Nat) {nm : Str} {p2 : Pos} (he : DE X W e fe) (hN : X.N[i]? = some nm := by rfl) (hv : Vis X.env.scope nm := by first | exact Or.inl rfl | exact Or.inr (Or.inl rfl) | exact Or.inr (Or.inr rfl))
    (hd : (nm == ("__debug__" : Str)) = false := by decide) (hcd : (nm == ("__classdict__" : Str)) = false := by decide)
    (hbase : attributeBase (.Name nm p2) "append" X.env (eval (.Name nm p2) X.env) = eval (.Name nm p2) X.env := by rfl)
    (hfew : ((backTo cpos (starEach [e] X.env)).all (fun x => !x.1) && (backToKw cpos (keywordEach [] X.env)).all (fun x => x.1.isSome) && decide (([e] : List Expr).length + ([] : List Keyword).length + (if ([] : List Keyword).isEmpty then 0 else 1) < 30)) = true := by rfl)
    (hline : (apos.endLine == cpos.line) = true := by rfl) (hs : starEach [e] X.env = (false, eval e X.env) :: starEach [] X.env := by rfl) (hplain : (backTo cpos (starEach [] X.env)).any (·.1) = false := by rfl)
    (hsw : swapsWith (.Call (.Attribute (.Name nm p2) "append" apos) [e] [] cpos) none pos.line X.env = pure false := by rfl) : DS X W Z (.Expr (.Call (.Attribute (.Name nm p2) "append" apos) [e] [] cpos) pos) (sApp i fe) := fun ρ r h => by
  have pe : ∀ {t : TE}, PE X e t → PS X (.Expr (.Call (.Attribute (.Name nm p2) "append" apos) [e] [] cpos) pos) _ := fun {t} p => ps_expr (pe_bm PySem.F.plainAttrs_list PySem.F.slot_list_append PySem.F.type_list_append mt_append (pe_var hN hv hd hcd) (pa_cons p pa_nil hs) hbase hfew hline hs hplain) hsw
  unfold sApp at h
  split at h
  · rename_i os0 e0
    have st : ∀ {σ : L2.St} {H : Hp} {g : Gs} {F : Fp}, Good X g H σ ρ F → ∃ l, σ[i]? = some (some (V.ref l)) ∧ tyV X.K "list" (V.ref l) H := fun G => by
      obtain ⟨v, R, sv⟩ := ref_of (i := i) (π := []) G (getE_nil e0) (by simp)
      obtain ⟨l, vs, Fc, rfl, h1, h2, _⟩ := ref_put R (getE_nil e0) G.ok
      exact ⟨l, sv rfl, .inl ⟨rfl, vs, (SqX.of h2).l⟩⟩
    rcases sVal_inv h with ⟨x, ρ1, h1, hk⟩ | ⟨c, d, ρ1, h1, rfl⟩
    · obtain ⟨t, p, q⟩ := he ρ _ h1
      split at hk
      · rename_i os e1
        split at hk
        · rename_i hz
          cases hk
          refine ⟨_, pe p, fun σ H g F D G z k => ?_⟩
          obtain ⟨l, sl, ty⟩ := st G
          refine ⟨_, sl, ty, q σ H g F _ G fun w H1 g1 F1 Fw G1 rw' d1 s1 => ?_⟩
          obtain ⟨v, R, sv⟩ := ref_of (i := i) (π := []) G1 (getE_nil e1) (by simp)
          obtain ⟨l', vs, Fc, rfl, m1, m2, ro, wc, hF, nFc, up⟩ := ref_put R (getE_nil e1) G1.ok
          have := sv rfl
          rw [sl] at this
          cases this
          obtain ⟨F', G', w', st'⟩ := up (vs ++ [w]) (os ++ [x]) (fun p => Fc p ∨ Fw p) (OwRs.app ro (OwRs.one rw') fun p y z => d1 p (wc p y) z) (fun p z => z.elim .inl fun z => .inr fun y => d1 p y z) (fun z => by
            rcases z with z | z
            · exact nFc z
            · exact d1 _ hF z)
          refine ⟨l, vs, w, rfl, rfl, m2, by rw [ro.len]; exact Nat.lt_of_lt_of_le hz (by decide), ?_⟩
          rw [setE_nil e1] at G'
          exact k σ _ _ F' G' z (s1.tr ((st' Fw fun p z => z.elim (fun z => .inl (wc p z)) .inr)))
        · cases hk
      · cases hk
    · obtain ⟨t, p, q⟩ := he ρ _ h1
      refine ⟨_, pe p, fun σ H g F D G z k => ?_⟩
      obtain ⟨l, sl, ty⟩ := st G
      exact ⟨_, sl, ty, q σ H g F _ G fun cls dx H1 g1 F1 G1 e1 s1 => k cls dx σ H1 g1 F1 G1 z e1 s1⟩
  · cases h
/-- x[..].append(e), e reckoned at once -/
def sAppP (f : Ev → Option (Nat × List Nat)) (h : Ev → Option Dt) : SF := fun ρ => match f ρ, h ρ with
  | some (i, π), some d => match getE ρ i π with
    | some (.n .lst os) => if os.length < LIM then some (.nx (setE ρ i π (.l (os ++ [.f d])))) else none
    | _ => none
  | _, _ => none
/-- x[..][k] = e -/
def sItem (f : Ev → Option (Nat × List Nat)) (h : Ev → Option Dt) (fe : Fn Ow) : SF := sVal fe fun x ρ => match f ρ, h ρ with
  | some (i, π), some (.int k) => match getE ρ i π with
    | some (.n .lst os) => match ixN os.length k with
      | some j => some (.nx (setE ρ i π (.l (os.set j x))))
      | none => none
    | _ => none
  | _, _ => none
theorem ds_item (ho : DP X o fp) (hi : DQ X b fq) (he : DE X W e fe) (hs : swapsWithSole [.Subscript o b tpos] e pos.line X.env = pure false := by rfl) (hw : swappedStores [.Subscript o b tpos] e X.env = pure none := by rfl)
    (h1 : (assignEach [.Subscript o b tpos] X.env).map (·.2) = [assign (.Subscript o b tpos) X.env] := by rfl)
    (ha : ∀ v, assign (.Subscript o b tpos) X.env v = (do
      let ov ← holding [v] (eval o X.env)
      let iv ← holding [v, ov] (eval b X.env)
      standAt tpos
      holding [v, ov, iv] (setItem ov iv v)
      release [v, ov, iv] []) := by intro v; rfl) : DS X W Z (.Assign [.Subscript o b tpos] e pos) (sItem fp fq fe) := fun ρ r hr => by
  rcases sVal_inv hr with ⟨x, ρ1, h3, hk⟩ | ⟨c, d, ρ1, h3, rfl⟩
  · obtain ⟨t, p, q⟩ := he ρ _ h3
    split at hk
    · rename_i i π kk e1 e2
      split at hk
      · rename_i os e3
        split at hk
        · rename_i j ej
          cases hk
          obtain ⟨ta, pa, qa⟩ := ho ρ1 _ _ e1
          obtain ⟨tb, pb, qb⟩ := hi ρ1 _ e2
          refine ⟨_, ps_asg p (pg_sub pa pb set_list ha) hs hw h1, fun σ H g F D G z k => q σ H g F _ G fun w H1 g1 F1 Fw G1 rw' d1 s1 => qa σ H1 g1 F1 _ G1 fun v R sv => qb σ H1 g1 F1 _ G1 fun u ru => ?_⟩
          cases ru
          obtain ⟨l, vs, Fc, rfl, m1, m2, ro, wc, hF, nFc, up⟩ := ref_put R e3 G1.ok
          have jl : j < os.length := (ixN_seq ej).2.1
          obtain ⟨vj, K1, K2, c1, c2, c3, c4, c5⟩ := ro.at (List.getElem?_eq_getElem jl)
          have rset := c5 g1 x w Fw Kp.refl rw' fun p y z => d1 p (wc p ((c4 p).mpr (.inr z))) y
          obtain ⟨F', G', w', st'⟩ := up (vs.set j w) (os.set j x) (fun p => Fw p ∨ K2 p) rset (fun p z => z.elim (fun z => .inr fun y => d1 p y z) fun z => .inl ((c4 p).mpr (.inr z))) (fun z => z.elim (d1 _ hF) fun z => nFc ((c4 _).mpr (.inr z)))
          refine ⟨l, vs, kk, j, rfl, rfl, m2, by rw [ro.len]; exact ej, k σ _ _ F' G' z (s1.tr (st' Fw fun p z => z.elim .inr fun z => .inl (wc p ((c4 p).mpr (.inr z)))))⟩
        · cases hk
      · cases hk
    · cases hk
  · obtain ⟨t, p, q⟩ := he ρ _ h3
    exact ⟨_, ps_asg (g := fun _ _ _ _ => False) p ⟨fun _ _ _ _ _ _ _ _ _ h => h.elim⟩ hs hw h1, fun σ H g F D G z k => q σ H g F _ G fun cls dx H1 g1 F1 G1 e1 s1 => k cls dx σ H1 g1 F1 G1 z e1 s1⟩
/-- x[..].clear() -/
def sClr (f : Ev → Option (Nat × List Nat)) : SF := fun ρ => match f ρ with
  | some (i, π) => match getE ρ i π with
    | some (.n .lst _) => some (.nx (setE ρ i π (.l [])))
    | _ => none
  | none => none
end
end OW
namespace OW
open PySem PySem.Spec PyProof.Rows L2
open DL (Dt Rp RpAll SqX pe_no pt_no pw_no ps_no pss_no rng cutD)
/-! ### what is built in, over data -/
def intsOf : List Dt → Option (List Int)
  | [] => some []
  | .int i :: r => match intsOf r with
    | some ns => some (i :: ns)
    | none => none
  | _ => none
def blsOf : List Dt → Option (List Bool)
  | [] => some []
  | .bl i :: r => match blsOf r with
    | some ns => some (i :: ns)
    | none => none
  | _ => none
theorem intsOf_eq : ∀ {ds : List Dt} {ns : List Int}, intsOf ds = some ns → ds = ns.map .int
  | [], ns, h => by cases h; rfl
  | .int i :: r, ns, h => by
    unfold intsOf at h
    split at h
    · rename_i ms e
      cases h
      rw [List.map_cons, intsOf_eq e]
    · cases h
  | .non :: _, _, h => by cases h
  | .bl _ :: _, _, h => by cases h
  | .str _ :: _, _, h => by cases h
  | .lst _ :: _, _, h => by cases h
  | .tup _ :: _, _, h => by cases h
  | .opq _ :: _, _, h => by cases h
  | .emp :: _, _, h => by cases h
theorem intsOf_map (ns : List Int) : intsOf (ns.map .int) = some ns := by
  induction ns with
  | nil => rfl
  | cons n ns ih => rw [List.map_cons]; unfold intsOf; rw [ih]
theorem blsOf_map (ns : List Bool) : blsOf (ns.map .bl) = some ns := by
  induction ns with
  | nil => rfl
  | cons n ns ih => rw [List.map_cons]; unfold blsOf; rw [ih]
/-- the greatest and the least of some ints -/
def gst : List Int → Int
  | [] => 0
  | [x] => x
  | x :: xs => max x (gst xs)
def lst' : List Int → Int
  | [] => 0
  | [x] => x
  | x :: xs => min x (lst' xs)
theorem gst_mem : ∀ {xs : List Int}, xs ≠ [] → gst xs ∈ xs
  | [], h => (h rfl).elim
  | [x], _ => List.mem_cons_self
  | x :: y :: r, _ => by
    have ih := gst_mem (xs := y :: r) (by simp)
    show max x (gst (y :: r)) ∈ _
    by_cases h : x ≤ gst (y :: r)
    · rw [Int.max_eq_right h]; exact List.mem_cons_of_mem _ ih
    · rw [Int.max_eq_left (by omega)]; exact List.mem_cons_self
theorem gst_le : ∀ {xs : List Int} {z : Int}, z ∈ xs → z ≤ gst xs
  | [x], z, h => by simp at h; subst h; exact Int.le_refl _
  | x :: y :: r, z, h => by
    show z ≤ max x (gst (y :: r))
    rcases List.mem_cons.mp h with rfl | h
    · exact Int.le_max_left _ _
    · exact Int.le_trans (gst_le h) (Int.le_max_right _ _)
theorem lst_mem : ∀ {xs : List Int}, xs ≠ [] → lst' xs ∈ xs
  | [], h => (h rfl).elim
  | [x], _ => List.mem_cons_self
  | x :: y :: r, _ => by
    have ih := lst_mem (xs := y :: r) (by simp)
    show min x (lst' (y :: r)) ∈ _
    by_cases h : x ≤ lst' (y :: r)
    · rw [Int.min_eq_left h]; exact List.mem_cons_self
    · rw [Int.min_eq_right (by omega)]; exact List.mem_cons_of_mem _ ih
theorem lst_le : ∀ {xs : List Int} {z : Int}, z ∈ xs → lst' xs ≤ z
  | [x], z, h => by simp at h; subst h; exact Int.le_refl _
  | x :: y :: r, z, h => by
    show min x (lst' (y :: r)) ≤ z
    rcases List.mem_cons.mp h with rfl | h
    · exact Int.min_le_left _ _
    · exact Int.le_trans (Int.min_le_right _ _) (lst_le h)
def srt (ns : List Int) : List Int := ns.mergeSort fun a b => decide (a ≤ b)
def kLen : List Dt → Option Ow
  | [.lst ds] => some (.f (.int ds.length))
  | [.tup ds] => some (.f (.int ds.length))
  | [.str s] => if s.length ≤ LIM then some (.f (.int s.length)) else none
  | _ => none
def kAbs : List Dt → Option Ow
  | [.int i] => some (.f (.int (i.natAbs : Int)))
  | _ => none
def kMax : List Dt → Option Ow
  | [.int i, .int j] => some (.f (.int (max i j)))
  | [.lst ds] => match intsOf ds with
    | some ns => if ns ≠ [] then some (.f (.int (gst ns))) else none
    | none => none
  | _ => none
def kMin : List Dt → Option Ow
  | [.int i, .int j] => some (.f (.int (min i j)))
  | [.int i, .int j, .int l] => some (.f (.int (min i (min j l))))
  | [.lst ds] => match intsOf ds with
    | some ns => if ns ≠ [] then some (.f (.int (lst' ns))) else none
    | none => none
  | _ => none
def kSum : List Dt → Option Ow
  | [.lst ds] => match intsOf ds with
    | some ns => some (.f (.int ns.sum))
    | none => none
  | _ => none
def kSort : List Dt → Option Ow
  | [.lst ds] => match intsOf ds with
    | some ns => some (.l ((srt ns).map fun n => .f (.int n)))
    | none => none
  | _ => none
def kAll : List Dt → Option Ow
  | [.lst ds] => match blsOf ds with
    | some bs => some (.f (.bl (bs.all id)))
    | none => none
  | _ => none
def kAny : List Dt → Option Ow
  | [.lst ds] => match blsOf ds with
    | some bs => some (.f (.bl (bs.any id)))
    | none => none
  | _ => none
def kInt : List Dt → Option Ow
  | [.int i] => some (.f (.int i))
  | [.bl b] => some (.f (.int (if b then 1 else 0)))
  | _ => none
def kList : List Dt → Option Ow
  | [.lst ds] => some (.l (ds.map .f))
  | [.tup ds] => some (.l (ds.map .f))
  | _ => none
def kTuple : List Dt → Option Ow
  | [.lst ds] => some (.f (.tup ds))
  | [.tup ds] => some (.f (.tup ds))
  | _ => none
def kRepr : List Dt → Option Ow
  | [.lst ds] => if Dt.fitsE (.lst ds) then some (.f (.str (Dt.text (.lst ds)))) else none
  | [.tup ds] => if Dt.fitsE (.tup ds) then some (.f (.str (Dt.text (.tup ds)))) else none
  | [.emp] => some (.f (.str (Dt.text .emp)))
  | [.int i] => if i.natAbs.log2 < 1920 then some (.f (.str (toString i))) else none
  | [.non] => some (.f (.str "None"))
  | [.bl b] => some (.f (.str (if b then "True" else "False")))
  | [.str x] => if (reprText x).length ≤ sizeLine then some (.f (.str (reprText x))) else none
  | _ => none
section
variable {X : Cx} {W : WX} {pos p : Pos} {e : Expr} {es : List Expr} {fs : Fn (List Ow)} {k : Nat}
theorem rf_s {r : List V → Hp → VK → Prop} {ds : List Dt} {c : Dt} (h : ∀ vs H S (Q : VK), Same S H → RpAll X.K S vs ds → (∀ w, (∀ S, Rp X.K S w c) → Q w H) → r vs H Q) : RF X r ds (.f c) := fun vs H g Q k rv q =>
  h vs H g.S Q k.s rv fun w hw => q w H g (fun _ => False) k ⟨hw _, fun _ z => z⟩ (Stp.refl fun _ z => z)
theorem one_lst {K : PySem.W.Frag} {S H : Hp} {vs : List V} {ds : List Dt} (st : Same S H) (h : RpAll K S vs [.lst ds]) : ∃ a xs, vs = [.ref a] ∧ SqX K H a xs ∧ RpAll K S xs ds := by
  cases h with
  | cons h1 h2 =>
    cases h2
    cases h1 with
    | lst a b => exact ⟨_, _, rfl, DL.sqx_mono st a, b⟩
theorem one_tup {K : PySem.W.Frag} {S H : Hp} {vs : List V} {ds : List Dt} (st : Same S H) (h : RpAll K S vs [.tup ds]) : ∃ a xs, vs = [.ref a] ∧ SqT K H a xs ∧ RpAll K S xs ds := by
  cases h with
  | cons h1 h2 =>
    cases h2
    cases h1 with
    | tup a b => exact ⟨_, _, rfl, DL.sqt_mono st a, b⟩
theorem one_int {K : PySem.W.Frag} {S : Hp} {vs : List V} {i : Int} (h : RpAll K S vs [.int i]) : vs = [.int i] := by
  cases h with
  | cons h1 h2 => cases h2; cases h1; rfl
theorem one_bl {K : PySem.W.Frag} {S : Hp} {vs : List V} {i : Bool} (h : RpAll K S vs [.bl i]) : vs = [.bl i] := by
  cases h with
  | cons h1 h2 => cases h2; cases h1; rfl
theorem one_str {K : PySem.W.Frag} {S : Hp} {vs : List V} {i : Str} (h : RpAll K S vs [.str i]) : vs = [.str i] := by
  cases h with
  | cons h1 h2 => cases h2; cases h1; rfl
theorem one_non {K : PySem.W.Frag} {S : Hp} {vs : List V} (h : RpAll K S vs [.non]) : vs = [.non] := by
  cases h with
  | cons h1 h2 => cases h2; cases h1; rfl
theorem two_int {K : PySem.W.Frag} {S : Hp} {vs : List V} {i j : Int} (h : RpAll K S vs [.int i, .int j]) : vs = [.int i, .int j] := by
  cases h with
  | cons h1 h2 =>
    cases h1
    rw [one_int h2]
theorem three_int {K : PySem.W.Frag} {S : Hp} {vs : List V} {i j l : Int} (h : RpAll K S vs [.int i, .int j, .int l]) : vs = [.int i, .int j, .int l] := by
  cases h with
  | cons h1 h2 =>
    cases h1
    rw [two_int h2]
theorem sq_ints {K : PySem.W.Frag} {S H : Hp} {vs : List V} {ds : List Dt} {ns : List Int} (st : Same S H) (e : intsOf ds = some ns) (h : RpAll K S vs [.lst ds]) : ∃ a, vs = [.ref a] ∧ SqL K H a (ns.map V.int) := by
  obtain ⟨a, xs, rfl, h1, h2⟩ := one_lst st h
  have := intsOf_eq e
  subst this
  rw [RpAll.ints h2] at h1
  exact ⟨a, rfl, h1.l⟩
theorem rf_len {ds : List Dt} {z : Ow} (h : kLen ds = some z) : ∃ r, CallR X (.builtin "len") r ∧ RF X r ds z := by
  unfold kLen at h
  split at h
  · cases h
    refine ⟨_, call_len_seq, rf_s fun vs H S Q st rv q => ?_⟩
    obtain ⟨a, xs, rfl, h1, h2⟩ := one_lst st rv
    refine ⟨a, xs, rfl, .inl h1.l, ?_⟩
    rw [h2.len]
    exact q _ fun _ => .int _
  · cases h
    refine ⟨_, call_len_seq, rf_s fun vs H S Q st rv q => ?_⟩
    obtain ⟨a, xs, rfl, h1, h2⟩ := one_tup st rv
    refine ⟨a, xs, rfl, .inr h1, ?_⟩
    rw [h2.len]
    exact q _ fun _ => .int _
  · split at h
    · rename_i hz
      cases h
      refine ⟨_, call_len_str, rf_s fun vs H S Q st rv q => ?_⟩
      exact ⟨_, one_str rv, lim_line hz, q _ fun _ => .int _⟩
    · cases h
  · cases h
theorem rf_abs {ds : List Dt} {z : Ow} (h : kAbs ds = some z) : ∃ r, CallR X (.builtin "abs") r ∧ RF X r ds z := by
  unfold kAbs at h
  split at h
  · rename_i i
    cases h
    refine ⟨_, call_abs, rf_s fun vs H S Q st rv q => ⟨_, one_int rv, ?_⟩⟩
    have e : (if i < 0 then -i else i) = (i.natAbs : Int) := by split <;> omega
    rw [e]
    exact q _ fun _ => .int _
  · cases h
theorem rf_max (hc : X.calm = true) {ds : List Dt} {z : Ow} (h : kMax ds = some z) : ∃ r, CallR X (.builtin "max") r ∧ RF X r ds z := by
  unfold kMax at h
  split at h
  · rename_i i j
    cases h
    refine ⟨_, call_max2 hc, rf_s fun vs H S Q st rv q => ⟨_, _, two_int rv, ?_⟩⟩
    have e : (if j > i then j else i) = max i j := by split <;> omega
    rw [e]
    exact q _ fun _ => .int _
  · split at h
    · rename_i ns e
      split at h
      · rename_i hne
        cases h
        refine ⟨_, cr_max hc, rf_s fun vs H S Q st rv q => ?_⟩
        obtain ⟨a, rfl, h1⟩ := sq_ints st e rv
        refine ⟨a, ns, rfl, h1, List.length_pos_iff.mpr hne, fun m hm hle => ?_⟩
        have : m = gst ns := Int.le_antisymm (gst_le hm) (hle _ (gst_mem hne))
        rw [this]
        exact q _ fun _ => .int _
      · cases h
    · cases h
  · cases h
theorem rf_min (hc : X.calm = true) {ds : List Dt} {z : Ow} (h : kMin ds = some z) : ∃ r, CallR X (.builtin "min") r ∧ RF X r ds z := by
  unfold kMin at h
  split at h
  · rename_i i j
    cases h
    refine ⟨_, call_min2 hc, rf_s fun vs H S Q st rv q => ⟨_, _, two_int rv, ?_⟩⟩
    have e : (if j < i then j else i) = min i j := by split <;> omega
    rw [e]
    exact q _ fun _ => .int _
  · rename_i i j l
    cases h
    exact ⟨_, DL.call_min3 hc, rf_s fun vs H S Q st rv q => ⟨_, _, _, three_int rv, q _ fun _ => .int _⟩⟩
  · split at h
    · rename_i ns e
      split at h
      · rename_i hne
        cases h
        refine ⟨_, cr_min hc, rf_s fun vs H S Q st rv q => ?_⟩
        obtain ⟨a, rfl, h1⟩ := sq_ints st e rv
        refine ⟨a, ns, rfl, h1, List.length_pos_iff.mpr hne, fun m hm hle => ?_⟩
        have : m = lst' ns := Int.le_antisymm (hle _ (lst_mem hne)) (lst_le hm)
        rw [this]
        exact q _ fun _ => .int _
      · cases h
    · cases h
  · cases h
theorem rf_sum (hc : X.calm = true) {ds : List Dt} {z : Ow} (h : kSum ds = some z) : ∃ r, CallR X (.builtin "sum") r ∧ RF X r ds z := by
  unfold kSum at h
  split at h
  · split at h
    · rename_i ns e
      cases h
      refine ⟨_, cr_sum hc, rf_s fun vs H S Q st rv q => ?_⟩
      obtain ⟨a, rfl, h1⟩ := sq_ints st e rv
      exact ⟨a, ns, rfl, h1, q _ fun _ => .int _⟩
    · cases h
  · cases h
theorem rf_int {ds : List Dt} {z : Ow} (h : kInt ds = some z) : ∃ r, CallR X (.type "int") r ∧ RF X r ds z := by
  unfold kInt at h
  split at h
  · cases h
    exact ⟨_, call_int1, rf_s fun vs H S Q st rv q => .inl ⟨_, one_int rv, q _ fun _ => .int _⟩⟩
  · cases h
    exact ⟨_, call_int1, rf_s fun vs H S Q st rv q => .inr ⟨_, one_bl rv, q _ fun _ => .int _⟩⟩
  · cases h
theorem rf_repr {k : Nat} (hgd : X.A.guards = some []) (hr : Room k X.A) {ds : List Dt} {z : Ow} (h : kRepr ds = some z) : ∃ r, CallR X (.builtin "repr") r ∧ RF X r ds z := by
  have one : ∀ {vs : List V} {S : Hp} {d : Dt}, RpAll X.K S vs [d] → ∃ v, vs = [v] ∧ Rp X.K S v d := fun {vs S d} rv => by
    cases rv with
    | cons r1 r2 =>
      cases r2
      exact ⟨_, rfl, r1⟩
  unfold kRepr at h
  split at h
  · split at h
    · rename_i hf
      cases h
      refine ⟨_, DL.cr_reprE hgd hr, rf_s fun vs H S Q st rv q => ?_⟩
      obtain ⟨v, rfl, r⟩ := one rv
      cases r with
      | lst h1 h2 => exact ⟨_, _, S, rfl, st, .lst h1 h2, hf, q _ fun _ => .str _⟩
    · cases h
  · split at h
    · rename_i hf
      cases h
      refine ⟨_, DL.cr_reprE hgd hr, rf_s fun vs H S Q st rv q => ?_⟩
      obtain ⟨v, rfl, r⟩ := one rv
      cases r with
      | tup h1 h2 => exact ⟨_, _, S, rfl, st, .tup h1 h2, hf, q _ fun _ => .str _⟩
    · cases h
  · cases h
    refine ⟨_, DL.cr_reprE hgd hr, rf_s fun vs H S Q st rv q => ?_⟩
    obtain ⟨v, rfl, r⟩ := one rv
    cases r with
    | emp h1 => exact ⟨_, _, S, rfl, st, .emp h1, DL.fitsE_of trivial (by decide) (by decide), q _ fun _ => .str _⟩
  · split at h
    · rename_i hz
      cases h
      exact ⟨_, SkE.call_repr_int, rf_s fun vs H S Q st rv q => ⟨_, one_int rv, hz, q _ fun _ => .str _⟩⟩
    · cases h
  · cases h
    exact ⟨_, DL.call_repr_non, rf_s fun vs H S Q st rv q => ⟨one_non rv, q _ fun _ => .str _⟩⟩
  · cases h
    refine ⟨_, DL.call_repr_bl, rf_s fun vs H S Q st rv q => ?_⟩
    obtain ⟨v, rfl, r⟩ := one rv
    cases r
    exact ⟨_, rfl, q _ fun _ => .str _⟩
  · split at h
    · rename_i hz
      cases h
      refine ⟨_, DL.call_repr_str, rf_s fun vs H S Q st rv q => ?_⟩
      obtain ⟨v, rfl, r⟩ := one rv
      cases r
      exact ⟨_, rfl, hz, q _ fun _ => .str _⟩
    · cases h
  · cases h
/-! the calls -/
theorem de_kB {id : String} {x : Str} {B : List Dt → Option Ow} (hB : ∀ ds z, B ds = some z → ∃ r, CallR X (.builtin id) r ∧ RF X r ds z) (h0 : ∃ r, CallR X (.builtin id) r) (hm : X.mg x = none) (ha : DA X W (e :: es) fs) (hv : bootBuiltins x = some (.builtin id) := by decide +kernel)
    (hg : Gl X x := by rfl) (hn : x ≠ "__name__" := by decide) (hdb : (x == ("__debug__" : Str)) = false := by decide)
    (he : starEach (e :: es) X.env = (false, eval e X.env) :: starEach es X.env := by rfl) (hpl : (backTo pos (starEach es X.env)).any (·.1) = false := by rfl) : DE X W (.Call (.Name x p) (e :: es) [] pos) (xC (oBs B) fs) :=
  de_callB h0 (fun os z h => oBs_rc hB h) hm hv ha hg hn hdb he hpl
theorem de_kT {id : String} {x : Str} {B : List Dt → Option Ow} (hB : ∀ ds z, B ds = some z → ∃ r, CallR X (.type id) r ∧ RF X r ds z) (h0 : ∃ r, CallR X (.type id) r) (hm : X.mg x = none) (ha : DA X W (e :: es) fs) (hv : bootBuiltins x = some (.type id) := by decide +kernel)
    (hg : Gl X x := by rfl) (hn : x ≠ "__name__" := by decide) (hdb : (x == ("__debug__" : Str)) = false := by decide)
    (he : starEach (e :: es) X.env = (false, eval e X.env) :: starEach es X.env := by rfl) (hpl : (backTo pos (starEach es X.env)).any (·.1) = false := by rfl) : DE X W (.Call (.Name x p) (e :: es) [] pos) (xC (oBs B) fs) :=
  de_callT h0 (fun os z h => oBs_rc hB h) hm hv ha hg hn hdb he hpl
end
/-! ### isinstance -/
def kIs (P : Dt → Bool) (o : Ow) : Option Ow := match frz o with
  | some d => if d.ty ≠ "" then some (.f (.bl (P d))) else none
  | none => none
def xIs (P : Dt → Bool) (f : Fn Ow) : Fn Ow := bnd f fun o => opt (kIs P o)
section
variable {X : Cx} {W : WX} {pos p p2 : Pos} {e : Expr} {fe : Fn Ow} {tn : Str} {T : String} {P : Dt → Bool}
theorem de_isi (hk : ∀ d : Dt, d.ty ≠ "" → kitB d.ty T = some (P d)) (hm : X.mg "isinstance" = none) (hm2 : X.mg tn = none) (ha : DE X W e fe) (ht : bootBuiltins tn = some (.type T) := by decide +kernel) (hg : Gl X "isinstance" := by rfl) (hg2 : Gl X tn := by rfl) (hn2 : tn ≠ "__name__" := by decide) (hd2 : (tn == ("__debug__" : Str)) = false := by decide)
    (he : starEach [e, .Name tn p2] X.env = (false, eval e X.env) :: starEach [.Name tn p2] X.env := by rfl) (he2 : starEach [.Name tn p2] X.env = (false, eval (.Name tn p2) X.env) :: starEach [] X.env := by rfl) (hpl : (backTo pos (starEach [.Name tn p2] X.env)).any (·.1) = false := by rfl) :
    DE X W (.Call (.Name "isinstance" p) [e, .Name tn p2] [] pos) (xIs P fe) := fun ρ r hr => by
  have pe : ∀ {t : TE}, PE X e t → PE X (.Call (.Name "isinstance" p) [e, .Name tn p2] [] pos) _ := fun {t} pa => pe_callB call_isi hg hm (by decide +kernel) (pa_cons pa (pa_cons (pe_bltn (v := V.ty T) hg2 hm2 ht rfl hn2 hd2) pa_nil he2) he) (by decide) (by decide) he hpl
  rcases bnd_inv hr with ⟨o, ρ1, h1, h2⟩ | ⟨c, d, ρ1, h1, rfl⟩
  · obtain ⟨t, pa, qa⟩ := ha ρ _ h1
    obtain ⟨z, h3, rfl⟩ := opt_inv h2
    unfold kIs at h3
    split at h3
    · rename_i d ed
      split at h3
      · rename_i hn
        cases h3
        refine ⟨_, pe pa, fun σ H g F Q G q => qa σ H g F _ G fun v H1 g1 F1 Fv G1 r1 d1 s1 => ?_⟩
        obtain ⟨g2, G2, rv, s2, st⟩ := wlk G1 ed r1 d1 s1
        exact ⟨v, V.ty T, _, _, P d, rfl, .ty T, DL.Rp.tyx G2.ok.s rv hn, kit_ty (hk d hn), q _ H1 g2 F1 (fun _ => False) G2 ⟨.bl _, fun _ z => z⟩ (fun _ _ z => z) (s2.sub fun p z => z.elim id False.elim)⟩
      · cases h3
    · cases h3
  · obtain ⟨t, pa, qa⟩ := ha ρ _ h1
    exact ⟨_, pe pa, fun σ H g F Q G q => qa σ H g F _ G q⟩
end
/-! ### subscripts of what is made -/
def bIx : Ow → Ow → Option Ow
  | .n .lst os, .f (.int k) => match atI os k with
    | some .no => none
    | r => r
  | .n .tp os, .f (.int k) => match atI os k with
    | some .no => none
    | r => r
  | .f (.lst ds), .f (.int k) => (atI ds k).map .f
  | .f (.tup ds), .f (.int k) => (atI ds k).map .f
  | .f (.str s), .f (.int k) => if s.length ≤ LIM then (atI s.cps.toList k).map fun c => .f (.str ⟨#[c]⟩) else none
  | _, _ => none
section
variable {X : Cx} {W : WX} {pos p p2 : Pos} {a b e : Expr} {fa fb fe : Fn Ow}
theorem ix_ro {x y z : Ow} (h : bIx x y = some z) : ∃ r, IxR X r ∧ RO2 X r x y z := by
  unfold bIx at h
  split at h
  · rename_i os k
    refine ⟨_, ix_list, fun v u H g Fx Fy Q kk rx ry dj q => ?_⟩
    obtain ⟨l, vs, F0, F1, e1, hc, hs, hd, ef⟩ := rx
    obtain ⟨ry, _⟩ := ry
    cases ry
    subst e1
    cases ea : atI os k with
    | none => rw [ea] at h; cases h
    | some o =>
      have hz : o = z ∧ o ≠ .no := by
        rw [ea] at h
        cases o with
        | no => cases h
        | f _ => cases h; exact ⟨rfl, by simp⟩
        | n _ _ => cases h; exact ⟨rfl, by simp⟩
      obtain ⟨rfl, _⟩ := hz
      obtain ⟨j, j1, j2, j3⟩ := atI_len hs.len ea
      obtain ⟨w, K1, K2, c1, c2, c3, c4, c5⟩ := hs.at j2
      refine ⟨l, vs, k, w, rfl, rfl, (SqX.of (kk.m _ _ hc.1)).l, by rw [j3]; exact c1, q w H g K1 kk c2 ⟨fun _ _ e => e, fun p o e n => e, fun p z => .inl (.inl ((ef p).mpr (.inr ((c4 p).mpr (.inl z)))))⟩⟩
  · rename_i os k
    refine ⟨_, ix_tup, fun v u H g Fx Fy Q kk rx ry dj q => ?_⟩
    obtain ⟨l, vs, F0, F1, e1, hc, hs, hd, ef⟩ := rx
    obtain ⟨ry, _⟩ := ry
    cases ry
    subst e1
    cases ea : atI os k with
    | none => rw [ea] at h; cases h
    | some o =>
      have hz : o = z ∧ o ≠ .no := by
        rw [ea] at h
        cases o with
        | no => cases h
        | f _ => cases h; exact ⟨rfl, by simp⟩
        | n _ _ => cases h; exact ⟨rfl, by simp⟩
      obtain ⟨rfl, _⟩ := hz
      obtain ⟨j, j1, j2, j3⟩ := atI_len hs.len ea
      obtain ⟨w, K1, K2, c1, c2, c3, c4, c5⟩ := hs.at j2
      refine ⟨l, vs, k, w, rfl, rfl, SqT.of (kk.m _ _ hc.1), by rw [j3]; exact c1, q w H g K1 kk c2 ⟨fun _ _ e => e, fun p o e n => e, fun p z => .inl (.inl ((ef p).mpr (.inr ((c4 p).mpr (.inl z)))))⟩⟩
  · rename_i ds k
    obtain ⟨d, ed, rfl⟩ := Option.map_eq_some_iff.mp h
    refine ⟨_, ix_list, fun v u H g Fx Fy Q kk rx ry dj q => ?_⟩
    obtain ⟨rx, _⟩ := rx
    obtain ⟨ry, _⟩ := ry
    cases ry
    cases rx with
    | lst h1 h2 =>
      obtain ⟨j, j1, j2, j3⟩ := atI_len h2.len ed
      obtain ⟨w, w1, w2⟩ := h2.at j2
      exact ⟨_, _, k, w, rfl, rfl, (DL.sqx_mono kk.s h1).l, by rw [j3]; exact w1, q w H g (fun _ => False) kk ⟨w2, fun _ z => z⟩ (Stp.refl fun _ z => z.elim)⟩
  · rename_i ds k
    obtain ⟨d, ed, rfl⟩ := Option.map_eq_some_iff.mp h
    refine ⟨_, ix_tup, fun v u H g Fx Fy Q kk rx ry dj q => ?_⟩
    obtain ⟨rx, _⟩ := rx
    obtain ⟨ry, _⟩ := ry
    cases ry
    cases rx with
    | tup h1 h2 =>
      obtain ⟨j, j1, j2, j3⟩ := atI_len h2.len ed
      obtain ⟨w, w1, w2⟩ := h2.at j2
      exact ⟨_, _, k, w, rfl, rfl, DL.sqt_mono kk.s h1, by rw [j3]; exact w1, q w H g (fun _ => False) kk ⟨w2, fun _ z => z⟩ (Stp.refl fun _ z => z.elim)⟩
  · rename_i s k
    split at h
    · rename_i hz
      obtain ⟨c, ec, rfl⟩ := Option.map_eq_some_iff.mp h
      refine ⟨_, ix_str, fun v u H g Fx Fy Q kk rx ry dj q => ?_⟩
      obtain ⟨rx, _⟩ := rx
      obtain ⟨ry, _⟩ := ry
      cases ry
      cases rx
      exact ⟨s, k, c, rfl, rfl, lim_line hz, ec, q _ H g (fun _ => False) kk ⟨.str _, fun _ z => z⟩ (Stp.refl fun _ z => z.elim)⟩
    · cases h
  · cases h
theorem de_ixx (ha : DE X W a fa) (hb : DE X W b fb) (hs : PlainIx b := by exact fun _ _ => rfl) : DE X W (.Subscript a b pos) (xBin bIx fa fb) := de_ix (fun x y z h => ix_ro h) hs ha hb
/-! ### slices -/
def partI (o : Ow) : Option (Option Int) := match o with
  | .f (.int i) => some (some i)
  | _ => none
/-- a part of a slice: an int, or none -/
def DO (X : Cx) (W : WX) (e : Option Expr) (f : Fn (Option Int)) : Prop := ∀ ρ r, f ρ = some r → ∃ t, PO X e t ∧ RX X W (fun _ a b F => a = b ∧ Em F) t ρ r
def oN : Fn (Option Int) := ret none
def oS (f : Fn Ow) : Fn (Option Int) := bnd f fun o => opt (partI o)
theorem do_n : DO X W none oN := fun ρ r h => by
  cases h
  exact ⟨_, po_none, rx_ret (b := none) (fun σ H Q q => q) fun g => ⟨rfl, fun _ z => z⟩⟩
theorem do_s (h : DE X W e fe) : DO X W (some e) (oS fe) := fun ρ r hr => by
  rcases bnd_inv hr with ⟨o, ρ1, h1, h2⟩ | ⟨c, d, ρ1, h1, rfl⟩
  · obtain ⟨t, p, q⟩ := h ρ _ h1
    obtain ⟨z, h3, rfl⟩ := opt_inv h2
    unfold partI at h3
    split at h3
    · cases h3
      refine ⟨_, po_some p, fun σ H g F Q G k => q σ H g F _ G fun v H1 g1 F1 Fv G1 r1 d1 s1 => ?_⟩
      obtain ⟨r1, ev⟩ := r1
      cases r1
      exact ⟨_, rfl, k _ H1 g1 F1 Fv G1 ⟨rfl, ev⟩ d1 s1⟩
    · cases h3
  · obtain ⟨t, p, q⟩ := h ρ _ h1
    exact ⟨_, po_some p, fun σ H g F Q G k => q σ H g F _ G k⟩
def bSl (o : Ow) (lo hi : Option Int) : Option Ow := match frz o with
  | some (.lst ds) => some (.l ((cutD ds lo hi).map .f))
  | some (.tup ds) => if ¬ (HT.sIx ds.length 0 lo = 0 ∧ HT.sIx ds.length ds.length hi = ds.length) then some (.f (.tup (cutD ds lo hi))) else none
  | _ => none
def xSl (f : Fn Ow) (lo hi : Fn (Option Int)) : Fn Ow := bnd f fun o => match frz o with
  | some d => bnd lo fun l => bnd hi fun h => opt (bSl (.f d) l h)
  | none => fun _ => none
theorem po_no {e : Option Expr} : PO X e (fun _ _ _ => False) := ⟨fun _ _ _ _ _ _ h => h.elim⟩
theorem de_sl {lo hi : Option Expr} {fl fh : Fn (Option Int)} (ha : DE X W a fa) (h1 : DO X W lo fl) (h2 : DO X W hi fh) : DE X W (.Subscript a (.Slice lo hi none p2) pos) (xSl fa fl fh) := fun ρ r hr => by
  rcases bnd_inv hr with ⟨o, ρ1, e1, k1⟩ | ⟨c, d, ρ1, e1, rfl⟩
  · obtain ⟨t, p, q⟩ := ha ρ _ e1
    cases ed : frz o with
    | none => rw [ed] at k1; cases k1
    | some d =>
      rw [ed] at k1
      rcases bnd_inv k1 with ⟨l, ρ2, e2, k2⟩ | ⟨c, d', ρ2, e2, rfl⟩
      · obtain ⟨t1, p1, q1⟩ := h1 ρ1 _ e2
        rcases bnd_inv k2 with ⟨u, ρ3, e3, k3⟩ | ⟨c, d', ρ3, e3, rfl⟩
        · obtain ⟨t2, p2', q2⟩ := h2 ρ2 _ e3
          obtain ⟨z, e4, rfl⟩ := opt_inv k3
          unfold bSl at e4
          split at e4
          · rename_i ds ed2
            cases ed2
            cases e4
            refine ⟨_, pe_slice sl_list p p1 p2', fun σ H g F Q G k => q σ H g F _ G fun v H1 g1 F1 Fv G1 r1 d1 s1 => ?_⟩
            obtain ⟨g2, G2, rv, s2, st⟩ := wlk G1 ed r1 d1 s1
            refine q1 σ H1 g2 F1 _ G2 fun l' H3 g3 F3 Fl G3 ⟨rl, el⟩ d3 s3 => q2 σ H3 g3 F3 _ G3 fun u' H4 g4 F4 Fu G4 ⟨ru, eu⟩ d4 s4 => ?_
            subst rl
            subst ru
            have s34 := Stp.trans s3 s4
            have st4 : Same g2.S g4.S := s34.st
            cases rv with
            | lst i1 i2 =>
              refine ⟨_, _, rfl, (DL.sqx_mono G4.ok.s (DL.sqx_mono st4 i1)).l, fun pp hp => ?_⟩
              obtain ⟨b1, b2, b3⟩ := new_l G4.ok (OwRs.of_rp (DL.cut_rp (i2.mono st4) (lo := l) (hi := u))) hp
              have sAll : Stp g F g4 F4 := s2.tr ((s34.sub fun p => fun z => .inl (.inl z)) : Stp g2 F1 g4 F4)
              obtain ⟨G5, d5, s5⟩ := G4.op (Fa := fun _ => False) (g := g) (F := F) (sAll.sub fun p z => z.elim id False.elim) (fun _ _ z => z) b1 b3
              exact k _ _ _ F4 _ G5 b2 d5 s5
          · rename_i ds ed2
            cases ed2
            split at e4
            · rename_i hw
              cases e4
              refine ⟨_, pe_slice sl_tup p p1 p2', fun σ H g F Q G k => q σ H g F _ G fun v H1 g1 F1 Fv G1 r1 d1 s1 => ?_⟩
              obtain ⟨g2, G2, rv, s2, st⟩ := wlk G1 ed r1 d1 s1
              refine q1 σ H1 g2 F1 _ G2 fun l' H3 g3 F3 Fl G3 ⟨rl, el⟩ d3 s3 => q2 σ H3 g3 F3 _ G3 fun u' H4 g4 F4 Fu G4 ⟨ru, eu⟩ d4 s4 => ?_
              subst rl
              subst ru
              have s34 := Stp.trans s3 s4
              have st4 : Same g2.S g4.S := s34.st
              cases rv with
              | tup i1 i2 =>
                refine ⟨_, _, rfl, DL.sqt_mono G4.ok.s (DL.sqt_mono st4 i1), by rw [i2.len]; exact hw, fun pp hp => ?_⟩
                obtain ⟨b1, b2, b3⟩ := new_t (F := fun _ => False) G4.ok (DL.cut_rp (i2.mono st4) (lo := l) (hi := u)) hp
                have sAll : Stp g F g4 F4 := s2.tr ((s34.sub fun p => fun z => .inl (.inl z)) : Stp g2 F1 g4 F4)
                obtain ⟨G5, d5, s5⟩ := G4.op (Fa := fun _ => False) (g := g) (F := F) (sAll.sub fun p z => z.elim id False.elim) (fun _ _ z => z) b1 b3
                exact k _ _ _ F4 (fun _ => False) G5 ⟨b2, fun _ z => z⟩ d5 s5
            · cases e4
          · cases e4
        · obtain ⟨t2, p2', q2⟩ := h2 ρ2 _ e3
          refine ⟨_, pe_slice sl_list p p1 p2', fun σ H g F Q G k => q σ H g F _ G fun v H1 g1 F1 Fv G1 r1 d1 s1 => q1 σ H1 g1 F1 _ G1 fun l' H3 g3 F3 Fl G3 ⟨rl, el⟩ d3 s3 => q2 σ H3 g3 F3 _ G3 fun cls dx H4 g4 F4 G4 e4 s4 => k cls dx H4 g4 F4 G4 e4 ?_⟩
          have a1 : Stp g F g1 F1 := s1.sub fun p => .inl
          have a3 : Stp g1 F1 g3 F3 := s3.sub fun p => .inl
          exact (a1.tr a3).tr s4
      · obtain ⟨t1, p1, q1⟩ := h1 ρ1 _ e2
        refine ⟨_, pe_slice sl_list p p1 po_no, fun σ H g F Q G k => q σ H g F _ G fun v H1 g1 F1 Fv G1 r1 d1 s1 => q1 σ H1 g1 F1 _ G1 fun cls dx H4 g4 F4 G4 e4 s4 => k cls dx H4 g4 F4 G4 e4 ((s1.sub fun p => .inl).tr s4)⟩
  · obtain ⟨t, p, q⟩ := ha ρ _ e1
    exact ⟨_, pe_slice sl_list p po_no po_no, fun σ H g F Q G k => q σ H g F _ G k⟩
/-! ### list(range(..)) -/
def kRg1 (o : Ow) : Option Ow := match o with
  | .f (.int n) => if -LIM ≤ n ∧ n ≤ LIM then some (.l (((rng 0 n.toNat).map Dt.int).map .f)) else none
  | _ => none
def kRg2 (o q : Ow) : Option Ow := match o, q with
  | .f (.int m), .f (.int n) => if -(2 ^ 62) ≤ m ∧ m < 2 ^ 62 ∧ -(2 ^ 62) ≤ n ∧ n < 2 ^ 62 ∧ (n - m).toNat ≤ LIM then some (.l (((rng m (n - m).toNat).map Dt.int).map .f)) else none
  | _, _ => none
def xRg1 (f : Fn Ow) : Fn Ow := bnd f fun o => opt (kRg1 o)
def xRg2 (f h : Fn Ow) : Fn Ow := bnd f fun o => bnd h fun q => opt (kRg2 o q)
end
end OW
namespace OW
open PySem PySem.Spec PyProof.Rows L2
open DL (Dt Rp RpAll SqX pe_no pt_no pw_no ps_no pss_no rng dng FnG FnAt spD)
section
variable {X : Cx} {W : WX} {Z : List (Nat × V)} {pos : Pos} {a b c e : Expr} {st : Stmt} {fp : Ev → Option (Nat × List Nat)} {fq : Ev → Option Dt} {k : Nat}
theorem ds_never : DS X W Z st (fun _ => none) := fun _ _ h => by cases h
theorem un65 (hr : Room k X.A) : X.A.units + 65 < cLine := by have := hr.un; omega
/-- an item of a list of one's own, or of what stands; if it is a list of one's own it stands from now on -/
def xGet (f : Ev → Option (Nat × List Nat)) (h : Ev → Option Dt) : Fn Ow := fun ρ => match qIx f h ρ with
  | some d => some (.ok (.f d) ρ)
  | none => match pI f h ρ with
    | some (i, π) => match getE ρ i π with
      | some o => match frz o with
        | some d => some (.ok (.f d) (setE ρ i π (.f d)))
        | none => none
      | none => none
    | none => none
theorem de_get (ha : DP X a fp) (hb : DQ X b fq) (hs : PlainIx b := by exact fun _ _ => rfl) : DE X W (.Subscript a b pos) (xGet fp fq) := fun ρ r hr => by
  unfold xGet at hr
  split at hr
  · rename_i d ed
    cases hr
    obtain ⟨t, p, q⟩ := dq_ix (pos := pos) ha hb hs ρ d ed
    exact ⟨t, p, fun σ H g F Q G k => q σ H g F Q G fun v rv => k v H g F (fun _ => False) G ⟨rv, fun _ z => z⟩ (fun _ _ z => z) (Stp.refl fun p z => z.elim id False.elim)⟩
  · split at hr
    · rename_i i π ep
      split at hr
      · rename_i o eo
        split at hr
        · rename_i d ed
          cases hr
          obtain ⟨t, p, q⟩ := dp_i (pos := pos) ha hb hs ρ _ _ ep
          refine ⟨t, p, fun σ H g F Q G k => q σ H g F Q G fun v R _ => ?_⟩
          obtain ⟨o', F1, F2, a1, a2, a3, a4, a5⟩ := R.it
          rw [eo] at a1
          cases a1
          have rp := frzG_rp G.ok ed a2
          have st := frzG_stp G.ok (F := F1) (F' := F) fun p z => (a4 p).mpr (.inl z)
          have sr := a5 (frzG g F1) (.f d) (fun _ => False) (frzG_kp G.ok fun p y z => a3 p z y) ⟨rp, fun _ z => z⟩ fun _ z => z.elim
          exact k v H _ _ (fun _ => False) ⟨frzG_ok G.ok, sr⟩ ⟨rp, fun _ z => z⟩ (fun _ _ z => z) (st.sub fun p z => by
            rcases z with (z | z) | z
            · exact z.elim
            · exact ⟨(a4 p).mpr (.inr z), fun y => a3 p y z⟩
            · exact z.elim)
        · cases hr
      · cases hr
    · cases hr
/-- x, y, z = a, b, c: no tuple is made -/
def sPar3 (i j l : Nat) (fa fb fc : Fn Ow) : SF := sVal (xA1 fa (xA1 fb (xA1 fc xA0))) fun xs ρ => match xs with
  | [x, y, z] => (((setO i x ρ).bind (setO j y)).bind (setO l z)).map .nx
  | _ => none
theorem ds_par3 (i j l : Nat) {fa fb fc : Fn Ow} {x y z : Str} {px py pz pt : Pos} {kt k2 pt2} (hc : X.calm = true) (nd : X.N.Nodup) (ha : DE X W a fa) (hb : DE X W b fb) (hcc : DE X W c fc) (hzi : i ∉ Z.map (·.1) := by decide) (hzj : j ∉ Z.map (·.1) := by decide) (hzl : l ∉ Z.map (·.1) := by decide) (hi : X.N[i]? = some x := by rfl) (hj : X.N[j]? = some y := by rfl) (hl : X.N[l]? = some z := by rfl) (hij : i ≠ j := by decide) (hil : i ≠ l := by decide) (hjl : j ≠ l := by decide)
    (hx : X.env.scope.names.lookup x = some .local := by rfl) (hy : X.env.scope.names.lookup y = some .local := by rfl) (hzz : X.env.scope.names.lookup z = some .local := by rfl)
    (hw : swappedStores [.Tuple [.Name x px, .Name y py, .Name z pz] kt pt] (.Tuple [a, b, c] k2 pt2) X.env = pure (some [x, y, z]) := by rfl)
    (hs : swapsWithSole [.Tuple [.Name x px, .Name y py, .Name z pz] kt pt] (.Tuple [a, b, c] k2 pt2) pos.line X.env = pure false := by rfl)
    (h1 : starEach [a, b, c] X.env = (false, eval a X.env) :: starEach [b, c] X.env := by rfl) (h2 : starEach [b, c] X.env = (false, eval b X.env) :: starEach [c] X.env := by rfl) (h3 : starEach [c] X.env = (false, eval c X.env) :: starEach [] X.env := by rfl) : DS X W Z (.Assign [.Tuple [.Name x px, .Name y py, .Name z pz] kt pt] (.Tuple [a, b, c] k2 pt2) pos) (sPar3 i j l fa fb fc) := fun ρ r hr => by
  have da : DA X W [a, b, c] (xA1 fa (xA1 fb (xA1 fc xA0))) := da_1 ha (da_1 hb (da_1 hcc da_0 h3) h2) h1
  rcases sVal_inv hr with ⟨xs, ρ2, h4, hk⟩ | ⟨c', d, ρ1, h4, rfl⟩
  · obtain ⟨t, pa, qa⟩ := da ρ _ h4
    split at hk
    · rename_i xo yo zo
      obtain ⟨ρ5, h8, rfl⟩ := Option.map_eq_some_iff.mp hk
      obtain ⟨ρ4, h9, h10⟩ := Option.bind_eq_some_iff.mp h8
      obtain ⟨ρ3, h11, h12⟩ := Option.bind_eq_some_iff.mp h9
      refine ⟨_, ps_par3 hc nd hi hj hl hij hil hjl hx hy hzz pa hw hs, fun σ H g F D G zk k => qa σ H g F _ G fun vs H1 g1 F1 Fv G1 r1 d1 s1 => ?_⟩
      obtain ⟨v, r, K1, L1, e1, a1, a2, a3, a4⟩ := r1
      obtain ⟨v2, r2, K2, L2, e2, b1, b2, b3, b4⟩ := a2
      obtain ⟨v3, r3, K3, L3, e3, c1, c2, c3, c4⟩ := b2
      obtain ⟨e4, e5⟩ := c2
      subst e4; subst e3; subst e2; subst e1
      refine ⟨v, v2, v3, rfl, ?_⟩
      obtain ⟨F3, G3, w3⟩ := G1.set h11 a1 fun p u w => d1 p u ((a4 p).mpr (.inl w))
      obtain ⟨F4, G4, w4⟩ := G3.set h12 b1 fun p u w => (w3 p u).elim (fun u => d1 p u ((a4 p).mpr (.inr ((b4 p).mpr (.inl w))))) fun u => a3 p u ((b4 p).mpr (.inl w))
      obtain ⟨F5, G5, w5⟩ := G4.set h10 c1 fun p u w => by
        rcases w4 p u with u | u
        · rcases w3 p u with u | u
          · exact d1 p u ((a4 p).mpr (.inr ((b4 p).mpr (.inr ((c4 p).mpr (.inl w))))))
          · exact a3 p u ((b4 p).mpr (.inr ((c4 p).mpr (.inl w))))
        · exact b3 p u ((c4 p).mpr (.inl w))
      refine k _ H1 g1 F5 G5 (((zk.set hzi).set hzj).set hzl) (s1.sub fun p u => ?_)
      rcases w5 p u with u | u
      · rcases w4 p u with u | u
        · rcases w3 p u with u | u
          · exact .inl u
          · exact .inr ((a4 p).mpr (.inl u))
        · exact .inr ((a4 p).mpr (.inr ((b4 p).mpr (.inl u))))
      · exact .inr ((a4 p).mpr (.inr ((b4 p).mpr (.inr ((c4 p).mpr (.inl u))))))
    · cases hk
  · obtain ⟨t, pa, qa⟩ := da ρ _ h4
    exact ⟨_, ps_par3 hc nd hi hj hl hij hil hjl hx hy hzz pa hw hs, fun σ H g F D G zk k => qa σ H g F _ G fun cls dx H1 g1 F1 G1 e1 s1 => k cls dx σ H1 g1 F1 G1 zk e1 s1⟩
end
/-! ### the law's end -/
section
variable {P : Program} {w : World} {K : PySem.W.Frag} {mg : Str → Option Value} {base : Heap} {k : Nat} {f : Addr} {fd : FuncData} {ps : List Str}
theorem fnG_weak {sp sp' : Sp} (h : ∀ vs H Q E, sp' vs H Q E → sp vs H Q E) (F : FnG P w K mg base k f fd ps sp) : FnG P w K mg base k f fd ps sp' :=
  ⟨fun vs H Q E q => F.len vs H Q E (h _ _ _ _ q), fun A outer s H args us vs Q E hg hr e0 hb r q => F.go A outer s H args us vs Q E hg hr e0 hb r (h _ _ _ _ q)⟩
end
end OW
namespace Ev
open PySem PySem.Spec PyProof.Rows L2 OW
open DL (Dt Rp RpAll SqX FnG spD)
def lawR (fn : FO) (ds : List Dt) (r : DL.Res) : Prop := ∃ ns : List Int, ds = [.lst (ns.map .int)] ∧ r = .ret (.bl true) ∧ ∃ ps, fn [.f (.lst (ns.map .int))] = some (.rt (.f (.bl true)) ps)
theorem lawR_of {fn : FO} {ns : List Int} (h : ∃ ps, fn [.f (.lst (ns.map .int))] = some (.rt (.f (.bl true)) ps)) : lawR fn [.lst (ns.map Dt.int)] (.ret (.bl true)) := ⟨ns, rfl, rfl, h⟩
theorem lawG {P : Program} {w : World} {K : PySem.W.Frag} {mg : Str → Option Value} {base : Heap} {k : Nat} {f : Addr} {fd : FuncData} {ps : List Str} {fn : FO} (F : FnG P w K mg base k f fd ps (spO mg K 1 fn)) : FnG P w K mg base k f fd ps (spD K 1 (lawR fn)) := by
  classical
  refine fnG_weak (fun vs H Q E h => ?_) F
  obtain ⟨g, ds, r, hl, ok, rv, ⟨ns, rfl, rfl, pp, hf⟩, hq⟩ := h
  let g0 : Gs := ⟨g.S, fun p => if (g.M p).isSome then H p else none⟩
  have k0 : GsOk g0 H := by
    refine ⟨ok.1, fun p u e => ?_, fun p u e => ?_⟩
    · have e' : (if (g.M p).isSome then H p else none) = some u := e
      split at e'
      · exact e'
      · cases e'
    · have e' : (if (g.M p).isSome then H p else none) = some u := e
      split at e'
      · rename_i hm
        obtain ⟨d, hd⟩ := Option.isSome_iff_exists.mp hm
        exact (ok.2 p d hd).1
      · cases e'
  refine ⟨g0, [.f (.lst (ns.map .int))], fun _ => False, _, rfl, OwRs.of_rp (ds := [.lst (ns.map .int)]) rv, k0, hf, fun v H' g' Fp Fv k' rp rv' dj st => ?_⟩
  obtain ⟨rv', _⟩ := rv'
  cases rv'
  refine hq (V.bl true) H' ⟨g'.S, g.M⟩ ⟨k'.s, fun p d hd => ?_⟩ ⟨st.st, fun _ _ e => e⟩ (.bl _)
  obtain ⟨h1, xs, h2, h3⟩ := ok.2 p d hd
  have e0 : g0.M p = some (.lst xs) := by
    show (if (g.M p).isSome then H p else none) = _
    rw [if_pos (by rw [hd]; rfl)]; exact h2
  have e1 := st.mu p _ e0 fun z => z
  exact ⟨k'.d p _ e1, xs, k'.m p _ e1, h3.mono st.st⟩
end Ev
/-! what the functions of defs come to: equations for simp -/
namespace OW
open DL (Dt)
def kB {α β : Type} (r : Option (Rs α)) (k : α → Fn β) : Option (Rs β) := match r with
  | none => none
  | some (.ok a ρ1) => k a ρ1
  | some (.ex c d ρ1) => some (.ex c d ρ1)
def kV {α : Type} (r : Option (Rs α)) (k : α → SF) : Option So := match r with
  | none => none
  | some (.ok a ρ1) => k a ρ1
  | some (.ex c d ρ1) => some (.ex c d ρ1)
def kS (r : Option So) (h : SF) : Option So := match r with
  | some (.nx ρ1) => h ρ1
  | r => r
def kF (io : List Bool) (r : Option So) : Option Fr := match r with
  | some (.nx ρ) => some (.rt (.f .non) (outs io ρ))
  | some (.rt o ρ) => some (.rt o (outs io ρ))
  | some (.ex c d ρ) => some (.ex c d (outs io ρ))
  | _ => none
def kA (as : List Ar) (ρ1 : Ev) (r : Option Fr) : Option (Rs Ow) := match r with
  | some (.rt o ps) => some (.ok o (putA as ps ρ1))
  | some (.ex c d ps) => some (.ex c d (putA as ps ρ1))
  | none => none
def kO {α : Type} (r : Option α) (ρ : Ev) : Option (Rs α) := match r with
  | some x => some (.ok x ρ)
  | none => none
section
variable {α β : Type} {f : Fn α} {k : α → Fn β} {kv : α → SF} {ρ ρ1 : Ev} {a : α} {c : PySem.Str} {d : Option (PySem.Str × Dt)} {g h : SF} {o : Ow} {os ps : List Ow} {io : List Bool} {as : List Ar} {fn : FO} {n nv : Nat}
theorem e_bnd : bnd f k ρ = kB (f ρ) k := rfl
theorem e_ret : OW.ret a ρ = some (.ok a ρ) := rfl
theorem e_opt {r : Option α} : opt r ρ = kO r ρ := rfl
theorem kO_s {x : α} : kO (some x) ρ = some (.ok x ρ) := rfl
theorem kO_n : kO (none : Option α) ρ = none := rfl
theorem kO_i {p : Prop} [Decidable p] {x y : Option α} : kO (if p then x else y) ρ = if p then kO x ρ else kO y ρ := by split <;> rfl
theorem kB_n : kB (none : Option (Rs α)) k = none := rfl
theorem kB_o : kB (some (.ok a ρ)) k = k a ρ := rfl
theorem kB_x : kB (some (.ex c d ρ : Rs α)) k = some (.ex c d ρ) := rfl
theorem kB_i {p : Prop} [Decidable p] {x y : Option (Rs α)} : kB (if p then x else y) k = if p then kB x k else kB y k := by split <;> rfl
theorem e_val : sVal f kv ρ = kV (f ρ) kv := rfl
theorem kV_n : kV (none : Option (Rs α)) kv = none := rfl
theorem kV_o : kV (some (.ok a ρ)) kv = kv a ρ := rfl
theorem kV_x : kV (some (.ex c d ρ : Rs α)) kv = some (.ex c d ρ) := rfl
theorem kV_i {p : Prop} [Decidable p] {x y : Option (Rs α)} : kV (if p then x else y) kv = if p then kV x kv else kV y kv := by split <;> rfl
theorem e_seq : sSeq g h ρ = kS (g ρ) h := rfl
theorem kS_n : kS none h = none := rfl
theorem kS_nx : kS (some (.nx ρ)) h = h ρ := rfl
theorem kS_rt : kS (some (.rt o ρ)) h = some (.rt o ρ) := rfl
theorem kS_bk : kS (some (.bk ρ)) h = some (.bk ρ) := rfl
theorem kS_ct : kS (some (.ct ρ)) h = some (.ct ρ) := rfl
theorem kS_ex : kS (some (.ex c d ρ)) h = some (.ex c d ρ) := rfl
theorem kS_i {p : Prop} [Decidable p] {x y : Option So} : kS (if p then x else y) h = if p then kS x h else kS y h := by split <;> rfl
theorem e_nil : sNil ρ = some (.nx ρ) := rfl
theorem e_pass : sPass ρ = some (.nx ρ) := rfl
theorem e_brk : sBrk ρ = some (.bk ρ) := rfl
theorem e_cnt : sCnt ρ = some (.ct ρ) := rfl
theorem e_sret {f : Fn Ow} : sRet f ρ = kV (f ρ) fun o ρ => some (.rt o ρ) := rfl
theorem e_sretN : sRetN ρ = some (.rt (.f .non) ρ) := rfl
theorem e_expr {f : Fn Ow} : sExpr f ρ = kV (f ρ) fun _ ρ => some (.nx ρ) := rfl
theorem e_if {t : Fn Bool} : sIf t g h ρ = kV (t ρ) fun b ρ => if b = true then g ρ else h ρ := by
  show kV (t ρ) _ = _
  congr 1
  funext b ρ
  cases b <;> rfl
theorem e_set {i : Nat} {f : Fn Ow} : sSet i f ρ = kV (f ρ) fun o ρ => if i < ρ.length then some (.nx (ρ.set i o)) else none := by
  show kV (f ρ) _ = _
  congr 1
  funext o ρ
  unfold setO
  split <;> rfl
theorem e_par {i j : Nat} {fa fb : Fn Ow} : sPar i j fa fb ρ = kV (kB (fa ρ) fun x => fun ρ => kB (fb ρ) fun y => fun ρ => some (.ok (x, y) ρ)) fun xy ρ => if i < ρ.length ∧ j < ρ.length then some (.nx ((ρ.set i xy.1).set j xy.2)) else none := by
  show kV _ _ = _
  congr 1
  funext xy ρ
  unfold setO
  by_cases h1 : i < ρ.length <;> by_cases h2 : j < ρ.length <;> simp [h1, h2]
def kP3 (i j l : Nat) (xs : List Ow) (ρ : Ev) : Option So := match xs with
  | [x, y, z] => (((setO i x ρ).bind (setO j y)).bind (setO l z)).map So.nx
  | _ => none
theorem e_par3 {i j l : Nat} {fa fb fc : Fn Ow} : sPar3 i j l fa fb fc ρ = kV (xA1 fa (xA1 fb (xA1 fc xA0)) ρ) fun xs ρ => kP3 i j l xs ρ := rfl
theorem kP3_3 {i j l : Nat} {x y z : Ow} : kP3 i j l [x, y, z] ρ = if i < ρ.length ∧ j < ρ.length ∧ l < ρ.length then some (.nx (((ρ.set i x).set j y).set l z)) else none := by
  show (((setO i x ρ).bind (setO j y)).bind (setO l z)).map So.nx = _
  unfold setO
  by_cases h1 : i < ρ.length <;> by_cases h2 : j < ρ.length <;> by_cases h3 : l < ρ.length <;> simp [h1, h2, h3]
def kTg (gf : GF) (o : Ow) (ρ : Ev) : Option So := match frz o with
  | some d => (gf d ρ).map So.nx
  | none => none
theorem e_tgt {gf : GF} {f : Fn Ow} : sTgt gf f ρ = kV (f ρ) fun o ρ => kTg gf o ρ := rfl
theorem kTg_f {gf : GF} {x : Dt} : kTg gf (.f x) ρ = (gf x ρ).map So.nx := rfl
theorem kTg_n {gf : GF} {kd : Kd} {x : Dt} (h : frz (.n kd os) = some x) : kTg gf (.n kd os) ρ = (gf x ρ).map So.nx := by unfold kTg; rw [h]
theorem e_gN {i : Nat} {d : Dt} : gN i d ρ = if i < ρ.length then some (ρ.set i (.f d)) else none := rfl
theorem e_gT {gs : List Dt → Ev → Option Ev} {ds : List Dt} : gT gs (.tup ds) ρ = gs ds ρ := rfl
theorem e_gs0 : gs0 [] ρ = some ρ := rfl
theorem e_gs1 {gf : GF} {gs : List Dt → Ev → Option Ev} {x : Dt} {ds : List Dt} : gs1 gf gs (x :: ds) ρ = (gf x ρ).bind (gs ds) := rfl
def kAg (i : Nat) (B : Int → Int → Int) (m : Int) (o : Ow) (ρ : Ev) : Option So := match o with
  | .f (.int n) => (setO i (.f (.int (B m n))) ρ).map So.nx
  | _ => none
theorem e_aug {i : Nat} {B : Int → Int → Int} {f : Fn Ow} {m : Int} (h : ρ[i]? = some (.f (.int m))) : sAug i B f ρ = kV (f ρ) fun o ρ => kAg i B m o ρ := by
  unfold sAug
  rw [h]
  rfl
theorem kAg_i {i : Nat} {B : Int → Int → Int} {m n : Int} : kAg i B m (.f (.int n)) ρ = if i < ρ.length then some (.nx (ρ.set i (.f (.int (B m n))))) else none := by
  show (setO i _ ρ).map _ = _
  unfold setO
  split <;> rfl
def kAp (i : Nat) (o : Ow) (ρ1 : Ev) : Option So := match ρ1[i]? with
  | some (.n .lst os) => if os.length < LIM then some (.nx (ρ1.set i (.l (os ++ [o])))) else none
  | _ => none
theorem e_app {i : Nat} {f : Fn Ow} (h : ρ[i]? = some (.n .lst os)) : sApp i f ρ = kV (f ρ) fun o ρ1 => kAp i o ρ1 := by
  unfold sApp
  rw [h]
  rfl
theorem kAp_l {i : Nat} (h : ρ[i]? = some (.n .lst os)) : kAp i o ρ = if os.length < LIM then some (.nx (ρ.set i (.n .lst (os ++ [o])))) else none := by
  unfold kAp
  rw [h]
def kIt (p : Ev → Option (Nat × List Nat)) (q : Ev → Option Dt) (x : Ow) (ρ : Ev) : Option So := match p ρ, q ρ with
  | some (i, π), some (.int k) => match getE ρ i π with
    | some (.n .lst os) => match L2.ixN os.length k with
      | some j => some (.nx (setE ρ i π (.l (os.set j x))))
      | none => none
    | _ => none
  | _, _ => none
theorem e_item {p : Ev → Option (Nat × List Nat)} {q : Ev → Option Dt} {f : Fn Ow} : sItem p q f ρ = kV (f ρ) fun x ρ => kIt p q x ρ := rfl
theorem kIt_l {p : Ev → Option (Nat × List Nat)} {q : Ev → Option Dt} {x : Ow} {i j : Nat} {π : List Nat} {k : Int} (h1 : p ρ = some (i, π)) (h2 : q ρ = some (.int k)) (h3 : getE ρ i π = some (.n .lst os)) (h4 : L2.ixN os.length k = some j) : kIt p q x ρ = some (.nx (setE ρ i π (.n .lst (os.set j x)))) := by
  unfold kIt
  simp only [h1, h2, h3, h4]
theorem e_for {fi : Fn (List Dt)} {gf : GF} : sFor fi gf g ρ = kV (fi ρ) fun ds => forL gf g ds := rfl
theorem e_forN {gf : GF} : forL gf g [] ρ = some (.nx ρ) := rfl
theorem e_fn {b : SF} : fnOf nv io b os = kF io (b (os ++ List.replicate (nv - os.length) .no)) := rfl
theorem kF_n : kF io none = none := rfl
theorem kF_nx : kF io (some (.nx ρ)) = some (.rt (.f .non) (outs io ρ)) := rfl
theorem kF_rt : kF io (some (.rt o ρ)) = some (.rt o (outs io ρ)) := rfl
theorem kF_ex : kF io (some (.ex c d ρ)) = some (.ex c d (outs io ρ)) := rfl
theorem kF_i {p : Prop} [Decidable p] {x y : Option So} : kF io (if p then x else y) = if p then kF io x else kF io y := by split <;> rfl
theorem e_outs0 : outs [] ρ = [] := rfl
theorem e_outsT {b : List Bool} : outs (true :: b) (o :: ρ) = o :: outs b ρ := rfl
theorem e_outsF {b : List Bool} : outs (false :: b) (o :: ρ) = .no :: outs b ρ := rfl
/-! expressions -/
theorem e_K {x : Dt} : xK x ρ = some (.ok (.f x) ρ) := rfl
theorem e_Vf {i : Nat} {x : Dt} (h : ρ[i]? = some (.f x)) : xV i ρ = some (.ok (.f x) ρ) := by unfold xV; rw [h]
theorem e_Vn {i : Nat} {kd : Kd} {x : Dt} (h : ρ[i]? = some (.n kd os)) (hf : frz (.n kd os) = some x) : xV i ρ = some (.ok (.f x) (ρ.set i (.f x))) := by unfold xV; rw [h]; simp only [hf]
theorem e_Mf {i : Nat} {x : Dt} (h : ρ[i]? = some (.f x)) : xM i ρ = some (.ok (.f x) ρ) := by unfold xM; rw [h]
theorem e_Mn {i : Nat} {kd : Kd} (h : ρ[i]? = some (.n kd os)) : xM i ρ = some (.ok (.n kd os) (ρ.set i .no)) := by unfold xM; rw [h]
theorem e_bin {B : Ow → Ow → Option Ow} {fa fb : Fn Ow} : xBin B fa fb ρ = kB (fa ρ) fun x ρ => kB (fb ρ) fun y ρ => kO (B x y) ρ := rfl
theorem e_un {B : Ow → Option Ow} {fa : Fn Ow} : xUn B fa ρ = kB (fa ρ) fun x ρ => kO (B x) ρ := rfl
theorem e_A0 : xA0 ρ = some (.ok [] ρ) := rfl
theorem e_A1 {fa : Fn Ow} {fs : Fn (List Ow)} : xA1 fa fs ρ = kB (fa ρ) fun o ρ => kB (fs ρ) fun os ρ => some (.ok (o :: os) ρ) := rfl
theorem e_lst {fs : Fn (List Ow)} : xLst fs ρ = kB (fs ρ) fun os ρ => if os.length ≤ LIM then some (.ok (.n .lst os) ρ) else none := by
  show kB _ _ = _
  congr 1
  funext os ρ
  show kO _ _ = _
  split <;> rfl
theorem e_tup {fs : Fn (List Ow)} : xTup fs ρ = kB (fs ρ) fun os ρ => if os.length ≤ LIM then kO ((frzs os).map fun ds => .f (.tup ds)) ρ else none := by
  show kB _ _ = _
  congr 1
  funext os ρ
  show kO _ _ = _
  split <;> rfl
theorem e_C {B : List Ow → Option Ow} {fs : Fn (List Ow)} : xC B fs ρ = kB (fs ρ) fun os ρ => kO (B os) ρ := rfl
def kT (o : Ow) (ρ : Ev) : Option (Rs Bool) := kO (match o with
  | .f (.bl b) => some b
  | _ => none) ρ
theorem e_tV {f : Fn Ow} : tV f ρ = kB (f ρ) fun o ρ => kT o ρ := rfl
theorem kT_b {b : Bool} : kT (.f (.bl b)) ρ = some (.ok b ρ) := rfl
theorem e_tAnd {s t : Fn Bool} : tAnd s t ρ = kB (s ρ) fun b ρ => if b = true then t ρ else some (.ok false ρ) := by
  show kB _ _ = _
  congr 1
  funext b ρ
  cases b <;> rfl
theorem e_tOr {s t : Fn Bool} : OW.tOr s t ρ = kB (s ρ) fun b ρ => if b = true then some (.ok true ρ) else t ρ := by
  show kB _ _ = _
  congr 1
  funext b ρ
  cases b <;> rfl
theorem e_tNot {s : Fn Bool} : OW.tNot s ρ = kB (s ρ) fun b ρ => some (.ok (!b) ρ) := rfl
def kNt (o : Ow) (ρ : Ev) : Option (Rs Ow) := kO (match o with
  | .f (.bl b) => some (.f (.bl (!b)))
  | _ => none) ρ
theorem e_xNot {f : Fn Ow} : xNot f ρ = kB (f ρ) fun o ρ => kNt o ρ := rfl
theorem kNt_b {b : Bool} : kNt (.f (.bl b)) ρ = some (.ok (.f (.bl (!b))) ρ) := rfl
def kAn (f2 : Fn Ow) (o : Ow) : Fn Ow := match o with
  | .f (.bl true) => f2
  | .f (.bl false) => OW.ret (.f (.bl false))
  | _ => fun _ => none
theorem e_xAnd {f f2 : Fn Ow} : xAnd f f2 ρ = kB (f ρ) fun o ρ => kAn f2 o ρ := rfl
theorem kAn_b {f2 : Fn Ow} {b : Bool} : kAn f2 (.f (.bl b)) ρ = if b = true then f2 ρ else some (.ok (.f (.bl false)) ρ) := by cases b <;> rfl
def kOr (f2 : Fn Ow) (o : Ow) : Fn Ow := match o with
  | .f (.bl true) => OW.ret (.f (.bl true))
  | .f (.bl false) => f2
  | _ => fun _ => none
theorem e_xOr {f f2 : Fn Ow} : xOr f f2 ρ = kB (f ρ) fun o ρ => kOr f2 o ρ := rfl
theorem kOr_b {f2 : Fn Ow} {b : Bool} : kOr f2 (.f (.bl b)) ρ = if b = true then some (.ok (.f (.bl true)) ρ) else f2 ρ := by cases b <;> rfl
theorem e_xIf {t : Fn Bool} {f f2 : Fn Ow} : xIf t f f2 ρ = kB (t ρ) fun b ρ => if b = true then f ρ else f2 ρ := by
  show kB _ _ = _
  congr 1
  funext b ρ
  cases b <;> rfl
def kCz (q : Int → Int → Bool) (j : Int) (z : Ow) (ρ : Ev) : Option (Rs Ow) := kO (match z with
  | .f (.int l) => some (.f (.bl (q j l)))
  | _ => none) ρ
def kCh (p q : Int → Int → Bool) (f3 : Fn Ow) (x y : Ow) : Fn Ow := match x, y with
  | .f (.int i), .f (.int j) => if p i j then bnd f3 fun z => OW.opt (match z with
    | .f (.int l) => some (.f (.bl (q j l)))
    | _ => none) else OW.ret (.f (.bl false))
  | _, _ => fun _ => none
theorem e_ch {p q : Int → Int → Bool} {f f2 f3 : Fn Ow} : xCh p q f f2 f3 ρ = kB (f ρ) fun x ρ => kB (f2 ρ) fun y ρ => kCh p q f3 x y ρ := rfl
theorem kCh_i {p q : Int → Int → Bool} {f3 : Fn Ow} {i j : Int} : kCh p q f3 (.f (.int i)) (.f (.int j)) ρ = if p i j = true then kB (f3 ρ) fun z ρ => kCz q j z ρ else some (.ok (.f (.bl false)) ρ) := by
  show (if p i j = true then _ else _ : Fn Ow) ρ = _
  split <;> rfl
theorem kCz_i {q : Int → Int → Bool} {j l : Int} : kCz q j (.f (.int l)) ρ = some (.ok (.f (.bl (q j l))) ρ) := rfl
theorem e_is {P : Dt → Bool} {f : Fn Ow} : xIs P f ρ = kB (f ρ) fun o ρ => kO (kIs P o) ρ := rfl
theorem e_Q {q : Ev → Option Dt} : xQ q ρ = kO ((q ρ).map .f) ρ := by
  unfold xQ kO
  cases q ρ <;> rfl
theorem e_Rg1 {f : Fn Ow} : xRg1 f ρ = kB (f ρ) fun o ρ => kO (kRg1 o) ρ := rfl
theorem e_Rg2 {f f2 : Fn Ow} : xRg2 f f2 ρ = kB (f ρ) fun o ρ => kB (f2 ρ) fun q ρ => kO (kRg2 o q) ρ := rfl
def kSl (lo hi : Fn (Option Int)) (o : Ow) : Fn Ow := match frz o with
  | some d => bnd lo fun l => bnd hi fun h => OW.opt (bSl (.f d) l h)
  | none => fun _ => none
theorem e_Sl {f : Fn Ow} {lo hi : Fn (Option Int)} : xSl f lo hi ρ = kB (f ρ) fun o ρ => kSl lo hi o ρ := rfl
theorem kSl_f {lo hi : Fn (Option Int)} {x : Dt} : kSl lo hi (.f x) ρ = kB (lo ρ) fun l ρ => kB (hi ρ) fun h ρ => kO (bSl (.f x) l h) ρ := rfl
theorem kSl_n {lo hi : Fn (Option Int)} {kd : Kd} {x : Dt} (h : frz (.n kd os) = some x) : kSl lo hi (.n kd os) ρ = kB (lo ρ) fun l ρ => kB (hi ρ) fun h ρ => kO (bSl (.f x) l h) ρ := by unfold kSl; rw [h]; rfl
theorem e_oN : oN ρ = some (.ok none ρ) := rfl
theorem e_oS {f : Fn Ow} : oS f ρ = kB (f ρ) fun o ρ => kO (partI o) ρ := rfl
/-! calls -/
theorem e_call {fs : Fn (List Ar)} : xCall n fn fs ρ = kB (fs ρ) fun as ρ => app n fn as ρ := rfl
theorem e_apply {ρ1 : Ev} (h : takeA as ρ = some (os, ρ1)) (hn : os.length = n) : app n fn as ρ = kA as ρ1 (fn os) := by
  unfold app
  rw [h]
  simp only
  rw [if_pos hn]
  rfl
theorem kA_rt : kA as ρ (some (.rt o ps)) = some (.ok o (putA as ps ρ)) := rfl
theorem kA_ex : kA as ρ (some (.ex c d ps)) = some (.ex c d (putA as ps ρ)) := rfl
theorem kA_n : kA as ρ none = none := rfl
theorem kA_i {p : Prop} [Decidable p] {x y : Option Fr} : kA as ρ (if p then x else y) = if p then kA as ρ x else kA as ρ y := by split <;> rfl
theorem e_R0 : xR0 ρ = some (.ok [] ρ) := rfl
theorem e_Rv {f : Fn Ow} {fs : Fn (List Ar)} : xRv f fs ρ = kB (f ρ) fun o ρ => kB (fs ρ) fun as ρ => some (.ok (.v o :: as) ρ) := rfl
theorem e_Ri {i : Nat} {fs : Fn (List Ar)} (h : ρ[i]? = some o) (hn : o ≠ .no) : xRi i fs ρ = kB (fs ρ) fun as ρ => some (.ok (.io i :: as) ρ) := by
  unfold xRi
  rw [h]
  cases o with
  | no => exact (hn rfl).elim
  | f _ => rfl
  | n _ _ => rfl
def kCK (n m : Nat) (π : List Nat) (fn : FO) (os : List Ow) : Fn Ow := match frzs os with
  | some ds => if ds.length = m then app n fn ((DL.perm π ds).map fun d => .v (.f d)) else fun _ => none
  | none => fun _ => none
theorem e_callK {m : Nat} {π : List Nat} {fs : Fn (List Ow)} : xCallK n m π fn fs ρ = kB (fs ρ) fun os ρ => kCK n m π fn os ρ := rfl
theorem kCK_f {m : Nat} {π : List Nat} {ds : List Dt} (h : frzs os = some ds) (hl : ds.length = m) : kCK n m π fn os ρ = app n fn ((DL.perm π ds).map fun d => .v (.f d)) ρ := by
  unfold kCK
  rw [h]
  simp only
  rw [if_pos hl]
theorem e_take0 : takeA [] ρ = some ([], ρ) := rfl
theorem e_takeV : takeA (.v o :: as) ρ = (takeA as ρ).map fun r => (o :: r.1, r.2) := rfl
theorem e_takeI {i : Nat} (h : ρ[i]? = some o) (hn : o ≠ .no) : takeA (.io i :: as) ρ = (takeA as (ρ.set i .no)).map fun r => (o :: r.1, r.2) := by
  conv => lhs; unfold takeA
  rw [h]
  cases o with
  | no => exact (hn rfl).elim
  | f _ => rfl
  | n _ _ => rfl
theorem e_put0 : putA [] ps ρ = ρ := by cases ps <;> rfl
theorem e_putV {p : Ow} : putA (.v o :: as) (p :: ps) ρ = putA as ps ρ := rfl
theorem e_putI {p : Ow} {i : Nat} : putA (.io i :: as) (p :: ps) ρ = putA as ps (ρ.set i p) := rfl
theorem fz_f {x : Dt} : frz (.f x) = some x := rfl
theorem fz_l : frz (.n .lst os) = (frzs os).map .lst := by unfold frz; rfl
theorem fzs_0 : frzs [] = some [] := rfl
theorem fzs_1 {x : Dt} : frzs (.f x :: os) = (frzs os).map fun ds => x :: ds := by
  conv => lhs; unfold frzs
  rw [fz_f]
  cases frzs os <;> rfl
theorem fzs_map {ds : List Dt} : frzs (ds.map .f) = some ds := by
  induction ds with
  | nil => rfl
  | cons d ds ih => rw [List.map_cons, fzs_1, ih]; rfl
theorem fzs_mapI {ns : List Int} : frzs (ns.map fun n => .f (.int n)) = some (ns.map .int) := by
  have e : (ns.map fun n => Ow.f (.int n)) = (ns.map Dt.int).map .f := by rw [List.map_map]; rfl
  rw [e, fzs_map]
theorem fzs_1l {xs : List Ow} {a b : List Dt} (h1 : frzs xs = some a) (h2 : frzs os = some b) : frzs (.n .lst xs :: os) = some (.lst a :: b) := by
  conv => lhs; unfold frzs
  rw [fz_l, h1, h2]
  rfl
theorem e_b1 {B : Dt → Option Ow} {x : Dt} : oB1 B (.f x) = B x := rfl
theorem e_b2 {B : Dt → Dt → Option Ow} {x y : Dt} : oB2 B (.f x) (.f y) = B x y := rfl
theorem e_b2g {B : Dt → Dt → Option Ow} {x y : Ow} {a b : Dt} (h1 : frz x = some a) (h2 : frz y = some b) : oB2 B x y = B a b := by
  unfold oB2
  rw [h1, h2]
theorem e_bs {B : List Dt → Option Ow} {ds : List Dt} (h : frzs os = some ds) : oBs B os = B ds := by
  unfold oBs
  rw [h]
theorem e_getE0 {i : Nat} (h : ρ[i]? = some o) : getE ρ i [] = some o := getE_nil h
theorem e_setE0 {i : Nat} {x : Ow} (h : ρ[i]? = some o) : setE ρ i [] x = ρ.set i x := setE_nil h
end
end OW
/-! what is wanted behind statements: a calculus over the functions of defs -/
namespace OW
open DL (Dt)
structure Po where
  N : Ev → Prop
  R : Ow → Ev → Prop
  B : Ev → Prop := fun _ => False
  C : Ev → Prop := fun _ => False
  E : PySem.Str → Option (PySem.Str × Dt) → Ev → Prop := fun _ _ _ => False
def wp (x : Option So) (P : Po) : Prop := match x with
  | some (.nx ρ) => P.N ρ
  | some (.rt o ρ) => P.R o ρ
  | some (.bk ρ) => P.B ρ
  | some (.ct ρ) => P.C ρ
  | some (.ex c d ρ) => P.E c d ρ
  | none => False
section
variable {α β : Type} {f : Fn α} {k : α → Fn β} {kv : α → SF} {ρ ρ1 : Ev} {a : α} {c : PySem.Str} {d : Option (PySem.Str × Dt)} {g h b : SF} {o : Ow} {os ps : List Ow} {io : List Bool} {as : List Ar} {fn : FO} {n nv : Nat} {P : Po} {gf : GF} {ds : List Dt}
/-- for: an invariant by the turn -/
theorem w_for (Pv : Nat → Ev → Prop) (h0 : Pv 0 ρ) (hs : ∀ j d ρ, ds[j]? = some d → Pv j ρ → ∃ ρ1, gf d ρ = some ρ1 ∧ wp (b ρ1) { P with N := Pv (j + 1), C := Pv (j + 1), B := P.N }) (hd : ∀ ρ, Pv ds.length ρ → P.N ρ) : wp (forL gf b ds ρ) P := by
  have main : ∀ (l : List Dt) (j : Nat) (ρ : Ev), ds.drop j = l → j ≤ ds.length → Pv j ρ → wp (forL gf b l ρ) P := by
    intro l
    induction l with
    | nil =>
      intro j ρ e hj hp
      have : j = ds.length := by
        have := congrArg List.length e
        simp at this
        omega
      subst this
      exact hd ρ hp
    | cons d l ih =>
      intro j ρ e hj hp
      have hjl : j < ds.length := by
        by_cases h : j < ds.length
        · exact h
        · rw [List.drop_eq_nil_of_le (by omega)] at e
          cases e
      have hd' : ds[j]? = some d := by
        rw [List.drop_eq_getElem_cons hjl] at e
        cases e
        exact List.getElem?_eq_getElem hjl
      have hl : ds.drop (j + 1) = l := by
        rw [List.drop_eq_getElem_cons hjl] at e
        cases e
        rfl
      obtain ⟨ρ1, e1, w1⟩ := hs j d ρ hd' hp
      unfold forL
      rw [e1]
      cases eb : b ρ1 with
      | none => simp only [eb]; rw [eb] at w1; exact w1.elim
      | some r =>
        simp only [eb]
        rw [eb] at w1
        cases r with
        | nx ρ2 => exact ih (j + 1) ρ2 hl (by omega) w1
        | ct ρ2 => exact ih (j + 1) ρ2 hl (by omega) w1
        | bk ρ2 => exact w1
        | rt o ρ2 => exact w1
        | ex c d ρ2 => exact w1
  exact main ds 0 ρ rfl (Nat.zero_le _) h0
end
/-! comprehensions that leave the slots as they are -/
theorem iL_f {f : Fn Ow} {ρ ρ1 : Ev} {ds : List Dt} (h : f ρ = some (.ok (.f (.lst ds)) ρ1)) : iL f ρ = some (.ok ds ρ1) := by
  unfold iL
  rw [e_bnd, h, kB_o]
  rfl
theorem iR1_f {f : Fn Ow} {ρ ρ1 : Ev} {n : Int} (h : f ρ = some (.ok (.f (.int n)) ρ1)) : iR1 f ρ = some (.ok ((DL.rng 0 n.toNat).map .int) ρ1) := by
  unfold iR1
  rw [e_bnd, h, kB_o]
  rfl
theorem iR2_f {f f2 : Fn Ow} {ρ ρ1 ρ2 : Ev} {m n : Int} (h : f ρ = some (.ok (.f (.int m)) ρ1)) (h2 : f2 ρ1 = some (.ok (.f (.int n)) ρ2)) : iR2 f f2 ρ = some (.ok ((DL.rng m (n - m).toNat).map .int) ρ2) := by
  unfold iR2
  rw [e_bnd, h, kB_o, e_bnd, h2, kB_o]
  rfl
theorem iE_f {f : Fn Ow} {ρ ρ1 : Ev} {o : Ow} {ds : List Dt} (h : f ρ = some (.ok o ρ1)) (hf : frz o = some (.lst ds)) : iE f ρ = some (.ok (DL.enum ds) ρ1) := by
  unfold iE
  rw [e_bnd, h, kB_o]
  show kO (match frz _ with | some (.lst ds) => some (DL.enum ds) | _ => none) ρ1 = _
  rw [hf]
  rfl
theorem iZ_f {f f2 : Fn Ow} {ρ ρ1 ρ2 : Ev} {o o2 : Ow} {ds es : List Dt} (h : f ρ = some (.ok o ρ1)) (h2 : f2 ρ1 = some (.ok o2 ρ2)) (hf : frz o = some (.lst ds)) (hf2 : frz o2 = some (.lst es)) : iZ f f2 ρ = some (.ok (DL.zip2 ds es) ρ2) := by
  unfold iZ
  rw [e_bnd, h, kB_o, e_bnd, h2, kB_o]
  show kO (match frz _, frz _ with | some (.lst ds), some (.lst es) => some (DL.zip2 ds es) | _, _ => none) ρ2 = _
  rw [hf, hf2]
  rfl
end OW
/-! what built-in things come to, for simp; sizes of numbers by instances -/
namespace OW
open DL (Dt)
/-! ### sizes -/
class Sz (n : outParam Nat) (i : Int) : Prop where
  lt : i.natAbs < 2 ^ n
theorem Sz.up {n m : Nat} {i : Int} (h : Sz n i) (k : n ≤ m) : Sz m i := ⟨Nat.lt_of_lt_of_le h.lt (Nat.pow_le_pow_right (by decide) k)⟩
theorem Sz.of {n : Nat} {i j : Int} (h : Sz n j) (k : i.natAbs ≤ j.natAbs) : Sz n i := ⟨Nat.lt_of_le_of_lt k h.lt⟩
theorem two_pos (n : Nat) : 0 < 2 ^ n := Nat.pow_pos (by decide)
instance sz_lit (n : Nat) : Sz (n.log2 + 1) (no_index (OfNat.ofNat n : Int)) := ⟨by
  show (n : Int).natAbs < _
  rw [Int.natAbs_natCast]
  by_cases h : n = 0
  · subst h; decide
  · exact (Nat.log2_lt h).mp (Nat.lt_succ_self _)⟩
instance sz_neg {n : Nat} {i : Int} [h : Sz n i] : Sz n (-i) := ⟨by rw [Int.natAbs_neg]; exact h.lt⟩
instance sz_add {n m : Nat} {i j : Int} [h : Sz n i] [k : Sz m j] : Sz (n + m + 1) (i + j) := ⟨by
  have h1 := h.lt
  have h2 := k.lt
  have a := Int.natAbs_add_le i j
  have b1 : 2 ^ n ≤ 2 ^ (n + m) := Nat.pow_le_pow_right (by decide) (by omega)
  have b2 : 2 ^ m ≤ 2 ^ (n + m) := Nat.pow_le_pow_right (by decide) (by omega)
  rw [Nat.pow_succ]
  omega⟩
instance sz_sub {n m : Nat} {i j : Int} [h : Sz n i] [k : Sz m j] : Sz (n + m + 1) (i - j) := by
  rw [Int.sub_eq_add_neg]
  infer_instance
instance sz_mul {n m : Nat} {i j : Int} [h : Sz n i] [k : Sz m j] : Sz (n + m) (i * j) := ⟨by
  rw [Int.natAbs_mul, Nat.pow_add]
  have h1 := h.lt
  have h2 := k.lt
  calc i.natAbs * j.natAbs ≤ i.natAbs * 2 ^ m := Nat.mul_le_mul_left _ (Nat.le_of_lt h2)
    _ < 2 ^ n * 2 ^ m := (Nat.mul_lt_mul_right (two_pos m)).mpr h1⟩
instance sz_div {n : Nat} {i j : Int} [h : Sz n i] : Sz (n + 1) (i / j) := ⟨by
  have h1 := h.lt
  have a : (i / j).natAbs ≤ i.natAbs + 1 := by
    have := Int.natAbs_ediv_le_natAbs i j
    omega
  have b := two_pos n
  rw [Nat.pow_succ]
  omega⟩
instance sz_mod {n m : Nat} {i j : Int} [h : Sz n i] [k : Sz m j] : Sz (n + m + 1) (i % j) := ⟨by
  have h1 := h.lt
  have h2 := k.lt
  have b1 : 2 ^ n ≤ 2 ^ (n + m) := Nat.pow_le_pow_right (by decide) (by omega)
  have b2 : 2 ^ m ≤ 2 ^ (n + m) := Nat.pow_le_pow_right (by decide) (by omega)
  rw [Nat.pow_succ]
  by_cases h0 : j = 0
  · subst h0
    rw [Int.emod_zero]
    omega
  · have c1 := Int.emod_nonneg i h0
    have c2 := Int.emod_lt i h0
    omega⟩
instance (priority := 2000) sz_modL {n : Nat} [h : NeZero n] {i : Int} : Sz (n.log2 + 1) (i % (no_index (OfNat.ofNat n : Int))) := ⟨by
  have h0 : n ≠ 0 := h.out
  have l := (Nat.log2_lt h0).mp (Nat.lt_succ_self _)
  have h0' : (n : Int) ≠ 0 := by omega
  have c1 := Int.emod_nonneg i h0'
  have c2 := Int.emod_lt i h0'
  show (i % (n : Int)).natAbs < _
  omega⟩
instance sz_max {n m : Nat} {i j : Int} [h : Sz n i] [k : Sz m j] : Sz (n + m) (max i j) := ⟨by
  have h1 := h.lt
  have h2 := k.lt
  have b1 : 2 ^ n ≤ 2 ^ (n + m) := Nat.pow_le_pow_right (by decide) (by omega)
  have b2 : 2 ^ m ≤ 2 ^ (n + m) := Nat.pow_le_pow_right (by decide) (by omega)
  omega⟩
instance sz_min {n m : Nat} {i j : Int} [h : Sz n i] [k : Sz m j] : Sz (n + m) (min i j) := ⟨by
  have h1 := h.lt
  have h2 := k.lt
  have b1 : 2 ^ n ≤ 2 ^ (n + m) := Nat.pow_le_pow_right (by decide) (by omega)
  have b2 : 2 ^ m ≤ 2 ^ (n + m) := Nat.pow_le_pow_right (by decide) (by omega)
  omega⟩
instance sz_abs {n : Nat} {i : Int} [h : Sz n i] : Sz n (i.natAbs : Int) := ⟨by rw [Int.natAbs_natCast]; exact h.lt⟩
instance sz_ite {n m : Nat} {p : Prop} [Decidable p] {i j : Int} [h : Sz n i] [k : Sz m j] : Sz (n + m) (if p then i else j) := by
  split
  · exact h.up (by omega)
  · exact k.up (by omega)
instance sz_pow {n k : Nat} {i : Int} [h : Sz n i] : Sz (n * k + 1) (i ^ k) := ⟨by
  have h1 := h.lt
  rw [Int.natAbs_pow, Nat.pow_succ, Nat.pow_mul]
  have a : i.natAbs ^ k ≤ (2 ^ n) ^ k := Nat.pow_le_pow_left (Nat.le_of_lt h1) k
  have b : 0 < (2 ^ n) ^ k := Nat.pow_pos (two_pos n)
  omega⟩
theorem bn_sz {n : Nat} {i : Int} [h : Sz n i] (k : n ≤ 3900) : Bn i = true := by
  unfold Bn
  rw [decide_eq_true_eq]
  by_cases h0 : i.natAbs = 0
  · rw [h0]; decide
  · have a := (Nat.log2_lt h0).mpr h.lt
    omega
theorem v_bn {n : Nat} {i : Int} [h : Sz n i] (k : n ≤ 3900) : Bn i = true := bn_sz k
theorem sz_of {n : Nat} {i : Int} (h1 : -(2 ^ n) < i) (h2 : i < 2 ^ n) : Sz n i := ⟨by
  have e : ((2 ^ n : Nat) : Int) = 2 ^ n := by norm_cast
  omega⟩
section
variable {ρ : Ev} {os ps : List Ow} {i j k : Int} {ds es : List Dt} {d e : Dt} {x y : Ow} {n : Nat} {kd : Kd}
/-! ### arithmetic -/
theorem v_add : bAdd (.f (.int i)) (.f (.int j)) = some (.f (.int (i + j))) := rfl
theorem v_sub : bSub (.f (.int i)) (.f (.int j)) = some (.f (.int (i - j))) := rfl
theorem v_mul (h1 : Bn i = true) (h2 : Bn j = true) : bMul (.f (.int i)) (.f (.int j)) = some (.f (.int (i * j))) := by
  show (if _ then _ else _) = _
  rw [if_pos ⟨h1, h2⟩]
theorem v_div (h : 0 < j) (h2 : Bn j = true) : bDiv (.f (.int i)) (.f (.int j)) = some (.f (.int (i / j))) := by
  show (if _ then _ else _) = _
  rw [if_pos ⟨h, h2⟩]
theorem v_mod (h : 0 < j) : bMod (.f (.int i)) (.f (.int j)) = some (.f (.int (i % j))) := by
  show (if _ then _ else _) = _
  rw [if_pos h]
theorem v_pow (h1 : Bn i = true) (h2 : 0 ≤ j) (h3 : j ≤ 1000) : bPow (.f (.int i)) (.f (.int j)) = some (.f (.int (i ^ j.toNat))) := by
  show (if _ then _ else _) = _
  rw [if_pos ⟨h1, h2, h3⟩]
theorem v_neg : bNeg (.f (.int i)) = some (.f (.int (-i))) := rfl
theorem v_catNN (h : os.length + ps.length ≤ LIM) : bAdd (.n .lst os) (.n .lst ps) = some (.n .lst (os ++ ps)) := by
  simp [bAdd, bLists, its, h]
theorem v_catFN (h : ds.length + ps.length ≤ LIM) : bAdd (.f (.lst ds)) (.n .lst ps) = some (.n .lst (ds.map .f ++ ps)) := by
  simp [bAdd, bLists, its, h]
theorem v_catNF (h : os.length + ds.length ≤ LIM) : bAdd (.n .lst os) (.f (.lst ds)) = some (.n .lst (os ++ ds.map .f)) := by
  simp [bAdd, bLists, its, h]
theorem v_catFF (h : ds.length + es.length ≤ LIM) : bAdd (.f (.lst ds)) (.f (.lst es)) = some (.n .lst (ds.map .f ++ es.map .f)) := by
  simp [bAdd, bLists, its, h]
theorem v_rep (hf : frzs os = some ds) (h : j ≤ LIM ∧ -LIM ≤ j ∧ ds.length * j.toNat ≤ LIM) : bMul (.n .lst os) (.f (.int j)) = some (.n .lst ((List.replicate j.toNat ds).flatten.map .f)) := by
  simp [bMul, bRep, hf, h]
/-! ### comparisons -/
theorem v_lt : cLt (.f (.int i)) (.f (.int j)) = some (.f (.bl (decide (i < j)))) := rfl
theorem v_le : cLe (.f (.int i)) (.f (.int j)) = some (.f (.bl (decide (i ≤ j)))) := rfl
theorem v_gt : cGt (.f (.int i)) (.f (.int j)) = some (.f (.bl (decide (j < i)))) := rfl
theorem v_ge : cGe (.f (.int i)) (.f (.int j)) = some (.f (.bl (decide (j ≤ i)))) := rfl
theorem v_is : cIs (.f d) (.f .non) = some (.f (.bl d.isNon)) := rfl
theorem v_isN : cIsN (.f d) (.f .non) = some (.f (.bl (!d.isNon))) := rfl
theorem v_isO (h : frz x = some d) : cIs x (.f .non) = some (.f (.bl d.isNon)) := by
  unfold cIs oB2
  rw [h]
  rfl
theorem v_isNO (h : frz x = some d) : cIsN x (.f .non) = some (.f (.bl (!d.isNon))) := by
  unfold cIsN oB2
  rw [h]
  rfl
theorem v_non : (Dt.non).isNon = true := rfl
theorem v_nonI : (Dt.int i).isNon = false := rfl
theorem v_nonL : (Dt.lst ds).isNon = false := rfl
theorem v_nonT : (Dt.tup ds).isNon = false := rfl
theorem v_nonB {b : Bool} : (Dt.bl b).isNon = false := rfl
theorem ok_int : eqOk (.int i) = true := by simp [eqOk, Dt.plain, DL.Dt.py, PySem.SeqAt.shaped, PySem.PyData.canLay0, PySem.PyData.depth]
theorem v_eqI : cEq (.f (.int i)) (.f (.int j)) = some (.f (.bl (decide (i = j)))) := by
  unfold cEq
  rw [e_b2]
  simp only [ok_int, deq, DL.Dt.py, PySem.PyData.eqv, (show ∀ a b : Int, (a == b) = decide (a = b) from fun a b => rfl), and_self, if_true]
theorem v_neI : cNe (.f (.int i)) (.f (.int j)) = some (.f (.bl (!decide (i = j)))) := by
  unfold cNe
  rw [e_b2]
  simp only [ok_int, deq, DL.Dt.py, PySem.PyData.eqv, (show ∀ a b : Int, (a == b) = decide (a = b) from fun a b => rfl), and_self, if_true]
theorem v_eqS {a b : PySem.Str} : cEq (.f (.str a)) (.f (.str b)) = some (.f (.bl (decide (a = b)))) := rfl
theorem v_neS {a b : PySem.Str} : cNe (.f (.str a)) (.f (.str b)) = some (.f (.bl (!decide (a = b)))) := rfl
/-- what is the same is equal -/
theorem eq_same (h1 : frz x = some d) (h2 : frz y = some d) (h : d.Sm) (hd : d.dep ≤ 64) : cEq x y = some (.f (.bl true)) := by
  have ok : eqOk d = true := by unfold eqOk; rw [DL.sm_plain d h, DL.shaped_of h hd]; rfl
  have e : deq d d = true := DL.eqv_same h
  unfold cEq oB2
  rw [h1, h2]
  simp only
  split
  · rename_i a b e1
    cases e1
    rw [decide_eq_true rfl]
  · rw [if_pos ⟨ok, ok⟩, e]
theorem ne_same (h1 : frz x = some d) (h2 : frz y = some d) (h : d.Sm) (hd : d.dep ≤ 64) : cNe x y = some (.f (.bl false)) := by
  have ok : eqOk d = true := by unfold eqOk; rw [DL.sm_plain d h, DL.shaped_of h hd]; rfl
  have e : deq d d = true := DL.eqv_same h
  unfold cNe oB2
  rw [h1, h2]
  simp only
  split
  · rename_i a b e1
    cases e1
    rw [decide_eq_true rfl]
    rfl
  · rw [if_pos ⟨ok, ok⟩, e]
    rfl
/-! ### what is built in -/
theorem v_lenL : kLen [.lst ds] = some (.f (.int ds.length)) := rfl
theorem v_lenT : kLen [.tup ds] = some (.f (.int ds.length)) := rfl
theorem v_abs : kAbs [.int i] = some (.f (.int (i.natAbs : Int))) := rfl
theorem v_max2 : kMax [.int i, .int j] = some (.f (.int (max i j))) := rfl
theorem v_min2 : kMin [.int i, .int j] = some (.f (.int (min i j))) := rfl
theorem v_min3 : kMin [.int i, .int j, .int k] = some (.f (.int (min i (min j k)))) := rfl
theorem v_intsM {ns : List Int} : intsOf (ns.map .int) = some ns := intsOf_map ns
theorem v_ints0 : intsOf [] = some [] := rfl
theorem v_ints1 : intsOf (.int i :: ds) = (intsOf ds).map fun ns => i :: ns := by
  show (match intsOf ds with | some ns => _ | none => _) = _
  cases intsOf ds <;> rfl
theorem v_blsM {ns : List Bool} : blsOf (ns.map .bl) = some ns := blsOf_map ns
theorem v_blsF {α : Type} {p : α → Bool} {l : List α} : blsOf (l.map fun a => .bl (p a)) = some (l.map p) := by
  have := blsOf_map (l.map p)
  rw [List.map_map] at this
  exact this
theorem v_intsF {α : Type} {p : α → Int} {l : List α} : intsOf (l.map fun a => .int (p a)) = some (l.map p) := by
  have := intsOf_map (l.map p)
  rw [List.map_map] at this
  exact this
theorem v_maxL {ns : List Int} (h : intsOf ds = some ns) (h0 : ns ≠ []) : kMax [.lst ds] = some (.f (.int (gst ns))) := by
  show (match intsOf ds with | some ns => _ | none => _) = _
  rw [h]
  simp only [if_pos h0]
theorem v_minL {ns : List Int} (h : intsOf ds = some ns) (h0 : ns ≠ []) : kMin [.lst ds] = some (.f (.int (lst' ns))) := by
  show (match intsOf ds with | some ns => _ | none => _) = _
  rw [h]
  simp only [if_pos h0]
theorem v_sum {ns : List Int} (h : intsOf ds = some ns) : kSum [.lst ds] = some (.f (.int ns.sum)) := by
  show (match intsOf ds with | some ns => _ | none => _) = _
  rw [h]
theorem v_sort {ns : List Int} (h : intsOf ds = some ns) : kSort [.lst ds] = some (.n .lst ((srt ns).map fun n => .f (.int n))) := by
  show (match intsOf ds with | some ns => _ | none => _) = _
  rw [h]
theorem v_all {ns : List Bool} (h : blsOf ds = some ns) : kAll [.lst ds] = some (.f (.bl (ns.all id))) := by
  show (match blsOf ds with | some ns => _ | none => _) = _
  rw [h]
theorem v_any {ns : List Bool} (h : blsOf ds = some ns) : kAny [.lst ds] = some (.f (.bl (ns.any id))) := by
  show (match blsOf ds with | some ns => _ | none => _) = _
  rw [h]
theorem v_int : kInt [.int i] = some (.f (.int i)) := rfl
theorem v_intB {b : Bool} : kInt [.bl b] = some (.f (.int (if b then 1 else 0))) := rfl
theorem v_list : kList [.lst ds] = some (.n .lst (ds.map .f)) := rfl
theorem v_listT : kList [.tup ds] = some (.n .lst (ds.map .f)) := rfl
theorem v_tuple : kTuple [.lst ds] = some (.f (.tup ds)) := rfl
theorem v_kIsN {P : Dt → Bool} (h : frz x = some d) (h2 : d.ty ≠ "") : kIs P x = some (.f (.bl (P d))) := by unfold kIs; rw [h]; simp only [if_pos h2]
theorem v_kIsI {P : Dt → Bool} : kIs P (.f (.int i)) = some (.f (.bl (P (.int i)))) := v_kIsN rfl DL.tyI
theorem v_kIsL {P : Dt → Bool} : kIs P (.f (.lst ds)) = some (.f (.bl (P (.lst ds)))) := v_kIsN rfl DL.tyL
theorem v_kIsT {P : Dt → Bool} : kIs P (.f (.tup ds)) = some (.f (.bl (P (.tup ds)))) := v_kIsN rfl DL.tyT
theorem v_kIsB {P : Dt → Bool} {b : Bool} : kIs P (.f (.bl b)) = some (.f (.bl (P (.bl b)))) := v_kIsN rfl DL.tyB
theorem v_isInt : (Dt.int i).isInt = true := rfl
theorem v_isBool : (Dt.int i).isBool = false := rfl
theorem v_isLst : (Dt.lst ds).isLst = true := rfl
theorem v_isTup : (Dt.tup ds).isTup = true := rfl
theorem v_repr (h : d.fits = true) (hk : (∃ ds, d = .lst ds) ∨ ∃ ds, d = .tup ds) : kRepr [d] = some (.f (.str d.text)) := by
  rcases hk with ⟨ds, rfl⟩ | ⟨ds, rfl⟩
  · show (if Dt.fitsE _ then _ else _) = _
    rw [if_pos (DL.fits_E h)]
  · show (if Dt.fitsE _ then _ else _) = _
    rw [if_pos (DL.fits_E h)]
theorem v_reprE (h : d.fitsE = true) (hk : (∃ ds, d = .lst ds) ∨ ∃ ds, d = .tup ds) : kRepr [d] = some (.f (.str d.text)) := by
  rcases hk with ⟨ds, rfl⟩ | ⟨ds, rfl⟩
  · show (if Dt.fitsE _ then _ else _) = _
    rw [if_pos h]
  · show (if Dt.fitsE _ then _ else _) = _
    rw [if_pos h]
/-! ### items -/
theorem atI_nat {α : Type} {xs : List α} {i : Int} (h : 0 ≤ i) : L2.atI xs i = xs[i.toNat]? := by
  unfold L2.atI L2.ixN
  rw [if_pos h]
  by_cases hl : i < xs.length
  · rw [if_pos hl]; rfl
  · rw [if_neg hl, List.getElem?_eq_none (by omega)]; rfl
theorem v_at {α : Type} {xs : List α} {n : Nat} : L2.atI xs (n : Int) = xs[n]? := by rw [atI_nat (Int.natCast_nonneg n)]; rfl
theorem v_atL {α : Type} {xs : List α} {n : Nat} : L2.atI xs (no_index (OfNat.ofNat n : Int)) = xs[n]? := v_at
theorem v_atN {α : Type} {xs : List α} : L2.atI xs (-1) = xs[xs.length - 1]? := by
  unfold L2.atI L2.ixN
  rw [if_neg (by decide)]
  by_cases hl : xs.length = 0
  · rw [if_neg (by omega), List.getElem?_eq_none (by omega)]; rfl
  · rw [if_pos (by omega)]
    show xs[((-1 : Int) + xs.length).toNat]? = _
    have e : ((-1 : Int) + xs.length).toNat = xs.length - 1 := by omega
    rw [e]
theorem v_ixT : bIx (.f (.tup ds)) (.f (.int k)) = (L2.atI ds k).map .f := rfl
theorem v_ixL : bIx (.f (.lst ds)) (.f (.int k)) = (L2.atI ds k).map .f := rfl
theorem v_ixN (h : L2.atI os k = some x) (hn : x ≠ .no) : bIx (.n .lst os) (.f (.int k)) = some x := by
  show (match L2.atI os k with | some .no => none | r => r) = _
  rw [h]
  split
  · rename_i e
    cases e
    exact (hn rfl).elim
  · rfl
theorem e_qK {d : Dt} : qK d ρ = some d := rfl
theorem e_qV {n : Nat} (h : ρ[n]? = some (.f d)) : qV n ρ = some d := by unfold qV; rw [h]
/-! what simp finds step by step: each hypothesis tells one thing -/
def gKd : Ow → Option Kd
  | .n k _ => some k
  | _ => none
def gOs : Ow → Option (List Ow)
  | .n _ os => some os
  | _ => none
def gLs : Ow → Option (List Ow)
  | .n .lst os => some os
  | _ => none
def gDs : Dt → Option (List Dt)
  | .lst ds => some ds
  | .tup ds => some ds
  | _ => none
def gF : Ow → Option Dt
  | .f d => some d
  | _ => none
def gI : Dt → Option Int
  | .int i => some i
  | _ => none
theorem v_gKd : gKd (.n kd os) = some kd := rfl
theorem v_gOs : gOs (.n kd os) = some os := rfl
theorem v_gLs : gLs (.n .lst os) = some os := rfl
theorem v_gDs : gDs (.lst ds) = some ds := rfl
theorem v_gDsT : gDs (.tup ds) = some ds := rfl
theorem v_gF : gF (.f d) = some d := rfl
theorem v_gI : gI (.int i) = some i := rfl
def isN : Ow → Bool
  | .n _ _ => true
  | _ => false
theorem v_isNn : isN (.n kd os) = true := rfl
theorem isN_ex (h : isN x = true) : ∃ kd os, x = .n kd os := by
  cases x with
  | n k o => exact ⟨k, o, rfl⟩
  | no => cases h
  | f d => cases h
theorem e_Vn' {n : Nat} (h : ρ[n]? = some x) (h1 : isN x = true) (hf : frz x = some d) : xV n ρ = some (.ok (.f d) (ρ.set n (.f d))) := by
  obtain ⟨kd, os, rfl⟩ := isN_ex h1
  exact e_Vn h hf
theorem e_Mn' {n : Nat} (h : ρ[n]? = some x) (h1 : isN x = true) : xM n ρ = some (.ok x (ρ.set n .no)) := by
  obtain ⟨kd, os, rfl⟩ := isN_ex h1
  exact e_Mn h
def isNo : Ow → Bool
  | .no => true
  | _ => false
theorem v_isNo1 : isNo (.f d) = false := rfl
theorem v_isNo2 : isNo (.n kd os) = false := rfl
theorem e_pV {n : Nat} (h : ρ[n]? = some x) (h2 : isNo x = false) : pV n ρ = some (n, []) := by
  unfold pV
  rw [h]
  cases x with
  | no => cases h2
  | n k o => rfl
  | f d => rfl
theorem gI_eq (h : gI d = some i) : d = .int i := by
  cases d <;> cases h
  rfl
theorem gLs_eq (h : gLs x = some os) : x = .n .lst os := by
  cases x with
  | no => cases h
  | f d => cases h
  | n k o =>
    cases k <;> cases h
    rfl
theorem gF_eq (h : gF x = some d) : x = .f d := by
  cases x <;> cases h
  rfl
variable {p : Ev → Option (Nat × List Nat)} {q q2 : Ev → Option Dt} {r : Nat × List Nat}
theorem e_qIxF (h1 : p ρ = some r) (h0 : r.2 = []) (h2 : q ρ = some e) (h2' : gI e = some k) (h3 : ρ[r.1]? = some x) (h4 : gF x = some d) (h5 : gDs d = some ds) : qIx p q ρ = L2.atI ds k := by
  obtain ⟨n, π⟩ := r
  subst h0
  cases gI_eq h2'
  cases gF_eq h4
  have h3' : ρ[n]? = some (.f d) := h3
  unfold qIx
  cases d <;> cases h5
  · simp only [h1, h2, e_getE0 h3']
  · simp only [h1, h2, e_getE0 h3']
theorem e_qIxN (h1 : p ρ = some r) (h0 : r.2 = []) (h2 : q ρ = some e) (h2' : gI e = some k) (h3 : ρ[r.1]? = some x) (h3' : gLs x = some os) (h4 : L2.atI os k = some y) (h5 : gF y = some d) : qIx p q ρ = some d := by
  obtain ⟨n, π⟩ := r
  subst h0
  cases gI_eq h2'
  cases gLs_eq h3'
  cases gF_eq h5
  have h3' : ρ[n]? = some (.n .lst os) := h3
  unfold qIx
  simp only [h1, h2, e_getE0 h3', h4]
theorem e_qI (h1 : q ρ = some d) (h1' : gDs d = some ds) (h2 : q2 ρ = some e) (h2' : gI e = some k) : qI q q2 ρ = L2.atI ds k := by
  cases gI_eq h2'
  unfold qI
  cases d <;> cases h1'
  · simp only [h1, h2]
  · simp only [h1, h2]
theorem e_qB {B : Int → Int → Option Int} (h1 : q ρ = some d) (h1' : gI d = some i) (h2 : q2 ρ = some e) (h2' : gI e = some j) : qB B q q2 ρ = (B i j).map .int := by
  cases gI_eq h2'
  cases gI_eq h1'
  unfold qB
  simp only [h1, h2]
theorem e_get (h : qIx p q ρ = some d) : xGet p q ρ = some (.ok (.f d) ρ) := by
  unfold xGet
  simp only [h]
theorem kIt_l' {j : Nat} (h1 : p ρ = some r) (h0 : r.2 = []) (h2 : q ρ = some e) (h2' : gI e = some k) (h3 : ρ[r.1]? = some y) (h3' : gLs y = some os) (h4 : L2.ixN os.length k = some j) : kIt p q x ρ = some (.nx (ρ.set r.1 (.n .lst (os.set j x)))) := by
  obtain ⟨n, π⟩ := r
  subst h0
  cases gI_eq h2'
  cases gLs_eq h3'
  rw [kIt_l h1 h2 (e_getE0 h3) h4, e_setE0 h3]
theorem ixN_nat {n : Nat} {i : Int} (h : 0 ≤ i) (hl : i.toNat < n) : L2.ixN n i = some i.toNat := by
  unfold L2.ixN
  rw [if_pos h, if_pos (by omega)]
theorem v_ixLit {n m : Nat} (h : m < n) : L2.ixN n (no_index (OfNat.ofNat m : Int)) = some m := ixN_nat (i := (m : Int)) (Int.natCast_nonneg m) (by show m < n; exact h)
theorem v_ix0 {n : Nat} (h : 0 < n) : L2.ixN n 0 = some 0 := ixN_nat (i := 0) (by decide) h
theorem v_at0 {α : Type} {xs : List α} : L2.atI xs 0 = xs[0]? := atI_nat (by decide)
theorem v_at1 {α : Type} {xs : List α} : L2.atI xs 1 = xs[1]? := atI_nat (by decide)
theorem v_ix1 {n : Nat} (h : 1 < n) : L2.ixN n 1 = some 1 := ixN_nat (i := 1) (by decide) h
theorem e_apply' {n : Nat} {fn : FO} {as : List Ar} {s : List Ow × Ev} (h : takeA as ρ = some s) (hn : s.1.length = n) : app n fn as ρ = kA as s.2 (fn s.1) := e_apply h hn
end
/-! ### ends of statements -/
theorem wp_nx {x : Option So} {N : Ev → Prop} (h : wp x { N := N, R := fun _ _ => False }) : ∃ ρ, x = some (.nx ρ) ∧ N ρ := by
  unfold wp at h
  split at h
  · exact ⟨_, rfl, h⟩
  all_goals cases h
theorem wp_or {x : Option So} {N : Ev → Prop} {R : Ow → Ev → Prop} (h : wp x { N := N, R := R }) : (∃ ρ, x = some (.nx ρ) ∧ N ρ) ∨ ∃ o ρ, x = some (.rt o ρ) ∧ R o ρ := by
  unfold wp at h
  split at h
  · exact .inl ⟨_, rfl, h⟩
  · exact .inr ⟨_, _, rfl, h⟩
  all_goals cases h
theorem wp_eq {x : Option So} {P : Po} (r : So) (e : x = some r) (h : wp (some r) P) : wp x P := e ▸ h
end OW
/-! comprehensions, one turn by one equation; lists that functions make -/
namespace OW
open DL (Dt)
def cK (vs : List Nat) (ρ : Ev) (r : Option (Rs Ow)) : Option (Ow × Ev) := match r with
  | some (.ok o ρ3) => some (o, back ρ ρ3 vs)
  | _ => none
def cT (vs : List Nat) (fe : Fn Ow) (ρ : Ev) (r : Option (Rs Bool)) : Option (Option Ow × Ev) := match r with
  | some (.ok true ρ2) => (cK vs ρ (fe ρ2)).map fun x => (some x.1, x.2)
  | some (.ok false ρ2) => some (none, back ρ ρ2 vs)
  | _ => none
def eB {α : Type} (r : Option Ev) (f : Ev → Option α) : Option α := match r with
  | some ρ => f ρ
  | none => none
section
variable {α : Type} {vs : List Nat} {gf : GF} {tc : Fn Bool} {fe : Fn Ow} {ρ ρ0 ρ1 ρ2 : Ev} {o : Ow} {l : List α} {g : α → Dt} {i n : Nat}
theorem e_eB {f : Ev → Option α} : eB (some ρ) f = f ρ := rfl
theorem e_cK : cK vs ρ (some (.ok o ρ1)) = some (o, back ρ ρ1 vs) := rfl
theorem e_cT1 : cT vs fe ρ (some (.ok true ρ1)) = (cK vs ρ (fe ρ1)).map fun x => (some x.1, x.2) := rfl
theorem e_cT2 : cT vs fe ρ (some (.ok false ρ1)) = some (none, back ρ ρ1 vs) := rfl
theorem e_cTb {b : Bool} : cT vs fe ρ (some (.ok b ρ1)) = if b = true then (cK vs ρ (fe ρ1)).map fun x => (some x.1, x.2) else some (none, back ρ ρ1 vs) := by cases b <;> rfl
theorem comp_mapT {fi : Fn (List Dt)} {f : α → Ow} {ds : List Dt} (hi : fi ρ0 = some (.ok ds ρ)) (hd : ds = l.map g) (hl : l.length ≤ LIM)
    (h : ∀ a ∈ l, eB (gf (g a) (wipeO ρ vs)) (fun ρ1 => cK vs ρ (fe ρ1)) = some (f a, ρ)) : xComp vs fi gf tY fe ρ0 = some (.ok (.n .lst (l.map f)) ρ) := by
  subst hd
  unfold xComp
  rw [e_bnd, hi, kB_o]
  simp only [List.length_map, if_pos hl]
  have main : ∀ (l : List α) (acc : List Ow), (∀ a ∈ l, eB (gf (g a) (wipeO ρ vs)) (fun ρ1 => cK vs ρ (fe ρ1)) = some (f a, ρ)) → compL vs gf tY fe (l.map g) acc ρ = some (.ok (acc ++ l.map f) ρ) := by
    intro l
    induction l with
    | nil => intro acc _; unfold compL; simp
    | cons a l ih =>
      intro acc h
      have h1 := h a List.mem_cons_self
      have h2 := ih (acc ++ [f a]) fun x hx => h x (List.mem_cons_of_mem _ hx)
      unfold eB at h1
      split at h1
      · rename_i r1 e1
        dsimp only at h1
        unfold cK at h1
        split at h1
        · rename_i o2 r2 e2
          simp only [Option.some.injEq, Prod.mk.injEq] at h1
          rw [List.map_cons]
          unfold compL
          have et : tY r1 = some (.ok true r1) := rfl
          simp only [e1, et, e2, h1]
          rw [h2]
          simp
        · cases h1
      · cases h1
  rw [e_bnd, main l [] h, kB_o, List.nil_append]
  rfl
theorem comp_filT {fi : Fn (List Dt)} {p : α → Bool} {f : α → Ow} {ds : List Dt} (hi : fi ρ0 = some (.ok ds ρ)) (hd : ds = l.map g) (hl : l.length ≤ LIM)
    (h : ∀ a ∈ l, eB (gf (g a) (wipeO ρ vs)) (fun ρ1 => cT vs fe ρ (tc ρ1)) = some (if p a = true then some (f a) else none, ρ)) : xComp vs fi gf tc fe ρ0 = some (.ok (.n .lst ((l.filter p).map f)) ρ) := by
  subst hd
  unfold xComp
  rw [e_bnd, hi, kB_o]
  simp only [List.length_map, if_pos hl]
  have main : ∀ (l : List α) (acc : List Ow), (∀ a ∈ l, eB (gf (g a) (wipeO ρ vs)) (fun ρ1 => cT vs fe ρ (tc ρ1)) = some (if p a = true then some (f a) else none, ρ)) → compL vs gf tc fe (l.map g) acc ρ = some (.ok (acc ++ (l.filter p).map f) ρ) := by
    intro l
    induction l with
    | nil => intro acc _; unfold compL; simp
    | cons a l ih =>
      intro acc h
      have h1 := h a List.mem_cons_self
      have h2 := fun acc => ih acc fun x hx => h x (List.mem_cons_of_mem _ hx)
      unfold eB at h1
      split at h1
      · rename_i r1 e1
        dsimp only at h1
        rw [List.map_cons]
        unfold compL
        unfold cT at h1
        split at h1
        · rename_i r2 e2
          unfold cK at h1
          split at h1
          · rename_i o2 r3 e3
            simp only [Option.map_some, Option.some.injEq, Prod.mk.injEq] at h1
            obtain ⟨h1, h3⟩ := h1
            by_cases hp : p a = true
            · rw [if_pos hp] at h1
              cases h1
              simp only [e1, e2, e3, h3]
              rw [h2, List.filter_cons_of_pos hp]
              simp
            · rw [if_neg hp] at h1
              cases h1
          · cases h1
        · rename_i r2 e2
          simp only [Option.some.injEq, Prod.mk.injEq] at h1
          obtain ⟨h1, h3⟩ := h1
          by_cases hp : p a = true
          · rw [if_pos hp] at h1
            cases h1
          · simp only [e1, e2, h3]
            rw [h2, List.filter_cons_of_neg hp]
        · cases h1
      · cases h1
  rw [e_bnd, main l [] h, kB_o, List.nil_append]
  rfl
theorem e_wipe0 : wipeO ρ [] = ρ := rfl
theorem e_wipe1 {v : Nat} : wipeO ρ (v :: vs) = (wipeO ρ vs).set v .no := rfl
def bk (o : Option Ow) : Ow := match o with
  | some (.f d) => .f d
  | _ => .no
theorem e_back0 : back ρ0 ρ [] = ρ := rfl
theorem e_back1 {v : Nat} : back ρ0 ρ (v :: vs) = (back ρ0 ρ vs).set v (bk ρ0[v]?) := rfl
theorem v_bkF {d : Dt} : bk (some (.f d)) = .f d := rfl
theorem v_bkNo : bk (some .no) = .no := rfl
theorem v_bkN {k : Kd} {os : List Ow} : bk (some (.n k os)) = .no := rfl
theorem v_tY : tY ρ = some (.ok true ρ) := rfl
theorem v_Vg {o : Ow} {d : Dt} (h : ρ[n]? = some o) (hf : frz o = some d) : xV n ρ = some (.ok (.f d) (ρ.set n (.f d))) := by
  cases o with
  | no => cases hf
  | f x =>
    cases hf
    rw [e_Vf h]
    have e : ρ.set n (.f d) = ρ := by
      obtain ⟨h1, h2⟩ := List.getElem?_eq_some_iff.mp h
      rw [← h2, List.set_getElem_self]
    rw [e]
  | n k os => exact e_Vn h hf
theorem v_atLast {β : Type} {m : List β} {a : β} : L2.atI (m ++ [a]) (-1) = some a := by
  rw [v_atN, List.length_append]
  simp
theorem v_ixS {n : Nat} : L2.ixN (n + 1) (-1) = some n := by
  unfold L2.ixN
  rw [if_neg (by decide), if_pos (by omega)]
  congr 1
  omega
theorem v_setLast {β : Type} {m : List β} {a b : β} {n : Nat} (h : n = m.length) : (m ++ [a]).set n b = m ++ [b] := by
  subst h
  simp
theorem v_fzSnoc {f : α → Dt} {d : Dt} : frzs (l.map (fun a => .f (f a)) ++ [.f d]) = some (l.map f ++ [d]) := by
  have := fzs_map (ds := l.map f ++ [d])
  rw [List.map_append, List.map_map] at this
  exact this
theorem v_fzSnocC {f : α → Dt} {d : Dt} : frzs (l.map (Ow.f ∘ f) ++ [.f d]) = some (l.map f ++ [d]) := v_fzSnoc
theorem v_LIM : LIM = 1000000 := by unfold LIM; rfl
/-! lists -/
theorem v_fzF {f : α → Dt} : frzs (l.map fun a => .f (f a)) = some (l.map f) := by
  have := fzs_map (ds := l.map f)
  rw [List.map_map] at this
  exact this
theorem v_fzC {f : α → Dt} : frzs (l.map (Ow.f ∘ f)) = some (l.map f) := v_fzF
theorem v_fzFF {β : Type} {m : α → List β} {f : α → β → Dt} : frzs (l.map fun a => .n .lst ((m a).map fun b => .f (f a b))) = some (l.map fun a => .lst ((m a).map (f a))) := by
  induction l with
  | nil => rfl
  | cons a l ih => exact fzs_1l v_fzF ih
theorem v_intsC {f : α → Int} : intsOf (l.map (Dt.int ∘ f)) = some (l.map f) := v_intsF
theorem v_blsC {f : α → Bool} : blsOf (l.map (Dt.bl ∘ f)) = some (l.map f) := v_blsF
theorem zip_map {β : Type} {h : β → Dt} {m : List β} : DL.zip2 (l.map g) (m.map h) = (l.zip m).map fun x => .tup [g x.1, h x.2] := by
  unfold DL.zip2
  rw [List.zipWith_map, List.map_zip_eq_zipWith]
  rfl
theorem enum_map : DL.enum (l.map g) = l.zipIdx.map fun x => .tup [.int (x.2 : Int), g x.1] := by
  unfold DL.enum
  rw [List.mapIdx_eq_zipIdx_map, List.zipIdx_map, List.map_map]
  rfl
theorem zip_mem {β : Type} {x : α × β} {m : List β} (h : x ∈ l.zip m) : x.1 ∈ l ∧ x.2 ∈ m := by
  obtain ⟨a, b⟩ := x
  exact List.of_mem_zip h
end
end OW
/-! sorted(set(xs)) of ints -/
namespace OW
open PySem PySem.Spec PyProof.Rows L2
open DL (Dt Rp RpAll SqX)
/-- put in where it belongs, once -/
def ins (k : Int) : List Int → List Int
  | [] => [k]
  | x :: xs => if k < x then k :: x :: xs else if k = x then x :: xs else x :: ins k xs
def ssort (ns : List Int) : List Int := ns.foldr ins []
def kSS : List Dt → Option Ow
  | [.lst ds] => match intsOf ds with
    | some ns => if ns.length < 60 then some (.l ((ssort ns).map fun n => .f (.int n))) else none
    | none => none
  | _ => none
def xSrtSet (f : Fn Ow) : Fn Ow := xC (oBs kSS) (xA1 f xA0)
section
variable {X : Cx} {W : WX} {pos pos2 p p2 : Pos} {e : Expr} {fe : Fn Ow}
theorem lay_ok {g : Gs} {H : Hp} {a : Addr} {o : HO} (k : GsOk g H) (h : H a = none) : GsOk g (upd H a o) :=
  ⟨fun q u z => by rw [upd_ne (ne_of_none z (k.free h).1)]; exact k.s q u z, fun q u z => by rw [upd_ne (ne_of_none z (k.free h).2)]; exact k.m q u z, k.d⟩
theorem e_SrtSet {ρ : Ev} : xSrtSet fe ρ = xC (oBs kSS) (xA1 fe xA0) ρ := rfl
theorem v_ss {ds : List Dt} {ns : List Int} (h : intsOf ds = some ns) (hl : ns.length < 60) : kSS [.lst ds] = some (.n .lst ((ssort ns).map fun n => .f (.int n))) := by
  unfold kSS
  simp only [h, if_pos hl]
end
end OW
/-! x, y = (a, b) where a tuple is really made: each name takes what is its own -/
namespace OW
open PySem PySem.Spec PyProof.Rows L2
open DL (Dt Rp RpAll SqX)
def sTup2 (i j : Nat) (fa fb : Fn Ow) : SF := sVal (xA1 fa (xA1 fb xA0)) fun xs ρ => match xs with
  | [x, y] => ((setO i x ρ).bind (setO j y)).map .nx
  | _ => none
section
variable {X : Cx} {W : WX} {Z : List (Nat × V)} {pos : Pos} {a b : Expr} {fa fb : Fn Ow}
theorem ds_tup2 (i j : Nat) {x y : Str} {px py pt : Pos} {kt k2 pt2} (hc : X.calm = true) (nd : X.N.Nodup) (ha : DE X W a fa) (hb : DE X W b fb) (hzi : i ∉ Z.map (·.1) := by decide) (hzj : j ∉ Z.map (·.1) := by decide) (hi : X.N[i]? = some x := by rfl) (hj : X.N[j]? = some y := by rfl)
    (lx : Loc X.env.scope x := by first | exact Or.inl rfl | exact Or.inr rfl) (ly : Loc X.env.scope y := by first | exact Or.inl rfl | exact Or.inr rfl)
    (fx : X.fn x = true ∨ X.env.scope.names.lookup x = some .local := by first | exact .inl rfl | exact .inr rfl) (fy : X.fn y = true ∨ X.env.scope.names.lookup y = some .local := by first | exact .inl rfl | exact .inr rfl)
    (hn : (assignEach [.Name x px, .Name y py] X.env).length = 2 := by rfl) (hst : (assignEach [.Name x px, .Name y py] X.env).findIdx? (·.1) = none := by rfl)
    (m1 : (assignEach [.Name x px, .Name y py] X.env).map (·.2) = assign (.Name x px) X.env :: (assignEach [.Name y py] X.env).map (·.2) := by rfl) (m2 : (assignEach [.Name y py] X.env).map (·.2) = assign (.Name y py) X.env :: (assignEach [] X.env).map (·.2) := by rfl)
    (hs : swapsWithSole [.Tuple [.Name x px, .Name y py] kt pt] (.Tuple [a, b] k2 pt2) pos.line X.env = pure false := by rfl) (hw : swappedStores [.Tuple [.Name x px, .Name y py] kt pt] (.Tuple [a, b] k2 pt2) X.env = pure none := by rfl)
    (h0 : (assignEach [.Tuple [.Name x px, .Name y py] kt pt] X.env).map (·.2) = [assign (.Tuple [.Name x px, .Name y py] kt pt) X.env] := by rfl)
    (h1 : starEach [a, b] X.env = (false, eval a X.env) :: starEach [b] X.env := by rfl) (h2 : starEach [b] X.env = (false, eval b X.env) :: starEach [] X.env := by rfl) : DS X W Z (.Assign [.Tuple [.Name x px, .Name y py] kt pt] (.Tuple [a, b] k2 pt2) pos) (sTup2 i j fa fb) := fun ρ r hr => by
  have da : DA X W [a, b] (xA1 fa (xA1 fb xA0)) := da_1 ha (da_1 hb da_0 h2) h1
  have ps : ∀ {ta : TA}, PA X [a, b] ta → PS X (.Assign [.Tuple [.Name x px, .Name y py] kt pt] (.Tuple [a, b] k2 pt2) pos) _ := fun {ta} pa => ps_asg (pe_tup pa) (pg_tup hc (pgs_cons (pg_name (i := i) nd hi lx fx) (pgs_cons (pg_name (i := j) nd hj ly fy) pgs_nil m2) m1) hn hst) hs hw h0
  rcases sVal_inv hr with ⟨xs, ρ2, h4, hk⟩ | ⟨c', d, ρ1, h4, rfl⟩
  · obtain ⟨t, pa, qa⟩ := da ρ _ h4
    split at hk
    · rename_i xo yo
      obtain ⟨ρ4, h9, rfl⟩ := Option.map_eq_some_iff.mp hk
      obtain ⟨ρ3, h11, h12⟩ := Option.bind_eq_some_iff.mp h9
      refine ⟨_, ps pa, fun σ H g F D G zk k => qa σ H g F _ G fun vs H1 g1 F1 Fv G1 r1 d1 s1 => ⟨by rw [OwRs.len r1]; show 2 ≤ sizeLine; rw [sizeLine_eq]; decide, fun p hp => ?_⟩⟩
      obtain ⟨v, r, K1, L1, e1, a1, a2, a3, a4⟩ := r1
      obtain ⟨v2, r2, K2, L2, e2, b1, b2, b3, b4⟩ := a2
      obtain ⟨e4, e5⟩ := b2
      subst e4; subst e2; subst e1
      have G2 : Good X g1 (upd H1 p (.tup [v, v2])) σ ρ2 F1 := ⟨lay_ok G1.ok hp, G1.sr⟩
      obtain ⟨F3, G3, w3⟩ := G2.set h11 a1 fun p u w => d1 p u ((a4 p).mpr (.inl w))
      obtain ⟨F4, G4, w4⟩ := G3.set h12 b1 fun p u w => (w3 p u).elim (fun u => d1 p u ((a4 p).mpr (.inr ((b4 p).mpr (.inl w))))) fun u => a3 p u ((b4 p).mpr (.inl w))
      refine ⟨_, _, rfl, SqT.of upd_same, rfl, _, _, rfl, _, _, rfl, rfl, ?_⟩
      refine k _ _ g1 F4 G4 ((zk.set hzi).set hzj) (s1.sub fun p u => ?_)
      rcases w4 p u with u | u
      · rcases w3 p u with u | u
        · exact .inl u
        · exact .inr ((a4 p).mpr (.inl u))
      · exact .inr ((a4 p).mpr (.inr ((b4 p).mpr (.inl u))))
    · cases hk
  · obtain ⟨t, pa, qa⟩ := da ρ _ h4
    exact ⟨_, ps pa, fun σ H g F D G zk k => qa σ H g F _ G fun cls dx H1 g1 F1 G1 e1 s1 => k cls dx σ H1 g1 F1 G1 zk e1 s1⟩
def kT2 (i j : Nat) (xs : List Ow) (ρ : Ev) : Option So := match xs with
  | [x, y] => ((setO i x ρ).bind (setO j y)).map .nx
  | _ => none
theorem e_tup2 {i j : Nat} {ρ : Ev} : sTup2 i j fa fb ρ = kV (xA1 fa (xA1 fb xA0) ρ) fun xs ρ => kT2 i j xs ρ := rfl
theorem kT2_2 {i j : Nat} {x y : Ow} {ρ : Ev} : kT2 i j [x, y] ρ = if i < ρ.length ∧ j < ρ.length then some (.nx ((ρ.set i x).set j y)) else none := by
  unfold kT2 setO
  by_cases hi : i < ρ.length
  · by_cases hj : j < ρ.length
    · simp [hi, hj]
    · simp [hi, hj]
  · simp [hi]
end
end OW
/-! min of a list of pairs of ints -/
namespace OW
open PySem PySem.Spec PySem.W PyProof.Rows L2
open DL (Dt Rp RpAll SqX)
def pD (p : Int × Int) : Dt := .tup [.int p.1, .int p.2]
def pairsOf : List Dt → Option (List (Int × Int))
  | [] => some []
  | .tup [.int i, .int j] :: r => match pairsOf r with
    | some ps => some ((i, j) :: ps)
    | none => none
  | _ => none
theorem pairsOf_eq : ∀ {ds : List Dt} {ps : List (Int × Int)}, pairsOf ds = some ps → ds = ps.map pD
  | [], ps, h => by cases h; rfl
  | d :: r, ps, h => by
    unfold pairsOf at h
    split at h
    · rename_i e
      cases e
    · rename_i i j r' e
      cases e
      split at h
      · rename_i qs e2
        cases h
        rw [pairsOf_eq e2]
        rfl
      · cases h
    · cases h
theorem pairsOf_map : ∀ (ps : List (Int × Int)), pairsOf (ps.map pD) = some ps
  | [] => rfl
  | p :: ps => by
    show (match pairsOf (ps.map pD) with | some ps => some ((p.1, p.2) :: ps) | none => none) = _
    rw [pairsOf_map ps]
def ltP (a b : Int × Int) : Bool := decide (a.1 < b.1 ∨ (a.1 = b.1 ∧ a.2 < b.2))
def minP (x : Int × Int) (xs : List (Int × Int)) : Int × Int := xs.foldl (fun a y => if ltP y a = true then y else a) x
theorem py_pD {p : Int × Int} : (pD p).py = .tuple [.int p.1, .int p.2] := by simp [pD, DL.Dt.py, DL.Dt.pyAll]
theorem lt_pD {a b : Int × Int} : dataLt (pD a).py (pD b).py = ltP a b := by
  rw [py_pD, py_pD, dataLt_ii]
  rfl
theorem min_pD : ∀ (xs : List (Int × Int)) (x : Int × Int), minD (pD x).py (xs.map fun p => (pD p).py) = (pD (minP x xs)).py
  | [], x => rfl
  | y :: xs, x => by
    have e : minD (pD x).py ((y :: xs).map fun p => (pD p).py) = minD (if dataLt (pD y).py (pD x).py = true then (pD y).py else (pD x).py) (xs.map fun p => (pD p).py) := rfl
    have e2 : minP x (y :: xs) = minP (if ltP y x = true then y else x) xs := rfl
    rw [e, e2, lt_pD]
    by_cases h : ltP y x = true
    · rw [if_pos h, if_pos h, min_pD xs y]
    · rw [if_neg h, if_neg h, min_pD xs x]
section
variable {X : Cx}
/-- min of a list of alike data: one of the items -/
def rMinD (K : PySem.W.Frag) : List V → Hp → VK → Prop := fun vs H Q => ∃ (a : Addr) (xs : List V) (d : PyData) (ds : List PyData), vs = [.ref a] ∧ SqL K H a xs ∧ DpAll K H xs (d :: ds) ∧ AlikeAll (d :: ds) ∧ PyData.depthAll (d :: ds) ≤ 60 ∧
  ∀ (i : Nat) v, xs[i]? = some v → (d :: ds)[i]? = some (minD d ds) → Q v H
theorem cr_minD (hc : X.calm = true) (hu : X.A.units + 65 < cLine) : CallR X (.builtin "min") (rMinD X.K) := by
  intro pins s σ H vs us Q I r h
  obtain ⟨a, xs, d, ds, rfl, hs, hd, al, dep, q⟩ := h
  obtain ⟨its, rv, hl, _⟩ := I.list hs
  rw [Vals.ref1 r]
  obtain ⟨as, hr⟩ := Dp.readsAll I (d :: ds) xs its hd rv
  refine min_list_data (vs := its.toArray) (I.ok.hd hc) hl.isList (by simpa using hr) al (by omega) fun i v h' tk bs hv rd hk => ?_
  have hv' : its[i]? = some v := by simpa using hv
  obtain ⟨cs, r1, hi, _⟩ := readsAll_at hr i v hv'
  have e1 : (d :: ds).getD i .none = minD d ds := ((PyProof.Rows.reads_det (fun b o e _ => hk b o e) r1 rd).1).symm
  have hx : i < xs.length := by
    have z := rv.length
    have := (List.getElem?_eq_some_iff.mp hv').1
    omega
  obtain ⟨u, e2, r2⟩ := rv.get (List.getElem?_eq_getElem hx)
  rw [hv'] at e2
  cases e2
  exact ⟨_, H, I.kept hk, r2, q i _ (List.getElem?_eq_getElem hx) (by rw [List.getD_eq_getElem?_getD, List.getElem?_eq_getElem hi] at e1; rw [List.getElem?_eq_getElem hi]; exact congrArg some e1)⟩
end
def kMinP : List Dt → Option Ow
  | [.lst es] => match intsOf es with
    | some ns => if ns ≠ [] then some (.f (.int (lst' ns))) else none
    | none => match pairsOf es with
      | some (p :: ps) => some (.f (pD (minP p ps)))
      | _ => none
  | _ => none
theorem pD_inj {p q : Int × Int} (h : (pD p).py = (pD q).py) : p = q := by
  rw [py_pD, py_pD] at h
  injection h with h
  injection h with h1 h2
  injection h1 with h1
  injection h2 with h2 _
  injection h2 with h2
  exact Prod.ext h1 h2
theorem alike_pD {p q : Int × Int} : alike (pD p).py (pD q).py = true := by
  rw [py_pD, py_pD]
  simp [alike, alikeAll]
theorem pyAll_pD : ∀ ps : List (Int × Int), DL.Dt.pyAll (ps.map pD) = ps.map fun p => (pD p).py
  | [] => by simp [DL.Dt.pyAll]
  | p :: ps => by rw [List.map_cons, List.map_cons, DL.Dt.pyAll, pyAll_pD ps]
theorem plain_pD : ∀ ps : List (Int × Int), DL.Dt.plainAll (ps.map pD) = true
  | [] => rfl
  | p :: ps => by
    show ((pD p).plain && DL.Dt.plainAll (ps.map pD)) = true
    rw [plain_pD ps]
    rfl
theorem dep_pD : ∀ ps : List (Int × Int), PyData.depthAll (ps.map fun p => (pD p).py) ≤ 5
  | [] => by simp [PyData.depthAll]
  | p :: ps => by
    have := dep_pD ps
    rw [List.map_cons, PyData.depthAll, py_pD]
    simp only [PyData.depth, PyData.depthAll]
    omega
theorem rf_minP {X : Cx} (hc : X.calm = true) (hu : X.A.units + 65 < cLine) {ds : List Dt} {z : Ow} (h : kMinP ds = some z) : ∃ r, CallR X (.builtin "min") r ∧ RF X r ds z := by
  unfold kMinP at h
  split at h
  · rename_i es
    split at h
    · rename_i ns e
      refine rf_min hc (ds := [.lst es]) ?_
      show (match intsOf es with | some ns => _ | none => none) = _
      rw [e]
      exact h
    · split at h
      · rename_i p ps e
        cases h
        have ee := pairsOf_eq e
        subst ee
        refine ⟨_, cr_minD hc hu, fun vs H g Q k rv q => ?_⟩
        obtain ⟨a, xs, rfl, h1, h2⟩ := one_lst k.s rv
        have hd : DpAll X.K H xs ((pD p).py :: ps.map fun p => (pD p).py) := by
          have z := DL.dpAll_mono k.s _ _ (DL.RpAll.dp ((p :: ps).map pD) _ (plain_pD (p :: ps)) h2)
          rw [pyAll_pD] at z
          exact z
        refine ⟨a, xs, _, _, rfl, h1.l, hd, ⟨fun x hx y hy => ?_, fun x hx => ?_⟩, Nat.le_trans (dep_pD (p :: ps)) (by decide), fun i v e1 e2 => ?_⟩
        · obtain ⟨x, _, rfl⟩ := List.mem_map.mp (show x ∈ (p :: ps).map (fun p => (pD p).py) from hx)
          obtain ⟨y, _, rfl⟩ := List.mem_map.mp (show y ∈ (p :: ps).map (fun p => (pD p).py) from hy)
          exact alike_pD
        · obtain ⟨x, _, rfl⟩ := List.mem_map.mp (show x ∈ (p :: ps).map (fun p => (pD p).py) from hx)
          rw [py_pD]
          exact fun z => by cases z
        · rw [min_pD] at e2
          have e3 : ((p :: ps).map fun p => (pD p).py)[i]? = some (pD (minP p ps)).py := e2
          rw [List.getElem?_map] at e3
          obtain ⟨w, e4, e5⟩ := Option.map_eq_some_iff.mp e3
          have e6 := pD_inj e5
          subst e6
          obtain ⟨v', e7, r7⟩ := h2.at (i := i) (d := pD (minP p ps)) (by rw [List.getElem?_map, e4]; rfl)
          rw [e1] at e7
          cases e7
          exact q _ H g (fun _ => False) k ⟨r7, fun _ z => z⟩ (Stp.refl fun _ z => z)
      · cases h
  · cases h
theorem v_minPI {ds : List Dt} {ns : List Int} (h : intsOf ds = some ns) (h0 : ns ≠ []) : kMinP [.lst ds] = some (.f (.int (lst' ns))) := by
  unfold kMinP
  simp only [h, if_pos h0]
theorem ints_pD {p : Int × Int} {ps : List (Int × Int)} : intsOf ((p :: ps).map pD) = none := rfl
theorem v_minPP {p : Int × Int} {ps : List (Int × Int)} : kMinP [.lst ((p :: ps).map pD)] = some (.f (pD (minP p ps))) := by
  unfold kMinP
  simp only [ints_pD, pairsOf_map]
end OW
/-! x is True, x is False of a bool -/
namespace OW
open PySem PySem.Spec PyProof.Rows L2
open DL (Dt Rp RpAll SqX)
section
variable {X : Cx} {W : WX} {pos : Pos} {a : Expr} {fa : Fn Ow} {b : Expr} {fb : Fn Ow}
def cIsB : Ow → Ow → Option Ow := oB2 fun d e => match d, e with
  | .bl i, .bl j => some (.f (.bl (decide (i = j))))
  | _, _ => none
theorem v_isB {i j : Bool} : cIsB (.f (.bl i)) (.f (.bl j)) = some (.f (.bl (decide (i = j)))) := rfl
end
end OW
/-! None reckoned at once; borrowed tests; for y in x: y.append(c) of a list of lists of one's own -/
namespace OW
open PySem PySem.Spec PyProof.Rows L2
open DL (Dt Rp RpAll SqX)
section
variable {X : Cx} {W : WX} {Z : List (Nat × V)} {pos : Pos}
def kTb (ρ : Ev) (r : Option (Rs Bool)) : Option (Rs Bool) := match r with
  | some (.ok b _) => some (.ok b ρ)
  | _ => none
theorem e_tBor {f : Fn Bool} {ρ : Ev} : tBor f ρ = kTb ρ (f (ρ.map frzS)) := rfl
theorem kTb_o {b : Bool} {ρ ρ1 : Ev} : kTb ρ (some (.ok b ρ1)) = some (.ok b ρ) := rfl
theorem v_frzS_f {d : Dt} : frzS (.f d) = .f d := rfl
theorem v_frzS_no : frzS .no = .no := rfl
theorem v_frzS_n {k : Kd} {os : List Ow} {d : Dt} (h : frz (.n k os) = some d) : frzS (.n k os) = .f d := by unfold frzS; rw [h]
theorem e_appP {n : Nat} {c : Int} {j : Nat} {ρ : Ev} {x y : Ow} {os is : List Ow} {d : Dt} (h1 : ρ[n]? = some x) (h1' : gLs x = some os) (h2 : L2.ixN os.length c = some j) (h3 : os[j]? = some y) (h3' : gLs y = some is) (h4 : is.length < LIM) :
    sAppP (pI (pV n) (qK (.int c))) (qK d) ρ = some (.nx (ρ.set n (.n .lst (os.set j (.n .lst (is ++ [.f d])))))) := by
  cases gLs_eq h1'
  cases gLs_eq h3'
  have p0 : pV n ρ = some (n, []) := e_pV h1 rfl
  have b : pI (pV n) (qK (.int c)) ρ = some (n, [j]) := by
    unfold pI qK
    simp only [p0, e_getE0 h1, h2, h3, List.nil_append]
  have g : getE ρ n [j] = some (.n .lst is) := by
    unfold getE
    rw [h1]
    show subO (.n .lst os) [j] = _
    unfold subO
    rw [h3]
    rfl
  have e : ∀ z, setE ρ n [j] z = ρ.set n (.n .lst (os.set j z)) := by
    intro z
    unfold setE
    rw [h1]
    show ρ.set n (setP (.n .lst os) [j] z) = _
    unfold setP
    rw [h3]
    rfl
  unfold sAppP
  rw [b]
  show (match getE ρ n [j] with | some (.n .lst os) => _ | _ => none) = _
  rw [g]
  show (if _ then _ else _) = _
  rw [if_pos h4, e]
/-- x[c].clear() -/
theorem e_clrP {n : Nat} {c : Int} {j : Nat} {ρ : Ev} {x y : Ow} {os is : List Ow} (h1 : ρ[n]? = some x) (h1' : gLs x = some os) (h2 : L2.ixN os.length c = some j) (h3 : os[j]? = some y) (h3' : gLs y = some is) :
    sClr (pI (pV n) (qK (.int c))) ρ = some (.nx (ρ.set n (.n .lst (os.set j (.n .lst []))))) := by
  cases gLs_eq h1'
  cases gLs_eq h3'
  have p0 : pV n ρ = some (n, []) := e_pV h1 rfl
  have b : pI (pV n) (qK (.int c)) ρ = some (n, [j]) := by
    unfold pI qK
    simp only [p0, e_getE0 h1, h2, h3, List.nil_append]
  have g : getE ρ n [j] = some (.n .lst is) := by
    unfold getE
    rw [h1]
    show subO (.n .lst os) [j] = _
    unfold subO
    rw [h3]
    rfl
  have e : ∀ z, setE ρ n [j] z = ρ.set n (.n .lst (os.set j z)) := by
    intro z
    unfold setE
    rw [h1]
    show ρ.set n (setP (.n .lst os) [j] z) = _
    unfold setP
    rw [h3]
    rfl
  unfold sClr
  rw [b]
  show (match getE ρ n [j] with | some (.n .lst os) => _ | _ => none) = _
  rw [g]
  show some (So.nx (setE ρ n [j] _)) = _
  rw [e]
def appEach (d : Dt) : List Ow → Option (List Ow)
  | [] => some []
  | .n .lst is :: os => if is.length < LIM then (appEach d os).map fun r => .n .lst (is ++ [.f d]) :: r else none
  | _ => none
/-- what is known of a slot is left aside -/
theorem Good.drop {g : Gs} {H : Hp} {σ : L2.St} {ρ : Ev} {F : Fp} {j : Nat} (G : Good X g H σ ρ F) (hj : j < ρ.length) : ∃ F', Good X g H σ (ρ.set j .no) F' ∧ ∀ p, F' p → F p := by
  obtain ⟨v0, F1, F2, e1, e2, e3, e4, e5⟩ := G.sr.at (List.getElem?_eq_getElem hj)
  have z := e5 g .no v0 (fun _ => False) Kp.refl (.inl ⟨rfl, fun _ z => z⟩) fun p z _ => z
  rw [set_self e1] at z
  exact ⟨_, ⟨G.ok, z⟩, fun p z => z.elim False.elim fun z => (e4 p).mpr (.inr z)⟩
/-- a slot of which nothing is known takes any value -/
theorem Good.any {g : Gs} {H : Hp} {σ : L2.St} {ρ : Ev} {F : Fp} {j : Nat} (G : Good X g H σ ρ F) (hj : ρ[j]? = some .no) (v : Option V) : ∃ F', Good X g H (σ.set j v) ρ F' ∧ ∀ p, F' p → F p := by
  obtain ⟨v0, F1, F2, e1, e2, e3, e4, e5⟩ := G.sr.at hj
  have z := e5 g .no v (fun _ => False) Kp.refl (.inl ⟨rfl, fun _ z => z⟩) fun p z _ => z
  rw [set_self hj] at z
  exact ⟨_, ⟨G.ok, z⟩, fun p z => z.elim False.elim fun z => (e4 p).mpr (.inr z)⟩
/-- for y in x[..]: y.append(c) -/
def sForApp (fp : Ev → Option (Nat × List Nat)) (j : Nat) (d : Dt) : SF := fun ρ => match fp ρ with
  | some (i, π) => match getE ρ i π with
    | some (.n .lst os) => match appEach d os with
      | some os' => if i ≠ j ∧ j < ρ.length then some (.nx (setE (ρ.set j .no) i π (.n .lst os'))) else none
      | none => none
    | _ => none
  | none => none
variable {ρ : Ev}
theorem v_appEach0 {d : Dt} : appEach d [] = some [] := rfl
theorem v_appEach1 {d : Dt} {is os : List Ow} : appEach d (.n .lst is :: os) = if is.length < LIM then (appEach d os).map fun r => .n .lst (is ++ [.f d]) :: r else none := rfl
theorem v_appEachM {α : Type} {d : Dt} {f : α → List Ow} : ∀ {l : List α}, (∀ a ∈ l, (f a).length < LIM) → appEach d (l.map fun a => .n .lst (f a)) = some (l.map fun a => .n .lst (f a ++ [.f d]))
  | [], _ => rfl
  | a :: l, h => by
    rw [List.map_cons, v_appEach1, if_pos (h a List.mem_cons_self), v_appEachM fun x hx => h x (List.mem_cons_of_mem _ hx)]
    rfl
theorem e_forApp0 {n j : Nat} {d : Dt} {x : Ow} {os os' : List Ow} (h1 : ρ[n]? = some x) (h1' : gLs x = some os) (h2 : appEach d os = some os') (h3 : n ≠ j) (h4 : j < ρ.length) : sForApp (pV n) j d ρ = some (.nx ((ρ.set j .no).set n (.n .lst os'))) := by
  cases gLs_eq h1'
  have p0 : pV n ρ = some (n, []) := e_pV h1 rfl
  unfold sForApp
  rw [p0]
  show (match getE ρ n [] with | some (.n .lst os) => _ | _ => none) = _
  rw [e_getE0 h1]
  show (match appEach d os with | some os' => _ | none => none) = _
  rw [h2]
  show (if _ then _ else _) = _
  rw [if_pos ⟨h3, h4⟩, e_setE0 (o := .n .lst os) (by rw [List.getElem?_set_ne (fun e => h3 e.symm)]; exact h1)]
theorem e_forApp1 {n j k : Nat} {c : Int} {d : Dt} {x y : Ow} {os is is' : List Ow} (h1 : ρ[n]? = some x) (h1' : gLs x = some os) (h2 : L2.ixN os.length c = some k) (h5 : os[k]? = some y) (h5' : gLs y = some is) (h6 : appEach d is = some is') (h3 : n ≠ j) (h4 : j < ρ.length) :
    sForApp (pI (pV n) (qK (.int c))) j d ρ = some (.nx ((ρ.set j .no).set n (.n .lst (os.set k (.n .lst is'))))) := by
  cases gLs_eq h1'
  cases gLs_eq h5'
  have p0 : pV n ρ = some (n, []) := e_pV h1 rfl
  have b : pI (pV n) (qK (.int c)) ρ = some (n, [k]) := by
    unfold pI qK
    simp only [p0, e_getE0 h1, h2, h5, List.nil_append]
  have g : getE ρ n [k] = some (.n .lst is) := by
    unfold getE
    rw [h1]
    show subO (.n .lst os) [k] = _
    unfold subO
    rw [h5]
    rfl
  unfold sForApp
  rw [b]
  show (match getE ρ n [k] with | some (.n .lst os) => _ | _ => none) = _
  rw [g]
  show (match appEach d is with | some os' => _ | none => none) = _
  rw [h6]
  show (if _ then _ else _) = _
  rw [if_pos ⟨h3, h4⟩]
  unfold setE
  rw [List.getElem?_set_ne (fun e => h3 e.symm), h1]
  show some (So.nx ((ρ.set j .no).set n (setP (.n .lst os) [k] _))) = _
  have e2 : setP (.n .lst os) [k] (.n .lst is') = .n .lst (os.set k (.n .lst is')) := by
    conv => lhs; unfold setP
    rw [h5]
    rfl
  rw [e2]
end
end OW
/-! for i, x in enumerate(xs, k) -/
namespace OW
open PySem PySem.Spec PyProof.Rows L2
open DL (Dt Rp RpAll SqX)
end OW
/-! [*a, x]: the items of a list that stands, spread into a new one -/
namespace OW
open PySem PySem.Spec PyProof.Rows L2
open DL (Dt Rp RpAll SqX pe_no)
section
variable {X : Cx} {W : WX} {e : Expr} {es : List Expr} {te : TE} {t : TA} {sp : Pos} {fe : Fn Ow} {fs : Fn (List Ow)}
def kFl : Ow → Option (List Ow)
  | .f (.lst ds) => some (ds.map .f)
  | _ => none
def xAS (f : Fn Ow) (g : Fn (List Ow)) : Fn (List Ow) := bnd f fun o => bnd (opt (kFl o)) fun xs => bnd g fun os => ret (xs ++ os)
theorem e_AS {f : Fn Ow} {g : Fn (List Ow)} {ρ : Ev} : xAS f g ρ = kB (f ρ) fun o ρ => kB (kO (kFl o) ρ) fun xs ρ => kB (g ρ) fun os ρ => some (.ok (xs ++ os) ρ) := rfl
theorem v_kFl {ds : List Dt} : kFl (.f (.lst ds)) = some (ds.map .f) := rfl
end
end OW
/-! tuples of one's own: what is put into them stays one's own -/
namespace OW
open PySem PySem.Spec PyProof.Rows L2
open DL (Dt Rp RpAll SqX)
section
variable {X : Cx} {W : WX} {pos : Pos} {a b c e : Expr} {es : List Expr} {fa fb fc fe : Fn Ow} {fs : Fn (List Ow)} {k : Nat} {mg : Str → Option Value} {K : PySem.W.Frag} {g : Gs} {H : Hp} {F : Fp} {vs : List V} {os : List Ow} {ds : List Dt}
def xTpO (f : Fn (List Ow)) : Fn Ow := bnd f fun os => opt (if os.length ≤ LIM then some (.n .tp os) else none)
theorem e_tpo {ρ : Ev} : xTpO fs ρ = kB (fs ρ) fun os ρ => if os.length ≤ LIM then some (.ok (.n .tp os) ρ) else none := by
  show kB _ _ = _
  congr 1
  funext os ρ
  show kO _ _ = _
  split <;> rfl
theorem v_ixTp {k : Int} {x : Ow} (h : L2.atI os k = some x) (hn : x ≠ .no) : bIx (.n .tp os) (.f (.int k)) = some x := by
  show (match L2.atI os k with | some .no => none | r => r) = _
  rw [h]
  split
  · rename_i e
    cases e
    exact (hn rfl).elim
  · rfl
theorem fz_tp : frz (.n .tp os) = (frzs os).map .tup := by simp [frz]
end
end OW
/-! xs.index(k) of ints -/
namespace OW
open PySem PySem.Spec PyProof.Rows L2
open DL (Dt Rp RpAll SqX pe_no)
def posOf (k : Int) : List Int → Nat
  | [] => 0
  | n :: ns => if n = k then 0 else posOf k ns + 1
def kIdx (ds : List Dt) (y : Ow) : Option Ow := match y with
  | .f (.int k) => match intsOf ds with
    | some ns => if k ∈ ns then some (.f (.int (posOf k ns : Nat))) else none
    | none => none
  | _ => none
/-- what is read as a list -/
def lsO (x : Ow) : Option (List Dt) := match frz x with
  | some (.lst ds) => some ds
  | _ => none
def xIdx (fo fe : Fn Ow) : Fn Ow := bnd fo fun x => match lsO x with
  | some ds => bnd fe fun y => opt (kIdx ds y)
  | none => fun _ => none
section
variable {X : Cx} {W : WX} {o e : Expr} {fo fe : Fn Ow} {apos cpos : Pos}
def kIdA (fe : Fn Ow) (x : Ow) (ρ : Ev) : Option (Rs Ow) := match lsO x with
  | some ds => kB (fe ρ) fun y ρ => kO (kIdx ds y) ρ
  | none => none
theorem e_idx {ρ : Ev} : xIdx fo fe ρ = kB (fo ρ) fun x ρ => kIdA fe x ρ := by
  show kB _ _ = _
  congr 1
  funext x ρ
  unfold kIdA
  cases lsO x <;> rfl
theorem kIdA_f {ρ : Ev} {ds : List Dt} : kIdA fe (.f (.lst ds)) ρ = kB (fe ρ) fun y ρ => kO (kIdx ds y) ρ := rfl
theorem v_idx {ds : List Dt} {ns : List Int} {k : Int} (h : intsOf ds = some ns) (hk : k ∈ ns) : kIdx ds (.f (.int k)) = some (.f (.int (posOf k ns : Nat))) := by
  unfold kIdx
  simp only [h, if_pos hk]
end
end OW
/-! a comprehension that reads alone, put into a name -/
namespace OW
open PySem PySem.Spec PyProof.Rows L2
open DL (Dt Rp RpAll SqX pe_no pt_no pw_no ps_no pss_no FnG FnAt perm perm_vals rng enum zip2 blkX)
end OW
/-! (a, b) < (c, d) of ints -/
namespace OW
open PySem PySem.Spec PyProof.Rows L2
open DL (Dt Rp RpAll SqX)
def cLtT : Ow → Ow → Option Ow := oB2 fun d e => match d, e with
  | .tup [.int a, .int b], .tup [.int c, .int f] => some (.f (.bl (ltP (a, b) (c, f))))
  | _, _ => none
section
variable {X : Cx} {W : WX} {pos : Pos} {a b : Expr} {fa fb : Fn Ow}
theorem v_ltT {i j k l : Int} : cLtT (.f (.tup [.int i, .int j])) (.f (.tup [.int k, .int l])) = some (.f (.bl (ltP (i, j) (k, l)))) := rfl
end
end OW
/-! a statement that reads alone: names that it does not bind keep what they own -/
namespace OW
open PySem PySem.Spec PyProof.Rows L2
open DL (Dt Rp RpAll SqX pe_no pt_no pw_no ps_no pss_no)
/-- what is told of a slot that is bound within: scalars alone -/
def scO (o : Ow) : Ow := match o with
  | .f d => if scal d then .f d else .no
  | _ => .no
def mrg (ks : List Nat) : Nat → Ev → Ev → Ev
  | n, o :: ρ, o' :: ρ' => (if n ∈ ks then o else scO o') :: mrg ks (n + 1) ρ ρ'
  | _, _, _ => []
def isNoS (o : Option Ow) : Bool := match o with
  | some .no => true
  | none => true
  | _ => false
def sBorS (ks : List Nat) (f : SF) : SF := fun ρ => if ks.any (fun k => isNoS ρ[k]?) then none else match f (ρ.map frzS) with
  | some (.nx ρ') => if ρ'.length = ρ.length then some (.nx (mrg ks 0 ρ ρ')) else none
  | some (.rt (.f d) ρ') => if ρ'.length = ρ.length ∧ scal d = true then some (.rt (.f d) (mrg ks 0 ρ ρ')) else none
  | _ => none
section
variable {X : Cx} {W : WX} {Z : List (Nat × V)} {mg : Str → Option Value} {K : PySem.W.Frag} {g g' : Gs}
theorem e_borS {ks : List Nat} {f : SF} {ρ ρ' : Ev} (hn : ks.any (fun k => isNoS ρ[k]?) = false) (h : f (ρ.map frzS) = some (.nx ρ')) (hl : ρ'.length = ρ.length) : sBorS ks f ρ = some (.nx (mrg ks 0 ρ ρ')) := by
  unfold sBorS
  rw [hn, h]
  simp only [Bool.false_eq_true, if_false, hl, if_true]
end
end OW
/-! {} -/
namespace OW
open PySem PySem.Spec PyProof.Rows L2
open DL (Dt Rp RpAll SqX)
end OW
/-! a def that calls itself: its function by fuel -/
namespace OW
open PySem PySem.Spec PyProof.Rows L2
open DL (FnG)
end OW
namespace Ev
open PySem L2 OW
open DL (Dt FnG FnAt)
def top (i : Nat) : Stmt := PySem.Challenge.pw_evenslices_k73_changes_by_search.main.body.getD i (.Pass ⟨0, 0, 0, 0⟩)
abbrev s__law_source : Stmt := top 20
abbrev s__law_draw : Stmt := top 21
abbrev s__law_change : Stmt := top 22
abbrev s_is_integer : Stmt := top 6
abbrev s_need_number : Stmt := top 7
abbrev s_need_lags : Stmt := top 12
abbrev s_need_shares : Stmt := top 13
abbrev s_need_change : Stmt := top 14
abbrev s_due_later : Stmt := top 15
abbrev s_failing : Stmt := top 16
abbrev s_failing_moment : Stmt := top 17
abbrev s_can_change : Stmt := top 18
abbrev s__law_failing : Stmt := top 23
abbrev s__law_can : Stmt := top 24
abbrev s__law_right : Stmt := top 25
abbrev s_law : Stmt := top 26
structure Txt (mg : Str → Option Value) : Prop where
  b_abs : mg "abs" = none
  b_max : mg "max" = none
  b_int : mg "int" = none
  b_range : mg "range" = none
  b_isinstance : mg "isinstance" = none
  b_bool : mg "bool" = none
  b_enumerate : mg "enumerate" = none
  b_list : mg "list" = none
  b_len : mg "len" = none
  b_sum : mg "sum" = none
  b_zip : mg "zip" = none
  b_min : mg "min" = none
  b_repr : mg "repr" = none
  c_MOST_BASE : ∃ t, mg "MOST_BASE" = some (Value.int (999999999999999999999999999999) t)
  c_MOST_PERIOD : ∃ t, mg "MOST_PERIOD" = some (Value.int (3000) t)
  c_MOST_PROCESSES : ∃ t, mg "MOST_PROCESSES" = some (Value.int (12) t)
end Ev
namespace Ev
open PySem L2 OW
open DL (Dt FnG FnAt)
noncomputable section
def b__law_source_1d92 : SF :=
  (sSeq (sSet 2 (xC (oBs kAbs) (xA1 (xV 0) xA0))) (sSeq (sRet (xLst (xA1 (xC (oBs kMax) (xA1 (xK (.int 0)) (xA1 (xBin bSub (xV 2) (xBin bPow (xK (.int 10)) (xK (.int 18)))) xA0))) (xA1 (xBin bAdd (xBin bAdd (xBin bMul (xBin bMod (xC (oBs kInt) (xA1 (xV 2) xA0)) (xBin bAdd (xBin bPow (xK (.int 10)) (xK (.int 41))) (xK (.int 61)))) (xK (.int 83))) (xBin bMul (xK (.int 2)) (xV 1))) (xC (oBs kInt) (xA1 (xBin cLt (xV 0) (xK (.int 0))) xA0))) (xA1 (xK (.int 0)) xA0))))) sNil))
def f__law_source_1d92 : FO := fnOf 3 [false, false] b__law_source_1d92
end
end Ev
namespace Ev
open PySem L2 OW
open DL (Dt FnG FnAt)
section
variable {P : Program} {w : World} {K : PySem.W.Frag} {mg : Str → Option Value} {base : Heap} {f : Addr} {fd : FuncData}
theorem sc__law_source : FnScope ["cell", "k", "great"] ["cell", "k"] (defScope s__law_source) := ⟨rfl, rfl, rfl, by decide +kernel, rfl, by decide +kernel, by decide +kernel⟩
theorem ok__law_source (T : Txt mg) (F : Fun K "_law_source" "_law_source" s__law_source f fd) : FnG P w K mg base 1 f fd ["cell", "k"] (spO mg K 2 f__law_source_1d92) := by
  refine okO (N := ["cell", "k", "great"]) (io := [false, false]) (body := b__law_source_1d92) F sc__law_source rfl rfl (by decide) ?_
  intro cdv A outer s0 H E Z W hgd hr tk hz
  exact (dss_cons (ds_set 2 (de_kB (fun _ _ h => rf_abs h) ⟨_, call_abs⟩ T.b_abs (da_1 (de_v 0) da_0)) sc__law_source.nd (by rw [hz]; decide)) (dss_cons (ds_ret (de_lst (da_1 (de_kB (fun _ _ h => rf_max rfl h) ⟨_, cr_max rfl⟩ T.b_max (da_1 de_int (da_1 (de_sub (de_v 2) (de_pow de_int de_int)) da_0))) (da_1 (de_add (de_add (de_mul (de_mod (de_kT (fun _ _ h => rf_int h) ⟨_, call_int1⟩ T.b_int (da_1 (de_v 2) da_0)) (de_add (de_pow de_int de_int) de_int)) de_int) (de_mul de_int (de_v 1))) (de_kT (fun _ _ h => rf_int h) ⟨_, call_int1⟩ T.b_int (da_1 (DC.e (dc_lt (de_v 0) de_int)) da_0))) (da_1 de_int da_0))))) dss_nil))
end
end Ev
namespace Ev
open PySem L2 OW
open DL (Dt FnG FnAt)
noncomputable section
def b__law_draw_ffea : SF :=
  (sSeq (sIf (tV (xBin cGt (xGet (pV 0) (qK (.int 0))) (xK (.int 0)))) (sSeq (sSet 2 (xBin bMod (xC (oBs kInt) (xA1 (xGet (pV 0) (qK (.int 0))) xA0)) (xV 1))) (sSeq (sItem (pV 0) (qK (.int 0)) (xBin bDiv (xGet (pV 0) (qK (.int 0))) (xV 1))) (sSeq (sRet (xM 2)) sNil))) sNil) (sSeq (sItem (pV 0) (qK (.int 2)) (xBin bAdd (xGet (pV 0) (qK (.int 2))) (xK (.int 1)))) (sSeq (sSet 3 (xBin bMod (xC (oBs kInt) (xA1 (xBin bPow (xBin bAdd (xGet (pV 0) (qK (.int 1))) (xBin bMul (xK (.int 800011)) (xGet (pV 0) (qK (.int 2))))) (xK (.int 3))) xA0)) (xBin bAdd (xBin bPow (xK (.int 10)) (xK (.int 37))) (xK (.int 43))))) (sSeq (sSet 3 (xBin bMod (xC (oBs kInt) (xA1 (xBin bPow (xBin bAdd (xBin bMul (xV 3) (xGet (pV 0) (qK (.int 2)))) (xK (.int 70001))) (xK (.int 3))) xA0)) (xBin bAdd (xBin bPow (xK (.int 10)) (xK (.int 39))) (xK (.int 3))))) (sSeq (sRet (xBin bMod (xC (oBs kInt) (xA1 (xBin bDiv (xV 3) (xK (.int 65521))) xA0)) (xV 1))) sNil)))))
def f__law_draw_ffea : FO := fnOf 4 [true, false] b__law_draw_ffea
end
end Ev
namespace Ev
open PySem L2 OW
open DL (Dt FnG FnAt)
section
variable {P : Program} {w : World} {K : PySem.W.Frag} {mg : Str → Option Value} {base : Heap} {f : Addr} {fd : FuncData}
theorem sc__law_draw : FnScope ["source", "count", "digit", "mixed"] ["source", "count"] (defScope s__law_draw) := ⟨rfl, rfl, rfl, by decide +kernel, rfl, by decide +kernel, by decide +kernel⟩
theorem ok__law_draw (T : Txt mg) (F : Fun K "_law_draw" "_law_draw" s__law_draw f fd) : FnG P w K mg base 1 f fd ["source", "count"] (spO mg K 2 f__law_draw_ffea) := by
  refine okO (N := ["source", "count", "digit", "mixed"]) (io := [true, false]) (body := b__law_draw_ffea) F sc__law_draw rfl rfl (by decide) ?_
  intro cdv A outer s0 H E Z W hgd hr tk hz
  exact (dss_cons (ds_if (DC.t (dc_gt (de_get (dp_v 0) dq_int) de_int)) (dss_cons (ds_set 2 (de_mod (de_kT (fun _ _ h => rf_int h) ⟨_, call_int1⟩ T.b_int (da_1 (de_get (dp_v 0) dq_int) da_0)) (de_v 1)) sc__law_draw.nd (by rw [hz]; decide)) (dss_cons (ds_item (dp_v 0) dq_int (de_div (de_get (dp_v 0) dq_int) (de_v 1))) (dss_cons (ds_ret (de_m 2)) dss_nil))) dss_nil) (dss_cons (ds_item (dp_v 0) dq_int (de_add (de_get (dp_v 0) dq_int) de_int)) (dss_cons (ds_set 3 (de_mod (de_kT (fun _ _ h => rf_int h) ⟨_, call_int1⟩ T.b_int (da_1 (de_pow (de_add (de_get (dp_v 0) dq_int) (de_mul de_int (de_get (dp_v 0) dq_int))) de_int) da_0)) (de_add (de_pow de_int de_int) de_int)) sc__law_draw.nd (by rw [hz]; decide)) (dss_cons (ds_set 3 (de_mod (de_kT (fun _ _ h => rf_int h) ⟨_, call_int1⟩ T.b_int (da_1 (de_pow (de_add (de_mul (de_v 3) (de_get (dp_v 0) dq_int)) de_int) de_int) da_0)) (de_add (de_pow de_int de_int) de_int)) sc__law_draw.nd (by rw [hz]; decide)) (dss_cons (ds_ret (de_mod (de_kT (fun _ _ h => rf_int h) ⟨_, call_int1⟩ T.b_int (da_1 (de_div (de_v 3) de_int) da_0)) (de_v 1))) dss_nil)))))
end
end Ev
namespace Ev
open PySem L2 OW
open DL (Dt FnG FnAt)
noncomputable section
def l1__law_change_3e3b : SF :=
  (sFor (iR1 (xBin bAdd (xK (.int 1)) (xCall 2 f__law_draw_ffea (xRi 0 (xRv (xV 2) xR0))))) (gN 8) (sSeq (sApp 4 (xBin bIx (xLst (xA1 (xBin bSub (xBin bAdd (xCall 2 f__law_draw_ffea (xRi 0 (xRv (xBin bSub (xBin bMul (xK (.int 2)) (xV 3)) (xK (.int 1))) xR0))) (xK (.int 1))) (xV 3)) (xA1 (xBin bSub (xK (.int 1)) (xV 3)) (xA1 (xK (.int 0)) xA0)))) (xCall 2 f__law_draw_ffea (xRi 0 (xRv (xK (.int 3)) xR0))))) (sSeq (sApp 6 (xCall 2 f__law_draw_ffea (xRi 0 (xRv (xBin bAdd (xV 7) (xK (.int 1))) xR0)))) (sSeq (sSet 7 (xBin bSub (xV 7) (xGet (pV 6) (qK (.int (-1)))))) sNil))))
def b__law_change_3e3b : SF :=
  (sSeq (sSet 3 (xBin bAdd (xK (.int 1)) (xBin bIx (xLst (xA1 (xCall 2 f__law_draw_ffea (xRi 0 (xRv (xK (.int 4)) xR0))) (xA1 (xCall 2 f__law_draw_ffea (xRi 0 (xRv (xK (.int 9)) xR0))) (xA1 (xCall 2 f__law_draw_ffea (xRi 0 (xRv (xBin bSub (xBin bPow (xK (.int 10)) (xK (.int 30))) (xK (.int 1))) xR0))) xA0)))) (xCall 2 f__law_draw_ffea (xRi 0 (xRv (xK (.int 3)) xR0)))))) (sSeq (sPar3 4 5 6 (xLst xA0) (xBin bAdd (xK (.int 1)) (xCall 2 f__law_draw_ffea (xRi 0 (xRv (xV 1) xR0)))) (xLst xA0)) (sSeq (sSet 7 (xBin bSub (xV 5) (xBin bIx (xLst (xA1 (xK (.int 0)) (xA1 (xK (.int 0)) (xA1 (xCall 2 f__law_draw_ffea (xRi 0 (xRv (xBin bAdd (xV 5) (xK (.int 1))) xR0))) xA0)))) (xCall 2 f__law_draw_ffea (xRi 0 (xRv (xK (.int 3)) xR0)))))) (sSeq l1__law_change_3e3b (sSeq (sItem (pV 6) (qK (.int (-1))) (xBin bAdd (xGet (pV 6) (qK (.int (-1)))) (xBin bIx (xLst (xA1 (xK (.int 0)) (xA1 (xV 7) xA0))) (xCall 2 f__law_draw_ffea (xRi 0 (xRv (xK (.int 2)) xR0)))))) (sSeq (sRet (xTup (xA1 (xV 3) (xA1 (xV 4) (xA1 (xV 5) (xA1 (xV 6) xA0)))))) sNil))))))
def f__law_change_3e3b : FO := fnOf 9 [true, false, false] b__law_change_3e3b
end
end Ev
namespace Ev
open PySem L2 OW
open DL (Dt FnG FnAt)
section
variable {P : Program} {w : World} {K : PySem.W.Frag} {mg : Str → Option Value} {base : Heap} {f : Addr} {fd : FuncData}
theorem sc__law_change : FnScope ["source", "far", "most_many", "ground", "some", "span", "parts", "left", "turn"] ["source", "far", "most_many"] (defScope s__law_change) := ⟨rfl, rfl, rfl, by decide +kernel, rfl, by decide +kernel, by decide +kernel⟩
theorem ok__law_change (T : Txt mg) (G__law_draw : FnAt P w K mg base "_law_draw" s__law_draw 1 ["source", "count"] (spO mg K 2 f__law_draw_ffea)) (F : Fun K "_law_change" "_law_change" s__law_change f fd) : FnG P w K mg base 2 f fd ["source", "far", "most_many"] (spO mg K 3 f__law_change_3e3b) := by
  refine okO (N := ["source", "far", "most_many", "ground", "some", "span", "parts", "left", "turn"]) (io := [true, false, false]) (body := b__law_change_3e3b) F sc__law_change rfl rfl (by decide) ?_
  intro cdv A outer s0 H E Z W hgd hr tk hz
  exact (dss_cons (ds_set 3 (de_add de_int (de_ixx (de_lst (da_1 (de_call G__law_draw tk hgd (hr.mono (by decide)) (dr_i 0 (dr_v de_int dr_0))) (da_1 (de_call G__law_draw tk hgd (hr.mono (by decide)) (dr_i 0 (dr_v de_int dr_0))) (da_1 (de_call G__law_draw tk hgd (hr.mono (by decide)) (dr_i 0 (dr_v (de_sub (de_pow de_int de_int) de_int) dr_0))) da_0)))) (de_call G__law_draw tk hgd (hr.mono (by decide)) (dr_i 0 (dr_v de_int dr_0))))) sc__law_change.nd (by rw [hz]; decide)) (dss_cons (ds_par3 4 5 6 rfl sc__law_change.nd (de_lst da_0) (de_add de_int (de_call G__law_draw tk hgd (hr.mono (by decide)) (dr_i 0 (dr_v (de_v 1) dr_0)))) (de_lst da_0) (by rw [hz]; decide) (by rw [hz]; decide) (by rw [hz]; decide)) (dss_cons (ds_set 7 (de_sub (de_v 5) (de_ixx (de_lst (da_1 de_int (da_1 de_int (da_1 (de_call G__law_draw tk hgd (hr.mono (by decide)) (dr_i 0 (dr_v (de_add (de_v 5) de_int) dr_0))) da_0)))) (de_call G__law_draw tk hgd (hr.mono (by decide)) (dr_i 0 (dr_v de_int dr_0))))) sc__law_change.nd (by rw [hz]; decide)) (dss_cons (ds_for (vs := [8]) rfl (di_r1 T.b_range (de_add de_int (de_call G__law_draw tk hgd (hr.mono (by decide)) (dr_i 0 (dr_v (de_v 2) dr_0))))) (dg_n 8 sc__law_change.nd (by decide) (by rw [hz]; decide)) (dss_cons (ds_app 4 (de_ixx (de_lst (da_1 (de_sub (de_add (de_call G__law_draw tk hgd (hr.mono (by decide)) (dr_i 0 (dr_v (de_sub (de_mul de_int (de_v 3)) de_int) dr_0))) de_int) (de_v 3)) (da_1 (de_sub de_int (de_v 3)) (da_1 de_int da_0)))) (de_call G__law_draw tk hgd (hr.mono (by decide)) (dr_i 0 (dr_v de_int dr_0))))) (dss_cons (ds_app 6 (de_call G__law_draw tk hgd (hr.mono (by decide)) (dr_i 0 (dr_v (de_add (de_v 7) de_int) dr_0)))) (dss_cons (ds_set 7 (de_sub (de_v 7) (de_get (dp_v 6) dq_neg)) sc__law_change.nd (by rw [hz]; decide)) dss_nil))) (passes_of rfl)) (dss_cons (ds_item (dp_v 6) dq_neg (de_add (de_get (dp_v 6) dq_neg) (de_ixx (de_lst (da_1 de_int (da_1 (de_v 7) da_0))) (de_call G__law_draw tk hgd (hr.mono (by decide)) (dr_i 0 (dr_v de_int dr_0)))))) (dss_cons (ds_ret (de_tup (da_1 (de_v 3) (da_1 (de_v 4) (da_1 (de_v 5) (da_1 (de_v 6) da_0)))))) dss_nil))))))
end
end Ev
namespace Ev
open PySem L2 OW
open DL (Dt FnG FnAt)
noncomputable section
def b_is_integer_4a98 : SF :=
  (sSeq (sIf (tOr (tNot (tV (xIs DL.Dt.isInt (xV 0)))) (tOr (tV (xIs DL.Dt.isBool (xV 0))) (tV (xBin cLt (xV 0) (xV 1))))) (sSeq (sRet (xK (.bl false))) sNil) sNil) (sSeq (sRet (xOr (xBin cIs (xV 2) (xK .non)) (xBin cLe (xV 0) (xV 2)))) sNil))
def f_is_integer_4a98 : FO := fnOf 3 [false, false, false] b_is_integer_4a98
end
end Ev
namespace Ev
open PySem L2 OW
open DL (Dt FnG FnAt)
section
variable {P : Program} {w : World} {K : PySem.W.Frag} {mg : Str → Option Value} {base : Heap} {f : Addr} {fd : FuncData}
theorem sc_is_integer : FnScope ["value", "low", "high"] ["value", "low", "high"] (defScope s_is_integer) := ⟨rfl, rfl, rfl, by decide +kernel, rfl, by decide +kernel, by decide +kernel⟩
theorem ok_is_integer (T : Txt mg) (F : Fun K "is_integer" "is_integer" s_is_integer f fd) : FnG P w K mg base 1 f fd ["value", "low", "high"] (spO mg K 3 f_is_integer_4a98) := by
  refine okO (N := ["value", "low", "high"]) (io := [false, false, false]) (body := b_is_integer_4a98) F sc_is_integer rfl rfl (by decide) ?_
  intro cdv A outer s0 H E Z W hgd hr tk hz
  exact (dss_cons (ds_if (DW.t (dw_or (dt_not (dt_v (de_isi DL.kit_isInt T.b_isinstance T.b_int (de_v 0)))) (dw_or (dt_v (de_isi DL.kit_isBool T.b_isinstance T.b_bool (de_v 0))) (dw_or1 (DC.t (dc_lt (de_v 0) (de_v 1))))))) (dss_cons (ds_ret de_bl) dss_nil) dss_nil) (dss_cons (ds_ret (de_or (DC.e (dc_is (de_v 2) de_non)) (de_one (DC.e (dc_le (de_v 0) (de_v 2)))))) dss_nil))
end
end Ev
namespace Ev
open PySem L2 OW
open DL (Dt FnG FnAt)
noncomputable section
def b_need_number_26f5 : SF :=
  (sSeq (sIf (tNot (tV (xCall 3 f_is_integer_4a98 (xRv (xV 0) (xRv (xV 1) (xRv (xV 2) xR0)))))) (sSeq (fun _ => none) sNil) sNil) sNil)
def f_need_number_26f5 : FO := fnOf 3 [false, false, false] b_need_number_26f5
end
end Ev
namespace Ev
open PySem L2 OW
open DL (Dt FnG FnAt)
section
variable {P : Program} {w : World} {K : PySem.W.Frag} {mg : Str → Option Value} {base : Heap} {f : Addr} {fd : FuncData}
theorem sc_need_number : FnScope ["value", "low", "high"] ["value", "low", "high"] (defScope s_need_number) := ⟨rfl, rfl, rfl, by decide +kernel, rfl, by decide +kernel, by decide +kernel⟩
theorem ok_need_number (T : Txt mg) (G_is_integer : FnAt P w K mg base "is_integer" s_is_integer 1 ["value", "low", "high"] (spO mg K 3 f_is_integer_4a98)) (F : Fun K "need_number" "need_number" s_need_number f fd) : FnG P w K mg base 2 f fd ["value", "low", "high"] (spO mg K 3 f_need_number_26f5) := by
  refine okO (N := ["value", "low", "high"]) (io := [false, false, false]) (body := b_need_number_26f5) F sc_need_number rfl rfl (by decide) ?_
  intro cdv A outer s0 H E Z W hgd hr tk hz
  exact (dss_cons (ds_if (dt_not (dt_v (de_call G_is_integer tk hgd (hr.mono (by decide)) (dr_v (de_v 0) (dr_v (de_v 1) (dr_v (de_v 2) dr_0)))))) (dss_cons ds_never dss_nil) dss_nil) dss_nil)
end
end Ev
namespace Ev
open PySem L2 OW
open DL (Dt FnG FnAt)
noncomputable section
def l1_need_lags_4133 : SF :=
  (sFor (iE (xV 1)) (gT (gs1 (gN 2) (gs1 (gN 3) gs0))) (sSeq (sIf (tNot (tV (xCall 3 f_is_integer_4a98 (xRv (xV 3) (xRv (xBin bSub (xK (.int 1)) (xV 0)) (xRv (xBin bSub (xV 0) (xK (.int 1))) xR0)))))) (sSeq (fun _ => none) sNil) sNil) sNil))
def b_need_lags_4133 : SF :=
  (sSeq (sIf (tOr (tNot (tV (xIs DL.Dt.isLst (xV 1)))) (tNot (tV (xCh (fun i j => decide (i ≤ j)) (fun i j => decide (i ≤ j)) (xK (.int 1)) (xC (oBs kLen) (xA1 (xV 1) xA0)) (xK (.int (12))))))) (sSeq (fun _ => none) sNil) sNil) (sSeq l1_need_lags_4133 sNil))
def f_need_lags_4133 : FO := fnOf 4 [false, false] b_need_lags_4133
end
end Ev
namespace Ev
open PySem L2 OW
open DL (Dt FnG FnAt)
section
variable {P : Program} {w : World} {K : PySem.W.Frag} {mg : Str → Option Value} {base : Heap} {f : Addr} {fd : FuncData}
theorem sc_need_lags : FnScope ["base", "lags", "index", "lag"] ["base", "lags"] (defScope s_need_lags) := ⟨rfl, rfl, rfl, by decide +kernel, rfl, by decide +kernel, by decide +kernel⟩
theorem ok_need_lags (T : Txt mg) (G_is_integer : FnAt P w K mg base "is_integer" s_is_integer 1 ["value", "low", "high"] (spO mg K 3 f_is_integer_4a98)) (F : Fun K "need_lags" "need_lags" s_need_lags f fd) : FnG P w K mg base 2 f fd ["base", "lags"] (spO mg K 2 f_need_lags_4133) := by
  refine okO (N := ["base", "lags", "index", "lag"]) (io := [false, false]) (body := b_need_lags_4133) F sc_need_lags rfl rfl (by decide) ?_
  intro cdv A outer s0 H E Z W hgd hr tk hz
  exact (dss_cons (ds_if (DW.t (dw_or (dt_not (dt_v (de_isi DL.kit_isLst T.b_isinstance T.b_list (de_v 1)))) (dw_or1 (dt_not (DC.t (dc_ch op_le op_le de_int (de_kB (fun _ _ h => rf_len h) ⟨_, call_len_seq⟩ T.b_len (da_1 (de_v 1) da_0)) (de_globI T.c_MOST_PROCESSES))))))) (dss_cons ds_never dss_nil) dss_nil) (dss_cons (ds_for (vs := [2, 3]) rfl (di_e T.b_enumerate (de_v 1)) (dg_t rfl (dgs_1 (dg_n 2 sc_need_lags.nd (by decide) (by rw [hz]; decide)) (dgs_1 (dg_n 3 sc_need_lags.nd (by decide) (by rw [hz]; decide)) dgs_0)) (fun _ _ _ h => gs1_len (fun _ _ _ h => gs1_len (fun _ _ _ h => gs0_len h) h) h)) (dss_cons (ds_if (dt_not (dt_v (de_call G_is_integer tk hgd (hr.mono (by decide)) (dr_v (de_v 3) (dr_v (de_sub de_int (de_v 0)) (dr_v (de_sub (de_v 0) de_int) dr_0)))))) (dss_cons ds_never dss_nil) dss_nil) dss_nil) (passes_of rfl)) dss_nil))
end
end Ev
namespace Ev
open PySem L2 OW
open DL (Dt FnG FnAt)
noncomputable section
def l1_need_shares_7c9d : SF :=
  (sFor (iE (xV 0)) (gT (gs1 (gN 4) (gs1 (gN 5) gs0))) (sSeq (sIf (tNot (tV (xCall 3 f_is_integer_4a98 (xRv (xV 5) (xRv (xK (.int 0)) (xRv (xV 3) xR0)))))) (sSeq (fun _ => none) sNil) sNil) (sSeq (sSet 3 (xBin bSub (xV 3) (xV 5))) sNil)))
def b_need_shares_7c9d : SF :=
  (sSeq (sIf (tOr (tNot (tV (xIs DL.Dt.isLst (xV 0)))) (tV (xBin cNe (xC (oBs kLen) (xA1 (xV 0) xA0)) (xV 1)))) (sSeq (fun _ => none) sNil) sNil) (sSeq (sSet 3 (xV 2)) (sSeq l1_need_shares_7c9d sNil)))
def f_need_shares_7c9d : FO := fnOf 6 [false, false, false] b_need_shares_7c9d
end
end Ev
namespace Ev
open PySem L2 OW
open DL (Dt FnG FnAt)
section
variable {P : Program} {w : World} {K : PySem.W.Frag} {mg : Str → Option Value} {base : Heap} {f : Addr} {fd : FuncData}
theorem sc_need_shares : FnScope ["shares", "many", "period", "left", "index", "share"] ["shares", "many", "period"] (defScope s_need_shares) := ⟨rfl, rfl, rfl, by decide +kernel, rfl, by decide +kernel, by decide +kernel⟩
theorem ok_need_shares (T : Txt mg) (G_is_integer : FnAt P w K mg base "is_integer" s_is_integer 1 ["value", "low", "high"] (spO mg K 3 f_is_integer_4a98)) (F : Fun K "need_shares" "need_shares" s_need_shares f fd) : FnG P w K mg base 2 f fd ["shares", "many", "period"] (spO mg K 3 f_need_shares_7c9d) := by
  refine okO (N := ["shares", "many", "period", "left", "index", "share"]) (io := [false, false, false]) (body := b_need_shares_7c9d) F sc_need_shares rfl rfl (by decide) ?_
  intro cdv A outer s0 H E Z W hgd hr tk hz
  exact (dss_cons (ds_if (DW.t (dw_or (dt_not (dt_v (de_isi DL.kit_isLst T.b_isinstance T.b_list (de_v 0)))) (dw_or1 (DC.t (dc_ne hr (de_kB (fun _ _ h => rf_len h) ⟨_, call_len_seq⟩ T.b_len (da_1 (de_v 0) da_0)) (de_v 1)))))) (dss_cons ds_never dss_nil) dss_nil) (dss_cons (ds_set 3 (de_v 2) sc_need_shares.nd (by rw [hz]; decide)) (dss_cons (ds_for (vs := [4, 5]) rfl (di_e T.b_enumerate (de_v 0)) (dg_t rfl (dgs_1 (dg_n 4 sc_need_shares.nd (by decide) (by rw [hz]; decide)) (dgs_1 (dg_n 5 sc_need_shares.nd (by decide) (by rw [hz]; decide)) dgs_0)) (fun _ _ _ h => gs1_len (fun _ _ _ h => gs1_len (fun _ _ _ h => gs0_len h) h) h)) (dss_cons (ds_if (dt_not (dt_v (de_call G_is_integer tk hgd (hr.mono (by decide)) (dr_v (de_v 5) (dr_v de_int (dr_v (de_v 3) dr_0)))))) (dss_cons ds_never dss_nil) dss_nil) (dss_cons (ds_set 3 (de_sub (de_v 3) (de_v 5)) sc_need_shares.nd (by rw [hz]; decide)) dss_nil)) (passes_of rfl)) dss_nil)))
end
end Ev
namespace Ev
open PySem L2 OW
open DL (Dt FnG FnAt)
noncomputable section
def b_need_change_b832 : SF :=
  (sSeq (sExpr (xCall 3 f_need_number_26f5 (xRv (xV 0) (xRv (xK (.int 1)) (xRv (xK (.int (999999999999999999999999999999))) xR0))))) (sSeq (sExpr (xCall 2 f_need_lags_4133 (xRv (xV 0) (xRv (xV 1) xR0)))) (sSeq (sExpr (xCall 3 f_need_number_26f5 (xRv (xV 2) (xRv (xK (.int 1)) (xRv (xK (.int (3000))) xR0))))) (sSeq (sExpr (xCall 3 f_need_shares_7c9d (xRv (xV 3) (xRv (xC (oBs kLen) (xA1 (xV 1) xA0)) (xRv (xV 2) xR0))))) sNil))))
def f_need_change_b832 : FO := fnOf 4 [false, false, false, false] b_need_change_b832
end
end Ev
namespace Ev
open PySem L2 OW
open DL (Dt FnG FnAt)
section
variable {P : Program} {w : World} {K : PySem.W.Frag} {mg : Str → Option Value} {base : Heap} {f : Addr} {fd : FuncData}
theorem sc_need_change : FnScope ["base", "lags", "period", "shares"] ["base", "lags", "period", "shares"] (defScope s_need_change) := ⟨rfl, rfl, rfl, by decide +kernel, rfl, by decide +kernel, by decide +kernel⟩
theorem ok_need_change (T : Txt mg) (G_need_number : FnAt P w K mg base "need_number" s_need_number 2 ["value", "low", "high"] (spO mg K 3 f_need_number_26f5)) (G_need_lags : FnAt P w K mg base "need_lags" s_need_lags 2 ["base", "lags"] (spO mg K 2 f_need_lags_4133)) (G_need_shares : FnAt P w K mg base "need_shares" s_need_shares 2 ["shares", "many", "period"] (spO mg K 3 f_need_shares_7c9d)) (F : Fun K "need_change" "need_change" s_need_change f fd) : FnG P w K mg base 3 f fd ["base", "lags", "period", "shares"] (spO mg K 4 f_need_change_b832) := by
  refine okO (N := ["base", "lags", "period", "shares"]) (io := [false, false, false, false]) (body := b_need_change_b832) F sc_need_change rfl rfl (by decide) ?_
  intro cdv A outer s0 H E Z W hgd hr tk hz
  exact (dss_cons (ds_expr (de_call G_need_number tk hgd (hr.mono (by decide)) (dr_v (de_v 0) (dr_v de_int (dr_v (de_globI T.c_MOST_BASE) dr_0))))) (dss_cons (ds_expr (de_call G_need_lags tk hgd (hr.mono (by decide)) (dr_v (de_v 0) (dr_v (de_v 1) dr_0)))) (dss_cons (ds_expr (de_call G_need_number tk hgd (hr.mono (by decide)) (dr_v (de_v 2) (dr_v de_int (dr_v (de_globI T.c_MOST_PERIOD) dr_0))))) (dss_cons (ds_expr (de_call G_need_shares tk hgd (hr.mono (by decide)) (dr_v (de_v 3) (dr_v (de_kB (fun _ _ h => rf_len h) ⟨_, call_len_seq⟩ T.b_len (da_1 (de_v 1) da_0)) (dr_v (de_v 2) dr_0))))) dss_nil))))
end
end Ev
namespace Ev
open PySem L2 OW
open DL (Dt FnG FnAt)
noncomputable section
def x1_due_later_72fa : Fn Ow :=
  (xComp [8] (iL (xV 5)) (gN 8) (tV (xBin cGt (xV 8) (xK (.int 0)))) (xV 8))
def x2_due_later_72fa : Fn Ow :=
  (xComp [6, 7] (iZ (xV 1) (xV 3)) (gT (gs1 (gN 6) (gs1 (gN 7) gs0))) tY (xBin bDiv (xBin bAdd (xBin bMul (xV 6) (xV 2)) (xBin bMul (xBin bMul (xV 7) (xV 4)) (xV 0))) (xBin bMul (xV 0) (xV 2))))
def b_due_later_72fa : SF :=
  (sSeq (sSet 5 x2_due_later_72fa) (sSeq (sRet (xC (oBs kSum) (xA1 x1_due_later_72fa xA0))) sNil))
def f_due_later_72fa : FO := fnOf 9 [false, false, false, false, false] b_due_later_72fa
end
end Ev
namespace Ev
open PySem L2 OW
open DL (Dt FnG FnAt)
section
variable {P : Program} {w : World} {K : PySem.W.Frag} {mg : Str → Option Value} {base : Heap} {f : Addr} {fd : FuncData}
theorem sc_due_later : FnScope ["base", "lags", "period", "shares", "later", "dues", "lag", "share", "due"] ["base", "lags", "period", "shares", "later"] (defScope s_due_later) := ⟨rfl, rfl, rfl, by decide +kernel, rfl, by decide +kernel, by decide +kernel⟩
theorem ok_due_later (T : Txt mg) (F : Fun K "due_later" "due_later" s_due_later f fd) : FnG P w K mg base 1 f fd ["base", "lags", "period", "shares", "later"] (spO mg K 5 f_due_later_72fa) := by
  refine okO (N := ["base", "lags", "period", "shares", "later", "dues", "lag", "share", "due"]) (io := [false, false, false, false, false]) (body := b_due_later_72fa) F sc_due_later rfl rfl (by decide) ?_
  intro cdv A outer s0 H E Z W hgd hr tk hz
  exact (dss_cons (ds_setLc 5 rfl (own := [("lag", 6), ("share", 7)]) (di_z T.b_zip (de_v 1) (de_v 3)) (blkOk_by (N := ["base", "lags", "period", "shares", "later", "dues", "lag", "share", "due"]) (sc := defScope s_due_later) (own := [("lag", 6), ("share", 7)]) (by decide +kernel)) sc_due_later.nd (fun _ _ _ _ _ => (dg_t rfl (dgs_1 (dg_n 6 sc_due_later.nd (by decide) (by decide)) (dgs_1 (dg_n 7 sc_due_later.nd (by decide) (by decide)) dgs_0)) (fun _ _ _ h => gs1_len (fun _ _ _ h => gs1_len (fun _ _ _ h => gs0_len h) h) h))) (fun _ _ _ _ _ => dts_0) (fun _ _ _ _ _ => (de_div (de_add (de_mul (de_v 6) (de_v 2)) (de_mul (de_mul (de_v 7) (de_v 4)) (de_v 0))) (de_mul (de_v 0) (de_v 2)))) (by rw [hz]; decide)) (dss_cons (ds_ret (de_kB (fun _ _ h => rf_sum rfl h) ⟨_, cr_sum rfl⟩ T.b_sum (da_1 (de_comp rfl (own := [("due", 8)]) (di_l (de_v 5)) (blkOk_by (N := ["base", "lags", "period", "shares", "later", "dues", "lag", "share", "due"]) (sc := defScope s_due_later) (own := [("due", 8)]) (by decide +kernel)) sc_due_later.nd (fun _ _ _ _ _ => (dg_n 8 sc_due_later.nd (by decide) (by decide))) (fun _ _ _ _ _ => (dts_1 (DC.t (dc_gt (de_v 8) de_int)))) (fun _ _ _ _ _ => (de_v 8))) da_0))) dss_nil))
end
end Ev
namespace Ev
open PySem L2 OW
open DL (Dt FnG FnAt)
noncomputable section
def l1_failing_4e64 : SF :=
  (sFor (iR2 (xK (.int 1)) (xBin bAdd (xV 2) (xK (.int 1)))) (gN 4) (sSeq (sIf (tV (xBin cGt (xCall 5 f_due_later_72fa (xRv (xV 0) (xRv (xV 1) (xRv (xV 2) (xRv (xV 3) (xRv (xV 4) xR0)))))) (xV 4))) (sSeq (sRet (xM 4)) sNil) sNil) sNil))
def b_failing_4e64 : SF :=
  (sSeq l1_failing_4e64 (sSeq (sRet (xK .non)) sNil))
def f_failing_4e64 : FO := fnOf 5 [false, false, false, false] b_failing_4e64
end
end Ev
namespace Ev
open PySem L2 OW
open DL (Dt FnG FnAt)
section
variable {P : Program} {w : World} {K : PySem.W.Frag} {mg : Str → Option Value} {base : Heap} {f : Addr} {fd : FuncData}
theorem sc_failing : FnScope ["base", "lags", "period", "shares", "later"] ["base", "lags", "period", "shares"] (defScope s_failing) := ⟨rfl, rfl, rfl, by decide +kernel, rfl, by decide +kernel, by decide +kernel⟩
theorem ok_failing (T : Txt mg) (G_due_later : FnAt P w K mg base "due_later" s_due_later 1 ["base", "lags", "period", "shares", "later"] (spO mg K 5 f_due_later_72fa)) (F : Fun K "failing" "failing" s_failing f fd) : FnG P w K mg base 2 f fd ["base", "lags", "period", "shares"] (spO mg K 4 f_failing_4e64) := by
  refine okO (N := ["base", "lags", "period", "shares", "later"]) (io := [false, false, false, false]) (body := b_failing_4e64) F sc_failing rfl rfl (by decide) ?_
  intro cdv A outer s0 H E Z W hgd hr tk hz
  exact (dss_cons (ds_for (vs := [4]) rfl (di_r2 T.b_range de_int (de_add (de_v 2) de_int)) (dg_n 4 sc_failing.nd (by decide) (by rw [hz]; decide)) (dss_cons (ds_if (DC.t (dc_gt (de_call G_due_later tk hgd (hr.mono (by decide)) (dr_v (de_v 0) (dr_v (de_v 1) (dr_v (de_v 2) (dr_v (de_v 3) (dr_v (de_v 4) dr_0)))))) (de_v 4))) (dss_cons (ds_ret (de_m 4)) dss_nil) dss_nil) dss_nil) (passes_of rfl)) (dss_cons (ds_ret de_non) dss_nil))
end
end Ev
namespace Ev
open PySem L2 OW
open DL (Dt FnG FnAt)
noncomputable section
def b_failing_moment_dee4 : SF :=
  (sSeq (sExpr (xCall 4 f_need_change_b832 (xRv (xV 0) (xRv (xV 1) (xRv (xV 2) (xRv (xV 3) xR0)))))) (sSeq (sRet (xCall 4 f_failing_4e64 (xRv (xV 0) (xRv (xV 1) (xRv (xV 2) (xRv (xV 3) xR0)))))) sNil))
def f_failing_moment_dee4 : FO := fnOf 4 [false, false, false, false] b_failing_moment_dee4
end
end Ev
namespace Ev
open PySem L2 OW
open DL (Dt FnG FnAt)
section
variable {P : Program} {w : World} {K : PySem.W.Frag} {mg : Str → Option Value} {base : Heap} {f : Addr} {fd : FuncData}
theorem sc_failing_moment : FnScope ["base", "lags", "period", "shares"] ["base", "lags", "period", "shares"] (defScope s_failing_moment) := ⟨rfl, rfl, rfl, by decide +kernel, rfl, by decide +kernel, by decide +kernel⟩
theorem ok_failing_moment (T : Txt mg) (G_need_change : FnAt P w K mg base "need_change" s_need_change 3 ["base", "lags", "period", "shares"] (spO mg K 4 f_need_change_b832)) (G_failing : FnAt P w K mg base "failing" s_failing 2 ["base", "lags", "period", "shares"] (spO mg K 4 f_failing_4e64)) (F : Fun K "failing_moment" "failing_moment" s_failing_moment f fd) : FnG P w K mg base 4 f fd ["base", "lags", "period", "shares"] (spO mg K 4 f_failing_moment_dee4) := by
  refine okO (N := ["base", "lags", "period", "shares"]) (io := [false, false, false, false]) (body := b_failing_moment_dee4) F sc_failing_moment rfl rfl (by decide) ?_
  intro cdv A outer s0 H E Z W hgd hr tk hz
  exact (dss_cons (ds_expr (de_call G_need_change tk hgd (hr.mono (by decide)) (dr_v (de_v 0) (dr_v (de_v 1) (dr_v (de_v 2) (dr_v (de_v 3) dr_0)))))) (dss_cons (ds_ret (de_call G_failing tk hgd (hr.mono (by decide)) (dr_v (de_v 0) (dr_v (de_v 1) (dr_v (de_v 2) (dr_v (de_v 3) dr_0)))))) dss_nil))
end
end Ev
namespace Ev
open PySem L2 OW
open DL (Dt FnG FnAt)
noncomputable section
def b_can_change_9bf2 : SF :=
  (sSeq (sExpr (xCall 4 f_need_change_b832 (xRv (xV 0) (xRv (xV 1) (xRv (xV 2) (xRv (xV 3) xR0)))))) (sSeq (sRet (xBin cIs (xCall 4 f_failing_4e64 (xRv (xV 0) (xRv (xV 1) (xRv (xV 2) (xRv (xV 3) xR0))))) (xK .non))) sNil))
def f_can_change_9bf2 : FO := fnOf 4 [false, false, false, false] b_can_change_9bf2
end
end Ev
namespace Ev
open PySem L2 OW
open DL (Dt FnG FnAt)
section
variable {P : Program} {w : World} {K : PySem.W.Frag} {mg : Str → Option Value} {base : Heap} {f : Addr} {fd : FuncData}
theorem sc_can_change : FnScope ["base", "lags", "period", "shares"] ["base", "lags", "period", "shares"] (defScope s_can_change) := ⟨rfl, rfl, rfl, by decide +kernel, rfl, by decide +kernel, by decide +kernel⟩
theorem ok_can_change (T : Txt mg) (G_need_change : FnAt P w K mg base "need_change" s_need_change 3 ["base", "lags", "period", "shares"] (spO mg K 4 f_need_change_b832)) (G_failing : FnAt P w K mg base "failing" s_failing 2 ["base", "lags", "period", "shares"] (spO mg K 4 f_failing_4e64)) (F : Fun K "can_change" "can_change" s_can_change f fd) : FnG P w K mg base 4 f fd ["base", "lags", "period", "shares"] (spO mg K 4 f_can_change_9bf2) := by
  refine okO (N := ["base", "lags", "period", "shares"]) (io := [false, false, false, false]) (body := b_can_change_9bf2) F sc_can_change rfl rfl (by decide) ?_
  intro cdv A outer s0 H E Z W hgd hr tk hz
  exact (dss_cons (ds_expr (de_call G_need_change tk hgd (hr.mono (by decide)) (dr_v (de_v 0) (dr_v (de_v 1) (dr_v (de_v 2) (dr_v (de_v 3) dr_0)))))) (dss_cons (ds_ret (DC.e (dc_is (de_call G_failing tk hgd (hr.mono (by decide)) (dr_v (de_v 0) (dr_v (de_v 1) (dr_v (de_v 2) (dr_v (de_v 3) dr_0))))) de_non))) dss_nil))
end
end Ev
namespace Ev
open PySem L2 OW
open DL (Dt FnG FnAt)
noncomputable section
def x1__law_failing_b061 : Fn Ow :=
  (xComp [6, 7] (iZ (xV 1) (xV 3)) (gT (gs1 (gN 6) (gs1 (gN 7) gs0))) tY (xC (oBs kMax) (xA1 (xK (.int 0)) (xA1 (xBin bDiv (xBin bAdd (xBin bMul (xV 6) (xV 2)) (xBin bMul (xBin bMul (xV 7) (xV 4)) (xV 0))) (xBin bMul (xV 0) (xV 2))) xA0))))
def l1__law_failing_b061 : SF :=
  (sFor (iR2 (xK (.int 1)) (xBin bAdd (xV 2) (xK (.int 1)))) (gN 4) (sSeq (sSet 5 x1__law_failing_b061) (sSeq (sIf (tV (xBin cGt (xC (oBs kSum) (xA1 (xV 5) xA0)) (xV 4))) (sSeq (sRet (xM 4)) sNil) sNil) sNil)))
def b__law_failing_b061 : SF :=
  (sSeq l1__law_failing_b061 (sSeq (sRet (xK .non)) sNil))
def f__law_failing_b061 : FO := fnOf 8 [false, false, false, false] b__law_failing_b061
end
end Ev
namespace Ev
open PySem L2 OW
open DL (Dt FnG FnAt)
section
variable {P : Program} {w : World} {K : PySem.W.Frag} {mg : Str → Option Value} {base : Heap} {f : Addr} {fd : FuncData}
theorem sc__law_failing : FnScope ["ground", "some", "span", "parts", "later", "more", "gap", "part"] ["ground", "some", "span", "parts"] (defScope s__law_failing) := ⟨rfl, rfl, rfl, by decide +kernel, rfl, by decide +kernel, by decide +kernel⟩
theorem ok__law_failing (T : Txt mg) (F : Fun K "_law_failing" "_law_failing" s__law_failing f fd) : FnG P w K mg base 1 f fd ["ground", "some", "span", "parts"] (spO mg K 4 f__law_failing_b061) := by
  refine okO (N := ["ground", "some", "span", "parts", "later", "more", "gap", "part"]) (io := [false, false, false, false]) (body := b__law_failing_b061) F sc__law_failing rfl rfl (by decide) ?_
  intro cdv A outer s0 H E Z W hgd hr tk hz
  exact (dss_cons (ds_for (vs := [4]) rfl (di_r2 T.b_range de_int (de_add (de_v 2) de_int)) (dg_n 4 sc__law_failing.nd (by decide) (by rw [hz]; decide)) (dss_cons (ds_setLc 5 rfl (own := [("gap", 6), ("part", 7)]) (di_z T.b_zip (de_v 1) (de_v 3)) (blkOk_by (N := ["ground", "some", "span", "parts", "later", "more", "gap", "part"]) (sc := defScope s__law_failing) (own := [("gap", 6), ("part", 7)]) (by decide +kernel)) sc__law_failing.nd (fun _ _ _ _ _ => (dg_t rfl (dgs_1 (dg_n 6 sc__law_failing.nd (by decide) (by decide)) (dgs_1 (dg_n 7 sc__law_failing.nd (by decide) (by decide)) dgs_0)) (fun _ _ _ h => gs1_len (fun _ _ _ h => gs1_len (fun _ _ _ h => gs0_len h) h) h))) (fun _ _ _ _ _ => dts_0) (fun _ _ _ _ _ => (de_kB (fun _ _ h => rf_max rfl h) ⟨_, cr_max rfl⟩ T.b_max (da_1 de_int (da_1 (de_div (de_add (de_mul (de_v 6) (de_v 2)) (de_mul (de_mul (de_v 7) (de_v 4)) (de_v 0))) (de_mul (de_v 0) (de_v 2))) da_0)))) (by rw [hz]; decide)) (dss_cons (ds_if (DC.t (dc_gt (de_kB (fun _ _ h => rf_sum rfl h) ⟨_, cr_sum rfl⟩ T.b_sum (da_1 (de_v 5) da_0)) (de_v 4))) (dss_cons (ds_ret (de_m 4)) dss_nil) dss_nil) dss_nil)) (passes_of rfl)) (dss_cons (ds_ret de_non) dss_nil))
end
end Ev
namespace Ev
open PySem L2 OW
open DL (Dt FnG FnAt)
noncomputable section
def x1__law_can_fe40 : Fn Ow :=
  (xComp [12, 13] (iE (xV 3)) (gT (gs1 (gN 12) (gs1 (gN 13) gs0))) tY (xBin bSub (xBin bAdd (xQ (qIx (pV 8) (qV 12))) (xBin bMul (xV 13) (xV 0))) (xBin bMul (xV 4) (xC (oBs kInt) (xA1 (xBin cEq (xV 12) (xV 9)) xA0)))))
def l1__law_can_fe40 : SF :=
  (sFor (iR2 (xUn bNeg (xK (.int 1))) (xC (oBs kLen) (xA1 (xV 3) xA0))) (gN 9) (sSeq (sSet 10 x1__law_can_fe40) (sSeq (sIf (tAnd (tV (xBin cLt (xUn bNeg (xV 4)) (xC (oBs kMinP) (xA1 (xV 10) xA0)))) (tAnd (tV (xBin cLt (xC (oBs kMax) (xA1 (xV 10) xA0)) (xV 4))) (tBor (tV (xBin cNi (xV 10) (xV 7)))))) (sSeq (sApp 7 (xV 10)) sNil) sNil) sNil)))
def l2__law_can_fe40 : SF :=
  (sFor (iL (xV 5)) (gN 8) (sSeq l1__law_can_fe40 sNil))
def l3__law_can_fe40 : SF :=
  (sFor (iR1 (xBin bAdd (xBin bMul (xV 2) (xBin bPow (xK (.int 2)) (xK (.int 3)))) (xK (.int 1)))) (gN 6) (sSeq (sSet 7 (xLst xA0)) (sSeq l2__law_can_fe40 (sSeq (sSet 5 (xV 7)) sNil))))
def x2__law_can_fe40 : Fn Ow :=
  (xComp [11] (iL (xV 1)) (gN 11) tY (xBin bMul (xV 11) (xV 2)))
def b__law_can_fe40 : SF :=
  (sSeq (sTup2 4 5 (xBin bMul (xV 0) (xV 2)) (xLst (xA1 x2__law_can_fe40 xA0))) (sSeq l3__law_can_fe40 (sSeq (sRet (xBin cNe (xV 5) (xLst xA0))) sNil)))
def f__law_can_fe40 : FO := fnOf 14 [false, false, false, false] b__law_can_fe40
end
end Ev
namespace Ev
open PySem L2 OW
open DL (Dt FnG FnAt)
section
variable {P : Program} {w : World} {K : PySem.W.Frag} {mg : Str → Option Value} {base : Heap} {f : Addr} {fd : FuncData}
theorem sc__law_can : FnScope ["ground", "some", "span", "parts", "whole", "line", "turn", "later", "here", "runs", "row", "gap", "spot", "part"] ["ground", "some", "span", "parts"] (defScope s__law_can) := ⟨rfl, rfl, rfl, by decide +kernel, rfl, by decide +kernel, by decide +kernel⟩
theorem ok__law_can (T : Txt mg) (F : Fun K "_law_can" "_law_can" s__law_can f fd) : FnG P w K mg base 1 f fd ["ground", "some", "span", "parts"] (spO mg K 4 f__law_can_fe40) := by
  refine okO (N := ["ground", "some", "span", "parts", "whole", "line", "turn", "later", "here", "runs", "row", "gap", "spot", "part"]) (io := [false, false, false, false]) (body := b__law_can_fe40) F sc__law_can rfl rfl (by decide) ?_
  intro cdv A outer s0 H E Z W hgd hr tk hz
  exact (dss_cons (ds_tup2 4 5 rfl sc__law_can.nd (de_mul (de_v 0) (de_v 2)) (de_lst (da_1 (de_comp rfl (own := [("gap", 11)]) (di_l (de_v 1)) (blkOk_by (N := ["ground", "some", "span", "parts", "whole", "line", "turn", "later", "here", "runs", "row", "gap", "spot", "part"]) (sc := defScope s__law_can) (own := [("gap", 11)]) (by decide +kernel)) sc__law_can.nd (fun _ _ _ _ _ => (dg_n 11 sc__law_can.nd (by decide) (by decide))) (fun _ _ _ _ _ => dts_0) (fun _ _ _ _ _ => (de_mul (de_v 11) (de_v 2)))) da_0)) (by rw [hz]; decide) (by rw [hz]; decide)) (dss_cons (ds_for (vs := [6]) rfl (di_r1 T.b_range (de_add (de_mul (de_v 2) (de_pow de_int de_int)) de_int)) (dg_n 6 sc__law_can.nd (by decide) (by rw [hz]; decide)) (dss_cons (ds_set 7 (de_lst da_0) sc__law_can.nd (by rw [hz]; decide)) (dss_cons (ds_for (vs := [8]) rfl (di_l (de_v 5)) (dg_n 8 sc__law_can.nd (by decide) (by rw [hz]; decide)) (dss_cons (ds_for (vs := [9]) rfl (di_r2 T.b_range (de_neg de_int) (de_kB (fun _ _ h => rf_len h) ⟨_, call_len_seq⟩ T.b_len (da_1 (de_v 3) da_0))) (dg_n 9 sc__law_can.nd (by decide) (by rw [hz]; decide)) (dss_cons (ds_setLc 10 rfl (own := [("spot", 12), ("part", 13)]) (di_e T.b_enumerate (de_v 3)) (blkOk_by (N := ["ground", "some", "span", "parts", "whole", "line", "turn", "later", "here", "runs", "row", "gap", "spot", "part"]) (sc := defScope s__law_can) (own := [("spot", 12), ("part", 13)]) (by decide +kernel)) sc__law_can.nd (fun _ _ _ _ _ => (dg_t rfl (dgs_1 (dg_n 12 sc__law_can.nd (by decide) (by decide)) (dgs_1 (dg_n 13 sc__law_can.nd (by decide) (by decide)) dgs_0)) (fun _ _ _ h => gs1_len (fun _ _ _ h => gs1_len (fun _ _ _ h => gs0_len h) h) h))) (fun _ _ _ _ _ => dts_0) (fun _ _ _ _ _ => (de_sub (de_add (de_q (dq_ix (dp_v 8) (dq_v 12))) (de_mul (de_v 13) (de_v 0))) (de_mul (de_v 4) (de_kT (fun _ _ h => rf_int h) ⟨_, call_int1⟩ T.b_int (da_1 (DC.e (dc_eq hr (de_v 12) (de_v 9))) da_0))))) (by rw [hz]; decide)) (dss_cons (ds_if (DW.t (dw_and (DC.t (dc_lt (de_neg (de_v 4)) (de_kB (fun _ _ h => rf_minP rfl (by exact un65 hr) h) ⟨_, cr_min rfl⟩ T.b_min (da_1 (de_v 10) da_0)))) (dw_and (DC.t (dc_lt (de_kB (fun _ _ h => rf_max rfl h) ⟨_, cr_max rfl⟩ T.b_max (da_1 (de_v 10) da_0)) (de_v 4))) (dw_and1 (dt_bor (DC.t (dc_ni hr (un65 hr) (de_v 10) (de_v 7)))))))) (dss_cons (ds_app 7 (de_v 10)) dss_nil) dss_nil) dss_nil)) (passes_of rfl)) dss_nil) (passes_of rfl)) (dss_cons (ds_set 5 (de_v 7) sc__law_can.nd (by rw [hz]; decide)) dss_nil))) (passes_of rfl)) (dss_cons (ds_ret (DC.e (dc_ne hr (de_v 5) (de_lst da_0)))) dss_nil)))
end
end Ev
namespace Ev
open PySem L2 OW
open DL (Dt FnG FnAt)
noncomputable section
def b__law_right_3951 : SF :=
  (sSeq (sPar 5 6 (xC (oBs kRepr) (xA1 (xLst (xA1 (xV 1) (xA1 (xV 3) xA0))) xA0)) (xCall 4 f__law_failing_b061 (xRv (xV 0) (xRv (xV 1) (xRv (xV 2) (xRv (xV 3) xR0)))))) (sSeq (sSet 7 (xLst (xA1 (xCall 4 f_failing_moment_dee4 (xRv (xV 0) (xRv (xV 1) (xRv (xV 2) (xRv (xV 3) xR0))))) xA0))) (sSeq (sApp 7 (xCallK 4 4 [3, 2, 1, 0] f_failing_moment_dee4 (xA1 (xV 3) (xA1 (xV 2) (xA1 (xV 1) (xA1 (xV 0) xA0)))))) (sSeq (sIf (tOr (tV (xBin cNe (xC (oBs kRepr) (xA1 (xV 7) xA0)) (xC (oBs kRepr) (xA1 (xLst (xA1 (xV 6) (xA1 (xV 6) xA0))) xA0)))) (tAnd (tV (xV 4)) (tV (xBin cNe (xCall 4 f__law_can_fe40 (xRv (xV 0) (xRv (xV 1) (xRv (xV 2) (xRv (xV 3) xR0))))) (xBin cIs (xV 6) (xK .non)))))) (sSeq (sRet (xK (.bl false))) sNil) sNil) (sSeq (sSet 7 (xLst (xA1 (xCall 4 f_can_change_9bf2 (xRv (xV 0) (xRv (xV 1) (xRv (xV 2) (xRv (xV 3) xR0))))) (xA1 (xCallK 4 4 [3, 2, 1, 0] f_can_change_9bf2 (xA1 (xV 3) (xA1 (xV 2) (xA1 (xV 1) (xA1 (xV 0) xA0))))) xA0)))) (sSeq (sRet (xAnd (xBin cEq (xC (oBs kRepr) (xA1 (xV 7) xA0)) (xC (oBs kRepr) (xA1 (xBin bMul (xLst (xA1 (xBin cIs (xV 6) (xK .non)) xA0)) (xK (.int 2))) xA0))) (xBin cEq (xC (oBs kRepr) (xA1 (xLst (xA1 (xV 1) (xA1 (xV 3) xA0))) xA0)) (xV 5)))) sNil))))))
def f__law_right_3951 : FO := fnOf 8 [false, false, false, false, false] b__law_right_3951
end
end Ev
namespace Ev
open PySem L2 OW
open DL (Dt FnG FnAt)
section
variable {P : Program} {w : World} {K : PySem.W.Frag} {mg : Str → Option Value} {base : Heap} {f : Addr} {fd : FuncData}
theorem sc__law_right : FnScope ["ground", "some", "span", "parts", "is_short", "kept", "due", "told"] ["ground", "some", "span", "parts", "is_short"] (defScope s__law_right) := ⟨rfl, rfl, rfl, by decide +kernel, rfl, by decide +kernel, by decide +kernel⟩
theorem ok__law_right (T : Txt mg) (G__law_failing : FnAt P w K mg base "_law_failing" s__law_failing 1 ["ground", "some", "span", "parts"] (spO mg K 4 f__law_failing_b061)) (G_failing_moment : FnAt P w K mg base "failing_moment" s_failing_moment 4 ["base", "lags", "period", "shares"] (spO mg K 4 f_failing_moment_dee4)) (G_can_change : FnAt P w K mg base "can_change" s_can_change 4 ["base", "lags", "period", "shares"] (spO mg K 4 f_can_change_9bf2)) (G__law_can : FnAt P w K mg base "_law_can" s__law_can 1 ["ground", "some", "span", "parts"] (spO mg K 4 f__law_can_fe40)) (F : Fun K "_law_right" "_law_right" s__law_right f fd) : FnG P w K mg base 5 f fd ["ground", "some", "span", "parts", "is_short"] (spO mg K 5 f__law_right_3951) := by
  refine okO (N := ["ground", "some", "span", "parts", "is_short", "kept", "due", "told"]) (io := [false, false, false, false, false]) (body := b__law_right_3951) F sc__law_right rfl rfl (by decide) ?_
  intro cdv A outer s0 H E Z W hgd hr tk hz
  exact (dss_cons (ds_par 5 6 rfl sc__law_right.nd (de_kB (fun _ _ h => rf_repr (by exact hgd) (by exact hr) h) ⟨_, DL.cr_repr (by exact hgd) (by exact hr)⟩ T.b_repr (da_1 (de_lst (da_1 (de_v 1) (da_1 (de_v 3) da_0))) da_0)) (de_call G__law_failing tk hgd (hr.mono (by decide)) (dr_v (de_v 0) (dr_v (de_v 1) (dr_v (de_v 2) (dr_v (de_v 3) dr_0))))) (by rw [hz]; decide) (by rw [hz]; decide)) (dss_cons (ds_set 7 (de_lst (da_1 (de_call G_failing_moment tk hgd (hr.mono (by decide)) (dr_v (de_v 0) (dr_v (de_v 1) (dr_v (de_v 2) (dr_v (de_v 3) dr_0))))) da_0)) sc__law_right.nd (by rw [hz]; decide)) (dss_cons (ds_app 7 (de_callK (ks := ["shares", "period", "lags", "base"]) [3, 2, 1, 0] G_failing_moment tk hgd (hr.mono (by decide)) (fun _ _ _ _ _ _ ws hl => match ws, hl with | [_, _, _, _], _ => rfl) (dk_1 (de_v 3) (dk_1 (de_v 2) (dk_1 (de_v 1) (dk_1 (de_v 0) dk_0)))))) (dss_cons (ds_if (DW.t (dw_or (DC.t (dc_ne hr (de_kB (fun _ _ h => rf_repr (by exact hgd) (by exact hr) h) ⟨_, DL.cr_repr (by exact hgd) (by exact hr)⟩ T.b_repr (da_1 (de_v 7) da_0)) (de_kB (fun _ _ h => rf_repr (by exact hgd) (by exact hr) h) ⟨_, DL.cr_repr (by exact hgd) (by exact hr)⟩ T.b_repr (da_1 (de_lst (da_1 (de_v 6) (da_1 (de_v 6) da_0))) da_0)))) (dw_or1 (DW.t (dw_and (dt_v (de_v 4)) (dw_and1 (DC.t (dc_ne hr (de_call G__law_can tk hgd (hr.mono (by decide)) (dr_v (de_v 0) (dr_v (de_v 1) (dr_v (de_v 2) (dr_v (de_v 3) dr_0))))) (DC.e (dc_is (de_v 6) de_non)))))))))) (dss_cons (ds_ret de_bl) dss_nil) dss_nil) (dss_cons (ds_set 7 (de_lst (da_1 (de_call G_can_change tk hgd (hr.mono (by decide)) (dr_v (de_v 0) (dr_v (de_v 1) (dr_v (de_v 2) (dr_v (de_v 3) dr_0))))) (da_1 (de_callK (ks := ["shares", "period", "lags", "base"]) [3, 2, 1, 0] G_can_change tk hgd (hr.mono (by decide)) (fun _ _ _ _ _ _ ws hl => match ws, hl with | [_, _, _, _], _ => rfl) (dk_1 (de_v 3) (dk_1 (de_v 2) (dk_1 (de_v 1) (dk_1 (de_v 0) dk_0))))) da_0))) sc__law_right.nd (by rw [hz]; decide)) (dss_cons (ds_ret (de_and (DC.e (dc_eq hr (de_kB (fun _ _ h => rf_repr (by exact hgd) (by exact hr) h) ⟨_, DL.cr_repr (by exact hgd) (by exact hr)⟩ T.b_repr (da_1 (de_v 7) da_0)) (de_kB (fun _ _ h => rf_repr (by exact hgd) (by exact hr) h) ⟨_, DL.cr_repr (by exact hgd) (by exact hr)⟩ T.b_repr (da_1 (de_mul (de_lst (da_1 (DC.e (dc_is (de_v 6) de_non)) da_0)) de_int) da_0)))) (de_one (DC.e (dc_eq hr (de_kB (fun _ _ h => rf_repr (by exact hgd) (by exact hr) h) ⟨_, DL.cr_repr (by exact hgd) (by exact hr)⟩ T.b_repr (da_1 (de_lst (da_1 (de_v 1) (da_1 (de_v 3) da_0))) da_0)) (de_v 5)))))) dss_nil))))))
end
end Ev
namespace Ev
open PySem L2 OW
open DL (Dt FnG FnAt)
noncomputable section
def l1_law_9a95 : SF :=
  (sFor (iR1 (xK (.int 3))) (gN 4) (sSeq (sTgt (gT (gs1 (gN 5) (gs1 (gN 6) (gs1 (gN 7) (gs1 (gN 8) gs0))))) (xCall 3 f__law_change_3e3b (xRi 3 (xRv (xBin bIx (xLst (xA1 (xK (.int 3)) (xA1 (xK (.int 6)) xA0))) (xC (oBs kInt) (xA1 (xBin cNe (xV 0) (xLst xA0)) xA0))) (xRv (xK (.int 3)) xR0))))) (sSeq (sIf (tNot (tV (xCall 5 f__law_right_3951 (xRv (xV 5) (xRv (xV 6) (xRv (xV 7) (xRv (xV 8) (xRv (xK (.bl true)) xR0)))))))) (sSeq (sRet (xK (.bl false))) sNil) sNil) sNil)))
def l2_law_9a95 : SF :=
  (sFor (iE (xSl (xBin bAdd (xV 0) (xLst (xA1 (xK (.int 0)) xA0))) oN (oS (xC (oBs kMax) (xA1 (xK (.int 1)) (xA1 (xC (oBs kMin) (xA1 (xC (oBs kLen) (xA1 (xV 0) xA0)) (xA1 (xK (.int 8)) xA0))) xA0)))))) (gT (gs1 (gN 1) (gs1 (gN 2) gs0))) (sSeq (sSet 3 (xCall 2 f__law_source_1d92 (xRv (xV 2) (xRv (xV 1) xR0)))) (sSeq l1_law_9a95 (sSeq (sIf (tAnd (tV (xBin cLt (xV 1) (xK (.int 2)))) (tV (xBin cNe (xV 0) (xLst xA0)))) (sSeq (sTgt (gT (gs1 (gN 5) (gs1 (gN 6) (gs1 (gN 7) (gs1 (gN 8) gs0))))) (xCall 3 f__law_change_3e3b (xRi 3 (xRv (xK (.int 3000)) (xRv (xK (.int 12)) xR0))))) (sSeq (sIf (tNot (tV (xCall 5 f__law_right_3951 (xRv (xV 5) (xRv (xV 6) (xRv (xV 7) (xRv (xV 8) (xRv (xK (.bl false)) xR0)))))))) (sSeq (sRet (xK (.bl false))) sNil) sNil) sNil)) sNil) sNil))))
def b_law_9a95 : SF :=
  (sSeq l2_law_9a95 (sSeq (sRet (xBin cEq (xLst (xA1 (xCall 4 f_failing_moment_dee4 (xRv (xK (.int 8)) (xRv (xLst (xA1 (xK (.int 6)) (xA1 (xK (.int 6)) (xA1 (xUn bNeg (xK (.int 6))) (xA1 (xUn bNeg (xK (.int 6))) xA0))))) (xRv (xK (.int 8)) (xRv (xLst (xA1 (xK (.int 3)) (xA1 (xK (.int 3)) (xA1 (xK (.int 1)) (xA1 (xK (.int 1)) xA0))))) xR0))))) (xA1 (xCall 4 f_can_change_9bf2 (xRv (xK (.int 2)) (xRv (xLst (xA1 (xK (.int 1)) (xA1 (xK (.int 1)) xA0))) (xRv (xK (.int 2)) (xRv (xLst (xA1 (xK (.int 1)) (xA1 (xK (.int 1)) xA0))) xR0))))) xA0))) (xLst (xA1 (xK (.int 1)) (xA1 (xK (.bl false)) xA0))))) sNil))
def f_law_9a95 : FO := fnOf 9 [false] b_law_9a95
end
end Ev
namespace Ev
open PySem L2 OW
open DL (Dt FnG FnAt)
section
variable {P : Program} {w : World} {K : PySem.W.Frag} {mg : Str → Option Value} {base : Heap} {f : Addr} {fd : FuncData}
theorem sc_law : FnScope ["script", "k", "cell", "source", "turn", "ground", "some", "span", "parts"] ["script"] (defScope s_law) := ⟨rfl, rfl, rfl, by decide +kernel, rfl, by decide +kernel, by decide +kernel⟩
theorem ok_law (T : Txt mg) (G__law_source : FnAt P w K mg base "_law_source" s__law_source 1 ["cell", "k"] (spO mg K 2 f__law_source_1d92)) (G__law_change : FnAt P w K mg base "_law_change" s__law_change 2 ["source", "far", "most_many"] (spO mg K 3 f__law_change_3e3b)) (G_failing_moment : FnAt P w K mg base "failing_moment" s_failing_moment 4 ["base", "lags", "period", "shares"] (spO mg K 4 f_failing_moment_dee4)) (G_can_change : FnAt P w K mg base "can_change" s_can_change 4 ["base", "lags", "period", "shares"] (spO mg K 4 f_can_change_9bf2)) (G__law_right : FnAt P w K mg base "_law_right" s__law_right 5 ["ground", "some", "span", "parts", "is_short"] (spO mg K 5 f__law_right_3951)) (F : Fun K "law" "law" s_law f fd) : FnG P w K mg base 6 f fd ["script"] (spO mg K 1 f_law_9a95) := by
  refine okO (N := ["script", "k", "cell", "source", "turn", "ground", "some", "span", "parts"]) (io := [false]) (body := b_law_9a95) F sc_law rfl rfl (by decide) ?_
  intro cdv A outer s0 H E Z W hgd hr tk hz
  exact (dss_cons (ds_for (vs := [1, 2]) rfl (di_e T.b_enumerate (de_sl (de_add (de_v 0) (de_lst (da_1 de_int da_0))) do_n (do_s (de_kB (fun _ _ h => rf_max rfl h) ⟨_, cr_max rfl⟩ T.b_max (da_1 de_int (da_1 (de_kB (fun _ _ h => rf_min rfl h) ⟨_, cr_min rfl⟩ T.b_min (da_1 (de_kB (fun _ _ h => rf_len h) ⟨_, call_len_seq⟩ T.b_len (da_1 (de_v 0) da_0)) (da_1 de_int da_0))) da_0)))))) (dg_t rfl (dgs_1 (dg_n 1 sc_law.nd (by decide) (by rw [hz]; decide)) (dgs_1 (dg_n 2 sc_law.nd (by decide) (by rw [hz]; decide)) dgs_0)) (fun _ _ _ h => gs1_len (fun _ _ _ h => gs1_len (fun _ _ _ h => gs0_len h) h) h)) (dss_cons (ds_set 3 (de_call G__law_source tk hgd (hr.mono (by decide)) (dr_v (de_v 2) (dr_v (de_v 1) dr_0))) sc_law.nd (by rw [hz]; decide)) (dss_cons (ds_for (vs := [4]) rfl (di_r1 T.b_range de_int) (dg_n 4 sc_law.nd (by decide) (by rw [hz]; decide)) (dss_cons (ds_tgt (vs := [5, 6, 7, 8]) (de_call G__law_change tk hgd (hr.mono (by decide)) (dr_i 3 (dr_v (de_ixx (de_lst (da_1 de_int (da_1 de_int da_0))) (de_kT (fun _ _ h => rf_int h) ⟨_, call_int1⟩ T.b_int (da_1 (DC.e (dc_ne hr (de_v 0) (de_lst da_0))) da_0))) (dr_v de_int dr_0)))) (dg_t rfl (dgs_1 (dg_n 5 sc_law.nd (by decide) (by rw [hz]; decide)) (dgs_1 (dg_n 6 sc_law.nd (by decide) (by rw [hz]; decide)) (dgs_1 (dg_n 7 sc_law.nd (by decide) (by rw [hz]; decide)) (dgs_1 (dg_n 8 sc_law.nd (by decide) (by rw [hz]; decide)) dgs_0)))) (fun _ _ _ h => gs1_len (fun _ _ _ h => gs1_len (fun _ _ _ h => gs1_len (fun _ _ _ h => gs1_len (fun _ _ _ h => gs0_len h) h) h) h) h))) (dss_cons (ds_if (dt_not (dt_v (de_call G__law_right tk hgd (hr.mono (by decide)) (dr_v (de_v 5) (dr_v (de_v 6) (dr_v (de_v 7) (dr_v (de_v 8) (dr_v de_bl dr_0)))))))) (dss_cons (ds_ret de_bl) dss_nil) dss_nil) dss_nil)) (passes_of rfl)) (dss_cons (ds_if (DW.t (dw_and (DC.t (dc_lt (de_v 1) de_int)) (dw_and1 (DC.t (dc_ne hr (de_v 0) (de_lst da_0)))))) (dss_cons (ds_tgt (vs := [5, 6, 7, 8]) (de_call G__law_change tk hgd (hr.mono (by decide)) (dr_i 3 (dr_v de_int (dr_v de_int dr_0)))) (dg_t rfl (dgs_1 (dg_n 5 sc_law.nd (by decide) (by rw [hz]; decide)) (dgs_1 (dg_n 6 sc_law.nd (by decide) (by rw [hz]; decide)) (dgs_1 (dg_n 7 sc_law.nd (by decide) (by rw [hz]; decide)) (dgs_1 (dg_n 8 sc_law.nd (by decide) (by rw [hz]; decide)) dgs_0)))) (fun _ _ _ h => gs1_len (fun _ _ _ h => gs1_len (fun _ _ _ h => gs1_len (fun _ _ _ h => gs1_len (fun _ _ _ h => gs0_len h) h) h) h) h))) (dss_cons (ds_if (dt_not (dt_v (de_call G__law_right tk hgd (hr.mono (by decide)) (dr_v (de_v 5) (dr_v (de_v 6) (dr_v (de_v 7) (dr_v (de_v 8) (dr_v de_bl dr_0)))))))) (dss_cons (ds_ret de_bl) dss_nil) dss_nil) dss_nil)) dss_nil) dss_nil))) (passes_of rfl)) (dss_cons (ds_ret (DC.e (dc_eq hr (de_lst (da_1 (de_call G_failing_moment tk hgd (hr.mono (by decide)) (dr_v de_int (dr_v (de_lst (da_1 de_int (da_1 de_int (da_1 (de_neg de_int) (da_1 (de_neg de_int) da_0))))) (dr_v de_int (dr_v (de_lst (da_1 de_int (da_1 de_int (da_1 de_int (da_1 de_int da_0))))) dr_0))))) (da_1 (de_call G_can_change tk hgd (hr.mono (by decide)) (dr_v de_int (dr_v (de_lst (da_1 de_int (da_1 de_int da_0))) (dr_v de_int (dr_v (de_lst (da_1 de_int (da_1 de_int da_0))) dr_0))))) da_0))) (de_lst (da_1 de_int (da_1 de_bl da_0)))))) dss_nil))
end
end Ev
namespace Ev
open OW
open DL (Dt)
def srcO (s : Src) : Ow := .n .lst [.f (.int s.a), .f (.int s.b), .f (.int s.c)]
theorem draw_eval {s : Src} {n : Int} (hb : Sz 200 s.b) (hc : Sz 64 s.c) (h : 0 < n) (hn : Bn n = true) : f__law_draw_ffea [srcO s, .f (.int n)] = some (.rt (.f (.int (draw s n).1)) [srcO (draw s n).2, .no]) := by
  unfold draw srcO mix2 mix1
  by_cases ha : 0 < s.a
  · simp (implicitDefEqProofs := false) (decide := true) (maxDischargeDepth := 9) [e_bnd, e_ret, e_opt, kO_s, kO_n, kO_i, kB_n, kB_o, kB_x, kB_i, e_val, kV_n, kV_o, kV_x, kV_i, e_seq, kS_n, kS_nx, kS_rt, kS_bk, kS_ct, kS_ex, kS_i, e_nil, e_pass, e_brk, e_cnt, e_sret, e_sretN, e_expr, e_if, e_set, e_par, e_par3, kP3_3, e_tgt, kTg_f, kTg_n, e_gN, e_gT, e_gs0, e_gs1, e_aug, kAg_i, e_app, kAp_l, e_item, e_for, e_forN, e_fn, kF_n, kF_nx, kF_rt, kF_ex, kF_i, e_outs0, e_outsT, e_outsF, e_K, e_Vf, e_Mf, e_bin, e_un, e_A0, e_A1, e_lst, e_tup, e_C, e_tV, kT_b, e_tAnd, e_tOr, e_tNot, e_xNot, kNt_b, e_xAnd, kAn_b, e_xOr, kOr_b, e_xIf, e_ch, kCh_i, kCz_i, e_is, e_Q, e_Rg1, e_Rg2, e_Sl, kSl_f, e_oN, e_oS, e_call, kA_rt, kA_ex, kA_n, kA_i, e_R0, e_Rv, e_Ri, e_callK, kCK_f, e_take0, e_takeV, e_takeI, e_put0, e_putV, e_putI, fz_f, fz_l, fzs_0, fzs_1, fzs_map, fzs_mapI, fzs_1l, e_b1, e_b2, e_b2g, e_bs, v_bn, v_add, v_sub, v_mul, v_div, v_mod, v_pow, v_neg, v_catNN, v_catFN, v_catNF, v_catFF, v_rep, v_lt, v_le, v_gt, v_ge, v_is, v_isN, v_isO, v_isNO, v_non, v_nonI, v_nonL, v_nonT, v_nonB, v_eqI, v_neI, v_eqS, v_neS, v_lenL, v_lenT, v_abs, v_max2, v_min2, v_min3, v_intsM, v_ints0, v_ints1, v_blsM, v_blsF, v_intsF, v_maxL, v_minL, v_sum, v_sort, v_all, v_any, v_int, v_intB, v_list, v_listT, v_tuple, v_kIsN, v_kIsI, v_kIsL, v_kIsT, v_kIsB, v_isInt, v_isBool, v_isLst, v_isTup, v_repr, v_reprE, v_at, v_atL, v_atN, v_ixT, v_ixL, v_ixN, e_qK, e_qV, v_gKd, v_gOs, v_gLs, v_gDs, v_gDsT, v_gF, v_gI, v_isNn, e_Vn', e_Mn', v_isNo1, v_isNo2, e_pV, e_qIxF, e_qIxN, e_qI, e_qB, e_get, kIt_l', v_ixLit, v_ix0, v_at0, v_at1, v_ix1, e_apply', e_eB, e_cK, e_cT1, e_cT2, e_cTb, e_wipe0, e_wipe1, e_back0, e_back1, v_bkF, v_bkNo, v_bkN, v_tY, v_Vg, v_atLast, v_ixS, v_setLast, v_fzSnoc, v_fzSnocC, v_LIM, v_fzF, v_fzC, v_fzFF, v_intsC, v_blsC, e_SrtSet, v_ss, e_tup2, kT2_2, v_minPI, v_minPP, v_isB, e_tBor, kTb_o, v_frzS_f, v_frzS_no, v_frzS_n, e_appP, e_clrP, v_appEach0, v_appEach1, v_appEachM, e_forApp0, e_forApp1, e_AS, v_kFl, e_tpo, v_ixTp, fz_tp, e_idx, kIdA_f, v_idx, v_ltT, e_borS, f__law_draw_ffea, b__law_draw_ffea, ha, h, hn]
  · simp (implicitDefEqProofs := false) (decide := true) (maxDischargeDepth := 9) [e_bnd, e_ret, e_opt, kO_s, kO_n, kO_i, kB_n, kB_o, kB_x, kB_i, e_val, kV_n, kV_o, kV_x, kV_i, e_seq, kS_n, kS_nx, kS_rt, kS_bk, kS_ct, kS_ex, kS_i, e_nil, e_pass, e_brk, e_cnt, e_sret, e_sretN, e_expr, e_if, e_set, e_par, e_par3, kP3_3, e_tgt, kTg_f, kTg_n, e_gN, e_gT, e_gs0, e_gs1, e_aug, kAg_i, e_app, kAp_l, e_item, e_for, e_forN, e_fn, kF_n, kF_nx, kF_rt, kF_ex, kF_i, e_outs0, e_outsT, e_outsF, e_K, e_Vf, e_Mf, e_bin, e_un, e_A0, e_A1, e_lst, e_tup, e_C, e_tV, kT_b, e_tAnd, e_tOr, e_tNot, e_xNot, kNt_b, e_xAnd, kAn_b, e_xOr, kOr_b, e_xIf, e_ch, kCh_i, kCz_i, e_is, e_Q, e_Rg1, e_Rg2, e_Sl, kSl_f, e_oN, e_oS, e_call, kA_rt, kA_ex, kA_n, kA_i, e_R0, e_Rv, e_Ri, e_callK, kCK_f, e_take0, e_takeV, e_takeI, e_put0, e_putV, e_putI, fz_f, fz_l, fzs_0, fzs_1, fzs_map, fzs_mapI, fzs_1l, e_b1, e_b2, e_b2g, e_bs, v_bn, v_add, v_sub, v_mul, v_div, v_mod, v_pow, v_neg, v_catNN, v_catFN, v_catNF, v_catFF, v_rep, v_lt, v_le, v_gt, v_ge, v_is, v_isN, v_isO, v_isNO, v_non, v_nonI, v_nonL, v_nonT, v_nonB, v_eqI, v_neI, v_eqS, v_neS, v_lenL, v_lenT, v_abs, v_max2, v_min2, v_min3, v_intsM, v_ints0, v_ints1, v_blsM, v_blsF, v_intsF, v_maxL, v_minL, v_sum, v_sort, v_all, v_any, v_int, v_intB, v_list, v_listT, v_tuple, v_kIsN, v_kIsI, v_kIsL, v_kIsT, v_kIsB, v_isInt, v_isBool, v_isLst, v_isTup, v_repr, v_reprE, v_at, v_atL, v_atN, v_ixT, v_ixL, v_ixN, e_qK, e_qV, v_gKd, v_gOs, v_gLs, v_gDs, v_gDsT, v_gF, v_gI, v_isNn, e_Vn', e_Mn', v_isNo1, v_isNo2, e_pV, e_qIxF, e_qIxN, e_qI, e_qB, e_get, kIt_l', v_ixLit, v_ix0, v_at0, v_at1, v_ix1, e_apply', e_eB, e_cK, e_cT1, e_cT2, e_cTb, e_wipe0, e_wipe1, e_back0, e_back1, v_bkF, v_bkNo, v_bkN, v_tY, v_Vg, v_atLast, v_ixS, v_setLast, v_fzSnoc, v_fzSnocC, v_LIM, v_fzF, v_fzC, v_fzFF, v_intsC, v_blsC, e_SrtSet, v_ss, e_tup2, kT2_2, v_minPI, v_minPP, v_isB, e_tBor, kTb_o, v_frzS_f, v_frzS_no, v_frzS_n, e_appP, e_clrP, v_appEach0, v_appEach1, v_appEachM, e_forApp0, e_forApp1, e_AS, v_kFl, e_tpo, v_ixTp, fz_tp, e_idx, kIdA_f, v_idx, v_ltT, e_borS, f__law_draw_ffea, b__law_draw_ffea, ha, h, hn]
end Ev
namespace Ev
open OW
open DL (Dt)
theorem source_eval {cell k : Int} [Sz 64 k] : f__law_source_1d92 [.f (.int cell), .f (.int k)] = some (.rt (srcO (src cell k)) [.no, .no]) := by
  unfold srcO src DL.b2n
  simp (implicitDefEqProofs := false) (decide := true) (maxDischargeDepth := 9) [e_bnd, e_ret, e_opt, kO_s, kO_n, kO_i, kB_n, kB_o, kB_x, kB_i, e_val, kV_n, kV_o, kV_x, kV_i, e_seq, kS_n, kS_nx, kS_rt, kS_bk, kS_ct, kS_ex, kS_i, e_nil, e_pass, e_brk, e_cnt, e_sret, e_sretN, e_expr, e_if, e_set, e_par, e_par3, kP3_3, e_tgt, kTg_f, kTg_n, e_gN, e_gT, e_gs0, e_gs1, e_aug, kAg_i, e_app, kAp_l, e_item, e_for, e_forN, e_fn, kF_n, kF_nx, kF_rt, kF_ex, kF_i, e_outs0, e_outsT, e_outsF, e_K, e_Vf, e_Mf, e_bin, e_un, e_A0, e_A1, e_lst, e_tup, e_C, e_tV, kT_b, e_tAnd, e_tOr, e_tNot, e_xNot, kNt_b, e_xAnd, kAn_b, e_xOr, kOr_b, e_xIf, e_ch, kCh_i, kCz_i, e_is, e_Q, e_Rg1, e_Rg2, e_Sl, kSl_f, e_oN, e_oS, e_call, kA_rt, kA_ex, kA_n, kA_i, e_R0, e_Rv, e_Ri, e_callK, kCK_f, e_take0, e_takeV, e_takeI, e_put0, e_putV, e_putI, fz_f, fz_l, fzs_0, fzs_1, fzs_map, fzs_mapI, fzs_1l, e_b1, e_b2, e_b2g, e_bs, v_bn, v_add, v_sub, v_mul, v_div, v_mod, v_pow, v_neg, v_catNN, v_catFN, v_catNF, v_catFF, v_rep, v_lt, v_le, v_gt, v_ge, v_is, v_isN, v_isO, v_isNO, v_non, v_nonI, v_nonL, v_nonT, v_nonB, v_eqI, v_neI, v_eqS, v_neS, v_lenL, v_lenT, v_abs, v_max2, v_min2, v_min3, v_intsM, v_ints0, v_ints1, v_blsM, v_blsF, v_intsF, v_maxL, v_minL, v_sum, v_sort, v_all, v_any, v_int, v_intB, v_list, v_listT, v_tuple, v_kIsN, v_kIsI, v_kIsL, v_kIsT, v_kIsB, v_isInt, v_isBool, v_isLst, v_isTup, v_repr, v_reprE, v_at, v_atL, v_atN, v_ixT, v_ixL, v_ixN, e_qK, e_qV, v_gKd, v_gOs, v_gLs, v_gDs, v_gDsT, v_gF, v_gI, v_isNn, e_Vn', e_Mn', v_isNo1, v_isNo2, e_pV, e_qIxF, e_qIxN, e_qI, e_qB, e_get, kIt_l', v_ixLit, v_ix0, v_at0, v_at1, v_ix1, e_apply', e_eB, e_cK, e_cT1, e_cT2, e_cTb, e_wipe0, e_wipe1, e_back0, e_back1, v_bkF, v_bkNo, v_bkN, v_tY, v_Vg, v_atLast, v_ixS, v_setLast, v_fzSnoc, v_fzSnocC, v_LIM, v_fzF, v_fzC, v_fzFF, v_intsC, v_blsC, e_SrtSet, v_ss, e_tup2, kT2_2, v_minPI, v_minPP, v_isB, e_tBor, kTb_o, v_frzS_f, v_frzS_no, v_frzS_n, e_appP, e_clrP, v_appEach0, v_appEach1, v_appEachM, e_forApp0, e_forApp1, e_AS, v_kFl, e_tpo, v_ixTp, fz_tp, e_idx, kIdA_f, v_idx, v_ltT, e_borS, f__law_source_1d92, b__law_source_1d92]
theorem Src.Ok.sb {s : Src} {n : Nat} (k : s.Ok n) : Sz 200 s.b := ⟨k.b0⟩
theorem Src.Ok.sc {s : Src} {n : Nat} (k : s.Ok n) (h : n ≤ 10 ^ 15) : Sz 64 s.c := (sz_of (n := 64) (by have := k.c0; omega) (by have := k.cn; omega))
theorem draw_ev {s : Src} {m : Nat} {n : Int} (k : s.Ok m) (hm : m ≤ 10 ^ 15) (h : 0 < n) (hn : Bn n = true) : f__law_draw_ffea [srcO s, .f (.int n)] = some (.rt (.f (.int (draw s n).1)) [srcO (draw s n).2, .no]) := draw_eval k.sb (k.sc hm) h hn
theorem srcO_no {s : Src} : srcO s ≠ .no := by unfold srcO; exact fun h => by cases h
theorem rng_at {n j : Nat} {d : Dt} (h : ((DL.rng 0 n).map Dt.int)[j]? = some d) : j < n ∧ d = .int (j : Int) := by
  obtain ⟨a, b⟩ := DL.rng_get h
  exact ⟨a, by rw [b]; simp⟩
end Ev
namespace Ev
open OW
open DL (Dt)
theorem is_integer_yes {v l h : Int} (h1 : l ≤ v) (h2 : v ≤ h) : f_is_integer_4a98 [.f (.int v), .f (.int l), .f (.int h)] = some (.rt (.f (.bl true)) [.no, .no, .no]) := by
  simp (implicitDefEqProofs := false) (decide := true) (maxDischargeDepth := 9) [e_bnd, e_ret, e_opt, kO_s, kO_n, kO_i, kB_n, kB_o, kB_x, kB_i, e_val, kV_n, kV_o, kV_x, kV_i, e_seq, kS_n, kS_nx, kS_rt, kS_bk, kS_ct, kS_ex, kS_i, e_nil, e_pass, e_brk, e_cnt, e_sret, e_sretN, e_expr, e_if, e_set, e_par, e_par3, kP3_3, e_tgt, kTg_f, kTg_n, e_gN, e_gT, e_gs0, e_gs1, e_aug, kAg_i, e_app, kAp_l, e_item, e_for, e_forN, e_fn, kF_n, kF_nx, kF_rt, kF_ex, kF_i, e_outs0, e_outsT, e_outsF, e_K, e_Vf, e_Mf, e_bin, e_un, e_A0, e_A1, e_lst, e_tup, e_C, e_tV, kT_b, e_tAnd, e_tOr, e_tNot, e_xNot, kNt_b, e_xAnd, kAn_b, e_xOr, kOr_b, e_xIf, e_ch, kCh_i, kCz_i, e_is, e_Q, e_Rg1, e_Rg2, e_Sl, kSl_f, e_oN, e_oS, e_call, kA_rt, kA_ex, kA_n, kA_i, e_R0, e_Rv, e_Ri, e_callK, kCK_f, e_take0, e_takeV, e_takeI, e_put0, e_putV, e_putI, fz_f, fz_l, fzs_0, fzs_1, fzs_map, fzs_mapI, fzs_1l, e_b1, e_b2, e_b2g, e_bs, v_bn, v_add, v_sub, v_mul, v_div, v_mod, v_pow, v_neg, v_catNN, v_catFN, v_catNF, v_catFF, v_rep, v_lt, v_le, v_gt, v_ge, v_is, v_isN, v_isO, v_isNO, v_non, v_nonI, v_nonL, v_nonT, v_nonB, v_eqI, v_neI, v_eqS, v_neS, v_lenL, v_lenT, v_abs, v_max2, v_min2, v_min3, v_intsM, v_ints0, v_ints1, v_blsM, v_blsF, v_intsF, v_maxL, v_minL, v_sum, v_sort, v_all, v_any, v_int, v_intB, v_list, v_listT, v_tuple, v_kIsN, v_kIsI, v_kIsL, v_kIsT, v_kIsB, v_isInt, v_isBool, v_isLst, v_isTup, v_repr, v_reprE, v_at, v_atL, v_atN, v_ixT, v_ixL, v_ixN, e_qK, e_qV, v_gKd, v_gOs, v_gLs, v_gDs, v_gDsT, v_gF, v_gI, v_isNn, e_Vn', e_Mn', v_isNo1, v_isNo2, e_pV, e_qIxF, e_qIxN, e_qI, e_qB, e_get, kIt_l', v_ixLit, v_ix0, v_at0, v_at1, v_ix1, e_apply', e_eB, e_cK, e_cT1, e_cT2, e_cTb, e_wipe0, e_wipe1, e_back0, e_back1, v_bkF, v_bkNo, v_bkN, v_tY, v_Vg, v_atLast, v_ixS, v_setLast, v_fzSnoc, v_fzSnocC, v_LIM, v_fzF, v_fzC, v_fzFF, v_intsC, v_blsC, e_SrtSet, v_ss, e_tup2, kT2_2, v_minPI, v_minPP, v_isB, e_tBor, kTb_o, v_frzS_f, v_frzS_no, v_frzS_n, e_appP, e_clrP, v_appEach0, v_appEach1, v_appEachM, e_forApp0, e_forApp1, e_AS, v_kFl, e_tpo, v_ixTp, fz_tp, e_idx, kIdA_f, v_idx, v_ltT, e_borS, f_is_integer_4a98, b_is_integer_4a98, show ¬ v < l by omega, h2]
theorem need_number_eval {v l h : Int} (h1 : l ≤ v) (h2 : v ≤ h) : f_need_number_26f5 [.f (.int v), .f (.int l), .f (.int h)] = some (.rt (.f .non) [.no, .no, .no]) := by
  have e := is_integer_yes h1 h2
  simp (implicitDefEqProofs := false) (decide := true) (maxDischargeDepth := 9) [e_bnd, e_ret, e_opt, kO_s, kO_n, kO_i, kB_n, kB_o, kB_x, kB_i, e_val, kV_n, kV_o, kV_x, kV_i, e_seq, kS_n, kS_nx, kS_rt, kS_bk, kS_ct, kS_ex, kS_i, e_nil, e_pass, e_brk, e_cnt, e_sret, e_sretN, e_expr, e_if, e_set, e_par, e_par3, kP3_3, e_tgt, kTg_f, kTg_n, e_gN, e_gT, e_gs0, e_gs1, e_aug, kAg_i, e_app, kAp_l, e_item, e_for, e_forN, e_fn, kF_n, kF_nx, kF_rt, kF_ex, kF_i, e_outs0, e_outsT, e_outsF, e_K, e_Vf, e_Mf, e_bin, e_un, e_A0, e_A1, e_lst, e_tup, e_C, e_tV, kT_b, e_tAnd, e_tOr, e_tNot, e_xNot, kNt_b, e_xAnd, kAn_b, e_xOr, kOr_b, e_xIf, e_ch, kCh_i, kCz_i, e_is, e_Q, e_Rg1, e_Rg2, e_Sl, kSl_f, e_oN, e_oS, e_call, kA_rt, kA_ex, kA_n, kA_i, e_R0, e_Rv, e_Ri, e_callK, kCK_f, e_take0, e_takeV, e_takeI, e_put0, e_putV, e_putI, fz_f, fz_l, fzs_0, fzs_1, fzs_map, fzs_mapI, fzs_1l, e_b1, e_b2, e_b2g, e_bs, v_bn, v_add, v_sub, v_mul, v_div, v_mod, v_pow, v_neg, v_catNN, v_catFN, v_catNF, v_catFF, v_rep, v_lt, v_le, v_gt, v_ge, v_is, v_isN, v_isO, v_isNO, v_non, v_nonI, v_nonL, v_nonT, v_nonB, v_eqI, v_neI, v_eqS, v_neS, v_lenL, v_lenT, v_abs, v_max2, v_min2, v_min3, v_intsM, v_ints0, v_ints1, v_blsM, v_blsF, v_intsF, v_maxL, v_minL, v_sum, v_sort, v_all, v_any, v_int, v_intB, v_list, v_listT, v_tuple, v_kIsN, v_kIsI, v_kIsL, v_kIsT, v_kIsB, v_isInt, v_isBool, v_isLst, v_isTup, v_repr, v_reprE, v_at, v_atL, v_atN, v_ixT, v_ixL, v_ixN, e_qK, e_qV, v_gKd, v_gOs, v_gLs, v_gDs, v_gDsT, v_gF, v_gI, v_isNn, e_Vn', e_Mn', v_isNo1, v_isNo2, e_pV, e_qIxF, e_qIxN, e_qI, e_qB, e_get, kIt_l', v_ixLit, v_ix0, v_at0, v_at1, v_ix1, e_apply', e_eB, e_cK, e_cT1, e_cT2, e_cTb, e_wipe0, e_wipe1, e_back0, e_back1, v_bkF, v_bkNo, v_bkN, v_tY, v_Vg, v_atLast, v_ixS, v_setLast, v_fzSnoc, v_fzSnocC, v_LIM, v_fzF, v_fzC, v_fzFF, v_intsC, v_blsC, e_SrtSet, v_ss, e_tup2, kT2_2, v_minPI, v_minPP, v_isB, e_tBor, kTb_o, v_frzS_f, v_frzS_no, v_frzS_n, e_appP, e_clrP, v_appEach0, v_appEach1, v_appEachM, e_forApp0, e_forApp1, e_AS, v_kFl, e_tpo, v_ixTp, fz_tp, e_idx, kIdA_f, v_idx, v_ltT, e_borS, f_need_number_26f5, b_need_number_26f5, e]
end Ev
namespace Ev
open OW
open DL (Dt)
def rowD (r : List Int) : Dt := .lst (r.map .int)
end Ev
namespace Ev
open OW
open DL (Dt)
/-- a number or None -/
def oO (o : Option Int) : Ow := match o with
  | some i => .f (.int i)
  | none => .f .non
theorem oO_some' {i : Int} : oO (some i) = .f (.int i) := rfl
theorem oO_none' : oO none = .f .non := rfl
def dO (o : Option Int) : Dt := match o with
  | some i => .int i
  | none => .non
theorem oO_f {o : Option Int} : oO o = .f (dO o) := by cases o <;> rfl
theorem Sz.bd {n m : Nat} {i : Int} (h : Sz n i) (k : n ≤ m) : DL.Bd m i := (h.up k).lt
end Ev
namespace Ev
open OW
open DL (Dt)
theorem enum_at0 {l : List Int} {j : Nat} {d : Dt} (h : (DL.enum (l.map Dt.int))[j]? = some d) : ∃ c, l[j]? = some c ∧ d = .tup [.int j, .int c] := by
  obtain ⟨x, h1, h2⟩ := DL.enum_get h
  rw [List.getElem?_map] at h1
  cases e : l[j]? with
  | none => rw [e] at h1; cases h1
  | some c => rw [e] at h1; cases h1; exact ⟨c, rfl, h2⟩
/-- the cells that laws walk -/
def cells (ns : List Int) (m : Int) : List Dt := DL.cutD (ns.map .int ++ [.int 0]) none (some (max 1 (min (ns.length : Int) m)))
theorem cells_it {ns : List Int} {ρ : Ev} {m : Int} (h : ρ[0]? = some (.f (.lst (ns.map .int)))) (hl : ns.length ≤ 63) :
    iE (xSl (xBin bAdd (xV 0) (xLst (xA1 (xK (.int 0)) xA0))) oN (oS (xC (oBs kMax) (xA1 (xK (.int 1)) (xA1 (xC (oBs kMin) (xA1 (xC (oBs kLen) (xA1 (xV 0) xA0)) (xA1 (xK (.int m)) xA0))) xA0))))) ρ = some (.ok (DL.enum (cells ns m)) ρ) := by
  have hs : frzs ((ns.map .int).map Ow.f ++ [Ow.f (.int 0)]) = some (ns.map .int ++ [.int 0]) := by
    have := fzs_map (ds := ns.map Dt.int ++ [.int 0])
    rw [List.map_append] at this
    exact this
  have h1 : bAdd (.f (.lst (ns.map .int))) (.n .lst [.f (.int 0)]) = some (.n .lst ((ns.map .int).map Ow.f ++ [Ow.f (.int 0)])) := v_catFN (by rw [List.length_map]; unfold LIM; simp; omega)
  have hx : (xBin bAdd (xV 0) (xLst (xA1 (xK (.int 0)) xA0))) ρ = some (.ok (.n .lst ((ns.map .int).map Ow.f ++ [Ow.f (.int 0)])) ρ) := by
    simp (implicitDefEqProofs := false) (decide := true) (maxDischargeDepth := 9) [e_bnd, e_ret, e_opt, kO_s, kO_n, kO_i, kB_n, kB_o, kB_x, kB_i, e_val, kV_n, kV_o, kV_x, kV_i, e_seq, kS_n, kS_nx, kS_rt, kS_bk, kS_ct, kS_ex, kS_i, e_nil, e_pass, e_brk, e_cnt, e_sret, e_sretN, e_expr, e_if, e_set, e_par, e_par3, kP3_3, e_tgt, kTg_f, kTg_n, e_gN, e_gT, e_gs0, e_gs1, e_aug, kAg_i, e_app, kAp_l, e_item, e_for, e_forN, e_fn, kF_n, kF_nx, kF_rt, kF_ex, kF_i, e_outs0, e_outsT, e_outsF, e_K, e_Vf, e_Mf, e_bin, e_un, e_A0, e_A1, e_lst, e_tup, e_C, e_tV, kT_b, e_tAnd, e_tOr, e_tNot, e_xNot, kNt_b, e_xAnd, kAn_b, e_xOr, kOr_b, e_xIf, e_ch, kCh_i, kCz_i, e_is, e_Q, e_Rg1, e_Rg2, e_Sl, kSl_f, e_oN, e_oS, e_call, kA_rt, kA_ex, kA_n, kA_i, e_R0, e_Rv, e_Ri, e_callK, kCK_f, e_take0, e_takeV, e_takeI, e_put0, e_putV, e_putI, fz_f, fz_l, fzs_0, fzs_1, fzs_map, fzs_mapI, fzs_1l, e_b1, e_b2, e_b2g, e_bs, v_bn, v_add, v_sub, v_mul, v_div, v_mod, v_pow, v_neg, v_catNN, v_catFN, v_catNF, v_catFF, v_rep, v_lt, v_le, v_gt, v_ge, v_is, v_isN, v_isO, v_isNO, v_non, v_nonI, v_nonL, v_nonT, v_nonB, v_eqI, v_neI, v_eqS, v_neS, v_lenL, v_lenT, v_abs, v_max2, v_min2, v_min3, v_intsM, v_ints0, v_ints1, v_blsM, v_blsF, v_intsF, v_maxL, v_minL, v_sum, v_sort, v_all, v_any, v_int, v_intB, v_list, v_listT, v_tuple, v_kIsN, v_kIsI, v_kIsL, v_kIsT, v_kIsB, v_isInt, v_isBool, v_isLst, v_isTup, v_repr, v_reprE, v_at, v_atL, v_atN, v_ixT, v_ixL, v_ixN, e_qK, e_qV, v_gKd, v_gOs, v_gLs, v_gDs, v_gDsT, v_gF, v_gI, v_isNn, e_Vn', e_Mn', v_isNo1, v_isNo2, e_pV, e_qIxF, e_qIxN, e_qI, e_qB, e_get, kIt_l', v_ixLit, v_ix0, v_at0, v_at1, v_ix1, e_apply', e_eB, e_cK, e_cT1, e_cT2, e_cTb, e_wipe0, e_wipe1, e_back0, e_back1, v_bkF, v_bkNo, v_bkN, v_tY, v_Vg, v_atLast, v_ixS, v_setLast, v_fzSnoc, v_fzSnocC, v_LIM, v_fzF, v_fzC, v_fzFF, v_intsC, v_blsC, e_SrtSet, v_ss, e_tup2, kT2_2, v_minPI, v_minPP, v_isB, e_tBor, kTb_o, v_frzS_f, v_frzS_no, v_frzS_n, e_appP, e_clrP, v_appEach0, v_appEach1, v_appEachM, e_forApp0, e_forApp1, e_AS, v_kFl, e_tpo, v_ixTp, fz_tp, e_idx, kIdA_f, v_idx, v_ltT, e_borS, h, h1, -List.map_map]
  refine iE_f (o := .n .lst ((cells ns m).map .f)) ?_ (by rw [fz_l, fzs_map]; rfl)
  rw [e_Sl, hx, kB_o, kSl_n (x := .lst (ns.map .int ++ [.int 0])) (by rw [fz_l, hs]; rfl)]
  have hk : kMax [.int 1, .int (min (ns.length : Int) m)] = some (.f (.int (max 1 (min (ns.length : Int) m)))) := rfl
  simp (implicitDefEqProofs := false) (decide := true) (maxDischargeDepth := 9) [e_bnd, e_ret, e_opt, kO_s, kO_n, kO_i, kB_n, kB_o, kB_x, kB_i, e_val, kV_n, kV_o, kV_x, kV_i, e_seq, kS_n, kS_nx, kS_rt, kS_bk, kS_ct, kS_ex, kS_i, e_nil, e_pass, e_brk, e_cnt, e_sret, e_sretN, e_expr, e_if, e_set, e_par, e_par3, kP3_3, e_tgt, kTg_f, kTg_n, e_gN, e_gT, e_gs0, e_gs1, e_aug, kAg_i, e_app, kAp_l, e_item, e_for, e_forN, e_fn, kF_n, kF_nx, kF_rt, kF_ex, kF_i, e_outs0, e_outsT, e_outsF, e_K, e_Vf, e_Mf, e_bin, e_un, e_A0, e_A1, e_lst, e_tup, e_C, e_tV, kT_b, e_tAnd, e_tOr, e_tNot, e_xNot, kNt_b, e_xAnd, kAn_b, e_xOr, kOr_b, e_xIf, e_ch, kCh_i, kCz_i, e_is, e_Q, e_Rg1, e_Rg2, e_Sl, kSl_f, e_oN, e_oS, e_call, kA_rt, kA_ex, kA_n, kA_i, e_R0, e_Rv, e_Ri, e_callK, kCK_f, e_take0, e_takeV, e_takeI, e_put0, e_putV, e_putI, fz_f, fz_l, fzs_0, fzs_1, fzs_map, fzs_mapI, fzs_1l, e_b1, e_b2, e_b2g, e_bs, v_bn, v_add, v_sub, v_mul, v_div, v_mod, v_pow, v_neg, v_catNN, v_catFN, v_catNF, v_catFF, v_rep, v_lt, v_le, v_gt, v_ge, v_is, v_isN, v_isO, v_isNO, v_non, v_nonI, v_nonL, v_nonT, v_nonB, v_eqI, v_neI, v_eqS, v_neS, v_lenL, v_lenT, v_abs, v_max2, v_min2, v_min3, v_intsM, v_ints0, v_ints1, v_blsM, v_blsF, v_intsF, v_maxL, v_minL, v_sum, v_sort, v_all, v_any, v_int, v_intB, v_list, v_listT, v_tuple, v_kIsN, v_kIsI, v_kIsL, v_kIsT, v_kIsB, v_isInt, v_isBool, v_isLst, v_isTup, v_repr, v_reprE, v_at, v_atL, v_atN, v_ixT, v_ixL, v_ixN, e_qK, e_qV, v_gKd, v_gOs, v_gLs, v_gDs, v_gDsT, v_gF, v_gI, v_isNn, e_Vn', e_Mn', v_isNo1, v_isNo2, e_pV, e_qIxF, e_qIxN, e_qI, e_qB, e_get, kIt_l', v_ixLit, v_ix0, v_at0, v_at1, v_ix1, e_apply', e_eB, e_cK, e_cT1, e_cT2, e_cTb, e_wipe0, e_wipe1, e_back0, e_back1, v_bkF, v_bkNo, v_bkN, v_tY, v_Vg, v_atLast, v_ixS, v_setLast, v_fzSnoc, v_fzSnocC, v_LIM, v_fzF, v_fzC, v_fzFF, v_intsC, v_blsC, e_SrtSet, v_ss, e_tup2, kT2_2, v_minPI, v_minPP, v_isB, e_tBor, kTb_o, v_frzS_f, v_frzS_no, v_frzS_n, e_appP, e_clrP, v_appEach0, v_appEach1, v_appEachM, e_forApp0, e_forApp1, e_AS, v_kFl, e_tpo, v_ixTp, fz_tp, e_idx, kIdA_f, v_idx, v_ltT, e_borS, h, partI, bSl, cells]
theorem cells_at {ns : List Int} {j : Nat} {d : Dt} {m : Int} (h : (DL.enum (cells ns m))[j]? = some d) : j ≤ ns.length ∧ ∃ c : Int, d = .tup [.int j, .int c] := by
  obtain ⟨x, h1, h2⟩ := DL.enum_get h
  obtain ⟨a, c, rfl⟩ := cut_int h1
  exact ⟨by omega, c, h2⟩
theorem ok_ints {ns : List Int} : eqOk (.lst (ns.map .int)) = true := by
  have p : DL.Dt.plainAll (ns.map .int) = true := by
    induction ns with
    | nil => rfl
    | cons n ns ih => show (true && _) = true; rw [ih]; rfl
  have q : PySem.PyData.canLayAll0 (DL.Dt.pyAll (ns.map .int)) = true := by
    induction ns with
    | nil => simp [DL.Dt.pyAll, PySem.PyData.canLayAll0]
    | cons n ns ih => simp [DL.Dt.pyAll, DL.Dt.py, PySem.PyData.canLayAll0, PySem.PyData.canLay0, ih p]
  have r : DL.Dt.dep (.lst (ns.map .int)) = 1 := by
    show DL.Dt.depA _ + 1 = 1
    rw [DL.dep_ints]
  unfold eqOk PySem.SeqAt.shaped
  rw [DL.dep_py, r]
  have e : (Dt.lst (ns.map .int)).py.canLay0 = true := by
    rw [DL.Dt.py, PySem.PyData.canLay0]
    exact q
  rw [e]
  show (DL.Dt.plainAll _ && _) = true
  rw [p]
  rfl
theorem deq_nil {ns : List Int} : deq (.lst (ns.map .int)) (.lst []) = decide (ns = []) := by
  unfold deq
  cases ns with
  | nil => simp [DL.Dt.py, DL.Dt.pyAll, PySem.PyData.eqv, PySem.PyData.eqvAll]
  | cons n ns => simp [DL.Dt.py, DL.Dt.pyAll, PySem.PyData.eqv, PySem.PyData.eqvAll]
theorem ne_nil {ns : List Int} : cNe (.f (.lst (ns.map .int))) (.n .lst []) = some (.f (.bl (!decide (ns = [])))) := by
  have e2 : frz (.n .lst []) = some (.lst []) := rfl
  unfold cNe
  rw [e_b2g fz_f e2]
  show (if eqOk (.lst (ns.map .int)) = true ∧ eqOk (.lst []) = true then some (Ow.f (.bl (!deq (.lst (ns.map .int)) (.lst [])))) else none) = _
  rw [if_pos ⟨ok_ints, ok_ints (ns := [])⟩, deq_nil]
end Ev
namespace Ev
open OW
open DL (Dt)
theorem deqI {a b : Int} : deq (.int a) (.int b) = decide (a = b) := by
  unfold deq
  simp only [DL.Dt.py, PySem.PyData.eqv]
  rfl
/-- a row, told or one's own -/
def IsRow (o : Ow) (r : List Int) : Prop := o = .f (rowD r) ∨ o = .n .lst (r.map fun x => .f (.int x))
theorem getE_some {r : List Int} {k : Nat} (h : k < r.length) : r[k]? = some (r.getD k 0) := by
  rw [List.getD_eq_getElem?_getD, List.getElem?_eq_getElem h]
  rfl
theorem e_ixRow {ρ : Ev} {n : Nat} {q : Ev → Option Dt} {o : Ow} {r : List Int} {k : Nat} (h1 : ρ[n]? = some o) (h : IsRow o r) (hq : q ρ = some (.int k)) (hk : k < r.length) : qIx (pV n) q ρ = some (.int (r.getD k 0)) := by
  have g := getE_some hk
  rcases h with rfl | rfl
  · rw [e_qIxF (r := (n, [])) (e := .int k) (k := (k : Int)) (x := .f (rowD r)) (d := rowD r) (ds := r.map .int) (e_pV h1 rfl) rfl hq rfl h1 rfl rfl, v_at, List.getElem?_map, g]
    rfl
  · refine e_qIxN (r := (n, [])) (e := .int k) (k := (k : Int)) (x := .n .lst (r.map fun x => .f (.int x))) (os := r.map fun x => .f (.int x)) (y := .f (.int (r.getD k 0))) (e_pV h1 rfl) rfl hq rfl h1 rfl ?_ rfl
    rw [v_at, List.getElem?_map, g]
    rfl
theorem IsRow.no {o : Ow} {r : List Int} (h : IsRow o r) : o ≠ .no := by
  rcases h with rfl | rfl <;> exact fun z => by cases z
def b2 (p : Prop) [Decidable p] : Int := if p then 1 else 0
/-- a row behind a tick, as laws tell it -/
def stepB (q : Int) (ss row line : List Int) : List Int := ss.zipIdx.map fun x => row.getD x.2 0 + x.1 - q * b2 ((x.2 : Int) ∈ line)
theorem stepB_len {q : Int} {ss row line : List Int} : (stepB q ss row line).length = ss.length := by
  unfold stepB
  rw [List.length_map, List.length_zipIdx]
theorem stepB_get {q : Int} {ss row line : List Int} {k : Nat} {s : Int} (h : ss[k]? = some s) : (stepB q ss row line)[k]? = some (row.getD k 0 + s - q * b2 ((k : Int) ∈ line)) := by
  unfold stepB
  rw [List.getElem?_map, List.getElem?_zipIdx, h]
  simp
theorem zipIdx_at {l : List Int} {x : Int × Nat} (h : x ∈ l.zipIdx) : l[x.2]? = some x.1 ∧ x.2 < l.length := by
  have h' := List.mem_zipIdx_iff_getElem?.mp h
  exact ⟨h', (List.getElem?_eq_some_iff.mp h').1⟩
end Ev
namespace DL
open PySem PySem.Spec PyProof.Rows L2
/-! texts' lengths told by the ints themselves -/
end DL
/-! what was seen, and loads with whole shares: plain numbers -/
namespace Ev
open OW
open DL (Dt)
theorem fl_lo {x d : Int} (h : 0 < d) : x / d * d ≤ x := div_lo x h
/-! values in sixtieths -/
def sx (a : Int × Int) : Int := a.1 * (60 / a.2)
/-! sums over processes -/
def sumN (m : Nat) (f : Nat → Int) : Int := ((List.range m).map f).sum
theorem sumN_succ {m : Nat} {f : Nat → Int} : sumN (m + 1) f = sumN m f + f m := by
  unfold sumN
  rw [List.range_succ, List.map_append, List.sum_append]
  simp
theorem sumN_le {f g : Nat → Int} : ∀ {m : Nat}, (∀ k, k < m → f k ≤ g k) → sumN m f ≤ sumN m g
  | 0, _ => Int.le_refl _
  | m + 1, h => by
    have := sumN_le (m := m) fun k hk => h k (by omega)
    have := h m (by omega)
    rw [sumN_succ, sumN_succ]
    omega
end Ev
/-! law k94: ticks by first ends keep what can go on -/
namespace Ev
/-- slices due within t ticks -/
def dN (q : Int) (l s : Nat → Int) (k : Nat) (t : Int) : Int := (l k + s k * t) / q
def DN (q : Int) (m : Nat) (l s : Nat → Int) (t : Int) : Int := sumN m fun k => max 0 (dN q l s k t)
structure GoodN (q : Int) (m : Nat) (l s : Nat → Int) : Prop where
  lo : ∀ k, k < m → -q < l k
  hi : ∀ k, k < m → l k < q
  nf : ∀ t, 1 ≤ t → t ≤ q → DN q m l s t ≤ t
structure ShN (q : Int) (m : Nat) (s : Nat → Int) : Prop where
  q1 : 1 ≤ q
  s0 : ∀ k, k < m → 0 ≤ s k
  sm : sumN m s ≤ q
def eligN (l s : Nat → Int) (k : Nat) : Prop := 0 < s k ∧ 0 < l k + s k
def endN (q : Int) (l s : Nat → Int) (k : Nat) : Int := -((l k - q) / s k)
/-- the process that runs -/
def PickN (q : Int) (m : Nat) (l s : Nat → Int) : Option Nat → Prop
  | none => ∀ k, k < m → ¬ eligN l s k
  | some r => r < m ∧ eligN l s r ∧ ∀ k, k < m → eligN l s k → endN q l s r ≤ endN q l s k
def nxtN (q : Int) (l s : Nat → Int) (r : Option Nat) (k : Nat) : Int := l k + s k - q * (if r = some k then 1 else 0)
theorem sumN_zero {f : Nat → Int} : sumN 0 f = 0 := rfl
theorem sumN_nn {f : Nat → Int} : ∀ {m : Nat}, (∀ k, k < m → 0 ≤ f k) → 0 ≤ sumN m f
  | 0, _ => Int.le_refl _
  | m + 1, h => by
    rw [sumN_succ]
    have := sumN_nn (m := m) fun k hk => h k (by omega)
    have := h m (by omega)
    omega
theorem sumN_one {f : Nat → Int} : ∀ {m k : Nat}, (∀ k, k < m → 0 ≤ f k) → k < m → f k ≤ sumN m f
  | 0, k, _, hk => by omega
  | m + 1, k, h, hk => by
    rw [sumN_succ]
    have a := sumN_nn (m := m) fun k hk => h k (by omega)
    have b := h m (by omega)
    by_cases e : k = m
    · subst e; omega
    · have := sumN_one (m := m) (k := k) (fun k hk => h k (by omega)) (by omega)
      omega
theorem sumN_two {f : Nat → Int} : ∀ {m k r : Nat}, (∀ k, k < m → 0 ≤ f k) → k < m → r < m → k ≠ r → f k + f r ≤ sumN m f
  | 0, k, r, _, hk, _, _ => by omega
  | m + 1, k, r, h, hk, hr, ne => by
    rw [sumN_succ]
    have h' : ∀ k, k < m → 0 ≤ f k := fun k hk => h k (by omega)
    by_cases e : k = m
    · subst e
      have := sumN_one h' (show r < k by omega)
      omega
    · by_cases e2 : r = m
      · subst e2
        have := sumN_one h' (show k < r by omega)
        omega
      · have := sumN_two h' (show k < m by omega) (show r < m by omega) ne
        have := h m (by omega)
        omega
theorem sumN_congr {f g : Nat → Int} : ∀ {m : Nat}, (∀ k, k < m → f k = g k) → sumN m f = sumN m g
  | 0, _ => rfl
  | m + 1, h => by
    rw [sumN_succ, sumN_succ, sumN_congr (m := m) fun k hk => h k (by omega), h m (by omega)]
theorem sumN_but {f g : Nat → Int} {c : Int} : ∀ {m r : Nat}, r < m → (∀ k, k < m → k ≠ r → g k = f k) → g r = f r + c → sumN m g = sumN m f + c
  | 0, r, hr, _, _ => by omega
  | m + 1, r, hr, h, hg => by
    rw [sumN_succ, sumN_succ]
    by_cases e : r = m
    · subst e
      rw [sumN_congr (m := r) fun k hk => h k (by omega) (by omega), hg]
      omega
    · rw [sumN_but (m := m) (r := r) (by omega) (fun k hk => h k (by omega)) hg, h m (by omega) (fun z => e z.symm)]
      omega
theorem sumN_mulL {f : Nat → Int} {c : Int} : ∀ {m : Nat}, sumN m (fun k => f k * c) = sumN m f * c
  | 0 => by rw [sumN_zero, sumN_zero, Int.zero_mul]
  | m + 1 => by rw [sumN_succ, sumN_succ, sumN_mulL, Int.add_mul]
/-- shares alone are never due too much -/
theorem plain_le {q : Int} {m : Nat} {s : Nat → Int} (h : ShN q m s) {t : Int} (t0 : 0 ≤ t) : sumN m (fun k => s k * t / q) ≤ t := by
  have q1 := h.q1
  have e : sumN m (fun k => s k * t / q) * q ≤ t * q := by
    have a : sumN m (fun k => s k * t / q * q) ≤ sumN m fun k => s k * t := sumN_le fun k hk => fl_lo (by omega)
    have a1 : sumN m (fun k => s k * t / q * q) = sumN m (fun k => s k * t / q) * q := sumN_mulL
    have a2 : sumN m (fun k => s k * t) = sumN m s * t := sumN_mulL
    have b : sumN m s * t ≤ q * t := Int.mul_le_mul_of_nonneg_right h.sm t0
    rw [Int.mul_comm t q]
    omega
  exact Int.le_of_mul_le_mul_right e (by omega)
theorem d_more {q x s : Int} (q1 : 1 ≤ q) : (x + s * q) / q = x / q + s := by
  rw [Int.add_mul_ediv_right _ _ (by omega)]
theorem nf_more {q : Int} {m : Nat} {l s : Nat → Int} (h : ShN q m s) (g : GoodN q m l s) {t : Int} (t1 : 1 ≤ t) (tq : t ≤ q + 1) : DN q m l s t ≤ t := by
  have q1 := h.q1
  by_cases c : t ≤ q
  · exact g.nf t t1 c
  · have e : t = q + 1 := by omega
    subst e
    have a : DN q m l s (q + 1) ≤ sumN m fun k => s k + max 0 (dN q l s k 1) := by
      refine sumN_le fun k hk => ?_
      have e : dN q l s k (q + 1) = dN q l s k 1 + s k := by
        unfold dN
        rw [← d_more q1]
        congr 1
        rw [Int.mul_add, Int.mul_one]
        omega
      have s0 := h.s0 k hk
      rw [e]
      omega
    have b : sumN m (fun k => s k + max 0 (dN q l s k 1)) = sumN m s + DN q m l s 1 := by
      unfold DN
      clear a
      induction m with
      | zero => rfl
      | succ m ih =>
        rw [sumN_succ, sumN_succ, sumN_succ, ih ⟨h.q1, fun k hk => h.s0 k (by omega), ?_⟩ ?_]
        · omega
        · have := h.sm
          rw [sumN_succ] at this
          have := h.s0 m (by omega)
          omega
        · refine ⟨fun k hk => g.lo k (by omega), fun k hk => g.hi k (by omega), fun t t1 t2 => ?_⟩
          have := g.nf t t1 t2
          unfold DN at this
          rw [sumN_succ] at this
          unfold DN
          omega
    have n1 := g.nf 1 (by omega) q1
    have := h.sm
    omega
theorem endN_le {q : Int} {l s : Nat → Int} {k : Nat} {T : Int} (q1 : 1 ≤ q) (sp : 0 < s k) : endN q l s k ≤ T ↔ 1 ≤ dN q l s k T := by
  unfold endN dN
  have e1 : -T ≤ (l k - q) / s k ↔ -T * s k ≤ l k - q := Int.le_ediv_iff_mul_le sp
  have e2 : 1 ≤ (l k + s k * T) / q ↔ 1 * q ≤ l k + s k * T := Int.le_ediv_iff_mul_le (by omega)
  rw [e2, Int.one_mul]
  have e3 : -T * s k = -(s k * T) := by rw [Int.neg_mul, Int.mul_comm]
  rw [e3] at e1
  omega
theorem good_step {q : Int} {m : Nat} {l s : Nat → Int} {r : Option Nat} (h : ShN q m s) (g : GoodN q m l s) (p : PickN q m l s r) : GoodN q m (nxtN q l s r) s := by
  have q1 := h.q1
  have sle : ∀ k, k < m → s k ≤ q := fun k hk => by
    have := sumN_one h.s0 hk
    have := h.sm
    omega
  -- who is due at once is picked
  have once : ∀ k, k < m → q ≤ l k + s k → r = some k := fun k hk hd => by
    have lk := g.hi k hk
    have el : eligN l s k := ⟨by omega, by omega⟩
    have dk : 1 ≤ dN q l s k 1 := by
      unfold dN
      rw [Int.mul_one]
      exact (Int.le_ediv_iff_mul_le (by omega)).mpr (by omega)
    cases r with
    | none => exact (p k hk el).elim
    | some r =>
      obtain ⟨hr, er, hm⟩ := p
      have ek := (endN_le (q := q) (l := l) q1 el.1).mpr dk
      have e2 := hm k hk el
      have dr := (endN_le (q := q) (l := l) (k := r) (T := 1) q1 er.1).mp (by omega)
      by_cases e : k = r
      · rw [e]
      · have := sumN_two (f := fun k => max 0 (dN q l s k 1)) (fun k _ => by omega) hk hr e
        have n1 := g.nf 1 (by omega) q1
        unfold DN at n1
        omega
  refine ⟨fun k hk => ?_, fun k hk => ?_, fun t t1 tq => ?_⟩
  · unfold nxtN
    have a := g.lo k hk
    have b := h.s0 k hk
    by_cases e : r = some k
    · subst e
      rw [if_pos rfl]
      have := p.2.1.2
      omega
    · rw [if_neg e]
      omega
  · unfold nxtN
    have a := g.hi k hk
    have b := sle k hk
    by_cases e : r = some k
    · rw [if_pos e]
      omega
    · rw [if_neg e]
      have : ¬ q ≤ l k + s k := fun z => e (once k hk z)
      omega
  · have d' : ∀ k, dN q (nxtN q l s r) s k t = dN q l s k (t + 1) - (if r = some k then 1 else 0) := fun k => by
      have e : nxtN q l s r k + s k * t = l k + s k * (t + 1) + (-(if r = some k then 1 else 0)) * q := by
        unfold nxtN
        rw [Int.mul_add, Int.mul_one]
        split
        · omega
        · omega
      unfold dN
      rw [e, d_more q1]
      omega
    have idle : ∀ k, k < m → ¬ eligN l s k → max 0 (dN q l s k (t + 1)) ≤ s k * t / q := fun k hk ne => by
      have s0 := h.s0 k hk
      have nn : 0 ≤ s k * t := Int.mul_nonneg s0 (by omega)
      have lk := g.hi k hk
      have pos : 0 ≤ s k * t / q := Int.ediv_nonneg nn (by omega)
      unfold dN
      by_cases z : s k = 0
      · rw [z, Int.zero_mul, Int.add_zero]
        have : l k / q < 1 := (Int.ediv_lt_iff_lt_mul (by omega)).mpr (by omega)
        rw [z] at pos
        rw [Int.zero_mul] at pos ⊢
        omega
      · have le : l k + s k ≤ 0 := by
          unfold eligN at ne
          omega
        have : (l k + s k * (t + 1)) / q ≤ s k * t / q := Int.ediv_le_ediv (by omega) (by rw [Int.mul_add, Int.mul_one]; omega)
        omega
    have pl := plain_le h (t := t) (by omega)
    unfold DN
    cases r with
    | none =>
      refine Int.le_trans (sumN_le fun k hk => ?_) pl
      rw [d' k]
      simp only [reduceCtorEq, if_false, Int.sub_zero]
      exact idle k hk (p k hk)
    | some r =>
      obtain ⟨hr, er, hm⟩ := p
      by_cases c : 1 ≤ dN q l s r (t + 1)
      · have big := nf_more h g (t := t + 1) (by omega) (by omega)
        have e := sumN_but (f := fun k => max 0 (dN q l s k (t + 1))) (g := fun k => max 0 (dN q (nxtN q l s (some r)) s k t)) (c := -1) hr (fun k hk ne => by
          rw [d' k, if_neg fun z => ne (Option.some.inj z).symm, Int.sub_zero]) (by
          show max 0 (dN q (nxtN q l s (some r)) s r t) = max 0 (dN q l s r (t + 1)) + -1
          rw [d' r, if_pos rfl]
          omega)
        rw [e]
        unfold DN at big
        omega
      · refine Int.le_trans (sumN_le fun k hk => ?_) pl
        have s0 := h.s0 k hk
        have pos : 0 ≤ s k * t / q := Int.ediv_nonneg (Int.mul_nonneg s0 (by omega)) (by omega)
        rw [d' k]
        by_cases el : eligN l s k
        · have nd : dN q l s k (t + 1) ≤ 0 := by
            have a := hm k hk el
            have b : ¬ endN q l s r ≤ t + 1 := fun z => c ((endN_le q1 er.1).mp z)
            have b2 : ¬ endN q l s k ≤ t + 1 := by omega
            have : ¬ 1 ≤ dN q l s k (t + 1) := fun z => b2 ((endN_le q1 el.1).mpr z)
            omega
          split <;> omega
        · have := idle k hk el
          split <;> omega
/-! a newcomer at a moment with all lags 0 -/
end Ev
namespace Ev
open PySem L2 DL
/-! ### lags under a base, shares behind a change -/
structure ChOk (b : Int) (ls : List Int) (q : Int) (ss : List Int) : Prop where
  b1 : 1 ≤ b
  b2 : b ≤ MP
  l1 : 1 ≤ ls.length
  l2 : ls.length ≤ 12
  lg : ∀ l ∈ ls, 1 - b ≤ l ∧ l ≤ b - 1
  q1 : 1 ≤ q
  q2 : q ≤ 3000
  sl : ss.length = ls.length
  s0 : ∀ s ∈ ss, 0 ≤ s
  sm : ss.sum ≤ q
theorem sum_take_le {ss : List Int} (h : ∀ s ∈ ss, 0 ≤ s) {j : Nat} {s : Int} (hj : ss[j]? = some s) : (ss.take j).sum + s ≤ ss.sum := by
  induction ss generalizing j with
  | nil => cases hj
  | cons x xs ih =>
    have h2 : ∀ s ∈ xs, 0 ≤ s := fun s hs => h s (List.mem_cons_of_mem _ hs)
    have nn : ∀ ys : List Int, (∀ y ∈ ys, 0 ≤ y) → 0 ≤ ys.sum := fun ys hy => by
      induction ys with
      | nil => exact Int.le_refl 0
      | cons y ys ih2 =>
        rw [List.sum_cons]
        have := hy y List.mem_cons_self
        have := ih2 fun z hz => hy z (List.mem_cons_of_mem _ hz)
        omega
    cases j with
    | zero =>
      cases hj
      rw [List.take_zero, List.sum_cons, List.sum_nil]
      have := nn xs h2
      omega
    | succ j =>
      have hj' : xs[j]? = some s := hj
      have := ih h2 hj'
      rw [List.take_succ_cons, List.sum_cons, List.sum_cons]
      omega
/-- what a process needs by the moment t behind the change -/
def dueOf (b q t l s : Int) : Int := (l * q + s * t * b) / (b * q)
def dues (b q t : Int) (ls ss : List Int) : List Int := List.zipWith (dueOf b q t) ls ss
def dueL (b q t : Int) (ls ss : List Int) : Int := ((dues b q t ls ss).filter fun d => decide (d > 0)).sum
theorem dues_len (b q t : Int) (ls ss : List Int) : (dues b q t ls ss).length ≤ ls.length := by
  unfold dues
  rw [List.length_zipWith]
  omega
theorem ChOk.bb {b q : Int} {ls ss : List Int} (k : ChOk b ls q ss) : Bd 110 b := mp_bd (by have := k.b1; omega) k.b2
theorem ChOk.bq {b q : Int} {ls ss : List Int} (k : ChOk b ls q ss) : Bd 20 q := by
  have := k.q1
  have := k.q2
  unfold Bd
  omega
theorem ChOk.bl {b q : Int} {ls ss : List Int} (k : ChOk b ls q ss) {l : Int} (h : l ∈ ls) : Bd 110 l := by
  have := k.lg l h
  exact k.bb.le (by omega)
theorem share_le {ss : List Int} (h : ∀ s ∈ ss, 0 ≤ s) {s : Int} (hs : s ∈ ss) : s ≤ ss.sum := by
  obtain ⟨j, hj⟩ := List.getElem?_of_mem hs
  have := sum_take_le h hj
  have nn : ∀ ys : List Int, (∀ y ∈ ys, 0 ≤ y) → 0 ≤ ys.sum := fun ys hy => by
    induction ys with
    | nil => exact Int.le_refl 0
    | cons y ys ih2 =>
      rw [List.sum_cons]
      have := hy y List.mem_cons_self
      have := ih2 fun z hz => hy z (List.mem_cons_of_mem _ hz)
      omega
  have := nn (ss.take j) fun y hy => h y (List.mem_of_mem_take hy)
  omega
theorem ChOk.bs {b q : Int} {ls ss : List Int} (k : ChOk b ls q ss) {s : Int} (h : s ∈ ss) : Bd 20 s := by
  have := k.s0 s h
  have := share_le k.s0 h
  have := k.sm
  have := k.q2
  unfold Bd
  omega
end Ev
namespace Ev
open PySem L2 DL
/-! ### the greatest newcomer -/
def NoFail (b q : Int) (ls ss : List Int) : Prop := ∀ t : Int, 1 ≤ t → t ≤ q → dueL b q t ls ss ≤ t
end Ev
namespace Ev
open PySem L2 DL
/-! ### failing moments, as the law finds them -/
structure FlOk (b : Int) (ls : List Int) (q : Int) (ss : List Int) : Prop where
  b1 : 1 ≤ b
  b2 : b ≤ MP
  l2 : ls.length ≤ 13
  lg : ∀ l ∈ ls, 1 - b ≤ l ∧ l ≤ b - 1
  q1 : 1 ≤ q
  q2 : q ≤ 3000
  sl : ss.length = ls.length
  s0 : ∀ s ∈ ss, 0 ≤ s
  sm : ss.sum ≤ q
theorem ChOk.fl {b q : Int} {ls ss : List Int} (k : ChOk b ls q ss) : FlOk b ls q ss := ⟨k.b1, k.b2, Nat.le_trans k.l2 (by decide), k.lg, k.q1, k.q2, k.sl, k.s0, k.sm⟩
theorem FlOk.bb {b q : Int} {ls ss : List Int} (k : FlOk b ls q ss) : Bd 110 b := mp_bd (by have := k.b1; omega) k.b2
theorem FlOk.bq {b q : Int} {ls ss : List Int} (k : FlOk b ls q ss) : Bd 20 q := by
  have := k.q1
  have := k.q2
  unfold Bd
  omega
theorem FlOk.bl {b q : Int} {ls ss : List Int} (k : FlOk b ls q ss) {l : Int} (h : l ∈ ls) : Bd 110 l := by
  have := k.lg l h
  exact k.bb.le (by omega)
theorem FlOk.bs {b q : Int} {ls ss : List Int} (k : FlOk b ls q ss) {s : Int} (h : s ∈ ss) : Bd 20 s := by
  have := k.s0 s h
  have := share_le k.s0 h
  have := k.sm
  have := k.q2
  unfold Bd
  omega
def failTo (b q : Int) (ls ss : List Int) : Nat → Option Int
  | 0 => none
  | n + 1 => match failTo b q ls ss n with
    | some t => some t
    | none => if dueL b q (1 + (n : Int)) ls ss > 1 + (n : Int) then some (1 + (n : Int)) else none
theorem failTo_none {b q : Int} {ls ss : List Int} : ∀ n : Nat, failTo b q ls ss n = none ↔ ∀ t : Int, 1 ≤ t → t ≤ (n : Int) → dueL b q t ls ss ≤ t
  | 0 => ⟨fun _ t h1 h2 => by omega, fun _ => rfl⟩
  | n + 1 => by
    have ih := failTo_none (b := b) (q := q) (ls := ls) (ss := ss) n
    unfold failTo
    cases e : failTo b q ls ss n with
    | some t =>
      rw [e] at ih
      refine ⟨fun h => (by cases h), fun h => ?_⟩
      exact absurd (ih.mpr fun t h1 h2 => h t h1 (by omega)) (by intro z; cases z)
    | none =>
      rw [e] at ih
      have hn := ih.mp rfl
      show (if dueL b q (1 + (n : Int)) ls ss > 1 + (n : Int) then some (1 + (n : Int)) else none) = none ↔ _
      by_cases h : dueL b q (1 + (n : Int)) ls ss > 1 + (n : Int)
      · rw [if_pos h]
        refine ⟨fun z => (by cases z), fun z => ?_⟩
        have := z (1 + (n : Int)) (by omega) (by omega)
        omega
      · rw [if_neg h]
        refine ⟨fun _ t h1 h2 => ?_, fun _ => rfl⟩
        by_cases ht : t ≤ (n : Int)
        · exact hn t h1 ht
        · have e2 : t = 1 + (n : Int) := by omega
          rw [e2]
          omega
def failS (b q : Int) (ls ss : List Int) : Option Int := failTo b q ls ss q.toNat
theorem failS_none {b q : Int} {ls ss : List Int} (hq : 1 ≤ q) : failS b q ls ss = none ↔ NoFail b q ls ss := by
  unfold failS NoFail
  rw [failTo_none]
  have e : ((q.toNat : Nat) : Int) = q := by omega
  rw [e]
theorem failTo_step {b q : Int} {ls ss : List Int} {n : Nat} (h : failTo b q ls ss n = none) : failTo b q ls ss (n + 1) = if dueL b q (1 + (n : Int)) ls ss > 1 + (n : Int) then some (1 + (n : Int)) else none := by
  show (match failTo b q ls ss n with
    | some t => some t
    | none => if dueL b q (1 + (n : Int)) ls ss > 1 + (n : Int) then some (1 + (n : Int)) else none) = _
  rw [h]
theorem failTo_stays {b q : Int} {ls ss : List Int} {n : Nat} {t : Int} (h : failTo b q ls ss n = some t) : ∀ m : Nat, n ≤ m → failTo b q ls ss m = some t := fun m hm => by
  obtain ⟨k, rfl⟩ : ∃ k, m = n + k := ⟨m - n, by omega⟩
  clear hm
  induction k with
  | zero => exact h
  | succ k ih =>
    show (match failTo b q ls ss (n + k) with
      | some t => some t
      | none => if dueL b q (1 + ((n + k : Nat) : Int)) ls ss > 1 + ((n + k : Nat) : Int) then some (1 + ((n + k : Nat) : Int)) else none) = some t
    rw [ih]
theorem sum_max0 : ∀ ys : List Int, (ys.map fun y => max 0 y).sum = (ys.filter fun d => decide (d > 0)).sum
  | [] => rfl
  | y :: ys => by
    have ih := sum_max0 ys
    rw [List.map_cons, List.sum_cons]
    by_cases h : y > 0
    · rw [List.filter_cons_of_pos (by simpa using h), List.sum_cons, ih]
      omega
    · rw [List.filter_cons_of_neg (by simpa using h), ih]
      omega
theorem dueL_max (b q t : Int) (ls ss : List Int) : ((dues b q t ls ss).map fun y => max 0 y).sum = dueL b q t ls ss := sum_max0 _
end Ev
namespace Ev
open PySem L2 DL
/-! ### a newcomer with lag 0 and the share n -/
theorem FlOk.new {b q n : Int} {ls ss : List Int} (k : ChOk b ls q ss) (n0 : 0 ≤ n) (n1 : n ≤ q - ss.sum) : FlOk b (ls ++ [0]) q (ss ++ [n]) := by
  have b1 := k.b1
  refine ⟨k.b1, k.b2, by rw [List.length_append]; have := k.l2; show _ + 1 ≤ 13; omega, fun l hl => ?_, k.q1, k.q2, by rw [List.length_append, List.length_append, k.sl]; rfl, fun s hs => ?_, by rw [List.sum_append]; show _ + (n + 0) ≤ q; omega⟩
  · rcases List.mem_append.mp hl with h | h
    · exact k.lg l h
    · rw [List.mem_singleton.mp h]
      omega
  · rcases List.mem_append.mp hs with h | h
    · exact k.s0 s h
    · rw [List.mem_singleton.mp h]
      exact n0
end Ev
namespace Ev
open PySem L2 DL
/-! ### a drawn change: ground, lags, period, shares -/
def pk3' (x a b c : Int) : Int := if x = 0 then a else if x = 1 then b else c
theorem pk3'_all {x a b c : Int} (Q : Int → Prop) (ha : Q a) (hb : Q b) (hc : Q c) : Q (pk3' x a b c) := by
  unfold pk3'
  split
  · exact ha
  · split
    · exact hb
    · exact hc
structure Chg where
  some : List Int
  parts : List Int
  left : Int
  s : Src
def chStep (b : Int) (c : Chg) : Chg :=
  let d1 := draw c.s (2 * b - 1)
  let d2 := draw d1.2 3
  let d3 := draw d2.2 (c.left + 1)
  ⟨c.some ++ [pk3' d2.1 (d1.1 + 1 - b) (1 - b) 0], c.parts ++ [d3.1], c.left - d3.1, d3.2⟩
def chIt (b : Int) : Nat → Chg → Chg
  | 0, c => c
  | n + 1, c => chStep b (chIt b n c)
structure ChgOk (b q : Int) (n m : Nat) (c : Chg) : Prop where
  l1 : c.some.length = n
  l2 : c.parts.length = n
  lg : ∀ l ∈ c.some, 1 - b ≤ l ∧ l ≤ b - 1
  s0 : ∀ s ∈ c.parts, 0 ≤ s
  lf : 0 ≤ c.left
  sm : c.parts.sum + c.left ≤ q
  ok : c.s.Ok (m + 3 * n)
theorem chStep_ok {b q : Int} {n m : Nat} {c : Chg} (b1 : 1 ≤ b) (k : ChgOk b q n m c) : ChgOk b q (n + 1) m (chStep b c) := by
  have lf := k.lf
  have sm := k.sm
  have a0 := draw_lo c.s (show 0 < 2 * b - 1 by omega)
  have a1 := draw_hi c.s (show 0 < 2 * b - 1 by omega)
  have ka := draw_ok k.ok (show 0 < 2 * b - 1 by omega)
  have kb := draw_ok ka (show (0 : Int) < 3 by decide)
  have e0 := draw_lo (draw (draw c.s (2 * b - 1)).2 3).2 (show 0 < c.left + 1 by omega)
  have e1 := draw_hi (draw (draw c.s (2 * b - 1)).2 3).2 (show 0 < c.left + 1 by omega)
  have kc := draw_ok kb (show 0 < c.left + 1 by omega)
  refine ⟨?_, ?_, fun l hl => ?_, fun s hs => ?_, ?_, ?_, kc.up (by omega)⟩
  · show (c.some ++ [_]).length = n + 1
    rw [List.length_append, k.l1]
    rfl
  · show (c.parts ++ [_]).length = n + 1
    rw [List.length_append, k.l2]
    rfl
  · rcases List.mem_append.mp hl with h | h
    · exact k.lg l h
    · rw [List.mem_singleton.mp h]
      exact pk3'_all (fun l => 1 - b ≤ l ∧ l ≤ b - 1) ⟨by omega, by omega⟩ ⟨by omega, by omega⟩ ⟨by omega, by omega⟩
  · rcases List.mem_append.mp hs with h | h
    · exact k.s0 s h
    · rw [List.mem_singleton.mp h]
      exact e0
  · show 0 ≤ c.left - _
    omega
  · show (c.parts ++ [_]).sum + (c.left - _) ≤ q
    rw [List.sum_append, List.sum_cons, List.sum_nil]
    omega
theorem chIt_ok {b q : Int} {m : Nat} {c : Chg} (b1 : 1 ≤ b) (k : ChgOk b q 0 m c) : ∀ n : Nat, ChgOk b q n m (chIt b n c)
  | 0 => k
  | n + 1 => chStep_ok b1 (chIt_ok b1 k n)
end Ev
namespace Ev
open PySem L2 DL
/-! ### the whole of a drawn change -/
structure Drw where
  b : Int
  some : List Int
  q : Int
  parts : List Int
  s : Src
def gnd (x : Src) : Int × Src :=
  let d1 := draw x 4
  let d2 := draw d1.2 9
  let d3 := draw d2.2 (10 ^ 30 - 1)
  let d4 := draw d3.2 3
  (1 + pk3' d4.1 d1.1 d2.1 d3.1, d4.2)
theorem gnd_ok {x : Src} {m : Nat} (k : x.Ok m) : 1 ≤ (gnd x).1 ∧ (gnd x).1 ≤ MP ∧ (gnd x).2.Ok (m + 4) := by
  have a0 := draw_lo x (show (0 : Int) < 4 by decide)
  have a1 := draw_hi x (show (0 : Int) < 4 by decide)
  have ka := draw_ok k (show (0 : Int) < 4 by decide)
  have b0 := draw_lo (draw x 4).2 (show (0 : Int) < 9 by decide)
  have b1 := draw_hi (draw x 4).2 (show (0 : Int) < 9 by decide)
  have kb := draw_ok ka (show (0 : Int) < 9 by decide)
  have c0 := draw_lo (draw (draw x 4).2 9).2 (show (0 : Int) < 10 ^ 30 - 1 by decide)
  have c1 := draw_hi (draw (draw x 4).2 9).2 (show (0 : Int) < 10 ^ 30 - 1 by decide)
  have kc := draw_ok kb (show (0 : Int) < 10 ^ 30 - 1 by decide)
  have kd := draw_ok kc (show (0 : Int) < 3 by decide)
  refine ⟨?_, ?_, kd⟩
  · exact pk3'_all (fun v => 1 ≤ 1 + v) (by omega) (by omega) (by omega)
  · exact pk3'_all (fun v => 1 + v ≤ MP) (by unfold MP; omega) (by unfold MP; omega) (by unfold MP; omega)
end Ev
namespace Ev
open PySem L2 DL
def pk2' (x a b : Int) : Int := if x = 0 then a else b
/-- the last item is raised -/
def upLast (ps : List Int) (v : Int) : List Int := ps.set (ps.length - 1) (ps.getD (ps.length - 1) 0 + v)
theorem upLast_app (ps : List Int) (y v : Int) : upLast (ps ++ [y]) v = ps ++ [y + v] := by
  unfold upLast
  have e : (ps ++ [y]).length - 1 = ps.length := by rw [List.length_append]; rfl
  rw [e, List.getD_eq_getElem?_getD, List.getElem?_append_right (Nat.le_refl _), Nat.sub_self, List.set_append_right _ _ (Nat.le_refl _), Nat.sub_self]
  rfl
def chg0 (x : Src) (far most : Int) : Chg :=
  let g := gnd x
  let f := draw g.2 far
  let e1 := draw f.2 (1 + f.1 + 1)
  let e2 := draw e1.2 3
  let t := draw e2.2 most
  chIt g.1 (1 + t.1).toNat ⟨[], [], 1 + f.1 - pk3' e2.1 0 0 e1.1, t.2⟩
end Ev
namespace Ev
open PySem L2 DL
theorem sum_nn : ∀ {ys : List Int}, (∀ y ∈ ys, 0 ≤ y) → 0 ≤ ys.sum
  | [], _ => Int.le_refl 0
  | y :: ys, h => by
    rw [List.sum_cons]
    have := h y List.mem_cons_self
    have := sum_nn (ys := ys) fun z hz => h z (List.mem_cons_of_mem _ hz)
    omega
def chgS (x : Src) (far most : Int) : Chg :=
  ⟨[], [], 1 + (draw (gnd x).2 far).1 - pk3' (draw (draw (draw (gnd x).2 far).2 (1 + (draw (gnd x).2 far).1 + 1)).2 3).1 0 0 (draw (draw (gnd x).2 far).2 (1 + (draw (gnd x).2 far).1 + 1)).1, (draw (draw (draw (draw (gnd x).2 far).2 (1 + (draw (gnd x).2 far).1 + 1)).2 3).2 most).2⟩
theorem chg0_base {x : Src} {far most : Int} {m : Nat} (k : x.Ok m) (f1 : 1 ≤ far) (f2 : far ≤ 3000) (m1 : 1 ≤ most) (m2 : most ≤ 12) : ChgOk (gnd x).1 (1 + (draw (gnd x).2 far).1) 0 (m + 8) (chgS x far most) := by
  obtain ⟨g1, g2, kg⟩ := gnd_ok k
  have a0 := draw_lo (gnd x).2 (show 0 < far by omega)
  have ka := draw_ok kg (show 0 < far by omega)
  have b0 := draw_lo (draw (gnd x).2 far).2 (show 0 < 1 + (draw (gnd x).2 far).1 + 1 by omega)
  have b1 := draw_hi (draw (gnd x).2 far).2 (show 0 < 1 + (draw (gnd x).2 far).1 + 1 by omega)
  have kb := draw_ok ka (show 0 < 1 + (draw (gnd x).2 far).1 + 1 by omega)
  have kt := draw_ok (draw_ok kb (show (0 : Int) < 3 by decide)) (show 0 < most by omega)
  have p0 := pk3'_all (x := (draw (draw (draw (gnd x).2 far).2 (1 + (draw (gnd x).2 far).1 + 1)).2 3).1) (a := 0) (b := 0) (c := (draw (draw (gnd x).2 far).2 (1 + (draw (gnd x).2 far).1 + 1)).1) (fun v => 0 ≤ v ∧ v ≤ 1 + (draw (gnd x).2 far).1) ⟨by omega, by omega⟩ ⟨by omega, by omega⟩ ⟨b0, by omega⟩
  refine ⟨rfl, rfl, fun l h => (by cases h), fun s h => (by cases h), Int.sub_nonneg_of_le p0.2, ?_, kt.up (by omega)⟩
  have z := p0.1
  show (0 : Int) + (1 + (draw (gnd x).2 far).1 - pk3' (draw (draw (draw (gnd x).2 far).2 (1 + (draw (gnd x).2 far).1 + 1)).2 3).1 0 0 (draw (draw (gnd x).2 far).2 (1 + (draw (gnd x).2 far).1 + 1)).1) ≤ _
  omega
def chg (x : Src) (far most : Int) : Drw :=
  ⟨(gnd x).1, (chg0 x far most).some, 1 + (draw (gnd x).2 far).1, upLast (chg0 x far most).parts (pk2' (draw (chg0 x far most).s 2).1 0 (chg0 x far most).left), (draw (chg0 x far most).s 2).2⟩
theorem chg_ok {x : Src} {far most : Int} {m : Nat} (k : x.Ok m) (f1 : 1 ≤ far) (f2 : far ≤ 3000) (m1 : 1 ≤ most) (m2 : most ≤ 12) :
    ChOk (chg x far most).b (chg x far most).some (chg x far most).q (chg x far most).parts ∧ (chg x far most).s.Ok (m + 50) := by
  obtain ⟨g1, g2, kg⟩ := gnd_ok k
  have a0 := draw_lo (gnd x).2 (show 0 < far by omega)
  have a1 := draw_hi (gnd x).2 (show 0 < far by omega)
  have ka := draw_ok kg (show 0 < far by omega)
  have b0 := draw_lo (draw (gnd x).2 far).2 (show 0 < 1 + (draw (gnd x).2 far).1 + 1 by omega)
  have b1 := draw_hi (draw (gnd x).2 far).2 (show 0 < 1 + (draw (gnd x).2 far).1 + 1 by omega)
  have kb := draw_ok ka (show 0 < 1 + (draw (gnd x).2 far).1 + 1 by omega)
  have kc := draw_ok kb (show (0 : Int) < 3 by decide)
  have t0 := draw_lo (draw (draw (draw (gnd x).2 far).2 (1 + (draw (gnd x).2 far).1 + 1)).2 3).2 (show 0 < most by omega)
  have t1 := draw_hi (draw (draw (draw (gnd x).2 far).2 (1 + (draw (gnd x).2 far).1 + 1)).2 3).2 (show 0 < most by omega)
  have kt := draw_ok kc (show 0 < most by omega)
  have base : ChgOk (gnd x).1 (1 + (draw (gnd x).2 far).1) 0 (m + 4 + 1 + 1 + 1 + 1) ⟨[], [], 1 + (draw (gnd x).2 far).1 - pk3' (draw (draw (draw (gnd x).2 far).2 (1 + (draw (gnd x).2 far).1 + 1)).2 3).1 0 0 (draw (draw (gnd x).2 far).2 (1 + (draw (gnd x).2 far).1 + 1)).1, (draw (draw (draw (draw (gnd x).2 far).2 (1 + (draw (gnd x).2 far).1 + 1)).2 3).2 most).2⟩ := by
    have p0 := pk3'_all (x := (draw (draw (draw (gnd x).2 far).2 (1 + (draw (gnd x).2 far).1 + 1)).2 3).1) (a := 0) (b := 0) (c := (draw (draw (gnd x).2 far).2 (1 + (draw (gnd x).2 far).1 + 1)).1) (fun v => 0 ≤ v ∧ v ≤ 1 + (draw (gnd x).2 far).1) ⟨by omega, by omega⟩ ⟨by omega, by omega⟩ ⟨b0, by omega⟩
    refine ⟨rfl, rfl, fun l h => (by cases h), fun s h => (by cases h), ?_, ?_, kt.up (by omega)⟩
    · exact Int.sub_nonneg_of_le p0.2
    · have z := p0.1
      show (0 : Int) + (1 + (draw (gnd x).2 far).1 - pk3' (draw (draw (draw (gnd x).2 far).2 (1 + (draw (gnd x).2 far).1 + 1)).2 3).1 0 0 (draw (draw (gnd x).2 far).2 (1 + (draw (gnd x).2 far).1 + 1)).1) ≤ _
      omega
  have c := chIt_ok g1 base (1 + (draw (draw (draw (draw (gnd x).2 far).2 (1 + (draw (gnd x).2 far).1 + 1)).2 3).2 most).1).toNat
  have ec : chIt (gnd x).1 (1 + (draw (draw (draw (draw (gnd x).2 far).2 (1 + (draw (gnd x).2 far).1 + 1)).2 3).2 most).1).toNat _ = chg0 x far most := rfl
  rw [ec] at c
  generalize hn : (1 + (draw (draw (draw (draw (gnd x).2 far).2 (1 + (draw (gnd x).2 far).1 + 1)).2 3).2 most).1).toNat = n at c
  have n1 : 1 ≤ n := by omega
  have n2 : n ≤ 12 := by omega
  unfold chg
  generalize chg0 x far most = ch at *
  have kz := draw_ok c.ok (show (0 : Int) < 2 by decide)
  have lf := c.lf
  have sm := c.sm
  have v0 : 0 ≤ pk2' (draw ch.s 2).1 0 ch.left ∧ pk2' (draw ch.s 2).1 0 ch.left ≤ ch.left := by
    unfold pk2'
    split
    · exact ⟨by omega, by omega⟩
    · exact ⟨lf, by omega⟩
  generalize pk2' (draw ch.s 2).1 0 ch.left = v at *
  obtain ⟨ps, y, hp⟩ : ∃ ps y, ch.parts = ps ++ [y] := by
    have hne : ch.parts ≠ [] := fun z => by have := c.l2; rw [z] at this; have e0 : (0 : Nat) = n := this; omega
    exact ⟨ch.parts.dropLast, ch.parts.getLast hne, (List.dropLast_concat_getLast hne).symm⟩
  have l2 := c.l2
  have s0 := c.s0
  rw [hp] at sm l2 s0 ⊢
  rw [upLast_app]
  rw [List.length_append] at l2
  rw [List.sum_append, List.sum_cons, List.sum_nil] at sm
  have y0 := s0 y (List.mem_append_right _ (List.mem_singleton.mpr rfl))
  refine ⟨⟨g1, g2, by show 1 ≤ ch.some.length; rw [c.l1]; exact n1, by show ch.some.length ≤ 12; rw [c.l1]; exact n2, c.lg, by show 1 ≤ 1 + (draw (gnd x).2 far).1; omega, by show 1 + (draw (gnd x).2 far).1 ≤ 3000; omega, ?_, fun s hs => ?_, ?_⟩, kz.up (by omega)⟩
  · show (ps ++ [y + v]).length = ch.some.length
    rw [List.length_append, c.l1]
    exact l2
  · rcases List.mem_append.mp hs with h | h
    · exact s0 s (List.mem_append_left _ h)
    · rw [List.mem_singleton.mp h]
      omega
  · show (ps ++ [y + v]).sum ≤ 1 + (draw (gnd x).2 far).1
    rw [List.sum_append, List.sum_cons, List.sum_nil]
    omega
end Ev
namespace Ev
open OW
open DL (Dt)
theorem ChOk.zb {b q : Int} {ls ss : List Int} (k : ChOk b ls q ss) : Sz 150 b := sz_of (by have := k.b1; omega) (by have := k.b2; unfold MP at this; omega)
theorem ChOk.zq {b q : Int} {ls ss : List Int} (k : ChOk b ls q ss) : Sz 64 q := sz_of (by have := k.q1; omega) (by have := k.q2; omega)
theorem ChOk.zl {b q : Int} {ls ss : List Int} (k : ChOk b ls q ss) {l : Int} (h : l ∈ ls) : Sz 150 l := ⟨Nat.lt_of_lt_of_le (k.bl h) (Nat.pow_le_pow_right (by decide) (by decide))⟩
theorem ChOk.zs {b q : Int} {ls ss : List Int} (k : ChOk b ls q ss) {s : Int} (h : s ∈ ss) : Sz 64 s := ⟨Nat.lt_of_lt_of_le (k.bs h) (Nat.pow_le_pow_right (by decide) (by decide))⟩
theorem need_lags_eval {b q : Int} {ls ss : List Int} (k : ChOk b ls q ss) : f_need_lags_4133 [.f (.int b), .f (.lst (ls.map .int))] = some (.rt (.f .non) [.no, .no]) := by
  have l1 := k.l1
  have l2 := k.l2
  obtain ⟨ρ, e, o2, o3, rfl⟩ : ∃ ρ, l1_need_lags_4133 [.f (.int b), .f (.lst (ls.map .int)), .no, .no] = some (.nx ρ) ∧ ∃ o2 o3, ρ = [.f (.int b), .f (.lst (ls.map .int)), o2, o3] := by
    refine wp_nx ?_
    unfold l1_need_lags_4133
    rw [e_for, iE_f (o := .f (.lst (ls.map .int))) (ds := ls.map .int) (ρ1 := [.f (.int b), .f (.lst (ls.map .int)), .no, .no]) (by simp (implicitDefEqProofs := false) (decide := true) (maxDischargeDepth := 9) [e_bnd, e_ret, e_opt, kO_s, kO_n, kO_i, kB_n, kB_o, kB_x, kB_i, e_val, kV_n, kV_o, kV_x, kV_i, e_seq, kS_n, kS_nx, kS_rt, kS_bk, kS_ct, kS_ex, kS_i, e_nil, e_pass, e_brk, e_cnt, e_sret, e_sretN, e_expr, e_if, e_set, e_par, e_par3, kP3_3, e_tgt, kTg_f, kTg_n, e_gN, e_gT, e_gs0, e_gs1, e_aug, kAg_i, e_app, kAp_l, e_item, e_for, e_forN, e_fn, kF_n, kF_nx, kF_rt, kF_ex, kF_i, e_outs0, e_outsT, e_outsF, e_K, e_Vf, e_Mf, e_bin, e_un, e_A0, e_A1, e_lst, e_tup, e_C, e_tV, kT_b, e_tAnd, e_tOr, e_tNot, e_xNot, kNt_b, e_xAnd, kAn_b, e_xOr, kOr_b, e_xIf, e_ch, kCh_i, kCz_i, e_is, e_Q, e_Rg1, e_Rg2, e_Sl, kSl_f, e_oN, e_oS, e_call, kA_rt, kA_ex, kA_n, kA_i, e_R0, e_Rv, e_Ri, e_callK, kCK_f, e_take0, e_takeV, e_takeI, e_put0, e_putV, e_putI, fz_f, fz_l, fzs_0, fzs_1, fzs_map, fzs_mapI, fzs_1l, e_b1, e_b2, e_b2g, e_bs, v_bn, v_add, v_sub, v_mul, v_div, v_mod, v_pow, v_neg, v_catNN, v_catFN, v_catNF, v_catFF, v_rep, v_lt, v_le, v_gt, v_ge, v_is, v_isN, v_isO, v_isNO, v_non, v_nonI, v_nonL, v_nonT, v_nonB, v_eqI, v_neI, v_eqS, v_neS, v_lenL, v_lenT, v_abs, v_max2, v_min2, v_min3, v_intsM, v_ints0, v_ints1, v_blsM, v_blsF, v_intsF, v_maxL, v_minL, v_sum, v_sort, v_all, v_any, v_int, v_intB, v_list, v_listT, v_tuple, v_kIsN, v_kIsI, v_kIsL, v_kIsT, v_kIsB, v_isInt, v_isBool, v_isLst, v_isTup, v_repr, v_reprE, v_at, v_atL, v_atN, v_ixT, v_ixL, v_ixN, e_qK, e_qV, v_gKd, v_gOs, v_gLs, v_gDs, v_gDsT, v_gF, v_gI, v_isNn, e_Vn', e_Mn', v_isNo1, v_isNo2, e_pV, e_qIxF, e_qIxN, e_qI, e_qB, e_get, kIt_l', v_ixLit, v_ix0, v_at0, v_at1, v_ix1, e_apply', e_eB, e_cK, e_cT1, e_cT2, e_cTb, e_wipe0, e_wipe1, e_back0, e_back1, v_bkF, v_bkNo, v_bkN, v_tY, v_Vg, v_atLast, v_ixS, v_setLast, v_fzSnoc, v_fzSnocC, v_LIM, v_fzF, v_fzC, v_fzFF, v_intsC, v_blsC, e_SrtSet, v_ss, e_tup2, kT2_2, v_minPI, v_minPP, v_isB, e_tBor, kTb_o, v_frzS_f, v_frzS_no, v_frzS_n, e_appP, e_clrP, v_appEach0, v_appEach1, v_appEachM, e_forApp0, e_forApp1, e_AS, v_kFl, e_tpo, v_ixTp, fz_tp, e_idx, kIdA_f, v_idx, v_ltT, e_borS, ]) rfl, kV_o]
    refine w_for (fun j ρ => ∃ o2 o3, ρ = [.f (.int b), .f (.lst (ls.map .int)), o2, o3]) ⟨_, _, rfl⟩ ?_ fun ρ z => z
    intro j d ρ hd ⟨o2, o3, e⟩
    subst e
    obtain ⟨c, hc, rfl⟩ := enum_at0 hd
    have hl := k.lg c (List.mem_of_getElem? hc)
    have ei := is_integer_yes hl.1 hl.2
    exact ⟨[.f (.int b), .f (.lst (ls.map .int)), .f (.int j), .f (.int c)], by simp (implicitDefEqProofs := false) (decide := true) (maxDischargeDepth := 9) [e_bnd, e_ret, e_opt, kO_s, kO_n, kO_i, kB_n, kB_o, kB_x, kB_i, e_val, kV_n, kV_o, kV_x, kV_i, e_seq, kS_n, kS_nx, kS_rt, kS_bk, kS_ct, kS_ex, kS_i, e_nil, e_pass, e_brk, e_cnt, e_sret, e_sretN, e_expr, e_if, e_set, e_par, e_par3, kP3_3, e_tgt, kTg_f, kTg_n, e_gN, e_gT, e_gs0, e_gs1, e_aug, kAg_i, e_app, kAp_l, e_item, e_for, e_forN, e_fn, kF_n, kF_nx, kF_rt, kF_ex, kF_i, e_outs0, e_outsT, e_outsF, e_K, e_Vf, e_Mf, e_bin, e_un, e_A0, e_A1, e_lst, e_tup, e_C, e_tV, kT_b, e_tAnd, e_tOr, e_tNot, e_xNot, kNt_b, e_xAnd, kAn_b, e_xOr, kOr_b, e_xIf, e_ch, kCh_i, kCz_i, e_is, e_Q, e_Rg1, e_Rg2, e_Sl, kSl_f, e_oN, e_oS, e_call, kA_rt, kA_ex, kA_n, kA_i, e_R0, e_Rv, e_Ri, e_callK, kCK_f, e_take0, e_takeV, e_takeI, e_put0, e_putV, e_putI, fz_f, fz_l, fzs_0, fzs_1, fzs_map, fzs_mapI, fzs_1l, e_b1, e_b2, e_b2g, e_bs, v_bn, v_add, v_sub, v_mul, v_div, v_mod, v_pow, v_neg, v_catNN, v_catFN, v_catNF, v_catFF, v_rep, v_lt, v_le, v_gt, v_ge, v_is, v_isN, v_isO, v_isNO, v_non, v_nonI, v_nonL, v_nonT, v_nonB, v_eqI, v_neI, v_eqS, v_neS, v_lenL, v_lenT, v_abs, v_max2, v_min2, v_min3, v_intsM, v_ints0, v_ints1, v_blsM, v_blsF, v_intsF, v_maxL, v_minL, v_sum, v_sort, v_all, v_any, v_int, v_intB, v_list, v_listT, v_tuple, v_kIsN, v_kIsI, v_kIsL, v_kIsT, v_kIsB, v_isInt, v_isBool, v_isLst, v_isTup, v_repr, v_reprE, v_at, v_atL, v_atN, v_ixT, v_ixL, v_ixN, e_qK, e_qV, v_gKd, v_gOs, v_gLs, v_gDs, v_gDsT, v_gF, v_gI, v_isNn, e_Vn', e_Mn', v_isNo1, v_isNo2, e_pV, e_qIxF, e_qIxN, e_qI, e_qB, e_get, kIt_l', v_ixLit, v_ix0, v_at0, v_at1, v_ix1, e_apply', e_eB, e_cK, e_cT1, e_cT2, e_cTb, e_wipe0, e_wipe1, e_back0, e_back1, v_bkF, v_bkNo, v_bkN, v_tY, v_Vg, v_atLast, v_ixS, v_setLast, v_fzSnoc, v_fzSnocC, v_LIM, v_fzF, v_fzC, v_fzFF, v_intsC, v_blsC, e_SrtSet, v_ss, e_tup2, kT2_2, v_minPI, v_minPP, v_isB, e_tBor, kTb_o, v_frzS_f, v_frzS_no, v_frzS_n, e_appP, e_clrP, v_appEach0, v_appEach1, v_appEachM, e_forApp0, e_forApp1, e_AS, v_kFl, e_tpo, v_ixTp, fz_tp, e_idx, kIdA_f, v_idx, v_ltT, e_borS, ], wp_eq (.nx [.f (.int b), .f (.lst (ls.map .int)), .f (.int j), .f (.int c)]) (by simp (implicitDefEqProofs := false) (decide := true) (maxDischargeDepth := 9) [e_bnd, e_ret, e_opt, kO_s, kO_n, kO_i, kB_n, kB_o, kB_x, kB_i, e_val, kV_n, kV_o, kV_x, kV_i, e_seq, kS_n, kS_nx, kS_rt, kS_bk, kS_ct, kS_ex, kS_i, e_nil, e_pass, e_brk, e_cnt, e_sret, e_sretN, e_expr, e_if, e_set, e_par, e_par3, kP3_3, e_tgt, kTg_f, kTg_n, e_gN, e_gT, e_gs0, e_gs1, e_aug, kAg_i, e_app, kAp_l, e_item, e_for, e_forN, e_fn, kF_n, kF_nx, kF_rt, kF_ex, kF_i, e_outs0, e_outsT, e_outsF, e_K, e_Vf, e_Mf, e_bin, e_un, e_A0, e_A1, e_lst, e_tup, e_C, e_tV, kT_b, e_tAnd, e_tOr, e_tNot, e_xNot, kNt_b, e_xAnd, kAn_b, e_xOr, kOr_b, e_xIf, e_ch, kCh_i, kCz_i, e_is, e_Q, e_Rg1, e_Rg2, e_Sl, kSl_f, e_oN, e_oS, e_call, kA_rt, kA_ex, kA_n, kA_i, e_R0, e_Rv, e_Ri, e_callK, kCK_f, e_take0, e_takeV, e_takeI, e_put0, e_putV, e_putI, fz_f, fz_l, fzs_0, fzs_1, fzs_map, fzs_mapI, fzs_1l, e_b1, e_b2, e_b2g, e_bs, v_bn, v_add, v_sub, v_mul, v_div, v_mod, v_pow, v_neg, v_catNN, v_catFN, v_catNF, v_catFF, v_rep, v_lt, v_le, v_gt, v_ge, v_is, v_isN, v_isO, v_isNO, v_non, v_nonI, v_nonL, v_nonT, v_nonB, v_eqI, v_neI, v_eqS, v_neS, v_lenL, v_lenT, v_abs, v_max2, v_min2, v_min3, v_intsM, v_ints0, v_ints1, v_blsM, v_blsF, v_intsF, v_maxL, v_minL, v_sum, v_sort, v_all, v_any, v_int, v_intB, v_list, v_listT, v_tuple, v_kIsN, v_kIsI, v_kIsL, v_kIsT, v_kIsB, v_isInt, v_isBool, v_isLst, v_isTup, v_repr, v_reprE, v_at, v_atL, v_atN, v_ixT, v_ixL, v_ixN, e_qK, e_qV, v_gKd, v_gOs, v_gLs, v_gDs, v_gDsT, v_gF, v_gI, v_isNn, e_Vn', e_Mn', v_isNo1, v_isNo2, e_pV, e_qIxF, e_qIxN, e_qI, e_qB, e_get, kIt_l', v_ixLit, v_ix0, v_at0, v_at1, v_ix1, e_apply', e_eB, e_cK, e_cT1, e_cT2, e_cTb, e_wipe0, e_wipe1, e_back0, e_back1, v_bkF, v_bkNo, v_bkN, v_tY, v_Vg, v_atLast, v_ixS, v_setLast, v_fzSnoc, v_fzSnocC, v_LIM, v_fzF, v_fzC, v_fzFF, v_intsC, v_blsC, e_SrtSet, v_ss, e_tup2, kT2_2, v_minPI, v_minPP, v_isB, e_tBor, kTb_o, v_frzS_f, v_frzS_no, v_frzS_n, e_appP, e_clrP, v_appEach0, v_appEach1, v_appEachM, e_forApp0, e_forApp1, e_AS, v_kFl, e_tpo, v_ixTp, fz_tp, e_idx, kIdA_f, v_idx, v_ltT, e_borS, ei]) ⟨_, _, rfl⟩⟩
  simp (implicitDefEqProofs := false) (decide := true) (maxDischargeDepth := 9) [e_bnd, e_ret, e_opt, kO_s, kO_n, kO_i, kB_n, kB_o, kB_x, kB_i, e_val, kV_n, kV_o, kV_x, kV_i, e_seq, kS_n, kS_nx, kS_rt, kS_bk, kS_ct, kS_ex, kS_i, e_nil, e_pass, e_brk, e_cnt, e_sret, e_sretN, e_expr, e_if, e_set, e_par, e_par3, kP3_3, e_tgt, kTg_f, kTg_n, e_gN, e_gT, e_gs0, e_gs1, e_aug, kAg_i, e_app, kAp_l, e_item, e_for, e_forN, e_fn, kF_n, kF_nx, kF_rt, kF_ex, kF_i, e_outs0, e_outsT, e_outsF, e_K, e_Vf, e_Mf, e_bin, e_un, e_A0, e_A1, e_lst, e_tup, e_C, e_tV, kT_b, e_tAnd, e_tOr, e_tNot, e_xNot, kNt_b, e_xAnd, kAn_b, e_xOr, kOr_b, e_xIf, e_ch, kCh_i, kCz_i, e_is, e_Q, e_Rg1, e_Rg2, e_Sl, kSl_f, e_oN, e_oS, e_call, kA_rt, kA_ex, kA_n, kA_i, e_R0, e_Rv, e_Ri, e_callK, kCK_f, e_take0, e_takeV, e_takeI, e_put0, e_putV, e_putI, fz_f, fz_l, fzs_0, fzs_1, fzs_map, fzs_mapI, fzs_1l, e_b1, e_b2, e_b2g, e_bs, v_bn, v_add, v_sub, v_mul, v_div, v_mod, v_pow, v_neg, v_catNN, v_catFN, v_catNF, v_catFF, v_rep, v_lt, v_le, v_gt, v_ge, v_is, v_isN, v_isO, v_isNO, v_non, v_nonI, v_nonL, v_nonT, v_nonB, v_eqI, v_neI, v_eqS, v_neS, v_lenL, v_lenT, v_abs, v_max2, v_min2, v_min3, v_intsM, v_ints0, v_ints1, v_blsM, v_blsF, v_intsF, v_maxL, v_minL, v_sum, v_sort, v_all, v_any, v_int, v_intB, v_list, v_listT, v_tuple, v_kIsN, v_kIsI, v_kIsL, v_kIsT, v_kIsB, v_isInt, v_isBool, v_isLst, v_isTup, v_repr, v_reprE, v_at, v_atL, v_atN, v_ixT, v_ixL, v_ixN, e_qK, e_qV, v_gKd, v_gOs, v_gLs, v_gDs, v_gDsT, v_gF, v_gI, v_isNn, e_Vn', e_Mn', v_isNo1, v_isNo2, e_pV, e_qIxF, e_qIxN, e_qI, e_qB, e_get, kIt_l', v_ixLit, v_ix0, v_at0, v_at1, v_ix1, e_apply', e_eB, e_cK, e_cT1, e_cT2, e_cTb, e_wipe0, e_wipe1, e_back0, e_back1, v_bkF, v_bkNo, v_bkN, v_tY, v_Vg, v_atLast, v_ixS, v_setLast, v_fzSnoc, v_fzSnocC, v_LIM, v_fzF, v_fzC, v_fzFF, v_intsC, v_blsC, e_SrtSet, v_ss, e_tup2, kT2_2, v_minPI, v_minPP, v_isB, e_tBor, kTb_o, v_frzS_f, v_frzS_no, v_frzS_n, e_appP, e_clrP, v_appEach0, v_appEach1, v_appEachM, e_forApp0, e_forApp1, e_AS, v_kFl, e_tpo, v_ixTp, fz_tp, e_idx, kIdA_f, v_idx, v_ltT, e_borS, f_need_lags_4133, b_need_lags_4133, e, show (1 : Int) ≤ ls.length by omega, show (ls.length : Int) ≤ 12 by omega]
theorem need_shares_eval {q : Int} {ss : List Int} {n : Nat} (hl : ss.length = n) (s0 : ∀ s ∈ ss, 0 ≤ s) (sm : ss.sum ≤ q) : f_need_shares_7c9d [.f (.lst (ss.map .int)), .f (.int n), .f (.int q)] = some (.rt (.f .non) [.no, .no, .no]) := by
  obtain ⟨ρ, e, o3, o4, o5, rfl⟩ : ∃ ρ, l1_need_shares_7c9d [.f (.lst (ss.map .int)), .f (.int n), .f (.int q), .f (.int q), .no, .no] = some (.nx ρ) ∧ ∃ o3 o4 o5, ρ = [.f (.lst (ss.map .int)), .f (.int n), .f (.int q), o3, o4, o5] := by
    refine wp_nx ?_
    unfold l1_need_shares_7c9d
    rw [e_for, iE_f (o := .f (.lst (ss.map .int))) (ds := ss.map .int) (ρ1 := [.f (.lst (ss.map .int)), .f (.int n), .f (.int q), .f (.int q), .no, .no]) (by simp (implicitDefEqProofs := false) (decide := true) (maxDischargeDepth := 9) [e_bnd, e_ret, e_opt, kO_s, kO_n, kO_i, kB_n, kB_o, kB_x, kB_i, e_val, kV_n, kV_o, kV_x, kV_i, e_seq, kS_n, kS_nx, kS_rt, kS_bk, kS_ct, kS_ex, kS_i, e_nil, e_pass, e_brk, e_cnt, e_sret, e_sretN, e_expr, e_if, e_set, e_par, e_par3, kP3_3, e_tgt, kTg_f, kTg_n, e_gN, e_gT, e_gs0, e_gs1, e_aug, kAg_i, e_app, kAp_l, e_item, e_for, e_forN, e_fn, kF_n, kF_nx, kF_rt, kF_ex, kF_i, e_outs0, e_outsT, e_outsF, e_K, e_Vf, e_Mf, e_bin, e_un, e_A0, e_A1, e_lst, e_tup, e_C, e_tV, kT_b, e_tAnd, e_tOr, e_tNot, e_xNot, kNt_b, e_xAnd, kAn_b, e_xOr, kOr_b, e_xIf, e_ch, kCh_i, kCz_i, e_is, e_Q, e_Rg1, e_Rg2, e_Sl, kSl_f, e_oN, e_oS, e_call, kA_rt, kA_ex, kA_n, kA_i, e_R0, e_Rv, e_Ri, e_callK, kCK_f, e_take0, e_takeV, e_takeI, e_put0, e_putV, e_putI, fz_f, fz_l, fzs_0, fzs_1, fzs_map, fzs_mapI, fzs_1l, e_b1, e_b2, e_b2g, e_bs, v_bn, v_add, v_sub, v_mul, v_div, v_mod, v_pow, v_neg, v_catNN, v_catFN, v_catNF, v_catFF, v_rep, v_lt, v_le, v_gt, v_ge, v_is, v_isN, v_isO, v_isNO, v_non, v_nonI, v_nonL, v_nonT, v_nonB, v_eqI, v_neI, v_eqS, v_neS, v_lenL, v_lenT, v_abs, v_max2, v_min2, v_min3, v_intsM, v_ints0, v_ints1, v_blsM, v_blsF, v_intsF, v_maxL, v_minL, v_sum, v_sort, v_all, v_any, v_int, v_intB, v_list, v_listT, v_tuple, v_kIsN, v_kIsI, v_kIsL, v_kIsT, v_kIsB, v_isInt, v_isBool, v_isLst, v_isTup, v_repr, v_reprE, v_at, v_atL, v_atN, v_ixT, v_ixL, v_ixN, e_qK, e_qV, v_gKd, v_gOs, v_gLs, v_gDs, v_gDsT, v_gF, v_gI, v_isNn, e_Vn', e_Mn', v_isNo1, v_isNo2, e_pV, e_qIxF, e_qIxN, e_qI, e_qB, e_get, kIt_l', v_ixLit, v_ix0, v_at0, v_at1, v_ix1, e_apply', e_eB, e_cK, e_cT1, e_cT2, e_cTb, e_wipe0, e_wipe1, e_back0, e_back1, v_bkF, v_bkNo, v_bkN, v_tY, v_Vg, v_atLast, v_ixS, v_setLast, v_fzSnoc, v_fzSnocC, v_LIM, v_fzF, v_fzC, v_fzFF, v_intsC, v_blsC, e_SrtSet, v_ss, e_tup2, kT2_2, v_minPI, v_minPP, v_isB, e_tBor, kTb_o, v_frzS_f, v_frzS_no, v_frzS_n, e_appP, e_clrP, v_appEach0, v_appEach1, v_appEachM, e_forApp0, e_forApp1, e_AS, v_kFl, e_tpo, v_ixTp, fz_tp, e_idx, kIdA_f, v_idx, v_ltT, e_borS, ]) rfl, kV_o]
    refine w_for (fun j ρ => ∃ o4 o5, ρ = [.f (.lst (ss.map .int)), .f (.int n), .f (.int q), .f (.int (q - (ss.take j).sum)), o4, o5]) ⟨.no, .no, by simp⟩ ?_ fun ρ ⟨o4, o5, z⟩ => ⟨_, _, _, z⟩
    intro j d ρ hd ⟨o4, o5, e⟩
    subst e
    obtain ⟨c, hc, rfl⟩ := enum_at0 hd
    have hs := s0 c (List.mem_of_getElem? hc)
    have ht := sum_take_le s0 hc
    have ei := is_integer_yes (v := c) (l := 0) (h := q - (ss.take j).sum) hs (by omega)
    refine ⟨[.f (.lst (ss.map .int)), .f (.int n), .f (.int q), .f (.int (q - (ss.take j).sum)), .f (.int j), .f (.int c)], by simp (implicitDefEqProofs := false) (decide := true) (maxDischargeDepth := 9) [e_bnd, e_ret, e_opt, kO_s, kO_n, kO_i, kB_n, kB_o, kB_x, kB_i, e_val, kV_n, kV_o, kV_x, kV_i, e_seq, kS_n, kS_nx, kS_rt, kS_bk, kS_ct, kS_ex, kS_i, e_nil, e_pass, e_brk, e_cnt, e_sret, e_sretN, e_expr, e_if, e_set, e_par, e_par3, kP3_3, e_tgt, kTg_f, kTg_n, e_gN, e_gT, e_gs0, e_gs1, e_aug, kAg_i, e_app, kAp_l, e_item, e_for, e_forN, e_fn, kF_n, kF_nx, kF_rt, kF_ex, kF_i, e_outs0, e_outsT, e_outsF, e_K, e_Vf, e_Mf, e_bin, e_un, e_A0, e_A1, e_lst, e_tup, e_C, e_tV, kT_b, e_tAnd, e_tOr, e_tNot, e_xNot, kNt_b, e_xAnd, kAn_b, e_xOr, kOr_b, e_xIf, e_ch, kCh_i, kCz_i, e_is, e_Q, e_Rg1, e_Rg2, e_Sl, kSl_f, e_oN, e_oS, e_call, kA_rt, kA_ex, kA_n, kA_i, e_R0, e_Rv, e_Ri, e_callK, kCK_f, e_take0, e_takeV, e_takeI, e_put0, e_putV, e_putI, fz_f, fz_l, fzs_0, fzs_1, fzs_map, fzs_mapI, fzs_1l, e_b1, e_b2, e_b2g, e_bs, v_bn, v_add, v_sub, v_mul, v_div, v_mod, v_pow, v_neg, v_catNN, v_catFN, v_catNF, v_catFF, v_rep, v_lt, v_le, v_gt, v_ge, v_is, v_isN, v_isO, v_isNO, v_non, v_nonI, v_nonL, v_nonT, v_nonB, v_eqI, v_neI, v_eqS, v_neS, v_lenL, v_lenT, v_abs, v_max2, v_min2, v_min3, v_intsM, v_ints0, v_ints1, v_blsM, v_blsF, v_intsF, v_maxL, v_minL, v_sum, v_sort, v_all, v_any, v_int, v_intB, v_list, v_listT, v_tuple, v_kIsN, v_kIsI, v_kIsL, v_kIsT, v_kIsB, v_isInt, v_isBool, v_isLst, v_isTup, v_repr, v_reprE, v_at, v_atL, v_atN, v_ixT, v_ixL, v_ixN, e_qK, e_qV, v_gKd, v_gOs, v_gLs, v_gDs, v_gDsT, v_gF, v_gI, v_isNn, e_Vn', e_Mn', v_isNo1, v_isNo2, e_pV, e_qIxF, e_qIxN, e_qI, e_qB, e_get, kIt_l', v_ixLit, v_ix0, v_at0, v_at1, v_ix1, e_apply', e_eB, e_cK, e_cT1, e_cT2, e_cTb, e_wipe0, e_wipe1, e_back0, e_back1, v_bkF, v_bkNo, v_bkN, v_tY, v_Vg, v_atLast, v_ixS, v_setLast, v_fzSnoc, v_fzSnocC, v_LIM, v_fzF, v_fzC, v_fzFF, v_intsC, v_blsC, e_SrtSet, v_ss, e_tup2, kT2_2, v_minPI, v_minPP, v_isB, e_tBor, kTb_o, v_frzS_f, v_frzS_no, v_frzS_n, e_appP, e_clrP, v_appEach0, v_appEach1, v_appEachM, e_forApp0, e_forApp1, e_AS, v_kFl, e_tpo, v_ixTp, fz_tp, e_idx, kIdA_f, v_idx, v_ltT, e_borS, ], wp_eq (.nx [.f (.lst (ss.map .int)), .f (.int n), .f (.int q), .f (.int (q - (ss.take j).sum - c)), .f (.int j), .f (.int c)]) (by simp (implicitDefEqProofs := false) (decide := true) (maxDischargeDepth := 9) [e_bnd, e_ret, e_opt, kO_s, kO_n, kO_i, kB_n, kB_o, kB_x, kB_i, e_val, kV_n, kV_o, kV_x, kV_i, e_seq, kS_n, kS_nx, kS_rt, kS_bk, kS_ct, kS_ex, kS_i, e_nil, e_pass, e_brk, e_cnt, e_sret, e_sretN, e_expr, e_if, e_set, e_par, e_par3, kP3_3, e_tgt, kTg_f, kTg_n, e_gN, e_gT, e_gs0, e_gs1, e_aug, kAg_i, e_app, kAp_l, e_item, e_for, e_forN, e_fn, kF_n, kF_nx, kF_rt, kF_ex, kF_i, e_outs0, e_outsT, e_outsF, e_K, e_Vf, e_Mf, e_bin, e_un, e_A0, e_A1, e_lst, e_tup, e_C, e_tV, kT_b, e_tAnd, e_tOr, e_tNot, e_xNot, kNt_b, e_xAnd, kAn_b, e_xOr, kOr_b, e_xIf, e_ch, kCh_i, kCz_i, e_is, e_Q, e_Rg1, e_Rg2, e_Sl, kSl_f, e_oN, e_oS, e_call, kA_rt, kA_ex, kA_n, kA_i, e_R0, e_Rv, e_Ri, e_callK, kCK_f, e_take0, e_takeV, e_takeI, e_put0, e_putV, e_putI, fz_f, fz_l, fzs_0, fzs_1, fzs_map, fzs_mapI, fzs_1l, e_b1, e_b2, e_b2g, e_bs, v_bn, v_add, v_sub, v_mul, v_div, v_mod, v_pow, v_neg, v_catNN, v_catFN, v_catNF, v_catFF, v_rep, v_lt, v_le, v_gt, v_ge, v_is, v_isN, v_isO, v_isNO, v_non, v_nonI, v_nonL, v_nonT, v_nonB, v_eqI, v_neI, v_eqS, v_neS, v_lenL, v_lenT, v_abs, v_max2, v_min2, v_min3, v_intsM, v_ints0, v_ints1, v_blsM, v_blsF, v_intsF, v_maxL, v_minL, v_sum, v_sort, v_all, v_any, v_int, v_intB, v_list, v_listT, v_tuple, v_kIsN, v_kIsI, v_kIsL, v_kIsT, v_kIsB, v_isInt, v_isBool, v_isLst, v_isTup, v_repr, v_reprE, v_at, v_atL, v_atN, v_ixT, v_ixL, v_ixN, e_qK, e_qV, v_gKd, v_gOs, v_gLs, v_gDs, v_gDsT, v_gF, v_gI, v_isNn, e_Vn', e_Mn', v_isNo1, v_isNo2, e_pV, e_qIxF, e_qIxN, e_qI, e_qB, e_get, kIt_l', v_ixLit, v_ix0, v_at0, v_at1, v_ix1, e_apply', e_eB, e_cK, e_cT1, e_cT2, e_cTb, e_wipe0, e_wipe1, e_back0, e_back1, v_bkF, v_bkNo, v_bkN, v_tY, v_Vg, v_atLast, v_ixS, v_setLast, v_fzSnoc, v_fzSnocC, v_LIM, v_fzF, v_fzC, v_fzFF, v_intsC, v_blsC, e_SrtSet, v_ss, e_tup2, kT2_2, v_minPI, v_minPP, v_isB, e_tBor, kTb_o, v_frzS_f, v_frzS_no, v_frzS_n, e_appP, e_clrP, v_appEach0, v_appEach1, v_appEachM, e_forApp0, e_forApp1, e_AS, v_kFl, e_tpo, v_ixTp, fz_tp, e_idx, kIdA_f, v_idx, v_ltT, e_borS, ei]) ⟨.f (.int j), .f (.int c), ?_⟩⟩
    have hj := (List.getElem?_eq_some_iff.mp hc)
    obtain ⟨hj1, hj2⟩ := hj
    have et : (ss.take (j + 1)).sum = (ss.take j).sum + c := by
      rw [← List.take_append_getElem hj1, List.sum_append, hj2]
      simp
    rw [et, show q - ((ss.take j).sum + c) = q - (ss.take j).sum - c by omega]
  subst hl
  simp (implicitDefEqProofs := false) (decide := true) (maxDischargeDepth := 9) [e_bnd, e_ret, e_opt, kO_s, kO_n, kO_i, kB_n, kB_o, kB_x, kB_i, e_val, kV_n, kV_o, kV_x, kV_i, e_seq, kS_n, kS_nx, kS_rt, kS_bk, kS_ct, kS_ex, kS_i, e_nil, e_pass, e_brk, e_cnt, e_sret, e_sretN, e_expr, e_if, e_set, e_par, e_par3, kP3_3, e_tgt, kTg_f, kTg_n, e_gN, e_gT, e_gs0, e_gs1, e_aug, kAg_i, e_app, kAp_l, e_item, e_for, e_forN, e_fn, kF_n, kF_nx, kF_rt, kF_ex, kF_i, e_outs0, e_outsT, e_outsF, e_K, e_Vf, e_Mf, e_bin, e_un, e_A0, e_A1, e_lst, e_tup, e_C, e_tV, kT_b, e_tAnd, e_tOr, e_tNot, e_xNot, kNt_b, e_xAnd, kAn_b, e_xOr, kOr_b, e_xIf, e_ch, kCh_i, kCz_i, e_is, e_Q, e_Rg1, e_Rg2, e_Sl, kSl_f, e_oN, e_oS, e_call, kA_rt, kA_ex, kA_n, kA_i, e_R0, e_Rv, e_Ri, e_callK, kCK_f, e_take0, e_takeV, e_takeI, e_put0, e_putV, e_putI, fz_f, fz_l, fzs_0, fzs_1, fzs_map, fzs_mapI, fzs_1l, e_b1, e_b2, e_b2g, e_bs, v_bn, v_add, v_sub, v_mul, v_div, v_mod, v_pow, v_neg, v_catNN, v_catFN, v_catNF, v_catFF, v_rep, v_lt, v_le, v_gt, v_ge, v_is, v_isN, v_isO, v_isNO, v_non, v_nonI, v_nonL, v_nonT, v_nonB, v_eqI, v_neI, v_eqS, v_neS, v_lenL, v_lenT, v_abs, v_max2, v_min2, v_min3, v_intsM, v_ints0, v_ints1, v_blsM, v_blsF, v_intsF, v_maxL, v_minL, v_sum, v_sort, v_all, v_any, v_int, v_intB, v_list, v_listT, v_tuple, v_kIsN, v_kIsI, v_kIsL, v_kIsT, v_kIsB, v_isInt, v_isBool, v_isLst, v_isTup, v_repr, v_reprE, v_at, v_atL, v_atN, v_ixT, v_ixL, v_ixN, e_qK, e_qV, v_gKd, v_gOs, v_gLs, v_gDs, v_gDsT, v_gF, v_gI, v_isNn, e_Vn', e_Mn', v_isNo1, v_isNo2, e_pV, e_qIxF, e_qIxN, e_qI, e_qB, e_get, kIt_l', v_ixLit, v_ix0, v_at0, v_at1, v_ix1, e_apply', e_eB, e_cK, e_cT1, e_cT2, e_cTb, e_wipe0, e_wipe1, e_back0, e_back1, v_bkF, v_bkNo, v_bkN, v_tY, v_Vg, v_atLast, v_ixS, v_setLast, v_fzSnoc, v_fzSnocC, v_LIM, v_fzF, v_fzC, v_fzFF, v_intsC, v_blsC, e_SrtSet, v_ss, e_tup2, kT2_2, v_minPI, v_minPP, v_isB, e_tBor, kTb_o, v_frzS_f, v_frzS_no, v_frzS_n, e_appP, e_clrP, v_appEach0, v_appEach1, v_appEachM, e_forApp0, e_forApp1, e_AS, v_kFl, e_tpo, v_ixTp, fz_tp, e_idx, kIdA_f, v_idx, v_ltT, e_borS, f_need_shares_7c9d, b_need_shares_7c9d, e]
theorem need_change_eval {b q : Int} {ls ss : List Int} (k : ChOk b ls q ss) : f_need_change_b832 [.f (.int b), .f (.lst (ls.map .int)), .f (.int q), .f (.lst (ss.map .int))] = some (.rt (.f .non) [.no, .no, .no, .no]) := by
  have e1 := need_number_eval (v := b) (l := 1) (h := 999999999999999999999999999999) k.b1 k.b2
  have e2 := need_number_eval (v := q) (l := 1) (h := 3000) k.q1 k.q2
  have e3 := need_lags_eval k
  have e4 := need_shares_eval k.sl k.s0 k.sm
  simp (implicitDefEqProofs := false) (decide := true) (maxDischargeDepth := 9) [e_bnd, e_ret, e_opt, kO_s, kO_n, kO_i, kB_n, kB_o, kB_x, kB_i, e_val, kV_n, kV_o, kV_x, kV_i, e_seq, kS_n, kS_nx, kS_rt, kS_bk, kS_ct, kS_ex, kS_i, e_nil, e_pass, e_brk, e_cnt, e_sret, e_sretN, e_expr, e_if, e_set, e_par, e_par3, kP3_3, e_tgt, kTg_f, kTg_n, e_gN, e_gT, e_gs0, e_gs1, e_aug, kAg_i, e_app, kAp_l, e_item, e_for, e_forN, e_fn, kF_n, kF_nx, kF_rt, kF_ex, kF_i, e_outs0, e_outsT, e_outsF, e_K, e_Vf, e_Mf, e_bin, e_un, e_A0, e_A1, e_lst, e_tup, e_C, e_tV, kT_b, e_tAnd, e_tOr, e_tNot, e_xNot, kNt_b, e_xAnd, kAn_b, e_xOr, kOr_b, e_xIf, e_ch, kCh_i, kCz_i, e_is, e_Q, e_Rg1, e_Rg2, e_Sl, kSl_f, e_oN, e_oS, e_call, kA_rt, kA_ex, kA_n, kA_i, e_R0, e_Rv, e_Ri, e_callK, kCK_f, e_take0, e_takeV, e_takeI, e_put0, e_putV, e_putI, fz_f, fz_l, fzs_0, fzs_1, fzs_map, fzs_mapI, fzs_1l, e_b1, e_b2, e_b2g, e_bs, v_bn, v_add, v_sub, v_mul, v_div, v_mod, v_pow, v_neg, v_catNN, v_catFN, v_catNF, v_catFF, v_rep, v_lt, v_le, v_gt, v_ge, v_is, v_isN, v_isO, v_isNO, v_non, v_nonI, v_nonL, v_nonT, v_nonB, v_eqI, v_neI, v_eqS, v_neS, v_lenL, v_lenT, v_abs, v_max2, v_min2, v_min3, v_intsM, v_ints0, v_ints1, v_blsM, v_blsF, v_intsF, v_maxL, v_minL, v_sum, v_sort, v_all, v_any, v_int, v_intB, v_list, v_listT, v_tuple, v_kIsN, v_kIsI, v_kIsL, v_kIsT, v_kIsB, v_isInt, v_isBool, v_isLst, v_isTup, v_repr, v_reprE, v_at, v_atL, v_atN, v_ixT, v_ixL, v_ixN, e_qK, e_qV, v_gKd, v_gOs, v_gLs, v_gDs, v_gDsT, v_gF, v_gI, v_isNn, e_Vn', e_Mn', v_isNo1, v_isNo2, e_pV, e_qIxF, e_qIxN, e_qI, e_qB, e_get, kIt_l', v_ixLit, v_ix0, v_at0, v_at1, v_ix1, e_apply', e_eB, e_cK, e_cT1, e_cT2, e_cTb, e_wipe0, e_wipe1, e_back0, e_back1, v_bkF, v_bkNo, v_bkN, v_tY, v_Vg, v_atLast, v_ixS, v_setLast, v_fzSnoc, v_fzSnocC, v_LIM, v_fzF, v_fzC, v_fzFF, v_intsC, v_blsC, e_SrtSet, v_ss, e_tup2, kT2_2, v_minPI, v_minPP, v_isB, e_tBor, kTb_o, v_frzS_f, v_frzS_no, v_frzS_n, e_appP, e_clrP, v_appEach0, v_appEach1, v_appEachM, e_forApp0, e_forApp1, e_AS, v_kFl, e_tpo, v_ixTp, fz_tp, e_idx, kIdA_f, v_idx, v_ltT, e_borS, f_need_change_b832, b_need_change_b832, e1, e2, e3, e4]
theorem dues_zip {b q t : Int} {ls ss : List Int} : (ls.zip ss).map (fun x => dueOf b q t x.1 x.2) = dues b q t ls ss := by
  unfold dues
  rw [List.map_zip_eq_zipWith]
  rfl
theorem due_later_eval {b q t : Int} {ls ss : List Int} (k : ChOk b ls q ss) (t0 : Sz 64 t) : f_due_later_72fa [.f (.int b), .f (.lst (ls.map .int)), .f (.int q), .f (.lst (ss.map .int)), .f (.int t)] = some (.rt (.f (.int (dueL b q t ls ss))) [.no, .no, .no, .no, .no]) := by
  have l2 := k.l2
  have b1 := k.b1
  have q1 := k.q1
  haveI := k.zb
  haveI := k.zq
  have hbq : 0 < b * q := Int.mul_pos (by omega) (by omega)
  have e2 : x2_due_later_72fa [.f (.int b), .f (.lst (ls.map .int)), .f (.int q), .f (.lst (ss.map .int)), .f (.int t), .no, .no, .no, .no] = some (.ok (.n .lst ((dues b q t ls ss).map fun d => .f (.int d))) [.f (.int b), .f (.lst (ls.map .int)), .f (.int q), .f (.lst (ss.map .int)), .f (.int t), .no, .no, .no, .no]) := by
    rw [← dues_zip, List.map_map]
    unfold x2_due_later_72fa
    refine comp_mapT (l := ls.zip ss) (g := fun x => .tup [.int x.1, .int x.2]) (ds := DL.zip2 (ls.map .int) (ss.map .int)) (iZ_f (o := .f (.lst (ls.map .int))) (o2 := .f (.lst (ss.map .int))) (ρ1 := [.f (.int b), .f (.lst (ls.map .int)), .f (.int q), .f (.lst (ss.map .int)), .f (.int t), .no, .no, .no, .no]) (by simp (implicitDefEqProofs := false) (decide := true) (maxDischargeDepth := 9) [e_bnd, e_ret, e_opt, kO_s, kO_n, kO_i, kB_n, kB_o, kB_x, kB_i, e_val, kV_n, kV_o, kV_x, kV_i, e_seq, kS_n, kS_nx, kS_rt, kS_bk, kS_ct, kS_ex, kS_i, e_nil, e_pass, e_brk, e_cnt, e_sret, e_sretN, e_expr, e_if, e_set, e_par, e_par3, kP3_3, e_tgt, kTg_f, kTg_n, e_gN, e_gT, e_gs0, e_gs1, e_aug, kAg_i, e_app, kAp_l, e_item, e_for, e_forN, e_fn, kF_n, kF_nx, kF_rt, kF_ex, kF_i, e_outs0, e_outsT, e_outsF, e_K, e_Vf, e_Mf, e_bin, e_un, e_A0, e_A1, e_lst, e_tup, e_C, e_tV, kT_b, e_tAnd, e_tOr, e_tNot, e_xNot, kNt_b, e_xAnd, kAn_b, e_xOr, kOr_b, e_xIf, e_ch, kCh_i, kCz_i, e_is, e_Q, e_Rg1, e_Rg2, e_Sl, kSl_f, e_oN, e_oS, e_call, kA_rt, kA_ex, kA_n, kA_i, e_R0, e_Rv, e_Ri, e_callK, kCK_f, e_take0, e_takeV, e_takeI, e_put0, e_putV, e_putI, fz_f, fz_l, fzs_0, fzs_1, fzs_map, fzs_mapI, fzs_1l, e_b1, e_b2, e_b2g, e_bs, v_bn, v_add, v_sub, v_mul, v_div, v_mod, v_pow, v_neg, v_catNN, v_catFN, v_catNF, v_catFF, v_rep, v_lt, v_le, v_gt, v_ge, v_is, v_isN, v_isO, v_isNO, v_non, v_nonI, v_nonL, v_nonT, v_nonB, v_eqI, v_neI, v_eqS, v_neS, v_lenL, v_lenT, v_abs, v_max2, v_min2, v_min3, v_intsM, v_ints0, v_ints1, v_blsM, v_blsF, v_intsF, v_maxL, v_minL, v_sum, v_sort, v_all, v_any, v_int, v_intB, v_list, v_listT, v_tuple, v_kIsN, v_kIsI, v_kIsL, v_kIsT, v_kIsB, v_isInt, v_isBool, v_isLst, v_isTup, v_repr, v_reprE, v_at, v_atL, v_atN, v_ixT, v_ixL, v_ixN, e_qK, e_qV, v_gKd, v_gOs, v_gLs, v_gDs, v_gDsT, v_gF, v_gI, v_isNn, e_Vn', e_Mn', v_isNo1, v_isNo2, e_pV, e_qIxF, e_qIxN, e_qI, e_qB, e_get, kIt_l', v_ixLit, v_ix0, v_at0, v_at1, v_ix1, e_apply', e_eB, e_cK, e_cT1, e_cT2, e_cTb, e_wipe0, e_wipe1, e_back0, e_back1, v_bkF, v_bkNo, v_bkN, v_tY, v_Vg, v_atLast, v_ixS, v_setLast, v_fzSnoc, v_fzSnocC, v_LIM, v_fzF, v_fzC, v_fzFF, v_intsC, v_blsC, e_SrtSet, v_ss, e_tup2, kT2_2, v_minPI, v_minPP, v_isB, e_tBor, kTb_o, v_frzS_f, v_frzS_no, v_frzS_n, e_appP, e_clrP, v_appEach0, v_appEach1, v_appEachM, e_forApp0, e_forApp1, e_AS, v_kFl, e_tpo, v_ixTp, fz_tp, e_idx, kIdA_f, v_idx, v_ltT, e_borS, ]) (by simp (implicitDefEqProofs := false) (decide := true) (maxDischargeDepth := 9) [e_bnd, e_ret, e_opt, kO_s, kO_n, kO_i, kB_n, kB_o, kB_x, kB_i, e_val, kV_n, kV_o, kV_x, kV_i, e_seq, kS_n, kS_nx, kS_rt, kS_bk, kS_ct, kS_ex, kS_i, e_nil, e_pass, e_brk, e_cnt, e_sret, e_sretN, e_expr, e_if, e_set, e_par, e_par3, kP3_3, e_tgt, kTg_f, kTg_n, e_gN, e_gT, e_gs0, e_gs1, e_aug, kAg_i, e_app, kAp_l, e_item, e_for, e_forN, e_fn, kF_n, kF_nx, kF_rt, kF_ex, kF_i, e_outs0, e_outsT, e_outsF, e_K, e_Vf, e_Mf, e_bin, e_un, e_A0, e_A1, e_lst, e_tup, e_C, e_tV, kT_b, e_tAnd, e_tOr, e_tNot, e_xNot, kNt_b, e_xAnd, kAn_b, e_xOr, kOr_b, e_xIf, e_ch, kCh_i, kCz_i, e_is, e_Q, e_Rg1, e_Rg2, e_Sl, kSl_f, e_oN, e_oS, e_call, kA_rt, kA_ex, kA_n, kA_i, e_R0, e_Rv, e_Ri, e_callK, kCK_f, e_take0, e_takeV, e_takeI, e_put0, e_putV, e_putI, fz_f, fz_l, fzs_0, fzs_1, fzs_map, fzs_mapI, fzs_1l, e_b1, e_b2, e_b2g, e_bs, v_bn, v_add, v_sub, v_mul, v_div, v_mod, v_pow, v_neg, v_catNN, v_catFN, v_catNF, v_catFF, v_rep, v_lt, v_le, v_gt, v_ge, v_is, v_isN, v_isO, v_isNO, v_non, v_nonI, v_nonL, v_nonT, v_nonB, v_eqI, v_neI, v_eqS, v_neS, v_lenL, v_lenT, v_abs, v_max2, v_min2, v_min3, v_intsM, v_ints0, v_ints1, v_blsM, v_blsF, v_intsF, v_maxL, v_minL, v_sum, v_sort, v_all, v_any, v_int, v_intB, v_list, v_listT, v_tuple, v_kIsN, v_kIsI, v_kIsL, v_kIsT, v_kIsB, v_isInt, v_isBool, v_isLst, v_isTup, v_repr, v_reprE, v_at, v_atL, v_atN, v_ixT, v_ixL, v_ixN, e_qK, e_qV, v_gKd, v_gOs, v_gLs, v_gDs, v_gDsT, v_gF, v_gI, v_isNn, e_Vn', e_Mn', v_isNo1, v_isNo2, e_pV, e_qIxF, e_qIxN, e_qI, e_qB, e_get, kIt_l', v_ixLit, v_ix0, v_at0, v_at1, v_ix1, e_apply', e_eB, e_cK, e_cT1, e_cT2, e_cTb, e_wipe0, e_wipe1, e_back0, e_back1, v_bkF, v_bkNo, v_bkN, v_tY, v_Vg, v_atLast, v_ixS, v_setLast, v_fzSnoc, v_fzSnocC, v_LIM, v_fzF, v_fzC, v_fzFF, v_intsC, v_blsC, e_SrtSet, v_ss, e_tup2, kT2_2, v_minPI, v_minPP, v_isB, e_tBor, kTb_o, v_frzS_f, v_frzS_no, v_frzS_n, e_appP, e_clrP, v_appEach0, v_appEach1, v_appEachM, e_forApp0, e_forApp1, e_AS, v_kFl, e_tpo, v_ixTp, fz_tp, e_idx, kIdA_f, v_idx, v_ltT, e_borS, ]) rfl rfl) zip_map (by rw [List.length_zip]; unfold LIM; omega) fun x hx => ?_
    haveI := k.zl (zip_mem hx).1
    haveI := k.zs (zip_mem hx).2
    simp (implicitDefEqProofs := false) (decide := true) (maxDischargeDepth := 9) [e_bnd, e_ret, e_opt, kO_s, kO_n, kO_i, kB_n, kB_o, kB_x, kB_i, e_val, kV_n, kV_o, kV_x, kV_i, e_seq, kS_n, kS_nx, kS_rt, kS_bk, kS_ct, kS_ex, kS_i, e_nil, e_pass, e_brk, e_cnt, e_sret, e_sretN, e_expr, e_if, e_set, e_par, e_par3, kP3_3, e_tgt, kTg_f, kTg_n, e_gN, e_gT, e_gs0, e_gs1, e_aug, kAg_i, e_app, kAp_l, e_item, e_for, e_forN, e_fn, kF_n, kF_nx, kF_rt, kF_ex, kF_i, e_outs0, e_outsT, e_outsF, e_K, e_Vf, e_Mf, e_bin, e_un, e_A0, e_A1, e_lst, e_tup, e_C, e_tV, kT_b, e_tAnd, e_tOr, e_tNot, e_xNot, kNt_b, e_xAnd, kAn_b, e_xOr, kOr_b, e_xIf, e_ch, kCh_i, kCz_i, e_is, e_Q, e_Rg1, e_Rg2, e_Sl, kSl_f, e_oN, e_oS, e_call, kA_rt, kA_ex, kA_n, kA_i, e_R0, e_Rv, e_Ri, e_callK, kCK_f, e_take0, e_takeV, e_takeI, e_put0, e_putV, e_putI, fz_f, fz_l, fzs_0, fzs_1, fzs_map, fzs_mapI, fzs_1l, e_b1, e_b2, e_b2g, e_bs, v_bn, v_add, v_sub, v_mul, v_div, v_mod, v_pow, v_neg, v_catNN, v_catFN, v_catNF, v_catFF, v_rep, v_lt, v_le, v_gt, v_ge, v_is, v_isN, v_isO, v_isNO, v_non, v_nonI, v_nonL, v_nonT, v_nonB, v_eqI, v_neI, v_eqS, v_neS, v_lenL, v_lenT, v_abs, v_max2, v_min2, v_min3, v_intsM, v_ints0, v_ints1, v_blsM, v_blsF, v_intsF, v_maxL, v_minL, v_sum, v_sort, v_all, v_any, v_int, v_intB, v_list, v_listT, v_tuple, v_kIsN, v_kIsI, v_kIsL, v_kIsT, v_kIsB, v_isInt, v_isBool, v_isLst, v_isTup, v_repr, v_reprE, v_at, v_atL, v_atN, v_ixT, v_ixL, v_ixN, e_qK, e_qV, v_gKd, v_gOs, v_gLs, v_gDs, v_gDsT, v_gF, v_gI, v_isNn, e_Vn', e_Mn', v_isNo1, v_isNo2, e_pV, e_qIxF, e_qIxN, e_qI, e_qB, e_get, kIt_l', v_ixLit, v_ix0, v_at0, v_at1, v_ix1, e_apply', e_eB, e_cK, e_cT1, e_cT2, e_cTb, e_wipe0, e_wipe1, e_back0, e_back1, v_bkF, v_bkNo, v_bkN, v_tY, v_Vg, v_atLast, v_ixS, v_setLast, v_fzSnoc, v_fzSnocC, v_LIM, v_fzF, v_fzC, v_fzFF, v_intsC, v_blsC, e_SrtSet, v_ss, e_tup2, kT2_2, v_minPI, v_minPP, v_isB, e_tBor, kTb_o, v_frzS_f, v_frzS_no, v_frzS_n, e_appP, e_clrP, v_appEach0, v_appEach1, v_appEachM, e_forApp0, e_forApp1, e_AS, v_kFl, e_tpo, v_ixTp, fz_tp, e_idx, kIdA_f, v_idx, v_ltT, e_borS, hbq, dueOf]
  have e1 : x1_due_later_72fa [.f (.int b), .f (.lst (ls.map .int)), .f (.int q), .f (.lst (ss.map .int)), .f (.int t), .n .lst ((dues b q t ls ss).map fun d => .f (.int d)), .no, .no, .no] = some (.ok (.n .lst (((dues b q t ls ss).filter fun d => decide (d > 0)).map fun d => .f (.int d))) [.f (.int b), .f (.lst (ls.map .int)), .f (.int q), .f (.lst (ss.map .int)), .f (.int t), .f (.lst ((dues b q t ls ss).map .int)), .no, .no, .no]) := by
    unfold x1_due_later_72fa
    refine comp_filT (l := dues b q t ls ss) (g := .int) (iL_f (ds := (dues b q t ls ss).map .int) (by simp (implicitDefEqProofs := false) (decide := true) (maxDischargeDepth := 9) [e_bnd, e_ret, e_opt, kO_s, kO_n, kO_i, kB_n, kB_o, kB_x, kB_i, e_val, kV_n, kV_o, kV_x, kV_i, e_seq, kS_n, kS_nx, kS_rt, kS_bk, kS_ct, kS_ex, kS_i, e_nil, e_pass, e_brk, e_cnt, e_sret, e_sretN, e_expr, e_if, e_set, e_par, e_par3, kP3_3, e_tgt, kTg_f, kTg_n, e_gN, e_gT, e_gs0, e_gs1, e_aug, kAg_i, e_app, kAp_l, e_item, e_for, e_forN, e_fn, kF_n, kF_nx, kF_rt, kF_ex, kF_i, e_outs0, e_outsT, e_outsF, e_K, e_Vf, e_Mf, e_bin, e_un, e_A0, e_A1, e_lst, e_tup, e_C, e_tV, kT_b, e_tAnd, e_tOr, e_tNot, e_xNot, kNt_b, e_xAnd, kAn_b, e_xOr, kOr_b, e_xIf, e_ch, kCh_i, kCz_i, e_is, e_Q, e_Rg1, e_Rg2, e_Sl, kSl_f, e_oN, e_oS, e_call, kA_rt, kA_ex, kA_n, kA_i, e_R0, e_Rv, e_Ri, e_callK, kCK_f, e_take0, e_takeV, e_takeI, e_put0, e_putV, e_putI, fz_f, fz_l, fzs_0, fzs_1, fzs_map, fzs_mapI, fzs_1l, e_b1, e_b2, e_b2g, e_bs, v_bn, v_add, v_sub, v_mul, v_div, v_mod, v_pow, v_neg, v_catNN, v_catFN, v_catNF, v_catFF, v_rep, v_lt, v_le, v_gt, v_ge, v_is, v_isN, v_isO, v_isNO, v_non, v_nonI, v_nonL, v_nonT, v_nonB, v_eqI, v_neI, v_eqS, v_neS, v_lenL, v_lenT, v_abs, v_max2, v_min2, v_min3, v_intsM, v_ints0, v_ints1, v_blsM, v_blsF, v_intsF, v_maxL, v_minL, v_sum, v_sort, v_all, v_any, v_int, v_intB, v_list, v_listT, v_tuple, v_kIsN, v_kIsI, v_kIsL, v_kIsT, v_kIsB, v_isInt, v_isBool, v_isLst, v_isTup, v_repr, v_reprE, v_at, v_atL, v_atN, v_ixT, v_ixL, v_ixN, e_qK, e_qV, v_gKd, v_gOs, v_gLs, v_gDs, v_gDsT, v_gF, v_gI, v_isNn, e_Vn', e_Mn', v_isNo1, v_isNo2, e_pV, e_qIxF, e_qIxN, e_qI, e_qB, e_get, kIt_l', v_ixLit, v_ix0, v_at0, v_at1, v_ix1, e_apply', e_eB, e_cK, e_cT1, e_cT2, e_cTb, e_wipe0, e_wipe1, e_back0, e_back1, v_bkF, v_bkNo, v_bkN, v_tY, v_Vg, v_atLast, v_ixS, v_setLast, v_fzSnoc, v_fzSnocC, v_LIM, v_fzF, v_fzC, v_fzFF, v_intsC, v_blsC, e_SrtSet, v_ss, e_tup2, kT2_2, v_minPI, v_minPP, v_isB, e_tBor, kTb_o, v_frzS_f, v_frzS_no, v_frzS_n, e_appP, e_clrP, v_appEach0, v_appEach1, v_appEachM, e_forApp0, e_forApp1, e_AS, v_kFl, e_tpo, v_ixTp, fz_tp, e_idx, kIdA_f, v_idx, v_ltT, e_borS, ])) rfl (by have := dues_len b q t ls ss; unfold LIM; omega) fun d hd => ?_
    by_cases h : 0 < d
    · simp (implicitDefEqProofs := false) (decide := true) (maxDischargeDepth := 9) [e_bnd, e_ret, e_opt, kO_s, kO_n, kO_i, kB_n, kB_o, kB_x, kB_i, e_val, kV_n, kV_o, kV_x, kV_i, e_seq, kS_n, kS_nx, kS_rt, kS_bk, kS_ct, kS_ex, kS_i, e_nil, e_pass, e_brk, e_cnt, e_sret, e_sretN, e_expr, e_if, e_set, e_par, e_par3, kP3_3, e_tgt, kTg_f, kTg_n, e_gN, e_gT, e_gs0, e_gs1, e_aug, kAg_i, e_app, kAp_l, e_item, e_for, e_forN, e_fn, kF_n, kF_nx, kF_rt, kF_ex, kF_i, e_outs0, e_outsT, e_outsF, e_K, e_Vf, e_Mf, e_bin, e_un, e_A0, e_A1, e_lst, e_tup, e_C, e_tV, kT_b, e_tAnd, e_tOr, e_tNot, e_xNot, kNt_b, e_xAnd, kAn_b, e_xOr, kOr_b, e_xIf, e_ch, kCh_i, kCz_i, e_is, e_Q, e_Rg1, e_Rg2, e_Sl, kSl_f, e_oN, e_oS, e_call, kA_rt, kA_ex, kA_n, kA_i, e_R0, e_Rv, e_Ri, e_callK, kCK_f, e_take0, e_takeV, e_takeI, e_put0, e_putV, e_putI, fz_f, fz_l, fzs_0, fzs_1, fzs_map, fzs_mapI, fzs_1l, e_b1, e_b2, e_b2g, e_bs, v_bn, v_add, v_sub, v_mul, v_div, v_mod, v_pow, v_neg, v_catNN, v_catFN, v_catNF, v_catFF, v_rep, v_lt, v_le, v_gt, v_ge, v_is, v_isN, v_isO, v_isNO, v_non, v_nonI, v_nonL, v_nonT, v_nonB, v_eqI, v_neI, v_eqS, v_neS, v_lenL, v_lenT, v_abs, v_max2, v_min2, v_min3, v_intsM, v_ints0, v_ints1, v_blsM, v_blsF, v_intsF, v_maxL, v_minL, v_sum, v_sort, v_all, v_any, v_int, v_intB, v_list, v_listT, v_tuple, v_kIsN, v_kIsI, v_kIsL, v_kIsT, v_kIsB, v_isInt, v_isBool, v_isLst, v_isTup, v_repr, v_reprE, v_at, v_atL, v_atN, v_ixT, v_ixL, v_ixN, e_qK, e_qV, v_gKd, v_gOs, v_gLs, v_gDs, v_gDsT, v_gF, v_gI, v_isNn, e_Vn', e_Mn', v_isNo1, v_isNo2, e_pV, e_qIxF, e_qIxN, e_qI, e_qB, e_get, kIt_l', v_ixLit, v_ix0, v_at0, v_at1, v_ix1, e_apply', e_eB, e_cK, e_cT1, e_cT2, e_cTb, e_wipe0, e_wipe1, e_back0, e_back1, v_bkF, v_bkNo, v_bkN, v_tY, v_Vg, v_atLast, v_ixS, v_setLast, v_fzSnoc, v_fzSnocC, v_LIM, v_fzF, v_fzC, v_fzFF, v_intsC, v_blsC, e_SrtSet, v_ss, e_tup2, kT2_2, v_minPI, v_minPP, v_isB, e_tBor, kTb_o, v_frzS_f, v_frzS_no, v_frzS_n, e_appP, e_clrP, v_appEach0, v_appEach1, v_appEachM, e_forApp0, e_forApp1, e_AS, v_kFl, e_tpo, v_ixTp, fz_tp, e_idx, kIdA_f, v_idx, v_ltT, e_borS, h]
    · simp (implicitDefEqProofs := false) (decide := true) (maxDischargeDepth := 9) [e_bnd, e_ret, e_opt, kO_s, kO_n, kO_i, kB_n, kB_o, kB_x, kB_i, e_val, kV_n, kV_o, kV_x, kV_i, e_seq, kS_n, kS_nx, kS_rt, kS_bk, kS_ct, kS_ex, kS_i, e_nil, e_pass, e_brk, e_cnt, e_sret, e_sretN, e_expr, e_if, e_set, e_par, e_par3, kP3_3, e_tgt, kTg_f, kTg_n, e_gN, e_gT, e_gs0, e_gs1, e_aug, kAg_i, e_app, kAp_l, e_item, e_for, e_forN, e_fn, kF_n, kF_nx, kF_rt, kF_ex, kF_i, e_outs0, e_outsT, e_outsF, e_K, e_Vf, e_Mf, e_bin, e_un, e_A0, e_A1, e_lst, e_tup, e_C, e_tV, kT_b, e_tAnd, e_tOr, e_tNot, e_xNot, kNt_b, e_xAnd, kAn_b, e_xOr, kOr_b, e_xIf, e_ch, kCh_i, kCz_i, e_is, e_Q, e_Rg1, e_Rg2, e_Sl, kSl_f, e_oN, e_oS, e_call, kA_rt, kA_ex, kA_n, kA_i, e_R0, e_Rv, e_Ri, e_callK, kCK_f, e_take0, e_takeV, e_takeI, e_put0, e_putV, e_putI, fz_f, fz_l, fzs_0, fzs_1, fzs_map, fzs_mapI, fzs_1l, e_b1, e_b2, e_b2g, e_bs, v_bn, v_add, v_sub, v_mul, v_div, v_mod, v_pow, v_neg, v_catNN, v_catFN, v_catNF, v_catFF, v_rep, v_lt, v_le, v_gt, v_ge, v_is, v_isN, v_isO, v_isNO, v_non, v_nonI, v_nonL, v_nonT, v_nonB, v_eqI, v_neI, v_eqS, v_neS, v_lenL, v_lenT, v_abs, v_max2, v_min2, v_min3, v_intsM, v_ints0, v_ints1, v_blsM, v_blsF, v_intsF, v_maxL, v_minL, v_sum, v_sort, v_all, v_any, v_int, v_intB, v_list, v_listT, v_tuple, v_kIsN, v_kIsI, v_kIsL, v_kIsT, v_kIsB, v_isInt, v_isBool, v_isLst, v_isTup, v_repr, v_reprE, v_at, v_atL, v_atN, v_ixT, v_ixL, v_ixN, e_qK, e_qV, v_gKd, v_gOs, v_gLs, v_gDs, v_gDsT, v_gF, v_gI, v_isNn, e_Vn', e_Mn', v_isNo1, v_isNo2, e_pV, e_qIxF, e_qIxN, e_qI, e_qB, e_get, kIt_l', v_ixLit, v_ix0, v_at0, v_at1, v_ix1, e_apply', e_eB, e_cK, e_cT1, e_cT2, e_cTb, e_wipe0, e_wipe1, e_back0, e_back1, v_bkF, v_bkNo, v_bkN, v_tY, v_Vg, v_atLast, v_ixS, v_setLast, v_fzSnoc, v_fzSnocC, v_LIM, v_fzF, v_fzC, v_fzFF, v_intsC, v_blsC, e_SrtSet, v_ss, e_tup2, kT2_2, v_minPI, v_minPP, v_isB, e_tBor, kTb_o, v_frzS_f, v_frzS_no, v_frzS_n, e_appP, e_clrP, v_appEach0, v_appEach1, v_appEachM, e_forApp0, e_forApp1, e_AS, v_kFl, e_tpo, v_ixTp, fz_tp, e_idx, kIdA_f, v_idx, v_ltT, e_borS, h]
  simp (implicitDefEqProofs := false) (decide := true) (maxDischargeDepth := 9) [e_bnd, e_ret, e_opt, kO_s, kO_n, kO_i, kB_n, kB_o, kB_x, kB_i, e_val, kV_n, kV_o, kV_x, kV_i, e_seq, kS_n, kS_nx, kS_rt, kS_bk, kS_ct, kS_ex, kS_i, e_nil, e_pass, e_brk, e_cnt, e_sret, e_sretN, e_expr, e_if, e_set, e_par, e_par3, kP3_3, e_tgt, kTg_f, kTg_n, e_gN, e_gT, e_gs0, e_gs1, e_aug, kAg_i, e_app, kAp_l, e_item, e_for, e_forN, e_fn, kF_n, kF_nx, kF_rt, kF_ex, kF_i, e_outs0, e_outsT, e_outsF, e_K, e_Vf, e_Mf, e_bin, e_un, e_A0, e_A1, e_lst, e_tup, e_C, e_tV, kT_b, e_tAnd, e_tOr, e_tNot, e_xNot, kNt_b, e_xAnd, kAn_b, e_xOr, kOr_b, e_xIf, e_ch, kCh_i, kCz_i, e_is, e_Q, e_Rg1, e_Rg2, e_Sl, kSl_f, e_oN, e_oS, e_call, kA_rt, kA_ex, kA_n, kA_i, e_R0, e_Rv, e_Ri, e_callK, kCK_f, e_take0, e_takeV, e_takeI, e_put0, e_putV, e_putI, fz_f, fz_l, fzs_0, fzs_1, fzs_map, fzs_mapI, fzs_1l, e_b1, e_b2, e_b2g, e_bs, v_bn, v_add, v_sub, v_mul, v_div, v_mod, v_pow, v_neg, v_catNN, v_catFN, v_catNF, v_catFF, v_rep, v_lt, v_le, v_gt, v_ge, v_is, v_isN, v_isO, v_isNO, v_non, v_nonI, v_nonL, v_nonT, v_nonB, v_eqI, v_neI, v_eqS, v_neS, v_lenL, v_lenT, v_abs, v_max2, v_min2, v_min3, v_intsM, v_ints0, v_ints1, v_blsM, v_blsF, v_intsF, v_maxL, v_minL, v_sum, v_sort, v_all, v_any, v_int, v_intB, v_list, v_listT, v_tuple, v_kIsN, v_kIsI, v_kIsL, v_kIsT, v_kIsB, v_isInt, v_isBool, v_isLst, v_isTup, v_repr, v_reprE, v_at, v_atL, v_atN, v_ixT, v_ixL, v_ixN, e_qK, e_qV, v_gKd, v_gOs, v_gLs, v_gDs, v_gDsT, v_gF, v_gI, v_isNn, e_Vn', e_Mn', v_isNo1, v_isNo2, e_pV, e_qIxF, e_qIxN, e_qI, e_qB, e_get, kIt_l', v_ixLit, v_ix0, v_at0, v_at1, v_ix1, e_apply', e_eB, e_cK, e_cT1, e_cT2, e_cTb, e_wipe0, e_wipe1, e_back0, e_back1, v_bkF, v_bkNo, v_bkN, v_tY, v_Vg, v_atLast, v_ixS, v_setLast, v_fzSnoc, v_fzSnocC, v_LIM, v_fzF, v_fzC, v_fzFF, v_intsC, v_blsC, e_SrtSet, v_ss, e_tup2, kT2_2, v_minPI, v_minPP, v_isB, e_tBor, kTb_o, v_frzS_f, v_frzS_no, v_frzS_n, e_appP, e_clrP, v_appEach0, v_appEach1, v_appEachM, e_forApp0, e_forApp1, e_AS, v_kFl, e_tpo, v_ixTp, fz_tp, e_idx, kIdA_f, v_idx, v_ltT, e_borS, f_due_later_72fa, b_due_later_72fa, e1, e2, dueL]
end Ev
namespace Ev
open OW
open DL (Dt)
theorem FlOk.zb {b q : Int} {ls ss : List Int} (k : FlOk b ls q ss) : Sz 150 b := sz_of (by have := k.b1; omega) (by have := k.b2; unfold MP at this; omega)
theorem FlOk.zq {b q : Int} {ls ss : List Int} (k : FlOk b ls q ss) : Sz 64 q := sz_of (by have := k.q1; omega) (by have := k.q2; omega)
theorem FlOk.zl {b q : Int} {ls ss : List Int} (k : FlOk b ls q ss) {l : Int} (h : l ∈ ls) : Sz 150 l := ⟨Nat.lt_of_lt_of_le (k.bl h) (Nat.pow_le_pow_right (by decide) (by decide))⟩
theorem FlOk.zs {b q : Int} {ls ss : List Int} (k : FlOk b ls q ss) {s : Int} (h : s ∈ ss) : Sz 64 s := ⟨Nat.lt_of_lt_of_le (k.bs h) (Nat.pow_le_pow_right (by decide) (by decide))⟩
theorem failing_eval {b q : Int} {ls ss : List Int} {o1 o3 : Ow} (k : FlOk b ls q ss) (h1 : frz o1 = some (.lst (ls.map .int))) (h3 : frz o3 = some (.lst (ss.map .int))) : f__law_failing_b061 [.f (.int b), o1, .f (.int q), o3] = some (.rt (oO (failS b q ls ss)) [.no, .no, .no, .no]) := by
  have l2 := k.l2
  have b1 := k.b1
  have q1 := k.q1
  have q2 := k.q2
  haveI := k.zb
  haveI := k.zq
  have hbq : 0 < b * q := Int.mul_pos (by omega) (by omega)
  have key : (∃ ρ, l1__law_failing_b061 [.f (.int b), o1, .f (.int q), o3, .no, .no, .no, .no] = some (.nx ρ) ∧ (failS b q ls ss = none ∧ ∃ o1 o3 o4 o5, ρ = [.f (.int b), o1, .f (.int q), o3, o4, o5, .no, .no])) ∨
      ∃ o ρ, l1__law_failing_b061 [.f (.int b), o1, .f (.int q), o3, .no, .no, .no, .no] = some (.rt o ρ) ∧ (∃ t, failS b q ls ss = some t ∧ o = .f (.int t) ∧ ∃ o1 o3 o4 o5, ρ = [.f (.int b), o1, .f (.int q), o3, o4, o5, .no, .no]) := by
    refine wp_or ?_
    unfold l1__law_failing_b061
    rw [e_for, iR2_f (m := 1) (n := q + 1) (ρ1 := [.f (.int b), o1, .f (.int q), o3, .no, .no, .no, .no]) (ρ2 := [.f (.int b), o1, .f (.int q), o3, .no, .no, .no, .no]) (by simp (implicitDefEqProofs := false) (decide := true) (maxDischargeDepth := 9) [e_bnd, e_ret, e_opt, kO_s, kO_n, kO_i, kB_n, kB_o, kB_x, kB_i, e_val, kV_n, kV_o, kV_x, kV_i, e_seq, kS_n, kS_nx, kS_rt, kS_bk, kS_ct, kS_ex, kS_i, e_nil, e_pass, e_brk, e_cnt, e_sret, e_sretN, e_expr, e_if, e_set, e_par, e_par3, kP3_3, e_tgt, kTg_f, kTg_n, e_gN, e_gT, e_gs0, e_gs1, e_aug, kAg_i, e_app, kAp_l, e_item, e_for, e_forN, e_fn, kF_n, kF_nx, kF_rt, kF_ex, kF_i, e_outs0, e_outsT, e_outsF, e_K, e_Vf, e_Mf, e_bin, e_un, e_A0, e_A1, e_lst, e_tup, e_C, e_tV, kT_b, e_tAnd, e_tOr, e_tNot, e_xNot, kNt_b, e_xAnd, kAn_b, e_xOr, kOr_b, e_xIf, e_ch, kCh_i, kCz_i, e_is, e_Q, e_Rg1, e_Rg2, e_Sl, kSl_f, e_oN, e_oS, e_call, kA_rt, kA_ex, kA_n, kA_i, e_R0, e_Rv, e_Ri, e_callK, kCK_f, e_take0, e_takeV, e_takeI, e_put0, e_putV, e_putI, fz_f, fz_l, fzs_0, fzs_1, fzs_map, fzs_mapI, fzs_1l, e_b1, e_b2, e_b2g, e_bs, v_bn, v_add, v_sub, v_mul, v_div, v_mod, v_pow, v_neg, v_catNN, v_catFN, v_catNF, v_catFF, v_rep, v_lt, v_le, v_gt, v_ge, v_is, v_isN, v_isO, v_isNO, v_non, v_nonI, v_nonL, v_nonT, v_nonB, v_eqI, v_neI, v_eqS, v_neS, v_lenL, v_lenT, v_abs, v_max2, v_min2, v_min3, v_intsM, v_ints0, v_ints1, v_blsM, v_blsF, v_intsF, v_maxL, v_minL, v_sum, v_sort, v_all, v_any, v_int, v_intB, v_list, v_listT, v_tuple, v_kIsN, v_kIsI, v_kIsL, v_kIsT, v_kIsB, v_isInt, v_isBool, v_isLst, v_isTup, v_repr, v_reprE, v_at, v_atL, v_atN, v_ixT, v_ixL, v_ixN, e_qK, e_qV, v_gKd, v_gOs, v_gLs, v_gDs, v_gDsT, v_gF, v_gI, v_isNn, e_Vn', e_Mn', v_isNo1, v_isNo2, e_pV, e_qIxF, e_qIxN, e_qI, e_qB, e_get, kIt_l', v_ixLit, v_ix0, v_at0, v_at1, v_ix1, e_apply', e_eB, e_cK, e_cT1, e_cT2, e_cTb, e_wipe0, e_wipe1, e_back0, e_back1, v_bkF, v_bkNo, v_bkN, v_tY, v_Vg, v_atLast, v_ixS, v_setLast, v_fzSnoc, v_fzSnocC, v_LIM, v_fzF, v_fzC, v_fzFF, v_intsC, v_blsC, e_SrtSet, v_ss, e_tup2, kT2_2, v_minPI, v_minPP, v_isB, e_tBor, kTb_o, v_frzS_f, v_frzS_no, v_frzS_n, e_appP, e_clrP, v_appEach0, v_appEach1, v_appEachM, e_forApp0, e_forApp1, e_AS, v_kFl, e_tpo, v_ixTp, fz_tp, e_idx, kIdA_f, v_idx, v_ltT, e_borS, ]) (by simp (implicitDefEqProofs := false) (decide := true) (maxDischargeDepth := 9) [e_bnd, e_ret, e_opt, kO_s, kO_n, kO_i, kB_n, kB_o, kB_x, kB_i, e_val, kV_n, kV_o, kV_x, kV_i, e_seq, kS_n, kS_nx, kS_rt, kS_bk, kS_ct, kS_ex, kS_i, e_nil, e_pass, e_brk, e_cnt, e_sret, e_sretN, e_expr, e_if, e_set, e_par, e_par3, kP3_3, e_tgt, kTg_f, kTg_n, e_gN, e_gT, e_gs0, e_gs1, e_aug, kAg_i, e_app, kAp_l, e_item, e_for, e_forN, e_fn, kF_n, kF_nx, kF_rt, kF_ex, kF_i, e_outs0, e_outsT, e_outsF, e_K, e_Vf, e_Mf, e_bin, e_un, e_A0, e_A1, e_lst, e_tup, e_C, e_tV, kT_b, e_tAnd, e_tOr, e_tNot, e_xNot, kNt_b, e_xAnd, kAn_b, e_xOr, kOr_b, e_xIf, e_ch, kCh_i, kCz_i, e_is, e_Q, e_Rg1, e_Rg2, e_Sl, kSl_f, e_oN, e_oS, e_call, kA_rt, kA_ex, kA_n, kA_i, e_R0, e_Rv, e_Ri, e_callK, kCK_f, e_take0, e_takeV, e_takeI, e_put0, e_putV, e_putI, fz_f, fz_l, fzs_0, fzs_1, fzs_map, fzs_mapI, fzs_1l, e_b1, e_b2, e_b2g, e_bs, v_bn, v_add, v_sub, v_mul, v_div, v_mod, v_pow, v_neg, v_catNN, v_catFN, v_catNF, v_catFF, v_rep, v_lt, v_le, v_gt, v_ge, v_is, v_isN, v_isO, v_isNO, v_non, v_nonI, v_nonL, v_nonT, v_nonB, v_eqI, v_neI, v_eqS, v_neS, v_lenL, v_lenT, v_abs, v_max2, v_min2, v_min3, v_intsM, v_ints0, v_ints1, v_blsM, v_blsF, v_intsF, v_maxL, v_minL, v_sum, v_sort, v_all, v_any, v_int, v_intB, v_list, v_listT, v_tuple, v_kIsN, v_kIsI, v_kIsL, v_kIsT, v_kIsB, v_isInt, v_isBool, v_isLst, v_isTup, v_repr, v_reprE, v_at, v_atL, v_atN, v_ixT, v_ixL, v_ixN, e_qK, e_qV, v_gKd, v_gOs, v_gLs, v_gDs, v_gDsT, v_gF, v_gI, v_isNn, e_Vn', e_Mn', v_isNo1, v_isNo2, e_pV, e_qIxF, e_qIxN, e_qI, e_qB, e_get, kIt_l', v_ixLit, v_ix0, v_at0, v_at1, v_ix1, e_apply', e_eB, e_cK, e_cT1, e_cT2, e_cTb, e_wipe0, e_wipe1, e_back0, e_back1, v_bkF, v_bkNo, v_bkN, v_tY, v_Vg, v_atLast, v_ixS, v_setLast, v_fzSnoc, v_fzSnocC, v_LIM, v_fzF, v_fzC, v_fzFF, v_intsC, v_blsC, e_SrtSet, v_ss, e_tup2, kT2_2, v_minPI, v_minPP, v_isB, e_tBor, kTb_o, v_frzS_f, v_frzS_no, v_frzS_n, e_appP, e_clrP, v_appEach0, v_appEach1, v_appEachM, e_forApp0, e_forApp1, e_AS, v_kFl, e_tpo, v_ixTp, fz_tp, e_idx, kIdA_f, v_idx, v_ltT, e_borS, ]), kV_o]
    have hlen : ((DL.rng 1 (q + 1 - 1).toNat).map Dt.int).length = q.toNat := by rw [List.length_map, DL.rng_length]; omega
    refine w_for (fun j ρ => failTo b q ls ss j = none ∧ ∃ o1 o3 o4 o5, ρ = [.f (.int b), o1, .f (.int q), o3, o4, o5, .no, .no] ∧ frz o1 = some (.lst (ls.map .int)) ∧ frz o3 = some (.lst (ss.map .int))) ⟨rfl, _, _, _, _, rfl, h1, h3⟩ ?_ fun ρ ⟨z, o1, o3, o4, o5, z2, _⟩ => ?_
    · intro j d ρ hd ⟨hb, o1, o3, o4, o5, e, h1, h3⟩
      subst e
      have hj : j < q.toNat := by
        have := (List.getElem?_eq_some_iff.mp hd).1
        rw [hlen] at this
        exact this
      obtain ⟨_, rfl⟩ := DL.rng_get hd
      haveI : Sz 64 (1 + (j : Int)) := sz_of (by omega) (by omega)
      refine ⟨[.f (.int b), o1, .f (.int q), o3, .f (.int (1 + j)), o5, .no, .no], by simp (implicitDefEqProofs := false) (decide := true) (maxDischargeDepth := 9) [e_bnd, e_ret, e_opt, kO_s, kO_n, kO_i, kB_n, kB_o, kB_x, kB_i, e_val, kV_n, kV_o, kV_x, kV_i, e_seq, kS_n, kS_nx, kS_rt, kS_bk, kS_ct, kS_ex, kS_i, e_nil, e_pass, e_brk, e_cnt, e_sret, e_sretN, e_expr, e_if, e_set, e_par, e_par3, kP3_3, e_tgt, kTg_f, kTg_n, e_gN, e_gT, e_gs0, e_gs1, e_aug, kAg_i, e_app, kAp_l, e_item, e_for, e_forN, e_fn, kF_n, kF_nx, kF_rt, kF_ex, kF_i, e_outs0, e_outsT, e_outsF, e_K, e_Vf, e_Mf, e_bin, e_un, e_A0, e_A1, e_lst, e_tup, e_C, e_tV, kT_b, e_tAnd, e_tOr, e_tNot, e_xNot, kNt_b, e_xAnd, kAn_b, e_xOr, kOr_b, e_xIf, e_ch, kCh_i, kCz_i, e_is, e_Q, e_Rg1, e_Rg2, e_Sl, kSl_f, e_oN, e_oS, e_call, kA_rt, kA_ex, kA_n, kA_i, e_R0, e_Rv, e_Ri, e_callK, kCK_f, e_take0, e_takeV, e_takeI, e_put0, e_putV, e_putI, fz_f, fz_l, fzs_0, fzs_1, fzs_map, fzs_mapI, fzs_1l, e_b1, e_b2, e_b2g, e_bs, v_bn, v_add, v_sub, v_mul, v_div, v_mod, v_pow, v_neg, v_catNN, v_catFN, v_catNF, v_catFF, v_rep, v_lt, v_le, v_gt, v_ge, v_is, v_isN, v_isO, v_isNO, v_non, v_nonI, v_nonL, v_nonT, v_nonB, v_eqI, v_neI, v_eqS, v_neS, v_lenL, v_lenT, v_abs, v_max2, v_min2, v_min3, v_intsM, v_ints0, v_ints1, v_blsM, v_blsF, v_intsF, v_maxL, v_minL, v_sum, v_sort, v_all, v_any, v_int, v_intB, v_list, v_listT, v_tuple, v_kIsN, v_kIsI, v_kIsL, v_kIsT, v_kIsB, v_isInt, v_isBool, v_isLst, v_isTup, v_repr, v_reprE, v_at, v_atL, v_atN, v_ixT, v_ixL, v_ixN, e_qK, e_qV, v_gKd, v_gOs, v_gLs, v_gDs, v_gDsT, v_gF, v_gI, v_isNn, e_Vn', e_Mn', v_isNo1, v_isNo2, e_pV, e_qIxF, e_qIxN, e_qI, e_qB, e_get, kIt_l', v_ixLit, v_ix0, v_at0, v_at1, v_ix1, e_apply', e_eB, e_cK, e_cT1, e_cT2, e_cTb, e_wipe0, e_wipe1, e_back0, e_back1, v_bkF, v_bkNo, v_bkN, v_tY, v_Vg, v_atLast, v_ixS, v_setLast, v_fzSnoc, v_fzSnocC, v_LIM, v_fzF, v_fzC, v_fzFF, v_intsC, v_blsC, e_SrtSet, v_ss, e_tup2, kT2_2, v_minPI, v_minPP, v_isB, e_tBor, kTb_o, v_frzS_f, v_frzS_no, v_frzS_n, e_appP, e_clrP, v_appEach0, v_appEach1, v_appEachM, e_forApp0, e_forApp1, e_AS, v_kFl, e_tpo, v_ixTp, fz_tp, e_idx, kIdA_f, v_idx, v_ltT, e_borS, ], ?_⟩
      have e1 : x1__law_failing_b061 [.f (.int b), o1, .f (.int q), o3, .f (.int (1 + j)), o5, .no, .no] = some (.ok (.n .lst ((dues b q (1 + (j : Int)) ls ss).map fun y => .f (.int (max 0 y)))) [.f (.int b), .f (.lst (ls.map .int)), .f (.int q), .f (.lst (ss.map .int)), .f (.int (1 + j)), o5, .no, .no]) := by
        rw [← dues_zip, List.map_map]
        unfold x1__law_failing_b061
        refine comp_mapT (l := ls.zip ss) (g := fun x => .tup [.int x.1, .int x.2]) (ds := DL.zip2 (ls.map .int) (ss.map .int)) (iZ_f (o := .f (.lst (ls.map .int))) (o2 := .f (.lst (ss.map .int))) (ρ1 := [.f (.int b), .f (.lst (ls.map .int)), .f (.int q), o3, .f (.int (1 + j)), o5, .no, .no]) (by simp (implicitDefEqProofs := false) (decide := true) (maxDischargeDepth := 9) [e_bnd, e_ret, e_opt, kO_s, kO_n, kO_i, kB_n, kB_o, kB_x, kB_i, e_val, kV_n, kV_o, kV_x, kV_i, e_seq, kS_n, kS_nx, kS_rt, kS_bk, kS_ct, kS_ex, kS_i, e_nil, e_pass, e_brk, e_cnt, e_sret, e_sretN, e_expr, e_if, e_set, e_par, e_par3, kP3_3, e_tgt, kTg_f, kTg_n, e_gN, e_gT, e_gs0, e_gs1, e_aug, kAg_i, e_app, kAp_l, e_item, e_for, e_forN, e_fn, kF_n, kF_nx, kF_rt, kF_ex, kF_i, e_outs0, e_outsT, e_outsF, e_K, e_Vf, e_Mf, e_bin, e_un, e_A0, e_A1, e_lst, e_tup, e_C, e_tV, kT_b, e_tAnd, e_tOr, e_tNot, e_xNot, kNt_b, e_xAnd, kAn_b, e_xOr, kOr_b, e_xIf, e_ch, kCh_i, kCz_i, e_is, e_Q, e_Rg1, e_Rg2, e_Sl, kSl_f, e_oN, e_oS, e_call, kA_rt, kA_ex, kA_n, kA_i, e_R0, e_Rv, e_Ri, e_callK, kCK_f, e_take0, e_takeV, e_takeI, e_put0, e_putV, e_putI, fz_f, fz_l, fzs_0, fzs_1, fzs_map, fzs_mapI, fzs_1l, e_b1, e_b2, e_b2g, e_bs, v_bn, v_add, v_sub, v_mul, v_div, v_mod, v_pow, v_neg, v_catNN, v_catFN, v_catNF, v_catFF, v_rep, v_lt, v_le, v_gt, v_ge, v_is, v_isN, v_isO, v_isNO, v_non, v_nonI, v_nonL, v_nonT, v_nonB, v_eqI, v_neI, v_eqS, v_neS, v_lenL, v_lenT, v_abs, v_max2, v_min2, v_min3, v_intsM, v_ints0, v_ints1, v_blsM, v_blsF, v_intsF, v_maxL, v_minL, v_sum, v_sort, v_all, v_any, v_int, v_intB, v_list, v_listT, v_tuple, v_kIsN, v_kIsI, v_kIsL, v_kIsT, v_kIsB, v_isInt, v_isBool, v_isLst, v_isTup, v_repr, v_reprE, v_at, v_atL, v_atN, v_ixT, v_ixL, v_ixN, e_qK, e_qV, v_gKd, v_gOs, v_gLs, v_gDs, v_gDsT, v_gF, v_gI, v_isNn, e_Vn', e_Mn', v_isNo1, v_isNo2, e_pV, e_qIxF, e_qIxN, e_qI, e_qB, e_get, kIt_l', v_ixLit, v_ix0, v_at0, v_at1, v_ix1, e_apply', e_eB, e_cK, e_cT1, e_cT2, e_cTb, e_wipe0, e_wipe1, e_back0, e_back1, v_bkF, v_bkNo, v_bkN, v_tY, v_Vg, v_atLast, v_ixS, v_setLast, v_fzSnoc, v_fzSnocC, v_LIM, v_fzF, v_fzC, v_fzFF, v_intsC, v_blsC, e_SrtSet, v_ss, e_tup2, kT2_2, v_minPI, v_minPP, v_isB, e_tBor, kTb_o, v_frzS_f, v_frzS_no, v_frzS_n, e_appP, e_clrP, v_appEach0, v_appEach1, v_appEachM, e_forApp0, e_forApp1, e_AS, v_kFl, e_tpo, v_ixTp, fz_tp, e_idx, kIdA_f, v_idx, v_ltT, e_borS, h1]) (by simp (implicitDefEqProofs := false) (decide := true) (maxDischargeDepth := 9) [e_bnd, e_ret, e_opt, kO_s, kO_n, kO_i, kB_n, kB_o, kB_x, kB_i, e_val, kV_n, kV_o, kV_x, kV_i, e_seq, kS_n, kS_nx, kS_rt, kS_bk, kS_ct, kS_ex, kS_i, e_nil, e_pass, e_brk, e_cnt, e_sret, e_sretN, e_expr, e_if, e_set, e_par, e_par3, kP3_3, e_tgt, kTg_f, kTg_n, e_gN, e_gT, e_gs0, e_gs1, e_aug, kAg_i, e_app, kAp_l, e_item, e_for, e_forN, e_fn, kF_n, kF_nx, kF_rt, kF_ex, kF_i, e_outs0, e_outsT, e_outsF, e_K, e_Vf, e_Mf, e_bin, e_un, e_A0, e_A1, e_lst, e_tup, e_C, e_tV, kT_b, e_tAnd, e_tOr, e_tNot, e_xNot, kNt_b, e_xAnd, kAn_b, e_xOr, kOr_b, e_xIf, e_ch, kCh_i, kCz_i, e_is, e_Q, e_Rg1, e_Rg2, e_Sl, kSl_f, e_oN, e_oS, e_call, kA_rt, kA_ex, kA_n, kA_i, e_R0, e_Rv, e_Ri, e_callK, kCK_f, e_take0, e_takeV, e_takeI, e_put0, e_putV, e_putI, fz_f, fz_l, fzs_0, fzs_1, fzs_map, fzs_mapI, fzs_1l, e_b1, e_b2, e_b2g, e_bs, v_bn, v_add, v_sub, v_mul, v_div, v_mod, v_pow, v_neg, v_catNN, v_catFN, v_catNF, v_catFF, v_rep, v_lt, v_le, v_gt, v_ge, v_is, v_isN, v_isO, v_isNO, v_non, v_nonI, v_nonL, v_nonT, v_nonB, v_eqI, v_neI, v_eqS, v_neS, v_lenL, v_lenT, v_abs, v_max2, v_min2, v_min3, v_intsM, v_ints0, v_ints1, v_blsM, v_blsF, v_intsF, v_maxL, v_minL, v_sum, v_sort, v_all, v_any, v_int, v_intB, v_list, v_listT, v_tuple, v_kIsN, v_kIsI, v_kIsL, v_kIsT, v_kIsB, v_isInt, v_isBool, v_isLst, v_isTup, v_repr, v_reprE, v_at, v_atL, v_atN, v_ixT, v_ixL, v_ixN, e_qK, e_qV, v_gKd, v_gOs, v_gLs, v_gDs, v_gDsT, v_gF, v_gI, v_isNn, e_Vn', e_Mn', v_isNo1, v_isNo2, e_pV, e_qIxF, e_qIxN, e_qI, e_qB, e_get, kIt_l', v_ixLit, v_ix0, v_at0, v_at1, v_ix1, e_apply', e_eB, e_cK, e_cT1, e_cT2, e_cTb, e_wipe0, e_wipe1, e_back0, e_back1, v_bkF, v_bkNo, v_bkN, v_tY, v_Vg, v_atLast, v_ixS, v_setLast, v_fzSnoc, v_fzSnocC, v_LIM, v_fzF, v_fzC, v_fzFF, v_intsC, v_blsC, e_SrtSet, v_ss, e_tup2, kT2_2, v_minPI, v_minPP, v_isB, e_tBor, kTb_o, v_frzS_f, v_frzS_no, v_frzS_n, e_appP, e_clrP, v_appEach0, v_appEach1, v_appEachM, e_forApp0, e_forApp1, e_AS, v_kFl, e_tpo, v_ixTp, fz_tp, e_idx, kIdA_f, v_idx, v_ltT, e_borS, h3]) rfl rfl) zip_map (by rw [List.length_zip]; unfold LIM; omega) fun x hx => ?_
        haveI := k.zl (zip_mem hx).1
        haveI := k.zs (zip_mem hx).2
        simp (implicitDefEqProofs := false) (decide := true) (maxDischargeDepth := 9) [e_bnd, e_ret, e_opt, kO_s, kO_n, kO_i, kB_n, kB_o, kB_x, kB_i, e_val, kV_n, kV_o, kV_x, kV_i, e_seq, kS_n, kS_nx, kS_rt, kS_bk, kS_ct, kS_ex, kS_i, e_nil, e_pass, e_brk, e_cnt, e_sret, e_sretN, e_expr, e_if, e_set, e_par, e_par3, kP3_3, e_tgt, kTg_f, kTg_n, e_gN, e_gT, e_gs0, e_gs1, e_aug, kAg_i, e_app, kAp_l, e_item, e_for, e_forN, e_fn, kF_n, kF_nx, kF_rt, kF_ex, kF_i, e_outs0, e_outsT, e_outsF, e_K, e_Vf, e_Mf, e_bin, e_un, e_A0, e_A1, e_lst, e_tup, e_C, e_tV, kT_b, e_tAnd, e_tOr, e_tNot, e_xNot, kNt_b, e_xAnd, kAn_b, e_xOr, kOr_b, e_xIf, e_ch, kCh_i, kCz_i, e_is, e_Q, e_Rg1, e_Rg2, e_Sl, kSl_f, e_oN, e_oS, e_call, kA_rt, kA_ex, kA_n, kA_i, e_R0, e_Rv, e_Ri, e_callK, kCK_f, e_take0, e_takeV, e_takeI, e_put0, e_putV, e_putI, fz_f, fz_l, fzs_0, fzs_1, fzs_map, fzs_mapI, fzs_1l, e_b1, e_b2, e_b2g, e_bs, v_bn, v_add, v_sub, v_mul, v_div, v_mod, v_pow, v_neg, v_catNN, v_catFN, v_catNF, v_catFF, v_rep, v_lt, v_le, v_gt, v_ge, v_is, v_isN, v_isO, v_isNO, v_non, v_nonI, v_nonL, v_nonT, v_nonB, v_eqI, v_neI, v_eqS, v_neS, v_lenL, v_lenT, v_abs, v_max2, v_min2, v_min3, v_intsM, v_ints0, v_ints1, v_blsM, v_blsF, v_intsF, v_maxL, v_minL, v_sum, v_sort, v_all, v_any, v_int, v_intB, v_list, v_listT, v_tuple, v_kIsN, v_kIsI, v_kIsL, v_kIsT, v_kIsB, v_isInt, v_isBool, v_isLst, v_isTup, v_repr, v_reprE, v_at, v_atL, v_atN, v_ixT, v_ixL, v_ixN, e_qK, e_qV, v_gKd, v_gOs, v_gLs, v_gDs, v_gDsT, v_gF, v_gI, v_isNn, e_Vn', e_Mn', v_isNo1, v_isNo2, e_pV, e_qIxF, e_qIxN, e_qI, e_qB, e_get, kIt_l', v_ixLit, v_ix0, v_at0, v_at1, v_ix1, e_apply', e_eB, e_cK, e_cT1, e_cT2, e_cTb, e_wipe0, e_wipe1, e_back0, e_back1, v_bkF, v_bkNo, v_bkN, v_tY, v_Vg, v_atLast, v_ixS, v_setLast, v_fzSnoc, v_fzSnocC, v_LIM, v_fzF, v_fzC, v_fzFF, v_intsC, v_blsC, e_SrtSet, v_ss, e_tup2, kT2_2, v_minPI, v_minPP, v_isB, e_tBor, kTb_o, v_frzS_f, v_frzS_no, v_frzS_n, e_appP, e_clrP, v_appEach0, v_appEach1, v_appEachM, e_forApp0, e_forApp1, e_AS, v_kFl, e_tpo, v_ixTp, fz_tp, e_idx, kIdA_f, v_idx, v_ltT, e_borS, hbq, dueOf]
      have es := dueL_max b q (1 + (j : Int)) ls ss
      have hs := failTo_step hb
      by_cases hp : dueL b q (1 + (j : Int)) ls ss > 1 + (j : Int)
      · rw [if_pos hp] at hs
        refine wp_eq (.rt (.f (.int (1 + j))) [.f (.int b), .f (.lst (ls.map .int)), .f (.int q), .f (.lst (ss.map .int)), .f (.int (1 + j)), .f (.lst ((dues b q (1 + (j : Int)) ls ss).map fun y => .int (max 0 y))), .no, .no]) (by simp (implicitDefEqProofs := false) (decide := true) (maxDischargeDepth := 9) [e_bnd, e_ret, e_opt, kO_s, kO_n, kO_i, kB_n, kB_o, kB_x, kB_i, e_val, kV_n, kV_o, kV_x, kV_i, e_seq, kS_n, kS_nx, kS_rt, kS_bk, kS_ct, kS_ex, kS_i, e_nil, e_pass, e_brk, e_cnt, e_sret, e_sretN, e_expr, e_if, e_set, e_par, e_par3, kP3_3, e_tgt, kTg_f, kTg_n, e_gN, e_gT, e_gs0, e_gs1, e_aug, kAg_i, e_app, kAp_l, e_item, e_for, e_forN, e_fn, kF_n, kF_nx, kF_rt, kF_ex, kF_i, e_outs0, e_outsT, e_outsF, e_K, e_Vf, e_Mf, e_bin, e_un, e_A0, e_A1, e_lst, e_tup, e_C, e_tV, kT_b, e_tAnd, e_tOr, e_tNot, e_xNot, kNt_b, e_xAnd, kAn_b, e_xOr, kOr_b, e_xIf, e_ch, kCh_i, kCz_i, e_is, e_Q, e_Rg1, e_Rg2, e_Sl, kSl_f, e_oN, e_oS, e_call, kA_rt, kA_ex, kA_n, kA_i, e_R0, e_Rv, e_Ri, e_callK, kCK_f, e_take0, e_takeV, e_takeI, e_put0, e_putV, e_putI, fz_f, fz_l, fzs_0, fzs_1, fzs_map, fzs_mapI, fzs_1l, e_b1, e_b2, e_b2g, e_bs, v_bn, v_add, v_sub, v_mul, v_div, v_mod, v_pow, v_neg, v_catNN, v_catFN, v_catNF, v_catFF, v_rep, v_lt, v_le, v_gt, v_ge, v_is, v_isN, v_isO, v_isNO, v_non, v_nonI, v_nonL, v_nonT, v_nonB, v_eqI, v_neI, v_eqS, v_neS, v_lenL, v_lenT, v_abs, v_max2, v_min2, v_min3, v_intsM, v_ints0, v_ints1, v_blsM, v_blsF, v_intsF, v_maxL, v_minL, v_sum, v_sort, v_all, v_any, v_int, v_intB, v_list, v_listT, v_tuple, v_kIsN, v_kIsI, v_kIsL, v_kIsT, v_kIsB, v_isInt, v_isBool, v_isLst, v_isTup, v_repr, v_reprE, v_at, v_atL, v_atN, v_ixT, v_ixL, v_ixN, e_qK, e_qV, v_gKd, v_gOs, v_gLs, v_gDs, v_gDsT, v_gF, v_gI, v_isNn, e_Vn', e_Mn', v_isNo1, v_isNo2, e_pV, e_qIxF, e_qIxN, e_qI, e_qB, e_get, kIt_l', v_ixLit, v_ix0, v_at0, v_at1, v_ix1, e_apply', e_eB, e_cK, e_cT1, e_cT2, e_cTb, e_wipe0, e_wipe1, e_back0, e_back1, v_bkF, v_bkNo, v_bkN, v_tY, v_Vg, v_atLast, v_ixS, v_setLast, v_fzSnoc, v_fzSnocC, v_LIM, v_fzF, v_fzC, v_fzFF, v_intsC, v_blsC, e_SrtSet, v_ss, e_tup2, kT2_2, v_minPI, v_minPP, v_isB, e_tBor, kTb_o, v_frzS_f, v_frzS_no, v_frzS_n, e_appP, e_clrP, v_appEach0, v_appEach1, v_appEachM, e_forApp0, e_forApp1, e_AS, v_kFl, e_tpo, v_ixTp, fz_tp, e_idx, kIdA_f, v_idx, v_ltT, e_borS, e1, es, hp]) ⟨1 + (j : Int), failTo_stays hs _ (by omega), rfl, _, _, _, _, rfl⟩
      · rw [if_neg hp] at hs
        have hp' : ¬ (1 + (j : Int) < dueL b q (1 + (j : Int)) ls ss) := hp
        refine wp_eq (.nx [.f (.int b), .f (.lst (ls.map .int)), .f (.int q), .f (.lst (ss.map .int)), .f (.int (1 + j)), .f (.lst ((dues b q (1 + (j : Int)) ls ss).map fun y => .int (max 0 y))), .no, .no]) (by simp (implicitDefEqProofs := false) (decide := true) (maxDischargeDepth := 9) [e_bnd, e_ret, e_opt, kO_s, kO_n, kO_i, kB_n, kB_o, kB_x, kB_i, e_val, kV_n, kV_o, kV_x, kV_i, e_seq, kS_n, kS_nx, kS_rt, kS_bk, kS_ct, kS_ex, kS_i, e_nil, e_pass, e_brk, e_cnt, e_sret, e_sretN, e_expr, e_if, e_set, e_par, e_par3, kP3_3, e_tgt, kTg_f, kTg_n, e_gN, e_gT, e_gs0, e_gs1, e_aug, kAg_i, e_app, kAp_l, e_item, e_for, e_forN, e_fn, kF_n, kF_nx, kF_rt, kF_ex, kF_i, e_outs0, e_outsT, e_outsF, e_K, e_Vf, e_Mf, e_bin, e_un, e_A0, e_A1, e_lst, e_tup, e_C, e_tV, kT_b, e_tAnd, e_tOr, e_tNot, e_xNot, kNt_b, e_xAnd, kAn_b, e_xOr, kOr_b, e_xIf, e_ch, kCh_i, kCz_i, e_is, e_Q, e_Rg1, e_Rg2, e_Sl, kSl_f, e_oN, e_oS, e_call, kA_rt, kA_ex, kA_n, kA_i, e_R0, e_Rv, e_Ri, e_callK, kCK_f, e_take0, e_takeV, e_takeI, e_put0, e_putV, e_putI, fz_f, fz_l, fzs_0, fzs_1, fzs_map, fzs_mapI, fzs_1l, e_b1, e_b2, e_b2g, e_bs, v_bn, v_add, v_sub, v_mul, v_div, v_mod, v_pow, v_neg, v_catNN, v_catFN, v_catNF, v_catFF, v_rep, v_lt, v_le, v_gt, v_ge, v_is, v_isN, v_isO, v_isNO, v_non, v_nonI, v_nonL, v_nonT, v_nonB, v_eqI, v_neI, v_eqS, v_neS, v_lenL, v_lenT, v_abs, v_max2, v_min2, v_min3, v_intsM, v_ints0, v_ints1, v_blsM, v_blsF, v_intsF, v_maxL, v_minL, v_sum, v_sort, v_all, v_any, v_int, v_intB, v_list, v_listT, v_tuple, v_kIsN, v_kIsI, v_kIsL, v_kIsT, v_kIsB, v_isInt, v_isBool, v_isLst, v_isTup, v_repr, v_reprE, v_at, v_atL, v_atN, v_ixT, v_ixL, v_ixN, e_qK, e_qV, v_gKd, v_gOs, v_gLs, v_gDs, v_gDsT, v_gF, v_gI, v_isNn, e_Vn', e_Mn', v_isNo1, v_isNo2, e_pV, e_qIxF, e_qIxN, e_qI, e_qB, e_get, kIt_l', v_ixLit, v_ix0, v_at0, v_at1, v_ix1, e_apply', e_eB, e_cK, e_cT1, e_cT2, e_cTb, e_wipe0, e_wipe1, e_back0, e_back1, v_bkF, v_bkNo, v_bkN, v_tY, v_Vg, v_atLast, v_ixS, v_setLast, v_fzSnoc, v_fzSnocC, v_LIM, v_fzF, v_fzC, v_fzFF, v_intsC, v_blsC, e_SrtSet, v_ss, e_tup2, kT2_2, v_minPI, v_minPP, v_isB, e_tBor, kTb_o, v_frzS_f, v_frzS_no, v_frzS_n, e_appP, e_clrP, v_appEach0, v_appEach1, v_appEachM, e_forApp0, e_forApp1, e_AS, v_kFl, e_tpo, v_ixTp, fz_tp, e_idx, kIdA_f, v_idx, v_ltT, e_borS, e1, es, hp']) ⟨hs, _, _, _, _, rfl, rfl, rfl⟩
    · rw [hlen] at z
      exact ⟨z, _, _, _, _, z2⟩
  rcases key with ⟨ρ, e, hn, o1, o3, o4, o5, rfl⟩ | ⟨o, ρ, e, t, hn, rfl, o1, o3, o4, o5, rfl⟩
  · rw [hn, oO_none']
    simp (implicitDefEqProofs := false) (decide := true) (maxDischargeDepth := 9) [e_bnd, e_ret, e_opt, kO_s, kO_n, kO_i, kB_n, kB_o, kB_x, kB_i, e_val, kV_n, kV_o, kV_x, kV_i, e_seq, kS_n, kS_nx, kS_rt, kS_bk, kS_ct, kS_ex, kS_i, e_nil, e_pass, e_brk, e_cnt, e_sret, e_sretN, e_expr, e_if, e_set, e_par, e_par3, kP3_3, e_tgt, kTg_f, kTg_n, e_gN, e_gT, e_gs0, e_gs1, e_aug, kAg_i, e_app, kAp_l, e_item, e_for, e_forN, e_fn, kF_n, kF_nx, kF_rt, kF_ex, kF_i, e_outs0, e_outsT, e_outsF, e_K, e_Vf, e_Mf, e_bin, e_un, e_A0, e_A1, e_lst, e_tup, e_C, e_tV, kT_b, e_tAnd, e_tOr, e_tNot, e_xNot, kNt_b, e_xAnd, kAn_b, e_xOr, kOr_b, e_xIf, e_ch, kCh_i, kCz_i, e_is, e_Q, e_Rg1, e_Rg2, e_Sl, kSl_f, e_oN, e_oS, e_call, kA_rt, kA_ex, kA_n, kA_i, e_R0, e_Rv, e_Ri, e_callK, kCK_f, e_take0, e_takeV, e_takeI, e_put0, e_putV, e_putI, fz_f, fz_l, fzs_0, fzs_1, fzs_map, fzs_mapI, fzs_1l, e_b1, e_b2, e_b2g, e_bs, v_bn, v_add, v_sub, v_mul, v_div, v_mod, v_pow, v_neg, v_catNN, v_catFN, v_catNF, v_catFF, v_rep, v_lt, v_le, v_gt, v_ge, v_is, v_isN, v_isO, v_isNO, v_non, v_nonI, v_nonL, v_nonT, v_nonB, v_eqI, v_neI, v_eqS, v_neS, v_lenL, v_lenT, v_abs, v_max2, v_min2, v_min3, v_intsM, v_ints0, v_ints1, v_blsM, v_blsF, v_intsF, v_maxL, v_minL, v_sum, v_sort, v_all, v_any, v_int, v_intB, v_list, v_listT, v_tuple, v_kIsN, v_kIsI, v_kIsL, v_kIsT, v_kIsB, v_isInt, v_isBool, v_isLst, v_isTup, v_repr, v_reprE, v_at, v_atL, v_atN, v_ixT, v_ixL, v_ixN, e_qK, e_qV, v_gKd, v_gOs, v_gLs, v_gDs, v_gDsT, v_gF, v_gI, v_isNn, e_Vn', e_Mn', v_isNo1, v_isNo2, e_pV, e_qIxF, e_qIxN, e_qI, e_qB, e_get, kIt_l', v_ixLit, v_ix0, v_at0, v_at1, v_ix1, e_apply', e_eB, e_cK, e_cT1, e_cT2, e_cTb, e_wipe0, e_wipe1, e_back0, e_back1, v_bkF, v_bkNo, v_bkN, v_tY, v_Vg, v_atLast, v_ixS, v_setLast, v_fzSnoc, v_fzSnocC, v_LIM, v_fzF, v_fzC, v_fzFF, v_intsC, v_blsC, e_SrtSet, v_ss, e_tup2, kT2_2, v_minPI, v_minPP, v_isB, e_tBor, kTb_o, v_frzS_f, v_frzS_no, v_frzS_n, e_appP, e_clrP, v_appEach0, v_appEach1, v_appEachM, e_forApp0, e_forApp1, e_AS, v_kFl, e_tpo, v_ixTp, fz_tp, e_idx, kIdA_f, v_idx, v_ltT, e_borS, f__law_failing_b061, b__law_failing_b061, e]
  · rw [hn, oO_some']
    simp (implicitDefEqProofs := false) (decide := true) (maxDischargeDepth := 9) [e_bnd, e_ret, e_opt, kO_s, kO_n, kO_i, kB_n, kB_o, kB_x, kB_i, e_val, kV_n, kV_o, kV_x, kV_i, e_seq, kS_n, kS_nx, kS_rt, kS_bk, kS_ct, kS_ex, kS_i, e_nil, e_pass, e_brk, e_cnt, e_sret, e_sretN, e_expr, e_if, e_set, e_par, e_par3, kP3_3, e_tgt, kTg_f, kTg_n, e_gN, e_gT, e_gs0, e_gs1, e_aug, kAg_i, e_app, kAp_l, e_item, e_for, e_forN, e_fn, kF_n, kF_nx, kF_rt, kF_ex, kF_i, e_outs0, e_outsT, e_outsF, e_K, e_Vf, e_Mf, e_bin, e_un, e_A0, e_A1, e_lst, e_tup, e_C, e_tV, kT_b, e_tAnd, e_tOr, e_tNot, e_xNot, kNt_b, e_xAnd, kAn_b, e_xOr, kOr_b, e_xIf, e_ch, kCh_i, kCz_i, e_is, e_Q, e_Rg1, e_Rg2, e_Sl, kSl_f, e_oN, e_oS, e_call, kA_rt, kA_ex, kA_n, kA_i, e_R0, e_Rv, e_Ri, e_callK, kCK_f, e_take0, e_takeV, e_takeI, e_put0, e_putV, e_putI, fz_f, fz_l, fzs_0, fzs_1, fzs_map, fzs_mapI, fzs_1l, e_b1, e_b2, e_b2g, e_bs, v_bn, v_add, v_sub, v_mul, v_div, v_mod, v_pow, v_neg, v_catNN, v_catFN, v_catNF, v_catFF, v_rep, v_lt, v_le, v_gt, v_ge, v_is, v_isN, v_isO, v_isNO, v_non, v_nonI, v_nonL, v_nonT, v_nonB, v_eqI, v_neI, v_eqS, v_neS, v_lenL, v_lenT, v_abs, v_max2, v_min2, v_min3, v_intsM, v_ints0, v_ints1, v_blsM, v_blsF, v_intsF, v_maxL, v_minL, v_sum, v_sort, v_all, v_any, v_int, v_intB, v_list, v_listT, v_tuple, v_kIsN, v_kIsI, v_kIsL, v_kIsT, v_kIsB, v_isInt, v_isBool, v_isLst, v_isTup, v_repr, v_reprE, v_at, v_atL, v_atN, v_ixT, v_ixL, v_ixN, e_qK, e_qV, v_gKd, v_gOs, v_gLs, v_gDs, v_gDsT, v_gF, v_gI, v_isNn, e_Vn', e_Mn', v_isNo1, v_isNo2, e_pV, e_qIxF, e_qIxN, e_qI, e_qB, e_get, kIt_l', v_ixLit, v_ix0, v_at0, v_at1, v_ix1, e_apply', e_eB, e_cK, e_cT1, e_cT2, e_cTb, e_wipe0, e_wipe1, e_back0, e_back1, v_bkF, v_bkNo, v_bkN, v_tY, v_Vg, v_atLast, v_ixS, v_setLast, v_fzSnoc, v_fzSnocC, v_LIM, v_fzF, v_fzC, v_fzFF, v_intsC, v_blsC, e_SrtSet, v_ss, e_tup2, kT2_2, v_minPI, v_minPP, v_isB, e_tBor, kTb_o, v_frzS_f, v_frzS_no, v_frzS_n, e_appP, e_clrP, v_appEach0, v_appEach1, v_appEachM, e_forApp0, e_forApp1, e_AS, v_kFl, e_tpo, v_ixTp, fz_tp, e_idx, kIdA_f, v_idx, v_ltT, e_borS, f__law_failing_b061, b__law_failing_b061, e]
theorem oO_is {o : Option Int} : cIs (oO o) (.f .non) = some (.f (.bl (decide (o = none)))) := by cases o <;> rfl
end Ev
/-! lags and shares in parts of a slice -/
namespace Ev
open OW
open DL (Dt)
def gJ (l : List Int) (k : Nat) : Int := l.getD k 0
def rowJ : Option Nat → List Int
  | none => []
  | some r => [(r : Int)]
theorem zip_sumJ {f : Int → Int → Int} {ls ss : List Int} {m : Nat} (h1 : ls.length = m) (h2 : ss.length = m) : (List.zipWith f ls ss).sum = sumN m fun k => f (gJ ls k) (gJ ss k) := by
  unfold sumN
  congr 1
  refine List.ext_getElem? fun k => ?_
  by_cases hk : k < m
  · rw [List.getElem?_zipWith, List.getElem?_map, List.getElem?_range hk, getE_some (show k < ls.length by omega), getE_some (show k < ss.length by omega)]
    rfl
  · rw [List.getElem?_eq_none (by rw [List.length_zipWith]; omega), List.getElem?_eq_none (by rw [List.length_map, List.length_range]; omega)]
theorem list_sumJ {ss : List Int} {m : Nat} (h : ss.length = m) : ss.sum = sumN m (gJ ss) := by
  have := zip_sumJ (f := fun a _ => a) (ls := ss) (ss := ss) h h
  rw [← this]
  congr 1
  refine List.ext_getElem? fun k => ?_
  rw [List.getElem?_zipWith]
  cases ss[k]? <;> rfl
theorem step_nxtJ {w : Int} {P S : List Int} {r : Option Nat} {k : Nat} (hk : k < S.length) : gJ (stepB w S P (rowJ r)) k = nxtN w (gJ P) (gJ S) r k := by
  unfold gJ nxtN
  rw [List.getD_eq_getElem?_getD, stepB_get (getE_some hk)]
  show P.getD k 0 + S.getD k 0 - w * b2 ((k : Int) ∈ rowJ r) = _
  congr 2
  unfold b2
  cases r with
  | none => simp [rowJ]
  | some r =>
    by_cases e : r = k
    · subst e
      simp [rowJ]
    · have : ¬ ((k : Int) ∈ rowJ (some r)) := by
        simp only [rowJ, List.mem_singleton]
        omega
      rw [if_neg this, if_neg fun z => e (Option.some.inj z)]
/-! what can go on, in parts of a slice -/
/-- a base, and parts: lags times the period, shares times the base -/
def partJ (q : Int) (ls : List Int) : List Int := ls.map fun l => l * q
theorem partJ_get {q : Int} {ls : List Int} {k : Nat} : gJ (partJ q ls) k = gJ ls k * q := by
  unfold gJ partJ
  rw [List.getD_eq_getElem?_getD, List.getD_eq_getElem?_getD, List.getElem?_map]
  cases ls[k]? with
  | none => simp
  | some x => rfl
theorem partJ_len {q : Int} {ls : List Int} : (partJ q ls).length = ls.length := List.length_map ..
/-- more rounds are no more due -/
theorem nf_all {w q : Int} {m : Nat} {P S sh : Nat → Int} (w1 : 1 ≤ w) (q1 : 1 ≤ q) (s0 : ∀ k, k < m → 0 ≤ sh k) (hS : ∀ k, k < m → S k * q = sh k * w) (sm : sumN m sh ≤ q) (nf : ∀ t, 1 ≤ t → t ≤ q → DN w m P S t ≤ t) : ∀ n : Nat, 1 ≤ n → DN w m P S (n : Int) ≤ (n : Int) := by
  intro n
  induction n using Nat.strongRecOn with
  | _ n ih =>
    intro hn
    by_cases c : (n : Int) ≤ q
    · exact nf n (by omega) c
    · obtain ⟨t, ht⟩ : ∃ t : Nat, (n : Int) = (t : Int) + q := ⟨((n : Int) - q).toNat, by omega⟩
      have t1 : 1 ≤ t := by omega
      have a := ih t (by omega) t1
      have b : DN w m P S (n : Int) ≤ sumN m fun k => sh k + max 0 (dN w P S k t) := by
        refine sumN_le fun k hk => ?_
        have e : dN w P S k (n : Int) = dN w P S k t + sh k := by
          unfold dN
          rw [← d_more w1, ht]
          congr 1
          rw [Int.mul_add, hS k hk]
          omega
        have := s0 k hk
        rw [e]
        omega
      have c2 : sumN m (fun k => sh k + max 0 (dN w P S k t)) = sumN m sh + DN w m P S t := by
        unfold DN
        clear a b ih sm nf hS s0
        induction m with
        | zero => rfl
        | succ m ih2 =>
          rw [sumN_succ, sumN_succ, sumN_succ, ih2]
          omega
      rw [c2] at b
      omega
theorem dueL_J {b q t : Int} {ls ss : List Int} {m : Nat} (h1 : ls.length = m) (h2 : ss.length = m) : dueL b q t ls ss = DN (b * q) m (gJ (partJ q ls)) (gJ (partJ b ss)) t := by
  rw [← dueL_max]
  have e : (dues b q t ls ss).map (fun y => max 0 y) = List.zipWith (fun l s => max 0 ((l * q + s * b * t) / (b * q))) ls ss := by
    unfold dues
    rw [List.map_zipWith]
    congr 1
    funext l s
    unfold dueOf
    rw [Int.mul_assoc s t b, Int.mul_comm t b, ← Int.mul_assoc]
  rw [e, zip_sumJ h1 h2]
  unfold DN dN
  refine sumN_congr fun k hk => ?_
  rw [partJ_get, partJ_get]
theorem good_J {b q : Int} {ls ss : List Int} (k : ChOk b ls q ss) (hf : failS b q ls ss = none) : ShN (b * q) ls.length (gJ (partJ b ss)) ∧ GoodN (b * q) ls.length (gJ (partJ q ls)) (gJ (partJ b ss)) := by
  have b1 := k.b1
  have q1 := k.q1
  have w1 : 1 ≤ b * q := Int.mul_pos (by omega) (by omega)
  have sl := k.sl
  have g0 : ∀ j, j < ls.length → 0 ≤ gJ ss j := fun j hj => k.s0 _ (List.mem_of_getElem? (getE_some (by omega)))
  have sm : sumN ls.length (gJ ss) ≤ q := by rw [← list_sumJ sl]; exact k.sm
  refine ⟨⟨w1, fun j hj => ?_, ?_⟩, fun j hj => ?_, fun j hj => ?_, fun t t1 t2 => ?_⟩
  · rw [partJ_get]
    exact Int.mul_nonneg (g0 j hj) (by omega)
  · have e : sumN ls.length (gJ (partJ b ss)) = sumN ls.length (gJ ss) * b := by
      rw [← sumN_mulL]
      exact sumN_congr fun j hj => partJ_get
    rw [e, Int.mul_comm b q]
    exact Int.mul_le_mul_of_nonneg_right sm (by omega)
  · rw [partJ_get]
    have := k.lg _ (List.mem_of_getElem? (getE_some hj))
    have h : (-b + 1) * q ≤ gJ ls j * q := Int.mul_le_mul_of_nonneg_right (by unfold gJ; omega) (by omega)
    rw [Int.add_mul, Int.neg_mul, Int.one_mul] at h
    omega
  · rw [partJ_get]
    have := k.lg _ (List.mem_of_getElem? (getE_some hj))
    have h : gJ ls j * q ≤ (b - 1) * q := Int.mul_le_mul_of_nonneg_right (by unfold gJ; omega) (by omega)
    rw [Int.sub_mul, Int.one_mul] at h
    omega
  · have nf := (failS_none q1).mp hf
    obtain ⟨n, rfl⟩ : ∃ n : Nat, t = (n : Int) := ⟨t.toNat, by omega⟩
    exact nf_all w1 q1 g0 (fun j hj => by rw [partJ_get, Int.mul_assoc]) sm (fun t t1 t2 => by rw [← dueL_J rfl sl]; exact nf t t1 t2) n (by omega)
/-- the state of a run -/
structure StJ (w : Int) (S : List Int) (P : List Int) : Prop where
  len : P.length = S.length
  good : GoodN w S.length (gJ P) (gJ S)
theorem stJ_step {w : Int} {S P : List Int} {r : Option Nat} (sh : ShN w S.length (gJ S)) (k : StJ w S P) (p : PickN w S.length (gJ P) (gJ S) r) : StJ w S (stepB w S P (rowJ r)) := by
  have g := good_step sh k.good p
  refine ⟨stepB_len, fun j hj => ?_, fun j hj => ?_, fun t t1 t2 => ?_⟩
  · rw [step_nxtJ hj]; exact g.lo j hj
  · rw [step_nxtJ hj]; exact g.hi j hj
  · have e : DN w S.length (gJ (stepB w S P (rowJ r))) (gJ S) t = DN w S.length (nxtN w (gJ P) (gJ S) r) (gJ S) t := by
      unfold DN dN
      refine sumN_congr fun j hj => ?_
      rw [step_nxtJ hj]
    rw [e]
    exact g.nf t t1 t2
end Ev
/-! law k73: what some ticks lead to -/
namespace Ev
inductive Reach (w : Int) (S P : List Int) : Nat → List Int → Prop
  | zero : Reach w S P 0 P
  | step {n : Nat} {row : List Int} {r : Option Nat} (h : Reach w S P n row) (hr : ∀ x, r = some x → x < S.length) (lo : ∀ k, k < S.length → -w < gJ (stepB w S row (rowJ r)) k) (hi : ∀ k, k < S.length → gJ (stepB w S row (rowJ r)) k < w) : Reach w S P (n + 1) (stepB w S row (rowJ r))
section
variable {w : Int} {S P : List Int} {n : Nat} {row : List Int}
theorem reach_len (hP : P.length = S.length) (h : Reach w S P n row) : row.length = S.length := by
  cases h with
  | zero => exact hP
  | step h hr lo hi => exact stepB_len
theorem reach_cnt (h : Reach w S P n row) : ∃ c : Nat → Int, (∀ k, k < S.length → 0 ≤ c k ∧ gJ row k = gJ P k + gJ S k * n - w * c k) ∧ sumN S.length c ≤ n := by
  induction h with
  | zero =>
    refine ⟨fun _ => 0, fun k hk => ⟨Int.le_refl _, ?_⟩, ?_⟩
    · rw [Int.natCast_zero, Int.mul_zero, Int.mul_zero]
      omega
    · have : sumN S.length (fun _ => (0 : Int)) = 0 := by
        generalize S.length = m
        induction m with
        | zero => rfl
        | succ m ih => rw [sumN_succ, ih]; rfl
      rw [this]
      exact Int.le_refl _
  | @step n row r h hr lo hi ih =>
    obtain ⟨c, hc, sc⟩ := ih
    refine ⟨fun k => c k + (if r = some k then 1 else 0), fun k hk => ⟨?_, ?_⟩, ?_⟩
    · have := (hc k hk).1
      show 0 ≤ c k + (if r = some k then 1 else 0)
      split <;> omega
    · rw [step_nxtJ hk]
      unfold nxtN
      rw [(hc k hk).2]
      have e : ((n + 1 : Nat) : Int) = (n : Int) + 1 := rfl
      rw [e, Int.mul_add, Int.mul_add, Int.mul_one]
      omega
    · have e : ((n + 1 : Nat) : Int) = (n : Int) + 1 := rfl
      rw [e]
      cases r with
      | none =>
        have : sumN S.length (fun k => c k + (if (none : Option Nat) = some k then 1 else 0)) = sumN S.length c := sumN_congr fun k hk => by simp
        rw [this]
        omega
      | some x =>
        have := sumN_but (f := c) (g := fun k => c k + (if some x = some k then 1 else 0)) (c := 1) (hr x rfl) (fun k hk ne => by
          show c k + (if some x = some k then 1 else 0) = c k
          rw [if_neg fun z => ne (Option.some.inj z).symm]
          omega) (by
          show c x + (if some x = some x then 1 else 0) = c x + 1
          rw [if_pos rfl])
        rw [this]
        omega
theorem reach_bnd (h : Reach w S P n row) (hn : 1 ≤ n) : (∀ k, k < S.length → -w < gJ row k) ∧ ∀ k, k < S.length → gJ row k < w := by
  cases h with
  | zero => omega
  | step h hr lo hi => exact ⟨lo, hi⟩
theorem reach_due (w1 : 1 ≤ w) (h : Reach w S P n row) (hn : 1 ≤ n) : DN w S.length (gJ P) (gJ S) n ≤ n := by
  obtain ⟨c, hc, sc⟩ := reach_cnt h
  obtain ⟨_, hi⟩ := reach_bnd h hn
  refine Int.le_trans (sumN_le fun k hk => ?_) sc
  obtain ⟨c0, e⟩ := hc k hk
  have b := hi k hk
  have : dN w (gJ P) (gJ S) k n < c k + 1 := by
    unfold dN
    refine (Int.ediv_lt_iff_lt_mul (by omega)).mpr ?_
    rw [Int.add_mul, Int.one_mul, Int.mul_comm (c k) w]
    omega
  omega
theorem reach_all (w1 : 1 ≤ w) (h : Reach w S P n row) : ∀ t : Nat, 1 ≤ t → t ≤ n → DN w S.length (gJ P) (gJ S) t ≤ t := by
  induction h with
  | zero => intro t t1 t2; omega
  | @step n row r h hr lo hi ih =>
    intro t t1 t2
    by_cases e : t = n + 1
    · subst e
      exact reach_due w1 (.step h hr lo hi) t1
    · exact ih t t1 (by omega)
theorem reach_sign (w1 : 1 ≤ w) (hP : P.length = S.length) {a b : List Int} (ha : Reach w S P n a) (hb : Reach w S P n b) (hn : 1 ≤ n) (hs : ∀ k, k < S.length → (0 < gJ a k ↔ 0 < gJ b k)) : a = b := by
  obtain ⟨c, hc, _⟩ := reach_cnt ha
  obtain ⟨d, hd, _⟩ := reach_cnt hb
  obtain ⟨al, ah⟩ := reach_bnd ha hn
  obtain ⟨bl, bh⟩ := reach_bnd hb hn
  have key : ∀ k, k < S.length → gJ a k = gJ b k := fun k hk => by
    have e1 := (hc k hk).2
    have e2 := (hd k hk).2
    have s := hs k hk
    have a1 := al k hk
    have a2 := ah k hk
    have b1 := bl k hk
    have b2 := bh k hk
    have e : gJ a k = gJ b k + w * (d k - c k) := by rw [Int.mul_sub]; omega
    by_cases z : d k - c k = 0
    · rw [z, Int.mul_zero] at e
      omega
    · by_cases p : 1 ≤ d k - c k
      · have : w * 1 ≤ w * (d k - c k) := Int.mul_le_mul_of_nonneg_left p (by omega)
        omega
      · have : w * (d k - c k) ≤ w * (-1) := Int.mul_le_mul_of_nonneg_left (by omega) (by omega)
        omega
  have la := reach_len hP ha
  have lb := reach_len hP hb
  refine List.ext_getElem? fun k => ?_
  by_cases hk : k < S.length
  · have := key k hk
    unfold gJ at this
    rw [getE_some (show k < a.length by omega), getE_some (show k < b.length by omega), this]
  · rw [List.getElem?_eq_none (by omega), List.getElem?_eq_none (by omega)]
end
/-! rows of one moment are few -/
theorem nodup_len {α : Type} [DecidableEq α] : ∀ {l s : List α}, l.Nodup → (∀ x ∈ l, x ∈ s) → l.length ≤ s.length
  | [], s, _, _ => Nat.zero_le _
  | x :: l, s, nd, sub => by
    obtain ⟨h1, h2⟩ := List.nodup_cons.mp nd
    have hx := sub x List.mem_cons_self
    have := nodup_len (l := l) (s := s.erase x) h2 fun y hy => (List.mem_erase_of_ne (fun e => h1 (by rw [← e]; exact hy))).mpr (sub y (List.mem_cons_of_mem _ hy))
    rw [List.length_erase_of_mem hx] at this
    have : 0 < s.length := List.length_pos_of_mem hx
    rw [List.length_cons]
    omega
def allB : Nat → List (List Bool)
  | 0 => [[]]
  | m + 1 => (allB m).map (true :: ·) ++ (allB m).map (false :: ·)
theorem allB_len : ∀ m, (allB m).length = 2 ^ m
  | 0 => rfl
  | m + 1 => by
    show ((allB m).map (true :: ·) ++ (allB m).map (false :: ·)).length = _
    rw [List.length_append, List.length_map, List.length_map, allB_len m, Nat.pow_succ]
    omega
theorem allB_mem : ∀ {m : Nat} {l : List Bool}, l.length = m → l ∈ allB m
  | 0, [], _ => List.mem_singleton.mpr rfl
  | m + 1, b :: l, h => by
    show _ ∈ (allB m).map (true :: ·) ++ (allB m).map (false :: ·)
    have := allB_mem (m := m) (l := l) (by simpa using h)
    cases b with
    | true => exact List.mem_append_left _ (List.mem_map.mpr ⟨l, this, rfl⟩)
    | false => exact List.mem_append_right _ (List.mem_map.mpr ⟨l, this, rfl⟩)
def keyJ (m : Nat) (row : List Int) : List Bool := (List.range m).map fun k => decide (0 < gJ row k)
theorem rows_few {w : Int} {S P : List Int} {n : Nat} {rows : List (List Int)} (w1 : 1 ≤ w) (hP : P.length = S.length) (hn : 1 ≤ n) (nd : rows.Nodup) (h : ∀ r ∈ rows, Reach w S P n r) : rows.length ≤ 2 ^ S.length := by
  have nd2 : (rows.map (keyJ S.length)).Nodup := by
    unfold List.Nodup at nd ⊢
    rw [List.pairwise_map]
    refine nd.imp_of_mem fun {a b} ha hb ne e => ne ?_
    refine reach_sign w1 hP (h a ha) (h b hb) hn fun k hk => ?_
    have := congrArg (fun l : List Bool => l[k]?) e
    unfold keyJ at this
    simp only [List.getElem?_map, List.getElem?_range hk, Option.map_some, Option.some.injEq, decide_eq_decide] at this
    exact this
  have := nodup_len nd2 (s := allB S.length) fun x hx => by
    obtain ⟨r, _, rfl⟩ := List.mem_map.mp hx
    exact allB_mem (by unfold keyJ; rw [List.length_map, List.length_range])
  rwa [List.length_map, allB_len] at this
/-- there is one to run -/
theorem pick_ex {w : Int} {m : Nat} {l s : Nat → Int} : ∃ r, PickN w m l s r := by
  have key : ∀ j : Nat, (∀ k, k < j → ¬ eligN l s k) ∨ ∃ r, r < j ∧ eligN l s r ∧ ∀ k, k < j → eligN l s k → endN w l s r ≤ endN w l s k := by
    intro j
    induction j with
    | zero => exact .inl fun k hk => by omega
    | succ j ih =>
      by_cases e : eligN l s j
      · rcases ih with h | ⟨r, hr, er, h⟩
        · refine .inr ⟨j, by omega, e, fun k hk ek => ?_⟩
          by_cases c : k = j
          · subst c; exact Int.le_refl _
          · exact (h k (by omega) ek).elim
        · by_cases c : endN w l s r ≤ endN w l s j
          · refine .inr ⟨r, by omega, er, fun k hk ek => ?_⟩
            by_cases c2 : k = j
            · subst c2; exact c
            · exact h k (by omega) ek
          · refine .inr ⟨j, by omega, e, fun k hk ek => ?_⟩
            by_cases c2 : k = j
            · subst c2; exact Int.le_refl _
            · have := h k (by omega) ek
              omega
      · rcases ih with h | ⟨r, hr, er, h⟩
        · refine .inl fun k hk ek => ?_
          by_cases c : k = j
          · subst c; exact e ek
          · exact h k (by omega) ek
        · refine .inr ⟨r, by omega, er, fun k hk ek => ?_⟩
          by_cases c2 : k = j
          · subst c2; exact (e ek).elim
          · exact h k (by omega) ek
  rcases key m with h | ⟨r, hr, er, h⟩
  · exact ⟨none, h⟩
  · exact ⟨some r, hr, er, h⟩
end Ev
/-! one processor, windows by their ends: what is due up to any later moment keeps to the ticks that are left -/
namespace Ev
/-- slices due by T and not yet run -/
def dem (q T : Int) : List Int → List Int → Int
  | s :: ss, n :: ns => max 0 (s * T / q - n) + dem q T ss ns
  | _, _ => 0
def Inv (q t : Int) (ss ns : List Int) : Prop := ∀ T, t ≤ T → dem q T ss ns ≤ T - t
theorem dem_nn {q T : Int} : ∀ {ss ns : List Int}, 0 ≤ dem q T ss ns
  | [], ns => by unfold dem; exact Int.le_refl _
  | s :: ss, [] => by unfold dem; exact Int.le_refl _
  | s :: ss, n :: ns => by
    have := dem_nn (q := q) (T := T) (ss := ss) (ns := ns)
    unfold dem
    omega
/-- so none is late -/
theorem dem_at {q T : Int} : ∀ {ss ns : List Int} {i : Nat} {s n : Int}, ss[i]? = some s → ns[i]? = some n → s * T / q - n ≤ dem q T ss ns
  | [], _, _, _, _, h, _ => by simp at h
  | _ :: _, [], _, _, _, _, h => by simp at h
  | s :: ss, n :: ns, 0, s', n', h1, h2 => by
    cases h1
    cases h2
    have := dem_nn (q := q) (T := T) (ss := ss) (ns := ns)
    show _ ≤ max 0 (s * T / q - n) + dem q T ss ns
    omega
  | s :: ss, n :: ns, i + 1, s', n', h1, h2 => by
    have := dem_at (q := q) (T := T) (ss := ss) (ns := ns) (i := i) h1 h2
    show _ ≤ max 0 (s * T / q - n) + dem q T ss ns
    omega
theorem inv_lag {q t : Int} {ss ns : List Int} {i : Nat} {s n : Int} (hq : 0 < q) (h : Inv q t ss ns) (h1 : ss[i]? = some s) (h2 : ns[i]? = some n) : s * t - q * n < q := by
  have a := h t (Int.le_refl _)
  have b := dem_at (q := q) (T := t) h1 h2
  have c := div_hi (s * t) hq
  have d : s * t / q ≤ n := by omega
  have e : s * t / q * q ≤ n * q := Int.mul_le_mul_of_nonneg_right d (by omega)
  rw [Int.mul_comm q n]
  omega
end Ev
/-! running by first ends on one processor: rows, lines, and that no lag leaves the bounds -/
namespace Ev
open OW
open DL (Dt)
/-- the state at a moment: rows tell counts, and what is due fits -/
structure EdSt (q t : Int) (ss row : List Int) : Prop where
  len : row.length = ss.length
  lo : ∀ (k : Nat) (s : Int), ss[k]? = some s → -q < row.getD k 0
  ex : ∃ ns : List Int, ns.length = ss.length ∧ Inv q t ss ns ∧ ∀ (k : Nat) (s n : Int), ss[k]? = some s → ns[k]? = some n → row.getD k 0 = s * t - q * n
theorem EdSt.hi {q t : Int} {ss row : List Int} (hq : 0 < q) (h : EdSt q t ss row) {k : Nat} {s : Int} (hs : ss[k]? = some s) : row.getD k 0 < q := by
  obtain ⟨ns, h1, h2, h3⟩ := h.ex
  have hk := (List.getElem?_eq_some_iff.mp hs).1
  have hn : ns[k]? = some ns[k] := List.getElem?_eq_getElem (by omega)
  rw [h3 k s _ hs hn]
  exact inv_lag hq h2 hs hn
theorem EdSt.all {q t : Int} {ss row : List Int} (hq : 0 < q) (h : EdSt q t ss row) : ∀ x ∈ row, -q < x ∧ x < q := fun x hx => by
  obtain ⟨k, hk⟩ := List.getElem?_of_mem hx
  have hk' := (List.getElem?_eq_some_iff.mp hk).1
  have hs : ss[k]? = some (ss[k]'(by have := h.len; omega)) := List.getElem?_eq_getElem _
  have e : row.getD k 0 = x := by rw [List.getD_eq_getElem?_getD, hk]; rfl
  exact ⟨e ▸ h.lo k _ hs, e ▸ h.hi hq hs⟩
/-! full loads: one runs in each tick; the rests -/
end Ev
namespace Ev
open OW
open DL (Dt)
theorem ok_rows {ls : List (List Int)} : eqOk (.lst (ls.map rowD)) = true := by
  have p : DL.Dt.plainAll (ls.map rowD) = true := by
    induction ls with
    | nil => rfl
    | cons n ls ih =>
      show (DL.Dt.plainAll (n.map .int) && DL.Dt.plainAll (ls.map rowD)) = true
      rw [ih, plainAll_ints]
      rfl
  have q : PySem.PyData.canLayAll0 (DL.Dt.pyAll (ls.map rowD)) = true := by
    clear p
    induction ls with
    | nil => simp [DL.Dt.pyAll, PySem.PyData.canLayAll0]
    | cons n ls ih =>
      have := canLayL_ints n
      rw [List.map_cons]
      unfold rowD at ih ⊢
      simp only [DL.Dt.pyAll, PySem.PyData.canLayAll0, ih, this, Bool.and_true, Bool.and_self]
  have r : DL.Dt.dep (.lst (ls.map rowD)) ≤ 2 := by
    show DL.Dt.depA _ + 1 ≤ 2
    have : DL.Dt.depA (ls.map rowD) ≤ 1 := by
      clear p q
      induction ls with
      | nil => exact Nat.zero_le _
      | cons n ls ih =>
        show max (DL.Dt.depA (n.map .int) + 1) (DL.Dt.depA (ls.map rowD)) ≤ 1
        rw [DL.dep_ints]
        omega
    omega
  unfold eqOk PySem.SeqAt.shaped
  rw [DL.dep_py]
  have e : (Dt.lst (ls.map rowD)).py.canLay0 = true := by
    rw [DL.Dt.py, PySem.PyData.canLay0]
    exact q
  rw [e, decide_eq_true (show (Dt.lst (ls.map rowD)).dep ≤ 64 by omega)]
  show (DL.Dt.plainAll _ && _) = true
  rw [p]
  rfl
end Ev
/-! law k73: going along with all lists of lags -/
namespace Ev
open OW
open DL (Dt)
theorem deq_intsI {a b : List Int} : deq (.lst (a.map .int)) (.lst (b.map .int)) = decide (a = b) := by
  have key : ∀ (a b : List Int), PySem.PyData.eqvAll (Dt.pyAll (a.map .int)) (Dt.pyAll (b.map .int)) = decide (a = b) := by
    intro a
    induction a with
    | nil =>
      intro b
      cases b with
      | nil => simp [Dt.pyAll, PySem.PyData.eqvAll]
      | cons y b => simp [Dt.pyAll, PySem.PyData.eqvAll]
    | cons x a ih =>
      intro b
      cases b with
      | nil => simp [Dt.pyAll, PySem.PyData.eqvAll]
      | cons y b =>
        have e := deqI (a := x) (b := y)
        unfold deq at e
        show (PySem.PyData.eqv (Dt.int x).py (Dt.int y).py && PySem.PyData.eqvAll (Dt.pyAll (a.map .int)) (Dt.pyAll (b.map .int))) = _
        rw [e, ih b, Bool.eq_iff_iff]
        simp
  show PySem.PyData.eqvAll (Dt.pyAll (a.map .int)) (Dt.pyAll (b.map .int)) = _
  exact key a b
theorem ne_nilI {ls : List (List Int)} : cNe (.f (.lst (ls.map rowD))) (.n .lst []) = some (.f (.bl (!decide (ls = [])))) := by
  have e2 : frz (.n .lst []) = some (.lst []) := rfl
  have e3 : deq (.lst (ls.map rowD)) (.lst []) = decide (ls = []) := by
    unfold deq
    cases ls with
    | nil => simp [DL.Dt.py, DL.Dt.pyAll, PySem.PyData.eqv, PySem.PyData.eqvAll]
    | cons n ls => simp [DL.Dt.py, DL.Dt.pyAll, PySem.PyData.eqv, PySem.PyData.eqvAll]
  unfold cNe
  rw [e_b2g fz_f e2]
  show (if eqOk (.lst (ls.map rowD)) = true ∧ eqOk (.lst []) = true then some (Ow.f (.bl (!deq (.lst (ls.map rowD)) (.lst [])))) else none) = _
  rw [if_pos ⟨ok_rows, ok_ints (ns := [])⟩, e3]
theorem dIn_rows {x : List Int} {l : List (List Int)} : dIn (rowD x) (l.map rowD) = decide (x ∈ l) := by
  unfold dIn
  induction l with
  | nil => simp
  | cons a l ih =>
    rw [List.map_cons, List.any_cons, ih]
    have e : deq (rowD a) (rowD x) = decide (a = x) := deq_intsI
    rw [e, Bool.eq_iff_iff]
    simp only [Bool.or_eq_true, decide_eq_true_eq, List.mem_cons]
    constructor
    · rintro (h | h)
      · exact .inl h.symm
      · exact .inr h
    · rintro (h | h)
      · exact .inl h.symm
      · exact .inr h
theorem ni_rows {x : List Int} {l : List (List Int)} : cNi (.f (rowD x)) (.f (.lst (l.map rowD))) = some (.f (.bl (!decide (x ∈ l)))) := by
  unfold cNi cIn'
  rw [e_b2]
  show (if eqOk (rowD x) = true ∧ eqOk (.lst (l.map rowD)) = true then _ else none) = _
  rw [if_pos ⟨ok_ints, ok_rows⟩]
  show some (Ow.f (.bl (if true = true then !dIn (rowD x) (l.map rowD) else _))) = _
  rw [if_pos rfl, dIn_rows]
theorem lns_fz {l : List (List Int)} : frzs (l.map fun r => Ow.f (rowD r)) = some (l.map rowD) := v_fzF
section
variable {b q w : Int} {ls ss here : List Int}
def rI (j : Nat) : Option Nat := if j = 0 then none else some (j - 1)
theorem eq_rI {j k : Nat} : cEq (.f (.int (k : Int))) (.f (.int (-1 + (j : Int)))) = some (.f (.bl (decide (rI j = some k)))) := by
  rw [v_eqI]
  congr 3
  unfold rI
  by_cases h : j = 0
  · subst h
    rw [if_pos rfl, decide_eq_false (show ¬ (k : Int) = -1 + ((0 : Nat) : Int) by omega)]
    rfl
  · rw [if_neg h]
    simp only [Option.some.injEq]
    by_cases e : (k : Int) = -1 + (j : Int)
    · rw [decide_eq_true e, decide_eq_true (show j - 1 = k by omega)]
    · rw [decide_eq_false e, decide_eq_false (show ¬ j - 1 = k by omega)]
theorem can_x1 {j : Nat} {o1 o2 o5 o6 o7 o10 : Ow} (hl : here.length = ss.length) (l2 : ss.length ≤ 12) (zw : Sz 300 w) (zb : Sz 150 b) (zs : ∀ s ∈ ss, Sz 64 s) :
    x1__law_can_fe40 [.f (.int b), o1, o2, .f (.lst (ss.map .int)), .f (.int w), o5, o6, o7, .f (rowD here), .f (.int (-1 + (j : Int))), o10, .no, .no, .no] = some (.ok (.n .lst ((stepB w (partJ b ss) here (rowJ (rI j))).map fun x => .f (.int x))) [.f (.int b), o1, o2, .f (.lst (ss.map .int)), .f (.int w), o5, o6, o7, .f (rowD here), .f (.int (-1 + (j : Int))), o10, .no, .no, .no]) := by
  have er : (stepB w (partJ b ss) here (rowJ (rI j))).map (fun x => Ow.f (.int x)) = ss.zipIdx.map fun x => Ow.f (.int (here.getD x.2 0 + x.1 * b - w * (if rI j = some x.2 then 1 else 0))) := by
    refine List.ext_getElem? fun i => ?_
    by_cases hi : i < ss.length
    · have hp : (partJ b ss)[i]? = some (ss[i] * b) := by
        unfold partJ
        rw [List.getElem?_map, List.getElem?_eq_getElem hi]
        rfl
      rw [List.getElem?_map, stepB_get hp, List.getElem?_map, List.getElem?_zipIdx, List.getElem?_eq_getElem hi]
      simp only [Option.map_some, Nat.zero_add]
      congr 4
      unfold b2
      cases rI j with
      | none => simp [rowJ]
      | some r =>
        by_cases e : r = i
        · subst e; simp [rowJ]
        · have : ¬ ((i : Int) ∈ rowJ (some r)) := by
            simp only [rowJ, List.mem_singleton]
            omega
          rw [if_neg this, if_neg fun z => e (Option.some.inj z)]
    · rw [List.getElem?_eq_none (by rw [List.length_map, stepB_len, partJ_len]; omega), List.getElem?_eq_none (by rw [List.length_map, List.length_zipIdx]; omega)]
  rw [er]
  unfold x1__law_can_fe40
  refine comp_mapT (l := ss.zipIdx) (g := fun x => .tup [.int (x.2 : Int), .int x.1]) (ds := DL.enum (ss.map .int)) (iE_f (o := .f (.lst (ss.map .int))) (ds := ss.map .int) (ρ1 := [.f (.int b), o1, o2, .f (.lst (ss.map .int)), .f (.int w), o5, o6, o7, .f (rowD here), .f (.int (-1 + (j : Int))), o10, .no, .no, .no]) (by
    generalize ss.map Dt.int = A
    generalize rowD here = B
    simp (implicitDefEqProofs := false) (decide := true) (maxDischargeDepth := 9) [e_bnd, e_ret, e_opt, kO_s, kO_n, kO_i, kB_n, kB_o, kB_x, kB_i, e_val, kV_n, kV_o, kV_x, kV_i, e_seq, kS_n, kS_nx, kS_rt, kS_bk, kS_ct, kS_ex, kS_i, e_nil, e_pass, e_brk, e_cnt, e_sret, e_sretN, e_expr, e_if, e_set, e_par, e_par3, kP3_3, e_tgt, kTg_f, kTg_n, e_gN, e_gT, e_gs0, e_gs1, e_aug, kAg_i, e_app, kAp_l, e_item, e_for, e_forN, e_fn, kF_n, kF_nx, kF_rt, kF_ex, kF_i, e_outs0, e_outsT, e_outsF, e_K, e_Vf, e_Mf, e_bin, e_un, e_A0, e_A1, e_lst, e_tup, e_C, e_tV, kT_b, e_tAnd, e_tOr, e_tNot, e_xNot, kNt_b, e_xAnd, kAn_b, e_xOr, kOr_b, e_xIf, e_ch, kCh_i, kCz_i, e_is, e_Q, e_Rg1, e_Rg2, e_Sl, kSl_f, e_oN, e_oS, e_call, kA_rt, kA_ex, kA_n, kA_i, e_R0, e_Rv, e_Ri, e_callK, kCK_f, e_take0, e_takeV, e_takeI, e_put0, e_putV, e_putI, fz_f, fz_l, fzs_0, fzs_1, fzs_map, fzs_mapI, fzs_1l, e_b1, e_b2, e_b2g, e_bs, v_bn, v_add, v_sub, v_mul, v_div, v_mod, v_pow, v_neg, v_catNN, v_catFN, v_catNF, v_catFF, v_rep, v_lt, v_le, v_gt, v_ge, v_is, v_isN, v_isO, v_isNO, v_non, v_nonI, v_nonL, v_nonT, v_nonB, v_eqI, v_neI, v_eqS, v_neS, v_lenL, v_lenT, v_abs, v_max2, v_min2, v_min3, v_intsM, v_ints0, v_ints1, v_blsM, v_blsF, v_intsF, v_maxL, v_minL, v_sum, v_sort, v_all, v_any, v_int, v_intB, v_list, v_listT, v_tuple, v_kIsN, v_kIsI, v_kIsL, v_kIsT, v_kIsB, v_isInt, v_isBool, v_isLst, v_isTup, v_repr, v_reprE, v_at, v_atL, v_atN, v_ixT, v_ixL, v_ixN, e_qK, e_qV, v_gKd, v_gOs, v_gLs, v_gDs, v_gDsT, v_gF, v_gI, v_isNn, e_Vn', e_Mn', v_isNo1, v_isNo2, e_pV, e_qIxF, e_qIxN, e_qI, e_qB, e_get, kIt_l', v_ixLit, v_ix0, v_at0, v_at1, v_ix1, e_apply', e_eB, e_cK, e_cT1, e_cT2, e_cTb, e_wipe0, e_wipe1, e_back0, e_back1, v_bkF, v_bkNo, v_bkN, v_tY, v_Vg, v_atLast, v_ixS, v_setLast, v_fzSnoc, v_fzSnocC, v_LIM, v_fzF, v_fzC, v_fzFF, v_intsC, v_blsC, e_SrtSet, v_ss, e_tup2, kT2_2, v_minPI, v_minPP, v_isB, e_tBor, kTb_o, v_frzS_f, v_frzS_no, v_frzS_n, e_appP, e_clrP, v_appEach0, v_appEach1, v_appEachM, e_forApp0, e_forApp1, e_AS, v_kFl, e_tpo, v_ixTp, fz_tp, e_idx, kIdA_f, v_idx, v_ltT, e_borS, ]) rfl) enum_map (by rw [List.length_zipIdx]; unfold LIM; omega) fun x hx => ?_
  obtain ⟨hx1, hx2⟩ := zipIdx_at hx
  have ei := e_ixRow (ρ := [.f (.int b), o1, o2, .f (.lst (ss.map .int)), .f (.int w), o5, o6, o7, .f (rowD here), .f (.int (-1 + (j : Int))), o10, .no, .f (.int x.2), .f (.int x.1)]) (n := 8) (q := qV 12) (k := x.2) rfl (.inl rfl) rfl (by omega)
  have ec := eq_rI (j := j) (k := x.2)
  haveI := zs x.1 (List.mem_of_getElem? hx1)
  have bx : Bn x.1 = true := bn_sz (n := 64) (by decide)
  have bb : Bn b = true := bn_sz (n := 150) (by decide)
  have bw : Bn w = true := bn_sz (n := 300) (by decide)
  clear er hx hx1 hx2
  generalize here.getD x.2 0 = Y at *
  generalize -1 + (j : Int) = JJ at *
  by_cases e : rI j = some x.2
  · rw [decide_eq_true e] at ec
    rw [if_pos e]
    clear e
    generalize rowD here = B at *
    generalize ss.map Dt.int = A at *
    generalize (x.2 : Int) = J at *
    generalize x.1 = Z at *
    simp (implicitDefEqProofs := false) (decide := true) (maxDischargeDepth := 9) [e_bnd, e_ret, e_opt, kO_s, kO_n, kO_i, kB_n, kB_o, kB_x, kB_i, e_val, kV_n, kV_o, kV_x, kV_i, e_seq, kS_n, kS_nx, kS_rt, kS_bk, kS_ct, kS_ex, kS_i, e_nil, e_pass, e_brk, e_cnt, e_sret, e_sretN, e_expr, e_if, e_set, e_par, e_par3, kP3_3, e_tgt, kTg_f, kTg_n, e_gN, e_gT, e_gs0, e_gs1, e_aug, kAg_i, e_app, kAp_l, e_item, e_for, e_forN, e_fn, kF_n, kF_nx, kF_rt, kF_ex, kF_i, e_outs0, e_outsT, e_outsF, e_K, e_Vf, e_Mf, e_bin, e_un, e_A0, e_A1, e_lst, e_tup, e_C, e_tV, kT_b, e_tAnd, e_tOr, e_tNot, e_xNot, kNt_b, e_xAnd, kAn_b, e_xOr, kOr_b, e_xIf, e_ch, kCh_i, kCz_i, e_is, e_Q, e_Rg1, e_Rg2, e_Sl, kSl_f, e_oN, e_oS, e_call, kA_rt, kA_ex, kA_n, kA_i, e_R0, e_Rv, e_Ri, e_callK, kCK_f, e_take0, e_takeV, e_takeI, e_put0, e_putV, e_putI, fz_f, fz_l, fzs_0, fzs_1, fzs_map, fzs_mapI, fzs_1l, e_b1, e_b2, e_b2g, e_bs, v_bn, v_add, v_sub, v_mul, v_div, v_mod, v_pow, v_neg, v_catNN, v_catFN, v_catNF, v_catFF, v_rep, v_lt, v_le, v_gt, v_ge, v_is, v_isN, v_isO, v_isNO, v_non, v_nonI, v_nonL, v_nonT, v_nonB, v_eqI, v_neI, v_eqS, v_neS, v_lenL, v_lenT, v_abs, v_max2, v_min2, v_min3, v_intsM, v_ints0, v_ints1, v_blsM, v_blsF, v_intsF, v_maxL, v_minL, v_sum, v_sort, v_all, v_any, v_int, v_intB, v_list, v_listT, v_tuple, v_kIsN, v_kIsI, v_kIsL, v_kIsT, v_kIsB, v_isInt, v_isBool, v_isLst, v_isTup, v_repr, v_reprE, v_at, v_atL, v_atN, v_ixT, v_ixL, v_ixN, e_qK, e_qV, v_gKd, v_gOs, v_gLs, v_gDs, v_gDsT, v_gF, v_gI, v_isNn, e_Vn', e_Mn', v_isNo1, v_isNo2, e_pV, e_qIxF, e_qIxN, e_qI, e_qB, e_get, kIt_l', v_ixLit, v_ix0, v_at0, v_at1, v_ix1, e_apply', e_eB, e_cK, e_cT1, e_cT2, e_cTb, e_wipe0, e_wipe1, e_back0, e_back1, v_bkF, v_bkNo, v_bkN, v_tY, v_Vg, v_atLast, v_ixS, v_setLast, v_fzSnoc, v_fzSnocC, v_LIM, v_fzF, v_fzC, v_fzFF, v_intsC, v_blsC, e_SrtSet, v_ss, e_tup2, kT2_2, v_minPI, v_minPP, v_isB, e_tBor, kTb_o, v_frzS_f, v_frzS_no, v_frzS_n, e_appP, e_clrP, v_appEach0, v_appEach1, v_appEachM, e_forApp0, e_forApp1, e_AS, v_kFl, e_tpo, v_ixTp, fz_tp, e_idx, kIdA_f, v_idx, v_ltT, e_borS, ei, ec, bx, bb, bw, show Bn 1 = true from bn_sz (by decide)]
  · rw [decide_eq_false e] at ec
    rw [if_neg e]
    clear e
    generalize rowD here = B at *
    generalize ss.map Dt.int = A at *
    generalize (x.2 : Int) = J at *
    generalize x.1 = Z at *
    simp (implicitDefEqProofs := false) (decide := true) (maxDischargeDepth := 9) [e_bnd, e_ret, e_opt, kO_s, kO_n, kO_i, kB_n, kB_o, kB_x, kB_i, e_val, kV_n, kV_o, kV_x, kV_i, e_seq, kS_n, kS_nx, kS_rt, kS_bk, kS_ct, kS_ex, kS_i, e_nil, e_pass, e_brk, e_cnt, e_sret, e_sretN, e_expr, e_if, e_set, e_par, e_par3, kP3_3, e_tgt, kTg_f, kTg_n, e_gN, e_gT, e_gs0, e_gs1, e_aug, kAg_i, e_app, kAp_l, e_item, e_for, e_forN, e_fn, kF_n, kF_nx, kF_rt, kF_ex, kF_i, e_outs0, e_outsT, e_outsF, e_K, e_Vf, e_Mf, e_bin, e_un, e_A0, e_A1, e_lst, e_tup, e_C, e_tV, kT_b, e_tAnd, e_tOr, e_tNot, e_xNot, kNt_b, e_xAnd, kAn_b, e_xOr, kOr_b, e_xIf, e_ch, kCh_i, kCz_i, e_is, e_Q, e_Rg1, e_Rg2, e_Sl, kSl_f, e_oN, e_oS, e_call, kA_rt, kA_ex, kA_n, kA_i, e_R0, e_Rv, e_Ri, e_callK, kCK_f, e_take0, e_takeV, e_takeI, e_put0, e_putV, e_putI, fz_f, fz_l, fzs_0, fzs_1, fzs_map, fzs_mapI, fzs_1l, e_b1, e_b2, e_b2g, e_bs, v_bn, v_add, v_sub, v_mul, v_div, v_mod, v_pow, v_neg, v_catNN, v_catFN, v_catNF, v_catFF, v_rep, v_lt, v_le, v_gt, v_ge, v_is, v_isN, v_isO, v_isNO, v_non, v_nonI, v_nonL, v_nonT, v_nonB, v_eqI, v_neI, v_eqS, v_neS, v_lenL, v_lenT, v_abs, v_max2, v_min2, v_min3, v_intsM, v_ints0, v_ints1, v_blsM, v_blsF, v_intsF, v_maxL, v_minL, v_sum, v_sort, v_all, v_any, v_int, v_intB, v_list, v_listT, v_tuple, v_kIsN, v_kIsI, v_kIsL, v_kIsT, v_kIsB, v_isInt, v_isBool, v_isLst, v_isTup, v_repr, v_reprE, v_at, v_atL, v_atN, v_ixT, v_ixL, v_ixN, e_qK, e_qV, v_gKd, v_gOs, v_gLs, v_gDs, v_gDsT, v_gF, v_gI, v_isNn, e_Vn', e_Mn', v_isNo1, v_isNo2, e_pV, e_qIxF, e_qIxN, e_qI, e_qB, e_get, kIt_l', v_ixLit, v_ix0, v_at0, v_at1, v_ix1, e_apply', e_eB, e_cK, e_cT1, e_cT2, e_cTb, e_wipe0, e_wipe1, e_back0, e_back1, v_bkF, v_bkNo, v_bkN, v_tY, v_Vg, v_atLast, v_ixS, v_setLast, v_fzSnoc, v_fzSnocC, v_LIM, v_fzF, v_fzC, v_fzFF, v_intsC, v_blsC, e_SrtSet, v_ss, e_tup2, kT2_2, v_minPI, v_minPP, v_isB, e_tBor, kTb_o, v_frzS_f, v_frzS_no, v_frzS_n, e_appP, e_clrP, v_appEach0, v_appEach1, v_appEachM, e_forApp0, e_forApp1, e_AS, v_kFl, e_tpo, v_ixTp, fz_tp, e_idx, kIdA_f, v_idx, v_ltT, e_borS, ei, ec, bx, bb, bw, show Bn 0 = true from bn_sz (by decide)]
/-- within bounds -/
def InB (w : Int) (m : Nat) (row : List Int) : Prop := (∀ k, k < m → -w < gJ row k) ∧ ∀ k, k < m → gJ row k < w
theorem inB_iff {row : List Int} {m : Nat} (hl : row.length = m) (hm : 1 ≤ m) : InB w m row ↔ (-w < lst' row ∧ gst row < w) := by
  have nz : row ≠ [] := fun z => by rw [z] at hl; have : ([] : List Int).length = 0 := rfl; omega
  have at_ : ∀ {x : Int}, x ∈ row → ∃ k, k < m ∧ gJ row k = x := fun {x} hx => by
    obtain ⟨i, hi1, hi2⟩ := List.getElem_of_mem hx
    refine ⟨i, by omega, ?_⟩
    unfold gJ
    rw [List.getD_eq_getElem?_getD, List.getElem?_eq_getElem hi1]
    exact hi2
  have in_ : ∀ {k : Nat}, k < m → gJ row k ∈ row := fun {k} hk => List.mem_of_getElem? (getE_some (by omega))
  constructor
  · rintro ⟨lo, hi⟩
    obtain ⟨i, hi1, hi2⟩ := at_ (lst_mem nz)
    obtain ⟨j, hj1, hj2⟩ := at_ (gst_mem nz)
    have a := lo i hi1
    have b := hi j hj1
    omega
  · rintro ⟨lo, hi⟩
    refine ⟨fun k hk => ?_, fun k hk => ?_⟩
    · have := lst_le (in_ hk)
      omega
    · have := gst_le (in_ hk)
      omega
/-- all that one row leads to -/
theorem can_l1 {S P : List Int} {n : Nat} {L : List (List Int)} {o1 o2 o5 o6 o9 o10 : Ow} (w1 : 1 ≤ w) (hS : S = partJ b ss) (hP : P.length = S.length) (rh : Reach w S P n here) (l1 : 1 ≤ ss.length) (l2 : ss.length ≤ 3) (zw : Sz 300 w) (zb : Sz 150 b) (zs : ∀ s ∈ ss, Sz 64 s) (nd : L.Nodup) (hL : ∀ x ∈ L, Reach w S P (n + 1) x) :
    ∃ ρ, l1__law_can_fe40 [.f (.int b), o1, o2, .f (.lst (ss.map .int)), .f (.int w), o5, o6, .n .lst (L.map fun r => .f (rowD r)), .f (rowD here), o9, o10, .no, .no, .no] = some (.nx ρ) ∧
      ∃ (L2 : List (List Int)) (o9 o10 : Ow), L2.Nodup ∧ (∀ x ∈ L2, Reach w S P (n + 1) x) ∧ (∀ x ∈ L, x ∈ L2) ∧ (∀ r : Option Nat, (∀ x, r = some x → x < S.length) → InB w S.length (stepB w S here (rowJ r)) → stepB w S here (rowJ r) ∈ L2) ∧
        ρ = [.f (.int b), o1, o2, .f (.lst (ss.map .int)), .f (.int w), o5, o6, .n .lst (L2.map fun r => .f (rowD r)), .f (rowD here), o9, o10, .no, .no, .no] := by
  have lS : S.length = ss.length := by rw [hS, partJ_len]
  have lh : here.length = ss.length := by rw [reach_len hP rh, lS]
  refine wp_nx ?_
  unfold l1__law_can_fe40
  rw [e_for, iR2_f (m := -1) (n := (ss.length : Int)) (ρ1 := [.f (.int b), o1, o2, .f (.lst (ss.map .int)), .f (.int w), o5, o6, .n .lst (L.map fun r => .f (rowD r)), .f (rowD here), o9, o10, .no, .no, .no]) (ρ2 := [.f (.int b), o1, o2, .f (.lst (ss.map .int)), .f (.int w), o5, o6, .n .lst (L.map fun r => .f (rowD r)), .f (rowD here), o9, o10, .no, .no, .no]) (by simp (implicitDefEqProofs := false) (decide := true) (maxDischargeDepth := 9) [e_bnd, e_ret, e_opt, kO_s, kO_n, kO_i, kB_n, kB_o, kB_x, kB_i, e_val, kV_n, kV_o, kV_x, kV_i, e_seq, kS_n, kS_nx, kS_rt, kS_bk, kS_ct, kS_ex, kS_i, e_nil, e_pass, e_brk, e_cnt, e_sret, e_sretN, e_expr, e_if, e_set, e_par, e_par3, kP3_3, e_tgt, kTg_f, kTg_n, e_gN, e_gT, e_gs0, e_gs1, e_aug, kAg_i, e_app, kAp_l, e_item, e_for, e_forN, e_fn, kF_n, kF_nx, kF_rt, kF_ex, kF_i, e_outs0, e_outsT, e_outsF, e_K, e_Vf, e_Mf, e_bin, e_un, e_A0, e_A1, e_lst, e_tup, e_C, e_tV, kT_b, e_tAnd, e_tOr, e_tNot, e_xNot, kNt_b, e_xAnd, kAn_b, e_xOr, kOr_b, e_xIf, e_ch, kCh_i, kCz_i, e_is, e_Q, e_Rg1, e_Rg2, e_Sl, kSl_f, e_oN, e_oS, e_call, kA_rt, kA_ex, kA_n, kA_i, e_R0, e_Rv, e_Ri, e_callK, kCK_f, e_take0, e_takeV, e_takeI, e_put0, e_putV, e_putI, fz_f, fz_l, fzs_0, fzs_1, fzs_map, fzs_mapI, fzs_1l, e_b1, e_b2, e_b2g, e_bs, v_bn, v_add, v_sub, v_mul, v_div, v_mod, v_pow, v_neg, v_catNN, v_catFN, v_catNF, v_catFF, v_rep, v_lt, v_le, v_gt, v_ge, v_is, v_isN, v_isO, v_isNO, v_non, v_nonI, v_nonL, v_nonT, v_nonB, v_eqI, v_neI, v_eqS, v_neS, v_lenL, v_lenT, v_abs, v_max2, v_min2, v_min3, v_intsM, v_ints0, v_ints1, v_blsM, v_blsF, v_intsF, v_maxL, v_minL, v_sum, v_sort, v_all, v_any, v_int, v_intB, v_list, v_listT, v_tuple, v_kIsN, v_kIsI, v_kIsL, v_kIsT, v_kIsB, v_isInt, v_isBool, v_isLst, v_isTup, v_repr, v_reprE, v_at, v_atL, v_atN, v_ixT, v_ixL, v_ixN, e_qK, e_qV, v_gKd, v_gOs, v_gLs, v_gDs, v_gDsT, v_gF, v_gI, v_isNn, e_Vn', e_Mn', v_isNo1, v_isNo2, e_pV, e_qIxF, e_qIxN, e_qI, e_qB, e_get, kIt_l', v_ixLit, v_ix0, v_at0, v_at1, v_ix1, e_apply', e_eB, e_cK, e_cT1, e_cT2, e_cTb, e_wipe0, e_wipe1, e_back0, e_back1, v_bkF, v_bkNo, v_bkN, v_tY, v_Vg, v_atLast, v_ixS, v_setLast, v_fzSnoc, v_fzSnocC, v_LIM, v_fzF, v_fzC, v_fzFF, v_intsC, v_blsC, e_SrtSet, v_ss, e_tup2, kT2_2, v_minPI, v_minPP, v_isB, e_tBor, kTb_o, v_frzS_f, v_frzS_no, v_frzS_n, e_appP, e_clrP, v_appEach0, v_appEach1, v_appEachM, e_forApp0, e_forApp1, e_AS, v_kFl, e_tpo, v_ixTp, fz_tp, e_idx, kIdA_f, v_idx, v_ltT, e_borS, ]) (by
    have kl : kLen [.lst (ss.map .int)] = some (.f (.int (ss.length : Int))) := by rw [v_lenL, List.length_map]
    generalize ss.map Dt.int = A at *
    generalize (L.map fun r => Ow.f (rowD r)) = B at *
    simp (implicitDefEqProofs := false) (decide := true) (maxDischargeDepth := 9) [e_bnd, e_ret, e_opt, kO_s, kO_n, kO_i, kB_n, kB_o, kB_x, kB_i, e_val, kV_n, kV_o, kV_x, kV_i, e_seq, kS_n, kS_nx, kS_rt, kS_bk, kS_ct, kS_ex, kS_i, e_nil, e_pass, e_brk, e_cnt, e_sret, e_sretN, e_expr, e_if, e_set, e_par, e_par3, kP3_3, e_tgt, kTg_f, kTg_n, e_gN, e_gT, e_gs0, e_gs1, e_aug, kAg_i, e_app, kAp_l, e_item, e_for, e_forN, e_fn, kF_n, kF_nx, kF_rt, kF_ex, kF_i, e_outs0, e_outsT, e_outsF, e_K, e_Vf, e_Mf, e_bin, e_un, e_A0, e_A1, e_lst, e_tup, e_C, e_tV, kT_b, e_tAnd, e_tOr, e_tNot, e_xNot, kNt_b, e_xAnd, kAn_b, e_xOr, kOr_b, e_xIf, e_ch, kCh_i, kCz_i, e_is, e_Q, e_Rg1, e_Rg2, e_Sl, kSl_f, e_oN, e_oS, e_call, kA_rt, kA_ex, kA_n, kA_i, e_R0, e_Rv, e_Ri, e_callK, kCK_f, e_take0, e_takeV, e_takeI, e_put0, e_putV, e_putI, fz_f, fz_l, fzs_0, fzs_1, fzs_map, fzs_mapI, fzs_1l, e_b1, e_b2, e_b2g, e_bs, v_bn, v_add, v_sub, v_mul, v_div, v_mod, v_pow, v_neg, v_catNN, v_catFN, v_catNF, v_catFF, v_rep, v_lt, v_le, v_gt, v_ge, v_is, v_isN, v_isO, v_isNO, v_non, v_nonI, v_nonL, v_nonT, v_nonB, v_eqI, v_neI, v_eqS, v_neS, v_lenL, v_lenT, v_abs, v_max2, v_min2, v_min3, v_intsM, v_ints0, v_ints1, v_blsM, v_blsF, v_intsF, v_maxL, v_minL, v_sum, v_sort, v_all, v_any, v_int, v_intB, v_list, v_listT, v_tuple, v_kIsN, v_kIsI, v_kIsL, v_kIsT, v_kIsB, v_isInt, v_isBool, v_isLst, v_isTup, v_repr, v_reprE, v_at, v_atL, v_atN, v_ixT, v_ixL, v_ixN, e_qK, e_qV, v_gKd, v_gOs, v_gLs, v_gDs, v_gDsT, v_gF, v_gI, v_isNn, e_Vn', e_Mn', v_isNo1, v_isNo2, e_pV, e_qIxF, e_qIxN, e_qI, e_qB, e_get, kIt_l', v_ixLit, v_ix0, v_at0, v_at1, v_ix1, e_apply', e_eB, e_cK, e_cT1, e_cT2, e_cTb, e_wipe0, e_wipe1, e_back0, e_back1, v_bkF, v_bkNo, v_bkN, v_tY, v_Vg, v_atLast, v_ixS, v_setLast, v_fzSnoc, v_fzSnocC, v_LIM, v_fzF, v_fzC, v_fzFF, v_intsC, v_blsC, e_SrtSet, v_ss, e_tup2, kT2_2, v_minPI, v_minPP, v_isB, e_tBor, kTb_o, v_frzS_f, v_frzS_no, v_frzS_n, e_appP, e_clrP, v_appEach0, v_appEach1, v_appEachM, e_forApp0, e_forApp1, e_AS, v_kFl, e_tpo, v_ixTp, fz_tp, e_idx, kIdA_f, v_idx, v_ltT, e_borS, kl]), kV_o]
  have hlen : ((DL.rng (-1) ((ss.length : Int) - -1).toNat).map Dt.int).length = ss.length + 1 := by rw [List.length_map, DL.rng_length]; omega
  refine w_for (fun j ρ => ∃ (L2 : List (List Int)) (o9 o10 : Ow), L2.Nodup ∧ (∀ x ∈ L2, Reach w S P (n + 1) x) ∧ (∀ x ∈ L, x ∈ L2) ∧ (∀ i, i < j → InB w S.length (stepB w S here (rowJ (rI i))) → stepB w S here (rowJ (rI i)) ∈ L2) ∧ ρ = [.f (.int b), o1, o2, .f (.lst (ss.map .int)), .f (.int w), o5, o6, .n .lst (L2.map fun r => .f (rowD r)), .f (rowD here), o9, o10, .no, .no, .no]) ⟨L, _, _, nd, hL, fun x z => z, fun i hi => by omega, rfl⟩ ?_ ?_
  · intro j d ρ hd ⟨L2, o9, o10, nd2, h2, hs, hc, e⟩
    subst e
    have hj : j < ss.length + 1 := by
      have := (List.getElem?_eq_some_iff.mp hd).1
      rw [hlen] at this
      exact this
    obtain ⟨_, rfl⟩ := DL.rng_get hd
    clear hd
    refine ⟨[.f (.int b), o1, o2, .f (.lst (ss.map .int)), .f (.int w), o5, o6, .n .lst (L2.map fun r => .f (rowD r)), .f (rowD here), .f (.int (-1 + (j : Int))), o10, .no, .no, .no], by simp (implicitDefEqProofs := false) (decide := true) (maxDischargeDepth := 9) [e_bnd, e_ret, e_opt, kO_s, kO_n, kO_i, kB_n, kB_o, kB_x, kB_i, e_val, kV_n, kV_o, kV_x, kV_i, e_seq, kS_n, kS_nx, kS_rt, kS_bk, kS_ct, kS_ex, kS_i, e_nil, e_pass, e_brk, e_cnt, e_sret, e_sretN, e_expr, e_if, e_set, e_par, e_par3, kP3_3, e_tgt, kTg_f, kTg_n, e_gN, e_gT, e_gs0, e_gs1, e_aug, kAg_i, e_app, kAp_l, e_item, e_for, e_forN, e_fn, kF_n, kF_nx, kF_rt, kF_ex, kF_i, e_outs0, e_outsT, e_outsF, e_K, e_Vf, e_Mf, e_bin, e_un, e_A0, e_A1, e_lst, e_tup, e_C, e_tV, kT_b, e_tAnd, e_tOr, e_tNot, e_xNot, kNt_b, e_xAnd, kAn_b, e_xOr, kOr_b, e_xIf, e_ch, kCh_i, kCz_i, e_is, e_Q, e_Rg1, e_Rg2, e_Sl, kSl_f, e_oN, e_oS, e_call, kA_rt, kA_ex, kA_n, kA_i, e_R0, e_Rv, e_Ri, e_callK, kCK_f, e_take0, e_takeV, e_takeI, e_put0, e_putV, e_putI, fz_f, fz_l, fzs_0, fzs_1, fzs_map, fzs_mapI, fzs_1l, e_b1, e_b2, e_b2g, e_bs, v_bn, v_add, v_sub, v_mul, v_div, v_mod, v_pow, v_neg, v_catNN, v_catFN, v_catNF, v_catFF, v_rep, v_lt, v_le, v_gt, v_ge, v_is, v_isN, v_isO, v_isNO, v_non, v_nonI, v_nonL, v_nonT, v_nonB, v_eqI, v_neI, v_eqS, v_neS, v_lenL, v_lenT, v_abs, v_max2, v_min2, v_min3, v_intsM, v_ints0, v_ints1, v_blsM, v_blsF, v_intsF, v_maxL, v_minL, v_sum, v_sort, v_all, v_any, v_int, v_intB, v_list, v_listT, v_tuple, v_kIsN, v_kIsI, v_kIsL, v_kIsT, v_kIsB, v_isInt, v_isBool, v_isLst, v_isTup, v_repr, v_reprE, v_at, v_atL, v_atN, v_ixT, v_ixL, v_ixN, e_qK, e_qV, v_gKd, v_gOs, v_gLs, v_gDs, v_gDsT, v_gF, v_gI, v_isNn, e_Vn', e_Mn', v_isNo1, v_isNo2, e_pV, e_qIxF, e_qIxN, e_qI, e_qB, e_get, kIt_l', v_ixLit, v_ix0, v_at0, v_at1, v_ix1, e_apply', e_eB, e_cK, e_cT1, e_cT2, e_cTb, e_wipe0, e_wipe1, e_back0, e_back1, v_bkF, v_bkNo, v_bkN, v_tY, v_Vg, v_atLast, v_ixS, v_setLast, v_fzSnoc, v_fzSnocC, v_LIM, v_fzF, v_fzC, v_fzFF, v_intsC, v_blsC, e_SrtSet, v_ss, e_tup2, kT2_2, v_minPI, v_minPP, v_isB, e_tBor, kTb_o, v_frzS_f, v_frzS_no, v_frzS_n, e_appP, e_clrP, v_appEach0, v_appEach1, v_appEachM, e_forApp0, e_forApp1, e_AS, v_kFl, e_tpo, v_ixTp, fz_tp, e_idx, kIdA_f, v_idx, v_ltT, e_borS, ], ?_⟩
    have c1 := fun o1 o2 o5 o6 o7 o10 => can_x1 (b := b) (w := w) (ss := ss) (here := here) (j := j) (o1 := o1) (o2 := o2) (o5 := o5) (o6 := o6) (o7 := o7) (o10 := o10) lh (by omega) zw zb zs
    rw [← hS] at c1
    obtain ⟨row, hrow⟩ : ∃ row, row = stepB w S here (rowJ (rI j)) := ⟨_, rfl⟩
    rw [← hrow] at c1
    have lr : row.length = ss.length := by rw [hrow, stepB_len, lS]
    have nz : row ≠ [] := fun z => by rw [z] at lr; have : ([] : List Int).length = 0 := rfl; omega
    have mn := v_minPI (ds := row.map .int) v_intsM nz
    have mx := v_maxL (ds := row.map .int) v_intsM nz
    have ib := inB_iff (w := w) (row := row) (m := S.length) (by rw [lr, lS]) (by omega)
    have fzN : frzs (row.map fun x => Ow.f (.int x)) = some (row.map .int) := fzs_mapI
    have fS : frzS (.n .lst (L2.map fun r => Ow.f (rowD r))) = .f (.lst (L2.map rowD)) := v_frzS_n (by rw [fz_l, lns_fz]; rfl)
    have ni := ni_rows (x := row) (l := L2)
    have hr : ∀ x, rI j = some x → x < S.length := fun x hx => by
      unfold rI at hx
      split at hx
      · cases hx
      · cases hx; omega
    have few := rows_few w1 hP (by omega) nd2 h2
    have pw : 2 ^ S.length ≤ 8 := by
      have : (2 : Nat) ^ S.length ≤ 2 ^ 3 := Nat.pow_le_pow_right (by decide) (by omega)
      omega
    have ll : (L2.map fun r => Ow.f (rowD r)).length < 1000000 := by rw [List.length_map]; omega
    have rd : rowD row = .lst (row.map .int) := rfl
    rw [rd] at ni
    by_cases b1 : -w < lst' row
    · by_cases b2 : gst row < w
      · by_cases b3 : row ∈ L2
        · rw [decide_eq_true b3] at ni
          refine wp_eq (.nx [.f (.int b), o1, o2, .f (.lst (ss.map .int)), .f (.int w), o5, o6, .n .lst (L2.map fun r => .f (rowD r)), .f (rowD here), .f (.int (-1 + (j : Int))), .f (.lst (row.map .int)), .no, .no, .no]) ?_ ⟨L2, _, _, nd2, h2, hs, fun i hi ib' => ?_, rfl⟩
          · clear hrow ib hs hc nd2 h2 few
            generalize (L2.map fun r => Ow.f (rowD r)) = LO at *
            generalize L2.map rowD = LD at *
            generalize (row.map fun x => Ow.f (.int x)) = RO at *
            generalize row.map Dt.int = RD at *
            generalize rowD here = HD at *
            generalize ss.map Dt.int = SD at *
            generalize -1 + (j : Int) = JJ at *
            generalize lst' row = LR at *
            generalize gst row = GR at *
            simp (implicitDefEqProofs := false) (decide := true) (maxDischargeDepth := 9) [e_bnd, e_ret, e_opt, kO_s, kO_n, kO_i, kB_n, kB_o, kB_x, kB_i, e_val, kV_n, kV_o, kV_x, kV_i, e_seq, kS_n, kS_nx, kS_rt, kS_bk, kS_ct, kS_ex, kS_i, e_nil, e_pass, e_brk, e_cnt, e_sret, e_sretN, e_expr, e_if, e_set, e_par, e_par3, kP3_3, e_tgt, kTg_f, kTg_n, e_gN, e_gT, e_gs0, e_gs1, e_aug, kAg_i, e_app, kAp_l, e_item, e_for, e_forN, e_fn, kF_n, kF_nx, kF_rt, kF_ex, kF_i, e_outs0, e_outsT, e_outsF, e_K, e_Vf, e_Mf, e_bin, e_un, e_A0, e_A1, e_lst, e_tup, e_C, e_tV, kT_b, e_tAnd, e_tOr, e_tNot, e_xNot, kNt_b, e_xAnd, kAn_b, e_xOr, kOr_b, e_xIf, e_ch, kCh_i, kCz_i, e_is, e_Q, e_Rg1, e_Rg2, e_Sl, kSl_f, e_oN, e_oS, e_call, kA_rt, kA_ex, kA_n, kA_i, e_R0, e_Rv, e_Ri, e_callK, kCK_f, e_take0, e_takeV, e_takeI, e_put0, e_putV, e_putI, fz_f, fz_l, fzs_0, fzs_1, fzs_map, fzs_mapI, fzs_1l, e_b1, e_b2, e_b2g, e_bs, v_bn, v_add, v_sub, v_mul, v_div, v_mod, v_pow, v_neg, v_catNN, v_catFN, v_catNF, v_catFF, v_rep, v_lt, v_le, v_gt, v_ge, v_is, v_isN, v_isO, v_isNO, v_non, v_nonI, v_nonL, v_nonT, v_nonB, v_eqI, v_neI, v_eqS, v_neS, v_lenL, v_lenT, v_abs, v_max2, v_min2, v_min3, v_intsM, v_ints0, v_ints1, v_blsM, v_blsF, v_intsF, v_maxL, v_minL, v_sum, v_sort, v_all, v_any, v_int, v_intB, v_list, v_listT, v_tuple, v_kIsN, v_kIsI, v_kIsL, v_kIsT, v_kIsB, v_isInt, v_isBool, v_isLst, v_isTup, v_repr, v_reprE, v_at, v_atL, v_atN, v_ixT, v_ixL, v_ixN, e_qK, e_qV, v_gKd, v_gOs, v_gLs, v_gDs, v_gDsT, v_gF, v_gI, v_isNn, e_Vn', e_Mn', v_isNo1, v_isNo2, e_pV, e_qIxF, e_qIxN, e_qI, e_qB, e_get, kIt_l', v_ixLit, v_ix0, v_at0, v_at1, v_ix1, e_apply', e_eB, e_cK, e_cT1, e_cT2, e_cTb, e_wipe0, e_wipe1, e_back0, e_back1, v_bkF, v_bkNo, v_bkN, v_tY, v_Vg, v_atLast, v_ixS, v_setLast, v_fzSnoc, v_fzSnocC, v_LIM, v_fzF, v_fzC, v_fzFF, v_intsC, v_blsC, e_SrtSet, v_ss, e_tup2, kT2_2, v_minPI, v_minPP, v_isB, e_tBor, kTb_o, v_frzS_f, v_frzS_no, v_frzS_n, e_appP, e_clrP, v_appEach0, v_appEach1, v_appEachM, e_forApp0, e_forApp1, e_AS, v_kFl, e_tpo, v_ixTp, fz_tp, e_idx, kIdA_f, v_idx, v_ltT, e_borS, c1, mn, mx, fzN, b1, b2, e_tBor, kTb_o, v_frzS_f, v_frzS_no, fS, ni]
          · by_cases c : i = j
            · subst c; rw [← hrow]; exact b3
            · exact hc i (by omega) ib'
        · rw [decide_eq_false b3] at ni
          have hre : Reach w S P (n + 1) row := by
            rw [hrow]
            rw [hrow] at ib
            obtain ⟨lo, hi⟩ := ib.mpr (by rw [← hrow]; exact ⟨b1, b2⟩)
            exact .step rh hr lo hi
          have lm : ((L2 ++ [row]).map fun r => Ow.f (rowD r)) = (L2.map fun r => Ow.f (rowD r)) ++ [.f (.lst (row.map .int))] := by rw [List.map_append]; rfl
          refine wp_eq (.nx [.f (.int b), o1, o2, .f (.lst (ss.map .int)), .f (.int w), o5, o6, .n .lst ((L2 ++ [row]).map fun r => .f (rowD r)), .f (rowD here), .f (.int (-1 + (j : Int))), .f (.lst (row.map .int)), .no, .no, .no]) ?_ ⟨L2 ++ [row], _, _, ?_, fun x hx => ?_, fun x hx => List.mem_append_left _ (hs x hx), fun i hi ib' => ?_, rfl⟩
          · rw [lm]
            clear hrow ib hs hc nd2 h2 few hre lm
            generalize (L2.map fun r => Ow.f (rowD r)) = LO at *
            generalize L2.map rowD = LD at *
            generalize (row.map fun x => Ow.f (.int x)) = RO at *
            generalize row.map Dt.int = RD at *
            generalize rowD here = HD at *
            generalize ss.map Dt.int = SD at *
            generalize -1 + (j : Int) = JJ at *
            generalize lst' row = LR at *
            generalize gst row = GR at *
            simp (implicitDefEqProofs := false) (decide := true) (maxDischargeDepth := 9) [e_bnd, e_ret, e_opt, kO_s, kO_n, kO_i, kB_n, kB_o, kB_x, kB_i, e_val, kV_n, kV_o, kV_x, kV_i, e_seq, kS_n, kS_nx, kS_rt, kS_bk, kS_ct, kS_ex, kS_i, e_nil, e_pass, e_brk, e_cnt, e_sret, e_sretN, e_expr, e_if, e_set, e_par, e_par3, kP3_3, e_tgt, kTg_f, kTg_n, e_gN, e_gT, e_gs0, e_gs1, e_aug, kAg_i, e_app, kAp_l, e_item, e_for, e_forN, e_fn, kF_n, kF_nx, kF_rt, kF_ex, kF_i, e_outs0, e_outsT, e_outsF, e_K, e_Vf, e_Mf, e_bin, e_un, e_A0, e_A1, e_lst, e_tup, e_C, e_tV, kT_b, e_tAnd, e_tOr, e_tNot, e_xNot, kNt_b, e_xAnd, kAn_b, e_xOr, kOr_b, e_xIf, e_ch, kCh_i, kCz_i, e_is, e_Q, e_Rg1, e_Rg2, e_Sl, kSl_f, e_oN, e_oS, e_call, kA_rt, kA_ex, kA_n, kA_i, e_R0, e_Rv, e_Ri, e_callK, kCK_f, e_take0, e_takeV, e_takeI, e_put0, e_putV, e_putI, fz_f, fz_l, fzs_0, fzs_1, fzs_map, fzs_mapI, fzs_1l, e_b1, e_b2, e_b2g, e_bs, v_bn, v_add, v_sub, v_mul, v_div, v_mod, v_pow, v_neg, v_catNN, v_catFN, v_catNF, v_catFF, v_rep, v_lt, v_le, v_gt, v_ge, v_is, v_isN, v_isO, v_isNO, v_non, v_nonI, v_nonL, v_nonT, v_nonB, v_eqI, v_neI, v_eqS, v_neS, v_lenL, v_lenT, v_abs, v_max2, v_min2, v_min3, v_intsM, v_ints0, v_ints1, v_blsM, v_blsF, v_intsF, v_maxL, v_minL, v_sum, v_sort, v_all, v_any, v_int, v_intB, v_list, v_listT, v_tuple, v_kIsN, v_kIsI, v_kIsL, v_kIsT, v_kIsB, v_isInt, v_isBool, v_isLst, v_isTup, v_repr, v_reprE, v_at, v_atL, v_atN, v_ixT, v_ixL, v_ixN, e_qK, e_qV, v_gKd, v_gOs, v_gLs, v_gDs, v_gDsT, v_gF, v_gI, v_isNn, e_Vn', e_Mn', v_isNo1, v_isNo2, e_pV, e_qIxF, e_qIxN, e_qI, e_qB, e_get, kIt_l', v_ixLit, v_ix0, v_at0, v_at1, v_ix1, e_apply', e_eB, e_cK, e_cT1, e_cT2, e_cTb, e_wipe0, e_wipe1, e_back0, e_back1, v_bkF, v_bkNo, v_bkN, v_tY, v_Vg, v_atLast, v_ixS, v_setLast, v_fzSnoc, v_fzSnocC, v_LIM, v_fzF, v_fzC, v_fzFF, v_intsC, v_blsC, e_SrtSet, v_ss, e_tup2, kT2_2, v_minPI, v_minPP, v_isB, e_tBor, kTb_o, v_frzS_f, v_frzS_no, v_frzS_n, e_appP, e_clrP, v_appEach0, v_appEach1, v_appEachM, e_forApp0, e_forApp1, e_AS, v_kFl, e_tpo, v_ixTp, fz_tp, e_idx, kIdA_f, v_idx, v_ltT, e_borS, c1, mn, mx, fzN, b1, b2, e_tBor, kTb_o, v_frzS_f, v_frzS_no, fS, ni, ll]
          · refine List.nodup_append.mpr ⟨nd2, List.nodup_cons.mpr ⟨fun z => (by cases z), List.nodup_nil⟩, fun a ha c hc2 => ?_⟩
            rw [List.mem_singleton.mp hc2]
            exact fun z => b3 (z ▸ ha)
          · rcases List.mem_append.mp hx with hx | hx
            · exact h2 x hx
            · rw [List.mem_singleton.mp hx]; exact hre
          · by_cases c : i = j
            · subst c; rw [← hrow]; exact List.mem_append_right _ (List.mem_singleton.mpr rfl)
            · exact List.mem_append_left _ (hc i (by omega) ib')
      · refine wp_eq (.nx [.f (.int b), o1, o2, .f (.lst (ss.map .int)), .f (.int w), o5, o6, .n .lst (L2.map fun r => .f (rowD r)), .f (rowD here), .f (.int (-1 + (j : Int))), .f (.lst (row.map .int)), .no, .no, .no]) ?_ ⟨L2, _, _, nd2, h2, hs, fun i hi ib' => ?_, rfl⟩
        · clear hrow ib hs hc nd2 h2 few
          generalize (L2.map fun r => Ow.f (rowD r)) = LO at *
          generalize (row.map fun x => Ow.f (.int x)) = RO at *
          generalize row.map Dt.int = RD at *
          generalize rowD here = HD at *
          generalize ss.map Dt.int = SD at *
          generalize -1 + (j : Int) = JJ at *
          generalize lst' row = LR at *
          generalize gst row = GR at *
          simp (implicitDefEqProofs := false) (decide := true) (maxDischargeDepth := 9) [e_bnd, e_ret, e_opt, kO_s, kO_n, kO_i, kB_n, kB_o, kB_x, kB_i, e_val, kV_n, kV_o, kV_x, kV_i, e_seq, kS_n, kS_nx, kS_rt, kS_bk, kS_ct, kS_ex, kS_i, e_nil, e_pass, e_brk, e_cnt, e_sret, e_sretN, e_expr, e_if, e_set, e_par, e_par3, kP3_3, e_tgt, kTg_f, kTg_n, e_gN, e_gT, e_gs0, e_gs1, e_aug, kAg_i, e_app, kAp_l, e_item, e_for, e_forN, e_fn, kF_n, kF_nx, kF_rt, kF_ex, kF_i, e_outs0, e_outsT, e_outsF, e_K, e_Vf, e_Mf, e_bin, e_un, e_A0, e_A1, e_lst, e_tup, e_C, e_tV, kT_b, e_tAnd, e_tOr, e_tNot, e_xNot, kNt_b, e_xAnd, kAn_b, e_xOr, kOr_b, e_xIf, e_ch, kCh_i, kCz_i, e_is, e_Q, e_Rg1, e_Rg2, e_Sl, kSl_f, e_oN, e_oS, e_call, kA_rt, kA_ex, kA_n, kA_i, e_R0, e_Rv, e_Ri, e_callK, kCK_f, e_take0, e_takeV, e_takeI, e_put0, e_putV, e_putI, fz_f, fz_l, fzs_0, fzs_1, fzs_map, fzs_mapI, fzs_1l, e_b1, e_b2, e_b2g, e_bs, v_bn, v_add, v_sub, v_mul, v_div, v_mod, v_pow, v_neg, v_catNN, v_catFN, v_catNF, v_catFF, v_rep, v_lt, v_le, v_gt, v_ge, v_is, v_isN, v_isO, v_isNO, v_non, v_nonI, v_nonL, v_nonT, v_nonB, v_eqI, v_neI, v_eqS, v_neS, v_lenL, v_lenT, v_abs, v_max2, v_min2, v_min3, v_intsM, v_ints0, v_ints1, v_blsM, v_blsF, v_intsF, v_maxL, v_minL, v_sum, v_sort, v_all, v_any, v_int, v_intB, v_list, v_listT, v_tuple, v_kIsN, v_kIsI, v_kIsL, v_kIsT, v_kIsB, v_isInt, v_isBool, v_isLst, v_isTup, v_repr, v_reprE, v_at, v_atL, v_atN, v_ixT, v_ixL, v_ixN, e_qK, e_qV, v_gKd, v_gOs, v_gLs, v_gDs, v_gDsT, v_gF, v_gI, v_isNn, e_Vn', e_Mn', v_isNo1, v_isNo2, e_pV, e_qIxF, e_qIxN, e_qI, e_qB, e_get, kIt_l', v_ixLit, v_ix0, v_at0, v_at1, v_ix1, e_apply', e_eB, e_cK, e_cT1, e_cT2, e_cTb, e_wipe0, e_wipe1, e_back0, e_back1, v_bkF, v_bkNo, v_bkN, v_tY, v_Vg, v_atLast, v_ixS, v_setLast, v_fzSnoc, v_fzSnocC, v_LIM, v_fzF, v_fzC, v_fzFF, v_intsC, v_blsC, e_SrtSet, v_ss, e_tup2, kT2_2, v_minPI, v_minPP, v_isB, e_tBor, kTb_o, v_frzS_f, v_frzS_no, v_frzS_n, e_appP, e_clrP, v_appEach0, v_appEach1, v_appEachM, e_forApp0, e_forApp1, e_AS, v_kFl, e_tpo, v_ixTp, fz_tp, e_idx, kIdA_f, v_idx, v_ltT, e_borS, c1, mn, mx, fzN, b1, b2]
        · by_cases c : i = j
          · subst c; rw [← hrow] at ib'; exact absurd (ib.mp ib').2 b2
          · exact hc i (by omega) ib'
    · refine wp_eq (.nx [.f (.int b), o1, o2, .f (.lst (ss.map .int)), .f (.int w), o5, o6, .n .lst (L2.map fun r => .f (rowD r)), .f (rowD here), .f (.int (-1 + (j : Int))), .f (.lst (row.map .int)), .no, .no, .no]) ?_ ⟨L2, _, _, nd2, h2, hs, fun i hi ib' => ?_, rfl⟩
      · clear hrow ib hs hc nd2 h2 few
        generalize (L2.map fun r => Ow.f (rowD r)) = LO at *
        generalize (row.map fun x => Ow.f (.int x)) = RO at *
        generalize row.map Dt.int = RD at *
        generalize rowD here = HD at *
        generalize ss.map Dt.int = SD at *
        generalize -1 + (j : Int) = JJ at *
        generalize lst' row = LR at *
        generalize gst row = GR at *
        simp (implicitDefEqProofs := false) (decide := true) (maxDischargeDepth := 9) [e_bnd, e_ret, e_opt, kO_s, kO_n, kO_i, kB_n, kB_o, kB_x, kB_i, e_val, kV_n, kV_o, kV_x, kV_i, e_seq, kS_n, kS_nx, kS_rt, kS_bk, kS_ct, kS_ex, kS_i, e_nil, e_pass, e_brk, e_cnt, e_sret, e_sretN, e_expr, e_if, e_set, e_par, e_par3, kP3_3, e_tgt, kTg_f, kTg_n, e_gN, e_gT, e_gs0, e_gs1, e_aug, kAg_i, e_app, kAp_l, e_item, e_for, e_forN, e_fn, kF_n, kF_nx, kF_rt, kF_ex, kF_i, e_outs0, e_outsT, e_outsF, e_K, e_Vf, e_Mf, e_bin, e_un, e_A0, e_A1, e_lst, e_tup, e_C, e_tV, kT_b, e_tAnd, e_tOr, e_tNot, e_xNot, kNt_b, e_xAnd, kAn_b, e_xOr, kOr_b, e_xIf, e_ch, kCh_i, kCz_i, e_is, e_Q, e_Rg1, e_Rg2, e_Sl, kSl_f, e_oN, e_oS, e_call, kA_rt, kA_ex, kA_n, kA_i, e_R0, e_Rv, e_Ri, e_callK, kCK_f, e_take0, e_takeV, e_takeI, e_put0, e_putV, e_putI, fz_f, fz_l, fzs_0, fzs_1, fzs_map, fzs_mapI, fzs_1l, e_b1, e_b2, e_b2g, e_bs, v_bn, v_add, v_sub, v_mul, v_div, v_mod, v_pow, v_neg, v_catNN, v_catFN, v_catNF, v_catFF, v_rep, v_lt, v_le, v_gt, v_ge, v_is, v_isN, v_isO, v_isNO, v_non, v_nonI, v_nonL, v_nonT, v_nonB, v_eqI, v_neI, v_eqS, v_neS, v_lenL, v_lenT, v_abs, v_max2, v_min2, v_min3, v_intsM, v_ints0, v_ints1, v_blsM, v_blsF, v_intsF, v_maxL, v_minL, v_sum, v_sort, v_all, v_any, v_int, v_intB, v_list, v_listT, v_tuple, v_kIsN, v_kIsI, v_kIsL, v_kIsT, v_kIsB, v_isInt, v_isBool, v_isLst, v_isTup, v_repr, v_reprE, v_at, v_atL, v_atN, v_ixT, v_ixL, v_ixN, e_qK, e_qV, v_gKd, v_gOs, v_gLs, v_gDs, v_gDsT, v_gF, v_gI, v_isNn, e_Vn', e_Mn', v_isNo1, v_isNo2, e_pV, e_qIxF, e_qIxN, e_qI, e_qB, e_get, kIt_l', v_ixLit, v_ix0, v_at0, v_at1, v_ix1, e_apply', e_eB, e_cK, e_cT1, e_cT2, e_cTb, e_wipe0, e_wipe1, e_back0, e_back1, v_bkF, v_bkNo, v_bkN, v_tY, v_Vg, v_atLast, v_ixS, v_setLast, v_fzSnoc, v_fzSnocC, v_LIM, v_fzF, v_fzC, v_fzFF, v_intsC, v_blsC, e_SrtSet, v_ss, e_tup2, kT2_2, v_minPI, v_minPP, v_isB, e_tBor, kTb_o, v_frzS_f, v_frzS_no, v_frzS_n, e_appP, e_clrP, v_appEach0, v_appEach1, v_appEachM, e_forApp0, e_forApp1, e_AS, v_kFl, e_tpo, v_ixTp, fz_tp, e_idx, kIdA_f, v_idx, v_ltT, e_borS, c1, mn, mx, fzN, b1]
      · by_cases c : i = j
        · subst c; rw [← hrow] at ib'; exact absurd (ib.mp ib').1 b1
        · exact hc i (by omega) ib'
  · intro ρ ⟨L2, o9, o10, nd2, h2, hs, hc, e⟩
    rw [hlen] at hc
    refine ⟨L2, _, _, nd2, h2, hs, fun r hr ib => ?_, e⟩
    have hi : ∃ i, i < ss.length + 1 ∧ rI i = r := by
      cases r with
      | none => exact ⟨0, by omega, rfl⟩
      | some x =>
        have := hr x rfl
        exact ⟨x + 1, by omega, rfl⟩
    obtain ⟨i, hi, rfl⟩ := hi
    exact hc i hi ib
/-- all that some rows lead to -/
theorem can_l2 {S P : List Int} {n : Nat} {Ln : List (List Int)} {o1 o2 o5 o6 o8 o9 o10 : Ow} (w1 : 1 ≤ w) (hS : S = partJ b ss) (hP : P.length = S.length) (rh : ∀ x ∈ Ln, Reach w S P n x) (l1 : 1 ≤ ss.length) (l2 : ss.length ≤ 3) (zw : Sz 300 w) (zb : Sz 150 b) (zs : ∀ s ∈ ss, Sz 64 s) (f5 : frz o5 = some (.lst (Ln.map rowD))) (n5 : o5 ≠ .no) :
    ∃ ρ, l2__law_can_fe40 [.f (.int b), o1, o2, .f (.lst (ss.map .int)), .f (.int w), o5, o6, .n .lst [], o8, o9, o10, .no, .no, .no] = some (.nx ρ) ∧
      ∃ (L2 : List (List Int)) (o5 o8 o9 o10 : Ow), L2.Nodup ∧ (∀ x ∈ L2, Reach w S P (n + 1) x) ∧ (∀ h ∈ Ln, ∀ r : Option Nat, (∀ x, r = some x → x < S.length) → InB w S.length (stepB w S h (rowJ r)) → stepB w S h (rowJ r) ∈ L2) ∧
        ρ = [.f (.int b), o1, o2, .f (.lst (ss.map .int)), .f (.int w), o5, o6, .n .lst (L2.map fun r => .f (rowD r)), o8, o9, o10, .no, .no, .no] := by
  refine wp_nx ?_
  unfold l2__law_can_fe40
  rw [e_for, iL_f (ds := Ln.map rowD) (ρ1 := [.f (.int b), o1, o2, .f (.lst (ss.map .int)), .f (.int w), .f (.lst (Ln.map rowD)), o6, .n .lst [], o8, o9, o10, .no, .no, .no]) (by
    generalize ss.map Dt.int = SD at *
    generalize Ln.map rowD = LD at *
    simp (implicitDefEqProofs := false) (decide := true) (maxDischargeDepth := 9) [e_bnd, e_ret, e_opt, kO_s, kO_n, kO_i, kB_n, kB_o, kB_x, kB_i, e_val, kV_n, kV_o, kV_x, kV_i, e_seq, kS_n, kS_nx, kS_rt, kS_bk, kS_ct, kS_ex, kS_i, e_nil, e_pass, e_brk, e_cnt, e_sret, e_sretN, e_expr, e_if, e_set, e_par, e_par3, kP3_3, e_tgt, kTg_f, kTg_n, e_gN, e_gT, e_gs0, e_gs1, e_aug, kAg_i, e_app, kAp_l, e_item, e_for, e_forN, e_fn, kF_n, kF_nx, kF_rt, kF_ex, kF_i, e_outs0, e_outsT, e_outsF, e_K, e_Vf, e_Mf, e_bin, e_un, e_A0, e_A1, e_lst, e_tup, e_C, e_tV, kT_b, e_tAnd, e_tOr, e_tNot, e_xNot, kNt_b, e_xAnd, kAn_b, e_xOr, kOr_b, e_xIf, e_ch, kCh_i, kCz_i, e_is, e_Q, e_Rg1, e_Rg2, e_Sl, kSl_f, e_oN, e_oS, e_call, kA_rt, kA_ex, kA_n, kA_i, e_R0, e_Rv, e_Ri, e_callK, kCK_f, e_take0, e_takeV, e_takeI, e_put0, e_putV, e_putI, fz_f, fz_l, fzs_0, fzs_1, fzs_map, fzs_mapI, fzs_1l, e_b1, e_b2, e_b2g, e_bs, v_bn, v_add, v_sub, v_mul, v_div, v_mod, v_pow, v_neg, v_catNN, v_catFN, v_catNF, v_catFF, v_rep, v_lt, v_le, v_gt, v_ge, v_is, v_isN, v_isO, v_isNO, v_non, v_nonI, v_nonL, v_nonT, v_nonB, v_eqI, v_neI, v_eqS, v_neS, v_lenL, v_lenT, v_abs, v_max2, v_min2, v_min3, v_intsM, v_ints0, v_ints1, v_blsM, v_blsF, v_intsF, v_maxL, v_minL, v_sum, v_sort, v_all, v_any, v_int, v_intB, v_list, v_listT, v_tuple, v_kIsN, v_kIsI, v_kIsL, v_kIsT, v_kIsB, v_isInt, v_isBool, v_isLst, v_isTup, v_repr, v_reprE, v_at, v_atL, v_atN, v_ixT, v_ixL, v_ixN, e_qK, e_qV, v_gKd, v_gOs, v_gLs, v_gDs, v_gDsT, v_gF, v_gI, v_isNn, e_Vn', e_Mn', v_isNo1, v_isNo2, e_pV, e_qIxF, e_qIxN, e_qI, e_qB, e_get, kIt_l', v_ixLit, v_ix0, v_at0, v_at1, v_ix1, e_apply', e_eB, e_cK, e_cT1, e_cT2, e_cTb, e_wipe0, e_wipe1, e_back0, e_back1, v_bkF, v_bkNo, v_bkN, v_tY, v_Vg, v_atLast, v_ixS, v_setLast, v_fzSnoc, v_fzSnocC, v_LIM, v_fzF, v_fzC, v_fzFF, v_intsC, v_blsC, e_SrtSet, v_ss, e_tup2, kT2_2, v_minPI, v_minPP, v_isB, e_tBor, kTb_o, v_frzS_f, v_frzS_no, v_frzS_n, e_appP, e_clrP, v_appEach0, v_appEach1, v_appEachM, e_forApp0, e_forApp1, e_AS, v_kFl, e_tpo, v_ixTp, fz_tp, e_idx, kIdA_f, v_idx, v_ltT, e_borS, f5, n5]), kV_o]
  refine w_for (fun j ρ => ∃ (L2 : List (List Int)) (o5 o8 o9 o10 : Ow), L2.Nodup ∧ (∀ x ∈ L2, Reach w S P (n + 1) x) ∧ (∀ i h, i < j → Ln[i]? = some h → ∀ r : Option Nat, (∀ x, r = some x → x < S.length) → InB w S.length (stepB w S h (rowJ r)) → stepB w S h (rowJ r) ∈ L2) ∧ ρ = [.f (.int b), o1, o2, .f (.lst (ss.map .int)), .f (.int w), o5, o6, .n .lst (L2.map fun r => .f (rowD r)), o8, o9, o10, .no, .no, .no]) ⟨[], _, _, _, _, List.nodup_nil, fun x z => (by cases z), fun i h hi => by omega, rfl⟩ ?_ ?_
  · intro j d ρ hd ⟨L2, o5, o8, o9, o10, nd2, h2, hc, e⟩
    subst e
    rw [List.getElem?_map] at hd
    obtain ⟨h, hh, rfl⟩ := Option.map_eq_some_iff.mp hd
    clear hd
    obtain ⟨ρ, e1, L3, p9, p10, nd3, h3, hs3, hc3, rfl⟩ := can_l1 (L := L2) (o1 := o1) (o2 := o2) (o5 := o5) (o6 := o6) (o9 := o9) (o10 := o10) w1 hS hP (rh h (List.mem_of_getElem? hh)) l1 l2 zw zb zs nd2 h2
    refine ⟨[.f (.int b), o1, o2, .f (.lst (ss.map .int)), .f (.int w), o5, o6, .n .lst (L2.map fun r => .f (rowD r)), .f (rowD h), o9, o10, .no, .no, .no], by simp (implicitDefEqProofs := false) (decide := true) (maxDischargeDepth := 9) [e_bnd, e_ret, e_opt, kO_s, kO_n, kO_i, kB_n, kB_o, kB_x, kB_i, e_val, kV_n, kV_o, kV_x, kV_i, e_seq, kS_n, kS_nx, kS_rt, kS_bk, kS_ct, kS_ex, kS_i, e_nil, e_pass, e_brk, e_cnt, e_sret, e_sretN, e_expr, e_if, e_set, e_par, e_par3, kP3_3, e_tgt, kTg_f, kTg_n, e_gN, e_gT, e_gs0, e_gs1, e_aug, kAg_i, e_app, kAp_l, e_item, e_for, e_forN, e_fn, kF_n, kF_nx, kF_rt, kF_ex, kF_i, e_outs0, e_outsT, e_outsF, e_K, e_Vf, e_Mf, e_bin, e_un, e_A0, e_A1, e_lst, e_tup, e_C, e_tV, kT_b, e_tAnd, e_tOr, e_tNot, e_xNot, kNt_b, e_xAnd, kAn_b, e_xOr, kOr_b, e_xIf, e_ch, kCh_i, kCz_i, e_is, e_Q, e_Rg1, e_Rg2, e_Sl, kSl_f, e_oN, e_oS, e_call, kA_rt, kA_ex, kA_n, kA_i, e_R0, e_Rv, e_Ri, e_callK, kCK_f, e_take0, e_takeV, e_takeI, e_put0, e_putV, e_putI, fz_f, fz_l, fzs_0, fzs_1, fzs_map, fzs_mapI, fzs_1l, e_b1, e_b2, e_b2g, e_bs, v_bn, v_add, v_sub, v_mul, v_div, v_mod, v_pow, v_neg, v_catNN, v_catFN, v_catNF, v_catFF, v_rep, v_lt, v_le, v_gt, v_ge, v_is, v_isN, v_isO, v_isNO, v_non, v_nonI, v_nonL, v_nonT, v_nonB, v_eqI, v_neI, v_eqS, v_neS, v_lenL, v_lenT, v_abs, v_max2, v_min2, v_min3, v_intsM, v_ints0, v_ints1, v_blsM, v_blsF, v_intsF, v_maxL, v_minL, v_sum, v_sort, v_all, v_any, v_int, v_intB, v_list, v_listT, v_tuple, v_kIsN, v_kIsI, v_kIsL, v_kIsT, v_kIsB, v_isInt, v_isBool, v_isLst, v_isTup, v_repr, v_reprE, v_at, v_atL, v_atN, v_ixT, v_ixL, v_ixN, e_qK, e_qV, v_gKd, v_gOs, v_gLs, v_gDs, v_gDsT, v_gF, v_gI, v_isNn, e_Vn', e_Mn', v_isNo1, v_isNo2, e_pV, e_qIxF, e_qIxN, e_qI, e_qB, e_get, kIt_l', v_ixLit, v_ix0, v_at0, v_at1, v_ix1, e_apply', e_eB, e_cK, e_cT1, e_cT2, e_cTb, e_wipe0, e_wipe1, e_back0, e_back1, v_bkF, v_bkNo, v_bkN, v_tY, v_Vg, v_atLast, v_ixS, v_setLast, v_fzSnoc, v_fzSnocC, v_LIM, v_fzF, v_fzC, v_fzFF, v_intsC, v_blsC, e_SrtSet, v_ss, e_tup2, kT2_2, v_minPI, v_minPP, v_isB, e_tBor, kTb_o, v_frzS_f, v_frzS_no, v_frzS_n, e_appP, e_clrP, v_appEach0, v_appEach1, v_appEachM, e_forApp0, e_forApp1, e_AS, v_kFl, e_tpo, v_ixTp, fz_tp, e_idx, kIdA_f, v_idx, v_ltT, e_borS, ], ?_⟩
    refine wp_eq (.nx [.f (.int b), o1, o2, .f (.lst (ss.map .int)), .f (.int w), o5, o6, .n .lst (L3.map fun r => .f (rowD r)), .f (rowD h), p9, p10, .no, .no, .no]) ?_ ⟨L3, _, _, _, _, nd3, h3, fun i g hi hg r hr ib => ?_, rfl⟩
    · rw [e_seq, e1, kS_nx, e_nil]
    · by_cases c : i = j
      · subst c
        rw [hh] at hg
        cases hg
        exact hc3 r hr ib
      · exact hs3 _ (hc i g (by omega) hg r hr ib)
  · intro ρ ⟨L2, o5, o8, o9, o10, nd2, h2, hc, e⟩
    rw [List.length_map] at hc
    refine ⟨L2, _, _, _, _, nd2, h2, fun h hh r hr ib => ?_, e⟩
    obtain ⟨i, hi1, hi2⟩ := List.getElem_of_mem hh
    exact hc i h hi1 (by rw [List.getElem?_eq_getElem hi1, hi2]) r hr ib
theorem can_x2 {o0 o3 : Ow} (l2 : ls.length ≤ 12) (zl : ∀ l ∈ ls, Sz 150 l) (zq : Sz 64 q) : x2__law_can_fe40 [o0, .f (.lst (ls.map .int)), .f (.int q), o3, .no, .no, .no, .no, .no, .no, .no, .no, .no, .no] = some (.ok (.n .lst ((partJ q ls).map fun x => .f (.int x))) [o0, .f (.lst (ls.map .int)), .f (.int q), o3, .no, .no, .no, .no, .no, .no, .no, .no, .no, .no]) := by
  unfold x2__law_can_fe40 partJ
  rw [List.map_map]
  refine comp_mapT (l := ls) (g := .int) (iL_f (ds := ls.map .int) (by simp (implicitDefEqProofs := false) (decide := true) (maxDischargeDepth := 9) [e_bnd, e_ret, e_opt, kO_s, kO_n, kO_i, kB_n, kB_o, kB_x, kB_i, e_val, kV_n, kV_o, kV_x, kV_i, e_seq, kS_n, kS_nx, kS_rt, kS_bk, kS_ct, kS_ex, kS_i, e_nil, e_pass, e_brk, e_cnt, e_sret, e_sretN, e_expr, e_if, e_set, e_par, e_par3, kP3_3, e_tgt, kTg_f, kTg_n, e_gN, e_gT, e_gs0, e_gs1, e_aug, kAg_i, e_app, kAp_l, e_item, e_for, e_forN, e_fn, kF_n, kF_nx, kF_rt, kF_ex, kF_i, e_outs0, e_outsT, e_outsF, e_K, e_Vf, e_Mf, e_bin, e_un, e_A0, e_A1, e_lst, e_tup, e_C, e_tV, kT_b, e_tAnd, e_tOr, e_tNot, e_xNot, kNt_b, e_xAnd, kAn_b, e_xOr, kOr_b, e_xIf, e_ch, kCh_i, kCz_i, e_is, e_Q, e_Rg1, e_Rg2, e_Sl, kSl_f, e_oN, e_oS, e_call, kA_rt, kA_ex, kA_n, kA_i, e_R0, e_Rv, e_Ri, e_callK, kCK_f, e_take0, e_takeV, e_takeI, e_put0, e_putV, e_putI, fz_f, fz_l, fzs_0, fzs_1, fzs_map, fzs_mapI, fzs_1l, e_b1, e_b2, e_b2g, e_bs, v_bn, v_add, v_sub, v_mul, v_div, v_mod, v_pow, v_neg, v_catNN, v_catFN, v_catNF, v_catFF, v_rep, v_lt, v_le, v_gt, v_ge, v_is, v_isN, v_isO, v_isNO, v_non, v_nonI, v_nonL, v_nonT, v_nonB, v_eqI, v_neI, v_eqS, v_neS, v_lenL, v_lenT, v_abs, v_max2, v_min2, v_min3, v_intsM, v_ints0, v_ints1, v_blsM, v_blsF, v_intsF, v_maxL, v_minL, v_sum, v_sort, v_all, v_any, v_int, v_intB, v_list, v_listT, v_tuple, v_kIsN, v_kIsI, v_kIsL, v_kIsT, v_kIsB, v_isInt, v_isBool, v_isLst, v_isTup, v_repr, v_reprE, v_at, v_atL, v_atN, v_ixT, v_ixL, v_ixN, e_qK, e_qV, v_gKd, v_gOs, v_gLs, v_gDs, v_gDsT, v_gF, v_gI, v_isNn, e_Vn', e_Mn', v_isNo1, v_isNo2, e_pV, e_qIxF, e_qIxN, e_qI, e_qB, e_get, kIt_l', v_ixLit, v_ix0, v_at0, v_at1, v_ix1, e_apply', e_eB, e_cK, e_cT1, e_cT2, e_cTb, e_wipe0, e_wipe1, e_back0, e_back1, v_bkF, v_bkNo, v_bkN, v_tY, v_Vg, v_atLast, v_ixS, v_setLast, v_fzSnoc, v_fzSnocC, v_LIM, v_fzF, v_fzC, v_fzFF, v_intsC, v_blsC, e_SrtSet, v_ss, e_tup2, kT2_2, v_minPI, v_minPP, v_isB, e_tBor, kTb_o, v_frzS_f, v_frzS_no, v_frzS_n, e_appP, e_clrP, v_appEach0, v_appEach1, v_appEachM, e_forApp0, e_forApp1, e_AS, v_kFl, e_tpo, v_ixTp, fz_tp, e_idx, kIdA_f, v_idx, v_ltT, e_borS, ])) rfl (by unfold LIM; omega) fun x hx => ?_
  haveI := zl x hx
  have bx : Bn x = true := bn_sz (n := 150) (by decide)
  have bq : Bn q = true := bn_sz (n := 64) (by decide)
  simp (implicitDefEqProofs := false) (decide := true) (maxDischargeDepth := 9) [e_bnd, e_ret, e_opt, kO_s, kO_n, kO_i, kB_n, kB_o, kB_x, kB_i, e_val, kV_n, kV_o, kV_x, kV_i, e_seq, kS_n, kS_nx, kS_rt, kS_bk, kS_ct, kS_ex, kS_i, e_nil, e_pass, e_brk, e_cnt, e_sret, e_sretN, e_expr, e_if, e_set, e_par, e_par3, kP3_3, e_tgt, kTg_f, kTg_n, e_gN, e_gT, e_gs0, e_gs1, e_aug, kAg_i, e_app, kAp_l, e_item, e_for, e_forN, e_fn, kF_n, kF_nx, kF_rt, kF_ex, kF_i, e_outs0, e_outsT, e_outsF, e_K, e_Vf, e_Mf, e_bin, e_un, e_A0, e_A1, e_lst, e_tup, e_C, e_tV, kT_b, e_tAnd, e_tOr, e_tNot, e_xNot, kNt_b, e_xAnd, kAn_b, e_xOr, kOr_b, e_xIf, e_ch, kCh_i, kCz_i, e_is, e_Q, e_Rg1, e_Rg2, e_Sl, kSl_f, e_oN, e_oS, e_call, kA_rt, kA_ex, kA_n, kA_i, e_R0, e_Rv, e_Ri, e_callK, kCK_f, e_take0, e_takeV, e_takeI, e_put0, e_putV, e_putI, fz_f, fz_l, fzs_0, fzs_1, fzs_map, fzs_mapI, fzs_1l, e_b1, e_b2, e_b2g, e_bs, v_bn, v_add, v_sub, v_mul, v_div, v_mod, v_pow, v_neg, v_catNN, v_catFN, v_catNF, v_catFF, v_rep, v_lt, v_le, v_gt, v_ge, v_is, v_isN, v_isO, v_isNO, v_non, v_nonI, v_nonL, v_nonT, v_nonB, v_eqI, v_neI, v_eqS, v_neS, v_lenL, v_lenT, v_abs, v_max2, v_min2, v_min3, v_intsM, v_ints0, v_ints1, v_blsM, v_blsF, v_intsF, v_maxL, v_minL, v_sum, v_sort, v_all, v_any, v_int, v_intB, v_list, v_listT, v_tuple, v_kIsN, v_kIsI, v_kIsL, v_kIsT, v_kIsB, v_isInt, v_isBool, v_isLst, v_isTup, v_repr, v_reprE, v_at, v_atL, v_atN, v_ixT, v_ixL, v_ixN, e_qK, e_qV, v_gKd, v_gOs, v_gLs, v_gDs, v_gDsT, v_gF, v_gI, v_isNn, e_Vn', e_Mn', v_isNo1, v_isNo2, e_pV, e_qIxF, e_qIxN, e_qI, e_qB, e_get, kIt_l', v_ixLit, v_ix0, v_at0, v_at1, v_ix1, e_apply', e_eB, e_cK, e_cT1, e_cT2, e_cTb, e_wipe0, e_wipe1, e_back0, e_back1, v_bkF, v_bkNo, v_bkN, v_tY, v_Vg, v_atLast, v_ixS, v_setLast, v_fzSnoc, v_fzSnocC, v_LIM, v_fzF, v_fzC, v_fzFF, v_intsC, v_blsC, e_SrtSet, v_ss, e_tup2, kT2_2, v_minPI, v_minPP, v_isB, e_tBor, kTb_o, v_frzS_f, v_frzS_no, v_frzS_n, e_appP, e_clrP, v_appEach0, v_appEach1, v_appEachM, e_forApp0, e_forApp1, e_AS, v_kFl, e_tpo, v_ixTp, fz_tp, e_idx, kIdA_f, v_idx, v_ltT, e_borS, bx, bq]
/-- whether lags can be kept -/
theorem can_eval73 (k : ChOk b ls q ss) (l3 : ls.length ≤ 3) : f__law_can_fe40 [.f (.int b), .f (.lst (ls.map .int)), .f (.int q), .f (.lst (ss.map .int))] = some (.rt (.f (.bl (decide (failS b q ls ss = none)))) [.no, .no, .no, .no]) := by
  have q1 := k.q1
  have q2 := k.q2
  have b1 := k.b1
  have l1 := k.l1
  have sl := k.sl
  haveI := k.zq
  haveI := k.zb
  have bq : Bn q = true := bn_sz (n := 64) (by decide)
  have bb : Bn b = true := bn_sz (n := 150) (by decide)
  have b8 : Bn 8 = true := by decide
  have b2' : Bn 2 = true := by decide
  have w1 : 1 ≤ b * q := Int.mul_pos (by omega) (by omega)
  have zw : Sz 300 (b * q) := by
    have : Sz (150 + 64) (b * q) := inferInstance
    exact this.up (by decide)
  obtain ⟨S, hS⟩ : ∃ S, S = partJ b ss := ⟨_, rfl⟩
  obtain ⟨P, hP⟩ : ∃ P, P = partJ q ls := ⟨_, rfl⟩
  have lS : S.length = ss.length := by rw [hS, partJ_len]
  have lP : P.length = S.length := by rw [hP, partJ_len, lS, sl]
  obtain ⟨T, hT⟩ : ∃ T : Nat, (T : Int) = q * 8 + 1 := ⟨(q * 8 + 1).toNat, by omega⟩
  have tT : (q * 8 + 1).toNat = T := by omega
  obtain ⟨w, hw⟩ : ∃ w, w = b * q := ⟨_, rfl⟩
  rw [← hw] at w1 zw
  obtain ⟨ρ, e, Ln, o5, o6, o7, o8, o9, o10, hr, hg, f5, n5, rfl⟩ : ∃ ρ, l3__law_can_fe40 [.f (.int b), .f (.lst (ls.map .int)), .f (.int q), .f (.lst (ss.map .int)), .f (.int w), .n .lst [.n .lst (P.map fun x => .f (.int x))], .no, .no, .no, .no, .no, .no, .no, .no] = some (.nx ρ) ∧
      ∃ (Ln : List (List Int)) (o5 o6 o7 o8 o9 o10 : Ow), (∀ x ∈ Ln, Reach w S P T x) ∧ (StJ w S P → ∃ x ∈ Ln, StJ w S x) ∧ frz o5 = some (.lst (Ln.map rowD)) ∧ o5 ≠ .no ∧ ρ = [.f (.int b), .f (.lst (ls.map .int)), .f (.int q), .f (.lst (ss.map .int)), .f (.int w), o5, o6, o7, o8, o9, o10, .no, .no, .no] := by
    refine wp_nx ?_
    unfold l3__law_can_fe40
    rw [e_for, iR1_f (n := q * 8 + 1) (ρ1 := [.f (.int b), .f (.lst (ls.map .int)), .f (.int q), .f (.lst (ss.map .int)), .f (.int w), .n .lst [.n .lst (P.map fun x => .f (.int x))], .no, .no, .no, .no, .no, .no, .no, .no]) (by
      generalize (P.map fun x => Ow.f (.int x)) = A
      simp (implicitDefEqProofs := false) (decide := true) (maxDischargeDepth := 9) [e_bnd, e_ret, e_opt, kO_s, kO_n, kO_i, kB_n, kB_o, kB_x, kB_i, e_val, kV_n, kV_o, kV_x, kV_i, e_seq, kS_n, kS_nx, kS_rt, kS_bk, kS_ct, kS_ex, kS_i, e_nil, e_pass, e_brk, e_cnt, e_sret, e_sretN, e_expr, e_if, e_set, e_par, e_par3, kP3_3, e_tgt, kTg_f, kTg_n, e_gN, e_gT, e_gs0, e_gs1, e_aug, kAg_i, e_app, kAp_l, e_item, e_for, e_forN, e_fn, kF_n, kF_nx, kF_rt, kF_ex, kF_i, e_outs0, e_outsT, e_outsF, e_K, e_Vf, e_Mf, e_bin, e_un, e_A0, e_A1, e_lst, e_tup, e_C, e_tV, kT_b, e_tAnd, e_tOr, e_tNot, e_xNot, kNt_b, e_xAnd, kAn_b, e_xOr, kOr_b, e_xIf, e_ch, kCh_i, kCz_i, e_is, e_Q, e_Rg1, e_Rg2, e_Sl, kSl_f, e_oN, e_oS, e_call, kA_rt, kA_ex, kA_n, kA_i, e_R0, e_Rv, e_Ri, e_callK, kCK_f, e_take0, e_takeV, e_takeI, e_put0, e_putV, e_putI, fz_f, fz_l, fzs_0, fzs_1, fzs_map, fzs_mapI, fzs_1l, e_b1, e_b2, e_b2g, e_bs, v_bn, v_add, v_sub, v_mul, v_div, v_mod, v_pow, v_neg, v_catNN, v_catFN, v_catNF, v_catFF, v_rep, v_lt, v_le, v_gt, v_ge, v_is, v_isN, v_isO, v_isNO, v_non, v_nonI, v_nonL, v_nonT, v_nonB, v_eqI, v_neI, v_eqS, v_neS, v_lenL, v_lenT, v_abs, v_max2, v_min2, v_min3, v_intsM, v_ints0, v_ints1, v_blsM, v_blsF, v_intsF, v_maxL, v_minL, v_sum, v_sort, v_all, v_any, v_int, v_intB, v_list, v_listT, v_tuple, v_kIsN, v_kIsI, v_kIsL, v_kIsT, v_kIsB, v_isInt, v_isBool, v_isLst, v_isTup, v_repr, v_reprE, v_at, v_atL, v_atN, v_ixT, v_ixL, v_ixN, e_qK, e_qV, v_gKd, v_gOs, v_gLs, v_gDs, v_gDsT, v_gF, v_gI, v_isNn, e_Vn', e_Mn', v_isNo1, v_isNo2, e_pV, e_qIxF, e_qIxN, e_qI, e_qB, e_get, kIt_l', v_ixLit, v_ix0, v_at0, v_at1, v_ix1, e_apply', e_eB, e_cK, e_cT1, e_cT2, e_cTb, e_wipe0, e_wipe1, e_back0, e_back1, v_bkF, v_bkNo, v_bkN, v_tY, v_Vg, v_atLast, v_ixS, v_setLast, v_fzSnoc, v_fzSnocC, v_LIM, v_fzF, v_fzC, v_fzFF, v_intsC, v_blsC, e_SrtSet, v_ss, e_tup2, kT2_2, v_minPI, v_minPP, v_isB, e_tBor, kTb_o, v_frzS_f, v_frzS_no, v_frzS_n, e_appP, e_clrP, v_appEach0, v_appEach1, v_appEachM, e_forApp0, e_forApp1, e_AS, v_kFl, e_tpo, v_ixTp, fz_tp, e_idx, kIdA_f, v_idx, v_ltT, e_borS, bq, b8, b2']), kV_o]
    refine w_for (fun j ρ => ∃ (Ln : List (List Int)) (o5 o6 o7 o8 o9 o10 : Ow), (∀ x ∈ Ln, Reach w S P j x) ∧ (StJ w S P → ∃ x ∈ Ln, StJ w S x) ∧ frz o5 = some (.lst (Ln.map rowD)) ∧ o5 ≠ .no ∧ ρ = [.f (.int b), .f (.lst (ls.map .int)), .f (.int q), .f (.lst (ss.map .int)), .f (.int w), o5, o6, o7, o8, o9, o10, .no, .no, .no]) ⟨[P], _, _, _, _, _, _, fun x hx => (by rw [List.mem_singleton.mp hx]; exact .zero), fun h => ⟨P, List.mem_singleton.mpr rfl, h⟩, (by
      rw [fz_l, fzs_1l (a := P.map .int) (b := []) fzs_mapI fzs_0]
      rfl), fun z => (by cases z), rfl⟩ ?_ ?_
    · intro j d ρ hd ⟨Ln, o5, o6, o7, o8, o9, o10, hr, hg, f5, n5, e⟩
      subst e
      obtain ⟨hj, rfl⟩ := rng_at hd
      clear hd
      refine ⟨[.f (.int b), .f (.lst (ls.map .int)), .f (.int q), .f (.lst (ss.map .int)), .f (.int w), o5, .f (.int j), o7, o8, o9, o10, .no, .no, .no], by simp (implicitDefEqProofs := false) (decide := true) (maxDischargeDepth := 9) [e_bnd, e_ret, e_opt, kO_s, kO_n, kO_i, kB_n, kB_o, kB_x, kB_i, e_val, kV_n, kV_o, kV_x, kV_i, e_seq, kS_n, kS_nx, kS_rt, kS_bk, kS_ct, kS_ex, kS_i, e_nil, e_pass, e_brk, e_cnt, e_sret, e_sretN, e_expr, e_if, e_set, e_par, e_par3, kP3_3, e_tgt, kTg_f, kTg_n, e_gN, e_gT, e_gs0, e_gs1, e_aug, kAg_i, e_app, kAp_l, e_item, e_for, e_forN, e_fn, kF_n, kF_nx, kF_rt, kF_ex, kF_i, e_outs0, e_outsT, e_outsF, e_K, e_Vf, e_Mf, e_bin, e_un, e_A0, e_A1, e_lst, e_tup, e_C, e_tV, kT_b, e_tAnd, e_tOr, e_tNot, e_xNot, kNt_b, e_xAnd, kAn_b, e_xOr, kOr_b, e_xIf, e_ch, kCh_i, kCz_i, e_is, e_Q, e_Rg1, e_Rg2, e_Sl, kSl_f, e_oN, e_oS, e_call, kA_rt, kA_ex, kA_n, kA_i, e_R0, e_Rv, e_Ri, e_callK, kCK_f, e_take0, e_takeV, e_takeI, e_put0, e_putV, e_putI, fz_f, fz_l, fzs_0, fzs_1, fzs_map, fzs_mapI, fzs_1l, e_b1, e_b2, e_b2g, e_bs, v_bn, v_add, v_sub, v_mul, v_div, v_mod, v_pow, v_neg, v_catNN, v_catFN, v_catNF, v_catFF, v_rep, v_lt, v_le, v_gt, v_ge, v_is, v_isN, v_isO, v_isNO, v_non, v_nonI, v_nonL, v_nonT, v_nonB, v_eqI, v_neI, v_eqS, v_neS, v_lenL, v_lenT, v_abs, v_max2, v_min2, v_min3, v_intsM, v_ints0, v_ints1, v_blsM, v_blsF, v_intsF, v_maxL, v_minL, v_sum, v_sort, v_all, v_any, v_int, v_intB, v_list, v_listT, v_tuple, v_kIsN, v_kIsI, v_kIsL, v_kIsT, v_kIsB, v_isInt, v_isBool, v_isLst, v_isTup, v_repr, v_reprE, v_at, v_atL, v_atN, v_ixT, v_ixL, v_ixN, e_qK, e_qV, v_gKd, v_gOs, v_gLs, v_gDs, v_gDsT, v_gF, v_gI, v_isNn, e_Vn', e_Mn', v_isNo1, v_isNo2, e_pV, e_qIxF, e_qIxN, e_qI, e_qB, e_get, kIt_l', v_ixLit, v_ix0, v_at0, v_at1, v_ix1, e_apply', e_eB, e_cK, e_cT1, e_cT2, e_cTb, e_wipe0, e_wipe1, e_back0, e_back1, v_bkF, v_bkNo, v_bkN, v_tY, v_Vg, v_atLast, v_ixS, v_setLast, v_fzSnoc, v_fzSnocC, v_LIM, v_fzF, v_fzC, v_fzFF, v_intsC, v_blsC, e_SrtSet, v_ss, e_tup2, kT2_2, v_minPI, v_minPP, v_isB, e_tBor, kTb_o, v_frzS_f, v_frzS_no, v_frzS_n, e_appP, e_clrP, v_appEach0, v_appEach1, v_appEachM, e_forApp0, e_forApp1, e_AS, v_kFl, e_tpo, v_ixTp, fz_tp, e_idx, kIdA_f, v_idx, v_ltT, e_borS, ], ?_⟩
      obtain ⟨ρ, e2, L2, p5, p8, p9, p10, nd2, h2, hc2, rfl⟩ := can_l2 (o1 := .f (.lst (ls.map .int))) (o2 := .f (.int q)) (o6 := .f (.int j)) (o8 := o8) (o9 := o9) (o10 := o10) w1 hS lP hr (by omega) (by omega) zw k.zb (fun s hs => k.zs hs) f5 n5
      have fL : frzs (L2.map fun r => Ow.f (rowD r)) = some (L2.map rowD) := lns_fz
      refine wp_eq (.nx [.f (.int b), .f (.lst (ls.map .int)), .f (.int q), .f (.lst (ss.map .int)), .f (.int w), .f (.lst (L2.map rowD)), .f (.int j), .f (.lst (L2.map rowD)), p8, p9, p10, .no, .no, .no]) ?_ ⟨L2, _, _, _, _, _, _, h2, fun st => ?_, rfl, (fun z => by cases z), rfl⟩
      · clear hc2 h2 nd2 hr hg f5
        generalize (L2.map fun r => Ow.f (rowD r)) = LO at *
        generalize L2.map rowD = LD at *
        generalize ls.map Dt.int = L at *
        generalize ss.map Dt.int = SD at *
        generalize (j : Int) = JJ at *
        simp (implicitDefEqProofs := false) (decide := true) (maxDischargeDepth := 9) [e_bnd, e_ret, e_opt, kO_s, kO_n, kO_i, kB_n, kB_o, kB_x, kB_i, e_val, kV_n, kV_o, kV_x, kV_i, e_seq, kS_n, kS_nx, kS_rt, kS_bk, kS_ct, kS_ex, kS_i, e_nil, e_pass, e_brk, e_cnt, e_sret, e_sretN, e_expr, e_if, e_set, e_par, e_par3, kP3_3, e_tgt, kTg_f, kTg_n, e_gN, e_gT, e_gs0, e_gs1, e_aug, kAg_i, e_app, kAp_l, e_item, e_for, e_forN, e_fn, kF_n, kF_nx, kF_rt, kF_ex, kF_i, e_outs0, e_outsT, e_outsF, e_K, e_Vf, e_Mf, e_bin, e_un, e_A0, e_A1, e_lst, e_tup, e_C, e_tV, kT_b, e_tAnd, e_tOr, e_tNot, e_xNot, kNt_b, e_xAnd, kAn_b, e_xOr, kOr_b, e_xIf, e_ch, kCh_i, kCz_i, e_is, e_Q, e_Rg1, e_Rg2, e_Sl, kSl_f, e_oN, e_oS, e_call, kA_rt, kA_ex, kA_n, kA_i, e_R0, e_Rv, e_Ri, e_callK, kCK_f, e_take0, e_takeV, e_takeI, e_put0, e_putV, e_putI, fz_f, fz_l, fzs_0, fzs_1, fzs_map, fzs_mapI, fzs_1l, e_b1, e_b2, e_b2g, e_bs, v_bn, v_add, v_sub, v_mul, v_div, v_mod, v_pow, v_neg, v_catNN, v_catFN, v_catNF, v_catFF, v_rep, v_lt, v_le, v_gt, v_ge, v_is, v_isN, v_isO, v_isNO, v_non, v_nonI, v_nonL, v_nonT, v_nonB, v_eqI, v_neI, v_eqS, v_neS, v_lenL, v_lenT, v_abs, v_max2, v_min2, v_min3, v_intsM, v_ints0, v_ints1, v_blsM, v_blsF, v_intsF, v_maxL, v_minL, v_sum, v_sort, v_all, v_any, v_int, v_intB, v_list, v_listT, v_tuple, v_kIsN, v_kIsI, v_kIsL, v_kIsT, v_kIsB, v_isInt, v_isBool, v_isLst, v_isTup, v_repr, v_reprE, v_at, v_atL, v_atN, v_ixT, v_ixL, v_ixN, e_qK, e_qV, v_gKd, v_gOs, v_gLs, v_gDs, v_gDsT, v_gF, v_gI, v_isNn, e_Vn', e_Mn', v_isNo1, v_isNo2, e_pV, e_qIxF, e_qIxN, e_qI, e_qB, e_get, kIt_l', v_ixLit, v_ix0, v_at0, v_at1, v_ix1, e_apply', e_eB, e_cK, e_cT1, e_cT2, e_cTb, e_wipe0, e_wipe1, e_back0, e_back1, v_bkF, v_bkNo, v_bkN, v_tY, v_Vg, v_atLast, v_ixS, v_setLast, v_fzSnoc, v_fzSnocC, v_LIM, v_fzF, v_fzC, v_fzFF, v_intsC, v_blsC, e_SrtSet, v_ss, e_tup2, kT2_2, v_minPI, v_minPP, v_isB, e_tBor, kTb_o, v_frzS_f, v_frzS_no, v_frzS_n, e_appP, e_clrP, v_appEach0, v_appEach1, v_appEachM, e_forApp0, e_forApp1, e_AS, v_kFl, e_tpo, v_ixTp, fz_tp, e_idx, kIdA_f, v_idx, v_ltT, e_borS, e2, fL]
      · obtain ⟨x, hx, sx⟩ := hg st
        obtain ⟨r, hp⟩ := pick_ex (w := w) (m := S.length) (l := gJ x) (s := gJ S)
        have hf : failS b q ls ss = none ∨ True := .inr trivial
        have sh : ShN w S.length (gJ S) := by
          have g0 : ∀ j, j < ls.length → 0 ≤ gJ ss j := fun j hj => k.s0 _ (List.mem_of_getElem? (getE_some (by omega)))
          refine ⟨w1, fun i hi => ?_, ?_⟩
          · rw [hS, partJ_get]
            exact Int.mul_nonneg (g0 i (by omega)) (by omega)
          · have e : sumN S.length (gJ S) = sumN S.length (gJ ss) * b := by
              rw [← sumN_mulL]
              exact sumN_congr fun i hi => by rw [hS, partJ_get]
            have sm : sumN S.length (gJ ss) ≤ q := by rw [lS, ← list_sumJ rfl]; exact k.sm
            rw [e, hw, Int.mul_comm b q]
            exact Int.mul_le_mul_of_nonneg_right sm (by omega)
        have sn := stJ_step sh sx hp
        exact ⟨_, hc2 x hx r (fun y hy => by subst hy; exact hp.1) ⟨sn.good.lo, sn.good.hi⟩, sn⟩
    · intro ρ ⟨Ln, o5, o6, o7, o8, o9, o10, hr, hg, f5, n5, e⟩
      rw [List.length_map, DL.rng_length, tT] at hr
      exact ⟨Ln, _, _, _, _, _, _, hr, hg, f5, n5, e⟩
  have hiff : (failS b q ls ss = none) ↔ Ln ≠ [] := by
    constructor
    · intro hf
      obtain ⟨_, gd⟩ := good_J k hf
      obtain ⟨x, hx, _⟩ := hg ⟨lP, by rw [lS, sl, hS, hP, hw]; exact gd⟩
      exact fun z => by rw [z] at hx; cases hx
    · intro hn
      obtain ⟨x, hx⟩ := List.exists_mem_of_ne_nil _ hn
      have ra := reach_all w1 (hr x hx)
      refine (failS_none q1).mpr fun t t1 t2 => ?_
      obtain ⟨n, rfl⟩ : ∃ n : Nat, t = (n : Int) := ⟨t.toNat, by omega⟩
      have := ra n (by omega) (by omega)
      rw [dueL_J (m := ss.length) sl.symm rfl]
      rw [hS, hP, hw, partJ_len] at this
      exact this
  have nn := ne_nilI (ls := Ln)
  have e2 : (!decide (Ln = [])) = decide (failS b q ls ss = none) := by
    by_cases h : Ln = []
    · rw [decide_eq_true h, decide_eq_false fun z => hiff.mp z h]
      rfl
    · rw [decide_eq_false h, decide_eq_true (hiff.mpr h)]
      rfl
  rw [e2] at nn
  have c2 := fun o0 o3 => can_x2 (ls := ls) (q := q) (o0 := o0) (o3 := o3) (by omega) (fun l hl => k.zl hl) k.zq
  rw [← hP] at c2
  clear hiff e2 hr hg
  generalize decide (failS b q ls ss = none) = D at *
  generalize (P.map fun x => Ow.f (.int x)) = A at *
  generalize Ln.map rowD = LD at *
  generalize ls.map Dt.int = L at *
  generalize ss.map Dt.int = SD at *
  simp (implicitDefEqProofs := false) (decide := true) (maxDischargeDepth := 9) [e_bnd, e_ret, e_opt, kO_s, kO_n, kO_i, kB_n, kB_o, kB_x, kB_i, e_val, kV_n, kV_o, kV_x, kV_i, e_seq, kS_n, kS_nx, kS_rt, kS_bk, kS_ct, kS_ex, kS_i, e_nil, e_pass, e_brk, e_cnt, e_sret, e_sretN, e_expr, e_if, e_set, e_par, e_par3, kP3_3, e_tgt, kTg_f, kTg_n, e_gN, e_gT, e_gs0, e_gs1, e_aug, kAg_i, e_app, kAp_l, e_item, e_for, e_forN, e_fn, kF_n, kF_nx, kF_rt, kF_ex, kF_i, e_outs0, e_outsT, e_outsF, e_K, e_Vf, e_Mf, e_bin, e_un, e_A0, e_A1, e_lst, e_tup, e_C, e_tV, kT_b, e_tAnd, e_tOr, e_tNot, e_xNot, kNt_b, e_xAnd, kAn_b, e_xOr, kOr_b, e_xIf, e_ch, kCh_i, kCz_i, e_is, e_Q, e_Rg1, e_Rg2, e_Sl, kSl_f, e_oN, e_oS, e_call, kA_rt, kA_ex, kA_n, kA_i, e_R0, e_Rv, e_Ri, e_callK, kCK_f, e_take0, e_takeV, e_takeI, e_put0, e_putV, e_putI, fz_f, fz_l, fzs_0, fzs_1, fzs_map, fzs_mapI, fzs_1l, e_b1, e_b2, e_b2g, e_bs, v_bn, v_add, v_sub, v_mul, v_div, v_mod, v_pow, v_neg, v_catNN, v_catFN, v_catNF, v_catFF, v_rep, v_lt, v_le, v_gt, v_ge, v_is, v_isN, v_isO, v_isNO, v_non, v_nonI, v_nonL, v_nonT, v_nonB, v_eqI, v_neI, v_eqS, v_neS, v_lenL, v_lenT, v_abs, v_max2, v_min2, v_min3, v_intsM, v_ints0, v_ints1, v_blsM, v_blsF, v_intsF, v_maxL, v_minL, v_sum, v_sort, v_all, v_any, v_int, v_intB, v_list, v_listT, v_tuple, v_kIsN, v_kIsI, v_kIsL, v_kIsT, v_kIsB, v_isInt, v_isBool, v_isLst, v_isTup, v_repr, v_reprE, v_at, v_atL, v_atN, v_ixT, v_ixL, v_ixN, e_qK, e_qV, v_gKd, v_gOs, v_gLs, v_gDs, v_gDsT, v_gF, v_gI, v_isNn, e_Vn', e_Mn', v_isNo1, v_isNo2, e_pV, e_qIxF, e_qIxN, e_qI, e_qB, e_get, kIt_l', v_ixLit, v_ix0, v_at0, v_at1, v_ix1, e_apply', e_eB, e_cK, e_cT1, e_cT2, e_cTb, e_wipe0, e_wipe1, e_back0, e_back1, v_bkF, v_bkNo, v_bkN, v_tY, v_Vg, v_atLast, v_ixS, v_setLast, v_fzSnoc, v_fzSnocC, v_LIM, v_fzF, v_fzC, v_fzFF, v_intsC, v_blsC, e_SrtSet, v_ss, e_tup2, kT2_2, v_minPI, v_minPP, v_isB, e_tBor, kTb_o, v_frzS_f, v_frzS_no, v_frzS_n, e_appP, e_clrP, v_appEach0, v_appEach1, v_appEachM, e_forApp0, e_forApp1, e_AS, v_kFl, e_tpo, v_ixTp, fz_tp, e_idx, kIdA_f, v_idx, v_ltT, e_borS, f__law_can_fe40, b__law_can_fe40, bb, bq, ← hw, c2, e, f5, n5, nn]
end
end Ev
/-! items of own lists; data that repr takes -/
namespace Ev
open OW
open DL (Dt)
def Wx (n m : Nat) (d : Dt) : Prop := d.SmR ∧ d.dep ≤ n ∧ d.wt ≤ m
theorem Wx.mono {n m n' m' : Nat} {d : Dt} (h : Wx n m d) (a : n ≤ n') (b : m ≤ m') : Wx n' m' d := ⟨h.1, Nat.le_trans h.2.1 a, Nat.le_trans h.2.2 b⟩
theorem wx_depA {n : Nat} : ∀ {ds : List Dt}, (∀ x ∈ ds, x.dep ≤ n) → DL.Dt.depA ds ≤ n
  | [], _ => Nat.zero_le _
  | d :: ds, h => by
    show max d.dep (DL.Dt.depA ds) ≤ n
    have := h d List.mem_cons_self
    have := wx_depA fun x hx => h x (List.mem_cons_of_mem _ hx)
    omega
theorem wx_wtA {n : Nat} : ∀ {ds : List Dt}, (∀ x ∈ ds, x.wt ≤ n) → DL.Dt.wtA ds ≤ ds.length * (n + 2)
  | [], _ => Nat.zero_le _
  | d :: ds, h => by
    show d.wt + 2 + DL.Dt.wtA ds ≤ _
    have := h d List.mem_cons_self
    have := wx_wtA fun x hx => h x (List.mem_cons_of_mem _ hx)
    rw [List.length_cons, Nat.succ_mul]
    omega
theorem wx_lst {n m k : Nat} {ds : List Dt} (hl : ds.length ≤ k) (h : ∀ x ∈ ds, Wx n m x) : Wx (n + 1) (k * (m + 2) + 3) (.lst ds) := by
  refine ⟨DL.SmRA.of fun x hx => (h x hx).1, ?_, ?_⟩
  · show DL.Dt.depA ds + 1 ≤ n + 1
    have := wx_depA fun x hx => (h x hx).2.1
    omega
  · show DL.Dt.wtA ds + 2 ≤ _
    have := wx_wtA fun x hx => (h x hx).2.2
    have := Nat.mul_le_mul_right (m + 2) hl
    omega
theorem wx_int {x : Int} (h : Sz 150 x) : Wx 3 20000 (.int x) := ⟨h.up (by decide) |>.lt, Nat.zero_le _, show 1921 ≤ 20000 by decide⟩
theorem wx_repr {ds : List Dt} (hl : ds.length ≤ 4) (h : ∀ x ∈ ds, Wx 6 3000000 x) : kRepr [.lst ds] = some (.f (.str (Dt.text (.lst ds)))) := by
  obtain ⟨a, b, c⟩ := wx_lst hl h
  exact v_reprE (DL.fitsE_of a (Nat.le_trans b (by decide)) (Nat.le_trans c (by decide))) (.inl ⟨_, rfl⟩)
end Ev
namespace Ev
open OW
open DL (Dt)
theorem ix3 {x a b c : Int} (h0 : 0 ≤ x) (h1 : x < 3) : bIx (.n .lst [.f (.int a), .f (.int b), .f (.int c)]) (.f (.int x)) = some (.f (.int (pk3' x a b c))) := by
  have : x = 0 ∨ x = 1 ∨ x = 2 := by omega
  rcases this with rfl | rfl | rfl <;> rfl
theorem ix2 {x a b : Int} (h0 : 0 ≤ x) (h1 : x < 2) : bIx (.n .lst [.f (.int a), .f (.int b)]) (.f (.int x)) = some (.f (.int (pk2' x a b))) := by
  have : x = 0 ∨ x = 1 := by omega
  rcases this with rfl | rfl <;> rfl
theorem change_loop {x : Src} {b q far most : Int} {n m : Nat} {c : Chg} (b1 : 1 ≤ b) (b2 : b ≤ MP) (q2 : q ≤ 3001) (k : ChgOk b q 0 m c) (hc : c.some = [] ∧ c.parts = []) (hm : m ≤ 10 ^ 12) (hn : n ≤ 12) (o8 : Ow) :
    ∃ ρ, forL (gN 8) (sSeq (sApp 4 (xBin bIx (xLst (xA1 (xBin bSub (xBin bAdd (xCall 2 f__law_draw_ffea (xRi 0 (xRv (xBin bSub (xBin bMul (xK (.int 2)) (xV 3)) (xK (.int 1))) xR0))) (xK (.int 1))) (xV 3)) (xA1 (xBin bSub (xK (.int 1)) (xV 3)) (xA1 (xK (.int 0)) xA0)))) (xCall 2 f__law_draw_ffea (xRi 0 (xRv (xK (.int 3)) xR0))))) (sSeq (sApp 6 (xCall 2 f__law_draw_ffea (xRi 0 (xRv (xBin bAdd (xV 7) (xK (.int 1))) xR0)))) (sSeq (sSet 7 (xBin bSub (xV 7) (xGet (pV 6) (qK (.int (-1)))))) sNil))) ((DL.rng 0 n).map .int) [srcO c.s, .f (.int far), .f (.int most), .f (.int b), .n .lst [], .f (.int q), .n .lst [], .f (.int c.left), o8] = some (.nx ρ) ∧
      ∃ o8, ρ = [srcO (chIt b n c).s, .f (.int far), .f (.int most), .f (.int b), .n .lst ((chIt b n c).some.map fun y => .f (.int y)), .f (.int q), .n .lst ((chIt b n c).parts.map fun y => .f (.int y)), .f (.int (chIt b n c).left), o8] := by
  refine wp_nx ?_
  have hlen : ((DL.rng 0 n).map Dt.int).length = n := by rw [List.length_map, DL.rng_length]
  haveI : Sz 150 b := sz_of (by omega) (by unfold MP at b2; omega)
  refine w_for (fun j ρ => ∃ o8, ρ = [srcO (chIt b j c).s, .f (.int far), .f (.int most), .f (.int b), .n .lst ((chIt b j c).some.map fun y => .f (.int y)), .f (.int q), .n .lst ((chIt b j c).parts.map fun y => .f (.int y)), .f (.int (chIt b j c).left), o8]) ⟨o8, by show _ = [srcO c.s, _, _, _, .n .lst (c.some.map _), _, .n .lst (c.parts.map _), .f (.int c.left), _]; rw [hc.1, hc.2]; rfl⟩ ?_ fun ρ z => by rw [hlen] at z; exact z
  intro j d ρ hd ⟨o8, e⟩
  subst e
  obtain ⟨hj, rfl⟩ := rng_at hd
  have kj := chIt_ok b1 k j
  obtain ⟨cj, hcj⟩ : ∃ cj, cj = chIt b j c := ⟨_, rfl⟩
  have hs : chIt b (j + 1) c = chStep b cj := by rw [hcj]; rfl
  rw [hs]
  rw [← hcj] at kj ⊢
  have lf := kj.lf
  have sm := kj.sm
  have sp := sum_nn kj.s0
  have p1 : 0 < 2 * b - 1 := by omega
  have p3 : 0 < cj.left + 1 := by omega
  haveI : Sz 64 cj.left := sz_of (by omega) (by omega)
  have k1 := draw_ok kj.ok p1
  have k2 := draw_ok k1 (show (0 : Int) < 3 by decide)
  have e1 := draw_ev kj.ok (by omega) p1 (bn_sz (by decide))
  have e2 := draw_ev k1 (by omega) (show (0 : Int) < 3 by decide) (bn_sz (by decide))
  have e3 := draw_ev k2 (by omega) p3 (bn_sz (by decide))
  have x3 := ix3 (a := (draw cj.s (2 * b - 1)).1 + 1 - b) (b := 1 - b) (c := 0) (draw_lo (draw cj.s (2 * b - 1)).2 (show (0 : Int) < 3 by decide)) (draw_hi (draw cj.s (2 * b - 1)).2 (show (0 : Int) < 3 by decide))
  have l1 : cj.some.length < 1000000 := by rw [kj.l1]; omega
  have l2 : cj.parts.length < 1000000 := by rw [kj.l2]; omega
  refine ⟨[srcO cj.s, .f (.int far), .f (.int most), .f (.int b), .n .lst (cj.some.map fun y => .f (.int y)), .f (.int q), .n .lst (cj.parts.map fun y => .f (.int y)), .f (.int cj.left), .f (.int j)], by simp (implicitDefEqProofs := false) (decide := true) (maxDischargeDepth := 9) [e_bnd, e_ret, e_opt, kO_s, kO_n, kO_i, kB_n, kB_o, kB_x, kB_i, e_val, kV_n, kV_o, kV_x, kV_i, e_seq, kS_n, kS_nx, kS_rt, kS_bk, kS_ct, kS_ex, kS_i, e_nil, e_pass, e_brk, e_cnt, e_sret, e_sretN, e_expr, e_if, e_set, e_par, e_par3, kP3_3, e_tgt, kTg_f, kTg_n, e_gN, e_gT, e_gs0, e_gs1, e_aug, kAg_i, e_app, kAp_l, e_item, e_for, e_forN, e_fn, kF_n, kF_nx, kF_rt, kF_ex, kF_i, e_outs0, e_outsT, e_outsF, e_K, e_Vf, e_Mf, e_bin, e_un, e_A0, e_A1, e_lst, e_tup, e_C, e_tV, kT_b, e_tAnd, e_tOr, e_tNot, e_xNot, kNt_b, e_xAnd, kAn_b, e_xOr, kOr_b, e_xIf, e_ch, kCh_i, kCz_i, e_is, e_Q, e_Rg1, e_Rg2, e_Sl, kSl_f, e_oN, e_oS, e_call, kA_rt, kA_ex, kA_n, kA_i, e_R0, e_Rv, e_Ri, e_callK, kCK_f, e_take0, e_takeV, e_takeI, e_put0, e_putV, e_putI, fz_f, fz_l, fzs_0, fzs_1, fzs_map, fzs_mapI, fzs_1l, e_b1, e_b2, e_b2g, e_bs, v_bn, v_add, v_sub, v_mul, v_div, v_mod, v_pow, v_neg, v_catNN, v_catFN, v_catNF, v_catFF, v_rep, v_lt, v_le, v_gt, v_ge, v_is, v_isN, v_isO, v_isNO, v_non, v_nonI, v_nonL, v_nonT, v_nonB, v_eqI, v_neI, v_eqS, v_neS, v_lenL, v_lenT, v_abs, v_max2, v_min2, v_min3, v_intsM, v_ints0, v_ints1, v_blsM, v_blsF, v_intsF, v_maxL, v_minL, v_sum, v_sort, v_all, v_any, v_int, v_intB, v_list, v_listT, v_tuple, v_kIsN, v_kIsI, v_kIsL, v_kIsT, v_kIsB, v_isInt, v_isBool, v_isLst, v_isTup, v_repr, v_reprE, v_at, v_atL, v_atN, v_ixT, v_ixL, v_ixN, e_qK, e_qV, v_gKd, v_gOs, v_gLs, v_gDs, v_gDsT, v_gF, v_gI, v_isNn, e_Vn', e_Mn', v_isNo1, v_isNo2, e_pV, e_qIxF, e_qIxN, e_qI, e_qB, e_get, kIt_l', v_ixLit, v_ix0, v_at0, v_at1, v_ix1, e_apply', e_eB, e_cK, e_cT1, e_cT2, e_cTb, e_wipe0, e_wipe1, e_back0, e_back1, v_bkF, v_bkNo, v_bkN, v_tY, v_Vg, v_atLast, v_ixS, v_setLast, v_fzSnoc, v_fzSnocC, v_LIM, v_fzF, v_fzC, v_fzFF, v_intsC, v_blsC, e_SrtSet, v_ss, e_tup2, kT2_2, v_minPI, v_minPP, v_isB, e_tBor, kTb_o, v_frzS_f, v_frzS_no, v_frzS_n, e_appP, e_clrP, v_appEach0, v_appEach1, v_appEachM, e_forApp0, e_forApp1, e_AS, v_kFl, e_tpo, v_ixTp, fz_tp, e_idx, kIdA_f, v_idx, v_ltT, e_borS, ], ?_⟩
  refine wp_eq (.nx [srcO (chStep b cj).s, .f (.int far), .f (.int most), .f (.int b), .n .lst ((chStep b cj).some.map fun y => .f (.int y)), .f (.int q), .n .lst ((chStep b cj).parts.map fun y => .f (.int y)), .f (.int (chStep b cj).left), .f (.int j)]) ?_ ⟨_, rfl⟩
  unfold chStep
  simp (implicitDefEqProofs := false) (decide := true) (maxDischargeDepth := 9) [e_bnd, e_ret, e_opt, kO_s, kO_n, kO_i, kB_n, kB_o, kB_x, kB_i, e_val, kV_n, kV_o, kV_x, kV_i, e_seq, kS_n, kS_nx, kS_rt, kS_bk, kS_ct, kS_ex, kS_i, e_nil, e_pass, e_brk, e_cnt, e_sret, e_sretN, e_expr, e_if, e_set, e_par, e_par3, kP3_3, e_tgt, kTg_f, kTg_n, e_gN, e_gT, e_gs0, e_gs1, e_aug, kAg_i, e_app, kAp_l, e_item, e_for, e_forN, e_fn, kF_n, kF_nx, kF_rt, kF_ex, kF_i, e_outs0, e_outsT, e_outsF, e_K, e_Vf, e_Mf, e_bin, e_un, e_A0, e_A1, e_lst, e_tup, e_C, e_tV, kT_b, e_tAnd, e_tOr, e_tNot, e_xNot, kNt_b, e_xAnd, kAn_b, e_xOr, kOr_b, e_xIf, e_ch, kCh_i, kCz_i, e_is, e_Q, e_Rg1, e_Rg2, e_Sl, kSl_f, e_oN, e_oS, e_call, kA_rt, kA_ex, kA_n, kA_i, e_R0, e_Rv, e_Ri, e_callK, kCK_f, e_take0, e_takeV, e_takeI, e_put0, e_putV, e_putI, fz_f, fz_l, fzs_0, fzs_1, fzs_map, fzs_mapI, fzs_1l, e_b1, e_b2, e_b2g, e_bs, v_bn, v_add, v_sub, v_mul, v_div, v_mod, v_pow, v_neg, v_catNN, v_catFN, v_catNF, v_catFF, v_rep, v_lt, v_le, v_gt, v_ge, v_is, v_isN, v_isO, v_isNO, v_non, v_nonI, v_nonL, v_nonT, v_nonB, v_eqI, v_neI, v_eqS, v_neS, v_lenL, v_lenT, v_abs, v_max2, v_min2, v_min3, v_intsM, v_ints0, v_ints1, v_blsM, v_blsF, v_intsF, v_maxL, v_minL, v_sum, v_sort, v_all, v_any, v_int, v_intB, v_list, v_listT, v_tuple, v_kIsN, v_kIsI, v_kIsL, v_kIsT, v_kIsB, v_isInt, v_isBool, v_isLst, v_isTup, v_repr, v_reprE, v_at, v_atL, v_atN, v_ixT, v_ixL, v_ixN, e_qK, e_qV, v_gKd, v_gOs, v_gLs, v_gDs, v_gDsT, v_gF, v_gI, v_isNn, e_Vn', e_Mn', v_isNo1, v_isNo2, e_pV, e_qIxF, e_qIxN, e_qI, e_qB, e_get, kIt_l', v_ixLit, v_ix0, v_at0, v_at1, v_ix1, e_apply', e_eB, e_cK, e_cT1, e_cT2, e_cTb, e_wipe0, e_wipe1, e_back0, e_back1, v_bkF, v_bkNo, v_bkN, v_tY, v_Vg, v_atLast, v_ixS, v_setLast, v_fzSnoc, v_fzSnocC, v_LIM, v_fzF, v_fzC, v_fzFF, v_intsC, v_blsC, e_SrtSet, v_ss, e_tup2, kT2_2, v_minPI, v_minPP, v_isB, e_tBor, kTb_o, v_frzS_f, v_frzS_no, v_frzS_n, e_appP, e_clrP, v_appEach0, v_appEach1, v_appEachM, e_forApp0, e_forApp1, e_AS, v_kFl, e_tpo, v_ixTp, fz_tp, e_idx, kIdA_f, v_idx, v_ltT, e_borS, e1, e2, e3, x3, l1, l2, srcO_no]
theorem change_eval {x : Src} {far most : Int} {m : Nat} (k : x.Ok m) (hm : m ≤ 10 ^ 11) (f1 : 1 ≤ far) (f2 : far ≤ 3000) (m1 : 1 ≤ most) (m2 : most ≤ 12) :
    f__law_change_3e3b [srcO x, .f (.int far), .f (.int most)] = some (.rt (.f (.tup [.int (chg x far most).b, .lst ((chg x far most).some.map .int), .int (chg x far most).q, .lst ((chg x far most).parts.map .int)])) [srcO (chg x far most).s, .no, .no]) := by
  have d4 : (0 : Int) < 4 := by decide
  have d9 : (0 : Int) < 9 := by decide
  have d30 : (0 : Int) < 999999999999999999999999999999 := by decide
  have d3 : (0 : Int) < 3 := by decide
  have ka := draw_ok k d4
  have kb := draw_ok ka d9
  have kc := draw_ok kb d30
  have kd := draw_ok kc d3
  have e1 := draw_ev k (by omega) d4 (bn_sz (by decide))
  have e2 := draw_ev ka (by omega) d9 (bn_sz (by decide))
  have e3 := draw_ev kb (by omega) d30 (bn_sz (by decide))
  have e4 := draw_ev kc (by omega) d3 (bn_sz (by decide))
  have x1 := ix3 (a := (draw x 4).1) (b := (draw (draw x 4).2 9).1) (c := (draw (draw (draw x 4).2 9).2 999999999999999999999999999999).1) (draw_lo (draw (draw (draw x 4).2 9).2 999999999999999999999999999999).2 d3) (draw_hi (draw (draw (draw x 4).2 9).2 999999999999999999999999999999).2 d3)
  obtain ⟨g1, g2, kg⟩ := gnd_ok k
  have hg1 : 1 + pk3' (draw (draw (draw (draw x 4).2 9).2 999999999999999999999999999999).2 3).1 (draw x 4).1 (draw (draw x 4).2 9).1 (draw (draw (draw x 4).2 9).2 999999999999999999999999999999).1 = (gnd x).1 := rfl
  have hg2 : (draw (draw (draw (draw x 4).2 9).2 999999999999999999999999999999).2 3).2 = (gnd x).2 := rfl
  have pf : 0 < far := by omega
  haveI : Sz 64 far := sz_of (by omega) (by omega)
  haveI : Sz 64 most := sz_of (by omega) (by omega)
  have e5 := draw_ev kg (by omega) pf (bn_sz (by decide))
  have kf := draw_ok kg pf
  have fl := draw_lo (gnd x).2 pf
  have fh := draw_hi (gnd x).2 pf
  haveI : Sz 64 (draw (gnd x).2 far).1 := sz_of (by omega) (by omega)
  have pq : 0 < 1 + (draw (gnd x).2 far).1 + 1 := by omega
  have e6 := draw_ev kf (by omega) pq (bn_sz (by decide))
  have kq := draw_ok kf pq
  have e7 := draw_ev kq (by omega) d3 (bn_sz (by decide))
  have kr := draw_ok kq d3
  have x2 := ix3 (a := 0) (b := 0) (c := (draw (draw (gnd x).2 far).2 (1 + (draw (gnd x).2 far).1 + 1)).1) (draw_lo (draw (draw (gnd x).2 far).2 (1 + (draw (gnd x).2 far).1 + 1)).2 d3) (draw_hi (draw (draw (gnd x).2 far).2 (1 + (draw (gnd x).2 far).1 + 1)).2 d3)
  have pm : 0 < most := by omega
  have e8 := draw_ev kr (by omega) pm (bn_sz (by decide))
  have t0 := draw_lo (draw (draw (draw (gnd x).2 far).2 (1 + (draw (gnd x).2 far).1 + 1)).2 3).2 pm
  have t1 := draw_hi (draw (draw (draw (gnd x).2 far).2 (1 + (draw (gnd x).2 far).1 + 1)).2 3).2 pm
  have base := chg0_base k f1 f2 m1 m2
  obtain ⟨n, hn⟩ : ∃ n, n = (1 + (draw (draw (draw (draw (gnd x).2 far).2 (1 + (draw (gnd x).2 far).1 + 1)).2 3).2 most).1).toNat := ⟨_, rfl⟩
  have ec : chIt (gnd x).1 n (chgS x far most) = chg0 x far most := by rw [hn]; rfl
  obtain ⟨ρ, el, o8, rfl⟩ := change_loop (x := x) (far := far) (most := most) (n := n) (q := 1 + (draw (gnd x).2 far).1) g1 g2 (by omega) base ⟨rfl, rfl⟩ (by omega) (by omega) .no
  have co := chIt_ok g1 base n
  rw [ec] at el co
  have lo : l1__law_change_3e3b [srcO (draw (draw (draw (gnd x).2 far).2 (1 + (draw (gnd x).2 far).1 + 1)).2 3).2, .f (.int far), .f (.int most), .f (.int (gnd x).1), .n .lst [], .f (.int (1 + (draw (gnd x).2 far).1)), .n .lst [], .f (.int (1 + (draw (gnd x).2 far).1 - pk3' (draw (draw (draw (gnd x).2 far).2 (1 + (draw (gnd x).2 far).1 + 1)).2 3).1 0 0 (draw (draw (gnd x).2 far).2 (1 + (draw (gnd x).2 far).1 + 1)).1)), .no] = some (.nx [srcO (chg0 x far most).s, .f (.int far), .f (.int most), .f (.int (gnd x).1), .n .lst ((chg0 x far most).some.map fun y => .f (.int y)), .f (.int (1 + (draw (gnd x).2 far).1)), .n .lst ((chg0 x far most).parts.map fun y => .f (.int y)), .f (.int (chg0 x far most).left), o8]) := by
    unfold l1__law_change_3e3b
    rw [e_for, iR1_f (n := 1 + (draw (draw (draw (draw (gnd x).2 far).2 (1 + (draw (gnd x).2 far).1 + 1)).2 3).2 most).1) (ρ1 := [srcO (chgS x far most).s, .f (.int far), .f (.int most), .f (.int (gnd x).1), .n .lst [], .f (.int (1 + (draw (gnd x).2 far).1)), .n .lst [], .f (.int (chgS x far most).left), .no]) (by unfold chgS; simp (implicitDefEqProofs := false) (decide := true) (maxDischargeDepth := 9) [e_bnd, e_ret, e_opt, kO_s, kO_n, kO_i, kB_n, kB_o, kB_x, kB_i, e_val, kV_n, kV_o, kV_x, kV_i, e_seq, kS_n, kS_nx, kS_rt, kS_bk, kS_ct, kS_ex, kS_i, e_nil, e_pass, e_brk, e_cnt, e_sret, e_sretN, e_expr, e_if, e_set, e_par, e_par3, kP3_3, e_tgt, kTg_f, kTg_n, e_gN, e_gT, e_gs0, e_gs1, e_aug, kAg_i, e_app, kAp_l, e_item, e_for, e_forN, e_fn, kF_n, kF_nx, kF_rt, kF_ex, kF_i, e_outs0, e_outsT, e_outsF, e_K, e_Vf, e_Mf, e_bin, e_un, e_A0, e_A1, e_lst, e_tup, e_C, e_tV, kT_b, e_tAnd, e_tOr, e_tNot, e_xNot, kNt_b, e_xAnd, kAn_b, e_xOr, kOr_b, e_xIf, e_ch, kCh_i, kCz_i, e_is, e_Q, e_Rg1, e_Rg2, e_Sl, kSl_f, e_oN, e_oS, e_call, kA_rt, kA_ex, kA_n, kA_i, e_R0, e_Rv, e_Ri, e_callK, kCK_f, e_take0, e_takeV, e_takeI, e_put0, e_putV, e_putI, fz_f, fz_l, fzs_0, fzs_1, fzs_map, fzs_mapI, fzs_1l, e_b1, e_b2, e_b2g, e_bs, v_bn, v_add, v_sub, v_mul, v_div, v_mod, v_pow, v_neg, v_catNN, v_catFN, v_catNF, v_catFF, v_rep, v_lt, v_le, v_gt, v_ge, v_is, v_isN, v_isO, v_isNO, v_non, v_nonI, v_nonL, v_nonT, v_nonB, v_eqI, v_neI, v_eqS, v_neS, v_lenL, v_lenT, v_abs, v_max2, v_min2, v_min3, v_intsM, v_ints0, v_ints1, v_blsM, v_blsF, v_intsF, v_maxL, v_minL, v_sum, v_sort, v_all, v_any, v_int, v_intB, v_list, v_listT, v_tuple, v_kIsN, v_kIsI, v_kIsL, v_kIsT, v_kIsB, v_isInt, v_isBool, v_isLst, v_isTup, v_repr, v_reprE, v_at, v_atL, v_atN, v_ixT, v_ixL, v_ixN, e_qK, e_qV, v_gKd, v_gOs, v_gLs, v_gDs, v_gDsT, v_gF, v_gI, v_isNn, e_Vn', e_Mn', v_isNo1, v_isNo2, e_pV, e_qIxF, e_qIxN, e_qI, e_qB, e_get, kIt_l', v_ixLit, v_ix0, v_at0, v_at1, v_ix1, e_apply', e_eB, e_cK, e_cT1, e_cT2, e_cTb, e_wipe0, e_wipe1, e_back0, e_back1, v_bkF, v_bkNo, v_bkN, v_tY, v_Vg, v_atLast, v_ixS, v_setLast, v_fzSnoc, v_fzSnocC, v_LIM, v_fzF, v_fzC, v_fzFF, v_intsC, v_blsC, e_SrtSet, v_ss, e_tup2, kT2_2, v_minPI, v_minPP, v_isB, e_tBor, kTb_o, v_frzS_f, v_frzS_no, v_frzS_n, e_appP, e_clrP, v_appEach0, v_appEach1, v_appEachM, e_forApp0, e_forApp1, e_AS, v_kFl, e_tpo, v_ixTp, fz_tp, e_idx, kIdA_f, v_idx, v_ltT, e_borS, e8, srcO_no]), kV_o, ← hn]
    exact el
  obtain ⟨ch, hch⟩ : ∃ ch, ch = chg0 x far most := ⟨_, rfl⟩
  have hcc : chg x far most = ⟨(gnd x).1, ch.some, 1 + (draw (gnd x).2 far).1, upLast ch.parts (pk2' (draw ch.s 2).1 0 ch.left), (draw ch.s 2).2⟩ := by rw [hch]; rfl
  rw [hcc]
  rw [← hch] at lo co
  have e9 := draw_ev co.ok (by omega) (show (0 : Int) < 2 by decide) (bn_sz (by decide))
  have x9 := ix2 (a := 0) (b := ch.left) (draw_lo ch.s (show (0 : Int) < 2 by decide)) (draw_hi ch.s (show (0 : Int) < 2 by decide))
  obtain ⟨ps, y, hps⟩ : ∃ ps y, ch.parts = ps ++ [y] := by
    have hne : ch.parts ≠ [] := fun h => by
      have := co.l2
      rw [h] at this
      simp at this
      omega
    exact ⟨ch.parts.dropLast, ch.parts.getLast hne, (List.dropLast_concat_getLast hne).symm⟩
  rw [hps, upLast_app]
  rw [hps] at lo
  have hl1 := co.l1
  simp (implicitDefEqProofs := false) (decide := true) (maxDischargeDepth := 9) [e_bnd, e_ret, e_opt, kO_s, kO_n, kO_i, kB_n, kB_o, kB_x, kB_i, e_val, kV_n, kV_o, kV_x, kV_i, e_seq, kS_n, kS_nx, kS_rt, kS_bk, kS_ct, kS_ex, kS_i, e_nil, e_pass, e_brk, e_cnt, e_sret, e_sretN, e_expr, e_if, e_set, e_par, e_par3, kP3_3, e_tgt, kTg_f, kTg_n, e_gN, e_gT, e_gs0, e_gs1, e_aug, kAg_i, e_app, kAp_l, e_item, e_for, e_forN, e_fn, kF_n, kF_nx, kF_rt, kF_ex, kF_i, e_outs0, e_outsT, e_outsF, e_K, e_Vf, e_Mf, e_bin, e_un, e_A0, e_A1, e_lst, e_tup, e_C, e_tV, kT_b, e_tAnd, e_tOr, e_tNot, e_xNot, kNt_b, e_xAnd, kAn_b, e_xOr, kOr_b, e_xIf, e_ch, kCh_i, kCz_i, e_is, e_Q, e_Rg1, e_Rg2, e_Sl, kSl_f, e_oN, e_oS, e_call, kA_rt, kA_ex, kA_n, kA_i, e_R0, e_Rv, e_Ri, e_callK, kCK_f, e_take0, e_takeV, e_takeI, e_put0, e_putV, e_putI, fz_f, fz_l, fzs_0, fzs_1, fzs_map, fzs_mapI, fzs_1l, e_b1, e_b2, e_b2g, e_bs, v_bn, v_add, v_sub, v_mul, v_div, v_mod, v_pow, v_neg, v_catNN, v_catFN, v_catNF, v_catFF, v_rep, v_lt, v_le, v_gt, v_ge, v_is, v_isN, v_isO, v_isNO, v_non, v_nonI, v_nonL, v_nonT, v_nonB, v_eqI, v_neI, v_eqS, v_neS, v_lenL, v_lenT, v_abs, v_max2, v_min2, v_min3, v_intsM, v_ints0, v_ints1, v_blsM, v_blsF, v_intsF, v_maxL, v_minL, v_sum, v_sort, v_all, v_any, v_int, v_intB, v_list, v_listT, v_tuple, v_kIsN, v_kIsI, v_kIsL, v_kIsT, v_kIsB, v_isInt, v_isBool, v_isLst, v_isTup, v_repr, v_reprE, v_at, v_atL, v_atN, v_ixT, v_ixL, v_ixN, e_qK, e_qV, v_gKd, v_gOs, v_gLs, v_gDs, v_gDsT, v_gF, v_gI, v_isNn, e_Vn', e_Mn', v_isNo1, v_isNo2, e_pV, e_qIxF, e_qIxN, e_qI, e_qB, e_get, kIt_l', v_ixLit, v_ix0, v_at0, v_at1, v_ix1, e_apply', e_eB, e_cK, e_cT1, e_cT2, e_cTb, e_wipe0, e_wipe1, e_back0, e_back1, v_bkF, v_bkNo, v_bkN, v_tY, v_Vg, v_atLast, v_ixS, v_setLast, v_fzSnoc, v_fzSnocC, v_LIM, v_fzF, v_fzC, v_fzFF, v_intsC, v_blsC, e_SrtSet, v_ss, e_tup2, kT2_2, v_minPI, v_minPP, v_isB, e_tBor, kTb_o, v_frzS_f, v_frzS_no, v_frzS_n, e_appP, e_clrP, v_appEach0, v_appEach1, v_appEachM, e_forApp0, e_forApp1, e_AS, v_kFl, e_tpo, v_ixTp, fz_tp, e_idx, kIdA_f, v_idx, v_ltT, e_borS, f__law_change_3e3b, b__law_change_3e3b, e1, e2, e3, e4, x1, hg1, hg2, e5, e6, e7, x2, lo, e9, x9, srcO_no]
end Ev
namespace Ev
open OW
open DL (Dt)
theorem failH_eval {b q : Int} {ls ss : List Int} (k : ChOk b ls q ss) : f_failing_4e64 [.f (.int b), .f (.lst (ls.map .int)), .f (.int q), .f (.lst (ss.map .int))] = some (.rt (oO (failS b q ls ss)) [.no, .no, .no, .no]) := by
  have q1 := k.q1
  have q2 := k.q2
  have key : (∃ ρ, l1_failing_4e64 [.f (.int b), .f (.lst (ls.map .int)), .f (.int q), .f (.lst (ss.map .int)), .no] = some (.nx ρ) ∧ (failS b q ls ss = none ∧ ∃ o4, ρ = [.f (.int b), .f (.lst (ls.map .int)), .f (.int q), .f (.lst (ss.map .int)), o4])) ∨
      ∃ o ρ, l1_failing_4e64 [.f (.int b), .f (.lst (ls.map .int)), .f (.int q), .f (.lst (ss.map .int)), .no] = some (.rt o ρ) ∧ (∃ t, failS b q ls ss = some t ∧ o = .f (.int t) ∧ ∃ o4, ρ = [.f (.int b), .f (.lst (ls.map .int)), .f (.int q), .f (.lst (ss.map .int)), o4]) := by
    refine wp_or ?_
    unfold l1_failing_4e64
    rw [e_for, iR2_f (m := 1) (n := q + 1) (ρ1 := [.f (.int b), .f (.lst (ls.map .int)), .f (.int q), .f (.lst (ss.map .int)), .no]) (ρ2 := [.f (.int b), .f (.lst (ls.map .int)), .f (.int q), .f (.lst (ss.map .int)), .no]) (by simp (implicitDefEqProofs := false) (decide := true) (maxDischargeDepth := 9) [e_bnd, e_ret, e_opt, kO_s, kO_n, kO_i, kB_n, kB_o, kB_x, kB_i, e_val, kV_n, kV_o, kV_x, kV_i, e_seq, kS_n, kS_nx, kS_rt, kS_bk, kS_ct, kS_ex, kS_i, e_nil, e_pass, e_brk, e_cnt, e_sret, e_sretN, e_expr, e_if, e_set, e_par, e_par3, kP3_3, e_tgt, kTg_f, kTg_n, e_gN, e_gT, e_gs0, e_gs1, e_aug, kAg_i, e_app, kAp_l, e_item, e_for, e_forN, e_fn, kF_n, kF_nx, kF_rt, kF_ex, kF_i, e_outs0, e_outsT, e_outsF, e_K, e_Vf, e_Mf, e_bin, e_un, e_A0, e_A1, e_lst, e_tup, e_C, e_tV, kT_b, e_tAnd, e_tOr, e_tNot, e_xNot, kNt_b, e_xAnd, kAn_b, e_xOr, kOr_b, e_xIf, e_ch, kCh_i, kCz_i, e_is, e_Q, e_Rg1, e_Rg2, e_Sl, kSl_f, e_oN, e_oS, e_call, kA_rt, kA_ex, kA_n, kA_i, e_R0, e_Rv, e_Ri, e_callK, kCK_f, e_take0, e_takeV, e_takeI, e_put0, e_putV, e_putI, fz_f, fz_l, fzs_0, fzs_1, fzs_map, fzs_mapI, fzs_1l, e_b1, e_b2, e_b2g, e_bs, v_bn, v_add, v_sub, v_mul, v_div, v_mod, v_pow, v_neg, v_catNN, v_catFN, v_catNF, v_catFF, v_rep, v_lt, v_le, v_gt, v_ge, v_is, v_isN, v_isO, v_isNO, v_non, v_nonI, v_nonL, v_nonT, v_nonB, v_eqI, v_neI, v_eqS, v_neS, v_lenL, v_lenT, v_abs, v_max2, v_min2, v_min3, v_intsM, v_ints0, v_ints1, v_blsM, v_blsF, v_intsF, v_maxL, v_minL, v_sum, v_sort, v_all, v_any, v_int, v_intB, v_list, v_listT, v_tuple, v_kIsN, v_kIsI, v_kIsL, v_kIsT, v_kIsB, v_isInt, v_isBool, v_isLst, v_isTup, v_repr, v_reprE, v_at, v_atL, v_atN, v_ixT, v_ixL, v_ixN, e_qK, e_qV, v_gKd, v_gOs, v_gLs, v_gDs, v_gDsT, v_gF, v_gI, v_isNn, e_Vn', e_Mn', v_isNo1, v_isNo2, e_pV, e_qIxF, e_qIxN, e_qI, e_qB, e_get, kIt_l', v_ixLit, v_ix0, v_at0, v_at1, v_ix1, e_apply', e_eB, e_cK, e_cT1, e_cT2, e_cTb, e_wipe0, e_wipe1, e_back0, e_back1, v_bkF, v_bkNo, v_bkN, v_tY, v_Vg, v_atLast, v_ixS, v_setLast, v_fzSnoc, v_fzSnocC, v_LIM, v_fzF, v_fzC, v_fzFF, v_intsC, v_blsC, e_SrtSet, v_ss, e_tup2, kT2_2, v_minPI, v_minPP, v_isB, e_tBor, kTb_o, v_frzS_f, v_frzS_no, v_frzS_n, e_appP, e_clrP, v_appEach0, v_appEach1, v_appEachM, e_forApp0, e_forApp1, e_AS, v_kFl, e_tpo, v_ixTp, fz_tp, e_idx, kIdA_f, v_idx, v_ltT, e_borS, ]) (by simp (implicitDefEqProofs := false) (decide := true) (maxDischargeDepth := 9) [e_bnd, e_ret, e_opt, kO_s, kO_n, kO_i, kB_n, kB_o, kB_x, kB_i, e_val, kV_n, kV_o, kV_x, kV_i, e_seq, kS_n, kS_nx, kS_rt, kS_bk, kS_ct, kS_ex, kS_i, e_nil, e_pass, e_brk, e_cnt, e_sret, e_sretN, e_expr, e_if, e_set, e_par, e_par3, kP3_3, e_tgt, kTg_f, kTg_n, e_gN, e_gT, e_gs0, e_gs1, e_aug, kAg_i, e_app, kAp_l, e_item, e_for, e_forN, e_fn, kF_n, kF_nx, kF_rt, kF_ex, kF_i, e_outs0, e_outsT, e_outsF, e_K, e_Vf, e_Mf, e_bin, e_un, e_A0, e_A1, e_lst, e_tup, e_C, e_tV, kT_b, e_tAnd, e_tOr, e_tNot, e_xNot, kNt_b, e_xAnd, kAn_b, e_xOr, kOr_b, e_xIf, e_ch, kCh_i, kCz_i, e_is, e_Q, e_Rg1, e_Rg2, e_Sl, kSl_f, e_oN, e_oS, e_call, kA_rt, kA_ex, kA_n, kA_i, e_R0, e_Rv, e_Ri, e_callK, kCK_f, e_take0, e_takeV, e_takeI, e_put0, e_putV, e_putI, fz_f, fz_l, fzs_0, fzs_1, fzs_map, fzs_mapI, fzs_1l, e_b1, e_b2, e_b2g, e_bs, v_bn, v_add, v_sub, v_mul, v_div, v_mod, v_pow, v_neg, v_catNN, v_catFN, v_catNF, v_catFF, v_rep, v_lt, v_le, v_gt, v_ge, v_is, v_isN, v_isO, v_isNO, v_non, v_nonI, v_nonL, v_nonT, v_nonB, v_eqI, v_neI, v_eqS, v_neS, v_lenL, v_lenT, v_abs, v_max2, v_min2, v_min3, v_intsM, v_ints0, v_ints1, v_blsM, v_blsF, v_intsF, v_maxL, v_minL, v_sum, v_sort, v_all, v_any, v_int, v_intB, v_list, v_listT, v_tuple, v_kIsN, v_kIsI, v_kIsL, v_kIsT, v_kIsB, v_isInt, v_isBool, v_isLst, v_isTup, v_repr, v_reprE, v_at, v_atL, v_atN, v_ixT, v_ixL, v_ixN, e_qK, e_qV, v_gKd, v_gOs, v_gLs, v_gDs, v_gDsT, v_gF, v_gI, v_isNn, e_Vn', e_Mn', v_isNo1, v_isNo2, e_pV, e_qIxF, e_qIxN, e_qI, e_qB, e_get, kIt_l', v_ixLit, v_ix0, v_at0, v_at1, v_ix1, e_apply', e_eB, e_cK, e_cT1, e_cT2, e_cTb, e_wipe0, e_wipe1, e_back0, e_back1, v_bkF, v_bkNo, v_bkN, v_tY, v_Vg, v_atLast, v_ixS, v_setLast, v_fzSnoc, v_fzSnocC, v_LIM, v_fzF, v_fzC, v_fzFF, v_intsC, v_blsC, e_SrtSet, v_ss, e_tup2, kT2_2, v_minPI, v_minPP, v_isB, e_tBor, kTb_o, v_frzS_f, v_frzS_no, v_frzS_n, e_appP, e_clrP, v_appEach0, v_appEach1, v_appEachM, e_forApp0, e_forApp1, e_AS, v_kFl, e_tpo, v_ixTp, fz_tp, e_idx, kIdA_f, v_idx, v_ltT, e_borS, ]), kV_o]
    have hlen : ((DL.rng 1 (q + 1 - 1).toNat).map Dt.int).length = q.toNat := by rw [List.length_map, DL.rng_length]; omega
    refine w_for (fun j ρ => failTo b q ls ss j = none ∧ ∃ o4, ρ = [.f (.int b), .f (.lst (ls.map .int)), .f (.int q), .f (.lst (ss.map .int)), o4]) ⟨rfl, _, rfl⟩ ?_ fun ρ ⟨z, o4, z2⟩ => by
      rw [hlen] at z
      exact ⟨z, _, z2⟩
    intro j d ρ hd ⟨hb, o4, e⟩
    subst e
    have hj : j < q.toNat := by
      have := (List.getElem?_eq_some_iff.mp hd).1
      rw [hlen] at this
      exact this
    obtain ⟨_, rfl⟩ := DL.rng_get hd
    haveI : Sz 64 (1 + (j : Int)) := sz_of (by omega) (by omega)
    refine ⟨[.f (.int b), .f (.lst (ls.map .int)), .f (.int q), .f (.lst (ss.map .int)), .f (.int (1 + j))], by simp (implicitDefEqProofs := false) (decide := true) (maxDischargeDepth := 9) [e_bnd, e_ret, e_opt, kO_s, kO_n, kO_i, kB_n, kB_o, kB_x, kB_i, e_val, kV_n, kV_o, kV_x, kV_i, e_seq, kS_n, kS_nx, kS_rt, kS_bk, kS_ct, kS_ex, kS_i, e_nil, e_pass, e_brk, e_cnt, e_sret, e_sretN, e_expr, e_if, e_set, e_par, e_par3, kP3_3, e_tgt, kTg_f, kTg_n, e_gN, e_gT, e_gs0, e_gs1, e_aug, kAg_i, e_app, kAp_l, e_item, e_for, e_forN, e_fn, kF_n, kF_nx, kF_rt, kF_ex, kF_i, e_outs0, e_outsT, e_outsF, e_K, e_Vf, e_Mf, e_bin, e_un, e_A0, e_A1, e_lst, e_tup, e_C, e_tV, kT_b, e_tAnd, e_tOr, e_tNot, e_xNot, kNt_b, e_xAnd, kAn_b, e_xOr, kOr_b, e_xIf, e_ch, kCh_i, kCz_i, e_is, e_Q, e_Rg1, e_Rg2, e_Sl, kSl_f, e_oN, e_oS, e_call, kA_rt, kA_ex, kA_n, kA_i, e_R0, e_Rv, e_Ri, e_callK, kCK_f, e_take0, e_takeV, e_takeI, e_put0, e_putV, e_putI, fz_f, fz_l, fzs_0, fzs_1, fzs_map, fzs_mapI, fzs_1l, e_b1, e_b2, e_b2g, e_bs, v_bn, v_add, v_sub, v_mul, v_div, v_mod, v_pow, v_neg, v_catNN, v_catFN, v_catNF, v_catFF, v_rep, v_lt, v_le, v_gt, v_ge, v_is, v_isN, v_isO, v_isNO, v_non, v_nonI, v_nonL, v_nonT, v_nonB, v_eqI, v_neI, v_eqS, v_neS, v_lenL, v_lenT, v_abs, v_max2, v_min2, v_min3, v_intsM, v_ints0, v_ints1, v_blsM, v_blsF, v_intsF, v_maxL, v_minL, v_sum, v_sort, v_all, v_any, v_int, v_intB, v_list, v_listT, v_tuple, v_kIsN, v_kIsI, v_kIsL, v_kIsT, v_kIsB, v_isInt, v_isBool, v_isLst, v_isTup, v_repr, v_reprE, v_at, v_atL, v_atN, v_ixT, v_ixL, v_ixN, e_qK, e_qV, v_gKd, v_gOs, v_gLs, v_gDs, v_gDsT, v_gF, v_gI, v_isNn, e_Vn', e_Mn', v_isNo1, v_isNo2, e_pV, e_qIxF, e_qIxN, e_qI, e_qB, e_get, kIt_l', v_ixLit, v_ix0, v_at0, v_at1, v_ix1, e_apply', e_eB, e_cK, e_cT1, e_cT2, e_cTb, e_wipe0, e_wipe1, e_back0, e_back1, v_bkF, v_bkNo, v_bkN, v_tY, v_Vg, v_atLast, v_ixS, v_setLast, v_fzSnoc, v_fzSnocC, v_LIM, v_fzF, v_fzC, v_fzFF, v_intsC, v_blsC, e_SrtSet, v_ss, e_tup2, kT2_2, v_minPI, v_minPP, v_isB, e_tBor, kTb_o, v_frzS_f, v_frzS_no, v_frzS_n, e_appP, e_clrP, v_appEach0, v_appEach1, v_appEachM, e_forApp0, e_forApp1, e_AS, v_kFl, e_tpo, v_ixTp, fz_tp, e_idx, kIdA_f, v_idx, v_ltT, e_borS, ], ?_⟩
    have e1 := due_later_eval (t := 1 + (j : Int)) k inferInstance
    have hs := failTo_step hb
    clear hd
    by_cases hp : dueL b q (1 + (j : Int)) ls ss > 1 + (j : Int)
    · rw [if_pos hp] at hs
      have hp' : 1 + (j : Int) < dueL b q (1 + (j : Int)) ls ss := hp
      refine wp_eq (.rt (.f (.int (1 + j))) [.f (.int b), .f (.lst (ls.map .int)), .f (.int q), .f (.lst (ss.map .int)), .f (.int (1 + j))]) ?_ ⟨1 + (j : Int), failTo_stays hs _ (by omega), rfl, _, rfl⟩
      generalize dueL b q (1 + (j : Int)) ls ss = D at *
      generalize ls.map Dt.int = L at *
      generalize ss.map Dt.int = S at *
      generalize 1 + (j : Int) = J at *
      simp (implicitDefEqProofs := false) (decide := true) (maxDischargeDepth := 9) [e_bnd, e_ret, e_opt, kO_s, kO_n, kO_i, kB_n, kB_o, kB_x, kB_i, e_val, kV_n, kV_o, kV_x, kV_i, e_seq, kS_n, kS_nx, kS_rt, kS_bk, kS_ct, kS_ex, kS_i, e_nil, e_pass, e_brk, e_cnt, e_sret, e_sretN, e_expr, e_if, e_set, e_par, e_par3, kP3_3, e_tgt, kTg_f, kTg_n, e_gN, e_gT, e_gs0, e_gs1, e_aug, kAg_i, e_app, kAp_l, e_item, e_for, e_forN, e_fn, kF_n, kF_nx, kF_rt, kF_ex, kF_i, e_outs0, e_outsT, e_outsF, e_K, e_Vf, e_Mf, e_bin, e_un, e_A0, e_A1, e_lst, e_tup, e_C, e_tV, kT_b, e_tAnd, e_tOr, e_tNot, e_xNot, kNt_b, e_xAnd, kAn_b, e_xOr, kOr_b, e_xIf, e_ch, kCh_i, kCz_i, e_is, e_Q, e_Rg1, e_Rg2, e_Sl, kSl_f, e_oN, e_oS, e_call, kA_rt, kA_ex, kA_n, kA_i, e_R0, e_Rv, e_Ri, e_callK, kCK_f, e_take0, e_takeV, e_takeI, e_put0, e_putV, e_putI, fz_f, fz_l, fzs_0, fzs_1, fzs_map, fzs_mapI, fzs_1l, e_b1, e_b2, e_b2g, e_bs, v_bn, v_add, v_sub, v_mul, v_div, v_mod, v_pow, v_neg, v_catNN, v_catFN, v_catNF, v_catFF, v_rep, v_lt, v_le, v_gt, v_ge, v_is, v_isN, v_isO, v_isNO, v_non, v_nonI, v_nonL, v_nonT, v_nonB, v_eqI, v_neI, v_eqS, v_neS, v_lenL, v_lenT, v_abs, v_max2, v_min2, v_min3, v_intsM, v_ints0, v_ints1, v_blsM, v_blsF, v_intsF, v_maxL, v_minL, v_sum, v_sort, v_all, v_any, v_int, v_intB, v_list, v_listT, v_tuple, v_kIsN, v_kIsI, v_kIsL, v_kIsT, v_kIsB, v_isInt, v_isBool, v_isLst, v_isTup, v_repr, v_reprE, v_at, v_atL, v_atN, v_ixT, v_ixL, v_ixN, e_qK, e_qV, v_gKd, v_gOs, v_gLs, v_gDs, v_gDsT, v_gF, v_gI, v_isNn, e_Vn', e_Mn', v_isNo1, v_isNo2, e_pV, e_qIxF, e_qIxN, e_qI, e_qB, e_get, kIt_l', v_ixLit, v_ix0, v_at0, v_at1, v_ix1, e_apply', e_eB, e_cK, e_cT1, e_cT2, e_cTb, e_wipe0, e_wipe1, e_back0, e_back1, v_bkF, v_bkNo, v_bkN, v_tY, v_Vg, v_atLast, v_ixS, v_setLast, v_fzSnoc, v_fzSnocC, v_LIM, v_fzF, v_fzC, v_fzFF, v_intsC, v_blsC, e_SrtSet, v_ss, e_tup2, kT2_2, v_minPI, v_minPP, v_isB, e_tBor, kTb_o, v_frzS_f, v_frzS_no, v_frzS_n, e_appP, e_clrP, v_appEach0, v_appEach1, v_appEachM, e_forApp0, e_forApp1, e_AS, v_kFl, e_tpo, v_ixTp, fz_tp, e_idx, kIdA_f, v_idx, v_ltT, e_borS, e1, hp']
    · rw [if_neg hp] at hs
      have hp' : ¬ (1 + (j : Int) < dueL b q (1 + (j : Int)) ls ss) := hp
      refine wp_eq (.nx [.f (.int b), .f (.lst (ls.map .int)), .f (.int q), .f (.lst (ss.map .int)), .f (.int (1 + j))]) ?_ ⟨hs, _, rfl⟩
      generalize dueL b q (1 + (j : Int)) ls ss = D at *
      generalize ls.map Dt.int = L at *
      generalize ss.map Dt.int = S at *
      generalize 1 + (j : Int) = J at *
      simp (implicitDefEqProofs := false) (decide := true) (maxDischargeDepth := 9) [e_bnd, e_ret, e_opt, kO_s, kO_n, kO_i, kB_n, kB_o, kB_x, kB_i, e_val, kV_n, kV_o, kV_x, kV_i, e_seq, kS_n, kS_nx, kS_rt, kS_bk, kS_ct, kS_ex, kS_i, e_nil, e_pass, e_brk, e_cnt, e_sret, e_sretN, e_expr, e_if, e_set, e_par, e_par3, kP3_3, e_tgt, kTg_f, kTg_n, e_gN, e_gT, e_gs0, e_gs1, e_aug, kAg_i, e_app, kAp_l, e_item, e_for, e_forN, e_fn, kF_n, kF_nx, kF_rt, kF_ex, kF_i, e_outs0, e_outsT, e_outsF, e_K, e_Vf, e_Mf, e_bin, e_un, e_A0, e_A1, e_lst, e_tup, e_C, e_tV, kT_b, e_tAnd, e_tOr, e_tNot, e_xNot, kNt_b, e_xAnd, kAn_b, e_xOr, kOr_b, e_xIf, e_ch, kCh_i, kCz_i, e_is, e_Q, e_Rg1, e_Rg2, e_Sl, kSl_f, e_oN, e_oS, e_call, kA_rt, kA_ex, kA_n, kA_i, e_R0, e_Rv, e_Ri, e_callK, kCK_f, e_take0, e_takeV, e_takeI, e_put0, e_putV, e_putI, fz_f, fz_l, fzs_0, fzs_1, fzs_map, fzs_mapI, fzs_1l, e_b1, e_b2, e_b2g, e_bs, v_bn, v_add, v_sub, v_mul, v_div, v_mod, v_pow, v_neg, v_catNN, v_catFN, v_catNF, v_catFF, v_rep, v_lt, v_le, v_gt, v_ge, v_is, v_isN, v_isO, v_isNO, v_non, v_nonI, v_nonL, v_nonT, v_nonB, v_eqI, v_neI, v_eqS, v_neS, v_lenL, v_lenT, v_abs, v_max2, v_min2, v_min3, v_intsM, v_ints0, v_ints1, v_blsM, v_blsF, v_intsF, v_maxL, v_minL, v_sum, v_sort, v_all, v_any, v_int, v_intB, v_list, v_listT, v_tuple, v_kIsN, v_kIsI, v_kIsL, v_kIsT, v_kIsB, v_isInt, v_isBool, v_isLst, v_isTup, v_repr, v_reprE, v_at, v_atL, v_atN, v_ixT, v_ixL, v_ixN, e_qK, e_qV, v_gKd, v_gOs, v_gLs, v_gDs, v_gDsT, v_gF, v_gI, v_isNn, e_Vn', e_Mn', v_isNo1, v_isNo2, e_pV, e_qIxF, e_qIxN, e_qI, e_qB, e_get, kIt_l', v_ixLit, v_ix0, v_at0, v_at1, v_ix1, e_apply', e_eB, e_cK, e_cT1, e_cT2, e_cTb, e_wipe0, e_wipe1, e_back0, e_back1, v_bkF, v_bkNo, v_bkN, v_tY, v_Vg, v_atLast, v_ixS, v_setLast, v_fzSnoc, v_fzSnocC, v_LIM, v_fzF, v_fzC, v_fzFF, v_intsC, v_blsC, e_SrtSet, v_ss, e_tup2, kT2_2, v_minPI, v_minPP, v_isB, e_tBor, kTb_o, v_frzS_f, v_frzS_no, v_frzS_n, e_appP, e_clrP, v_appEach0, v_appEach1, v_appEachM, e_forApp0, e_forApp1, e_AS, v_kFl, e_tpo, v_ixTp, fz_tp, e_idx, kIdA_f, v_idx, v_ltT, e_borS, e1, hp']
  rcases key with ⟨ρ, e, hn, o4, rfl⟩ | ⟨o, ρ, e, t, hn, rfl, o4, rfl⟩
  · rw [hn, oO_none']
    simp (implicitDefEqProofs := false) (decide := true) (maxDischargeDepth := 9) [e_bnd, e_ret, e_opt, kO_s, kO_n, kO_i, kB_n, kB_o, kB_x, kB_i, e_val, kV_n, kV_o, kV_x, kV_i, e_seq, kS_n, kS_nx, kS_rt, kS_bk, kS_ct, kS_ex, kS_i, e_nil, e_pass, e_brk, e_cnt, e_sret, e_sretN, e_expr, e_if, e_set, e_par, e_par3, kP3_3, e_tgt, kTg_f, kTg_n, e_gN, e_gT, e_gs0, e_gs1, e_aug, kAg_i, e_app, kAp_l, e_item, e_for, e_forN, e_fn, kF_n, kF_nx, kF_rt, kF_ex, kF_i, e_outs0, e_outsT, e_outsF, e_K, e_Vf, e_Mf, e_bin, e_un, e_A0, e_A1, e_lst, e_tup, e_C, e_tV, kT_b, e_tAnd, e_tOr, e_tNot, e_xNot, kNt_b, e_xAnd, kAn_b, e_xOr, kOr_b, e_xIf, e_ch, kCh_i, kCz_i, e_is, e_Q, e_Rg1, e_Rg2, e_Sl, kSl_f, e_oN, e_oS, e_call, kA_rt, kA_ex, kA_n, kA_i, e_R0, e_Rv, e_Ri, e_callK, kCK_f, e_take0, e_takeV, e_takeI, e_put0, e_putV, e_putI, fz_f, fz_l, fzs_0, fzs_1, fzs_map, fzs_mapI, fzs_1l, e_b1, e_b2, e_b2g, e_bs, v_bn, v_add, v_sub, v_mul, v_div, v_mod, v_pow, v_neg, v_catNN, v_catFN, v_catNF, v_catFF, v_rep, v_lt, v_le, v_gt, v_ge, v_is, v_isN, v_isO, v_isNO, v_non, v_nonI, v_nonL, v_nonT, v_nonB, v_eqI, v_neI, v_eqS, v_neS, v_lenL, v_lenT, v_abs, v_max2, v_min2, v_min3, v_intsM, v_ints0, v_ints1, v_blsM, v_blsF, v_intsF, v_maxL, v_minL, v_sum, v_sort, v_all, v_any, v_int, v_intB, v_list, v_listT, v_tuple, v_kIsN, v_kIsI, v_kIsL, v_kIsT, v_kIsB, v_isInt, v_isBool, v_isLst, v_isTup, v_repr, v_reprE, v_at, v_atL, v_atN, v_ixT, v_ixL, v_ixN, e_qK, e_qV, v_gKd, v_gOs, v_gLs, v_gDs, v_gDsT, v_gF, v_gI, v_isNn, e_Vn', e_Mn', v_isNo1, v_isNo2, e_pV, e_qIxF, e_qIxN, e_qI, e_qB, e_get, kIt_l', v_ixLit, v_ix0, v_at0, v_at1, v_ix1, e_apply', e_eB, e_cK, e_cT1, e_cT2, e_cTb, e_wipe0, e_wipe1, e_back0, e_back1, v_bkF, v_bkNo, v_bkN, v_tY, v_Vg, v_atLast, v_ixS, v_setLast, v_fzSnoc, v_fzSnocC, v_LIM, v_fzF, v_fzC, v_fzFF, v_intsC, v_blsC, e_SrtSet, v_ss, e_tup2, kT2_2, v_minPI, v_minPP, v_isB, e_tBor, kTb_o, v_frzS_f, v_frzS_no, v_frzS_n, e_appP, e_clrP, v_appEach0, v_appEach1, v_appEachM, e_forApp0, e_forApp1, e_AS, v_kFl, e_tpo, v_ixTp, fz_tp, e_idx, kIdA_f, v_idx, v_ltT, e_borS, f_failing_4e64, b_failing_4e64, e]
  · rw [hn, oO_some']
    simp (implicitDefEqProofs := false) (decide := true) (maxDischargeDepth := 9) [e_bnd, e_ret, e_opt, kO_s, kO_n, kO_i, kB_n, kB_o, kB_x, kB_i, e_val, kV_n, kV_o, kV_x, kV_i, e_seq, kS_n, kS_nx, kS_rt, kS_bk, kS_ct, kS_ex, kS_i, e_nil, e_pass, e_brk, e_cnt, e_sret, e_sretN, e_expr, e_if, e_set, e_par, e_par3, kP3_3, e_tgt, kTg_f, kTg_n, e_gN, e_gT, e_gs0, e_gs1, e_aug, kAg_i, e_app, kAp_l, e_item, e_for, e_forN, e_fn, kF_n, kF_nx, kF_rt, kF_ex, kF_i, e_outs0, e_outsT, e_outsF, e_K, e_Vf, e_Mf, e_bin, e_un, e_A0, e_A1, e_lst, e_tup, e_C, e_tV, kT_b, e_tAnd, e_tOr, e_tNot, e_xNot, kNt_b, e_xAnd, kAn_b, e_xOr, kOr_b, e_xIf, e_ch, kCh_i, kCz_i, e_is, e_Q, e_Rg1, e_Rg2, e_Sl, kSl_f, e_oN, e_oS, e_call, kA_rt, kA_ex, kA_n, kA_i, e_R0, e_Rv, e_Ri, e_callK, kCK_f, e_take0, e_takeV, e_takeI, e_put0, e_putV, e_putI, fz_f, fz_l, fzs_0, fzs_1, fzs_map, fzs_mapI, fzs_1l, e_b1, e_b2, e_b2g, e_bs, v_bn, v_add, v_sub, v_mul, v_div, v_mod, v_pow, v_neg, v_catNN, v_catFN, v_catNF, v_catFF, v_rep, v_lt, v_le, v_gt, v_ge, v_is, v_isN, v_isO, v_isNO, v_non, v_nonI, v_nonL, v_nonT, v_nonB, v_eqI, v_neI, v_eqS, v_neS, v_lenL, v_lenT, v_abs, v_max2, v_min2, v_min3, v_intsM, v_ints0, v_ints1, v_blsM, v_blsF, v_intsF, v_maxL, v_minL, v_sum, v_sort, v_all, v_any, v_int, v_intB, v_list, v_listT, v_tuple, v_kIsN, v_kIsI, v_kIsL, v_kIsT, v_kIsB, v_isInt, v_isBool, v_isLst, v_isTup, v_repr, v_reprE, v_at, v_atL, v_atN, v_ixT, v_ixL, v_ixN, e_qK, e_qV, v_gKd, v_gOs, v_gLs, v_gDs, v_gDsT, v_gF, v_gI, v_isNn, e_Vn', e_Mn', v_isNo1, v_isNo2, e_pV, e_qIxF, e_qIxN, e_qI, e_qB, e_get, kIt_l', v_ixLit, v_ix0, v_at0, v_at1, v_ix1, e_apply', e_eB, e_cK, e_cT1, e_cT2, e_cTb, e_wipe0, e_wipe1, e_back0, e_back1, v_bkF, v_bkNo, v_bkN, v_tY, v_Vg, v_atLast, v_ixS, v_setLast, v_fzSnoc, v_fzSnocC, v_LIM, v_fzF, v_fzC, v_fzFF, v_intsC, v_blsC, e_SrtSet, v_ss, e_tup2, kT2_2, v_minPI, v_minPP, v_isB, e_tBor, kTb_o, v_frzS_f, v_frzS_no, v_frzS_n, e_appP, e_clrP, v_appEach0, v_appEach1, v_appEachM, e_forApp0, e_forApp1, e_AS, v_kFl, e_tpo, v_ixTp, fz_tp, e_idx, kIdA_f, v_idx, v_ltT, e_borS, f_failing_4e64, b_failing_4e64, e]
end Ev
/-! law k73: one change -/
namespace Ev
open OW
open DL (Dt)
section
variable {b q : Int} {ls ss : List Int} {o1 o3 : Ow}
theorem moment73_eval (k : ChOk b ls q ss) (h1 : frz o1 = some (.lst (ls.map .int))) (h3 : frz o3 = some (.lst (ss.map .int))) : f_failing_moment_dee4 [.f (.int b), o1, .f (.int q), o3] = some (.rt (oO (failS b q ls ss)) [.no, .no, .no, .no]) := by
  have e1 := need_change_eval k
  have e2 := failH_eval k
  generalize ls.map Dt.int = L at *
  generalize ss.map Dt.int = S at *
  generalize hO : oO (failS b q ls ss) = O at *
  simp (implicitDefEqProofs := false) (decide := true) (maxDischargeDepth := 9) [e_bnd, e_ret, e_opt, kO_s, kO_n, kO_i, kB_n, kB_o, kB_x, kB_i, e_val, kV_n, kV_o, kV_x, kV_i, e_seq, kS_n, kS_nx, kS_rt, kS_bk, kS_ct, kS_ex, kS_i, e_nil, e_pass, e_brk, e_cnt, e_sret, e_sretN, e_expr, e_if, e_set, e_par, e_par3, kP3_3, e_tgt, kTg_f, kTg_n, e_gN, e_gT, e_gs0, e_gs1, e_aug, kAg_i, e_app, kAp_l, e_item, e_for, e_forN, e_fn, kF_n, kF_nx, kF_rt, kF_ex, kF_i, e_outs0, e_outsT, e_outsF, e_K, e_Vf, e_Mf, e_bin, e_un, e_A0, e_A1, e_lst, e_tup, e_C, e_tV, kT_b, e_tAnd, e_tOr, e_tNot, e_xNot, kNt_b, e_xAnd, kAn_b, e_xOr, kOr_b, e_xIf, e_ch, kCh_i, kCz_i, e_is, e_Q, e_Rg1, e_Rg2, e_Sl, kSl_f, e_oN, e_oS, e_call, kA_rt, kA_ex, kA_n, kA_i, e_R0, e_Rv, e_Ri, e_callK, kCK_f, e_take0, e_takeV, e_takeI, e_put0, e_putV, e_putI, fz_f, fz_l, fzs_0, fzs_1, fzs_map, fzs_mapI, fzs_1l, e_b1, e_b2, e_b2g, e_bs, v_bn, v_add, v_sub, v_mul, v_div, v_mod, v_pow, v_neg, v_catNN, v_catFN, v_catNF, v_catFF, v_rep, v_lt, v_le, v_gt, v_ge, v_is, v_isN, v_isO, v_isNO, v_non, v_nonI, v_nonL, v_nonT, v_nonB, v_eqI, v_neI, v_eqS, v_neS, v_lenL, v_lenT, v_abs, v_max2, v_min2, v_min3, v_intsM, v_ints0, v_ints1, v_blsM, v_blsF, v_intsF, v_maxL, v_minL, v_sum, v_sort, v_all, v_any, v_int, v_intB, v_list, v_listT, v_tuple, v_kIsN, v_kIsI, v_kIsL, v_kIsT, v_kIsB, v_isInt, v_isBool, v_isLst, v_isTup, v_repr, v_reprE, v_at, v_atL, v_atN, v_ixT, v_ixL, v_ixN, e_qK, e_qV, v_gKd, v_gOs, v_gLs, v_gDs, v_gDsT, v_gF, v_gI, v_isNn, e_Vn', e_Mn', v_isNo1, v_isNo2, e_pV, e_qIxF, e_qIxN, e_qI, e_qB, e_get, kIt_l', v_ixLit, v_ix0, v_at0, v_at1, v_ix1, e_apply', e_eB, e_cK, e_cT1, e_cT2, e_cTb, e_wipe0, e_wipe1, e_back0, e_back1, v_bkF, v_bkNo, v_bkN, v_tY, v_Vg, v_atLast, v_ixS, v_setLast, v_fzSnoc, v_fzSnocC, v_LIM, v_fzF, v_fzC, v_fzFF, v_intsC, v_blsC, e_SrtSet, v_ss, e_tup2, kT2_2, v_minPI, v_minPP, v_isB, e_tBor, kTb_o, v_frzS_f, v_frzS_no, v_frzS_n, e_appP, e_clrP, v_appEach0, v_appEach1, v_appEachM, e_forApp0, e_forApp1, e_AS, v_kFl, e_tpo, v_ixTp, fz_tp, e_idx, kIdA_f, v_idx, v_ltT, e_borS, f_failing_moment_dee4, b_failing_moment_dee4, e1, e2, h1, h3]
theorem can73_eval (k : ChOk b ls q ss) (h1 : frz o1 = some (.lst (ls.map .int))) (h3 : frz o3 = some (.lst (ss.map .int))) : f_can_change_9bf2 [.f (.int b), o1, .f (.int q), o3] = some (.rt (.f (.bl (decide (failS b q ls ss = none)))) [.no, .no, .no, .no]) := by
  have e1 := need_change_eval k
  have e2 := failH_eval k
  have e3 := oO_is (o := failS b q ls ss)
  generalize ls.map Dt.int = L at *
  generalize ss.map Dt.int = S at *
  generalize decide (failS b q ls ss = none) = D at *
  generalize oO (failS b q ls ss) = O at *
  simp (implicitDefEqProofs := false) (decide := true) (maxDischargeDepth := 9) [e_bnd, e_ret, e_opt, kO_s, kO_n, kO_i, kB_n, kB_o, kB_x, kB_i, e_val, kV_n, kV_o, kV_x, kV_i, e_seq, kS_n, kS_nx, kS_rt, kS_bk, kS_ct, kS_ex, kS_i, e_nil, e_pass, e_brk, e_cnt, e_sret, e_sretN, e_expr, e_if, e_set, e_par, e_par3, kP3_3, e_tgt, kTg_f, kTg_n, e_gN, e_gT, e_gs0, e_gs1, e_aug, kAg_i, e_app, kAp_l, e_item, e_for, e_forN, e_fn, kF_n, kF_nx, kF_rt, kF_ex, kF_i, e_outs0, e_outsT, e_outsF, e_K, e_Vf, e_Mf, e_bin, e_un, e_A0, e_A1, e_lst, e_tup, e_C, e_tV, kT_b, e_tAnd, e_tOr, e_tNot, e_xNot, kNt_b, e_xAnd, kAn_b, e_xOr, kOr_b, e_xIf, e_ch, kCh_i, kCz_i, e_is, e_Q, e_Rg1, e_Rg2, e_Sl, kSl_f, e_oN, e_oS, e_call, kA_rt, kA_ex, kA_n, kA_i, e_R0, e_Rv, e_Ri, e_callK, kCK_f, e_take0, e_takeV, e_takeI, e_put0, e_putV, e_putI, fz_f, fz_l, fzs_0, fzs_1, fzs_map, fzs_mapI, fzs_1l, e_b1, e_b2, e_b2g, e_bs, v_bn, v_add, v_sub, v_mul, v_div, v_mod, v_pow, v_neg, v_catNN, v_catFN, v_catNF, v_catFF, v_rep, v_lt, v_le, v_gt, v_ge, v_is, v_isN, v_isO, v_isNO, v_non, v_nonI, v_nonL, v_nonT, v_nonB, v_eqI, v_neI, v_eqS, v_neS, v_lenL, v_lenT, v_abs, v_max2, v_min2, v_min3, v_intsM, v_ints0, v_ints1, v_blsM, v_blsF, v_intsF, v_maxL, v_minL, v_sum, v_sort, v_all, v_any, v_int, v_intB, v_list, v_listT, v_tuple, v_kIsN, v_kIsI, v_kIsL, v_kIsT, v_kIsB, v_isInt, v_isBool, v_isLst, v_isTup, v_repr, v_reprE, v_at, v_atL, v_atN, v_ixT, v_ixL, v_ixN, e_qK, e_qV, v_gKd, v_gOs, v_gLs, v_gDs, v_gDsT, v_gF, v_gI, v_isNn, e_Vn', e_Mn', v_isNo1, v_isNo2, e_pV, e_qIxF, e_qIxN, e_qI, e_qB, e_get, kIt_l', v_ixLit, v_ix0, v_at0, v_at1, v_ix1, e_apply', e_eB, e_cK, e_cT1, e_cT2, e_cTb, e_wipe0, e_wipe1, e_back0, e_back1, v_bkF, v_bkNo, v_bkN, v_tY, v_Vg, v_atLast, v_ixS, v_setLast, v_fzSnoc, v_fzSnocC, v_LIM, v_fzF, v_fzC, v_fzFF, v_intsC, v_blsC, e_SrtSet, v_ss, e_tup2, kT2_2, v_minPI, v_minPP, v_isB, e_tBor, kTb_o, v_frzS_f, v_frzS_no, v_frzS_n, e_appP, e_clrP, v_appEach0, v_appEach1, v_appEachM, e_forApp0, e_forApp1, e_AS, v_kFl, e_tpo, v_ixTp, fz_tp, e_idx, kIdA_f, v_idx, v_ltT, e_borS, f_can_change_9bf2, b_can_change_9bf2, e1, e2, e3, h1, h3]
end
theorem chg_len {x : Src} {far most : Int} {m : Nat} (k : x.Ok m) (f1 : 1 ≤ far) (f2 : far ≤ 3000) (m1 : 1 ≤ most) (m2 : most ≤ 12) : ((chg x far most).some.length : Int) ≤ most := by
  obtain ⟨g1, g2, kg⟩ := gnd_ok k
  have base := chg0_base k f1 f2 m1 m2
  have t0 := draw_lo (draw (draw (draw (gnd x).2 far).2 (1 + (draw (gnd x).2 far).1 + 1)).2 3).2 (show 0 < most by omega)
  have t1 := draw_hi (draw (draw (draw (gnd x).2 far).2 (1 + (draw (gnd x).2 far).1 + 1)).2 3).2 (show 0 < most by omega)
  have c := chIt_ok g1 base (1 + (draw (draw (draw (draw (gnd x).2 far).2 (1 + (draw (gnd x).2 far).1 + 1)).2 3).2 most).1).toNat
  have ec : chIt (gnd x).1 (1 + (draw (draw (draw (draw (gnd x).2 far).2 (1 + (draw (gnd x).2 far).1 + 1)).2 3).2 most).1).toNat (chgS x far most) = chg0 x far most := rfl
  rw [ec] at c
  have e : (chg x far most).some = (chg0 x far most).some := rfl
  rw [e, c.l1]
  omega
theorem wx_dO {o : Option Int} (h : ∀ i, o = some i → Sz 150 i) : Wx 6 3000000 (dO o) := by
  cases o with
  | none => exact ⟨trivial, Nat.zero_le _, by decide⟩
  | some i => exact (wx_int (h i rfl)).mono (by decide) (by decide)
theorem wx_blI {b : Bool} : Wx 6 3000000 (.bl b) := ⟨trivial, Nat.zero_le _, by cases b <;> decide⟩
theorem wx_intsI {ls : List Int} (hl : ls.length ≤ 20) (h : ∀ l ∈ ls, Sz 150 l) : Wx 6 3000000 (.lst (ls.map .int)) := (wx_lst (n := 3) (m := 20000) (k := 20) (by rw [List.length_map]; exact hl) (fun x hx => by
  obtain ⟨s, hs, rfl⟩ := List.mem_map.mp hx
  exact wx_int (h s hs))).mono (by decide) (by decide)
theorem failS_le {b q t : Int} {ls ss : List Int} (q1 : 1 ≤ q) (h : failS b q ls ss = some t) : 1 ≤ t ∧ t ≤ q := by
  unfold failS at h
  have key : ∀ n : Nat, failTo b q ls ss n = some t → 1 ≤ t ∧ t ≤ n := by
    intro n
    induction n with
    | zero => intro h; cases h
    | succ n ih =>
      intro h
      cases e : failTo b q ls ss n with
      | some u =>
        rw [failTo_stays e (n + 1) (by omega)] at h
        cases h
        have := ih e
        omega
      | none =>
        rw [failTo_step e] at h
        split at h
        · cases h; omega
        · cases h
  have := key _ h
  omega
section
variable {b q : Int} {ls ss : List Int} {sh : Bool}
theorem right73 (k : ChOk b ls q ss) (hs : sh = true → ls.length ≤ 3) : f__law_right_3951 [.f (.int b), .f (.lst (ls.map .int)), .f (.int q), .f (.lst (ss.map .int)), .f (.bl sh)] = some (.rt (.f (.bl true)) [.no, .no, .no, .no, .no]) := by
  have l1 := k.l1
  have l2 := k.l2
  have sl := k.sl
  have q1 := k.q1
  have q2 := k.q2
  have hz : ∀ l ∈ ls, Sz 150 l := fun l hl => k.zl hl
  have hz2 : ∀ l ∈ ss, Sz 150 l := fun l hl => (k.zs hl).up (by decide)
  have er := wx_repr (ds := [.lst (ls.map .int), .lst (ss.map .int)]) (by simp) (fun u hu => by
    simp only [List.mem_cons, List.not_mem_nil, or_false] at hu
    rcases hu with rfl | rfl
    · exact wx_intsI (by omega) hz
    · exact wx_intsI (by omega) hz2)
  generalize Dt.text (.lst [.lst (ls.map .int), .lst (ss.map .int)]) = T at *
  have eT : cEq (.f (.str T)) (.f (.str T)) = some (.f (.bl true)) := by rw [v_eqS, decide_eq_true rfl]
  have ef := failing_eval (b := b) (q := q) (ls := ls) (ss := ss) (o1 := .f (.lst (ls.map .int))) (o3 := .f (.lst (ss.map .int))) k.fl rfl rfl
  have em := moment73_eval (o1 := .f (.lst (ls.map .int))) (o3 := .f (.lst (ss.map .int))) k rfl rfl
  have ec := can73_eval (o1 := .f (.lst (ls.map .int))) (o3 := .f (.lst (ss.map .int))) k rfl rfl
  have ew : sh = true → f__law_can_fe40 [.f (.int b), .f (.lst (ls.map .int)), .f (.int q), .f (.lst (ss.map .int))] = some (.rt (.f (.bl (decide (failS b q ls ss = none)))) [.no, .no, .no, .no]) := fun h => can_eval73 k (hs h)
  have wd : Wx 6 3000000 (dO (failS b q ls ss)) := wx_dO fun i hi => by
    have := failS_le q1 hi
    exact sz_of (by omega) (by omega)
  have e2 := wx_repr (ds := [dO (failS b q ls ss), dO (failS b q ls ss)]) (by simp) (fun u hu => by
    simp only [List.mem_cons, List.not_mem_nil, or_false, or_self] at hu
    subst hu
    exact wd)
  generalize Dt.text (.lst [dO (failS b q ls ss), dO (failS b q ls ss)]) = T2 at *
  have nT2 : cNe (.f (.str T2)) (.f (.str T2)) = some (.f (.bl false)) := by rw [v_neS, decide_eq_true rfl]; rfl
  have e3 := wx_repr (ds := [.bl (decide (failS b q ls ss = none)), .bl (decide (failS b q ls ss = none))]) (by simp) (fun u hu => by
    simp only [List.mem_cons, List.not_mem_nil, or_false, or_self] at hu
    subst hu
    exact wx_blI)
  generalize Dt.text (.lst [.bl (decide (failS b q ls ss = none)), .bl (decide (failS b q ls ss = none))]) = T3 at *
  have eT3 : cEq (.f (.str T3)) (.f (.str T3)) = some (.f (.bl true)) := by rw [v_eqS, decide_eq_true rfl]
  have ei := oO_is (o := failS b q ls ss)
  rw [oO_f] at ef em ei
  have nb : ∀ x : Bool, cNe (.f (.bl x)) (.f (.bl x)) = some (.f (.bl false)) := fun x => ne_same (d := .bl x) rfl rfl trivial (show (0 : Nat) ≤ 64 by decide)
  have r2 : ∀ x : Bool, bMul (.n .lst [.f (.bl x)]) (.f (.int 2)) = some (.n .lst [.f (.bl x), .f (.bl x)]) := fun x => rfl
  generalize decide (failS b q ls ss = none) = D at *
  generalize dO (failS b q ls ss) = O at *
  clear k hs hz hz2 wd
  generalize ls.map Dt.int = L at *
  generalize ss.map Dt.int = S at *
  cases sh with
  | true =>
    have ew := ew rfl
    simp (implicitDefEqProofs := false) (decide := true) (maxDischargeDepth := 9) [e_bnd, e_ret, e_opt, kO_s, kO_n, kO_i, kB_n, kB_o, kB_x, kB_i, e_val, kV_n, kV_o, kV_x, kV_i, e_seq, kS_n, kS_nx, kS_rt, kS_bk, kS_ct, kS_ex, kS_i, e_nil, e_pass, e_brk, e_cnt, e_sret, e_sretN, e_expr, e_if, e_set, e_par, e_par3, kP3_3, e_tgt, kTg_f, kTg_n, e_gN, e_gT, e_gs0, e_gs1, e_aug, kAg_i, e_app, kAp_l, e_item, e_for, e_forN, e_fn, kF_n, kF_nx, kF_rt, kF_ex, kF_i, e_outs0, e_outsT, e_outsF, e_K, e_Vf, e_Mf, e_bin, e_un, e_A0, e_A1, e_lst, e_tup, e_C, e_tV, kT_b, e_tAnd, e_tOr, e_tNot, e_xNot, kNt_b, e_xAnd, kAn_b, e_xOr, kOr_b, e_xIf, e_ch, kCh_i, kCz_i, e_is, e_Q, e_Rg1, e_Rg2, e_Sl, kSl_f, e_oN, e_oS, e_call, kA_rt, kA_ex, kA_n, kA_i, e_R0, e_Rv, e_Ri, e_callK, kCK_f, e_take0, e_takeV, e_takeI, e_put0, e_putV, e_putI, fz_f, fz_l, fzs_0, fzs_1, fzs_map, fzs_mapI, fzs_1l, e_b1, e_b2, e_b2g, e_bs, v_bn, v_add, v_sub, v_mul, v_div, v_mod, v_pow, v_neg, v_catNN, v_catFN, v_catNF, v_catFF, v_rep, v_lt, v_le, v_gt, v_ge, v_is, v_isN, v_isO, v_isNO, v_non, v_nonI, v_nonL, v_nonT, v_nonB, v_eqI, v_neI, v_eqS, v_neS, v_lenL, v_lenT, v_abs, v_max2, v_min2, v_min3, v_intsM, v_ints0, v_ints1, v_blsM, v_blsF, v_intsF, v_maxL, v_minL, v_sum, v_sort, v_all, v_any, v_int, v_intB, v_list, v_listT, v_tuple, v_kIsN, v_kIsI, v_kIsL, v_kIsT, v_kIsB, v_isInt, v_isBool, v_isLst, v_isTup, v_repr, v_reprE, v_at, v_atL, v_atN, v_ixT, v_ixL, v_ixN, e_qK, e_qV, v_gKd, v_gOs, v_gLs, v_gDs, v_gDsT, v_gF, v_gI, v_isNn, e_Vn', e_Mn', v_isNo1, v_isNo2, e_pV, e_qIxF, e_qIxN, e_qI, e_qB, e_get, kIt_l', v_ixLit, v_ix0, v_at0, v_at1, v_ix1, e_apply', e_eB, e_cK, e_cT1, e_cT2, e_cTb, e_wipe0, e_wipe1, e_back0, e_back1, v_bkF, v_bkNo, v_bkN, v_tY, v_Vg, v_atLast, v_ixS, v_setLast, v_fzSnoc, v_fzSnocC, v_LIM, v_fzF, v_fzC, v_fzFF, v_intsC, v_blsC, e_SrtSet, v_ss, e_tup2, kT2_2, v_minPI, v_minPP, v_isB, e_tBor, kTb_o, v_frzS_f, v_frzS_no, v_frzS_n, e_appP, e_clrP, v_appEach0, v_appEach1, v_appEachM, e_forApp0, e_forApp1, e_AS, v_kFl, e_tpo, v_ixTp, fz_tp, e_idx, kIdA_f, v_idx, v_ltT, e_borS, f__law_right_3951, b__law_right_3951, er, eT, ef, em, ec, ew, e2, nT2, e3, eT3, ei, nb, r2, DL.perm]
  | false =>
    clear ew
    simp (implicitDefEqProofs := false) (decide := true) (maxDischargeDepth := 9) [e_bnd, e_ret, e_opt, kO_s, kO_n, kO_i, kB_n, kB_o, kB_x, kB_i, e_val, kV_n, kV_o, kV_x, kV_i, e_seq, kS_n, kS_nx, kS_rt, kS_bk, kS_ct, kS_ex, kS_i, e_nil, e_pass, e_brk, e_cnt, e_sret, e_sretN, e_expr, e_if, e_set, e_par, e_par3, kP3_3, e_tgt, kTg_f, kTg_n, e_gN, e_gT, e_gs0, e_gs1, e_aug, kAg_i, e_app, kAp_l, e_item, e_for, e_forN, e_fn, kF_n, kF_nx, kF_rt, kF_ex, kF_i, e_outs0, e_outsT, e_outsF, e_K, e_Vf, e_Mf, e_bin, e_un, e_A0, e_A1, e_lst, e_tup, e_C, e_tV, kT_b, e_tAnd, e_tOr, e_tNot, e_xNot, kNt_b, e_xAnd, kAn_b, e_xOr, kOr_b, e_xIf, e_ch, kCh_i, kCz_i, e_is, e_Q, e_Rg1, e_Rg2, e_Sl, kSl_f, e_oN, e_oS, e_call, kA_rt, kA_ex, kA_n, kA_i, e_R0, e_Rv, e_Ri, e_callK, kCK_f, e_take0, e_takeV, e_takeI, e_put0, e_putV, e_putI, fz_f, fz_l, fzs_0, fzs_1, fzs_map, fzs_mapI, fzs_1l, e_b1, e_b2, e_b2g, e_bs, v_bn, v_add, v_sub, v_mul, v_div, v_mod, v_pow, v_neg, v_catNN, v_catFN, v_catNF, v_catFF, v_rep, v_lt, v_le, v_gt, v_ge, v_is, v_isN, v_isO, v_isNO, v_non, v_nonI, v_nonL, v_nonT, v_nonB, v_eqI, v_neI, v_eqS, v_neS, v_lenL, v_lenT, v_abs, v_max2, v_min2, v_min3, v_intsM, v_ints0, v_ints1, v_blsM, v_blsF, v_intsF, v_maxL, v_minL, v_sum, v_sort, v_all, v_any, v_int, v_intB, v_list, v_listT, v_tuple, v_kIsN, v_kIsI, v_kIsL, v_kIsT, v_kIsB, v_isInt, v_isBool, v_isLst, v_isTup, v_repr, v_reprE, v_at, v_atL, v_atN, v_ixT, v_ixL, v_ixN, e_qK, e_qV, v_gKd, v_gOs, v_gLs, v_gDs, v_gDsT, v_gF, v_gI, v_isNn, e_Vn', e_Mn', v_isNo1, v_isNo2, e_pV, e_qIxF, e_qIxN, e_qI, e_qB, e_get, kIt_l', v_ixLit, v_ix0, v_at0, v_at1, v_ix1, e_apply', e_eB, e_cK, e_cT1, e_cT2, e_cTb, e_wipe0, e_wipe1, e_back0, e_back1, v_bkF, v_bkNo, v_bkN, v_tY, v_Vg, v_atLast, v_ixS, v_setLast, v_fzSnoc, v_fzSnocC, v_LIM, v_fzF, v_fzC, v_fzFF, v_intsC, v_blsC, e_SrtSet, v_ss, e_tup2, kT2_2, v_minPI, v_minPP, v_isB, e_tBor, kTb_o, v_frzS_f, v_frzS_no, v_frzS_n, e_appP, e_clrP, v_appEach0, v_appEach1, v_appEachM, e_forApp0, e_forApp1, e_AS, v_kFl, e_tpo, v_ixTp, fz_tp, e_idx, kIdA_f, v_idx, v_ltT, e_borS, f__law_right_3951, b__law_right_3951, er, eT, ef, em, ec, e2, nT2, e3, eT3, ei, nb, r2, DL.perm]
end
end Ev
set_option maxHeartbeats 8000000
namespace Ev
open OW
open DL (Dt)
theorem inner73 {ns : List Int} {k c : Int} {s : Src} {n : Nat} (o4 o5 o6 o7 o8 : Ow) (ks : s.Ok n) (hn : n ≤ 100000) : ∃ ρ, l1_law_9a95 [.f (.lst (ns.map .int)), .f (.int k), .f (.int c), srcO s, o4, o5, o6, o7, o8] = some (.nx ρ) ∧ ∃ (u : Src) (o4 o5 o6 o7 o8 : Ow), u.Ok (n + 300) ∧ ρ = [.f (.lst (ns.map .int)), .f (.int k), .f (.int c), srcO u, o4, o5, o6, o7, o8] := by
  refine wp_nx ?_
  unfold l1_law_9a95
  rw [e_for, iR1_f (n := 3) (ρ1 := [.f (.lst (ns.map .int)), .f (.int k), .f (.int c), srcO s, o4, o5, o6, o7, o8]) (by simp (implicitDefEqProofs := false) (decide := true) (maxDischargeDepth := 9) [e_bnd, e_ret, e_opt, kO_s, kO_n, kO_i, kB_n, kB_o, kB_x, kB_i, e_val, kV_n, kV_o, kV_x, kV_i, e_seq, kS_n, kS_nx, kS_rt, kS_bk, kS_ct, kS_ex, kS_i, e_nil, e_pass, e_brk, e_cnt, e_sret, e_sretN, e_expr, e_if, e_set, e_par, e_par3, kP3_3, e_tgt, kTg_f, kTg_n, e_gN, e_gT, e_gs0, e_gs1, e_aug, kAg_i, e_app, kAp_l, e_item, e_for, e_forN, e_fn, kF_n, kF_nx, kF_rt, kF_ex, kF_i, e_outs0, e_outsT, e_outsF, e_K, e_Vf, e_Mf, e_bin, e_un, e_A0, e_A1, e_lst, e_tup, e_C, e_tV, kT_b, e_tAnd, e_tOr, e_tNot, e_xNot, kNt_b, e_xAnd, kAn_b, e_xOr, kOr_b, e_xIf, e_ch, kCh_i, kCz_i, e_is, e_Q, e_Rg1, e_Rg2, e_Sl, kSl_f, e_oN, e_oS, e_call, kA_rt, kA_ex, kA_n, kA_i, e_R0, e_Rv, e_Ri, e_callK, kCK_f, e_take0, e_takeV, e_takeI, e_put0, e_putV, e_putI, fz_f, fz_l, fzs_0, fzs_1, fzs_map, fzs_mapI, fzs_1l, e_b1, e_b2, e_b2g, e_bs, v_bn, v_add, v_sub, v_mul, v_div, v_mod, v_pow, v_neg, v_catNN, v_catFN, v_catNF, v_catFF, v_rep, v_lt, v_le, v_gt, v_ge, v_is, v_isN, v_isO, v_isNO, v_non, v_nonI, v_nonL, v_nonT, v_nonB, v_eqI, v_neI, v_eqS, v_neS, v_lenL, v_lenT, v_abs, v_max2, v_min2, v_min3, v_intsM, v_ints0, v_ints1, v_blsM, v_blsF, v_intsF, v_maxL, v_minL, v_sum, v_sort, v_all, v_any, v_int, v_intB, v_list, v_listT, v_tuple, v_kIsN, v_kIsI, v_kIsL, v_kIsT, v_kIsB, v_isInt, v_isBool, v_isLst, v_isTup, v_repr, v_reprE, v_at, v_atL, v_atN, v_ixT, v_ixL, v_ixN, e_qK, e_qV, v_gKd, v_gOs, v_gLs, v_gDs, v_gDsT, v_gF, v_gI, v_isNn, e_Vn', e_Mn', v_isNo1, v_isNo2, e_pV, e_qIxF, e_qIxN, e_qI, e_qB, e_get, kIt_l', v_ixLit, v_ix0, v_at0, v_at1, v_ix1, e_apply', e_eB, e_cK, e_cT1, e_cT2, e_cTb, e_wipe0, e_wipe1, e_back0, e_back1, v_bkF, v_bkNo, v_bkN, v_tY, v_Vg, v_atLast, v_ixS, v_setLast, v_fzSnoc, v_fzSnocC, v_LIM, v_fzF, v_fzC, v_fzFF, v_intsC, v_blsC, e_SrtSet, v_ss, e_tup2, kT2_2, v_minPI, v_minPP, v_isB, e_tBor, kTb_o, v_frzS_f, v_frzS_no, v_frzS_n, e_appP, e_clrP, v_appEach0, v_appEach1, v_appEachM, e_forApp0, e_forApp1, e_AS, v_kFl, e_tpo, v_ixTp, fz_tp, e_idx, kIdA_f, v_idx, v_ltT, e_borS, ]), kV_o]
  refine w_for (fun j ρ => ∃ u o4 o5 o6 o7 o8, u.Ok (n + j * 100) ∧ ρ = [.f (.lst (ns.map .int)), .f (.int k), .f (.int c), srcO u, o4, o5, o6, o7, o8]) ⟨s, _, _, _, _, _, ks.up (by omega), rfl⟩ ?_ ?_
  · intro j d ρ hd ⟨u, o4, o5, o6, o7, o8, ku, e⟩
    subst e
    obtain ⟨hj, rfl⟩ := rng_at hd
    have hj : j < 3 := hj
    refine ⟨[.f (.lst (ns.map .int)), .f (.int k), .f (.int c), srcO u, .f (.int j), o5, o6, o7, o8], by simp (implicitDefEqProofs := false) (decide := true) (maxDischargeDepth := 9) [e_bnd, e_ret, e_opt, kO_s, kO_n, kO_i, kB_n, kB_o, kB_x, kB_i, e_val, kV_n, kV_o, kV_x, kV_i, e_seq, kS_n, kS_nx, kS_rt, kS_bk, kS_ct, kS_ex, kS_i, e_nil, e_pass, e_brk, e_cnt, e_sret, e_sretN, e_expr, e_if, e_set, e_par, e_par3, kP3_3, e_tgt, kTg_f, kTg_n, e_gN, e_gT, e_gs0, e_gs1, e_aug, kAg_i, e_app, kAp_l, e_item, e_for, e_forN, e_fn, kF_n, kF_nx, kF_rt, kF_ex, kF_i, e_outs0, e_outsT, e_outsF, e_K, e_Vf, e_Mf, e_bin, e_un, e_A0, e_A1, e_lst, e_tup, e_C, e_tV, kT_b, e_tAnd, e_tOr, e_tNot, e_xNot, kNt_b, e_xAnd, kAn_b, e_xOr, kOr_b, e_xIf, e_ch, kCh_i, kCz_i, e_is, e_Q, e_Rg1, e_Rg2, e_Sl, kSl_f, e_oN, e_oS, e_call, kA_rt, kA_ex, kA_n, kA_i, e_R0, e_Rv, e_Ri, e_callK, kCK_f, e_take0, e_takeV, e_takeI, e_put0, e_putV, e_putI, fz_f, fz_l, fzs_0, fzs_1, fzs_map, fzs_mapI, fzs_1l, e_b1, e_b2, e_b2g, e_bs, v_bn, v_add, v_sub, v_mul, v_div, v_mod, v_pow, v_neg, v_catNN, v_catFN, v_catNF, v_catFF, v_rep, v_lt, v_le, v_gt, v_ge, v_is, v_isN, v_isO, v_isNO, v_non, v_nonI, v_nonL, v_nonT, v_nonB, v_eqI, v_neI, v_eqS, v_neS, v_lenL, v_lenT, v_abs, v_max2, v_min2, v_min3, v_intsM, v_ints0, v_ints1, v_blsM, v_blsF, v_intsF, v_maxL, v_minL, v_sum, v_sort, v_all, v_any, v_int, v_intB, v_list, v_listT, v_tuple, v_kIsN, v_kIsI, v_kIsL, v_kIsT, v_kIsB, v_isInt, v_isBool, v_isLst, v_isTup, v_repr, v_reprE, v_at, v_atL, v_atN, v_ixT, v_ixL, v_ixN, e_qK, e_qV, v_gKd, v_gOs, v_gLs, v_gDs, v_gDsT, v_gF, v_gI, v_isNn, e_Vn', e_Mn', v_isNo1, v_isNo2, e_pV, e_qIxF, e_qIxN, e_qI, e_qB, e_get, kIt_l', v_ixLit, v_ix0, v_at0, v_at1, v_ix1, e_apply', e_eB, e_cK, e_cT1, e_cT2, e_cTb, e_wipe0, e_wipe1, e_back0, e_back1, v_bkF, v_bkNo, v_bkN, v_tY, v_Vg, v_atLast, v_ixS, v_setLast, v_fzSnoc, v_fzSnocC, v_LIM, v_fzF, v_fzC, v_fzFF, v_intsC, v_blsC, e_SrtSet, v_ss, e_tup2, kT2_2, v_minPI, v_minPP, v_isB, e_tBor, kTb_o, v_frzS_f, v_frzS_no, v_frzS_n, e_appP, e_clrP, v_appEach0, v_appEach1, v_appEachM, e_forApp0, e_forApp1, e_AS, v_kFl, e_tpo, v_ixTp, fz_tp, e_idx, kIdA_f, v_idx, v_ltT, e_borS, ], ?_⟩
    obtain ⟨far, hff⟩ : ∃ far : Int, (far = 3 ∧ ns = []) ∨ (far = 6 ∧ ns ≠ []) := by
      by_cases h : ns = []
      · exact ⟨3, .inl ⟨rfl, h⟩⟩
      · exact ⟨6, .inr ⟨rfl, h⟩⟩
    have f1 : 1 ≤ far ∧ far ≤ 6 := by rcases hff with ⟨a, _⟩ | ⟨a, _⟩ <;> omega
    obtain ⟨f1, f2⟩ := f1
    have e1 := change_eval (far := far) (most := 3) ku (by omega) f1 (by omega) (by decide) (by decide)
    obtain ⟨co, k3⟩ := chg_ok (far := far) (most := 3) ku f1 (by omega) (by decide) (by decide)
    have l3 : (chg u far 3).some.length ≤ 3 := by
      have := chg_len (far := far) (most := 3) ku f1 (by omega) (by decide) (by decide)
      omega
    have e2 := right73 (sh := true) co fun _ => l3
    generalize chg u far 3 = CH at *
    refine wp_eq (.nx [.f (.lst (ns.map .int)), .f (.int k), .f (.int c), srcO CH.s, .f (.int j), .f (.int CH.b), .f (.lst (CH.some.map .int)), .f (.int CH.q), .f (.lst (CH.parts.map .int))]) ?_ ⟨CH.s, _, _, _, _, _, k3.up (by omega), rfl⟩
    have en := ne_nil (ns := ns)
    rcases hff with ⟨rfl, h⟩ | ⟨rfl, h⟩
    · rw [decide_eq_true h] at en
      clear h
      generalize ns.map Dt.int = N at *
      simp (implicitDefEqProofs := false) (decide := true) (maxDischargeDepth := 9) [e_bnd, e_ret, e_opt, kO_s, kO_n, kO_i, kB_n, kB_o, kB_x, kB_i, e_val, kV_n, kV_o, kV_x, kV_i, e_seq, kS_n, kS_nx, kS_rt, kS_bk, kS_ct, kS_ex, kS_i, e_nil, e_pass, e_brk, e_cnt, e_sret, e_sretN, e_expr, e_if, e_set, e_par, e_par3, kP3_3, e_tgt, kTg_f, kTg_n, e_gN, e_gT, e_gs0, e_gs1, e_aug, kAg_i, e_app, kAp_l, e_item, e_for, e_forN, e_fn, kF_n, kF_nx, kF_rt, kF_ex, kF_i, e_outs0, e_outsT, e_outsF, e_K, e_Vf, e_Mf, e_bin, e_un, e_A0, e_A1, e_lst, e_tup, e_C, e_tV, kT_b, e_tAnd, e_tOr, e_tNot, e_xNot, kNt_b, e_xAnd, kAn_b, e_xOr, kOr_b, e_xIf, e_ch, kCh_i, kCz_i, e_is, e_Q, e_Rg1, e_Rg2, e_Sl, kSl_f, e_oN, e_oS, e_call, kA_rt, kA_ex, kA_n, kA_i, e_R0, e_Rv, e_Ri, e_callK, kCK_f, e_take0, e_takeV, e_takeI, e_put0, e_putV, e_putI, fz_f, fz_l, fzs_0, fzs_1, fzs_map, fzs_mapI, fzs_1l, e_b1, e_b2, e_b2g, e_bs, v_bn, v_add, v_sub, v_mul, v_div, v_mod, v_pow, v_neg, v_catNN, v_catFN, v_catNF, v_catFF, v_rep, v_lt, v_le, v_gt, v_ge, v_is, v_isN, v_isO, v_isNO, v_non, v_nonI, v_nonL, v_nonT, v_nonB, v_eqI, v_neI, v_eqS, v_neS, v_lenL, v_lenT, v_abs, v_max2, v_min2, v_min3, v_intsM, v_ints0, v_ints1, v_blsM, v_blsF, v_intsF, v_maxL, v_minL, v_sum, v_sort, v_all, v_any, v_int, v_intB, v_list, v_listT, v_tuple, v_kIsN, v_kIsI, v_kIsL, v_kIsT, v_kIsB, v_isInt, v_isBool, v_isLst, v_isTup, v_repr, v_reprE, v_at, v_atL, v_atN, v_ixT, v_ixL, v_ixN, e_qK, e_qV, v_gKd, v_gOs, v_gLs, v_gDs, v_gDsT, v_gF, v_gI, v_isNn, e_Vn', e_Mn', v_isNo1, v_isNo2, e_pV, e_qIxF, e_qIxN, e_qI, e_qB, e_get, kIt_l', v_ixLit, v_ix0, v_at0, v_at1, v_ix1, e_apply', e_eB, e_cK, e_cT1, e_cT2, e_cTb, e_wipe0, e_wipe1, e_back0, e_back1, v_bkF, v_bkNo, v_bkN, v_tY, v_Vg, v_atLast, v_ixS, v_setLast, v_fzSnoc, v_fzSnocC, v_LIM, v_fzF, v_fzC, v_fzFF, v_intsC, v_blsC, e_SrtSet, v_ss, e_tup2, kT2_2, v_minPI, v_minPP, v_isB, e_tBor, kTb_o, v_frzS_f, v_frzS_no, v_frzS_n, e_appP, e_clrP, v_appEach0, v_appEach1, v_appEachM, e_forApp0, e_forApp1, e_AS, v_kFl, e_tpo, v_ixTp, fz_tp, e_idx, kIdA_f, v_idx, v_ltT, e_borS, e1, e2, en, srcO_no]
    · rw [decide_eq_false h] at en
      clear h
      generalize ns.map Dt.int = N at *
      simp (implicitDefEqProofs := false) (decide := true) (maxDischargeDepth := 9) [e_bnd, e_ret, e_opt, kO_s, kO_n, kO_i, kB_n, kB_o, kB_x, kB_i, e_val, kV_n, kV_o, kV_x, kV_i, e_seq, kS_n, kS_nx, kS_rt, kS_bk, kS_ct, kS_ex, kS_i, e_nil, e_pass, e_brk, e_cnt, e_sret, e_sretN, e_expr, e_if, e_set, e_par, e_par3, kP3_3, e_tgt, kTg_f, kTg_n, e_gN, e_gT, e_gs0, e_gs1, e_aug, kAg_i, e_app, kAp_l, e_item, e_for, e_forN, e_fn, kF_n, kF_nx, kF_rt, kF_ex, kF_i, e_outs0, e_outsT, e_outsF, e_K, e_Vf, e_Mf, e_bin, e_un, e_A0, e_A1, e_lst, e_tup, e_C, e_tV, kT_b, e_tAnd, e_tOr, e_tNot, e_xNot, kNt_b, e_xAnd, kAn_b, e_xOr, kOr_b, e_xIf, e_ch, kCh_i, kCz_i, e_is, e_Q, e_Rg1, e_Rg2, e_Sl, kSl_f, e_oN, e_oS, e_call, kA_rt, kA_ex, kA_n, kA_i, e_R0, e_Rv, e_Ri, e_callK, kCK_f, e_take0, e_takeV, e_takeI, e_put0, e_putV, e_putI, fz_f, fz_l, fzs_0, fzs_1, fzs_map, fzs_mapI, fzs_1l, e_b1, e_b2, e_b2g, e_bs, v_bn, v_add, v_sub, v_mul, v_div, v_mod, v_pow, v_neg, v_catNN, v_catFN, v_catNF, v_catFF, v_rep, v_lt, v_le, v_gt, v_ge, v_is, v_isN, v_isO, v_isNO, v_non, v_nonI, v_nonL, v_nonT, v_nonB, v_eqI, v_neI, v_eqS, v_neS, v_lenL, v_lenT, v_abs, v_max2, v_min2, v_min3, v_intsM, v_ints0, v_ints1, v_blsM, v_blsF, v_intsF, v_maxL, v_minL, v_sum, v_sort, v_all, v_any, v_int, v_intB, v_list, v_listT, v_tuple, v_kIsN, v_kIsI, v_kIsL, v_kIsT, v_kIsB, v_isInt, v_isBool, v_isLst, v_isTup, v_repr, v_reprE, v_at, v_atL, v_atN, v_ixT, v_ixL, v_ixN, e_qK, e_qV, v_gKd, v_gOs, v_gLs, v_gDs, v_gDsT, v_gF, v_gI, v_isNn, e_Vn', e_Mn', v_isNo1, v_isNo2, e_pV, e_qIxF, e_qIxN, e_qI, e_qB, e_get, kIt_l', v_ixLit, v_ix0, v_at0, v_at1, v_ix1, e_apply', e_eB, e_cK, e_cT1, e_cT2, e_cTb, e_wipe0, e_wipe1, e_back0, e_back1, v_bkF, v_bkNo, v_bkN, v_tY, v_Vg, v_atLast, v_ixS, v_setLast, v_fzSnoc, v_fzSnocC, v_LIM, v_fzF, v_fzC, v_fzFF, v_intsC, v_blsC, e_SrtSet, v_ss, e_tup2, kT2_2, v_minPI, v_minPP, v_isB, e_tBor, kTb_o, v_frzS_f, v_frzS_no, v_frzS_n, e_appP, e_clrP, v_appEach0, v_appEach1, v_appEachM, e_forApp0, e_forApp1, e_AS, v_kFl, e_tpo, v_ixTp, fz_tp, e_idx, kIdA_f, v_idx, v_ltT, e_borS, e1, e2, en, srcO_no]
  · intro ρ ⟨u, o4, o5, o6, o7, o8, ku, e⟩
    have hl : ((DL.rng 0 (3 : Int).toNat).map Dt.int).length = 3 := by rw [List.length_map, DL.rng_length]; rfl
    rw [hl] at ku
    exact ⟨u, _, _, _, _, _, ku, e⟩
theorem ch_73a : ChOk 8 [6, 6, -6, -6] 8 [3, 3, 1, 1] := ⟨by decide, by decide, by decide, by decide, by decide, by decide, by decide, by decide, by decide, by decide⟩
theorem ch_73b : ChOk 2 [1, 1] 2 [1, 1] := ⟨by decide, by decide, by decide, by decide, by decide, by decide, by decide, by decide, by decide, by decide⟩
theorem law_k73 : ∀ ns : List Int, ns.length ≤ 63 → ∃ ps, f_law_9a95 [.f (.lst (ns.map .int))] = some (.rt (.f (.bl true)) ps) := by
  intro ns hl
  obtain ⟨ρ, e, o1, o2, o3, o4, o5, o6, o7, o8, rfl⟩ : ∃ ρ, l2_law_9a95 [.f (.lst (ns.map .int)), .no, .no, .no, .no, .no, .no, .no, .no] = some (.nx ρ) ∧ ∃ o1 o2 o3 o4 o5 o6 o7 o8, ρ = [.f (.lst (ns.map .int)), o1, o2, o3, o4, o5, o6, o7, o8] := by
    refine wp_nx ?_
    unfold l2_law_9a95
    rw [e_for, cells_it (ns := ns) (m := 8) rfl hl, kV_o]
    refine w_for (fun j ρ => ∃ o1 o2 o3 o4 o5 o6 o7 o8, ρ = [.f (.lst (ns.map .int)), o1, o2, o3, o4, o5, o6, o7, o8]) ⟨_, _, _, _, _, _, _, _, rfl⟩ ?_ fun ρ z => z
    intro j d ρ hd ⟨o1, o2, o3, o4, o5, o6, o7, o8, e⟩
    subst e
    obtain ⟨hj, c, rfl⟩ := cells_at hd
    obtain ⟨k, hk⟩ : ∃ k : Int, k = (j : Int) := ⟨_, rfl⟩
    rw [← hk]
    haveI : Sz 64 k := sz_of (by omega) (by omega)
    refine ⟨[.f (.lst (ns.map .int)), .f (.int k), .f (.int c), o3, o4, o5, o6, o7, o8], by simp (implicitDefEqProofs := false) (decide := true) (maxDischargeDepth := 9) [e_bnd, e_ret, e_opt, kO_s, kO_n, kO_i, kB_n, kB_o, kB_x, kB_i, e_val, kV_n, kV_o, kV_x, kV_i, e_seq, kS_n, kS_nx, kS_rt, kS_bk, kS_ct, kS_ex, kS_i, e_nil, e_pass, e_brk, e_cnt, e_sret, e_sretN, e_expr, e_if, e_set, e_par, e_par3, kP3_3, e_tgt, kTg_f, kTg_n, e_gN, e_gT, e_gs0, e_gs1, e_aug, kAg_i, e_app, kAp_l, e_item, e_for, e_forN, e_fn, kF_n, kF_nx, kF_rt, kF_ex, kF_i, e_outs0, e_outsT, e_outsF, e_K, e_Vf, e_Mf, e_bin, e_un, e_A0, e_A1, e_lst, e_tup, e_C, e_tV, kT_b, e_tAnd, e_tOr, e_tNot, e_xNot, kNt_b, e_xAnd, kAn_b, e_xOr, kOr_b, e_xIf, e_ch, kCh_i, kCz_i, e_is, e_Q, e_Rg1, e_Rg2, e_Sl, kSl_f, e_oN, e_oS, e_call, kA_rt, kA_ex, kA_n, kA_i, e_R0, e_Rv, e_Ri, e_callK, kCK_f, e_take0, e_takeV, e_takeI, e_put0, e_putV, e_putI, fz_f, fz_l, fzs_0, fzs_1, fzs_map, fzs_mapI, fzs_1l, e_b1, e_b2, e_b2g, e_bs, v_bn, v_add, v_sub, v_mul, v_div, v_mod, v_pow, v_neg, v_catNN, v_catFN, v_catNF, v_catFF, v_rep, v_lt, v_le, v_gt, v_ge, v_is, v_isN, v_isO, v_isNO, v_non, v_nonI, v_nonL, v_nonT, v_nonB, v_eqI, v_neI, v_eqS, v_neS, v_lenL, v_lenT, v_abs, v_max2, v_min2, v_min3, v_intsM, v_ints0, v_ints1, v_blsM, v_blsF, v_intsF, v_maxL, v_minL, v_sum, v_sort, v_all, v_any, v_int, v_intB, v_list, v_listT, v_tuple, v_kIsN, v_kIsI, v_kIsL, v_kIsT, v_kIsB, v_isInt, v_isBool, v_isLst, v_isTup, v_repr, v_reprE, v_at, v_atL, v_atN, v_ixT, v_ixL, v_ixN, e_qK, e_qV, v_gKd, v_gOs, v_gLs, v_gDs, v_gDsT, v_gF, v_gI, v_isNn, e_Vn', e_Mn', v_isNo1, v_isNo2, e_pV, e_qIxF, e_qIxN, e_qI, e_qB, e_get, kIt_l', v_ixLit, v_ix0, v_at0, v_at1, v_ix1, e_apply', e_eB, e_cK, e_cT1, e_cT2, e_cTb, e_wipe0, e_wipe1, e_back0, e_back1, v_bkF, v_bkNo, v_bkN, v_tY, v_Vg, v_atLast, v_ixS, v_setLast, v_fzSnoc, v_fzSnocC, v_LIM, v_fzF, v_fzC, v_fzFF, v_intsC, v_blsC, e_SrtSet, v_ss, e_tup2, kT2_2, v_minPI, v_minPP, v_isB, e_tBor, kTb_o, v_frzS_f, v_frzS_no, v_frzS_n, e_appP, e_clrP, v_appEach0, v_appEach1, v_appEachM, e_forApp0, e_forApp1, e_AS, v_kFl, e_tpo, v_ixTp, fz_tp, e_idx, kIdA_f, v_idx, v_ltT, e_borS, ], ?_⟩
    have es := source_eval (cell := c) (k := k)
    have ks : (src c k).Ok 0 := src_ok (by omega) (by omega)
    obtain ⟨ρ, e3, u, p4, p5, p6, p7, p8, ku, rfl⟩ := inner73 (ns := ns) (k := k) (c := c) o4 o5 o6 o7 o8 ks (by omega)
    have ec := change_eval (far := 3000) (most := 12) ku (by omega) (by decide) (by decide) (by decide) (by decide)
    obtain ⟨co, k3⟩ := chg_ok (far := 3000) (most := 12) ku (by decide) (by decide) (by decide) (by decide)
    have er := right73 (sh := false) co fun h => (by cases h)
    have en := ne_nil (ns := ns)
    generalize chg u 3000 12 = CH at *
    by_cases h0 : k < 2
    · by_cases hb : ns = []
      · rw [decide_eq_true hb] at en
        refine wp_eq (.nx [.f (.lst (ns.map .int)), .f (.int k), .f (.int c), srcO u, p4, p5, p6, p7, p8]) ?_ ⟨_, _, _, _, _, _, _, _, rfl⟩
        clear hb
        generalize ns.map Dt.int = N at *
        simp (implicitDefEqProofs := false) (decide := true) (maxDischargeDepth := 9) [e_bnd, e_ret, e_opt, kO_s, kO_n, kO_i, kB_n, kB_o, kB_x, kB_i, e_val, kV_n, kV_o, kV_x, kV_i, e_seq, kS_n, kS_nx, kS_rt, kS_bk, kS_ct, kS_ex, kS_i, e_nil, e_pass, e_brk, e_cnt, e_sret, e_sretN, e_expr, e_if, e_set, e_par, e_par3, kP3_3, e_tgt, kTg_f, kTg_n, e_gN, e_gT, e_gs0, e_gs1, e_aug, kAg_i, e_app, kAp_l, e_item, e_for, e_forN, e_fn, kF_n, kF_nx, kF_rt, kF_ex, kF_i, e_outs0, e_outsT, e_outsF, e_K, e_Vf, e_Mf, e_bin, e_un, e_A0, e_A1, e_lst, e_tup, e_C, e_tV, kT_b, e_tAnd, e_tOr, e_tNot, e_xNot, kNt_b, e_xAnd, kAn_b, e_xOr, kOr_b, e_xIf, e_ch, kCh_i, kCz_i, e_is, e_Q, e_Rg1, e_Rg2, e_Sl, kSl_f, e_oN, e_oS, e_call, kA_rt, kA_ex, kA_n, kA_i, e_R0, e_Rv, e_Ri, e_callK, kCK_f, e_take0, e_takeV, e_takeI, e_put0, e_putV, e_putI, fz_f, fz_l, fzs_0, fzs_1, fzs_map, fzs_mapI, fzs_1l, e_b1, e_b2, e_b2g, e_bs, v_bn, v_add, v_sub, v_mul, v_div, v_mod, v_pow, v_neg, v_catNN, v_catFN, v_catNF, v_catFF, v_rep, v_lt, v_le, v_gt, v_ge, v_is, v_isN, v_isO, v_isNO, v_non, v_nonI, v_nonL, v_nonT, v_nonB, v_eqI, v_neI, v_eqS, v_neS, v_lenL, v_lenT, v_abs, v_max2, v_min2, v_min3, v_intsM, v_ints0, v_ints1, v_blsM, v_blsF, v_intsF, v_maxL, v_minL, v_sum, v_sort, v_all, v_any, v_int, v_intB, v_list, v_listT, v_tuple, v_kIsN, v_kIsI, v_kIsL, v_kIsT, v_kIsB, v_isInt, v_isBool, v_isLst, v_isTup, v_repr, v_reprE, v_at, v_atL, v_atN, v_ixT, v_ixL, v_ixN, e_qK, e_qV, v_gKd, v_gOs, v_gLs, v_gDs, v_gDsT, v_gF, v_gI, v_isNn, e_Vn', e_Mn', v_isNo1, v_isNo2, e_pV, e_qIxF, e_qIxN, e_qI, e_qB, e_get, kIt_l', v_ixLit, v_ix0, v_at0, v_at1, v_ix1, e_apply', e_eB, e_cK, e_cT1, e_cT2, e_cTb, e_wipe0, e_wipe1, e_back0, e_back1, v_bkF, v_bkNo, v_bkN, v_tY, v_Vg, v_atLast, v_ixS, v_setLast, v_fzSnoc, v_fzSnocC, v_LIM, v_fzF, v_fzC, v_fzFF, v_intsC, v_blsC, e_SrtSet, v_ss, e_tup2, kT2_2, v_minPI, v_minPP, v_isB, e_tBor, kTb_o, v_frzS_f, v_frzS_no, v_frzS_n, e_appP, e_clrP, v_appEach0, v_appEach1, v_appEachM, e_forApp0, e_forApp1, e_AS, v_kFl, e_tpo, v_ixTp, fz_tp, e_idx, kIdA_f, v_idx, v_ltT, e_borS, es, e3, en, h0]
      · rw [decide_eq_false hb] at en
        refine wp_eq (.nx [.f (.lst (ns.map .int)), .f (.int k), .f (.int c), srcO CH.s, p4, .f (.int CH.b), .f (.lst (CH.some.map .int)), .f (.int CH.q), .f (.lst (CH.parts.map .int))]) ?_ ⟨_, _, _, _, _, _, _, _, rfl⟩
        clear hb
        generalize ns.map Dt.int = N at *
        simp (implicitDefEqProofs := false) (decide := true) (maxDischargeDepth := 9) [e_bnd, e_ret, e_opt, kO_s, kO_n, kO_i, kB_n, kB_o, kB_x, kB_i, e_val, kV_n, kV_o, kV_x, kV_i, e_seq, kS_n, kS_nx, kS_rt, kS_bk, kS_ct, kS_ex, kS_i, e_nil, e_pass, e_brk, e_cnt, e_sret, e_sretN, e_expr, e_if, e_set, e_par, e_par3, kP3_3, e_tgt, kTg_f, kTg_n, e_gN, e_gT, e_gs0, e_gs1, e_aug, kAg_i, e_app, kAp_l, e_item, e_for, e_forN, e_fn, kF_n, kF_nx, kF_rt, kF_ex, kF_i, e_outs0, e_outsT, e_outsF, e_K, e_Vf, e_Mf, e_bin, e_un, e_A0, e_A1, e_lst, e_tup, e_C, e_tV, kT_b, e_tAnd, e_tOr, e_tNot, e_xNot, kNt_b, e_xAnd, kAn_b, e_xOr, kOr_b, e_xIf, e_ch, kCh_i, kCz_i, e_is, e_Q, e_Rg1, e_Rg2, e_Sl, kSl_f, e_oN, e_oS, e_call, kA_rt, kA_ex, kA_n, kA_i, e_R0, e_Rv, e_Ri, e_callK, kCK_f, e_take0, e_takeV, e_takeI, e_put0, e_putV, e_putI, fz_f, fz_l, fzs_0, fzs_1, fzs_map, fzs_mapI, fzs_1l, e_b1, e_b2, e_b2g, e_bs, v_bn, v_add, v_sub, v_mul, v_div, v_mod, v_pow, v_neg, v_catNN, v_catFN, v_catNF, v_catFF, v_rep, v_lt, v_le, v_gt, v_ge, v_is, v_isN, v_isO, v_isNO, v_non, v_nonI, v_nonL, v_nonT, v_nonB, v_eqI, v_neI, v_eqS, v_neS, v_lenL, v_lenT, v_abs, v_max2, v_min2, v_min3, v_intsM, v_ints0, v_ints1, v_blsM, v_blsF, v_intsF, v_maxL, v_minL, v_sum, v_sort, v_all, v_any, v_int, v_intB, v_list, v_listT, v_tuple, v_kIsN, v_kIsI, v_kIsL, v_kIsT, v_kIsB, v_isInt, v_isBool, v_isLst, v_isTup, v_repr, v_reprE, v_at, v_atL, v_atN, v_ixT, v_ixL, v_ixN, e_qK, e_qV, v_gKd, v_gOs, v_gLs, v_gDs, v_gDsT, v_gF, v_gI, v_isNn, e_Vn', e_Mn', v_isNo1, v_isNo2, e_pV, e_qIxF, e_qIxN, e_qI, e_qB, e_get, kIt_l', v_ixLit, v_ix0, v_at0, v_at1, v_ix1, e_apply', e_eB, e_cK, e_cT1, e_cT2, e_cTb, e_wipe0, e_wipe1, e_back0, e_back1, v_bkF, v_bkNo, v_bkN, v_tY, v_Vg, v_atLast, v_ixS, v_setLast, v_fzSnoc, v_fzSnocC, v_LIM, v_fzF, v_fzC, v_fzFF, v_intsC, v_blsC, e_SrtSet, v_ss, e_tup2, kT2_2, v_minPI, v_minPP, v_isB, e_tBor, kTb_o, v_frzS_f, v_frzS_no, v_frzS_n, e_appP, e_clrP, v_appEach0, v_appEach1, v_appEachM, e_forApp0, e_forApp1, e_AS, v_kFl, e_tpo, v_ixTp, fz_tp, e_idx, kIdA_f, v_idx, v_ltT, e_borS, es, e3, en, ec, er, h0, srcO_no]
    · refine wp_eq (.nx [.f (.lst (ns.map .int)), .f (.int k), .f (.int c), srcO u, p4, p5, p6, p7, p8]) ?_ ⟨_, _, _, _, _, _, _, _, rfl⟩
      clear en
      generalize ns.map Dt.int = N at *
      simp (implicitDefEqProofs := false) (decide := true) (maxDischargeDepth := 9) [e_bnd, e_ret, e_opt, kO_s, kO_n, kO_i, kB_n, kB_o, kB_x, kB_i, e_val, kV_n, kV_o, kV_x, kV_i, e_seq, kS_n, kS_nx, kS_rt, kS_bk, kS_ct, kS_ex, kS_i, e_nil, e_pass, e_brk, e_cnt, e_sret, e_sretN, e_expr, e_if, e_set, e_par, e_par3, kP3_3, e_tgt, kTg_f, kTg_n, e_gN, e_gT, e_gs0, e_gs1, e_aug, kAg_i, e_app, kAp_l, e_item, e_for, e_forN, e_fn, kF_n, kF_nx, kF_rt, kF_ex, kF_i, e_outs0, e_outsT, e_outsF, e_K, e_Vf, e_Mf, e_bin, e_un, e_A0, e_A1, e_lst, e_tup, e_C, e_tV, kT_b, e_tAnd, e_tOr, e_tNot, e_xNot, kNt_b, e_xAnd, kAn_b, e_xOr, kOr_b, e_xIf, e_ch, kCh_i, kCz_i, e_is, e_Q, e_Rg1, e_Rg2, e_Sl, kSl_f, e_oN, e_oS, e_call, kA_rt, kA_ex, kA_n, kA_i, e_R0, e_Rv, e_Ri, e_callK, kCK_f, e_take0, e_takeV, e_takeI, e_put0, e_putV, e_putI, fz_f, fz_l, fzs_0, fzs_1, fzs_map, fzs_mapI, fzs_1l, e_b1, e_b2, e_b2g, e_bs, v_bn, v_add, v_sub, v_mul, v_div, v_mod, v_pow, v_neg, v_catNN, v_catFN, v_catNF, v_catFF, v_rep, v_lt, v_le, v_gt, v_ge, v_is, v_isN, v_isO, v_isNO, v_non, v_nonI, v_nonL, v_nonT, v_nonB, v_eqI, v_neI, v_eqS, v_neS, v_lenL, v_lenT, v_abs, v_max2, v_min2, v_min3, v_intsM, v_ints0, v_ints1, v_blsM, v_blsF, v_intsF, v_maxL, v_minL, v_sum, v_sort, v_all, v_any, v_int, v_intB, v_list, v_listT, v_tuple, v_kIsN, v_kIsI, v_kIsL, v_kIsT, v_kIsB, v_isInt, v_isBool, v_isLst, v_isTup, v_repr, v_reprE, v_at, v_atL, v_atN, v_ixT, v_ixL, v_ixN, e_qK, e_qV, v_gKd, v_gOs, v_gLs, v_gDs, v_gDsT, v_gF, v_gI, v_isNn, e_Vn', e_Mn', v_isNo1, v_isNo2, e_pV, e_qIxF, e_qIxN, e_qI, e_qB, e_get, kIt_l', v_ixLit, v_ix0, v_at0, v_at1, v_ix1, e_apply', e_eB, e_cK, e_cT1, e_cT2, e_cTb, e_wipe0, e_wipe1, e_back0, e_back1, v_bkF, v_bkNo, v_bkN, v_tY, v_Vg, v_atLast, v_ixS, v_setLast, v_fzSnoc, v_fzSnocC, v_LIM, v_fzF, v_fzC, v_fzFF, v_intsC, v_blsC, e_SrtSet, v_ss, e_tup2, kT2_2, v_minPI, v_minPP, v_isB, e_tBor, kTb_o, v_frzS_f, v_frzS_no, v_frzS_n, e_appP, e_clrP, v_appEach0, v_appEach1, v_appEachM, e_forApp0, e_forApp1, e_AS, v_kFl, e_tpo, v_ixTp, fz_tp, e_idx, kIdA_f, v_idx, v_ltT, e_borS, es, e3, h0]
  have fa : failS 8 8 [6, 6, -6, -6] [3, 3, 1, 1] = some 1 := by decide +kernel
  have fb : failS 2 2 [1, 1] [1, 1] ≠ none := by decide +kernel
  have ea := moment73_eval (o1 := .n .lst [.f (.int 6), .f (.int 6), .f (.int (-6)), .f (.int (-6))]) (o3 := .n .lst [.f (.int 3), .f (.int 3), .f (.int 1), .f (.int 1)]) ch_73a rfl rfl
  have eb := can73_eval (o1 := .n .lst [.f (.int 1), .f (.int 1)]) (o3 := .n .lst [.f (.int 1), .f (.int 1)]) ch_73b rfl rfl
  rw [fa, oO_some'] at ea
  rw [decide_eq_false fb] at eb
  have da := eq_same (x := .n .lst [.f (.int 1), .f (.bl false)]) (y := .n .lst [.f (.int 1), .f (.bl false)]) (d := .lst [.int 1, .bl false]) rfl rfl ⟨Sz.bd (n := 64) (sz_of (by decide) (by decide)) (by decide), trivial, trivial⟩ (by decide)
  refine ⟨[.no], ?_⟩
  simp (implicitDefEqProofs := false) (decide := true) (maxDischargeDepth := 9) [e_bnd, e_ret, e_opt, kO_s, kO_n, kO_i, kB_n, kB_o, kB_x, kB_i, e_val, kV_n, kV_o, kV_x, kV_i, e_seq, kS_n, kS_nx, kS_rt, kS_bk, kS_ct, kS_ex, kS_i, e_nil, e_pass, e_brk, e_cnt, e_sret, e_sretN, e_expr, e_if, e_set, e_par, e_par3, kP3_3, e_tgt, kTg_f, kTg_n, e_gN, e_gT, e_gs0, e_gs1, e_aug, kAg_i, e_app, kAp_l, e_item, e_for, e_forN, e_fn, kF_n, kF_nx, kF_rt, kF_ex, kF_i, e_outs0, e_outsT, e_outsF, e_K, e_Vf, e_Mf, e_bin, e_un, e_A0, e_A1, e_lst, e_tup, e_C, e_tV, kT_b, e_tAnd, e_tOr, e_tNot, e_xNot, kNt_b, e_xAnd, kAn_b, e_xOr, kOr_b, e_xIf, e_ch, kCh_i, kCz_i, e_is, e_Q, e_Rg1, e_Rg2, e_Sl, kSl_f, e_oN, e_oS, e_call, kA_rt, kA_ex, kA_n, kA_i, e_R0, e_Rv, e_Ri, e_callK, kCK_f, e_take0, e_takeV, e_takeI, e_put0, e_putV, e_putI, fz_f, fz_l, fzs_0, fzs_1, fzs_map, fzs_mapI, fzs_1l, e_b1, e_b2, e_b2g, e_bs, v_bn, v_add, v_sub, v_mul, v_div, v_mod, v_pow, v_neg, v_catNN, v_catFN, v_catNF, v_catFF, v_rep, v_lt, v_le, v_gt, v_ge, v_is, v_isN, v_isO, v_isNO, v_non, v_nonI, v_nonL, v_nonT, v_nonB, v_eqI, v_neI, v_eqS, v_neS, v_lenL, v_lenT, v_abs, v_max2, v_min2, v_min3, v_intsM, v_ints0, v_ints1, v_blsM, v_blsF, v_intsF, v_maxL, v_minL, v_sum, v_sort, v_all, v_any, v_int, v_intB, v_list, v_listT, v_tuple, v_kIsN, v_kIsI, v_kIsL, v_kIsT, v_kIsB, v_isInt, v_isBool, v_isLst, v_isTup, v_repr, v_reprE, v_at, v_atL, v_atN, v_ixT, v_ixL, v_ixN, e_qK, e_qV, v_gKd, v_gOs, v_gLs, v_gDs, v_gDsT, v_gF, v_gI, v_isNn, e_Vn', e_Mn', v_isNo1, v_isNo2, e_pV, e_qIxF, e_qIxN, e_qI, e_qB, e_get, kIt_l', v_ixLit, v_ix0, v_at0, v_at1, v_ix1, e_apply', e_eB, e_cK, e_cT1, e_cT2, e_cTb, e_wipe0, e_wipe1, e_back0, e_back1, v_bkF, v_bkNo, v_bkN, v_tY, v_Vg, v_atLast, v_ixS, v_setLast, v_fzSnoc, v_fzSnocC, v_LIM, v_fzF, v_fzC, v_fzFF, v_intsC, v_blsC, e_SrtSet, v_ss, e_tup2, kT2_2, v_minPI, v_minPP, v_isB, e_tBor, kTb_o, v_frzS_f, v_frzS_no, v_frzS_n, e_appP, e_clrP, v_appEach0, v_appEach1, v_appEachM, e_forApp0, e_forApp1, e_AS, v_kFl, e_tpo, v_ixTp, fz_tp, e_idx, kIdA_f, v_idx, v_ltT, e_borS, f_law_9a95, b_law_9a95, e, ea, eb, da]
end Ev
namespace Ev
open PySem L2 OW
open DL (Dt FnG FnAt)
section
theorem end_mk {l : PySem.W.OpenLaw} {w : World} {K : PySem.W.Frag} {h : Heap} {mg : Str → Option Value} {fa : Addr} (X : K.In h) (G : h.Ns mainGlobals mg) (hfa : mg "law" = some (.ref fa))
    (D__law_source : DL.DefIn K "_law_source" s__law_source) (D__law_draw : DL.DefIn K "_law_draw" s__law_draw) (D__law_change : DL.DefIn K "_law_change" s__law_change) (D_is_integer : DL.DefIn K "is_integer" s_is_integer)
    (D_need_number : DL.DefIn K "need_number" s_need_number) (D_need_lags : DL.DefIn K "need_lags" s_need_lags) (D_need_shares : DL.DefIn K "need_shares" s_need_shares) (D_need_change : DL.DefIn K "need_change" s_need_change)
    (D_due_later : DL.DefIn K "due_later" s_due_later) (D_failing : DL.DefIn K "failing" s_failing) (D_failing_moment : DL.DefIn K "failing_moment" s_failing_moment) (D_can_change : DL.DefIn K "can_change" s_can_change)
    (D__law_failing : DL.DefIn K "_law_failing" s__law_failing) (D__law_can : DL.DefIn K "_law_can" s__law_can) (D__law_right : DL.DefIn K "_law_right" s__law_right) (D_law : DL.DefIn K "law" s_law)
    (N_abs : PySem.W.nsIn K mainGlobals "abs" = some none) (N_max : PySem.W.nsIn K mainGlobals "max" = some none) (N_int : PySem.W.nsIn K mainGlobals "int" = some none) (N_range : PySem.W.nsIn K mainGlobals "range" = some none)
    (N_isinstance : PySem.W.nsIn K mainGlobals "isinstance" = some none) (N_bool : PySem.W.nsIn K mainGlobals "bool" = some none) (N_enumerate : PySem.W.nsIn K mainGlobals "enumerate" = some none) (N_list : PySem.W.nsIn K mainGlobals "list" = some none)
    (N_len : PySem.W.nsIn K mainGlobals "len" = some none) (N_sum : PySem.W.nsIn K mainGlobals "sum" = some none) (N_zip : PySem.W.nsIn K mainGlobals "zip" = some none) (N_min : PySem.W.nsIn K mainGlobals "min" = some none)
    (N_repr : PySem.W.nsIn K mainGlobals "repr" = some none) {t_MOST_BASE : Addr} (I_MOST_BASE : PySem.W.nsIn K mainGlobals "MOST_BASE" = some (some (Value.int (999999999999999999999999999999) t_MOST_BASE))) {t_MOST_PERIOD : Addr} (I_MOST_PERIOD : PySem.W.nsIn K mainGlobals "MOST_PERIOD" = some (some (Value.int (3000) t_MOST_PERIOD))) {t_MOST_PROCESSES : Addr} (I_MOST_PROCESSES : PySem.W.nsIn K mainGlobals "MOST_PROCESSES" = some (some (Value.int (12) t_MOST_PROCESSES))) :
    ∃ fd : FuncData, (∀ (s : Shared) (u : Value), BindsTo s fd ⟨[u], []⟩ [("script", u)]) ∧ ∀ base : Heap, K.In base → base.Ns mainGlobals mg → DL.FnG l.prog w K mg base 6 fa fd ["script"] (DL.spD K 1 (lawR f_law_9a95)) := by
  have T : Txt mg := ⟨PySem.W.mg_none_of X G N_abs, PySem.W.mg_none_of X G N_max, PySem.W.mg_none_of X G N_int, PySem.W.mg_none_of X G N_range, PySem.W.mg_none_of X G N_isinstance, PySem.W.mg_none_of X G N_bool, PySem.W.mg_none_of X G N_enumerate, PySem.W.mg_none_of X G N_list, PySem.W.mg_none_of X G N_len, PySem.W.mg_none_of X G N_sum, PySem.W.mg_none_of X G N_zip, PySem.W.mg_none_of X G N_min, PySem.W.mg_none_of X G N_repr, ⟨_, PySem.W.mg_of X G I_MOST_BASE⟩, ⟨_, PySem.W.mg_of X G I_MOST_PERIOD⟩, ⟨_, PySem.W.mg_of X G I_MOST_PROCESSES⟩⟩
  refine D_law.law X G hfa (fun _ _ _ _ _ _ _ => rfl) fun base Xb Gb f fd F => lawG ?_
  have G__law_source : FnAt l.prog w K mg base "_law_source" s__law_source 1 ["cell", "k"] (spO mg K 2 f__law_source_1d92) := D__law_source.at X G (fun _ _ _ _ _ _ us hl => match us, hl with | [_, _], _ => rfl) fun f fd F => ok__law_source T  F
  have G__law_draw : FnAt l.prog w K mg base "_law_draw" s__law_draw 1 ["source", "count"] (spO mg K 2 f__law_draw_ffea) := D__law_draw.at X G (fun _ _ _ _ _ _ us hl => match us, hl with | [_, _], _ => rfl) fun f fd F => ok__law_draw T  F
  have G__law_change : FnAt l.prog w K mg base "_law_change" s__law_change 2 ["source", "far", "most_many"] (spO mg K 3 f__law_change_3e3b) := D__law_change.at X G (fun _ _ _ _ _ _ us hl => match us, hl with | [_, _, _], _ => rfl) fun f fd F => ok__law_change T G__law_draw F
  have G_is_integer : FnAt l.prog w K mg base "is_integer" s_is_integer 1 ["value", "low", "high"] (spO mg K 3 f_is_integer_4a98) := D_is_integer.at X G (fun _ _ _ _ _ _ us hl => match us, hl with | [_, _, _], _ => rfl) fun f fd F => ok_is_integer T  F
  have G_need_number : FnAt l.prog w K mg base "need_number" s_need_number 2 ["value", "low", "high"] (spO mg K 3 f_need_number_26f5) := D_need_number.at X G (fun _ _ _ _ _ _ us hl => match us, hl with | [_, _, _], _ => rfl) fun f fd F => ok_need_number T G_is_integer F
  have G_need_lags : FnAt l.prog w K mg base "need_lags" s_need_lags 2 ["base", "lags"] (spO mg K 2 f_need_lags_4133) := D_need_lags.at X G (fun _ _ _ _ _ _ us hl => match us, hl with | [_, _], _ => rfl) fun f fd F => ok_need_lags T G_is_integer F
  have G_need_shares : FnAt l.prog w K mg base "need_shares" s_need_shares 2 ["shares", "many", "period"] (spO mg K 3 f_need_shares_7c9d) := D_need_shares.at X G (fun _ _ _ _ _ _ us hl => match us, hl with | [_, _, _], _ => rfl) fun f fd F => ok_need_shares T G_is_integer F
  have G_need_change : FnAt l.prog w K mg base "need_change" s_need_change 3 ["base", "lags", "period", "shares"] (spO mg K 4 f_need_change_b832) := D_need_change.at X G (fun _ _ _ _ _ _ us hl => match us, hl with | [_, _, _, _], _ => rfl) fun f fd F => ok_need_change T G_need_number G_need_lags G_need_shares F
  have G_due_later : FnAt l.prog w K mg base "due_later" s_due_later 1 ["base", "lags", "period", "shares", "later"] (spO mg K 5 f_due_later_72fa) := D_due_later.at X G (fun _ _ _ _ _ _ us hl => match us, hl with | [_, _, _, _, _], _ => rfl) fun f fd F => ok_due_later T  F
  have G_failing : FnAt l.prog w K mg base "failing" s_failing 2 ["base", "lags", "period", "shares"] (spO mg K 4 f_failing_4e64) := D_failing.at X G (fun _ _ _ _ _ _ us hl => match us, hl with | [_, _, _, _], _ => rfl) fun f fd F => ok_failing T G_due_later F
  have G_failing_moment : FnAt l.prog w K mg base "failing_moment" s_failing_moment 4 ["base", "lags", "period", "shares"] (spO mg K 4 f_failing_moment_dee4) := D_failing_moment.at X G (fun _ _ _ _ _ _ us hl => match us, hl with | [_, _, _, _], _ => rfl) fun f fd F => ok_failing_moment T G_need_change G_failing F
  have G_can_change : FnAt l.prog w K mg base "can_change" s_can_change 4 ["base", "lags", "period", "shares"] (spO mg K 4 f_can_change_9bf2) := D_can_change.at X G (fun _ _ _ _ _ _ us hl => match us, hl with | [_, _, _, _], _ => rfl) fun f fd F => ok_can_change T G_need_change G_failing F
  have G__law_failing : FnAt l.prog w K mg base "_law_failing" s__law_failing 1 ["ground", "some", "span", "parts"] (spO mg K 4 f__law_failing_b061) := D__law_failing.at X G (fun _ _ _ _ _ _ us hl => match us, hl with | [_, _, _, _], _ => rfl) fun f fd F => ok__law_failing T  F
  have G__law_can : FnAt l.prog w K mg base "_law_can" s__law_can 1 ["ground", "some", "span", "parts"] (spO mg K 4 f__law_can_fe40) := D__law_can.at X G (fun _ _ _ _ _ _ us hl => match us, hl with | [_, _, _, _], _ => rfl) fun f fd F => ok__law_can T  F
  have G__law_right : FnAt l.prog w K mg base "_law_right" s__law_right 5 ["ground", "some", "span", "parts", "is_short"] (spO mg K 5 f__law_right_3951) := D__law_right.at X G (fun _ _ _ _ _ _ us hl => match us, hl with | [_, _, _, _, _], _ => rfl) fun f fd F => ok__law_right T G__law_failing G_failing_moment G_can_change G__law_can F
  exact ok_law T G__law_source G__law_change G_failing_moment G_can_change G__law_right F
end
end Ev
open PySem PySem.W PyProof.Rows
set_option maxRecDepth 100000 in
set_option maxHeartbeats 0 in
theorem PySem.Challenge.cw_evenslices_k73_changes_by_search_holds : PySem.Challenge.rw_evenslices_k73_changes_by_search.Holds := by
  w_on; o_law; k_head; (case hw => w_witness2)
  k_fill
  refine DL.walk_g (l := PySem.Challenge.rw_evenslices_k73_changes_by_search) (n := 63) (k := 6) (x := "script") (R := Ev.lawR Ev.f_law_9a95) rfl (by decide) rfl ⟨rfl, by decide, by decide⟩ (fun w h Y => PySem.W.kIn_of Y) ?F (fun ns hn => Ev.lawR_of (Ev.law_k73 ns hn))
  case F =>
    intro w mg fa h KX G hmg
    refine' Ev.end_mk KX G hmg (DL.def_in ?a__law_source ?l__law_source ?c__law_source ?k__law_source) (DL.def_in ?a__law_draw ?l__law_draw ?c__law_draw ?k__law_draw) (DL.def_in ?a__law_change ?l__law_change ?c__law_change ?k__law_change) (DL.def_in ?a_is_integer ?l_is_integer ?c_is_integer ?k_is_integer) (DL.def_in ?a_need_number ?l_need_number ?c_need_number ?k_need_number) (DL.def_in ?a_need_lags ?l_need_lags ?c_need_lags ?k_need_lags) (DL.def_in ?a_need_shares ?l_need_shares ?c_need_shares ?k_need_shares) (DL.def_in ?a_need_change ?l_need_change ?c_need_change ?k_need_change) (DL.def_in ?a_due_later ?l_due_later ?c_due_later ?k_due_later) (DL.def_in ?a_failing ?l_failing ?c_failing ?k_failing) (DL.def_in ?a_failing_moment ?l_failing_moment ?c_failing_moment ?k_failing_moment) (DL.def_in ?a_can_change ?l_can_change ?c_can_change ?k_can_change) (DL.def_in ?a__law_failing ?l__law_failing ?c__law_failing ?k__law_failing) (DL.def_in ?a__law_can ?l__law_can ?c__law_can ?k__law_can) (DL.def_in ?a__law_right ?l__law_right ?c__law_right ?k__law_right) (DL.def_in ?a_law ?l_law ?c_law ?k_law) ?n_abs ?n_max ?n_int ?n_range ?n_isinstance ?n_bool ?n_enumerate ?n_list ?n_len ?n_sum ?n_zip ?n_min ?n_repr ?i_MOST_BASE ?i_MOST_PERIOD ?i_MOST_PROCESSES
    (case a__law_source => k_is); (case l__law_source => k_is); (case c__law_source => k_is); (case k__law_source => k_is)
    (case a__law_draw => k_is); (case l__law_draw => k_is); (case c__law_draw => k_is); (case k__law_draw => k_is)
    (case a__law_change => k_is); (case l__law_change => k_is); (case c__law_change => k_is); (case k__law_change => k_is)
    (case a_is_integer => k_is); (case l_is_integer => k_is); (case c_is_integer => k_is); (case k_is_integer => k_is)
    (case a_need_number => k_is); (case l_need_number => k_is); (case c_need_number => k_is); (case k_need_number => k_is)
    (case a_need_lags => k_is); (case l_need_lags => k_is); (case c_need_lags => k_is); (case k_need_lags => k_is)
    (case a_need_shares => k_is); (case l_need_shares => k_is); (case c_need_shares => k_is); (case k_need_shares => k_is)
    (case a_need_change => k_is); (case l_need_change => k_is); (case c_need_change => k_is); (case k_need_change => k_is)
    (case a_due_later => k_is); (case l_due_later => k_is); (case c_due_later => k_is); (case k_due_later => k_is)
    (case a_failing => k_is); (case l_failing => k_is); (case c_failing => k_is); (case k_failing => k_is)
    (case a_failing_moment => k_is); (case l_failing_moment => k_is); (case c_failing_moment => k_is); (case k_failing_moment => k_is)
    (case a_can_change => k_is); (case l_can_change => k_is); (case c_can_change => k_is); (case k_can_change => k_is)
    (case a__law_failing => k_is); (case l__law_failing => k_is); (case c__law_failing => k_is); (case k__law_failing => k_is)
    (case a__law_can => k_is); (case l__law_can => k_is); (case c__law_can => k_is); (case k__law_can => k_is)
    (case a__law_right => k_is); (case l__law_right => k_is); (case c__law_right => k_is); (case k__law_right => k_is)
    (case a_law => k_is); (case l_law => k_is); (case c_law => k_is); (case k_law => k_is)
    (case n_abs => k_is)
    (case n_max => k_is)
    (case n_int => k_is)
    (case n_range => k_is)
    (case n_isinstance => k_is)
    (case n_bool => k_is)
    (case n_enumerate => k_is)
    (case n_list => k_is)
    (case n_len => k_is)
    (case n_sum => k_is)
    (case n_zip => k_is)
    (case n_min => k_is)
    (case n_repr => k_is)
    (case i_MOST_BASE => k_is)
    (case i_MOST_PERIOD => k_is)
    (case i_MOST_PROCESSES => k_is)
