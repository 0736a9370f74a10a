import PyProof.Rows.All
import Wide.All
import OpenK.AllK
import Wide.FinOn
import HandS.ForMost
import HandS.ForExc
import HandS.TupAny
import HandS.Conv
import HandS.IsInst
import HandS.More
import HandS.SortInts
import PyProof.ReprRoads
import HandS.Style
import PyProof.StrLawsRepr
import HandS.Small
import HandS.Zip
import HandS.Ends
import HandS.ExcInit
import HandS.ExcField
import HandS.TryMany
import KE.KExcIs
import HandS.Strs
import KE.KDictPairs
import KE.KEqDict
import HandS.Rev
import KE.KDictZip
import KE.GoesZip
import KE.GoesMore
import HandS.Zip0
import HandS.WordsExc
import KE.KDictList
import HandS.RevRange
import HandS.Deep
import KE.KxText
import PySem.Challenge.RW_ticksurety_k08_carried_by_own_closure
set_option Elab.async false
set_option linter.all false
set_option maxRecDepth 100000
set_option autoImplicit false
set_option maxHeartbeats  4000000
namespace L3
open PySem PySem.Spec PyProof.Rows L2

/-- data without addresses -/
inductive D where
  | non | bl (b : Bool) | int (i : Int) | str (x : Str)
  | tup (ds : List D) | lst (ds : List D)
  | dic (kvs : List (Key × D))
  | dit (kvs : List (List Key × D))
  | obj (c : Str) (ks : List Str) (ds : List D)
  | ty (n : String)

/-- the text's side -/
structure Pm where
  K : PySem.W.Frag
  mg : Str → Option Value
abbrev _root_.L2.Cx.G (X : Cx) : Pm := ⟨X.K, X.mg⟩


/-- a constant of the module that is a tuple, a list -/
def ConT (K : PySem.W.Frag) (a : Addr) (xs : List V) : Prop :=
  ∃ (o : Obj) (its : Array Value) (n : Nat), K.lookup a = some o ∧ o.cls = .type "tuple" ∧ o.data = .seq its n ∧ its.size ≤ sizeLine ∧ Vals xs its.toList ∧ o.dict = none

abbrev St := L2.St
/-- a tuple that the heap holds has no dict of its own -/
def TD (H : Hp) (a : Addr) (d : D) : Prop := match d with
  | .tup _ => ∃ (ob : Obj) (vs : List V), H a = some (.frz ob (.tup vs)) ∧ ob.dict = none
  | _ => True
mutual
inductive Rep (G : Pm) (W : Addr → Prop) (H : Hp) : V → D → Prop where
  | non : Rep G W H .non .non
  | bl (b : Bool) : Rep G W H (.bl b) (.bl b)
  | int (i : Int) : Rep G W H (.int i) (.int i)
  | str (x : Str) : Rep G W H (.str x) (.str x)
  | ty (n : String) : Rep G W H (.ty n) (.ty n)
  | ref {a : Addr} {o : HO} {d : D} (h : Rd H a o) (w : ¬ W a) (c : Cont G W H o d) (t : TD H a d) : Rep G W H (.ref a) d
  | tupK {a : Addr} {vs : List V} {ds : List D} (h : ConT G.K a vs) (r : Reps G W H vs ds) : Rep G W H (.ref a) (.tup ds)
inductive Cont (G : Pm) (W : Addr → Prop) (H : Hp) : HO → D → Prop where
  | tup {vs : List V} {ds : List D} (r : Reps G W H vs ds) : Cont G W H (.tup vs) (.tup ds)
  | wtp {vs : List V} {ds : List D} (r : Reps G W H vs ds) : Cont G W H (.tup vs) (.obj "" [] ds)
  | lst {vs : List V} {ds : List D} (r : Reps G W H vs ds) : Cont G W H (.lst vs) (.lst ds)
  | dic {kvs : List (Key × V)} {kds : List (Key × D)} (k : kvs.map (·.1) = kds.map (·.1)) (r : Reps G W H (kvs.map (·.2)) (kds.map (·.2))) : Cont G W H (.dK kvs) (.dic kds)
  | dit {kvs : List (List Key × V)} {kds : List (List Key × D)} (k : kvs.map (·.1) = kds.map (·.1)) (r : Reps G W H (kvs.map (·.2)) (kds.map (·.2))) : Cont G W H (.dT kvs) (.dit kds)
  | obj {C dx : Addr} {c : Str} {vs : List V} {ks : List Str} {ds : List D} (m : G.mg c = some (.ref C)) (l : vs.length = ks.length) (r : Reps G W H vs ds) : Cont G W H (.ins C dx (ks.zip vs)) (.obj c ks ds)
inductive Reps (G : Pm) (W : Addr → Prop) (H : Hp) : List V → List D → Prop where
  | nil : Reps G W H [] []
  | cons {v : V} {d : D} {vs : List V} {ds : List D} (h : Rep G W H v d) (t : Reps G W H vs ds) : Reps G W H (v :: vs) (d :: ds)
end

/-- from one heap and its own objects to the next -/
structure Go (A : Addr → Prop) (H : Hp) (A' : Addr → Prop) (H' : Hp) : Prop where
  keep : ∀ b o, H b = some o → ¬ A b → H' b = some o
  sub : ∀ b, A' b → A b ∨ H b = none
  grow : ∀ b, H' b = none → H b = none
def Wu (W0 A : Addr → Prop) : Addr → Prop := fun b => W0 b ∨ A b

section
variable {G : Pm} {W0 W W' A A' A'' : Addr → Prop} {H H' H'' : Hp} {v : V} {d : D} {vs : List V} {ds : List D} {a : Addr} {u : HO}
theorem Go.refl : Go A H A H := ⟨fun _ _ h _ => h, fun _ h => .inl h, fun _ h => h⟩
theorem Go.trans (g : Go A H A' H') (g' : Go A' H' A'' H'') : Go A H A'' H'' where
  keep := fun b o h n => g'.keep b o (g.keep b o h n) fun z => (g.sub b z).elim n fun e => by rw [h] at e; cases e
  sub := fun b h => (g'.sub b h).elim (fun z => g.sub b z) fun e => .inr (g.grow b e)
  grow := fun b h => g.grow b (g'.grow b h)
theorem Go.of_same (s : Same H H') : Go A H A H' := ⟨fun b o h _ => s b o h, fun _ h => .inl h, fun _ h => s.free h⟩
theorem Go.less (h : ∀ b, A' b → A b) : Go A H A' H := ⟨fun _ _ h _ => h, fun _ z => .inl (h _ z), fun _ h => h⟩
theorem Rd.go (r : Rd H a u) (g : Go A H A' H') (n : ¬ A a) : Rd H' a u := by
  rcases r with r | ⟨o, r⟩
  · exact .inl (g.keep _ _ r n)
  · exact .inr ⟨o, g.keep _ _ r n⟩
theorem Rd.there (r : Rd H a u) : ∃ o, H a = some o := by
  rcases r with r | ⟨o, r⟩
  · exact ⟨_, r⟩
  · exact ⟨_, r⟩
/-- what a step asks of a footprint -/
def Stp (W : Addr → Prop) (H : Hp) (W' : Addr → Prop) (H' : Hp) : Prop := ∀ b o, H b = some o → ¬ W b → H' b = some o ∧ ¬ W' b
theorem Go.stp (g : Go A H A' H') : Stp (Wu W0 A) H (Wu W0 A') H' := fun b o h n =>
  ⟨g.keep b o h fun z => n (.inr z), fun z => z.elim (fun z => n (.inl z)) fun z => (g.sub b z).elim (fun z => n (.inr z)) fun e => by rw [h] at e; cases e⟩
theorem Rd.stp (r : Rd H a u) (g : Stp W H W' H') (n : ¬ W a) : Rd H' a u ∧ ¬ W' a := by
  rcases r with r | ⟨o, r⟩
  · exact ⟨.inl (g _ _ r n).1, (g _ _ r n).2⟩
  · exact ⟨.inr ⟨o, (g _ _ r n).1⟩, (g _ _ r n).2⟩
theorem TD.stp (t : TD H a d) (g : Stp W H W' H') (n : ¬ W a) : TD H' a d := by
  cases d with
  | tup ds =>
    obtain ⟨ob, vs, e, h⟩ := t
    exact ⟨ob, vs, (g _ _ e n).1, h⟩
  | _ => trivial
mutual
theorem Rep.stp (g : Stp W H W' H') : ∀ {v : V} {d : D}, Rep G W H v d → Rep G W' H' v d
  | _, _, .non => .non
  | _, _, .bl b => .bl b
  | _, _, .int i => .int i
  | _, _, .str x => .str x
  | _, _, .ty n => .ty n
  | _, _, .ref h w c t => .ref (Rd.stp h g w).1 (Rd.stp h g w).2 (Cont.stp g c) (TD.stp t g w)
  | _, _, .tupK h r => .tupK h (Reps.stp g r)
theorem Cont.stp (g : Stp W H W' H') : ∀ {o : HO} {d : D}, Cont G W H o d → Cont G W' H' o d
  | _, _, .tup r => .tup (Reps.stp g r)
  | _, _, .wtp r => .wtp (Reps.stp g r)
  | _, _, .lst r => .lst (Reps.stp g r)
  | _, _, .dic k r => .dic k (Reps.stp g r)
  | _, _, .dit k r => .dit k (Reps.stp g r)
  | _, _, .obj m l r => .obj m l (Reps.stp g r)
theorem Reps.stp (g : Stp W H W' H') : ∀ {vs : List V} {ds : List D}, Reps G W H vs ds → Reps G W' H' vs ds
  | _, _, .nil => .nil
  | _, _, .cons h t => .cons (Rep.stp g h) (Reps.stp g t)
end
theorem Rep.go (r : Rep G (Wu W0 A) H v d) (g : Go A H A' H') : Rep G (Wu W0 A') H' v d := r.stp g.stp
theorem Reps.go (r : Reps G (Wu W0 A) H vs ds) (g : Go A H A' H') : Reps G (Wu W0 A') H' vs ds := r.stp g.stp
theorem Stp.same (s : Same H H') : Stp W H W H' := fun b o h n => ⟨s b o h, n⟩
/-- fewer, or new ones -/
theorem Stp.less (h : ∀ b, W' b → W b ∨ H b = none) : Stp W H W' H := fun b o e n => ⟨e, fun z => (h b z).elim n fun q => by rw [e] at q; cases q⟩
theorem Reps.length : ∀ {vs : List V} {ds : List D}, Reps G W H vs ds → vs.length = ds.length
  | _, _, .nil => rfl
  | _, _, .cons _ t => by simp [Reps.length t]
theorem Reps.get : ∀ {vs : List V} {ds : List D} {i : Nat} {d : D}, Reps G W H vs ds → ds[i]? = some d → ∃ v, vs[i]? = some v ∧ Rep G W H v d
  | _, _, _, _, .nil, e => by simp at e
  | _, _, 0, _, .cons h _, e => by simp at e; subst e; exact ⟨_, rfl, h⟩
  | _, _, i + 1, d, .cons _ t, e => by
    obtain ⟨v, h1, h2⟩ := Reps.get (i := i) (d := d) t (by simpa using e)
    exact ⟨v, by simpa using h1, h2⟩
theorem Reps.getv : ∀ {vs : List V} {ds : List D} {i : Nat} {v : V}, Reps G W H vs ds → vs[i]? = some v → ∃ d, ds[i]? = some d ∧ Rep G W H v d
  | _, _, _, _, .nil, e => by simp at e
  | _, _, 0, _, .cons h _, e => by simp at e; subst e; exact ⟨_, rfl, h⟩
  | _, _, i + 1, d, .cons _ t, e => by
    obtain ⟨v, h1, h2⟩ := Reps.getv (i := i) (v := d) t (by simpa using e)
    exact ⟨v, by simpa using h1, h2⟩
theorem Reps.append : ∀ {vs vs' : List V} {ds ds' : List D}, Reps G W H vs ds → Reps G W H vs' ds' → Reps G W H (vs ++ vs') (ds ++ ds')
  | _, _, _, _, .nil, s => s
  | _, _, _, _, .cons h t, s => .cons h (Reps.append t s)
theorem Reps.take : ∀ {vs : List V} {ds : List D} (n : Nat), Reps G W H vs ds → Reps G W H (vs.take n) (ds.take n)
  | _, _, 0, _ => .nil
  | _, _, _ + 1, .nil => .nil
  | _, _, n + 1, .cons h t => .cons h (Reps.take n t)
theorem Reps.drop : ∀ {vs : List V} {ds : List D} (n : Nat), Reps G W H vs ds → Reps G W H (vs.drop n) (ds.drop n)
  | _, _, 0, r => r
  | _, _, _ + 1, .nil => .nil
  | _, _, n + 1, .cons _ t => Reps.drop n t
theorem Reps.set {v : V} {d : D} (h : Rep G W H v d) : ∀ {vs : List V} {ds : List D} (i : Nat), Reps G W H vs ds → Reps G W H (vs.set i v) (ds.set i d)
  | _, _, _, .nil => .nil
  | _, _, 0, .cons _ t => .cons h t
  | _, _, i + 1, .cons q t => .cons q (Reps.set h i t)
theorem Reps.erase : ∀ {vs : List V} {ds : List D} (i : Nat), Reps G W H vs ds → Reps G W H (vs.eraseIdx i) (ds.eraseIdx i)
  | _, _, _, .nil => .nil
  | _, _, 0, .cons _ t => t
  | _, _, i + 1, .cons q t => .cons q (Reps.erase i t)
theorem Reps.reverse : ∀ {vs : List V} {ds : List D}, Reps G W H vs ds → Reps G W H vs.reverse ds.reverse
  | _, _, .nil => .nil
  | _, _, .cons q t => by
    rw [List.reverse_cons, List.reverse_cons]
    exact Reps.append (Reps.reverse t) (.cons q .nil)
theorem Reps.ints : ∀ {vs : List V} {ns : List Int}, Reps G W H vs (ns.map D.int) → vs = ns.map V.int
  | _, [], .nil => rfl
  | _, _ :: _, .cons (.int _) t => by rw [Reps.ints t]; rfl
theorem Reps.of_ints : ∀ (ns : List Int), Reps G W H (ns.map V.int) (ns.map D.int)
  | [] => .nil
  | n :: r => .cons (.int n) (Reps.of_ints r)
theorem Reps.bls : ∀ {vs : List V} {ns : List Bool}, Reps G W H vs (ns.map D.bl) → vs = ns.map V.bl
  | _, [], .nil => rfl
  | _, _ :: _, .cons (.bl _) t => by rw [Reps.bls t]; rfl
theorem Reps.strs : ∀ {vs : List V} {ns : List Str}, Reps G W H vs (ns.map D.str) → vs = ns.map V.str
  | _, [], .nil => rfl
  | _, _ :: _, .cons (.str _) t => by rw [Reps.strs t]; rfl
theorem Reps.of_strs : ∀ (ns : List Str), Reps G W H (ns.map V.str) (ns.map D.str)
  | [] => .nil
  | n :: r => .cons (.str n) (Reps.of_strs r)

/-- an object of one's own: what stands at a -/
def Own (G : Pm) (W : Addr → Prop) (H : Hp) (a : Addr) (d : D) : Prop := ∃ o, H a = some o ∧ Mut (some o) ∧ Cont G W H o d
theorem Own.there (r : Own G W H a d) : ∃ o, H a = some o := let ⟨o, h, _⟩ := r; ⟨o, h⟩
theorem Own.stp (r : Own G W H a d) (g : Stp W H W' H') (e : H' a = H a) : Own G W' H' a d := let ⟨o, h, m, c⟩ := r; ⟨o, e.trans h, m, c.stp g⟩
/-- let go of: it is a value from now on -/
theorem Own.rep (r : Own G W H a d) (h : ∀ b, W' b → W b) (n : ¬ W' a) : Rep G W' H (.ref a) d :=
  let ⟨_, e, m, c⟩ := r
  .ref (.inl e) n (c.stp (.less fun b z => .inl (h b z))) (by
    cases d with
    | tup ds => cases c; exact m.elim
    | _ => trivial)

/-- a value that is looked at: its own top may be one's own -/
inductive RepP (G : Pm) (W : Addr → Prop) (H : Hp) : V → D → Prop where
  | rep {v : V} {d : D} (h : Rep G W H v d) : RepP G W H v d
  | own {a : Addr} {d : D} (h : Own G W H a d) : RepP G W H (.ref a) d
end

/-! ### slots -/
inductive Sl where
  | un | val (d : D) | own (d : D) | bor (d : D)
inductive SlOk (G : Pm) (W : Addr → Prop) (H : Hp) : Option V → Sl → Option Addr → Prop where
  | un (v : Option V) : SlOk G W H v .un none
  | val {v : V} {d : D} (h : Rep G W H v d) : SlOk G W H (some v) (.val d) none
  | own {a : Addr} {d : D} (h : Own G W H a d) : SlOk G W H (some (.ref a)) (.own d) (some a)
  | bor {a : Addr} {d : D} (h : Own G W H a d) : SlOk G W H (some (.ref a)) (.bor d) (some a)
abbrev Ad (as : List (Option Addr)) : Addr → Prop := fun b => some b ∈ as
abbrev En := List Sl
/-- what is fixed through a def's body: addresses that are left alone, the addresses of what is lent (by slot), the heap at the entry -/
structure Bs where
  W0 : Addr → Prop
  pn : List (Option Addr)
  He : Hp
abbrev Bs.W (B : Bs) (as : List (Option Addr)) : Addr → Prop := Wu B.W0 (Ad as)
structure Rel (G : Pm) (B : Bs) (as : List (Option Addr)) (σ : St) (H : Hp) (ρ : En) : Prop where
  l1 : σ.length = ρ.length
  l2 : as.length = ρ.length
  sl : ∀ (i : Nat) v s a, σ[i]? = some v → ρ[i]? = some s → as[i]? = some a → SlOk G (B.W as) H v s a
  pin : ∀ (i : Nat) d, ρ[i]? = some (.bor d) → as[i]? = B.pn[i]?
  fr : ∀ (i : Nat) d a, ρ[i]? = some (.own d) → as[i]? = some (some a) → B.He a = none
  inj : ∀ (i j : Nat) a, as[i]? = some (some a) → as[j]? = some (some a) → i = j
  nw : ∀ a, Ad as a → ¬ B.W0 a
  dom : ∀ b, B.W0 b → ∃ o, H b = some o
  gr : ∀ b, H b = none → B.He b = none

section
variable {G : Pm} {B : Bs} {W W' A A' : Addr → Prop} {as as' : List (Option Addr)} {σ σ' : St} {H H' : Hp} {ρ ρ' : En} {v : V} {d : D} {a : Addr}
theorem Ad.ix {b : Addr} (h : Ad as b) : ∃ i : Nat, as[i]? = some (some b) := List.mem_iff_getElem?.mp h
theorem Ad.of {b : Addr} {i : Nat} (h : as[i]? = some (some b)) : Ad as b := List.mem_of_getElem? h
theorem SlOk.adr {v : Option V} {s : Sl} (h : SlOk G W H v s (some a)) : ∃ d, v = some (.ref a) ∧ (s = .own d ∨ s = .bor d) ∧ Own G W H a d := by
  cases h with
  | own h => exact ⟨_, rfl, .inl rfl, h⟩
  | bor h => exact ⟨_, rfl, .inr rfl, h⟩
theorem Rel.three (R : Rel G B as σ H ρ) {i : Nat} (h : i < ρ.length) : ∃ v s a, σ[i]? = some v ∧ ρ[i]? = some s ∧ as[i]? = some a ∧ SlOk G (B.W as) H v s a := by
  have h1 : i < σ.length := by rw [R.l1]; exact h
  have h2 : i < as.length := by rw [R.l2]; exact h
  exact ⟨_, _, _, List.getElem?_eq_getElem h1, List.getElem?_eq_getElem h, List.getElem?_eq_getElem h2, R.sl i _ _ _ (List.getElem?_eq_getElem h1) (List.getElem?_eq_getElem h) (List.getElem?_eq_getElem h2)⟩
theorem lt_of_get {α : Type} {l : List α} {i : Nat} {x : α} (h : l[i]? = some x) : i < l.length := (List.getElem?_eq_some_iff.mp h).1
theorem Rel.at_s (R : Rel G B as σ H ρ) {i : Nat} {s : Sl} (h : ρ[i]? = some s) : ∃ v a, σ[i]? = some v ∧ as[i]? = some a ∧ SlOk G (B.W as) H v s a := by
  obtain ⟨v, s', a, h1, h2, h3, h4⟩ := R.three (lt_of_get h)
  rw [h] at h2; cases h2
  exact ⟨v, a, h1, h3, h4⟩
theorem Rel.at_a (R : Rel G B as σ H ρ) {i : Nat} (h : as[i]? = some (some a)) : ∃ d, σ[i]? = some (some (.ref a)) ∧ (ρ[i]? = some (.own d) ∨ ρ[i]? = some (.bor d)) ∧ Own G (B.W as) H a d := by
  obtain ⟨v, s, a', h1, h2, h3, h4⟩ := R.three (by rw [← R.l2]; exact lt_of_get h)
  rw [h] at h3; cases h3
  obtain ⟨d, rfl, h5, h6⟩ := h4.adr
  exact ⟨d, h1, h5.imp (fun e => by rw [h2, e]) (fun e => by rw [h2, e]), h6⟩
theorem Rel.domA (R : Rel G B as σ H ρ) : ∀ b, B.W as b → ∃ o, H b = some o := fun b h => by
  rcases h with h | h
  · exact R.dom b h
  · obtain ⟨i, h⟩ := Ad.ix h
    obtain ⟨d, _, _, o⟩ := R.at_a h
    exact o.there
theorem Rel.fresh (R : Rel G B as σ H ρ) {p : Addr} (h : H p = none) : ¬ B.W as p := fun z => by
  obtain ⟨o, e⟩ := R.domA p z
  rw [h] at e; cases e
/-- THE STEP: slots are kept or new -/
theorem Rel.step (R : Rel G B as σ H ρ) (g : Go (Ad as) H (Ad as') H') (l1 : σ'.length = ρ'.length) (l2 : as'.length = ρ'.length)
    (hs : ∀ j, j < ρ'.length → (σ'[j]? = σ[j]? ∧ ρ'[j]? = ρ[j]? ∧ as'[j]? = as[j]? ∧ ∀ a, as[j]? = some (some a) → H' a = H a) ∨
      ∃ v s a, σ'[j]? = some v ∧ ρ'[j]? = some s ∧ as'[j]? = some a ∧ SlOk G (B.W as') H' v s a ∧ (∀ d, s = .bor d → some a = B.pn[j]?) ∧ ∀ d b, s = .own d → a = some b → B.He b = none)
    (inj : ∀ (i j : Nat) a, as'[i]? = some (some a) → as'[j]? = some (some a) → i = j) (nw : ∀ a, Ad as' a → ¬ B.W0 a) : Rel G B as' σ' H' ρ' where
  l1 := l1
  l2 := l2
  sl := fun i v s a h1 h2 h3 => by
    rcases hs i (lt_of_get h2) with ⟨e1, e2, e3, e4⟩ | ⟨v', s', a', e1, e2, e3, e4, _, _⟩
    · have x := R.sl i v s a (e1.symm.trans h1) (e2.symm.trans h2) (e3.symm.trans h3)
      cases x with
      | un => exact .un _
      | val h => exact .val (h.go g)
      | own h => exact .own (h.stp g.stp (e4 _ (e3.symm.trans h3)))
      | bor h => exact .bor (h.stp g.stp (e4 _ (e3.symm.trans h3)))
    · rw [h1] at e1; rw [h2] at e2; rw [h3] at e3
      cases e1; cases e2; cases e3
      exact e4
  pin := fun i d h => by
    rcases hs i (lt_of_get h) with ⟨e1, e2, e3, e4⟩ | ⟨v', s', a', e1, e2, e3, _, e5, _⟩
    · rw [e3]; exact R.pin i d (e2.symm.trans h)
    · rw [h] at e2; cases e2
      rw [e3]; exact e5 d rfl
  fr := fun i d a h ha => by
    rcases hs i (lt_of_get h) with ⟨e1, e2, e3, e4⟩ | ⟨v', s', a', e1, e2, e3, _, e5, e6⟩
    · exact R.fr i d a (e2.symm.trans h) (e3.symm.trans ha)
    · rw [h] at e2; cases e2
      rw [ha] at e3; cases e3
      exact e6 d a rfl rfl
  gr := fun b e => R.gr b (g.grow b e)
  inj := inj
  nw := nw
  dom := fun b h => by
    obtain ⟨o, e⟩ := R.dom b h
    cases q : H' b with
    | none => rw [g.grow b q] at e; cases e
    | some o' => exact ⟨o', rfl⟩
theorem Rel.same (R : Rel G B as σ H ρ) (s : Same H H') : Rel G B as σ H' ρ :=
  R.step (.of_same s) R.l1 R.l2 (fun j _ => .inl ⟨rfl, rfl, rfl, fun a h => by
    obtain ⟨d, _, _, o⟩ := R.at_a h
    obtain ⟨u, e⟩ := o.there
    rw [e]; exact s _ _ e⟩) R.inj R.nw
theorem Ad.set_none {i : Nat} {b : Addr} (h : Ad (as.set i none) b) : Ad as b := by
  obtain ⟨j, h⟩ := Ad.ix h
  by_cases e : j = i
  · subst e
    by_cases hl : j < as.length
    · rw [List.getElem?_set_self hl] at h; cases h
    · rw [List.set_eq_of_length_le (by omega)] at h; exact Ad.of h
  · rw [List.getElem?_set_ne (Ne.symm e)] at h; exact Ad.of h
theorem get_set {α : Type} {l : List α} {i j : Nat} {x y : α} (h : (l.set i x)[j]? = some y) : (j = i ∧ y = x ∧ i < l.length) ∨ (j ≠ i ∧ l[j]? = some y) := by
  by_cases e : j = i
  · subst e
    by_cases hl : j < l.length
    · rw [List.getElem?_set_self hl] at h; cases h; exact .inl ⟨rfl, rfl, hl⟩
    · rw [List.set_eq_of_length_le (by omega)] at h; exact absurd (lt_of_get h) hl
  · rw [List.getElem?_set_ne (Ne.symm e)] at h; exact .inr ⟨e, h⟩
theorem Ad.set_some {i : Nat} {b p : Addr} (h : Ad (as.set i (some p)) b) : b = p ∨ Ad as b := by
  obtain ⟨j, h⟩ := Ad.ix h
  rcases get_set h with ⟨_, e, _⟩ | ⟨_, e⟩
  · cases e; exact .inl rfl
  · exact .inr (Ad.of e)
/-- a value into a slot -/
theorem Rel.setVal0 (R : Rel G B as σ H ρ) {i : Nat} (hi : i < ρ.length) (r : Rep G (B.W as) H v d) : Rel G B (as.set i none) (σ.set i (some v)) H (ρ.set i (.val d)) := by
  have g : Go (Ad as) H (Ad (as.set i none)) H := .less fun b => Ad.set_none
  refine R.step g (by simp [R.l1]) (by simp [R.l2]) (fun j hj => ?_) (fun m j a h1 h2 => ?_) fun a h => R.nw a (Ad.set_none h)
  · by_cases e : j = i
    · subst e
      refine .inr ⟨some v, .val d, none, ?_, ?_, ?_, .val (r.go g), fun d h => (nomatch h), fun d b h => (nomatch h)⟩
      · rw [List.getElem?_set_self (by rw [R.l1]; exact hi)]
      · rw [List.getElem?_set_self hi]
      · rw [List.getElem?_set_self (by rw [R.l2]; exact hi)]
    · refine .inl ⟨?_, ?_, ?_, fun _ _ => rfl⟩ <;> rw [List.getElem?_set_ne (Ne.symm e)]
  · rcases get_set h1 with ⟨_, e, _⟩ | ⟨_, e1⟩
    · cases e
    · rcases get_set h2 with ⟨_, e, _⟩ | ⟨_, e2⟩
      · cases e
      · exact R.inj m j a e1 e2
/-- a slot is wiped -/
theorem Rel.setUn (R : Rel G B as σ H ρ) {i : Nat} (hi : i < ρ.length) (v : Option V) : Rel G B (as.set i none) (σ.set i v) H (ρ.set i .un) := by
  have g : Go (Ad as) H (Ad (as.set i none)) H := .less fun b => Ad.set_none
  refine R.step g (by simp [R.l1]) (by simp [R.l2]) (fun j hj => ?_) (fun m j a h1 h2 => ?_) fun a h => R.nw a (Ad.set_none h)
  · by_cases e : j = i
    · subst e
      refine .inr ⟨v, .un, none, ?_, ?_, ?_, .un _, fun d h => (nomatch h), fun d b h => (nomatch h)⟩
      · rw [List.getElem?_set_self (by rw [R.l1]; exact hi)]
      · rw [List.getElem?_set_self hi]
      · rw [List.getElem?_set_self (by rw [R.l2]; exact hi)]
    · refine .inl ⟨?_, ?_, ?_, fun _ _ => rfl⟩ <;> rw [List.getElem?_set_ne (Ne.symm e)]
  · rcases get_set h1 with ⟨_, e, _⟩ | ⟨_, e1⟩
    · cases e
    · rcases get_set h2 with ⟨_, e, _⟩ | ⟨_, e2⟩
      · cases e
      · exact R.inj m j a e1 e2
/-- a new object of one's own into a slot: H is the heap ahead of it -/
theorem Rel.setOwn (R : Rel G B as σ H ρ) {i : Nat} (hi : i < ρ.length) {p : Addr} {o : HO} (hp : H p = none) (mu : Mut (some o)) (c : Cont G (B.W as) H o d) :
    Rel G B (as.set i (some p)) (σ.set i (some (.ref p))) (upd H p o) (ρ.set i (.own d)) ∧ Go (Ad as) H (Ad (as.set i (some p))) (upd H p o) := by
  have s : Same H (upd H p o) := fun b u e => by rw [upd_ne (ne_of_none e hp)]; exact e
  have g0 : Go (Ad as) H (Ad (as.set i (some p))) H := ⟨fun _ _ h _ => h, fun b h => (Ad.set_some h).elim (fun e => .inr (by rw [e]; exact hp)) .inl, fun _ h => h⟩
  have g : Go (Ad as) H (Ad (as.set i (some p))) (upd H p o) := g0.trans (.of_same s)
  have np : ¬ B.W as p := R.fresh hp
  refine ⟨R.step g (by simp [R.l1]) (by simp [R.l2]) (fun j hj => ?_) (fun m j a h1 h2 => ?_) fun a h => ?_, g⟩
  · by_cases e : j = i
    · subst e
      refine .inr ⟨some (.ref p), .own d, some p, ?_, ?_, ?_, .own ⟨o, upd_same, mu, c.stp g.stp⟩, fun d h => (nomatch h), fun d b _ h => by cases h; exact R.gr p hp⟩
      · rw [List.getElem?_set_self (by rw [R.l1]; exact hi)]
      · rw [List.getElem?_set_self hi]
      · rw [List.getElem?_set_self (by rw [R.l2]; exact hi)]
    · refine .inl ⟨?_, ?_, ?_, fun a ha => ?_⟩
      · rw [List.getElem?_set_ne (Ne.symm e)]
      · rw [List.getElem?_set_ne (Ne.symm e)]
      · rw [List.getElem?_set_ne (Ne.symm e)]
      · obtain ⟨d', _, _, o'⟩ := R.at_a ha
        obtain ⟨u, eu⟩ := o'.there
        rw [eu]; exact s _ _ eu
  · rcases get_set h1 with ⟨m1, e, _⟩ | ⟨m1, e1⟩
    · cases e
      rcases get_set h2 with ⟨m2, e, _⟩ | ⟨m2, e2⟩
      · rw [m1, m2]
      · exact absurd (.inr (Ad.of e2)) np
    · rcases get_set h2 with ⟨m2, e, _⟩ | ⟨m2, e2⟩
      · cases e
        exact absurd (.inr (Ad.of e1)) np
      · exact R.inj m j a e1 e2
  · rcases Ad.set_some h with rfl | h
    · exact fun z => np (.inl z)
    · exact R.nw a h
/-- an object of one's own is let go of -/
theorem Rel.freeze (R : Rel G B as σ H ρ) {i : Nat} (h : ρ[i]? = some (.own d)) : Rel G B (as.set i none) σ H (ρ.set i (.val d)) ∧ Go (Ad as) H (Ad (as.set i none)) H := by
  have hi := lt_of_get h
  obtain ⟨v, a, h1, h2, h3⟩ := R.at_s h
  cases h3 with
  | @own a _ o =>
  have g : Go (Ad as) H (Ad (as.set i none)) H := .less fun b => Ad.set_none
  have na : ¬ B.W (as.set i none) a := fun z => by
    rcases z with z | z
    · exact R.nw a (Ad.of h2) z
    · obtain ⟨j, z⟩ := Ad.ix z
      rcases get_set z with ⟨_, e, _⟩ | ⟨ne, e⟩
      · cases e
      · exact ne (R.inj j i a e h2)
  refine ⟨R.step g (by simp [R.l1]) (by simp [R.l2]) (fun j hj => ?_) (fun m j a h1 h2 => ?_) fun a h => R.nw a (Ad.set_none h), g⟩
  · by_cases e : j = i
    · subst e
      refine .inr ⟨_, .val d, none, h1, ?_, ?_, .val (o.rep (fun b z => z.imp id Ad.set_none) na), fun d h => (nomatch h), fun d b h => (nomatch h)⟩
      · rw [List.getElem?_set_self hi]
      · rw [List.getElem?_set_self (by rw [R.l2]; exact hi)]
    · refine .inl ⟨rfl, ?_, ?_, fun _ _ => rfl⟩ <;> rw [List.getElem?_set_ne (Ne.symm e)]
  · rcases get_set h1 with ⟨_, e, _⟩ | ⟨_, e1⟩
    · cases e
    · rcases get_set h2 with ⟨_, e, _⟩ | ⟨_, e2⟩
      · cases e
      · exact R.inj m j a e1 e2
/-- the content of one's own object (own or lent) is changed -/
def Sl.put : Sl → D → Sl
  | .own _, d => .own d
  | .bor _, d => .bor d
  | s, _ => s
def Sl.get : Sl → Option D
  | .own d => some d
  | .bor d => some d
  | _ => none
theorem Rel.mut (R : Rel G B as σ H ρ) {i : Nat} {s : Sl} {d' : D} {o : HO} (h : ρ[i]? = some s) (ha : as[i]? = some (some a)) (hm : H' a = some o) (hk : ∀ b, b ≠ a → H' b = H b) (mu : Mut (some o)) (c : Cont G (B.W as) H' o d') :
    Rel G B as σ H' (ρ.set i (s.put d')) ∧ Go (Ad as) H (Ad as) H' := by
  have hi := lt_of_get h
  obtain ⟨v, a', h1, h2, h3⟩ := R.at_s h
  rw [ha] at h2; cases h2
  obtain ⟨d0, rfl, hs, o0⟩ := h3.adr
  obtain ⟨u0, e0⟩ := o0.there
  have g : Go (Ad as) H (Ad as) H' := ⟨fun b u e n => by
      rw [hk b fun z => n (z ▸ Ad.of ha)]; exact e, fun _ h => .inl h, fun b e => by
      by_cases z : b = a
      · subst z; rw [hm] at e; cases e
      · rw [hk b z] at e; exact e⟩
  refine ⟨R.step g (by simp [R.l1]) (by simp [R.l2]) (fun j hj => ?_) R.inj R.nw, g⟩
  by_cases e : j = i
  · subst e
    refine .inr ⟨_, s.put d', some a, h1, ?_, ha, ?_, fun d hd => ?_, fun d b hd hb => ?_⟩
    · rw [List.getElem?_set_self hi]
    · rcases hs with rfl | rfl
      · exact .own ⟨o, hm, mu, c⟩
      · exact .bor ⟨o, hm, mu, c⟩
    · rcases hs with rfl | rfl
      · cases hd
      · rw [← R.pin j d0 h, ha]
    · cases hb
      rcases hs with rfl | rfl
      · exact R.fr j d0 a h ha
      · cases hd
  · refine .inl ⟨rfl, ?_, rfl, fun b hb => hk b fun z => ?_⟩
    · rw [List.getElem?_set_ne (Ne.symm e)]
    · subst z; exact e (R.inj j i _ hb ha)
end
end L3
namespace L3
open PySem PySem.Spec PyProof.Rows L2
/-! ### tuples that are made have no dict of their own: the library's rules, with the object told -/
theorem ConT.sq {K : PySem.W.Frag} {H : Hp} {a : Addr} {vs : List V} (h : ConT K a vs) : SqT K H a vs := let ⟨o, its, n, h1, h2, h3, h4, h5, _⟩ := h; .inr ⟨o, its, n, h1, h2, h3, h4, h5⟩
section
variable {X : Cx} {es : List Expr} {t : TA} {pos : Pos}
def tTupS (t : TA) : TE := fun σ H Q => t σ H fun xs H1 => xs.length ≤ sizeLine ∧ ∀ p (ob : Obj), H1 p = none → ob.dict = none → Q (.ref p) (upd H1 p (.frz ob (.tup xs)))
theorem pe_tupS {x1} (h : PA X es t) : PE X (.Tuple es x1 pos) (tTupS t) := by
  refine ⟨fun pins s σ H Q I hq => ?_⟩
  refine wpAny_Tuple_spliced (thn (h.run pos pins s σ H _ I hq) fun us s1 ⟨xs, H1, I1, r, z, q⟩ => ⟨by rw [← r.length]; exact z, ?_⟩)
  have hf : H1 s1.heap.objs.size = none := I1.hok.fresh (Nat.le_refl _)
  refine ⟨.ref s1.heap.objs.size, upd H1 s1.heap.objs.size (.frz { cls := .type "tuple", data := .seq us.toArray } (.tup xs)), I1.laid (t' := s1.toks) (fun b u e => Heap.get?_push_of_some _ e) (Nat.le_refl _) ?_, rfl, q _ _ hf rfl⟩
  exact ⟨Heap.get?_push_size _ rfl, z, us, r, ⟨_, Heap.get?_push_size _ rfl, rfl, _, rfl⟩⟩
theorem call_tuple_ofS : CallR X (.type "tuple") (fun xs H Q => ∃ p ys, xs = [.ref p] ∧ ((SqL X.K H p ys ∧ ∀ l (ob : Obj), H l = none → ob.dict = none → Q (.ref l) (upd H l (.frz ob (.tup ys)))) ∨ (SqT X.K H p ys ∧ Q (.ref p) H))) := by
  intro pins s σ H xs us Q I r h
  obtain ⟨p, ys, rfl, h⟩ := h
  obtain ⟨u, rfl, rx⟩ := vals1 r
  cases rx
  rcases h with ⟨hq, q⟩ | ⟨hq, q⟩
  · obtain ⟨its, r', pl, hz⟩ := I.list hq
    have hlen := r'.length
    refine call_tuple_list pl.isList (fun h' kp => ?_) (by simp only [List.size_toArray] <;> omega)
    have I1 : Inv X pins σ H { s with heap := h' } := I.kept (t' := s.toks) kp
    have I2 : Inv X pins σ (upd H h'.objs.size (.frz { cls := .type "tuple", data := .seq its.toArray } (.tup ys))) { s with heap := h'.push { cls := .type "tuple", data := .seq its.toArray } } :=
      I1.laid (t' := s.toks) (fun b o e => Heap.get?_push_of_some _ e) (Nat.le_refl _) (show ObjOk X.prog X.w _ _ _ (.frz { cls := .type "tuple", data := .seq its.toArray } (.tup ys)) from ⟨Heap.get?_push_size _ rfl, hz, its, r', IsTup.new _ _⟩)
    exact ⟨.ref h'.objs.size, _, I2, rfl, q _ _ (I1.hok.fresh (Nat.le_refl _)) rfl⟩
  · obtain ⟨its, r', pl, hz⟩ := I.tuple hq
    exact call_tuple_same pl ⟨.ref p, H, I, rfl, q⟩
def rCatS (K : PySem.W.Frag) : R2 := fun x y H Q => ∃ a b xs ys, x = .ref a ∧ y = .ref b ∧ SqT K H a xs ∧ SqT K H b ys ∧ xs.length + ys.length ≤ sizeLine ∧
  (xs = [] → Q (.ref b) H) ∧ (xs ≠ [] → ys = [] → Q (.ref a) H) ∧ (xs ≠ [] → ys ≠ [] → ∀ p (ob : Obj), H p = none → ob.dict = none → Q (.ref p) (upd H p (.frz ob (.tup (xs ++ ys)))))
theorem op_catS : OpR X (binaryOp .Add) (rCatS X.K) := by
  intro pins s σ H x y v u Q I rx ry h
  obtain ⟨a, b, xs, ys, rfl, rfl, ha, hb, hz, q0, q1, q2⟩ := h
  cases rx
  cases ry
  obtain ⟨its, r1, p1, _⟩ := I.tuple ha
  obtain ⟨its2, r2, p2, _⟩ := I.tuple hb
  by_cases hx : xs = []
  · subst hx
    cases r1
    exact cat_tup0 p1 p2 ⟨.ref b, H, I, rfl, q0 rfl⟩
  · refine HT.cat_tup p1 p2 (fun z => hx (r1.nil_iff.mp z)) (fun z => ⟨.ref a, H, I, rfl, q1 hx (r2.nil_iff.mp z)⟩) (fun z => ?_) (by rw [← r1.length, ← r2.length]; exact hz)
    refine ⟨.ref s.heap.objs.size, _, I.laid (t' := s.toks) (o := .frz { cls := .type "tuple", data := .seq (its ++ its2).toArray } (.tup (xs ++ ys))) (fun b ob q => Heap.get?_push_of_some _ q) (Nat.le_refl _) ?_, rfl, q2 hx (fun w => z (r2.nil_iff.mpr w)) _ _ (I.hok.fresh (Nat.le_refl _)) rfl⟩
    exact ⟨Heap.get?_push_size _ rfl, by rw [List.length_append]; exact hz, _, r1.append r2, IsTup.new _ _⟩
def rSlS (K : PySem.W.Frag) : V → Option Int → Option Int → Hp → VK → Prop := fun x lo hi H Q => ∃ a xs, x = .ref a ∧ SqT K H a xs ∧
  (HT.sIx xs.length 0 lo = 0 ∧ HT.sIx xs.length xs.length hi = xs.length → Q (.ref a) H) ∧ (¬ (HT.sIx xs.length 0 lo = 0 ∧ HT.sIx xs.length xs.length hi = xs.length) → ∀ p (ob : Obj), H p = none → ob.dict = none → Q (.ref p) (upd H p (.frz ob (.tup (cutV xs lo hi)))))
theorem sl_tupS : SlR X (rSlS X.K) := by
  intro pins s σ H x v vl vu lo hi sl Q I rx hs pl pu h
  obtain ⟨a, xs, rfl, hx, q1, q2⟩ := h
  cases rx
  obtain ⟨its, r, ht, hz⟩ := I.tuple hx
  have hlen : its.toArray.size = xs.length := by rw [List.size_toArray]; exact r.length.symm
  by_cases hw : HT.sIx xs.length 0 lo = 0 ∧ HT.sIx xs.length xs.length hi = xs.length
  · refine ⟨"tuple", _, PyProof.Rows.slot_tuple_getitem.lookup, ht.typeIs, ?_⟩
    exact getItem_tuple_whole ht hs pl pu (by rw [hlen]; exact hw) ⟨.ref a, H, I, rfl, q1 hw⟩
  · refine ⟨"tuple", _, PyProof.Rows.slot_tuple_getitem.lookup, ht.typeIs, ?_⟩
    refine HT.getItem_tuple_cut ht hs pl pu (by rw [hlen]; exact hw) ?_ (by rw [hlen]; exact hz)
    rw [hlen]
    refine ⟨.ref s.heap.objs.size, _, I.laid (t' := s.toks) (o := .frz { cls := .type "tuple", data := .seq ((its.drop (HT.sIx xs.length 0 lo)).take (HT.sIx xs.length xs.length hi - HT.sIx xs.length 0 lo)).toArray } (.tup (cutV xs lo hi))) (fun b ob q => Heap.get?_push_of_some _ q) (Nat.le_refl _) ?_, rfl, q2 hw _ _ (I.hok.fresh (Nat.le_refl _)) rfl⟩
    exact ⟨Heap.get?_push_size _ rfl, Nat.le_trans (cutV_length xs lo hi) hz, _, (r.drop (HT.sIx xs.length 0 lo)).take (HT.sIx xs.length xs.length hi - HT.sIx xs.length 0 lo), IsTup.new _ _⟩
end
end L3
namespace L3
open PySem PySem.Spec PyProof.Rows L2

/-- an exception: its class by its name, its fields -/
structure Ex where
  c : Str
  fs : List (Str × D)
inductive Out (α : Type) where
  | ok (a : α) (ρ : En) | exc (e : Ex) (ρ : En) | bad
def Out.bind {α β : Type} (x : Out α) (k : α → En → Out β) : Out β := match x with
  | .ok a ρ => k a ρ
  | .exc e ρ => .exc e ρ
  | .bad => .bad
/-- an expression's result: data, or what stands in a slot as one's own -/
inductive Pv where
  | v (d : D) | b (i : Nat)
def Sl.dat : Sl → Option D
  | .own d => some d
  | .bor d => some d
  | _ => none
def pvD (ρ : En) : Pv → Option D
  | .v d => some d
  | .b i => (ρ[i]?).bind Sl.dat
def ofO (o : Option D) (ρ : En) : Out Pv := match o with
  | some d => .ok (.v d) ρ
  | none => .bad
def ofB (o : Option Bool) (ρ : En) : Out Bool := match o with
  | some d => .ok d ρ
  | none => .bad

abbrev Bs.and (B : Bs) (a : Addr) : Bs := { B with W0 := fun b => B.W0 b ∨ b = a }

/-- an exception as it lies -/
def RepX (G : Pm) (W : Addr → Prop) (H : Hp) (cls : Value) (dx : Option Addr) (e : Ex) : Prop :=
  (G.mg e.c = some cls ∨ (G.mg e.c = none ∧ bootBuiltins e.c = some cls)) ∧
    ((dx = none ∧ e.fs = []) ∨ ∃ d vfs, dx = some d ∧ H d = some (.xd vfs) ∧ vfs.map (·.1) = e.fs.map (·.1) ∧ Reps G W H (vfs.map (·.2)) (e.fs.map (·.2)))

inductive PvOk (G : Pm) (W : Addr → Prop) (as : List (Option Addr)) (H : Hp) : V → Pv → Prop where
  | v {v : V} {d : D} (h : Rep G W H v d) : PvOk G W as H v (.v d)
  | b {a : Addr} {i : Nat} (h : as[i]? = some (some a)) : PvOk G W as H (.ref a) (.b i)
inductive PvsOk (G : Pm) (W : Addr → Prop) (as : List (Option Addr)) (H : Hp) : List V → List Pv → Prop where
  | nil : PvsOk G W as H [] []
  | cons {v : V} {p : Pv} {vs : List V} {ps : List Pv} (h : PvOk G W as H v p) (t : PvsOk G W as H vs ps) : PvsOk G W as H (v :: vs) (p :: ps)

abbrev WXZ := Value → Option Addr → L2.St → Hp → Prop

section
variable {X : Cx} {Z : WXZ} {B : Bs} {as as' : List (Option Addr)} {σ σ' : L2.St} {H H' H1 : Hp} {ρ ρ' : En} {α β : Type}

/-- an outcome is met -/
def EO (X : Cx) (Z : WXZ) (B : Bs) (as : List (Option Addr)) (σ : L2.St) (H : Hp) (K : α → En → Hp → Prop) : Out α → Prop
  | .ok a ρ' => ∀ H', Rel X.G B as σ H' ρ' → Go (Ad as) H (Ad as) H' → K a ρ' H'
  | .exc e ρ' => ∀ cls dx H', Rel X.G B as σ H' ρ' → Go (Ad as) H (Ad as) H' → RepX X.G (B.W as) H' cls dx e → Z cls dx σ H'
  | .bad => False
theorem EO.imp {K K' : α → En → Hp → Prop} {o : Out α} (h : EO X Z B as σ H K o) (f : ∀ a ρ' H', Rel X.G B as σ H' ρ' → Go (Ad as) H (Ad as) H' → K a ρ' H' → K' a ρ' H') : EO X Z B as σ H K' o := by
  cases o with
  | ok a ρ' => exact fun H' R g => f a ρ' H' R g (h H' R g)
  | exc e ρ' => exact h
  | bad => exact h
theorem EO.after {K : α → En → Hp → Prop} {o : Out α} (h : EO X Z B as σ H K o) (g : Go (Ad as) H (Ad as) H1) : EO X Z B as σ H1 K o := by
  cases o with
  | ok a ρ' => exact fun H' R g' => h H' R (g.trans g')
  | exc e ρ' => exact fun cls dx H' R g' x => h cls dx H' R (g.trans g') x
  | bad => exact h
theorem EO.bind {K : β → En → Hp → Prop} {o : Out α} {k : α → En → Out β} (h : EO X Z B as σ H K (o.bind k)) : EO X Z B as σ H (fun a ρ1 H1 => EO X Z B as σ H1 K (k a ρ1)) o := by
  cases o with
  | ok a ρ' => exact fun H' R g => EO.after h g
  | exc e ρ' => exact h
  | bad => exact h

theorem PvOk.go {v : V} {p : Pv} (h : PvOk X.G (B.W as) as H v p) (g : Go (Ad as) H (Ad as) H') : PvOk X.G (B.W as) as H' v p := by
  cases h with
  | v h => exact .v (h.go g)
  | b h => exact .b h
theorem PvsOk.go : ∀ {vs : List V} {ps : List Pv} (h : PvsOk X.G (B.W as) as H vs ps) (g : Go (Ad as) H (Ad as) H'), PvsOk X.G (B.W as) as H' vs ps
  | _, _, .nil, _ => .nil
  | _, _, .cons h t, g => .cons (h.go g) (PvsOk.go t g)
theorem PvOk.peek {v : V} {p : Pv} {d : D} (R : Rel X.G B as σ H ρ) (h : PvOk X.G (B.W as) as H v p) (e : pvD ρ p = some d) : RepP X.G (B.W as) H v d := by
  cases h with
  | v h => cases e; exact .rep h
  | @b a i h =>
    obtain ⟨d', h1, h2, h3⟩ := R.at_a h
    have : d' = d := by
      rcases h2 with h2 | h2
      · simpa [pvD, h2, Sl.dat] using e
      · simpa [pvD, h2, Sl.dat] using e
    subst this
    exact .own h3

/-! ### the judgements -/
structure DEt (X : Cx) (Z : WXZ) (t : TE) (f : En → Out Pv) : Prop where
  go : ∀ {B : Bs} {as : List (Option Addr)} {σ : L2.St} {H : Hp} {ρ : En} {Q : VK}, Rel X.G B as σ H ρ → EO X Z B as σ H (fun p _ H' => ∀ v, PvOk X.G (B.W as) as H' v p → Q v H') (f ρ) → t σ H Q
def DE (X : Cx) (Z : WXZ) (e : Expr) (f : En → Out Pv) : Prop := ∃ t, PE X e t ∧ DEt X Z t f
structure DTt (X : Cx) (Z : WXZ) (t : TT) (f : En → Out Bool) : Prop where
  go : ∀ {B : Bs} {as : List (Option Addr)} {σ : L2.St} {H : Hp} {ρ : En} {Q : Bool → Hp → Prop}, Rel X.G B as σ H ρ → EO X Z B as σ H (fun b _ H' => Q b H') (f ρ) → t σ H Q
def DT (X : Cx) (Z : WXZ) (e : Expr) (f : En → Out Bool) : Prop := ∃ t, PT X e t ∧ DTt X Z t f
def DW (X : Cx) (Z : WXZ) (e : Expr) (f : En → Out Bool) : Prop := ∃ t, PW X e t ∧ DTt X Z t f
structure DAt (X : Cx) (Z : WXZ) (t : TA) (f : En → Out (List Pv)) : Prop where
  go : ∀ {B : Bs} {as : List (Option Addr)} {σ : L2.St} {H : Hp} {ρ : En} {Q : List V → Hp → Prop}, Rel X.G B as σ H ρ → EO X Z B as σ H (fun ps _ H' => ∀ vs, PvsOk X.G (B.W as) as H' vs ps → Q vs H') (f ρ) → t σ H Q
def DA (X : Cx) (Z : WXZ) (es : List Expr) (f : En → Out (List Pv)) : Prop := ∃ t, PA X es t ∧ DAt X Z t f
/-- an expression that makes a new list (dict ..), for a slot of its own -/
structure DNt (X : Cx) (Z : WXZ) (t : TE) (f : En → Out D) : Prop where
  go : ∀ {B : Bs} {as : List (Option Addr)} {σ : L2.St} {H : Hp} {ρ : En} {Q : VK}, Rel X.G B as σ H ρ →
    EO X Z B as σ H (fun d ρ' H' => ∀ a H2, Rel X.G (B.and a) as σ H2 ρ' → Go (Ad as) H' (Ad as) H2 → H a = none → Own X.G ((B.and a).W as) H2 a d → Q (.ref a) H2) (f ρ) → t σ H Q
def DN (X : Cx) (Z : WXZ) (e : Expr) (f : En → Out D) : Prop := ∃ t, PE X e t ∧ DNt X Z t f

inductive Fl where
  | nx | bk | ct | rt (d : D) | rn (d : D)
def SO (X : Cx) (Z : WXZ) (B : Bs) (as : List (Option Addr)) (H : Hp) (D' : Ends) : Out Fl → Prop
  | .ok .nx ρ' => ∀ as' σ' H', Rel X.G B as' σ' H' ρ' → Go (Ad as) H (Ad as') H' → D'.nx σ' H'
  | .ok .bk ρ' => ∀ as' σ' H', Rel X.G B as' σ' H' ρ' → Go (Ad as) H (Ad as') H' → D'.bk σ' H'
  | .ok .ct ρ' => ∀ as' σ' H', Rel X.G B as' σ' H' ρ' → Go (Ad as) H (Ad as') H' → D'.ct σ' H'
  | .ok (.rt d) ρ' => ∀ v as' σ' H', Rel X.G B as' σ' H' ρ' → Go (Ad as) H (Ad as') H' → Rep X.G (B.W as') H' v d → D'.rt v H'
  | .ok (.rn d) ρ' => ∀ a as' σ' H', Rel X.G (B.and a) as' σ' H' ρ' → Go (Ad as) H (Ad as') H' → B.He a = none → Own X.G ((B.and a).W as') H' a d → D'.rt (.ref a) H'
  | .exc e ρ' => ∀ cls dx as' σ' H', Rel X.G B as' σ' H' ρ' → Go (Ad as) H (Ad as') H' → RepX X.G (B.W as') H' cls dx e → Z cls dx σ' H'
  | .bad => False
structure DSt (X : Cx) (Z : WXZ) (t : TS) (g : En → Out Fl) : Prop where
  go : ∀ {B : Bs} {as : List (Option Addr)} {σ : L2.St} {H : Hp} {ρ : En} {D' : Ends}, Rel X.G B as σ H ρ → SO X Z B as H D' (g ρ) → t D' σ H
def DS (X : Cx) (Z : WXZ) (st : Stmt) (g : En → Out Fl) : Prop := ∃ t, PS X st t ∧ DSt X Z t g
def DSs (X : Cx) (Z : WXZ) (st : List Stmt) (g : En → Out Fl) : Prop := ∃ t, PSs X st t ∧ DSt X Z t g
theorem SO.after {D' : Ends} {o : Out Fl} (h : SO X Z B as H D' o) (g : Go (Ad as) H (Ad as') H1) : SO X Z B as' H1 D' o := by
  cases o with
  | ok a ρ' => cases a with
    | nx => exact fun _ _ _ R g' => h _ _ _ R (g.trans g')
    | bk => exact fun _ _ _ R g' => h _ _ _ R (g.trans g')
    | ct => exact fun _ _ _ R g' => h _ _ _ R (g.trans g')
    | rt d => exact fun _ _ _ _ R g' r => h _ _ _ _ R (g.trans g') r
    | rn d => exact fun _ _ _ _ R g' n r => h _ _ _ _ R (g.trans g') n r
  | exc e ρ' => exact fun _ _ _ _ _ R g' x => h _ _ _ _ _ R (g.trans g') x
  | bad => exact h
/-- an expression, then what is made of it -/
theorem SO.bind {D' : Ends} {o : Out α} {k : α → En → Out Fl} (R0 : Rel X.G B as σ H ρ) (h : SO X Z B as H D' (o.bind k)) : EO X Z B as σ H (fun a ρ1 H1 => SO X Z B as H1 D' (k a ρ1)) o := by
  cases o with
  | ok a ρ' => exact fun H' R g => SO.after h g
  | exc e ρ' => exact fun cls dx H' R g x => h cls dx as σ H' R g x
  | bad => exact h

theorem Rel.less {a : Addr} (R : Rel X.G (B.and a) as σ H ρ) : Rel X.G B as σ H ρ where
  l1 := R.l1
  l2 := R.l2
  sl := fun i v s b h1 h2 h3 => by
    have st : Stp ((B.and a).W as) H (B.W as) H := .less fun b z => .inl (z.imp .inl id)
    cases R.sl i v s b h1 h2 h3 with
    | un => exact .un _
    | val h => exact .val (h.stp st)
    | own h => exact .own (h.stp st rfl)
    | bor h => exact .bor (h.stp st rfl)
  pin := R.pin
  fr := R.fr
  inj := R.inj
  nw := fun b h z => R.nw b h (.inl z)
  dom := fun b z => R.dom b (.inl z)
  gr := R.gr
/-- a new object that nobody refers to -/
theorem Rel.more {a : Addr} {o : HO} (R : Rel X.G B as σ H ρ) (h : H a = none) : Rel X.G (B.and a) as σ (upd H a o) ρ ∧ Go (Ad as) H (Ad as) (upd H a o) := by
  have s : Same H (upd H a o) := fun b u e => by rw [upd_ne (ne_of_none e h)]; exact e
  have R' := R.same s
  refine ⟨⟨R.l1, R.l2, fun i v sl b h1 h2 h3 => ?_, R.pin, R.fr, R.inj, fun b hb z => ?_, fun b z => ?_, R'.gr⟩, .of_same s⟩
  · have st : Stp (B.W as) H ((B.and a).W as) (upd H a o) := fun b u e n => ⟨s b u e, fun z => by
      rcases z with (z | z) | z
      · exact n (.inl z)
      · subst z; rw [h] at e; cases e
      · exact n (.inr z)⟩
    cases R.sl i v sl b h1 h2 h3 with
    | un => exact .un _
    | val x => exact .val (x.stp st)
    | own x =>
      obtain ⟨u, e⟩ := x.there
      exact .own (x.stp st (by rw [e]; exact s _ _ e))
    | bor x =>
      obtain ⟨u, e⟩ := x.there
      exact .bor (x.stp st (by rw [e]; exact s _ _ e))
  · rcases z with z | z
    · exact R.nw b hb z
    · subst z; exact R.fresh h (.inr hb)
  · rcases z with z | z
    · exact R'.dom b z
    · subst z; exact ⟨o, upd_same⟩
theorem Cont.more {a : Addr} {o : HO} {o' : HO} {d : D} (h : H a = none) (c : Cont X.G (B.W as) H o d) : Cont X.G ((B.and a).W as) (upd H a o') o d :=
  c.stp fun b u e n => ⟨by rw [upd_ne (ne_of_none e h)]; exact e, fun z => by
    rcases z with (z | z) | z
    · exact n (.inl z)
    · subst z; rw [h] at e; cases e
    · exact n (.inr z)⟩
/-- what is new is a value, too -/
theorem DNt.val {t : TE} {f : En → Out D} (h : DNt X Z t f) : DEt X Z t (fun ρ => (f ρ).bind fun d ρ1 => .ok (.v d) ρ1) := by
  refine ⟨fun {B as σ H ρ Q} R q => h.go R (q.bind.imp fun d ρ1 H1 R1 g1 q1 a H2 R2 g2 n o => ?_)⟩
  refine q1 H2 R2.less g2 _ (.v ?_)
  exact o.rep (fun b z => z.imp .inl id) fun z => by
    rcases z with z | z
    · obtain ⟨u, e⟩ := R.dom a z
      rw [n] at e; cases e
    · exact R2.nw a z (.inr rfl)
def vN (f : En → Out D) : En → Out Pv := fun ρ => (f ρ).bind fun d ρ1 => .ok (.v d) ρ1
theorem DN.val {e : Expr} {f : En → Out D} (h : DN X Z e f) : DE X Z e (vN f) := let ⟨t, p, s⟩ := h; ⟨t, p, s.val⟩

/-! ### names, constants, operators -/
def cVar (i : Nat) : En → Out Pv := fun ρ => match ρ[i]? with
  | some (.val d) => .ok (.v d) ρ
  | some (.own _) => .ok (.b i) ρ
  | some (.bor _) => .ok (.b i) ρ
  | _ => .bad
theorem det_var (i : Nat) : DEt X Z (tVar i) (cVar i) := by
  refine ⟨fun {B as σ H ρ Q} R q => ?_⟩
  unfold cVar at q
  cases e : ρ[i]? with
  | none => rw [e] at q; exact q.elim
  | some s =>
    rw [e] at q
    obtain ⟨v, a, h1, h2, h3⟩ := R.at_s e
    cases h3 with
    | un => exact q.elim
    | val h => exact ⟨_, h1, q H R .refl _ (.v h)⟩
    | own h => exact ⟨_, h1, q H R .refl _ (.b h2)⟩
    | bor h => exact ⟨_, h1, q H R .refl _ (.b h2)⟩
theorem dv (i : Nat) {x : Str} {pos : Pos} (hN : X.N[i]? = some x := by rfl) (hv : Vis X.env.scope x := by first | exact Or.inl rfl | exact Or.inr (Or.inl rfl) | exact Or.inr (Or.inr rfl)) (hd : (x == ("__debug__" : Str)) = false := by decide)
    (hcd : (x == ("__classdict__" : Str)) = false := by decide) : DE X Z (.Name x pos) (cVar i) := ⟨_, pe_var hN hv hd hcd, det_var i⟩
def cK (d : D) : En → Out Pv := fun ρ => .ok (.v d) ρ
theorem det_c {v : V} {d : D} (h : ∀ W H, Rep X.G W H v d) : DEt X Z (tC v) (cK d) := ⟨fun {B as σ H ρ Q} R q => q H R .refl _ (.v (h _ _))⟩
theorem d_int {i : Int} {j pos} : DE X Z (.Constant (.int i) j pos) (cK (.int i)) := ⟨_, pe_int, det_c fun _ _ => .int i⟩
theorem d_bl {b : Bool} {j pos} : DE X Z (.Constant (.bool b) j pos) (cK (.bl b)) := ⟨_, pe_bl, det_c fun _ _ => .bl b⟩
theorem d_non {j pos} : DE X Z (.Constant .none j pos) (cK .non) := ⟨_, pe_non, det_c fun _ _ => .non⟩
theorem d_str {x : Str} {j pos} : DE X Z (.Constant (.str x) j pos) (cK (.str x)) := ⟨_, pe_str, det_c fun _ _ => .str x⟩

/-- an operation of one, two values: by data; nothing is changed -/
def Op1 (X : Cx) (r : V → Hp → VK → Prop) (g : D → Option D) : Prop := ∀ {W : Addr → Prop} {H : Hp} {x : V} {a d : D} {Q : VK}, (∀ b, W b → ∃ o, H b = some o) → RepP X.G W H x a → g a = some d → (∀ v H', Same H H' → Rep X.G W H' v d → Q v H') → r x H Q
def Op2 (X : Cx) (r : R2) (g : D → D → Option D) : Prop := ∀ {W : Addr → Prop} {H : Hp} {x y : V} {a b d : D} {Q : VK}, (∀ b, W b → ∃ o, H b = some o) → RepP X.G W H x a → RepP X.G W H y b → g a b = some d → (∀ v H', Same H H' → Rep X.G W H' v d → Q v H') → r x y H Q
def c1 (g : D → Option D) (fa : En → Out Pv) : En → Out Pv := fun ρ => (fa ρ).bind fun p ρ1 => ofO ((pvD ρ1 p).bind g) ρ1
def c2 (g : D → D → Option D) (fa fb : En → Out Pv) : En → Out Pv := fun ρ => (fa ρ).bind fun p ρ1 => (fb ρ1).bind fun q ρ2 => ofO ((pvD ρ2 p).bind fun a => (pvD ρ2 q).bind fun b => g a b) ρ2
theorem EO.ofO {o : Option D} {Q : VK} (h : EO X Z B as σ H (fun p _ H' => ∀ v, PvOk X.G (B.W as) as H' v p → Q v H') (L3.ofO o ρ)) (R : Rel X.G B as σ H ρ) : ∃ d, o = some d ∧ ∀ v H', Same H H' → Rep X.G (B.W as) H' v d → Q v H' := by
  cases o with
  | none => exact h.elim
  | some d => exact ⟨d, rfl, fun v H' s r => h H' (R.same s) (.of_same s) v (.v r)⟩
theorem det_1 {r : V → Hp → VK → Prop} {g : D → Option D} {ta : TE} {fa : En → Out Pv} (hr : Op1 X r g) (ha : DEt X Z ta fa) : DEt X Z (tUn r ta) (c1 g fa) := by
  refine ⟨fun {B as σ H ρ Q} R q => ha.go R (q.bind.imp fun p ρ1 H1 R1 g1 q1 v k1 => ?_)⟩
  obtain ⟨d, e, q⟩ := q1.ofO R1
  cases ep : pvD ρ1 p with
  | none => rw [ep] at e; cases e
  | some a =>
    rw [ep] at e
    exact hr R1.domA (k1.peek R1 ep) e q
theorem det_2 {r : R2} {g : D → D → Option D} {ta tb : TE} {fa fb : En → Out Pv} (hr : Op2 X r g) (ha : DEt X Z ta fa) (hb : DEt X Z tb fb) : DEt X Z (tOp r ta tb) (c2 g fa fb) := by
  refine ⟨fun {B as σ H ρ Q} R q => ha.go R (q.bind.imp fun p ρ1 H1 R1 g1 q1 v k1 => ?_)⟩
  refine hb.go R1 (q1.bind.imp fun p' ρ2 H2 R2 g2 q2 u k2 => ?_)
  obtain ⟨d, e, q⟩ := q2.ofO R2
  cases ep : pvD ρ2 p with
  | none => rw [ep] at e; cases e
  | some a =>
    rw [ep] at e
    cases eq : pvD ρ2 p' with
    | none => rw [eq] at e; cases e
    | some b =>
      rw [eq] at e
      exact hr R2.domA ((k1.go g2).peek R2 ep) (k2.peek R2 eq) e q
theorem d_op {op : Operator} {r : R2} {g : D → D → Option D} {a b : Expr} {pos : Pos} {fa fb : En → Out Pv} (ho : OpR X (binaryOp op) r) (hr : Op2 X r g) (ha : DE X Z a fa) (hb : DE X Z b fb) : DE X Z (.BinOp a op b pos) (c2 g fa fb) :=
  let ⟨_, pa, sa⟩ := ha; let ⟨_, pb, sb⟩ := hb; ⟨_, pe_op ho pa pb, det_2 hr sa sb⟩
theorem d_cmp {op : CmpOp} {r : R2} {g : D → D → Option D} {a b : Expr} {pos : Pos} {fa fb : En → Out Pv} (ho : OpR X (compareOp op) r) (hr : Op2 X r g) (ha : DE X Z a fa) (hb : DE X Z b fb) (hm : behindInMarks op b = false) : DE X Z (.Compare a [op] [b] pos) (c2 g fa fb) :=
  let ⟨_, pa, sa⟩ := ha; let ⟨_, pb, sb⟩ := hb; ⟨_, pe_cmpR ho pa pb hm, det_2 hr sa sb⟩
theorem d_un {op : UnaryOp} {r : V → Hp → VK → Prop} {g : D → Option D} {a : Expr} {pos : Pos} {fa : En → Out Pv} (ho : UnR X (unaryOp op) r) (hr : Op1 X r g) (ha : DE X Z a fa) : DE X Z (.UnaryOp op a pos) (c1 g fa) :=
  let ⟨_, pa, sa⟩ := ha; ⟨_, pe_un ho pa, det_1 hr sa⟩
/-- a bool result -/
def cB (f : En → Out Pv) : En → Out Bool := fun ρ => (f ρ).bind fun p ρ1 => match p with
  | .v (.bl b) => .ok b ρ1
  | _ => .bad
theorem dtt_B {t : TE} {f : En → Out Pv} (h : DEt X Z t f) : DTt X Z (tTest t) (cB f) := by
  refine ⟨fun {B as σ H ρ Q} R q => h.go R (q.bind.imp fun p ρ1 H1 R1 g1 q1 v k1 => ?_)⟩
  cases k1 with
  | @v v d k =>
    cases d with
    | bl b =>
      cases k with
      | bl => exact ⟨b, rfl, q1 H1 R1 .refl⟩
      | ref _ _ c => cases c
    | _ => exact q1.elim
  | b => exact q1.elim
theorem t_cmp {op : CmpOp} {r : R2} {g : D → D → Option D} {a b : Expr} {pos : Pos} {fa fb : En → Out Pv} (ho : OpR X (compareOp op) r) (hr : Op2 X r g) (ha : DE X Z a fa) (hb : DE X Z b fb) (hm : behindInMarks op b = false) : DT X Z (.Compare a [op] [b] pos) (cB (c2 g fa fb)) :=
  let ⟨_, pa, sa⟩ := ha; let ⟨_, pb, sb⟩ := hb; ⟨_, pt_cmpR ho pa pb hm, dtt_B (det_2 hr sa sb)⟩
theorem t_val {e : Expr} {f : En → Out Pv} (h : DE X Z e f) (he : ∀ whole, isTrue e X.env whole = (do let v ← whole; standAt e.pos; holding [v] (truthy v)) := by intro _; rfl) : DT X Z e (cB f) :=
  let ⟨_, p, s⟩ := h; ⟨_, pt_val p he, dtt_B s⟩
/-! and, or, not, if -/
def cNot (f : En → Out Bool) : En → Out Bool := fun ρ => (f ρ).bind fun b ρ1 => .ok (!b) ρ1
def cAnd (f g : En → Out Bool) : En → Out Bool := fun ρ => (f ρ).bind fun b ρ1 => if b = true then g ρ1 else .ok false ρ1
def cOr (f g : En → Out Bool) : En → Out Bool := fun ρ => (f ρ).bind fun b ρ1 => if b = true then .ok true ρ1 else g ρ1
theorem t_not {a : Expr} {pos : Pos} {f : En → Out Bool} (h : DT X Z a f) : DT X Z (.UnaryOp .Not a pos) (cNot f) :=
  let ⟨_, p, s⟩ := h; ⟨_, pt_not p, ⟨fun {B as σ H ρ Q} R q => s.go R (q.bind.imp fun b ρ1 H1 R1 g1 q1 => q1 H1 R1 .refl)⟩⟩
theorem w_and1 {a : Expr} {pos : Pos} {f : En → Out Bool} (h : DT X Z a f) : DW X Z (.BoolOp .And [a] pos) f := let ⟨_, p, s⟩ := h; ⟨_, pw_and1 p, s⟩
theorem w_or1 {a : Expr} {pos : Pos} {f : En → Out Bool} (h : DT X Z a f) : DW X Z (.BoolOp .Or [a] pos) f := let ⟨_, p, s⟩ := h; ⟨_, pw_or1 p, s⟩
theorem w_and {a b : Expr} {rest : List Expr} {pos : Pos} {f g : En → Out Bool} (h : DT X Z a f) (h2 : DW X Z (.BoolOp .And (b :: rest) pos) g) : DW X Z (.BoolOp .And (a :: b :: rest) pos) (cAnd f g) :=
  let ⟨_, p, s⟩ := h; let ⟨_, p2, s2⟩ := h2; ⟨_, pw_and p p2, ⟨fun {B as σ H ρ Q} R q => s.go R (q.bind.imp fun b ρ1 H1 R1 g1 q1 => by
    cases b with
    | true => exact iteT (s2.go R1 q1)
    | false => exact iteF (q1 H1 R1 .refl))⟩⟩
theorem w_or {a b : Expr} {rest : List Expr} {pos : Pos} {f g : En → Out Bool} (h : DT X Z a f) (h2 : DW X Z (.BoolOp .Or (b :: rest) pos) g) : DW X Z (.BoolOp .Or (a :: b :: rest) pos) (cOr f g) :=
  let ⟨_, p, s⟩ := h; let ⟨_, p2, s2⟩ := h2; ⟨_, pw_or p p2, ⟨fun {B as σ H ρ Q} R q => s.go R (q.bind.imp fun b ρ1 H1 R1 g1 q1 => by
    cases b with
    | true => exact iteT (q1 H1 R1 .refl)
    | false => exact iteF (s2.go R1 q1))⟩⟩
theorem t_w {e : Expr} {f : En → Out Bool} (h : DW X Z e f) : DT X Z e f := let ⟨_, p, s⟩ := h; ⟨_, p.pt, s⟩
/-- as values -/
def cBv (f : En → Out Bool) : En → Out Pv := fun ρ => (f ρ).bind fun b ρ1 => .ok (.v (.bl b)) ρ1
def cIte (c : En → Out Bool) (f g : En → Out Pv) : En → Out Pv := fun ρ => (c ρ).bind fun b ρ1 => if b = true then f ρ1 else g ρ1
theorem d_if {c a b : Expr} {pos : Pos} {fc : En → Out Bool} {fa fb : En → Out Pv} (hc : DT X Z c fc) (ha : DE X Z a fa) (hb : DE X Z b fb) : DE X Z (.IfExp c a b pos) (cIte fc fa fb) :=
  let ⟨_, pc, sc⟩ := hc; let ⟨_, pa, sa⟩ := ha; let ⟨_, pb, sb⟩ := hb
  ⟨_, pe_ifExp pc pa pb, ⟨fun {B as σ H ρ Q} R q => sc.go R (q.bind.imp fun b ρ1 H1 R1 g1 q1 => by
    cases b with
    | true => exact iteT (sa.go R1 q1)
    | false => exact iteF (sb.go R1 q1))⟩⟩
/-- a and b, a or b, not a, as values (bools) -/
def cAndV (f g : En → Out Pv) : En → Out Pv := fun ρ => (cB f ρ).bind fun b ρ1 => if b = true then g ρ1 else .ok (.v (.bl false)) ρ1
def cOrV (f g : En → Out Pv) : En → Out Pv := fun ρ => (cB f ρ).bind fun b ρ1 => if b = true then .ok (.v (.bl true)) ρ1 else g ρ1
def cNotV (f : En → Out Pv) : En → Out Pv := fun ρ => (cB f ρ).bind fun b ρ1 => .ok (.v (.bl (!b))) ρ1
theorem d_one {op : BoolOp} {a : Expr} {pos : Pos} {f : En → Out Pv} (h : DE X Z a f) : DE X Z (.BoolOp op [a] pos) f := let ⟨_, p, s⟩ := h; ⟨_, pe_one p, s⟩
theorem det_B {t : TE} {f : En → Out Pv} (h : DEt X Z t f) {Q : VK} {K : Bool → En → Hp → Prop} (R : Rel X.G B as σ H ρ) (q : EO X Z B as σ H K (cB f ρ)) (hq : ∀ b ρ1 H1, Rel X.G B as σ H1 ρ1 → K b ρ1 H1 → Q (.bl b) H1) : t σ H Q := by
  refine h.go R (q.bind.imp fun p ρ1 H1 R1 g1 q1 v k1 => ?_)
  cases k1 with
  | @v v d k =>
    cases d with
    | bl b =>
      cases k with
      | bl => exact hq b ρ1 H1 R1 (q1 H1 R1 .refl)
      | ref _ _ c => cases c
    | _ => exact q1.elim
  | b => exact q1.elim
theorem d_and {a b : Expr} {rest : List Expr} {pos : Pos} {f g : En → Out Pv} (h : DE X Z a f) (h2 : DE X Z (.BoolOp .And (b :: rest) pos) g) : DE X Z (.BoolOp .And (a :: b :: rest) pos) (cAndV f g) :=
  let ⟨_, p, s⟩ := h; let ⟨_, p2, s2⟩ := h2; ⟨_, pe_and p p2, ⟨fun {B as σ H ρ Q} R q => det_B s R q.bind fun b ρ1 H1 R1 q1 => ⟨b, rfl, by
    cases b with
    | true => exact iteT (s2.go R1 q1)
    | false => exact iteF (q1 H1 R1 .refl _ (.v (.bl false)))⟩⟩⟩
theorem d_or {a b : Expr} {rest : List Expr} {pos : Pos} {f g : En → Out Pv} (h : DE X Z a f) (h2 : DE X Z (.BoolOp .Or (b :: rest) pos) g) : DE X Z (.BoolOp .Or (a :: b :: rest) pos) (cOrV f g) :=
  let ⟨_, p, s⟩ := h; let ⟨_, p2, s2⟩ := h2; ⟨_, pe_or p p2, ⟨fun {B as σ H ρ Q} R q => det_B s R q.bind fun b ρ1 H1 R1 q1 => ⟨b, rfl, by
    cases b with
    | true => exact iteT (q1 H1 R1 .refl _ (.v (.bl true)))
    | false => exact iteF (s2.go R1 q1)⟩⟩⟩
theorem d_not {a : Expr} {pos : Pos} {f : En → Out Pv} (h : DE X Z a f) : DE X Z (.UnaryOp .Not a pos) (cNotV f) :=
  let ⟨_, p, s⟩ := h; ⟨_, pe_not p, ⟨fun {B as σ H ρ Q} R q => det_B s R q.bind fun b ρ1 H1 R1 q1 => ⟨b, rfl, q1 H1 R1 .refl _ (.v (.bl (!b)))⟩⟩⟩

/-! ### arguments, displays -/
def aNil : En → Out (List Pv) := fun ρ => .ok [] ρ
def aCons (f : En → Out Pv) (g : En → Out (List Pv)) : En → Out (List Pv) := fun ρ => (f ρ).bind fun p ρ1 => (g ρ1).bind fun ps ρ2 => .ok (p :: ps) ρ2
theorem a_nil : DA X Z [] aNil := ⟨_, pa_nil, ⟨fun {B as σ H ρ Q} R q => q H R .refl _ .nil⟩⟩
theorem a_cons {e : Expr} {es : List Expr} {f : En → Out Pv} {g : En → Out (List Pv)} (ha : DE X Z e f) (hr : DA X Z es g) (hs : starEach (e :: es) X.env = (false, eval e X.env) :: starEach es X.env := by rfl) : DA X Z (e :: es) (aCons f g) :=
  let ⟨_, p, s⟩ := ha; let ⟨_, p2, s2⟩ := hr
  ⟨_, pa_cons p p2 hs, ⟨fun {B as σ H ρ Q} R q => s.go R (q.bind.imp fun x ρ1 H1 R1 g1 q1 v k1 => s2.go R1 (q1.bind.imp fun xs ρ2 H2 R2 g2 q2 vs k2 => q2 H2 R2 .refl _ (.cons (k1.go g2) k2)))⟩⟩
/-- values alone -/
def pvs : List Pv → Option (List D)
  | [] => some []
  | .v d :: r => (pvs r).map (d :: ·)
  | .b _ :: _ => none
theorem PvsOk.reps {G : Pm} {W : Addr → Prop} : ∀ {vs : List V} {ps : List Pv} {ds : List D}, PvsOk G W as H vs ps → pvs ps = some ds → Reps G W H vs ds
  | _, _, _, .nil, e => by cases e; exact .nil
  | _, _, _, .cons (.v h) t, e => by
    simp only [pvs, Option.map_eq_some_iff] at e
    obtain ⟨r, e1, rfl⟩ := e
    exact .cons h (PvsOk.reps t e1)
  | _, _, _, .cons (.b _) t, e => by cases e
def cTup (f : En → Out (List Pv)) : En → Out Pv := fun ρ => (f ρ).bind fun ps ρ1 => ofO ((pvs ps).bind fun ds => if ds.length ≤ sizeLine then some (.tup ds) else none) ρ1
theorem d_tup {es : List Expr} {k : Nat} {pos : Pos} {f : En → Out (List Pv)} (h : DA X Z es f) : DE X Z (.Tuple es k pos) (cTup f) :=
  let ⟨_, p, s⟩ := h
  ⟨_, pe_tupS p, ⟨fun {B as σ H ρ Q} R q => s.go R (q.bind.imp fun ps ρ1 H1 R1 g1 q1 vs k1 => by
    obtain ⟨d, e, q⟩ := q1.ofO R1
    cases ep : pvs ps with
    | none => rw [ep] at e; cases e
    | some ds =>
      rw [ep] at e
      have r := k1.reps ep
      simp only [Option.bind_some] at e
      split at e
      · rename_i hl
        cases e
        refine ⟨by rw [r.length]; exact hl, fun p ob hp hd => ?_⟩
        have s1 : Same H1 (upd H1 p (.frz ob (.tup vs))) := fun b u e => by rw [upd_ne (ne_of_none e hp)]; exact e
        exact q _ _ s1 (.ref (.inr ⟨ob, upd_same⟩) (R1.fresh hp) (.tup (r.stp (.same s1))) ⟨ob, vs, upd_same, hd⟩)
      · cases e)⟩⟩
def nLst (f : En → Out (List Pv)) : En → Out D := fun ρ => (f ρ).bind fun ps ρ1 => match pvs ps with
  | some ds => if ds.length ≤ sizeLine then .ok (.lst ds) ρ1 else .bad
  | none => .bad
/-- a new object is laid -/
theorem DNt.lay {Q : VK} {d : D} {p : Addr} {o : HO} (R : Rel X.G B as σ H ρ) (hp : H p = none) (h0 : H1 p = none) (mu : Mut (some o)) (c : Cont X.G (B.W as) H o d)
    (q : EO X Z B as σ H (fun d ρ' H' => ∀ a H2, Rel X.G (B.and a) as σ H2 ρ' → Go (Ad as) H' (Ad as) H2 → H1 a = none → Own X.G ((B.and a).W as) H2 a d → Q (.ref a) H2) (.ok d ρ)) : Q (.ref p) (upd H p o) := by
  obtain ⟨R2, g2⟩ := R.more (o := o) hp
  exact q H R .refl p _ R2 g2 h0 ⟨o, upd_same, mu, Cont.more hp c⟩
theorem n_lst {es : List Expr} {pos : Pos} {f : En → Out (List Pv)} (h : DA X Z es f) : DN X Z (.List es pos) (nLst f) :=
  let ⟨_, p, s⟩ := h
  ⟨_, pe_lst p, ⟨fun {B as σ H ρ Q} R q => s.go R (q.bind.imp fun ps ρ1 H1 R1 g1 q1 vs k1 => by
    cases ep : pvs ps with
    | none => rw [ep] at q1; exact q1.elim
    | some ds =>
      rw [ep] at q1
      have r := k1.reps ep
      dsimp only at q1
      split at q1
      · rename_i hl
        exact ⟨by rw [r.length]; exact hl, fun p hp => DNt.lay R1 hp (g1.grow p hp) True.intro (.lst r) q1⟩
      · exact q1.elim)⟩⟩
end
end L3
namespace L3
open PySem PySem.Spec PyProof.Rows L2

section
variable {X : Cx} {Z : WXZ} {B : Bs} {as as' : List (Option Addr)} {σ σ' : L2.St} {H H' H1 : Hp} {ρ ρ' : En} {α β : Type} {v : V} {d : D} {a : Addr}

theorem Rel.setVal (R : Rel X.G B as σ H ρ) (i : Nat) (r : Rep X.G (B.W as) H v d) : Rel X.G B (as.set i none) (σ.set i (some v)) H (ρ.set i (.val d)) ∧ Go (Ad as) H (Ad (as.set i none)) H := by
  refine ⟨?_, .less fun b => Ad.set_none⟩
  by_cases hi : i < ρ.length
  · exact R.setVal0 hi r
  · rw [List.set_eq_of_length_le (by rw [R.l2]; omega), List.set_eq_of_length_le (by rw [R.l1]; omega), List.set_eq_of_length_le (by omega)]
    exact R
/-- one's own object is handed out: it is in no slot any more -/
theorem Rel.take (R : Rel X.G B as σ H ρ) {i : Nat} (h : ρ[i]? = some (.own d)) (ha : as[i]? = some (some a)) :
    Rel X.G (B.and a) (as.set i none) σ H (ρ.set i .un) ∧ Go (Ad as) H (Ad (as.set i none)) H ∧ B.He a = none ∧ Own X.G ((B.and a).W (as.set i none)) H a d := by
  have hi := lt_of_get h
  obtain ⟨v, a', h1, h2, h3⟩ := R.at_s h
  rw [ha] at h2; cases h2
  obtain ⟨d', rfl, hs, o⟩ := h3.adr
  have ed : d' = d := by
    rcases hs with e | e
    · cases e; rfl
    · cases e
  subst ed
  have mem : ∀ b, Ad as b → b = a ∨ Ad (as.set i none) b := fun b hb => by
    obtain ⟨j, e⟩ := Ad.ix hb
    by_cases hj : j = i
    · subst hj; rw [ha] at e; cases e; exact .inl rfl
    · exact .inr (Ad.of (i := j) (by rw [List.getElem?_set_ne (Ne.symm hj)]; exact e))
  have st : Stp (B.W as) H ((B.and a).W (as.set i none)) H := .less fun b z => by
    rcases z with (z | z) | z
    · exact .inl (.inl z)
    · subst z; exact .inl (.inr (Ad.of ha))
    · exact .inl (.inr (Ad.set_none z))
  have na : ¬ Ad (as.set i none) a := fun z => by
    obtain ⟨j, z⟩ := Ad.ix z
    rcases get_set z with ⟨_, e, _⟩ | ⟨ne, e⟩
    · cases e
    · exact ne (R.inj j i a e ha)
  refine ⟨⟨by simp [R.l1], by simp [R.l2], fun j v s b h1 h2 h3 => ?_, fun j d hj => ?_, fun j d b hj hb => ?_, fun m j b h1 h2 => ?_, fun b hb z => ?_, fun b z => ?_, R.gr⟩, .less fun b => Ad.set_none, R.fr i _ a h ha, o.stp st rfl⟩
  · rcases get_set h2 with ⟨rfl, rfl, _⟩ | ⟨ne, h2⟩
    · rw [List.getElem?_set_self (by rw [R.l2]; exact hi)] at h3
      cases h3
      exact .un _
    · rw [List.getElem?_set_ne (Ne.symm ne)] at h3
      cases R.sl j v s b h1 h2 h3 with
      | un => exact .un _
      | val x => exact .val (x.stp st)
      | own x => exact .own (x.stp st rfl)
      | bor x => exact .bor (x.stp st rfl)
  · rcases get_set hj with ⟨_, e, _⟩ | ⟨ne, hj⟩
    · cases e
    · rw [List.getElem?_set_ne (Ne.symm ne)]; exact R.pin j d hj
  · rcases get_set hj with ⟨_, e, _⟩ | ⟨ne, hj⟩
    · cases e
    · rw [List.getElem?_set_ne (Ne.symm ne)] at hb; exact R.fr j d b hj hb
  · rcases get_set h1 with ⟨_, e, _⟩ | ⟨_, e1⟩
    · cases e
    · rcases get_set h2 with ⟨_, e, _⟩ | ⟨_, e2⟩
      · cases e
      · exact R.inj m j b e1 e2
  · rcases z with z | z
    · exact R.nw b (Ad.set_none hb) z
    · subst z; exact na hb
  · rcases z with z | z
    · exact R.dom b z
    · subst z; exact R.domA _ (.inr (Ad.of ha))
/-- a new object, held by nobody, goes into a slot -/
theorem Rel.keep (R : Rel X.G (B.and a) as σ H ρ) (n : B.He a = none) (n1 : H1 a = none) (o : Own X.G ((B.and a).W as) H a d) (nB : ¬ B.W0 a) (g : Go (Ad as) H1 (Ad as) H) (i : Nat) :
    Rel X.G B (as.set i (some a)) (σ.set i (some (.ref a))) H (ρ.set i (.own d)) ∧ Go (Ad as) H1 (Ad (as.set i (some a))) H := by
  have na : ¬ Ad as a := fun z => R.nw a z (.inr rfl)
  have g2 : Go (Ad as) H1 (Ad (as.set i (some a))) H := ⟨g.keep, fun b z => by
    rcases Ad.set_some z with rfl | z
    · exact .inr n1
    · exact .inl z, g.grow⟩
  have st : Stp ((B.and a).W as) H (B.W (as.set i (some a))) H := .less fun b z => by
    rcases z with z | z
    · exact .inl (.inl (.inl z))
    · rcases Ad.set_some z with rfl | z
      · exact .inl (.inl (.inr rfl))
      · exact .inl (.inr z)
  refine ⟨⟨by simp [R.l1], by simp [R.l2], fun j v s b h1 h2 h3 => ?_, fun j d hj => ?_, fun j d b hj hb => ?_, fun m j b h1 h2 => ?_, fun b hb z => ?_, fun b z => R.dom b (.inl z), R.gr⟩, g2⟩
  · rcases get_set h2 with ⟨rfl, rfl, hl⟩ | ⟨ne, h2⟩
    · rw [List.getElem?_set_self (by rw [R.l1]; exact hl)] at h1
      rw [List.getElem?_set_self (by rw [R.l2]; exact hl)] at h3
      cases h1; cases h3
      exact .own (o.stp st rfl)
    · rw [List.getElem?_set_ne (Ne.symm ne)] at h1 h3
      cases R.sl j v s b h1 h2 h3 with
      | un => exact .un _
      | val x => exact .val (x.stp st)
      | own x => exact .own (x.stp st rfl)
      | bor x => exact .bor (x.stp st rfl)
  · rcases get_set hj with ⟨_, e, _⟩ | ⟨ne, hj⟩
    · cases e
    · rw [List.getElem?_set_ne (Ne.symm ne)]; exact R.pin j d hj
  · rcases get_set hj with ⟨rfl, e, hl⟩ | ⟨ne, hj⟩
    · rw [List.getElem?_set_self (by rw [R.l2]; exact hl)] at hb
      cases hb; exact n
    · rw [List.getElem?_set_ne (Ne.symm ne)] at hb; exact R.fr j d b hj hb
  · rcases get_set h1 with ⟨m1, e, _⟩ | ⟨m1, e1⟩
    · cases e
      rcases get_set h2 with ⟨m2, e, _⟩ | ⟨m2, e2⟩
      · rw [m1, m2]
      · exact absurd (Ad.of e2) na
    · rcases get_set h2 with ⟨m2, e, _⟩ | ⟨m2, e2⟩
      · cases e; exact absurd (Ad.of e1) na
      · exact R.inj m j b e1 e2
  · rcases Ad.set_some hb with rfl | hb
    · exact nB z
    · exact R.nw b hb (.inl z)

/-! ### blocks -/
def sNil : En → Out Fl := fun ρ => .ok .nx ρ
def Out.thn (x : Out Fl) (k : En → Out Fl) : Out Fl := match x with
  | .ok .nx ρ => k ρ
  | o => o
def sSeq (f g : En → Out Fl) : En → Out Fl := fun ρ => (f ρ).thn g
theorem SO.thn {D' : Ends} {o : Out Fl} {k : En → Out Fl} (h : SO X Z B as H D' (o.thn k)) {N : L2.St → Hp → Prop} (hN : ∀ ρ1 as1 σ1 H1, Rel X.G B as1 σ1 H1 ρ1 → SO X Z B as1 H1 D' (k ρ1) → N σ1 H1) :
    SO X Z B as H { D' with nx := N } o := by
  cases o with
  | ok a ρ' => cases a with
    | nx => exact fun as1 σ1 H1 R g => hN ρ' as1 σ1 H1 R (SO.after h g)
    | bk => exact h
    | ct => exact h
    | rt d => exact h
    | rn d => exact h
  | exc e ρ' => exact h
  | bad => exact h
theorem b_nil : DSs X Z [] sNil := ⟨_, pss_nil, ⟨fun {B as σ H ρ D'} R q => q as σ H R .refl⟩⟩
theorem b_cons {st : Stmt} {rest : List Stmt} {f g : En → Out Fl} (h1 : DS X Z st f) (h2 : DSs X Z rest g) : DSs X Z (st :: rest) (sSeq f g) :=
  let ⟨_, p, s⟩ := h1; let ⟨_, p2, s2⟩ := h2
  ⟨_, pss_cons p p2, ⟨fun {B as σ H ρ D'} R q => s.go R (q.thn fun ρ1 as1 σ1 H1 R1 q1 => s2.go R1 q1)⟩⟩
theorem b_one {st : Stmt} {f : En → Out Fl} (h1 : DS X Z st f) : DSs X Z [st] f := let ⟨_, p, s⟩ := h1; ⟨_, pss_one p, s⟩
/-- ahead of a statement something is let go of -/
def sFrz (i : Nat) (g : En → Out Fl) : En → Out Fl := fun ρ => match ρ[i]? with
  | some (.own d) => g (ρ.set i (.val d))
  | _ => g ρ
theorem dst_frz {t : TS} {g : En → Out Fl} (i : Nat) (h : DSt X Z t g) : DSt X Z t (sFrz i g) := by
  refine ⟨fun {B as σ H ρ D'} R q => ?_⟩
  unfold sFrz at q
  cases e : ρ[i]? with
  | none => rw [e] at q; exact h.go R q
  | some s =>
    rw [e] at q
    cases s with
    | own d =>
      obtain ⟨R1, g1⟩ := R.freeze e
      exact h.go R1 (q.after g1)
    | _ => exact h.go R q
theorem s_frz {st : Stmt} {g : En → Out Fl} (i : Nat) (h : DS X Z st g) : DS X Z st (sFrz i g) := let ⟨_, p, s⟩ := h; ⟨_, p, dst_frz i s⟩
theorem b_frz {st : List Stmt} {g : En → Out Fl} (i : Nat) (h : DSs X Z st g) : DSs X Z st (sFrz i g) := let ⟨_, p, s⟩ := h; ⟨_, p, dst_frz i s⟩

/-! ### small statements -/
theorem s_pass {pos : Pos} : DS X Z (.Pass pos) sNil := ⟨_, ps_pass, ⟨fun {B as σ H ρ D'} R q => q as σ H R .refl⟩⟩
def sBrk : En → Out Fl := fun ρ => .ok .bk ρ
def sCnt : En → Out Fl := fun ρ => .ok .ct ρ
theorem s_break {pos : Pos} : DS X Z (.Break pos) sBrk := ⟨_, ps_break, ⟨fun {B as σ H ρ D'} R q => q as σ H R .refl⟩⟩
theorem s_cont {pos : Pos} : DS X Z (.Continue pos) sCnt := ⟨_, ps_continue, ⟨fun {B as σ H ρ D'} R q => q as σ H R .refl⟩⟩
theorem s_doc {x : Str} {j pos pos'} : DS X Z (.Expr (.Constant (.str x) j pos) pos') sNil := ⟨_, ps_doc, ⟨fun {B as σ H ρ D'} R q => q as σ H R .refl⟩⟩
def sExp (f : En → Out Pv) : En → Out Fl := fun ρ => (f ρ).bind fun _ ρ1 => .ok .nx ρ1
theorem s_expr {e : Expr} {pos : Pos} {f : En → Out Pv} (h : DE X Z e f) (hs : swapsWith e none pos.line X.env = pure false := by rfl) : DS X Z (.Expr e pos) (sExp f) :=
  let ⟨_, p, s⟩ := h; ⟨_, ps_expr p hs, ⟨fun {B as σ H ρ D'} R q => s.go R ((q.bind R).imp fun x ρ1 H1 R1 g1 q1 v k1 => q1 as σ H1 R1 .refl)⟩⟩
def sRet (f : En → Out Pv) : En → Out Fl := fun ρ => (f ρ).bind fun p ρ1 => match p with
  | .v d => .ok (.rt d) ρ1
  | .b i => match ρ1[i]? with
    | some (.own d) => .ok (.rn d) (ρ1.set i .un)
    | _ => .bad
theorem s_ret {e : Expr} {pos : Pos} {f : En → Out Pv} (h : DE X Z e f) : DS X Z (.Return (some e) pos) (sRet f) := by
  obtain ⟨_, p, s⟩ := h
  refine ⟨_, ps_ret p, ⟨fun {B as σ H ρ D'} R q => s.go R ((q.bind R).imp fun x ρ1 H1 R1 g1 q1 v k1 => ?_)⟩⟩
  cases k1 with
  | v k => exact q1 v as σ H1 R1 .refl k
  | @b a i k =>
    dsimp only at q1
    cases e : ρ1[i]? with
    | none => rw [e] at q1; exact q1.elim
    | some s =>
      rw [e] at q1
      cases s with
      | own d =>
        obtain ⟨R2, g2, n, o⟩ := R1.take e k
        exact q1 a _ σ H1 R2 g2 n o
      | _ => exact q1.elim
/-- a new object is handed back -/
def sRetN (f : En → Out D) : En → Out Fl := fun ρ => (f ρ).bind fun d ρ1 => .ok (.rn d) ρ1
theorem s_retN {e : Expr} {pos : Pos} {f : En → Out D} (h : DN X Z e f) : DS X Z (.Return (some e) pos) (sRetN f) := by
  obtain ⟨_, p, s⟩ := h
  refine ⟨_, ps_ret p, ⟨fun {B as σ H ρ D'} R q => s.go R ((q.bind R).imp fun d ρ1 H1 R1 g1 q1 a H2 R2 g2 n o => ?_)⟩⟩
  exact q1 a as σ H2 R2 g2 (R.gr a n) o
def sRetU : En → Out Fl := fun ρ => .ok (.rt .non) ρ
theorem s_retU {pos : Pos} : DS X Z (.Return none pos) sRetU := ⟨_, ps_retN, ⟨fun {B as σ H ρ D'} R q => q .non as σ H R .refl .non⟩⟩
def sIf (c : En → Out Bool) (f g : En → Out Fl) : En → Out Fl := fun ρ => (c ρ).bind fun b ρ1 => if b = true then f ρ1 else g ρ1
theorem s_if {c : Expr} {x y : List Stmt} {pos : Pos} {fc : En → Out Bool} {f g : En → Out Fl} (hc : DT X Z c fc) (ha : DSs X Z x f) (hb : DSs X Z y g) : DS X Z (.If c x y pos) (sIf fc f g) :=
  let ⟨_, pc, sc⟩ := hc; let ⟨_, pa, sa⟩ := ha; let ⟨_, pb, sb⟩ := hb
  ⟨_, ps_if pc pa pb, ⟨fun {B as σ H ρ D'} R q => sc.go R ((q.bind R).imp fun b ρ1 H1 R1 g1 q1 => by
    cases b with
    | true => exact iteT (sa.go R1 q1)
    | false => exact iteF (sb.go R1 q1))⟩⟩
/-- name = a value; name = a new object -/
def sSet (i : Nat) (f : En → Out Pv) : En → Out Fl := fun ρ => (f ρ).bind fun p ρ1 => match p with
  | .v d => .ok .nx (ρ1.set i (.val d))
  | .b _ => .bad
theorem s_set {i : Nat} {x : Str} {e : Expr} {f : En → Out Pv} {pos pos' : Pos} (hN : X.N.Nodup) (h : DE X Z e f) (hi : X.N[i]? = some x := by rfl) (hx : Loc X.env.scope x := by first | exact Or.inl rfl | exact Or.inr rfl)
    (hs : swapsWith e (some (.Name x pos')) pos.line X.env = pure false := by rfl) (hf : X.fn x = true ∨ X.env.scope.names.lookup x = some .local := by first | exact .inl rfl | exact .inr rfl | assumption) :
    DS X Z (.Assign [.Name x pos'] e pos) (sSet i f) := by
  obtain ⟨_, p, s⟩ := h
  refine ⟨_, ps_set hN hi hx p hs hf, ⟨fun {B as σ H ρ D'} R q => s.go R ((q.bind R).imp fun p ρ1 H1 R1 g1 q1 v k1 => ?_)⟩⟩
  cases k1 with
  | v k =>
    obtain ⟨R2, g2⟩ := R1.setVal i k
    exact q1 _ _ _ R2 g2
  | b k => exact q1.elim
def sSetN (i : Nat) (f : En → Out D) : En → Out Fl := fun ρ => (f ρ).bind fun d ρ1 => .ok .nx (ρ1.set i (.own d))
theorem DNt.set {t : TE} {f : En → Out D} (s : DNt X Z t f) (i : Nat) : DSt X Z (tAsg t (gName i)) (sSetN i f) := by
  refine ⟨fun {B as σ H ρ D'} R q => s.go R ?_⟩
  unfold sSetN at q
  cases e : f ρ with
  | bad => rw [e] at q; exact q.elim
  | exc x ρ1 =>
    rw [e] at q
    exact fun cls dx H' R g y => q cls dx as σ H' R g y
  | ok d ρ1 =>
    rw [e] at q
    intro H1 R1 g1 a H2 R2 g2 n o
    have nB : ¬ B.W0 a := fun z => by
      obtain ⟨o, e⟩ := R.dom a z
      rw [n] at e; cases e
    obtain ⟨R3, g3⟩ := R2.keep (R.gr a n) n o nB (g1.trans g2) i
    exact q (as.set i (some a)) _ _ R3 g3
theorem s_setN {i : Nat} {x : Str} {e : Expr} {f : En → Out D} {pos pos' : Pos} (hN : X.N.Nodup) (h : DN X Z e f) (hi : X.N[i]? = some x := by rfl) (hx : Loc X.env.scope x := by first | exact Or.inl rfl | exact Or.inr rfl)
    (hs : swapsWith e (some (.Name x pos')) pos.line X.env = pure false := by rfl) (hf : X.fn x = true ∨ X.env.scope.names.lookup x = some .local := by first | exact .inl rfl | exact .inr rfl | assumption) :
    DS X Z (.Assign [.Name x pos'] e pos) (sSetN i f) := let ⟨_, p, s⟩ := h; ⟨_, ps_set hN hi hx p hs hf, s.set i⟩

/-! ### targets -/
/-- a target's outcome -/
def GO (X : Cx) (Z : WXZ) (B : Bs) (as : List (Option Addr)) (H : Hp) (N : L2.St → Hp → Prop) : Out Unit → Prop
  | .ok _ ρ' => ∀ as' σ' H', Rel X.G B as' σ' H' ρ' → Go (Ad as) H (Ad as') H' → N σ' H'
  | .exc e ρ' => ∀ cls dx as' σ' H', Rel X.G B as' σ' H' ρ' → Go (Ad as) H (Ad as') H' → RepX X.G (B.W as') H' cls dx e → Z cls dx σ' H'
  | .bad => False
theorem GO.after {N : L2.St → Hp → Prop} {o : Out Unit} (h : GO X Z B as H N o) (g : Go (Ad as) H (Ad as') H1) : GO X Z B as' H1 N o := by
  cases o with
  | ok a ρ' => exact fun _ _ _ R g' => h _ _ _ R (g.trans g')
  | exc e ρ' => exact fun _ _ _ _ _ R g' x => h _ _ _ _ _ R (g.trans g') x
  | bad => exact h
theorem GO.bind {N N' : L2.St → Hp → Prop} {o : Out Unit} {k : En → Out Unit} (h : GO X Z B as H N (o.bind fun _ ρ1 => k ρ1)) (hN : ∀ ρ1 as1 σ1 H1, Rel X.G B as1 σ1 H1 ρ1 → GO X Z B as1 H1 N (k ρ1) → N' σ1 H1) : GO X Z B as H N' o := by
  cases o with
  | ok a ρ' => exact fun as1 σ1 H1 R g => hN ρ' as1 σ1 H1 R (GO.after h g)
  | exc e ρ' => exact h
  | bad => exact h
theorem SO.ofG {D' : Ends} {o : Out Unit} {k : En → Out Fl} (h : SO X Z B as H D' (o.bind fun _ ρ1 => k ρ1)) {N : L2.St → Hp → Prop} (hN : ∀ ρ1 as1 σ1 H1, Rel X.G B as1 σ1 H1 ρ1 → SO X Z B as1 H1 D' (k ρ1) → N σ1 H1) : GO X Z B as H N o := by
  cases o with
  | ok a ρ' => exact fun as1 σ1 H1 R g => hN ρ' as1 σ1 H1 R (SO.after h g)
  | exc e ρ' => exact h
  | bad => exact h
structure DGt (X : Cx) (Z : WXZ) (g : TG) (h : D → En → Out Unit) : Prop where
  go : ∀ {B : Bs} {as : List (Option Addr)} {σ : L2.St} {H : Hp} {ρ : En} {v : V} {d : D} {N : L2.St → Hp → Prop}, Rel X.G B as σ H ρ → Rep X.G (B.W as) H v d → GO X Z B as H N (h d ρ) → g v σ H N
def DG (X : Cx) (Z : WXZ) (tg : Expr) (h : D → En → Out Unit) : Prop := ∃ g, PG X tg g ∧ DGt X Z g h
structure DGst (X : Cx) (Z : WXZ) (g : TGs) (h : List D → En → Out Unit) : Prop where
  go : ∀ {B : Bs} {as : List (Option Addr)} {σ : L2.St} {H : Hp} {ρ : En} {vs : List V} {ds : List D} {N : L2.St → Hp → Prop}, Rel X.G B as σ H ρ → Reps X.G (B.W as) H vs ds → GO X Z B as H N (h ds ρ) → g vs σ H N
def DGs (X : Cx) (Z : WXZ) (tgs : List Expr) (h : List D → En → Out Unit) : Prop := ∃ g, PGs X tgs g ∧ DGst X Z g h
def gSet (i : Nat) : D → En → Out Unit := fun d ρ => .ok () (ρ.set i (.val d))
theorem g_name {i : Nat} {x : Str} {pos : Pos} (hN : X.N.Nodup) (hi : X.N[i]? = some x := by rfl) (hx : Loc X.env.scope x := by first | exact Or.inl rfl | exact Or.inr rfl) (hf : X.fn x = true ∨ X.env.scope.names.lookup x = some .local := by first | exact .inl rfl | exact .inr rfl | assumption) :
    DG X Z (.Name x pos) (gSet i) := ⟨_, pg_name hN hi hx hf, ⟨fun {B as σ H ρ v d N} R r q => by
      obtain ⟨R2, g2⟩ := R.setVal i r
      exact q _ _ _ R2 g2⟩⟩
def gsNil : List D → En → Out Unit := fun ds ρ => match ds with
  | [] => .ok () ρ
  | _ => .bad
def gsCons (h : D → En → Out Unit) (hs : List D → En → Out Unit) : List D → En → Out Unit := fun ds ρ => match ds with
  | d :: r => (h d ρ).bind fun _ ρ1 => hs r ρ1
  | [] => .bad
theorem gs_nil : DGs X Z [] gsNil := ⟨_, pgs_nil, ⟨fun {B as σ H ρ vs ds N} R r q => by
  cases r with
  | nil => exact ⟨rfl, q as σ H R .refl⟩
  | cons _ _ => exact q.elim⟩⟩
theorem Reps.goW {vs : List V} {ds : List D} (r : Reps X.G (B.W as) H vs ds) (g : Go (Ad as) H (Ad as') H') : Reps X.G (B.W as') H' vs ds := r.stp g.stp
theorem gs_cons {e : Expr} {es : List Expr} {h : D → En → Out Unit} {hs : List D → En → Out Unit} (h1 : DG X Z e h) (h2 : DGs X Z es hs) (hst : (assignEach (e :: es) X.env).map (·.2) = assign e X.env :: (assignEach es X.env).map (·.2) := by rfl) :
    DGs X Z (e :: es) (gsCons h hs) := by
  obtain ⟨_, p, s⟩ := h1
  obtain ⟨_, p2, s2⟩ := h2
  refine ⟨_, pgs_cons p p2 hst, ⟨fun {B as σ H ρ vs ds N} R r q => ?_⟩⟩
  cases r with
  | nil => exact q.elim
  | @cons v d vs ds r t =>
    refine ⟨v, vs, rfl, ?_⟩
    unfold gsCons at q
    dsimp only at q
    cases e : h d ρ with
    | ok x ρ1 =>
      rw [e] at q
      refine s.go R r ?_
      rw [e]
      intro as1 σ1 H1 R1 g1
      exact s2.go R1 (t.goW g1) (GO.after q g1)
    | exc x ρ1 =>
      rw [e] at q
      refine s.go R r ?_
      rw [e]
      exact q
    | bad => rw [e] at q; exact q.elim
def gTupD (n : Nat) (hs : List D → En → Out Unit) : D → En → Out Unit := fun d ρ => match d with
  | .tup ds => if ds.length = n then hs ds ρ else .bad
  | .obj c ks ds => if c = "" ∧ ks = [] ∧ ds ≠ [] ∧ ds.length = n then hs ds ρ else .bad
  | _ => .bad
def gLstD (n : Nat) (hs : List D → En → Out Unit) : D → En → Out Unit := fun d ρ => match d with
  | .lst ds => if ds.length = n then hs ds ρ else .bad
  | _ => .bad
theorem RepP.tupR {G : Pm} {W : Addr → Prop} {ds : List D} (r : RepP G W H v (.tup ds)) : Rep G W H v (.tup ds) := by
  cases r with
  | rep r => exact r
  | own o =>
    obtain ⟨u, e, m, c⟩ := o
    cases c with
    | tup r => exact m.elim
theorem RepP.tup {G : Pm} {W : Addr → Prop} {ds : List D} (r : RepP G W H v (.tup ds)) : ∃ a vs, v = .ref a ∧ SqT G.K H a vs ∧ Reps G W H vs ds := by
  cases r.tupR with
  | ref h w c => cases c with | tup r => exact ⟨_, _, rfl, .inl h, r⟩
  | tupK h r => exact ⟨_, _, rfl, h.sq, r⟩
theorem RepP.wtp {G : Pm} {W : Addr → Prop} {ds : List D} (r : RepP G W H v (.obj "" [] ds)) (hn : ds ≠ []) : ∃ a vs, v = .ref a ∧ SqT G.K H a vs ∧ Reps G W H vs ds := by
  have no : ∀ {vs : List V}, vs.length = ([] : List Str).length → Reps G W H vs ds → False := fun {vs} l r => by
    cases vs with
    | nil => cases r; exact hn rfl
    | cons _ _ => simp at l
  cases r with
  | rep r =>
    cases r with
    | ref h w c => cases c with
      | wtp r => exact ⟨_, _, rfl, .inl h, r⟩
      | obj m l r => exact (no l r).elim
  | own o =>
    obtain ⟨u, e, m, c⟩ := o
    cases c with
    | wtp r => exact m.elim
    | obj m l r => exact (no l r).elim
theorem RepP.lst {G : Pm} {W : Addr → Prop} {ds : List D} (r : RepP G W H v (.lst ds)) : ∃ a vs, v = .ref a ∧ Rd H a (.lst vs) ∧ Reps G W H vs ds := by
  cases r with
  | rep r =>
    cases r with
    | ref h w c => cases c with | lst r => exact ⟨_, _, rfl, h, r⟩
  | own o =>
    obtain ⟨u, e, _, c⟩ := o
    cases c with
    | lst r => exact ⟨_, _, rfl, .inl e, r⟩
theorem g_tup {es : List Expr} {k : Nat} {pos : Pos} {hs : List D → En → Out Unit} (n : Nat) (hc : X.calm = true) (h : DGs X Z es hs)
    (hn : (assignEach es X.env).length = n := by rfl) (hst : (assignEach es X.env).findIdx? (·.1) = none := by rfl) : DG X Z (.Tuple es k pos) (gTupD n hs) := by
  obtain ⟨_, p, s⟩ := h
  refine ⟨_, pg_tup hc p hn hst, ⟨fun {B as σ H ρ v d N} R r q => ?_⟩⟩
  cases d with
  | tup ds =>
    obtain ⟨a, vs, e, h1, h2⟩ := RepP.tup (.rep r)
    have q : GO X Z B as H N (if ds.length = n then hs ds ρ else .bad) := q
    split at q
    · rename_i hl
      exact ⟨a, vs, e, h1, by rw [h2.length]; exact hl, s.go R h2 q⟩
    · exact q.elim
  | obj c ks ds =>
    have q2 : GO X Z B as H N (if c = "" ∧ ks = [] ∧ ds ≠ [] ∧ ds.length = n then hs ds ρ else .bad) := q
    clear q
    by_cases hl : c = "" ∧ ks = [] ∧ ds ≠ [] ∧ ds.length = n
    · rw [if_pos hl] at q2
      obtain ⟨rfl, rfl, hn, hl⟩ := hl
      obtain ⟨a, vs, e, h1, h2⟩ := RepP.wtp (.rep r) hn
      exact ⟨a, vs, e, h1, by rw [h2.length]; exact hl, s.go R h2 q2⟩
    · rw [if_neg hl] at q2; exact q2.elim
  | _ => exact q.elim
theorem g_lst {es : List Expr} {k : Nat} {pos : Pos} {hs : List D → En → Out Unit} (n : Nat) (hc : X.calm = true) (h : DGs X Z es hs)
    (hn : (assignEach es X.env).length = n := by rfl) (hst : (assignEach es X.env).findIdx? (·.1) = none := by rfl) : DG X Z (.Tuple es k pos) (gLstD n hs) := by
  obtain ⟨_, p, s⟩ := h
  refine ⟨_, pg_lst hc p hn hst, ⟨fun {B as σ H ρ v d N} R r q => ?_⟩⟩
  cases d with
  | lst ds =>
    obtain ⟨a, vs, e, h1, h2⟩ := RepP.lst (.rep r)
    have q : GO X Z B as H N (if ds.length = n then hs ds ρ else .bad) := q
    split at q
    · rename_i hl
      exact ⟨a, vs, e, .inl h1, by rw [h2.length]; exact hl, s.go R h2 q⟩
    · exact q.elim
  | _ => exact q.elim
def sAsg (f : En → Out Pv) (h : D → En → Out Unit) : En → Out Fl := fun ρ => (f ρ).bind fun p ρ1 => match p with
  | .v d => (h d ρ1).bind fun _ ρ2 => .ok .nx ρ2
  | .b _ => .bad
theorem s_asg {tg e : Expr} {pos : Pos} {f : En → Out Pv} {h : D → En → Out Unit} (he : DE X Z e f) (hg : DG X Z tg h) (hs : swapsWithSole [tg] e pos.line X.env = pure false := by rfl) (hw : swappedStores [tg] e X.env = pure none := by rfl)
    (h1 : (assignEach [tg] X.env).map (·.2) = [assign tg X.env] := by rfl) : DS X Z (.Assign [tg] e pos) (sAsg f h) := by
  obtain ⟨_, p, s⟩ := he
  obtain ⟨_, p2, s2⟩ := hg
  refine ⟨_, ps_asg p p2 hs hw h1, ⟨fun {B as σ H ρ D'} R q => s.go R ((q.bind R).imp fun p ρ1 H1 R1 g1 q1 v k1 => ?_)⟩⟩
  cases k1 with
  | v k =>
    refine s2.go R1 k (q1.ofG fun ρ2 as2 σ2 H2 R2 q2 => ?_)
    exact q2 _ _ _ R2 .refl
  | b k => exact q1.elim
/-- name op= e -/
def sAug (i : Nat) (f : En → Out Pv) (g : D → D → Option D) : En → Out Fl := fun ρ => match ρ[i]? with
  | some (.val a) => (f ρ).bind fun q ρ1 => match (pvD ρ1 q).bind fun b => g a b with
    | some d => .ok .nx (ρ1.set i (.val d))
    | none => .bad
  | _ => .bad
theorem s_aug {i : Nat} {x : Str} {e : Expr} {op : Operator} {r : R2} {pos pos' : Pos} {f : En → Out Pv} {g : D → D → Option D} (hN : X.N.Nodup) (ho : OpR X (inplaceOp op) r) (hr : Op2 X r g) (h : DE X Z e f) (hi : X.N[i]? = some x := by rfl) (hx : Loc X.env.scope x := by first | exact Or.inl rfl | exact Or.inr rfl)
    (hf : X.fn x = true ∨ X.env.scope.names.lookup x = some .local := by first | exact .inl rfl | exact .inr rfl | assumption) : DS X Z (.AugAssign (.Name x pos') op e pos) (sAug i f g) := by
  obtain ⟨_, p, s⟩ := h
  refine ⟨_, ps_aug hN hi hx p ho hf, ⟨fun {B as σ H ρ D'} R q => ?_⟩⟩
  unfold sAug at q
  cases e : ρ[i]? with
  | none => rw [e] at q; exact q.elim
  | some sl =>
    rw [e] at q
    obtain ⟨v, a, h1, h2, h3⟩ := R.at_s e
    cases h3 with
    | val k =>
      refine ⟨_, h1, s.go R ((q.bind R).imp fun p ρ1 H1 R1 g1 q1 u k1 => ?_)⟩
      cases eq : (pvD ρ1 p) with
      | none => rw [eq] at q1; exact q1.elim
      | some b =>
        rw [eq] at q1
        dsimp only [Option.bind_some] at q1
        rename_i d0
        cases eg : g d0 b with
        | none => rw [eg] at q1; exact q1.elim
        | some c =>
          rw [eg] at q1
          refine hr R1.domA (.rep (k.go g1)) (k1.peek R1 eq) eg fun w H2 s2 rw2 => ?_
          obtain ⟨R3, g3⟩ := (R1.same s2).setVal i rw2
          exact q1 _ _ _ R3 ((Go.of_same s2).trans g3)
    | _ => exact q.elim

/-! ### iterables -/
/-- J walks the items ds, whatever is done meanwhile to one's own objects and new ones -/
def Walks (X : Cx) (B : Bs) (as : List (Option Addr)) (H : Hp) (J : It) (ds : List D) : Prop :=
  ∀ (A : Addr → Prop) (H2 : Hp), (∀ b, Wu B.W0 A b → ∃ o, H2 b = some o) → Go (Ad as) H A H2 → J.stop ds.length H2 ∧ ∀ i d, ds[i]? = some d → J.go i H2 ∧ ∀ x H3, J.yld i H2 x H3 → Same H2 H3 ∧ (Rep X.G (Wu B.W0 A) H3 x d)
structure DIt (X : Cx) (Z : WXZ) (wi : TI) (f : En → Out (List D)) : Prop where
  go : ∀ {B : Bs} {as : List (Option Addr)} {σ : L2.St} {H : Hp} {ρ : En} {R' : It → Hp → Prop}, Rel X.G B as σ H ρ → EO X Z B as σ H (fun ds _ H' => ∀ J H2, Same H' H2 → Walks X B as H2 J ds → R' J H2) (f ρ) → wi σ H R'
def DI (X : Cx) (Z : WXZ) (tg iter : Expr) (f : En → Out (List D)) : Prop := ∃ wi, PI X tg iter wi ∧ DIt X Z wi f
theorem walks_list {a : Addr} {vs : List V} {ds : List D} (h : Rd H a (.lst vs)) (w : ¬ B.W as a) (r : Reps X.G (B.W as) H vs ds) : Walks X B as H (Itl X.K a) ds := by
  intro A H2 _ g
  have h2 : SqL X.K H2 a vs := .inl (Rd.stp h g.stp w).1
  have r2 := r.go g
  refine ⟨⟨vs, h2, by rw [r2.length]; exact Nat.le_refl _⟩, fun i d e => ?_⟩
  obtain ⟨v, e1, r3⟩ := r2.get e
  refine ⟨⟨vs, v, h2, e1⟩, fun x H3 y => ?_⟩
  obtain ⟨rfl, y⟩ := y
  have := y vs h2
  rw [e1] at this; cases this
  exact ⟨Same.refl _, r3⟩
theorem walks_tup {a : Addr} {vs : List V} {ds : List D} (h : SqT X.K H a vs) (w : (∃ o, H a = some o) → ¬ B.W as a) (r : Reps X.G (B.W as) H vs ds) : Walks X B as H (Itt X.K a) ds := by
  intro A H2 _ g
  have h2 : SqT X.K H2 a vs := by
    rcases h with h | h
    · exact .inl (Rd.stp h g.stp (w (Rd.there h))).1
    · exact .inr h
  have r2 := r.go g
  refine ⟨⟨vs, h2, by rw [r2.length]; exact Nat.le_refl _⟩, fun i d e => ?_⟩
  obtain ⟨v, e1, r3⟩ := r2.get e
  refine ⟨⟨vs, v, h2, e1⟩, fun x H3 y => ?_⟩
  obtain ⟨rfl, y⟩ := y
  have := y vs h2
  rw [e1] at this; cases this
  exact ⟨Same.refl _, r3⟩
def iL (f : En → Out Pv) : En → Out (List D) := fun ρ => (f ρ).bind fun p ρ1 => match p with
  | .v (.lst ds) => .ok ds ρ1
  | _ => .bad
def iT (f : En → Out Pv) : En → Out (List D) := fun ρ => (f ρ).bind fun p ρ1 => match p with
  | .v (.tup ds) => .ok ds ρ1
  | _ => .bad
theorem i_lst {tg e : Expr} {f : En → Out Pv} (h : DE X Z e f) : DI X Z tg e (iL f) := by
  obtain ⟨_, p, s⟩ := h
  refine ⟨_, pi_list p, ⟨fun {B as σ H ρ R'} R q => s.go R (q.bind.imp fun p ρ1 H1 R1 g1 q1 v k1 => ?_)⟩⟩
  cases k1 with
  | @v v d k =>
    cases d with
    | lst ds =>
      cases k with
      | ref h w c =>
        cases c with
        | lst r => exact ⟨_, rfl, ⟨_, .inl h⟩, q1 H1 R1 .refl _ H1 (Same.refl _) (walks_list h w r)⟩
    | _ => exact q1.elim
  | b => exact q1.elim
theorem i_tup {tg e : Expr} {f : En → Out Pv} (h : DE X Z e f) : DI X Z tg e (iT f) := by
  obtain ⟨_, p, s⟩ := h
  refine ⟨_, pi_tup p, ⟨fun {B as σ H ρ R'} R q => s.go R (q.bind.imp fun p ρ1 H1 R1 g1 q1 v k1 => ?_)⟩⟩
  cases k1 with
  | @v v d k =>
    cases d with
    | tup ds =>
      cases k with
      | ref h w c =>
        cases c with
        | tup r => exact ⟨_, rfl, ⟨_, .inl h⟩, q1 H1 R1 .refl _ H1 (Same.refl _) (walks_tup (.inl h) (fun _ => w) r)⟩
      | @tupK a vs ds h r => exact ⟨_, rfl, ⟨_, h.sq⟩, q1 H1 R1 .refl _ H1 (Same.refl _) (fun A H2 _ g => by
          have r2 := r.go g
          have h2 : SqT X.K H2 a vs := h.sq
          refine ⟨⟨vs, h2, by rw [r2.length]; exact Nat.le_refl _⟩, fun i d e => ?_⟩
          obtain ⟨v, e1, r3⟩ := r2.get e
          refine ⟨⟨vs, v, h2, e1⟩, fun x H3 y => ?_⟩
          obtain ⟨rfl, y⟩ := y
          have := y vs h2
          rw [e1] at this; cases this
          exact ⟨Same.refl _, r3⟩)⟩
    | _ => exact q1.elim
  | b => exact q1.elim
def rangeD (lo hi : Int) : List D := (List.range (hi - lo).toNat).map fun (i : Nat) => D.int (lo + i)
theorem walks_range (lo : Int) (n : Nat) : Walks X B as H (Itr lo n) ((List.range n).map fun (i : Nat) => D.int (lo + i)) := by
  intro A H2 _ g
  refine ⟨by show n ≤ _; simp, fun i d e => ?_⟩
  have hi : i < n := by simpa using lt_of_get e
  rw [List.getElem?_map, List.getElem?_range hi] at e
  cases e
  exact ⟨hi, fun x H3 ⟨e1, e2⟩ => by subst e1 e2; exact ⟨Same.refl _, .int _⟩⟩
/-- (by natAbs: the kernel would count down from 2 ^ 62 at the whole number of an unknown natural) -/
def inR (i : Int) : Bool := decide (i.natAbs < 2 ^ 62)
theorem inR_b {i : Int} (h : inR i = true) : -(2 ^ 62) ≤ i ∧ i < 2 ^ 62 := by
  have := of_decide_eq_true h
  omega
def iR1 (f : En → Out (List Pv)) : En → Out (List D) := fun ρ => (f ρ).bind fun ps ρ1 => match ps with
  | [.v (.int j)] => if inR j = true then .ok (rangeD 0 j) ρ1 else .bad
  | _ => .bad
def iR2 (f : En → Out (List Pv)) : En → Out (List D) := fun ρ => (f ρ).bind fun ps ρ1 => match ps with
  | [.v (.int i), .v (.int j)] => if (inR i && inR j) = true then .ok (rangeD i j) ρ1 else .bad
  | _ => .bad
theorem Rep.int_ {G : Pm} {W : Addr → Prop} {i : Int} (r : Rep G W H v (.int i)) : v = .int i := by
  cases r with
  | int => rfl
  | ref _ _ c => cases c
theorem i_range1 {tg a : Expr} {p pos : Pos} {f : En → Out (List Pv)} (h : DA X Z [a] f) (hg : Gl X "range") (hm : X.mg "range" = none) (hs : starEach [a] X.env = [(false, eval a X.env)] := by rfl) : DI X Z tg (.Call (.Name "range" p) [a] [] pos) (iR1 f) := by
  obtain ⟨_, p, s⟩ := h
  refine ⟨_, pi_range1 hg hm p hs, ⟨fun {B as σ H ρ R'} R q => s.go R (q.bind.imp fun ps ρ1 H1 R1 g1 q1 vs k1 => ?_)⟩⟩
  split at q1
  · rename_i j
    cases k1 with
    | cons k kn =>
      cases kn
      cases k with
      | v k =>
        have e := k.int_
        subst e
        split at q1
        · rename_i hj
          have hj := inR_b hj
          refine ⟨j, rfl, hj.1, hj.2, q1 H1 R1 .refl _ H1 (Same.refl _) ?_⟩
          have := walks_range (X := X) (B := B) (as := as) (H := H1) 0 j.toNat
          unfold rangeD
          rw [Int.sub_zero]
          exact this
        · exact q1.elim
  · exact q1.elim
theorem i_range2 {tg a b : Expr} {p pos : Pos} {f : En → Out (List Pv)} (h : DA X Z [a, b] f) (hg : Gl X "range") (hm : X.mg "range" = none) (hs : starEach [a, b] X.env = [(false, eval a X.env), (false, eval b X.env)] := by rfl) (hs2 : starEach [b] X.env = [(false, eval b X.env)] := by rfl) :
    DI X Z tg (.Call (.Name "range" p) [a, b] [] pos) (iR2 f) := by
  obtain ⟨_, p, s⟩ := h
  refine ⟨_, pi_range2 hg hm p hs hs2, ⟨fun {B as σ H ρ R'} R q => s.go R (q.bind.imp fun ps ρ1 H1 R1 g1 q1 vs k1 => ?_)⟩⟩
  split at q1
  · rename_i i j
    cases k1 with
    | cons k kn =>
      cases kn with
      | cons k2 kn =>
        cases kn
        cases k with
        | v k =>
          cases k2 with
          | v k2 =>
            have e := k.int_
            have e2 := k2.int_
            subst e e2
            split at q1
            · rename_i hj
              rw [Bool.and_eq_true] at hj
              have h1 := inR_b hj.1
              have h2 := inR_b hj.2
              exact ⟨i, j, rfl, ⟨h1.1, h1.2, h2.1, h2.2⟩, q1 H1 R1 .refl _ H1 (Same.refl _) (walks_range i (j - i).toNat)⟩
            · exact q1.elim
  · exact q1.elim

/-! ### for -/
def forL (g : D → En → Out Unit) (body : En → Out Fl) : List D → En → Out Fl
  | [], ρ => .ok .nx ρ
  | d :: r, ρ => match g d ρ with
    | .ok _ ρ1 => match body ρ1 with
      | .ok .nx ρ2 => forL g body r ρ2
      | .ok .ct ρ2 => forL g body r ρ2
      | .ok .bk ρ2 => .ok .nx ρ2
      | o => o
    | .exc e ρ1 => .exc e ρ1
    | .bad => .bad
def sFor (it : En → Out (List D)) (g : D → En → Out Unit) (body : En → Out Fl) : En → Out Fl := fun ρ => (it ρ).bind fun ds ρ1 => forL g body ds ρ1
theorem s_for {tg iter : Expr} {body : List Stmt} {pos : Pos} {it : En → Out (List D)} {g : D → En → Out Unit} {f : En → Out Fl} (hp : PassesOwn (model X.prog X.w) X.A X.env X.xe) (hc : X.calm = true) (hi : DI X Z tg iter it) (hg : DG X Z tg g) (hb : DSs X Z body f)
    (hs : ∀ x, foldedSetIterable iter X.env x = pure x := by intro _; rfl) : DS X Z (.For tg iter body [] pos) (sFor it g f) := by
  obtain ⟨_, pi, si⟩ := hi
  obtain ⟨_, pg, sg⟩ := hg
  obtain ⟨_, pb, sb⟩ := hb
  refine ⟨_, ps_for hp hc pi pg pb hs, ⟨fun {B as σ H ρ D'} R q => si.go R ((q.bind R).imp fun ds ρ1 H1 R1 g1 q1 J H2 s2 wk => ?_)⟩⟩
  have R2 := R1.same s2
  have q2 : SO X Z B as H2 D' (forL g f ds ρ1) := q1.after (.of_same s2)
  refine ⟨fun i m σ3 H3 => m = ds.length - i ∧ i ≤ ds.length ∧ ∃ as3 ρ3, Rel X.G B as3 σ3 H3 ρ3 ∧ Go (Ad as) H2 (Ad as3) H3 ∧ SO X Z B as3 H3 D' (forL g f (ds.drop i) ρ3),
    ⟨_, rfl, Nat.zero_le _, as, ρ1, R2, .refl, q2⟩, ?_⟩
  rintro i m σ3 H3 ⟨rfl, hle, as3, ρ3, R3, g3, q3⟩
  obtain ⟨w1, w2⟩ := wk (Ad as3) H3 R3.domA g3
  by_cases hlt : i < ds.length
  · have e : ds.drop i = ds[i] :: ds.drop (i + 1) := List.drop_eq_getElem_cons hlt
    rw [e] at q3
    obtain ⟨w3, w4⟩ := w2 i ds[i] (List.getElem?_eq_getElem hlt)
    refine .inr ⟨w3, fun σ4 H4 => i + 1 ≤ ds.length ∧ ∃ as4 ρ4, Rel X.G B as4 σ4 H4 ρ4 ∧ Go (Ad as) H2 (Ad as4) H4 ∧ SO X Z B as4 H4 D' (forL g f (ds.drop (i + 1)) ρ4), fun σ4 H4 hN => ?_, fun x H4 y => ?_⟩
    · exact ⟨ds.length - (i + 1), by omega, rfl, hN.1, hN.2⟩
    · obtain ⟨s4, r4⟩ := w4 x H4 y
      have R4 := R3.same s4
      have q4 := q3.after (.of_same s4)
      unfold forL at q4
      refine sg.go R4 r4 ?_
      cases eg : g ds[i] ρ3 with
      | bad => rw [eg] at q4; exact q4.elim
      | exc e ρ5 => rw [eg] at q4; exact q4
      | ok u ρ5 =>
        rw [eg] at q4
        intro as5 σ5 H5 R5 g5
        have q5 := q4.after g5
        have gg : Go (Ad as) H2 (Ad as5) H5 := g3.trans ((Go.of_same s4).trans g5)
        refine sb.go R5 ?_
        dsimp only at q5
        cases eb : f ρ5 with
        | bad => rw [eb] at q5; exact q5.elim
        | exc e ρ6 => rw [eb] at q5; exact q5
        | ok fl ρ6 =>
          rw [eb] at q5
          cases fl with
          | nx => exact fun as6 σ6 H6 R6 g6 => ⟨hlt, as6, ρ6, R6, gg.trans g6, SO.after q5 g6⟩
          | ct => exact fun as6 σ6 H6 R6 g6 => ⟨hlt, as6, ρ6, R6, gg.trans g6, SO.after q5 g6⟩
          | bk => exact q5
          | rt d => exact q5
          | rn d => exact q5
  · have e : i = ds.length := by omega
    subst e
    rw [List.drop_length] at q3
    exact .inl ⟨w1, q3 as3 σ3 H3 R3 .refl⟩
/-! ### while, with a bound of the turns -/
def whileN (c : En → Out Bool) (body : En → Out Fl) : Nat → En → Out Fl
  | 0, _ => .bad
  | n + 1, ρ => match c ρ with
    | .ok true ρ1 => match body ρ1 with
      | .ok .nx ρ2 => whileN c body n ρ2
      | .ok .ct ρ2 => whileN c body n ρ2
      | .ok .bk ρ2 => .ok .nx ρ2
      | o => o
    | .ok false ρ1 => .ok .nx ρ1
    | .exc e ρ1 => .exc e ρ1
    | .bad => .bad
theorem s_while {c : Expr} {body : List Stmt} {pos : Pos} {fc : En → Out Bool} {f : En → Out Fl} (n : Nat) (hp : PassesOwn (model X.prog X.w) X.A X.env X.xe) (hc : DT X Z c fc) (hb : DSs X Z body f) : DS X Z (.While c body [] pos) (whileN fc f n) := by
  obtain ⟨_, pc, sc⟩ := hc
  obtain ⟨_, pb, sb⟩ := hb
  refine ⟨_, ps_while hp pc pb, ⟨fun {B as σ H ρ D'} R q => ?_⟩⟩
  refine ⟨fun m σ3 H3 => ∃ as3 ρ3, Rel X.G B as3 σ3 H3 ρ3 ∧ SO X Z B as3 H3 D' (whileN fc f m ρ3), ⟨n, as, ρ, R, q⟩, ?_⟩
  rintro m σ3 H3 ⟨as3, ρ3, R3, q3⟩
  cases m with
  | zero => exact q3.elim
  | succ m =>
    unfold whileN at q3
    refine sc.go R3 ?_
    cases ec : fc ρ3 with
    | bad => rw [ec] at q3; exact q3.elim
    | exc e ρ4 => rw [ec] at q3; exact fun cls dx H' R g x => q3 cls dx as3 σ3 H' R g x
    | ok b ρ4 =>
      rw [ec] at q3
      intro H4 R4 g4
      have q4 := q3.after g4
      cases b with
      | false => exact iteF (q4 as3 σ3 H4 R4 .refl)
      | true =>
        refine iteT ⟨fun σ5 H5 => ∃ as5 ρ5, Rel X.G B as5 σ5 H5 ρ5 ∧ SO X Z B as5 H5 D' (whileN fc f m ρ5), fun σ5 H5 h => ⟨m, Nat.lt_succ_self m, h⟩, sb.go R4 ?_⟩
        dsimp only at q4
        cases eb : f ρ4 with
        | bad => rw [eb] at q4; exact q4.elim
        | exc e ρ6 => rw [eb] at q4; exact q4
        | ok fl ρ6 =>
          rw [eb] at q4
          cases fl with
          | nx => exact fun as6 σ6 H6 R6 g6 => ⟨as6, ρ6, R6, SO.after q4 g6⟩
          | ct => exact fun as6 σ6 H6 R6 g6 => ⟨as6, ρ6, R6, SO.after q4 g6⟩
          | bk => exact q4
          | rt d => exact q4
          | rn d => exact q4
end
end L3
namespace L3
open PySem PySem.Spec PyProof.Rows L2

/-! ### what a def is worth -/
/-- a def's result: a value, or a new object -/
inductive Rt where
  | v (d : D) | n (d : D)
def Rt.d : Rt → D
  | .v d => d
  | .n d => d
/-- a def's mirror: the arguments as slots; the result, and what stands behind in the slots that were lent -/
abbrev Mf := En → Out Rt
def outs : En → En → Option En
  | [], _ => some []
  | .bor _ :: r, .bor c :: r' => (outs r r').map (.bor c :: ·)
  | .bor _ :: _, _ => none
  | _ :: r, _ :: r' => (outs r r').map (.un :: ·)
  | _ :: _, [] => none
def fin (ρ0 : En) (r : Rt) (ρ' : En) : Out Rt := match outs ρ0 ρ' with
  | some cs => .ok r cs
  | none => .bad
def run (x : Bool) (n : Nat) (g : En → Out Fl) : Mf := fun ρ0 => match g (ρ0 ++ List.replicate (n - ρ0.length) .un) with
  | .ok (.rt d) ρ' => fin ρ0 (.v d) ρ'
  | .ok (.rn d) ρ' => fin ρ0 (.n d) ρ'
  | .ok .nx ρ' => fin ρ0 (.v .non) ρ'
  | .exc e ρ' => match x, outs ρ0 ρ' with
    | true, some cs => .exc e cs
    | _, _ => .bad
  | _ => .bad
/-- no exception leaves -/
def NoX (m : Mf) : Prop := ∀ ρ0 e cs, m ρ0 ≠ .exc e cs
theorem fin_nox {ρ0 ρ' : En} {r : Rt} {e : Ex} {cs : En} : fin ρ0 r ρ' ≠ .exc e cs := by
  unfold fin
  split <;> exact fun z => nomatch z
theorem run_nox {n : Nat} {g : En → Out Fl} : NoX (run false n g) := by
  intro ρ0 e cs
  unfold run
  split
  · exact fin_nox
  · exact fin_nox
  · exact fin_nox
  · exact fun z => nomatch z
  · exact fun z => nomatch z

/-- what is lent holds what cs tells -/
def CtOk (G : Pm) (W : Addr → Prop) (a0 : List (Option Addr)) (H : Hp) (cs : En) : Prop := ∀ (i : Nat) a, a0[i]? = some (some a) → ∃ c, cs[i]? = some (.bor c) ∧ Own G W H a c
def noOwn (ρ0 : En) : Prop := ∀ (i : Nat) (d : D), ρ0[i]? ≠ some (Sl.own d)
/-- the promise; x: an exception may leave -/
def spM (x : Bool) (G : Pm) (np : Nat) (m : Mf) : Sp := fun vs H Q E => vs.length = np ∧ ∃ (W0 : Addr → Prop) (a0 : List (Option Addr)) (ρ0 : En), Rel G ⟨W0, a0, H⟩ a0 (vs.map some) H ρ0 ∧ noOwn ρ0 ∧
  match m ρ0 with
  | .ok (.v d) cs => ∀ v H', Go (Ad a0) H (Ad a0) H' → CtOk G (Wu W0 (Ad a0)) a0 H' cs → Rep G (Wu W0 (Ad a0)) H' v d → Q v H'
  | .ok (.n d) cs => ∀ a H', Go (Ad a0) H (Ad a0) H' → H a = none → CtOk G (Wu (fun b => W0 b ∨ b = a) (Ad a0)) a0 H' cs → Own G (Wu (fun b => W0 b ∨ b = a) (Ad a0)) H' a d → Q (.ref a) H'
  | .exc e cs => x = true ∧ ∀ cls dx H', Go (Ad a0) H (Ad a0) H' → CtOk G (Wu W0 (Ad a0)) a0 H' cs → RepX G (Wu W0 (Ad a0)) H' cls dx e → E cls dx H'
  | .bad => False

section
variable {G : Pm} {W0 W W' : Addr → Prop} {a0 as : List (Option Addr)} {vs : List V} {H H' : Hp} {ρ0 ρ' cs : En} {a : Addr} {d : D} {B : Bs} {σ : L2.St}
theorem outs_len : ∀ {ρ0 ρ' cs : En}, outs ρ0 ρ' = some cs → cs.length = ρ0.length
  | [], _, _, h => by cases h; rfl
  | .bor _ :: r, .bor c :: r', cs, h => by
    simp only [outs, Option.map_eq_some_iff] at h
    obtain ⟨t, h1, rfl⟩ := h
    simp [outs_len h1]
  | .bor _ :: _, .un :: _, _, h => by simp [outs] at h
  | .bor _ :: _, .val _ :: _, _, h => by simp [outs] at h
  | .bor _ :: _, .own _ :: _, _, h => by simp [outs] at h
  | .bor _ :: _, [], _, h => by simp [outs] at h
  | .un :: r, _ :: r', cs, h => by
    simp only [outs, Option.map_eq_some_iff] at h
    obtain ⟨t, h1, rfl⟩ := h
    simp [outs_len h1]
  | .val _ :: r, _ :: r', cs, h => by
    simp only [outs, Option.map_eq_some_iff] at h
    obtain ⟨t, h1, rfl⟩ := h
    simp [outs_len h1]
  | .own _ :: r, _ :: r', cs, h => by
    simp only [outs, Option.map_eq_some_iff] at h
    obtain ⟨t, h1, rfl⟩ := h
    simp [outs_len h1]
  | .un :: _, [], _, h => by simp [outs] at h
  | .val _ :: _, [], _, h => by simp [outs] at h
  | .own _ :: _, [], _, h => by simp [outs] at h
theorem outs_get : ∀ {ρ0 ρ' cs : En} {i : Nat} {c0 : D}, outs ρ0 ρ' = some cs → ρ0[i]? = some (.bor c0) → ∃ c, cs[i]? = some (.bor c) ∧ ρ'[i]? = some (.bor c)
  | [], _, _, _, _, _, h => by simp at h
  | .bor _ :: r, .bor c :: r', cs, i, c0, h, hi => by
    simp only [outs, Option.map_eq_some_iff] at h
    obtain ⟨t, h1, rfl⟩ := h
    cases i with
    | zero => exact ⟨c, rfl, rfl⟩
    | succ i => simpa using outs_get (i := i) h1 (by simpa using hi)
  | .bor _ :: _, .un :: _, _, _, _, h, _ => by simp [outs] at h
  | .bor _ :: _, .val _ :: _, _, _, _, h, _ => by simp [outs] at h
  | .bor _ :: _, .own _ :: _, _, _, _, h, _ => by simp [outs] at h
  | .bor _ :: _, [], _, _, _, h, _ => by simp [outs] at h
  | .un :: r, _ :: r', cs, i, c0, h, hi => by
    simp only [outs, Option.map_eq_some_iff] at h
    obtain ⟨t, h1, rfl⟩ := h
    cases i with
    | zero => simp at hi
    | succ i => simpa using outs_get (i := i) h1 (by simpa using hi)
  | .val _ :: r, _ :: r', cs, i, c0, h, hi => by
    simp only [outs, Option.map_eq_some_iff] at h
    obtain ⟨t, h1, rfl⟩ := h
    cases i with
    | zero => simp at hi
    | succ i => simpa using outs_get (i := i) h1 (by simpa using hi)
  | .own _ :: r, _ :: r', cs, i, c0, h, hi => by
    simp only [outs, Option.map_eq_some_iff] at h
    obtain ⟨t, h1, rfl⟩ := h
    cases i with
    | zero => simp at hi
    | succ i => simpa using outs_get (i := i) h1 (by simpa using hi)
  | .un :: _, [], _, _, _, h, _ => by simp [outs] at h
  | .val _ :: _, [], _, _, _, h, _ => by simp [outs] at h
  | .own _ :: _, [], _, _, _, h, _ => by simp [outs] at h

/-- at a def's entry: the other names stand empty -/
theorem Rel.enter (R : Rel G ⟨W0, a0, H⟩ a0 (vs.map some) H ρ0) (N : List Str) (n : Nat) (hn : n = N.length) (hl : vs.length ≤ n) :
    Rel G ⟨W0, a0 ++ List.replicate (n - vs.length) none, H⟩ (a0 ++ List.replicate (n - vs.length) none) (L2.start N vs) H (ρ0 ++ List.replicate (n - ρ0.length) .un) := by
  have l1 : vs.length = ρ0.length := by simpa using R.l1
  have l2 := R.l2
  have mem : ∀ b, Ad (a0 ++ List.replicate (n - vs.length) none) b → Ad a0 b := fun b hb => by
    have hb : some b ∈ a0 ++ List.replicate (n - vs.length) none := hb
    rcases List.mem_append.mp hb with h | h
    · exact h
    · have := List.eq_of_mem_replicate h; cases this
  have ix : ∀ (i : Nat) b, (a0 ++ List.replicate (n - vs.length) none)[i]? = some (some b) → a0[i]? = some (some b) := fun i b h => by
    by_cases hi : i < a0.length
    · rwa [List.getElem?_append_left hi] at h
    · rw [List.getElem?_append_right (by omega)] at h
      have := List.eq_of_mem_replicate (List.mem_of_getElem? h); cases this
  have st : Stp (Wu W0 (Ad a0)) H (Wu W0 (Ad (a0 ++ List.replicate (n - vs.length) none))) H := .less fun b z => .inl (z.imp id (mem b))
  refine ⟨?_, ?_, fun i v s b h1 h2 h3 => ?_, fun i d h => ?_, fun i d b h1 h2 => ?_, fun i j b h1 h2 => R.inj i j b (ix i b h1) (ix j b h2), fun b hb => R.nw b (mem b hb), R.dom, fun b hb => hb⟩
  · unfold L2.start; simp; omega
  · simp; omega
  · by_cases hi : i < ρ0.length
    · rw [List.getElem?_append_left hi] at h2
      rw [List.getElem?_append_left (by omega)] at h3
      unfold L2.start at h1
      rw [List.getElem?_append_left (by simp; omega)] at h1
      cases R.sl i v s b h1 h2 h3 with
      | un => exact .un _
      | val x => exact .val (x.stp st)
      | own x => exact .own (x.stp st rfl)
      | bor x => exact .bor (x.stp st rfl)
    · rw [List.getElem?_append_right (by omega)] at h2
      rw [List.getElem?_append_right (by omega)] at h3
      have e2 := List.eq_of_mem_replicate (List.mem_of_getElem? h2)
      have e3 := List.eq_of_mem_replicate (List.mem_of_getElem? h3)
      subst e2 e3
      exact .un _
  · rfl
  · by_cases hi : i < ρ0.length
    · rw [List.getElem?_append_left hi] at h1
      have := R.fr i d b h1 (by rw [← ix i b h2])
      exact this
    · rw [List.getElem?_append_right (by omega)] at h1
      have e2 := List.eq_of_mem_replicate (List.mem_of_getElem? h1)
      cases e2

/-- at a def's end -/
theorem Rel.leave {k : Nat} (R0 : Rel G ⟨W0, a0, H⟩ a0 (vs.map some) H ρ0) (no : noOwn ρ0) (hB : B.pn = a0 ++ List.replicate k none) (R : Rel G B as σ H' ρ') (e : outs ρ0 ρ' = some cs) :
    (∀ b, Ad a0 b → Ad as b) ∧ ∀ (i : Nat) a, a0[i]? = some (some a) → ∃ c, cs[i]? = some (.bor c) ∧ Own G (B.W as) H' a c := by
  have key : ∀ (i : Nat) a, a0[i]? = some (some a) → as[i]? = some (some a) ∧ ∃ c, cs[i]? = some (.bor c) ∧ Own G (B.W as) H' a c := fun i a h => by
    obtain ⟨d, h1, h2, h3⟩ := R0.at_a h
    have hb : ρ0[i]? = some (.bor d) := h2.resolve_left (no i d)
    obtain ⟨c, e1, e2⟩ := outs_get e hb
    have p := R.pin i c e2
    rw [hB, List.getElem?_append_left (lt_of_get h), h] at p
    obtain ⟨c', h4, h5, h6⟩ := R.at_a p
    have : c' = c := by
      rw [e2] at h5
      rcases h5 with h5 | h5
      · cases h5
      · cases h5; rfl
    subst this
    exact ⟨p, c', e1, h6⟩
  refine ⟨fun b hb => ?_, fun i a h => (key i a h).2⟩
  obtain ⟨i, h⟩ := Ad.ix hb
  exact Ad.of (key i b h).1
theorem Own.mono (o : Own G W H a d) (h : ∀ b, W' b → W b) : Own G W' H a d := o.stp (.less fun b z => .inl (h b z)) rfl
theorem Rep.mono {v : V} (o : Rep G W H v d) (h : ∀ b, W' b → W b) : Rep G W' H v d := o.stp (.less fun b z => .inl (h b z))
end

section
variable {P : Program} {w : World} {K : PySem.W.Frag} {mg : Str → Option Value} {base : Heap}
/-- the body's outcome is the promise's -/
theorem SO.body {x : Bool} {X : Cx} {Z : WXZ} {np n : Nat} {g : En → Out Fl} {vs : List V} {H : Hp} {Q : VK} {E : XK} {N : List Str} (h : spM x X.G np (run x n g) vs H Q E) (hn : n = N.length) (hp : np ≤ n)
    (hZ : x = true → ∀ cls dx σ H, E cls dx H → Z cls dx σ H) :
    ∃ B as ρ, Rel X.G B as (L2.start N vs) H ρ ∧ SO X Z B as H { nx := fun _ H' => Q .non H', rt := Q } (g ρ) := by
  obtain ⟨hl, W0, a0, ρ0, R0, no, hm⟩ := h
  have R := R0.enter N n hn (by omega)
  refine ⟨_, _, _, R, ?_⟩
  have l1 : vs.length = ρ0.length := by simpa using R0.l1
  have memA : ∀ {b : Addr}, Ad (a0 ++ List.replicate (n - vs.length) none) b → Ad a0 b := fun {b} hb => by
    rcases List.mem_append.mp hb with h | h
    · exact h
    · have := List.eq_of_mem_replicate h; cases this
  -- what a final state gives
  have goB : ∀ {as' : List (Option Addr)} {H' : Hp}, Go (Ad (a0 ++ List.replicate (n - vs.length) none)) H (Ad as') H' → (∀ b, Ad a0 b → Ad as' b) → Go (Ad a0) H (Ad a0) H' := fun {as' H'} g hs =>
    ⟨fun b o e nb => g.keep b o e fun z => nb (memA z), fun b z => .inl z, g.grow⟩
  unfold run at hm
  cases eg : g (ρ0 ++ List.replicate (n - ρ0.length) .un) with
  | bad => rw [eg] at hm; exact hm.elim
  | exc e ρ' =>
    rw [eg] at hm
    cases x with
    | false => exact hm.elim
    | true =>
    simp only at hm
    cases eo : outs ρ0 ρ' with
    | none => rw [eo] at hm; exact hm.elim
    | some cs =>
      rw [eo] at hm
      intro cls dx as' σ' H' R' g' rx
      have hx : true = true := rfl
      have hm := hm.2
      obtain ⟨hs, hc⟩ := Rel.leave R0 no rfl R' eo
      refine hZ hx cls dx σ' H' (hm cls dx H' (goB g' hs) (fun i a h => ?_) ?_)
      · obtain ⟨c, e1, e2⟩ := hc i a h
        exact ⟨c, e1, e2.mono fun b z => z.imp id (hs b)⟩
      · obtain ⟨r1, r2⟩ := rx
        refine ⟨r1, r2.imp id fun ⟨d, vfs, q1, q2, q3, q4⟩ => ⟨d, vfs, q1, q2, q3, q4.stp (.less fun b z => .inl (z.imp id (hs b)))⟩⟩
  | ok fl ρ' =>
    rw [eg] at hm
    cases fl with
    | bk => exact hm.elim
    | ct => exact hm.elim
    | nx =>
      unfold fin at hm
      simp only at hm
      cases eo : outs ρ0 ρ' with
      | none => rw [eo] at hm; exact hm.elim
      | some cs =>
        rw [eo] at hm
        intro as' σ' H' R' g'
        obtain ⟨hs, hc⟩ := Rel.leave R0 no rfl R' eo
        refine hm .non H' (goB g' hs) (fun i a h => ?_) .non
        obtain ⟨c, e1, e2⟩ := hc i a h
        exact ⟨c, e1, e2.mono fun b z => z.imp id (hs b)⟩
    | rt d =>
      unfold fin at hm
      simp only at hm
      cases eo : outs ρ0 ρ' with
      | none => rw [eo] at hm; exact hm.elim
      | some cs =>
        rw [eo] at hm
        intro v as' σ' H' R' g' r
        obtain ⟨hs, hc⟩ := Rel.leave R0 no rfl R' eo
        refine hm v H' (goB g' hs) (fun i a h => ?_) (r.mono fun b z => z.imp id (hs b))
        obtain ⟨c, e1, e2⟩ := hc i a h
        exact ⟨c, e1, e2.mono fun b z => z.imp id (hs b)⟩
    | rn d =>
      unfold fin at hm
      simp only at hm
      cases eo : outs ρ0 ρ' with
      | none => rw [eo] at hm; exact hm.elim
      | some cs =>
        rw [eo] at hm
        intro a as' σ' H' R' g' na r
        obtain ⟨hs, hc⟩ := Rel.leave (B := Bs.and _ a) R0 no rfl R' eo
        refine hm a H' (goB g' hs) na (fun i b h => ?_) (r.mono fun b z => z.imp id (hs b))
        obtain ⟨c, e1, e2⟩ := hc i b h
        exact ⟨c, e1, e2.mono fun b z => z.imp id (hs b)⟩
/-- THE RULE for a def that lets no exception out -/
theorem fn_ok {x qual : Str} {st : Stmt} {f : Addr} {fd : FuncData} {N ps : List Str} {k : Nat} {g : En → Out Fl} (F : Fun K x qual st f fd) (S : FnScope N ps (defScope st)) (n np : Nat) (hn : n = N.length) (hnp : np = ps.length) (hp : np ≤ n)
    (hbody : ∀ (cdv : Value) (A : Around) (outer : List Env) (s : Shared) (H : Hp) (E : XK), Room k (A.deeper (envOfC qual (defScope st) s.heap.objs.size f cdv)) →
      DSs (cxOf CX0 P w K mg base N qual (defScope st) f cdv A outer s H E).nox (fun _ _ _ _ => False) (defBody st) g) : FnOk P w K mg base CX0 (k + 1) f fd ps (spM false ⟨K, mg⟩ np (run false n g)) := by
  refine F.ok S (fun vs H Q E h => by rw [h.1, hnp]) fun cdv A outer s H vs Q E hr h => ?_
  obtain ⟨t, p, s'⟩ := hbody cdv A outer s H E hr
  refine ⟨t, p, ?_⟩
  obtain ⟨B, as, ρ, R, q⟩ := SO.body (X := (cxOf CX0 P w K mg base N qual (defScope st) f cdv A outer s H E).nox) (Z := fun _ _ _ _ => False) h hn hp (fun z => nomatch z)
  exact s'.go R q
/-- .. for one that may raise -/
theorem fn_okX {x qual : Str} {st : Stmt} {f : Addr} {fd : FuncData} {N ps : List Str} {k : Nat} {g : En → Out Fl} (F : Fun K x qual st f fd) (S : FnScope N ps (defScope st)) (n np : Nat) (hn : n = N.length) (hnp : np = ps.length) (hp : np ≤ n)
    (hbody : ∀ (cdv : Value) (A : Around) (outer : List Env) (s : Shared) (H : Hp) (E : XK), Room k (A.deeper (envOfC qual (defScope st) s.heap.objs.size f cdv)) →
      DSs (cxOf (L2.CX P w) P w K mg base N qual (defScope st) f cdv A outer s H E) (fun cls dx _ H => E cls dx H) (defBody st) g) : FnOk P w K mg base (L2.CX P w) (k + 1) f fd ps (spM true ⟨K, mg⟩ np (run true n g)) := by
  refine F.okX S (fun vs H Q E h => by rw [h.1, hnp]) fun cdv A outer s H vs Q E hr h => ?_
  obtain ⟨t, p, s'⟩ := hbody cdv A outer s H E hr
  refine ⟨t, p, ?_⟩
  obtain ⟨B, as, ρ, R, q⟩ := SO.body (X := cxOf (L2.CX P w) P w K mg base N qual (defScope st) f cdv A outer s H E) (Z := fun cls dx _ H => E cls dx H) h hn hp (fun _ _ _ _ _ z => z)
  exact s'.go R q
end

/-! ### calls -/
/-- the arguments as the callee's slots -/
def sls (ρ : En) : List Pv → Option En
  | [] => some []
  | .v d :: r => (sls ρ r).map (.val d :: ·)
  | .b i :: r => ((ρ[i]?).bind Sl.dat).bind fun d => (sls ρ r).map (.bor d :: ·)
def lents : List Pv → List Nat
  | [] => []
  | .v _ :: r => lents r
  | .b i :: r => i :: lents r
def lk : List Pv → En → Nat → Option D
  | .b i :: ps, .bor c :: cs, j => if i = j then some c else lk ps cs j
  | _ :: ps, _ :: cs, j => lk ps cs j
  | _, _, _ => none
/-- what was lent is written back -/
def wbk (ps : List Pv) (cs : En) : Nat → En → En
  | _, [] => []
  | j, s :: r => (match lk ps cs j with
    | some c => s.put c
    | none => s) :: wbk ps cs (j + 1) r
def callM (np : Nat) (m : Mf) (ps : List Pv) (ρ : En) : Out Rt := if (lents ps).Nodup ∧ ps.length = np then match sls ρ ps with
    | some ρ0 => match m ρ0 with
      | .ok r cs => .ok r (wbk ps cs 0 ρ)
      | .exc e cs => .exc e (wbk ps cs 0 ρ)
      | .bad => .bad
    | none => .bad
  else .bad
def cCall (np : Nat) (m : Mf) (f : En → Out (List Pv)) : En → Out Pv := fun ρ => (f ρ).bind fun ps ρ1 => (callM np m ps ρ1).bind fun r ρ2 => .ok (.v r.d) ρ2
def nCall (np : Nat) (m : Mf) (f : En → Out (List Pv)) : En → Out D := fun ρ => (f ρ).bind fun ps ρ1 => (callM np m ps ρ1).bind fun r ρ2 => match r with
  | .n d => .ok d ρ2
  | .v _ => .bad

theorem wbk_get (ps : List Pv) (cs : En) : ∀ (ρ : En) (j i : Nat), (wbk ps cs j ρ)[i]? = (ρ[i]?).map fun s => match lk ps cs (j + i) with
    | some c => s.put c
    | none => s
  | [], j, i => by simp [wbk]
  | s :: r, j, 0 => by simp [wbk]
  | s :: r, j, i + 1 => by
    simp only [wbk, List.getElem?_cons_succ]
    rw [wbk_get ps cs r (j + 1) i, show j + 1 + i = j + (i + 1) by omega]
theorem wbk_len (ps : List Pv) (cs : En) : ∀ (ρ : En) (j : Nat), (wbk ps cs j ρ).length = ρ.length
  | [], _ => rfl
  | _ :: r, j => by simp [wbk, wbk_len ps cs r (j + 1)]
theorem lk_some : ∀ {ps : List Pv} {cs : En} {j : Nat} {c : D}, lk ps cs j = some c → ∃ k : Nat, ps[k]? = some (.b j) ∧ cs[k]? = some (.bor c)
  | .b i :: ps, .bor c' :: cs, j, c, h => by
    unfold lk at h
    split at h
    · rename_i e; subst e; cases h; exact ⟨0, rfl, rfl⟩
    · obtain ⟨k, h1, h2⟩ := lk_some h; exact ⟨k + 1, h1, h2⟩
  | .b i :: ps, .un :: cs, j, c, h => by obtain ⟨k, h1, h2⟩ := lk_some (ps := ps) (cs := cs) h; exact ⟨k + 1, h1, h2⟩
  | .b i :: ps, .val _ :: cs, j, c, h => by obtain ⟨k, h1, h2⟩ := lk_some (ps := ps) (cs := cs) h; exact ⟨k + 1, h1, h2⟩
  | .b i :: ps, .own _ :: cs, j, c, h => by obtain ⟨k, h1, h2⟩ := lk_some (ps := ps) (cs := cs) h; exact ⟨k + 1, h1, h2⟩
  | .v _ :: ps, s :: cs, j, c, h => by obtain ⟨k, h1, h2⟩ := lk_some (ps := ps) (cs := cs) (by cases s <;> exact h); exact ⟨k + 1, h1, h2⟩
  | [], _, _, _, h => by cases h
  | .b _ :: _, [], _, _, h => by cases h
  | .v _ :: _, [], _, _, h => by cases h
theorem lk_none : ∀ {ps : List Pv} {cs : En} {j k : Nat}, lk ps cs j = none → (∀ k : Nat, ps[k]? = some (.b j) → ∃ c, cs[k]? = some (.bor c)) → ps[k]? ≠ some (.b j)
  | [], _, _, _, _, _ => by simp
  | .b i :: ps, [], j, k, h, hc => fun e => by
    obtain ⟨c, z⟩ := hc k e
    simp at z
  | .v i :: ps, [], j, k, h, hc => fun e => by
    obtain ⟨c, z⟩ := hc k e
    simp at z
  | .b i :: ps, s :: cs, j, 0, h, hc => fun e => by
    obtain ⟨c, z⟩ := hc 0 e
    simp at z e
    subst z e
    simp [lk] at h
  | .b i :: ps, s :: cs, j, k + 1, h, hc => by
    have h' : lk ps cs j = none := by
      cases s <;> unfold lk at h
      · exact h
      · exact h
      · exact h
      · split at h
        · cases h
        · exact h
    exact lk_none (ps := ps) (cs := cs) (k := k) h' fun k' e => by simpa using hc (k' + 1) (by simpa using e)
  | .v i :: ps, s :: cs, j, 0, h, hc => by simp
  | .v i :: ps, s :: cs, j, k + 1, h, hc => lk_none (ps := ps) (cs := cs) (by cases s <;> exact h) fun k' e => by simpa using hc (k' + 1) (by simpa using e)
theorem mem_lents : ∀ {ps : List Pv} {i : Nat}, i ∈ lents ps ↔ ∃ k : Nat, ps[k]? = some (.b i)
  | [], i => by simp [lents]
  | .v _ :: ps, i => by
    simp only [lents]
    rw [mem_lents]
    exact ⟨fun ⟨k, h⟩ => ⟨k + 1, h⟩, fun ⟨k, h⟩ => by cases k with | zero => simp at h | succ k => exact ⟨k, h⟩⟩
  | .b j :: ps, i => by
    simp only [lents, List.mem_cons]
    rw [mem_lents]
    exact ⟨fun h => h.elim (fun e => ⟨0, by simp [e]⟩) fun ⟨k, h⟩ => ⟨k + 1, h⟩, fun ⟨k, h⟩ => by
      cases k with
      | zero => simp at h; exact .inl h.symm
      | succ k => exact .inr ⟨k, h⟩⟩
theorem lents_inj : ∀ {ps : List Pv} {i k k' : Nat}, (lents ps).Nodup → ps[k]? = some (.b i) → ps[k']? = some (.b i) → k = k'
  | [], _, _, _, _, h, _ => by simp at h
  | .v _ :: ps, i, 0, _, _, h, _ => by simp at h
  | .v _ :: ps, i, _, 0, _, _, h => by simp at h
  | .v _ :: ps, i, k + 1, k' + 1, n, h, h' => congrArg (· + 1) (lents_inj (ps := ps) (i := i) (k := k) (k' := k') n (by simpa using h) (by simpa using h'))
  | .b j :: ps, i, 0, 0, _, _, _ => rfl
  | .b j :: ps, i, 0, k' + 1, n, h, h' => by
    simp at h h'
    subst h
    exact absurd (mem_lents.mpr ⟨k', h'⟩) (List.nodup_cons.mp n).1
  | .b j :: ps, i, k + 1, 0, n, h, h' => by
    simp at h h'
    subst h'
    exact absurd (mem_lents.mpr ⟨k, h⟩) (List.nodup_cons.mp n).1
  | .b j :: ps, i, k + 1, k' + 1, n, h, h' => congrArg (· + 1) (lents_inj (ps := ps) (i := i) (k := k) (k' := k') (List.nodup_cons.mp n).2 (by simpa using h) (by simpa using h'))
/-- the addresses that are lent -/
def ladr (as : List (Option Addr)) : List Pv → List (Option Addr)
  | [] => []
  | .v _ :: r => none :: ladr as r
  | .b i :: r => (as[i]?).join :: ladr as r
theorem ladr_get {as : List (Option Addr)} : ∀ {ps : List Pv} {k : Nat} {a : Addr}, (ladr as ps)[k]? = some (some a) → ∃ i, ps[k]? = some (.b i) ∧ as[i]? = some (some a)
  | [], _, _, h => by simp [ladr] at h
  | .v _ :: ps, 0, _, h => by simp [ladr] at h
  | .v _ :: ps, k + 1, a, h => ladr_get (ps := ps) (k := k) (by simpa [ladr] using h)
  | .b i :: ps, 0, a, h => by
    simp only [ladr, List.getElem?_cons_zero, Option.some.injEq] at h
    refine ⟨i, rfl, ?_⟩
    cases e : as[i]? with
    | none => rw [e] at h; cases h
    | some x => rw [e] at h; simp at h; rw [h]
  | .b i :: ps, k + 1, a, h => ladr_get (ps := ps) (k := k) (by simpa [ladr] using h)
theorem ladr_of {as : List (Option Addr)} : ∀ {ps : List Pv} {k i : Nat} {a : Addr}, ps[k]? = some (.b i) → as[i]? = some (some a) → (ladr as ps)[k]? = some (some a)
  | [], _, _, _, h, _ => by simp at h
  | .v _ :: ps, 0, _, _, h, _ => by simp at h
  | .v _ :: ps, k + 1, i, a, h, h' => by simpa [ladr] using ladr_of (ps := ps) (k := k) (by simpa using h) h'
  | .b j :: ps, 0, i, a, h, h' => by simp at h; subst h; simp [ladr, h']
  | .b j :: ps, k + 1, i, a, h, h' => by simpa [ladr] using ladr_of (ps := ps) (k := k) (by simpa using h) h'
theorem ladr_len {as : List (Option Addr)} : ∀ ps : List Pv, (ladr as ps).length = ps.length
  | [] => rfl
  | .v _ :: r => by simp [ladr, ladr_len r]
  | .b _ :: r => by simp [ladr, ladr_len r]

section
variable {X : Cx} {Z : WXZ} {B : Bs} {as : List (Option Addr)} {σ : L2.St} {H H' : Hp} {ρ ρ0 cs : En}
theorem sls_ok (R : Rel X.G B as σ H ρ) : ∀ {vs : List V} {ps : List Pv} {ρ0 : En}, PvsOk X.G (B.W as) as H vs ps → sls ρ ps = some ρ0 →
    ρ0.length = vs.length ∧ vs.length = ps.length ∧ ∀ (i : Nat) v s a, (vs.map some)[i]? = some v → ρ0[i]? = some s → (ladr as ps)[i]? = some a → SlOk X.G (B.W as) H v s a ∧ ∀ d, s ≠ .own d
  | _, _, _, .nil, e => by cases e; exact ⟨rfl, rfl, fun i v s a h => by simp at h⟩
  | _, _, _, .cons (v := v) (.v h) t, e => by
    simp only [sls, Option.map_eq_some_iff] at e
    obtain ⟨r, e1, rfl⟩ := e
    obtain ⟨l1, l2, q⟩ := sls_ok R t e1
    refine ⟨by simp [l1], by simp [l2], fun i v s a h1 h2 h3 => ?_⟩
    cases i with
    | zero =>
      simp [ladr] at h1 h2 h3
      subst h1 h2 h3
      exact ⟨.val h, fun d z => nomatch z⟩
    | succ i => exact q i v s a (by simpa using h1) (by simpa using h2) (by simpa [ladr] using h3)
  | _, _, _, .cons (.b (a := a0) (i := j) h) t, e => by
    simp only [sls, Option.bind_eq_some_iff, Option.map_eq_some_iff] at e
    obtain ⟨d, ⟨s0, e0, e0'⟩, r, e1, rfl⟩ := e
    obtain ⟨l1, l2, q⟩ := sls_ok R t e1
    refine ⟨by simp [l1], by simp [l2], fun i v s a h1 h2 h3 => ?_⟩
    cases i with
    | zero =>
      simp [ladr, h] at h1 h2 h3
      subst h1 h2 h3
      obtain ⟨d', _, h5, o⟩ := R.at_a h
      have : d' = d := by
        rw [e0] at h5
        rcases h5 with h5 | h5
        · cases h5; cases e0'; rfl
        · cases h5; cases e0'; rfl
      subst this
      exact ⟨.bor o, fun d z => nomatch z⟩
    | succ i => exact q i v s a (by simpa using h1) (by simpa using h2) (by simpa [ladr] using h3)
/-- the callee's state -/
theorem Rel.lend (R : Rel X.G B as σ H ρ) {vs : List V} {ps : List Pv} (k : PvsOk X.G (B.W as) as H vs ps) (nd : (lents ps).Nodup) (e : sls ρ ps = some ρ0) :
    Rel X.G ⟨fun b => B.W as b ∧ ¬ Ad (ladr as ps) b, ladr as ps, H⟩ (ladr as ps) (vs.map some) H ρ0 ∧ noOwn ρ0 ∧ ∀ b, Wu (fun b => B.W as b ∧ ¬ Ad (ladr as ps) b) (Ad (ladr as ps)) b ↔ B.W as b := by
  obtain ⟨l1, l2, q⟩ := sls_ok R k e
  have sub : ∀ b, Ad (ladr as ps) b → Ad as b := fun b hb => by
    obtain ⟨i, h⟩ := Ad.ix hb
    obtain ⟨j, _, h2⟩ := ladr_get h
    exact Ad.of h2
  have iff : ∀ b, Wu (fun b => B.W as b ∧ ¬ Ad (ladr as ps) b) (Ad (ladr as ps)) b ↔ B.W as b := fun b =>
    ⟨fun h => h.elim (fun h => h.1) fun h => .inr (sub b h), fun h => by
      by_cases z : Ad (ladr as ps) b
      · exact .inr z
      · exact .inl ⟨h, z⟩⟩
  have st : Stp (B.W as) H (Wu (fun b => B.W as b ∧ ¬ Ad (ladr as ps) b) (Ad (ladr as ps))) H := .less fun b z => .inl ((iff b).mp z)
  have no : noOwn ρ0 := fun i d h => by
    have hv : i < (vs.map some).length := by simp [← l1]; exact lt_of_get h
    have ha : i < (ladr as ps).length := by rw [ladr_len, ← l2, ← l1]; exact lt_of_get h
    exact (q i _ _ _ (List.getElem?_eq_getElem hv) h (List.getElem?_eq_getElem ha)).2 d rfl
  refine ⟨⟨by simp [l1], by rw [ladr_len, ← l2, l1], fun i v s a h1 h2 h3 => ?_, fun i d h => rfl, fun i d a h _ => absurd h (no i d), fun i j a h1 h2 => ?_, fun a h z => z.2 h, fun b z => R.domA b z.1, fun b h => h⟩, no, iff⟩
  · cases (q i v s a h1 h2 h3).1 with
    | un => exact .un _
    | val x => exact .val (x.stp st)
    | own x => exact .own (x.stp st rfl)
    | bor x => exact .bor (x.stp st rfl)
  · obtain ⟨i', g1, g2⟩ := ladr_get h1
    obtain ⟨j', g3, g4⟩ := ladr_get h2
    have := R.inj i' j' a g2 g4
    subst this
    exact lents_inj nd g1 g3
/-- behind the call; W: B's, or with the new one -/
theorem Rel.back {B' : Bs} (R : Rel X.G B as σ H ρ) {ps : List Pv} (hpn : B'.pn = B.pn) (hHe : B'.He = B.He) (g : Go (Ad (ladr as ps)) H (Ad (ladr as ps)) H') (st : Stp (B.W as) H (B'.W as) H')
    (hp : ∀ (k i : Nat), ps[k]? = some (.b i) → ∃ a, as[i]? = some (some a)) (c : CtOk X.G (B'.W as) (ladr as ps) H' cs) (nw : ∀ a, Ad as a → ¬ B'.W0 a) (dom : ∀ b, B'.W0 b → ∃ o, H' b = some o) : Rel X.G B' as σ H' (wbk ps cs 0 ρ) := by
  have lkb : ∀ (k j : Nat), ps[k]? = some (.b j) → ∃ c, cs[k]? = some (.bor c) := fun k j h => by
    obtain ⟨a, ha⟩ := hp k j h
    obtain ⟨c, h1, _⟩ := c k a (ladr_of h ha)
    exact ⟨c, h1⟩
  refine ⟨by rw [wbk_len]; exact R.l1, by rw [wbk_len]; exact R.l2, fun j v s a h1 h2 h3 => ?_, fun j d h => ?_, fun j d a h ha => ?_, R.inj, nw, dom, fun b h => by rw [hHe]; exact R.gr b (g.grow b h)⟩
  · rw [wbk_get, Nat.zero_add] at h2
    cases es : ρ[j]? with
    | none => rw [es] at h2; cases h2
    | some s0 =>
      rw [es] at h2
      simp only [Option.map_some, Option.some.injEq] at h2
      have x := R.sl j v s0 a h1 es h3
      cases el : lk ps cs j with
      | none =>
        rw [el] at h2
        subst h2
        have ne := fun k => lk_none (k := k) el (fun k h => lkb k j h)
        have same : ∀ b, a = some b → ∀ o, H b = some o → H' b = some o := fun b eb o ho => g.keep b o ho fun z => by
          obtain ⟨k, hk⟩ := Ad.ix z
          obtain ⟨j', h5, h6⟩ := ladr_get hk
          subst eb
          have := R.inj j' j b h6 h3
          subst this
          exact ne k h5
        cases x with
        | un => exact .un _
        | val x => exact .val (x.stp st)
        | own x =>
          obtain ⟨o, ho⟩ := x.there
          exact .own (x.stp st (by rw [ho]; exact same _ rfl o ho))
        | bor x =>
          obtain ⟨o, ho⟩ := x.there
          exact .bor (x.stp st (by rw [ho]; exact same _ rfl o ho))
      | some cc =>
        rw [el] at h2
        subst h2
        obtain ⟨k, h5, h6⟩ := lk_some el
        obtain ⟨b, hb⟩ := hp k j h5
        rw [h3] at hb
        cases hb
        obtain ⟨c2, h7, h8⟩ := c k b (ladr_of h5 h3)
        rw [h6] at h7; cases h7
        cases x with
        | own x => exact .own h8
        | bor x => exact .bor h8
  · rw [hpn]
    rw [wbk_get, Nat.zero_add] at h
    cases es : ρ[j]? with
    | none => rw [es] at h; cases h
    | some s0 =>
      rw [es] at h
      simp only [Option.map_some, Option.some.injEq] at h
      cases s0 with
      | bor d0 => exact R.pin j d0 es
      | _ => (split at h) <;> cases h
  · rw [hHe]
    rw [wbk_get, Nat.zero_add] at h
    cases es : ρ[j]? with
    | none => rw [es] at h; cases h
    | some s0 =>
      rw [es] at h
      simp only [Option.map_some, Option.some.injEq] at h
      cases s0 with
      | own d0 => exact R.fr j d0 a es ha
      | _ => (split at h) <;> cases h
theorem PvsOk.bs {vs : List V} {ps : List Pv} (k : PvsOk X.G (B.W as) as H vs ps) : ∀ (j i : Nat), ps[j]? = some (.b i) → ∃ a, as[i]? = some (some a) := by
  induction k with
  | nil => intro j i h; simp at h
  | cons h t ih =>
    intro j i e
    cases j with
    | zero =>
      simp at e
      subst e
      cases h with
      | b h => exact ⟨_, h⟩
    | succ j => exact ih j i (by simpa using e)
/-- a call's promise is met: as a value -/
theorem call_v {x : Bool} {m : Mf} {np : Nat} {vs : List V} {ps : List Pv} {Q : VK} {E : XK} (R : Rel X.G B as σ H ρ) (k : PvsOk X.G (B.W as) as H vs ps)
    (q : EO X Z B as σ H (fun p _ H' => ∀ v, PvOk X.G (B.W as) as H' v p → Q v H') ((callM np m ps ρ).bind fun r ρ2 => .ok (.v r.d) ρ2)) (hE : x = true → ∀ cls dx H', Z cls dx σ H' → E cls dx H') (hx : x = false → NoX m) :
    spM x X.G np m vs H Q E := by
  unfold callM at q
  split at q
  · rename_i ndl
    obtain ⟨nd, hl⟩ := ndl
    cases es : sls ρ ps with
    | none => rw [es] at q; exact q.elim
    | some ρ0 =>
      rw [es] at q
      obtain ⟨R0, no, iff⟩ := R.lend k nd es
      obtain ⟨l1, l2, _⟩ := sls_ok R k es
      refine ⟨l2.trans hl, _, _, ρ0, R0, no, ?_⟩
      dsimp only at q
      have gA : ∀ {H' : Hp}, Go (Ad (ladr as ps)) H (Ad (ladr as ps)) H' → Go (Ad as) H (Ad as) H' := fun {H'} g => ⟨fun b o h n => g.keep b o h fun z => by
        obtain ⟨i, h⟩ := Ad.ix z
        obtain ⟨j, _, h2⟩ := ladr_get h
        exact n (Ad.of h2), fun b z => .inl z, g.grow⟩
      have stA : ∀ {H' : Hp}, Go (Ad (ladr as ps)) H (Ad (ladr as ps)) H' → Stp (B.W as) H (B.W as) H' := fun {H'} g => (gA g).stp
      have domA : ∀ {H' : Hp}, Go (Ad (ladr as ps)) H (Ad (ladr as ps)) H' → ∀ b, (∃ o, H b = some o) → ∃ o, H' b = some o := fun {H'} g b ⟨o, h⟩ => by
        cases e : H' b with
        | none => rw [g.grow b e] at h; cases h
        | some o => exact ⟨o, rfl⟩
      cases em : m ρ0 with
      | bad => rw [em] at q; exact q.elim
      | exc e cs' =>
        rw [em] at q
        dsimp only
        cases x with
        | false => exact absurd em (hx rfl ρ0 e cs')
        | true =>
          refine ⟨rfl, fun cls dx H' g c rx => hE rfl _ _ _ (q cls dx H' ?_ (gA g) ?_)⟩
          · exact R.back rfl rfl g (stA g) k.bs (fun i a h => by
              obtain ⟨c1, h1, h2⟩ := c i a h
              exact ⟨c1, h1, h2.mono fun b z => (iff b).mpr z⟩) R.nw fun b z => domA g b (R.dom b z)
          · obtain ⟨r1, r2⟩ := rx
            exact ⟨r1, r2.imp id fun ⟨d, vfs, q1, q2, q3, q4⟩ => ⟨d, vfs, q1, q2, q3, q4.stp (.less fun b z => .inl ((iff b).mpr z))⟩⟩
      | ok r cs' =>
        rw [em] at q
        cases r with
        | v d =>
          intro v H' g c rv
          refine q H' (R.back rfl rfl g (stA g) k.bs (fun i a h => ?_) R.nw fun b z => domA g b (R.dom b z)) (gA g) v (.v (rv.mono fun b z => (iff b).mpr z))
          obtain ⟨c1, h1, h2⟩ := c i a h
          exact ⟨c1, h1, h2.mono fun b z => (iff b).mpr z⟩
        | n d =>
          intro a H' g na c o
          have nB : ¬ B.W as a := fun z => by
            obtain ⟨u, e⟩ := R.domA a z
            rw [na] at e; cases e
          have sub : ∀ b, B.W as b → Wu (fun b => (B.W as b ∧ ¬ Ad (ladr as ps) b) ∨ b = a) (Ad (ladr as ps)) b := fun b z => ((iff b).mpr z).imp .inl id
          refine q H' (R.back rfl rfl g (stA g) k.bs (fun i b h => ?_) R.nw fun b z => domA g b (R.dom b z)) (gA g) (.ref a) (.v (o.rep sub nB))
          obtain ⟨c1, h1, h2⟩ := c i b h
          exact ⟨c1, h1, h2.mono sub⟩
  · exact q.elim
/-- .. as a new object -/
theorem call_n {x : Bool} {m : Mf} {np : Nat} {vs : List V} {ps : List Pv} {Q : VK} {E : XK} {Hs : Hp} (R : Rel X.G B as σ H ρ) (gs : Go (Ad as) Hs (Ad as) H) (k : PvsOk X.G (B.W as) as H vs ps)
    (q : EO X Z B as σ H (fun d ρ' H' => ∀ a H2, Rel X.G (B.and a) as σ H2 ρ' → Go (Ad as) H' (Ad as) H2 → Hs a = none → Own X.G ((B.and a).W as) H2 a d → Q (.ref a) H2) ((callM np m ps ρ).bind fun r ρ2 => match r with
      | .n d => .ok d ρ2
      | .v _ => .bad)) (hE : x = true → ∀ cls dx H', Z cls dx σ H' → E cls dx H') (hx : x = false → NoX m) :
    spM x X.G np m vs H Q E := by
  unfold callM at q
  split at q
  · rename_i ndl
    obtain ⟨nd, hl⟩ := ndl
    cases es : sls ρ ps with
    | none => rw [es] at q; exact q.elim
    | some ρ0 =>
      rw [es] at q
      obtain ⟨R0, no, iff⟩ := R.lend k nd es
      obtain ⟨l1, l2, _⟩ := sls_ok R k es
      refine ⟨l2.trans hl, _, _, ρ0, R0, no, ?_⟩
      dsimp only at q
      have gA : ∀ {H' : Hp}, Go (Ad (ladr as ps)) H (Ad (ladr as ps)) H' → Go (Ad as) H (Ad as) H' := fun {H'} g => ⟨fun b o h n => g.keep b o h fun z => by
        obtain ⟨i, h⟩ := Ad.ix z
        obtain ⟨j, _, h2⟩ := ladr_get h
        exact n (Ad.of h2), fun b z => .inl z, g.grow⟩
      have stA : ∀ {H' : Hp}, Go (Ad (ladr as ps)) H (Ad (ladr as ps)) H' → Stp (B.W as) H (B.W as) H' := fun {H'} g => (gA g).stp
      have domA : ∀ {H' : Hp}, Go (Ad (ladr as ps)) H (Ad (ladr as ps)) H' → ∀ b, (∃ o, H b = some o) → ∃ o, H' b = some o := fun {H'} g b ⟨o, h⟩ => by
        cases e : H' b with
        | none => rw [g.grow b e] at h; cases h
        | some o => exact ⟨o, rfl⟩
      cases em : m ρ0 with
      | bad => rw [em] at q; exact q.elim
      | exc e cs' =>
        rw [em] at q
        dsimp only
        cases x with
        | false => exact absurd em (hx rfl ρ0 e cs')
        | true =>
          refine ⟨rfl, fun cls dx H' g c rx => hE rfl _ _ _ (q cls dx H' ?_ (gA g) ?_)⟩
          · exact R.back rfl rfl g (stA g) k.bs (fun i a h => by
              obtain ⟨c1, h1, h2⟩ := c i a h
              exact ⟨c1, h1, h2.mono fun b z => (iff b).mpr z⟩) R.nw fun b z => domA g b (R.dom b z)
          · obtain ⟨r1, r2⟩ := rx
            exact ⟨r1, r2.imp id fun ⟨d, vfs, q1, q2, q3, q4⟩ => ⟨d, vfs, q1, q2, q3, q4.stp (.less fun b z => .inl ((iff b).mpr z))⟩⟩
      | ok r cs' =>
        rw [em] at q
        cases r with
        | v d => exact q.elim
        | n d =>
          intro a H' g na c o
          have nB : ¬ B.W as a := fun z => by
            obtain ⟨u, e⟩ := R.domA a z
            rw [na] at e; cases e
          have sub : ∀ b, (B.and a).W as b → Wu (fun b => (B.W as b ∧ ¬ Ad (ladr as ps) b) ∨ b = a) (Ad (ladr as ps)) b := fun b z => by
            rcases z with (z | z) | z
            · exact ((iff b).mpr (.inl z)).imp .inl id
            · exact .inl (.inr z)
            · exact ((iff b).mpr (.inr z)).imp .inl id
          have st : Stp (B.W as) H ((B.and a).W as) H' := fun b u e n => ⟨(stA g b u e n).1, fun z => by
            rcases z with (z | z) | z
            · exact n (.inl z)
            · subst z; rw [na] at e; cases e
            · exact n (.inr z)⟩
          have R2 : Rel X.G (B.and a) as σ H' (wbk ps cs' 0 ρ) := R.back (B' := B.and a) rfl rfl g st k.bs (fun i b h => by
              obtain ⟨c1, h1, h2⟩ := c i b h
              exact ⟨c1, h1, h2.mono sub⟩) (fun b hb z => by
              rcases z with z | z
              · exact R.nw b hb z
              · subst z; exact nB (.inr hb)) fun b z => by
              rcases z with z | z
              · exact domA g b (R.dom b z)
              · subst z; exact o.there
          exact q H' R2.less (gA g) a H' R2 .refl (gs.grow a na) (o.mono sub)
  · exact q.elim

variable {k : Nat} {f C : Addr} {fd : FuncData} {ps : List Str} {x : Str} {p pos : Pos} {e : Expr} {es : List Expr} {m : Mf} {fa : En → Out (List Pv)} {np : Nat}
theorem tCall_v {b : Bool} {E : XK} {t : TA} (s : DAt X Z t fa) (hx : b = false → NoX m) (hE : b = true → ∀ cls dx σ H', Z cls dx σ H' → E cls dx H') : DEt X Z (tCall (spM b X.G np m) [] E t) (cCall np m fa) := by
  refine ⟨fun {B as σ H ρ Q} R q => s.go R (q.bind.imp fun ps ρ1 H1 R1 g1 q1 vs k1 => ?_)⟩
  rw [List.append_nil]
  exact call_v R1 k1 q1 (fun h cls dx H' => hE h cls dx σ H') hx
theorem tCall_n {b : Bool} {E : XK} {t : TA} (s : DAt X Z t fa) (hx : b = false → NoX m) (hE : b = true → ∀ cls dx σ H', Z cls dx σ H' → E cls dx H') : DNt X Z (tCall (spM b X.G np m) [] E t) (nCall np m fa) := by
  refine ⟨fun {B as σ H ρ Q} R q => s.go R (q.bind.imp fun ps ρ1 H1 R1 g1 q1 vs k1 => ?_)⟩
  rw [List.append_nil]
  exact call_n R1 g1 k1 q1 (fun h cls dx H' => hE h cls dx σ H') hx
theorem tCallS_v {t : TA} (s : DAt X Z t fa) : DEt X Z (tCallS (spM true X.G np m) (WE Z) t) (cCall np m fa) :=
  ⟨fun {B as σ H ρ Q} R q => s.go R (q.bind.imp fun ps ρ1 H1 R1 g1 q1 vs k1 => call_v R1 k1 q1 (fun _ _ _ _ z => z) (fun z => nomatch z))⟩
theorem tCallS_n {t : TA} (s : DAt X Z t fa) : DNt X Z (tCallS (spM true X.G np m) (WE Z) t) (nCall np m fa) :=
  ⟨fun {B as σ H ρ Q} R q => s.go R (q.bind.imp fun ps ρ1 H1 R1 g1 q1 vs k1 => call_n R1 g1 k1 q1 (fun _ _ _ _ z => z) (fun z => nomatch z))⟩
/-- f(..) of a def that lets nothing out -/
theorem d_call (F : FnOk X.prog X.w X.K X.mg X.base CX0 k f fd ps (spM false X.G np m)) (hx : NoX m) (hr : Room k X.A) (hm : X.mg x = some (.ref f)) (hk : PySem.W.keepIn X.K (.ref f) = true) (hb : Binds X.K fd ps []) (ha : DA X Z (e :: es) fa)
    (hg : Gl X x := by rfl) (hdb : (x == ("__debug__" : Str)) = false := by decide) (he : starEach (e :: es) X.env = (false, eval e X.env) :: starEach es X.env := by rfl) (hpl : (backTo pos (starEach es X.env)).any (·.1) = false := by rfl) :
    DE X Z (.Call (.Name x p) (e :: es) [] pos) (cCall np m fa) := let ⟨_, p, s⟩ := ha; ⟨_, pe_call F hr hg hm hk hb .nil pass0 p hdb he hpl, tCall_v s (fun _ => hx) (fun z => nomatch z)⟩
theorem n_call (F : FnOk X.prog X.w X.K X.mg X.base CX0 k f fd ps (spM false X.G np m)) (hx : NoX m) (hr : Room k X.A) (hm : X.mg x = some (.ref f)) (hk : PySem.W.keepIn X.K (.ref f) = true) (hb : Binds X.K fd ps []) (ha : DA X Z (e :: es) fa)
    (hg : Gl X x := by rfl) (hdb : (x == ("__debug__" : Str)) = false := by decide) (he : starEach (e :: es) X.env = (false, eval e X.env) :: starEach es X.env := by rfl) (hpl : (backTo pos (starEach es X.env)).any (·.1) = false := by rfl) :
    DN X Z (.Call (.Name x p) (e :: es) [] pos) (nCall np m fa) := let ⟨_, p, s⟩ := ha; ⟨_, pe_call F hr hg hm hk hb .nil pass0 p hdb he hpl, tCall_n s (fun _ => hx) (fun z => nomatch z)⟩
/-- .. of one that may raise -/
theorem d_callX (F : FnOk X.prog X.w X.K X.mg X.base (L2.CX X.prog X.w) k f fd ps (spM true X.G np m)) (tk : Takes X Z) (hr : Room k X.A) (hm : X.mg x = some (.ref f)) (hk : PySem.W.keepIn X.K (.ref f) = true) (hb : Binds X.K fd ps []) (ha : DA X Z (e :: es) fa)
    (hg : Gl X x := by rfl) (hdb : (x == ("__debug__" : Str)) = false := by decide) (he : starEach (e :: es) X.env = (false, eval e X.env) :: starEach es X.env := by rfl) (hpl : (backTo pos (starEach es X.env)).any (·.1) = false := by rfl) :
    DE X Z (.Call (.Name x p) (e :: es) [] pos) (cCall np m fa) := let ⟨_, p, s⟩ := ha; ⟨_, pe_callS F hr hg hm hk hb (fun σ => passAt tk σ) p hdb he hpl, tCallS_v s⟩
theorem n_callX (F : FnOk X.prog X.w X.K X.mg X.base (L2.CX X.prog X.w) k f fd ps (spM true X.G np m)) (tk : Takes X Z) (hr : Room k X.A) (hm : X.mg x = some (.ref f)) (hk : PySem.W.keepIn X.K (.ref f) = true) (hb : Binds X.K fd ps []) (ha : DA X Z (e :: es) fa)
    (hg : Gl X x := by rfl) (hdb : (x == ("__debug__" : Str)) = false := by decide) (he : starEach (e :: es) X.env = (false, eval e X.env) :: starEach es X.env := by rfl) (hpl : (backTo pos (starEach es X.env)).any (·.1) = false := by rfl) :
    DN X Z (.Call (.Name x p) (e :: es) [] pos) (nCall np m fa) := let ⟨_, p, s⟩ := ha; ⟨_, pe_callS F hr hg hm hk hb (fun σ => passAt tk σ) p hdb he hpl, tCallS_n s⟩
end
end L3
namespace L3
open PySem PySem.Spec PyProof.Rows L2

/-- room for k calls, and nothing that is shown is under way -/
structure RoomG (k : Nat) (A : Around) : Prop where
  room : Room k A
  gd : A.guards = some []
theorem RoomG.mono {j k : Nat} {A : Around} (r : RoomG k A) (h : j ≤ k) : RoomG j A := ⟨r.room.mono h, r.gd⟩
theorem RoomG.deeper {k : Nat} {A : Around} (r : RoomG (k + 1) A) (env : Env) : RoomG k (A.deeper env) := ⟨r.room.deeper env, r.gd⟩
theorem RoomG.make {k : Nat} {A : Around} (r : RoomG (k + 1) A) (C : Addr) (us : List Value) (kw : List (Str × Value)) : RoomG k (A.under (.builtin "type.__call__" ⟨.ref C :: us, kw⟩)) :=
  ⟨r.room.make C us kw, by
    have e : (Code.builtin "type.__call__" ⟨.ref C :: us, kw⟩).guards = [] := by
      first | rfl | simp [Code.guards, Code.isGuard, guardIds]
    have e2 : (A.under (.builtin "type.__call__" ⟨.ref C :: us, kw⟩)).guards = pushGuards (Code.builtin "type.__call__" ⟨.ref C :: us, kw⟩).guards A.guards := rfl
    rw [e2, e, r.gd]; rfl⟩

/-- a def keeps its promise wherever nothing that is shown is under way -/
structure FnG (P : Program) (w : World) (K : PySem.W.Frag) (mg : Str → Option Value) (base : Heap) (cx : CXT) (k : Nat) (f : Addr) (fd : FuncData) (ps : List Str) (sp : Sp) : Prop where
  len : ∀ vs H Q E, sp vs H Q E → vs.length = ps.length
  run : ∀ (A : Around) (outer : List Env) (s : Shared) (H : Hp) (args : Args) (us : List Value) (vs : List V) (Q : VK) (E : XK), RoomG k A → Env0 P w K mg base A outer s H →
    BindsTo s fd args (ps.zip us) → Vals vs us → sp vs H Q E → codeAny (model P w) A (.call (.ref f) args) (CR cx outer P w H s Q E) s
section
variable {P : Program} {w : World} {K : PySem.W.Frag} {mg : Str → Option Value} {base : Heap} {cx : CXT} {f : Addr} {fd : FuncData} {ps : List Str} {sp sp' : Sp}
theorem FnG.mono {j k : Nat} (F : FnG P w K mg base cx j f fd ps sp) (h : j ≤ k) : FnG P w K mg base cx k f fd ps sp :=
  ⟨F.len, fun A outer s H args us vs Q E r => F.run A outer s H args us vs Q E (r.mono h)⟩
theorem FnG.of {k : Nat} (F : FnOk P w K mg base cx k f fd ps sp) : FnG P w K mg base cx k f fd ps sp :=
  ⟨F.len, fun A outer s H args us vs Q E r => F.run A outer s H args us vs Q E r.room⟩
theorem FnG.imp {k : Nat} (F : FnG P w K mg base cx k f fd ps sp) (h : ∀ vs H Q E, sp' vs H Q E → sp vs H Q E) : FnG P w K mg base cx k f fd ps sp' :=
  ⟨fun vs H Q E q => F.len vs H Q E (h _ _ _ _ q), fun A outer s H args us vs Q E r e b v q => F.run A outer s H args us vs Q E r e b v (h _ _ _ _ q)⟩
end
section
variable {X : Cx} {Z : WXZ} {cx : CXT} {k : Nat} {f C : Addr} {fd : FuncData} {ps : List Str} {sp : Sp} {E : L2.St → XK} {pins : List (Addr × Obj)} {σ : L2.St} {H : Hp} {s : Shared} {Q : VK} {us : List Value} {vs : List V}
/-- the callee runs -/
theorem FnG.go (F : FnG X.prog X.w X.K X.mg X.base cx k f fd ps sp) (hr : RoomG k X.A) (hb : Binds X.K fd ps []) (hx : PassesAt cx X σ (E σ)) (I : Inv X pins σ H s) (r : Vals vs us) (h : sp vs H Q (E σ)) :
    wpAny (model X.prog X.w) X.A (call (.ref f) us) (EP X pins σ Q) X.xe s := by
  have bd := hb s us I.kIn (by rw [List.append_nil, ← r.length]; exact F.len _ _ _ _ h)
  rw [List.append_nil] at bd
  refine wpAny_call (codeAny_mono (F.run X.A X.stack s H ⟨us, []⟩ us vs Q (E σ) hr I.env0 bd r h) ?_)
  intro res s2 hq
  match res, hq with
  | .error e, hq => exact hx pins H s e s2 I hq
  | .ok (.ret u), hq => exact I.after hq
  | .ok .next, hq => exact False.elim hq
  | .ok .brk, hq => exact False.elim hq
  | .ok .cont, hq => exact False.elim hq
variable {x m : Str} {p pos apos : Pos} {e o : Expr} {es : List Expr} {ta : TE} {t : TA}
theorem pg_call (F : FnG X.prog X.w X.K X.mg X.base cx k f fd ps sp) (hr : RoomG k X.A) (hg : Gl X x) (hm : X.mg x = some (.ref f)) (hk : PySem.W.keepIn X.K (.ref f) = true) (hb : Binds X.K fd ps []) (hx : ∀ σ, PassesAt cx X σ (E σ)) (ha : PA X (e :: es) t)
    (hdb : (x == ("__debug__" : Str)) = false) (he : starEach (e :: es) X.env = (false, eval e X.env) :: starEach es X.env) (hpl : (backTo pos (starEach es X.env)).any (·.1) = false) : PE X (.Call (.Name x p) (e :: es) [] pos) (tCallS sp E t) where
  run pins s σ H Q I h := wpAny_Call_Name_kw (ld_glob I hg hm (PySem.W.callWith_K (h₀ := X.base) I.ok.mod.kin hk
    (thn (ha.run pos pins s σ H _ I h) fun us s1 ⟨vs, H1, I1, r, q⟩ => ⟨I1.kIn, F.go hr hb (hx σ) I1 r q⟩) he hpl) hdb)
theorem pg_call0 (F : FnG X.prog X.w X.K X.mg X.base cx k f fd ps sp) (hr : RoomG k X.A) (hg : Gl X x) (hm : X.mg x = some (.ref f)) (hk : PySem.W.keepIn X.K (.ref f) = true) (hb : Binds X.K fd ps []) (hx : ∀ σ, PassesAt cx X σ (E σ))
    (hdb : (x == ("__debug__" : Str)) = false) : PE X (.Call (.Name x p) [] [] pos) (tCallS sp E tNil) where
  run pins s σ H Q I h := wpAny_Call_Name_kw (ld_glob I hg hm (PySem.W.callWith_K0 I.kIn hk (F.go (us := []) hr hb (hx σ) I .nil h)) hdb)
/-- o.m(e, ..) -/
def tMethS (C : Addr) (m : Str) (sp : Sp) (E : L2.St → XK) (ta : TE) (t : TA) : TE := fun σ H Q => ta σ H fun x H1 => ∃ a dx fs, x = .ref a ∧ H1 a = some (.ins C dx fs) ∧ fs.lookup m = none ∧ t σ H1 fun vs H2 => sp (x :: vs) H2 Q (E σ)
theorem pg_meth {pl : Sem Bool} (he : PE X o ta) (c : Cls X.K C) (hm : Meth X.K C m f) (F : FnG X.prog X.w X.K X.mg X.base cx k f fd ps sp) (hr : RoomG k X.A) (hb : Binds X.K fd ps []) (hx : ∀ σ, PassesAt cx X σ (E σ)) (ha : PA X (e :: es) t)
    (hst : starEach (e :: es) X.env = (false, eval e X.env) :: starEach es X.env) (hpl : (backTo pos (starEach es X.env)).any (·.1) = false)
    (ht : eval (.Call (.Attribute o m apos) (e :: es) [] pos) X.env = (do
      let ov ← eval o X.env
      standAt apos.atName
      let (f, first) ← holding [ov] (getMethod ov m pl)
      callWith pos f first (backTo pos (starEach (e :: es) X.env)) (backToKw pos (keywordEach [] X.env)))) :
    PE X (.Call (.Attribute o m apos) (e :: es) [] pos) (tMethS C m sp E ta t) := by
  constructor
  intro pins s σ H Q I h
  refine PySem.W.methodCall_KW (pl := pl) (thn (he.run pins s σ H _ I h) ?_) ht
  rintro u s1 ⟨x, H1, I1, rx, a, dx, fs, ex, ea, l, q⟩
  subst ex
  obtain rfl : u = Value.ref a := rx
  refine getmeth_ok I1 ea c hm l (PySem.W.callWith_K (first := [.ref a]) (h₀ := X.base) I.ok.mod.kin hm.kp (thn (ha.run pos pins s1 σ H1 _ I1 q) ?_) hst hpl)
  exact fun us s2 ⟨vs, H2, I2, r, q2⟩ => ⟨I2.kIn, F.go (us := .ref a :: us) (vs := .ref a :: vs) hr hb (hx σ) I2 (.cons rfl r) q2⟩
theorem pg_meth0 {pl : Sem Bool} (he : PE X o ta) (c : Cls X.K C) (hm : Meth X.K C m f) (F : FnG X.prog X.w X.K X.mg X.base cx k f fd ps sp) (hr : RoomG k X.A) (hb : Binds X.K fd ps []) (hx : ∀ σ, PassesAt cx X σ (E σ))
    (ht : eval (.Call (.Attribute o m apos) [] [] pos) X.env = (do
      let ov ← eval o X.env
      standAt apos.atName
      let (f, first) ← holding [ov] (getMethod ov m pl)
      callWith pos f first (backTo pos (starEach [] X.env)) (backToKw pos (keywordEach [] X.env)))) :
    PE X (.Call (.Attribute o m apos) [] [] pos) (tMethS C m sp E ta tNil) := by
  constructor
  intro pins s σ H Q I h
  refine PySem.W.methodCall_KW (pl := pl) (thn (he.run pins s σ H _ I h) ?_) ht
  rintro u s1 ⟨x, H1, I1, rx, a, dx, fs, ex, ea, l, q⟩
  subst ex
  obtain rfl : u = Value.ref a := rx
  exact getmeth_ok I1 ea c hm l (PySem.W.callWith_K0 (first := [.ref a]) I1.kIn hm.kp (F.go (us := [.ref a]) (vs := [.ref a]) hr hb (hx σ) I1 (.cons rfl .nil) q))
end

section
variable {P : Program} {w : World} {K : PySem.W.Frag} {mg : Str → Option Value} {base : Heap} {cx : CXT}
/-- THE RULE of a def by its body -/
theorem fnG_of {k : Nat} {f : Addr} {x qual : Str} {st : Stmt} {fd : FuncData} {N ps : List Str} {sp : Sp} (F : Fun K x qual st f fd) (S : FnScope N ps (defScope st)) (len : ∀ vs H Q E, sp vs H Q E → vs.length = ps.length)
    (hbody : ∀ (cdv : Value) (A : Around) (outer : List Env) (s : Shared) (H : Hp) (vs : List V) (Q : VK) (E : XK), RoomG k (A.deeper (envOfC qual (defScope st) s.heap.objs.size f cdv)) → sp vs H Q E →
      ∃ t, PSs (cxOf cx P w K mg base N qual (defScope st) f cdv A outer s H E) (defBody st) t ∧ t { nx := fun _ H' => Q .non H', rt := Q } (L2.start N vs) H) : FnG P w K mg base cx (k + 1) f fd ps sp := by
  obtain ⟨oc, od, kV, doc, pm, an, cdv, ct, osl, rfl, lk, hcd⟩ := F.ex
  constructor
  · exact len
  intro A outer s H args us vs Q E hr e0 hb r hsp
  have KX : K.In s.heap := e0.mod.kin.keeps fun b o e => (e0.bs b o e).1
  have lim := e0.mod.nolimit.keeps (h' := s.heap) fun b o e => (e0.bs b o e).1
  have kinds : ∀ y ∈ ps.zip us, (defScope st).names.lookup y.1 = some .local ∨ ((defScope st).names.lookup y.1 = some .cell ∧ ((cellsFrom (s.heap.objs.size + 1) (defScope st).names []).lookup y.1).isSome = true) := by
    rintro ⟨n, v⟩ hy
    exact (S.par n (List.of_mem_zip hy).1).imp id fun q => ⟨q, PySem.W.cellsFrom_some _ _ _ (.inl q)⟩
  refine codeAny_call_function hr.room.depth (KX _ _ lk) rfl S.co S.gen rfl (PySem.W.codeRec_of KX hcd) (hb _ _ _ _ (wpAny_newFunctionEnv_cells S.kind kinds fun env he s1 hx => ?_))
  subst he
  refine ⟨lim.keeps hx.toInCall.keep, codeAny_func ?_⟩
  obtain ⟨t, ht, hq⟩ := hbody cdv A outer s H vs Q E (hr.deeper _) hsp
  have I := inv_start (CX := cx) (N := N) (E := E) S hr.room.hd e0 (len _ _ _ _ hsp) r hx
  refine wpAny_mono (ht.run [] s1 (L2.start N vs) H _ I hq) ?_ fun e s' hs => hs
  intro fl s' hs
  match fl, hs with
  | .ret u, ⟨v, σ', H', J, rv, q⟩ => exact ⟨v, H', J.os, J.bare, J.base, J.hok, rv, q⟩
  | .next, ⟨σ', H', J, q⟩ => exact ⟨V.non, H', J.os, J.bare, J.base, J.hok, rfl, q⟩
  | .brk, ⟨_, _, _, q⟩ => exact False.elim q
  | .cont, ⟨_, _, _, q⟩ => exact False.elim q
theorem fg_ok {x qual : Str} {st : Stmt} {f : Addr} {fd : FuncData} {N ps : List Str} {k : Nat} {g : En → Out Fl} (F : Fun K x qual st f fd) (S : FnScope N ps (defScope st)) (n np : Nat) (hn : n = N.length) (hnp : np = ps.length) (hp : np ≤ n)
    (hbody : ∀ (cdv : Value) (A : Around) (outer : List Env) (s : Shared) (H : Hp) (E : XK), RoomG k (A.deeper (envOfC qual (defScope st) s.heap.objs.size f cdv)) →
      DSs (cxOf CX0 P w K mg base N qual (defScope st) f cdv A outer s H E).nox (fun _ _ _ _ => False) (defBody st) g) : FnG P w K mg base CX0 (k + 1) f fd ps (spM false ⟨K, mg⟩ np (run false n g)) := by
  refine fnG_of F S (fun vs H Q E h => by rw [h.1, hnp]) fun cdv A outer s H vs Q E hr h => ?_
  obtain ⟨t, p, s'⟩ := hbody cdv A outer s H E hr
  obtain ⟨B, as, ρ, R, q⟩ := SO.body (X := (cxOf CX0 P w K mg base N qual (defScope st) f cdv A outer s H E).nox) (Z := fun _ _ _ _ => False) h hn hp (fun z => nomatch z)
  exact ⟨t, p.nox, s'.go R q⟩
theorem fg_okX {x qual : Str} {st : Stmt} {f : Addr} {fd : FuncData} {N ps : List Str} {k : Nat} {g : En → Out Fl} (F : Fun K x qual st f fd) (S : FnScope N ps (defScope st)) (n np : Nat) (hn : n = N.length) (hnp : np = ps.length) (hp : np ≤ n)
    (hbody : ∀ (cdv : Value) (A : Around) (outer : List Env) (s : Shared) (H : Hp) (E : XK), RoomG k (A.deeper (envOfC qual (defScope st) s.heap.objs.size f cdv)) →
      DSs (cxOf (L2.CX P w) P w K mg base N qual (defScope st) f cdv A outer s H E) (fun cls dx _ H => E cls dx H) (defBody st) g) : FnG P w K mg base (L2.CX P w) (k + 1) f fd ps (spM true ⟨K, mg⟩ np (run true n g)) := by
  refine fnG_of F S (fun vs H Q E h => by rw [h.1, hnp]) fun cdv A outer s H vs Q E hr h => ?_
  obtain ⟨t, p, s'⟩ := hbody cdv A outer s H E hr
  obtain ⟨B, as, ρ, R, q⟩ := SO.body (X := cxOf (L2.CX P w) P w K mg base N qual (defScope st) f cdv A outer s H E) (Z := fun cls dx _ H => E cls dx H) h hn hp (fun _ _ _ _ _ z => z)
  exact ⟨t, p, s'.go R q⟩
end

section
variable {X : Cx} {Z : WXZ} {k : Nat} {f C : Addr} {fd : FuncData} {ps : List Str} {x : Str} {p pos : Pos} {e : Expr} {es : List Expr} {m : Mf} {fa : En → Out (List Pv)} {np : Nat}
theorem pass0S {σ : L2.St} {E : XK} : PassesAt CX0 X σ E := fun _ _ _ _ _ _ h => h.elim
theorem tCall0_v {t : TA} (s : DAt X Z t fa) (hx : NoX m) : DEt X Z (tCallS (spM false X.G np m) (fun _ => E0) t) (cCall np m fa) :=
  ⟨fun {B as σ H ρ Q} R q => s.go R (q.bind.imp fun ps ρ1 H1 R1 g1 q1 vs k1 => call_v R1 k1 q1 (fun z => nomatch z) fun _ => hx)⟩
theorem tCall0_n {t : TA} (s : DAt X Z t fa) (hx : NoX m) : DNt X Z (tCallS (spM false X.G np m) (fun _ => E0) t) (nCall np m fa) :=
  ⟨fun {B as σ H ρ Q} R q => s.go R (q.bind.imp fun ps ρ1 H1 R1 g1 q1 vs k1 => call_n R1 g1 k1 q1 (fun z => nomatch z) fun _ => hx)⟩
/-- what a caller knows of a def: where it stands, what it is worth (nothing is let out) -/
structure Def0 (P : Program) (w : World) (K : PySem.W.Frag) (mg : Str → Option Value) (base : Heap) (k : Nat) (x : Str) (np : Nat) (m : Mf) : Prop where
  ex : ∃ f fd ps, FnG P w K mg base CX0 k f fd ps (spM false ⟨K, mg⟩ np m) ∧ mg x = some (.ref f) ∧ PySem.W.keepIn K (.ref f) = true ∧ Binds K fd ps []
  nox : NoX m
/-- .. of one that may raise -/
structure DefX (P : Program) (w : World) (K : PySem.W.Frag) (mg : Str → Option Value) (base : Heap) (k : Nat) (x : Str) (np : Nat) (m : Mf) : Prop where
  ex : ∃ f fd ps, FnG P w K mg base (L2.CX P w) k f fd ps (spM true ⟨K, mg⟩ np m) ∧ mg x = some (.ref f) ∧ PySem.W.keepIn K (.ref f) = true ∧ Binds K fd ps []
theorem e_call (F : Def0 X.prog X.w X.K X.mg X.base k x np m) (hr : RoomG k X.A) (ha : DA X Z (e :: es) fa)
    (hg : Gl X x := by rfl) (hdb : (x == ("__debug__" : Str)) = false := by decide) (he : starEach (e :: es) X.env = (false, eval e X.env) :: starEach es X.env := by rfl) (hpl : (backTo pos (starEach es X.env)).any (·.1) = false := by rfl) :
    DE X Z (.Call (.Name x p) (e :: es) [] pos) (cCall np m fa) := by
  obtain ⟨⟨f, fd, ps, G, hm, hk, hb⟩, hx⟩ := F
  obtain ⟨_, pa, s⟩ := ha
  exact ⟨_, pg_call G hr hg hm hk hb (fun _ => pass0S) pa hdb he hpl, tCall0_v s hx⟩
theorem e_callN (F : Def0 X.prog X.w X.K X.mg X.base k x np m) (hr : RoomG k X.A) (ha : DA X Z (e :: es) fa)
    (hg : Gl X x := by rfl) (hdb : (x == ("__debug__" : Str)) = false := by decide) (he : starEach (e :: es) X.env = (false, eval e X.env) :: starEach es X.env := by rfl) (hpl : (backTo pos (starEach es X.env)).any (·.1) = false := by rfl) :
    DN X Z (.Call (.Name x p) (e :: es) [] pos) (nCall np m fa) := by
  obtain ⟨⟨f, fd, ps, G, hm, hk, hb⟩, hx⟩ := F
  obtain ⟨_, pa, s⟩ := ha
  exact ⟨_, pg_call G hr hg hm hk hb (fun _ => pass0S) pa hdb he hpl, tCall0_n s hx⟩
theorem e_callX (F : DefX X.prog X.w X.K X.mg X.base k x np m) (tk : Takes X Z) (hr : RoomG k X.A) (ha : DA X Z (e :: es) fa)
    (hg : Gl X x := by rfl) (hdb : (x == ("__debug__" : Str)) = false := by decide) (he : starEach (e :: es) X.env = (false, eval e X.env) :: starEach es X.env := by rfl) (hpl : (backTo pos (starEach es X.env)).any (·.1) = false := by rfl) :
    DE X Z (.Call (.Name x p) (e :: es) [] pos) (cCall np m fa) := by
  obtain ⟨f, fd, ps, G, hm, hk, hb⟩ := F.ex
  obtain ⟨_, pa, s⟩ := ha
  exact ⟨_, pg_call G hr hg hm hk hb (fun σ => passAt tk σ) pa hdb he hpl, tCallS_v s⟩
theorem e_callXN (F : DefX X.prog X.w X.K X.mg X.base k x np m) (tk : Takes X Z) (hr : RoomG k X.A) (ha : DA X Z (e :: es) fa)
    (hg : Gl X x := by rfl) (hdb : (x == ("__debug__" : Str)) = false := by decide) (he : starEach (e :: es) X.env = (false, eval e X.env) :: starEach es X.env := by rfl) (hpl : (backTo pos (starEach es X.env)).any (·.1) = false := by rfl) :
    DN X Z (.Call (.Name x p) (e :: es) [] pos) (nCall np m fa) := by
  obtain ⟨f, fd, ps, G, hm, hk, hb⟩ := F.ex
  obtain ⟨_, pa, s⟩ := ha
  exact ⟨_, pg_call G hr hg hm hk hb (fun σ => passAt tk σ) pa hdb he hpl, tCallS_n s⟩
end
end L3
namespace L3
open PySem PySem.Spec PyProof.Rows L2

section
variable {X : Cx} {Z : WXZ} {G : Pm} {W : Addr → Prop} {H : Hp} {v : V} {d : D}
theorem RepP.int_ {i : Int} (r : RepP G W H v (.int i)) : v = .int i := by
  cases r with
  | rep r => exact r.int_
  | own o => obtain ⟨u, e, _, c⟩ := o; cases c
theorem RepP.bl_ {i : Bool} (r : RepP G W H v (.bl i)) : v = .bl i := by
  cases r with
  | rep r => cases r with
    | bl => rfl
    | ref _ _ c => cases c
  | own o => obtain ⟨u, e, _, c⟩ := o; cases c
theorem RepP.str_ {i : Str} (r : RepP G W H v (.str i)) : v = .str i := by
  cases r with
  | rep r => cases r with
    | str => rfl
    | ref _ _ c => cases c
  | own o => obtain ⟨u, e, _, c⟩ := o; cases c
theorem RepP.non_ (r : RepP G W H v .non) : v = .non := by
  cases r with
  | rep r => cases r with
    | non => rfl
    | ref _ _ c => cases c
  | own o => obtain ⟨u, e, _, c⟩ := o; cases c
theorem Same.new {p : Addr} {o : HO} (h : H p = none) : Same H (upd H p o) := fun b u e => by rw [upd_ne (ne_of_none e h)]; exact e
theorem fresh_of (dom : ∀ b, W b → ∃ o, H b = some o) {p : Addr} (h : H p = none) : ¬ W p := fun z => by
  obtain ⟨o, e⟩ := dom p z
  rw [h] at e; cases e
theorem Rep.newTup (dom : ∀ b, W b → ∃ o, H b = some o) {p : Addr} (h : H p = none) {vs : List V} {ds : List D} (r : Reps G W H vs ds) : ∀ (ob : Obj), ob.dict = none → Rep G W (upd H p (.frz ob (.tup vs))) (.ref p) (.tup ds) := fun ob hd =>
  .ref (.inr ⟨ob, upd_same⟩) (fresh_of dom h) (.tup (r.stp (.same (Same.new h)))) ⟨ob, vs, upd_same, hd⟩
theorem Rep.newWtp (dom : ∀ b, W b → ∃ o, H b = some o) {p : Addr} (h : H p = none) {vs : List V} {ds : List D} (r : Reps G W H vs ds) : Rep G W (upd H p (.tup vs)) (.ref p) (.obj "" [] ds) :=
  .ref (.inl upd_same) (fresh_of dom h) (.wtp (r.stp (.same (Same.new h)))) trivial
theorem Rep.newLst (dom : ∀ b, W b → ∃ o, H b = some o) {p : Addr} (h : H p = none) {vs : List V} {ds : List D} (r : Reps G W H vs ds) : Rep G W (upd H p (.lst vs)) (.ref p) (.lst ds) :=
  .ref (.inl upd_same) (fresh_of dom h) (.lst (r.stp (.same (Same.new h)))) trivial

/-! ### whole numbers -/
def gI (f : Int → Int → Int) : D → D → Option D
  | .int a, .int b => some (.int (f a b))
  | _, _ => none
def gIc (c : Int → Int → Bool) (f : Int → Int → Int) : D → D → Option D
  | .int a, .int b => if c a b = true then some (.int (f a b)) else none
  | _, _ => none
def gC (f : Int → Int → Bool) : D → D → Option D
  | .int a, .int b => some (.bl (f a b))
  | _, _ => none
theorem o_I {f : Int → Int → Int} : Op2 X (rI0 fun i j => .int (f i j)) (gI f) := by
  intro W H x y a b d Q dom ha hb e q
  unfold gI at e
  split at e
  · cases e
    exact ⟨_, _, ha.int_, hb.int_, q _ H (Same.refl _) (.int _)⟩
  · cases e
theorem o_Ic {C : Int → Int → Prop} {c : Int → Int → Bool} {f : Int → Int → Int} (hc : ∀ i j, c i j = true → C i j) : Op2 X (rI C fun i j => .int (f i j)) (gIc c f) := by
  intro W H x y a b d Q dom ha hb e q
  unfold gIc at e
  split at e
  · split at e
    · rename_i h
      cases e
      exact ⟨_, _, ha.int_, hb.int_, hc _ _ h, q _ H (Same.refl _) (.int _)⟩
    · cases e
  · cases e
theorem o_C {f : Int → Int → Bool} : Op2 X (rI0 fun i j => .bl (f i j)) (gC f) := by
  intro W H x y a b d Q dom ha hb e q
  unfold gC at e
  split at e
  · cases e
    exact ⟨_, _, ha.int_, hb.int_, q _ H (Same.refl _) (.bl _)⟩
  · cases e
def gMns : D → D → Option D := gI (· - ·)
def b64 (i : Int) : Bool := decide (i.natAbs < 2 ^ 64)
theorem b64_b {i : Int} (h : b64 i = true) : -(2 ^ 64) < i ∧ i < 2 ^ 64 := by
  have := of_decide_eq_true h
  omega
def gMul : D → D → Option D := gIc (fun i j => b64 i || b64 j) (· * ·)
def gDiv : D → D → Option D := gIc (fun _ j => decide (0 < j ∧ j.natAbs < 1073741824)) (· / ·)
def gMod : D → D → Option D := gIc (fun _ j => decide (0 < j)) (· % ·)
def gPow : D → D → Option D := gIc (fun i j => decide (0 ≤ j ∧ j ≤ 1000000 ∧ i.natAbs < 2 ^ 64)) fun i j => i ^ j.toNat
variable {a b : Expr} {pos : Pos} {fa fb : En → Out Pv}
theorem e_sub (ha : DE X Z a fa) (hb : DE X Z b fb) : DE X Z (.BinOp a .Sub b pos) (c2 gMns fa fb) := d_op op_sub o_I ha hb
theorem e_mul (ha : DE X Z a fa) (hb : DE X Z b fb) : DE X Z (.BinOp a .Mult b pos) (c2 gMul fa fb) := d_op op_mul (o_Ic fun i j h => by
  rw [Bool.or_eq_true] at h
  exact h.imp b64_b b64_b) ha hb
theorem e_div (ha : DE X Z a fa) (hb : DE X Z b fb) : DE X Z (.BinOp a .FloorDiv b pos) (c2 gDiv fa fb) := d_op op_fdiv (o_Ic fun i j h => by have h := of_decide_eq_true h; exact ⟨h.1, by omega⟩) ha hb
theorem e_mod (ha : DE X Z a fa) (hb : DE X Z b fb) : DE X Z (.BinOp a .Mod b pos) (c2 gMod fa fb) := d_op op_mod (o_Ic fun i j h => of_decide_eq_true h) ha hb
theorem e_pow (ha : DE X Z a fa) (hb : DE X Z b fb) : DE X Z (.BinOp a .Pow b pos) (c2 gPow fa fb) := d_op op_pow (o_Ic fun i j h => of_decide_eq_true h) ha hb
def gNeg : D → Option D
  | .int a => some (.int (-a))
  | _ => none
theorem e_neg (ha : DE X Z a fa) : DE X Z (.UnaryOp .USub a pos) (c1 gNeg fa) := d_un un_neg (fun {W H x a d Q} dom ha e q => by
  unfold gNeg at e
  split at e
  · cases e
    exact ⟨_, ha.int_, q _ H (Same.refl _) (.int _)⟩
  · cases e) ha
/-! comparisons: ints, texts -/
def gLt : D → D → Option D
  | .int a, .int b => some (.bl (decide (a < b)))
  | .str a, .str b => some (.bl (decide (a.cps.toList < b.cps.toList)))
  | _, _ => none
def gLe : D → D → Option D := gC fun i j => decide (i ≤ j)
def gGt : D → D → Option D := gC fun i j => decide (j < i)
def gGe : D → D → Option D := gC fun i j => decide (j ≤ i)
theorem o_Lt : ∃ r, OpR X (compareOp .Lt) r ∧ Op2 X r gLt := ⟨_, op_lt.or op_lt_str, fun {W H x y a b d Q} dom ha hb e q => by
  unfold gLt at e
  split at e
  · cases e; exact .inl ⟨_, _, ha.int_, hb.int_, q _ H (Same.refl _) (.bl _)⟩
  · cases e; exact .inr ⟨_, _, ha.str_, hb.str_, q _ H (Same.refl _) (.bl _)⟩
  · cases e⟩
theorem e_lt (ha : DE X Z a fa) (hb : DE X Z b fb) : DE X Z (.Compare a [.Lt] [b] pos) (c2 gLt fa fb) := let ⟨_, o, h⟩ := o_Lt (X := X); d_cmp o h ha hb (nomark _)
theorem t_lt (ha : DE X Z a fa) (hb : DE X Z b fb) : DT X Z (.Compare a [.Lt] [b] pos) (cB (c2 gLt fa fb)) := let ⟨_, o, h⟩ := o_Lt (X := X); t_cmp o h ha hb (nomark _)
theorem e_le (ha : DE X Z a fa) (hb : DE X Z b fb) : DE X Z (.Compare a [.LtE] [b] pos) (c2 gLe fa fb) := d_cmp op_le o_C ha hb (nomark _)
theorem t_le (ha : DE X Z a fa) (hb : DE X Z b fb) : DT X Z (.Compare a [.LtE] [b] pos) (cB (c2 gLe fa fb)) := t_cmp op_le o_C ha hb (nomark _)
theorem e_gt (ha : DE X Z a fa) (hb : DE X Z b fb) : DE X Z (.Compare a [.Gt] [b] pos) (c2 gGt fa fb) := d_cmp op_gt o_C ha hb (nomark _)
theorem t_gt (ha : DE X Z a fa) (hb : DE X Z b fb) : DT X Z (.Compare a [.Gt] [b] pos) (cB (c2 gGt fa fb)) := t_cmp op_gt o_C ha hb (nomark _)
theorem e_ge (ha : DE X Z a fa) (hb : DE X Z b fb) : DE X Z (.Compare a [.GtE] [b] pos) (c2 gGe fa fb) := d_cmp op_ge o_C ha hb (nomark _)
theorem t_ge (ha : DE X Z a fa) (hb : DE X Z b fb) : DT X Z (.Compare a [.GtE] [b] pos) (cB (c2 gGe fa fb)) := t_cmp op_ge o_C ha hb (nomark _)

/-! ### + : ints, texts, tuples, lists -/
theorem op_catL : OpR X (binaryOp .Add) (fun x y H Q => ∃ l b xs zs, x = .ref l ∧ y = .ref b ∧ Rd H l (.lst xs) ∧ Rd H b (.lst zs) ∧ xs.length + zs.length ≤ sizeLine ∧ ∀ p, H p = none → Q (.ref p) (upd H p (.lst (xs ++ zs)))) := by
  rintro pins s σ H x y v u Q I rx ry ⟨l, b, xs, zs, rfl, rfl, hH, hB, hz, q⟩
  cases rx
  cases ry
  obtain ⟨_, its, n, r, e⟩ := hH.ok I.hok
  obtain ⟨_, its2, n2, r2, e2⟩ := hB.ok I.hok
  have l1 := r.length
  have l2 := r2.length
  refine PySem.P.add_list e e2 ?_ (by rw [List.size_toArray, List.size_toArray, ← l1, ← l2]; exact hz)
  have ea : its.toArray ++ its2.toArray = (its ++ its2).toArray := by simp
  rw [ea]
  exact ⟨.ref _, _, I.lnew (t' := s.toks) (r.append r2) (by rw [List.length_append]; exact hz), rfl, q _ I.fresh⟩
def gAdd : D → D → Option D
  | .int a, .int b => some (.int (a + b))
  | .str a, .str b => if a.length + b.length ≤ sizeLine then some (.str (a ++ b)) else none
  | .tup a, .tup b => if a.length + b.length ≤ sizeLine then some (.tup (a ++ b)) else none
  | .lst a, .lst b => if a.length + b.length ≤ sizeLine then some (.lst (a ++ b)) else none
  | _, _ => none
theorem o_Add : ∃ r, OpR X (binaryOp .Add) r ∧ Op2 X r gAdd := ⟨_, op_add.or (op_add_str.or (op_catS.or op_catL)), fun {W H x y a b d Q} dom ha hb e q => by
  unfold gAdd at e
  split at e
  · cases e; exact .inl ⟨_, _, ha.int_, hb.int_, q _ H (Same.refl _) (.int _)⟩
  · split at e
    · rename_i hz
      cases e; exact .inr (.inl ⟨_, _, ha.str_, hb.str_, hz, q _ H (Same.refl _) (.str _)⟩)
    · cases e
  · split at e
    · rename_i xs ys hz
      cases e
      obtain ⟨a, vs, rfl, s1, r1⟩ := ha.tup
      obtain ⟨b, ws, rfl, s2, r2⟩ := hb.tup
      refine .inr (.inr (.inl ⟨a, b, vs, ws, rfl, rfl, s1, s2, by rw [r1.length, r2.length]; exact hz, fun z => ?_, fun _ z => ?_, fun _ _ p ob hp hd => ?_⟩))
      · subst z
        cases r1
        exact q _ H (Same.refl _) hb.tupR
      · subst z
        cases r2
        rw [List.append_nil] at q
        exact q _ H (Same.refl _) ha.tupR
      · exact q _ _ (Same.new hp) (Rep.newTup dom hp (r1.append r2) ob hd)
    · cases e
  · split at e
    · rename_i hz
      cases e
      obtain ⟨a, vs, rfl, s1, r1⟩ := ha.lst
      obtain ⟨b, ws, rfl, s2, r2⟩ := hb.lst
      exact .inr (.inr (.inr ⟨a, b, vs, ws, rfl, rfl, s1, s2, by rw [r1.length, r2.length]; exact hz, fun p hp => q _ _ (Same.new hp) (Rep.newLst dom hp (r1.append r2))⟩))
    · cases e
  · cases e⟩
theorem e_add (ha : DE X Z a fa) (hb : DE X Z b fb) : DE X Z (.BinOp a .Add b pos) (c2 gAdd fa fb) := let ⟨_, o, h⟩ := o_Add (X := X); d_op o h ha hb
theorem iop_catL : OpR X (inplaceOp .Add) (rI0 fun i j => .int (i + j)) := iop_add
/-- .. a new list -/
def nCat (fa fb : En → Out Pv) : En → Out D := fun ρ => (fa ρ).bind fun p ρ1 => (fb ρ1).bind fun q ρ2 => match pvD ρ2 p, pvD ρ2 q with
  | some (.lst a), some (.lst b) => if a.length + b.length ≤ sizeLine then .ok (.lst (a ++ b)) ρ2 else .bad
  | _, _ => .bad
theorem n_cat (ha : DE X Z a fa) (hb : DE X Z b fb) : DN X Z (.BinOp a .Add b pos) (nCat fa fb) := by
  obtain ⟨_, pa, sa⟩ := ha
  obtain ⟨_, pb, sb⟩ := hb
  refine ⟨_, pe_op op_catL pa pb, ⟨fun {B as σ H ρ Q} R q => sa.go R (q.bind.imp fun p ρ1 H1 R1 g1 q1 v k1 => sb.go R1 (q1.bind.imp fun p' ρ2 H2 R2 g2 q2 u k2 => ?_))⟩⟩
  have k1 := k1.go g2
  split at q2
  · rename_i xs ys e1 e2
    split at q2
    · rename_i hz
      obtain ⟨a, vs, rfl, s1, r1⟩ := (k1.peek R2 e1).lst
      obtain ⟨b, ws, rfl, s2, r2⟩ := (k2.peek R2 e2).lst
      exact ⟨a, b, vs, ws, rfl, rfl, s1, s2, by rw [r1.length, r2.length]; exact hz, fun p hp => DNt.lay R2 hp (g1.grow p (g2.grow p hp)) True.intro (.lst (r1.append r2)) q2⟩
    · exact q2.elim
  · exact q2.elim

/-! ### lengths, items, slices -/
end
theorem Same.grow {H H' : Hp} (s : Same H H') : ∀ b, H' b = none → H b = none := fun b h => s.free h
section
variable {X : Cx} {Z : WXZ} {G : Pm} {W : Addr → Prop} {H : Hp} {v : V} {d : D} {a b : Expr} {pos p1 : Pos} {fa fb : En → Out Pv}
inductive RepPs (G : Pm) (W : Addr → Prop) (H : Hp) : List V → List D → Prop where
  | nil : RepPs G W H [] []
  | cons {v : V} {d : D} {vs : List V} {ds : List D} (h : RepP G W H v d) (t : RepPs G W H vs ds) : RepPs G W H (v :: vs) (d :: ds)
def pvDs (ρ : En) : List Pv → Option (List D)
  | [] => some []
  | p :: r => (pvD ρ p).bind fun d => (pvDs ρ r).map (d :: ·)
theorem PvsOk.peeks {B : Bs} {as : List (Option Addr)} {σ : L2.St} {ρ : En} (R : Rel X.G B as σ H ρ) : ∀ {vs : List V} {ps : List Pv} {ds : List D}, PvsOk X.G (B.W as) as H vs ps → pvDs ρ ps = some ds → RepPs X.G (B.W as) H vs ds
  | _, _, _, .nil, e => by cases e; exact .nil
  | _, _, _, .cons h t, e => by
    simp only [pvDs, Option.bind_eq_some_iff, Option.map_eq_some_iff] at e
    obtain ⟨d, e1, r, e2, rfl⟩ := e
    exact .cons (h.peek R e1) (PvsOk.peeks R t e2)
/-- a built-in's call, by data -/
def OpN (X : Cx) (r : List V → Hp → VK → Prop) (g : List D → Option D) : Prop := ∀ {W : Addr → Prop} {H : Hp} {xs : List V} {ds : List D} {d : D} {Q : VK}, (∀ b, W b → ∃ o, H b = some o) → RepPs X.G W H xs ds → g ds = some d → (∀ v H', Same H H' → Rep X.G W H' v d → Q v H') → r xs H Q
/-- .. that lays a new object -/
def OpL (X : Cx) (r : List V → Hp → VK → Prop) (g : List D → Option D) : Prop := ∀ {W : Addr → Prop} {H : Hp} {xs : List V} {ds : List D} {d : D} {Q : VK}, RepPs X.G W H xs ds → g ds = some d →
  (∀ p o, H p = none → Mut (some o) → Cont X.G W H o d → Q (.ref p) (upd H p o)) → r xs H Q
def cN (g : List D → Option D) (f : En → Out (List Pv)) : En → Out Pv := fun ρ => (f ρ).bind fun ps ρ1 => ofO ((pvDs ρ1 ps).bind g) ρ1
def nN (g : List D → Option D) (f : En → Out (List Pv)) : En → Out D := fun ρ => (f ρ).bind fun ps ρ1 => match (pvDs ρ1 ps).bind g with
  | some d => .ok d ρ1
  | none => .bad
theorem det_N {r : List V → Hp → VK → Prop} {g : List D → Option D} {t : TA} {f : En → Out (List Pv)} (hr : OpN X r g) (ha : DAt X Z t f) : DEt X Z (tCB r t) (cN g f) := by
  refine ⟨fun {B as σ H ρ Q} R q => ha.go R (q.bind.imp fun ps ρ1 H1 R1 g1 q1 vs k1 => ?_)⟩
  obtain ⟨d, e, q⟩ := q1.ofO R1
  cases ep : pvDs ρ1 ps with
  | none => rw [ep] at e; cases e
  | some ds =>
    rw [ep] at e
    exact hr R1.domA (k1.peeks R1 ep) e q
theorem dnt_N {r : List V → Hp → VK → Prop} {g : List D → Option D} {t : TA} {f : En → Out (List Pv)} (hr : OpL X r g) (ha : DAt X Z t f) : DNt X Z (tCB r t) (nN g f) := by
  refine ⟨fun {B as σ H ρ Q} R q => ha.go R (q.bind.imp fun ps ρ1 H1 R1 g1 q1 vs k1 => ?_)⟩
  cases ep : (pvDs ρ1 ps).bind g with
  | none => rw [ep] at q1; exact q1.elim
  | some d =>
    rw [ep] at q1
    simp only [Option.bind_eq_some_iff] at ep
    obtain ⟨ds, e1, e2⟩ := ep
    exact hr (k1.peeks R1 e1) e2 fun p o hp mu c => DNt.lay R1 hp (g1.grow p hp) mu c q1
variable {x : Str} {e : Expr} {es : List Expr} {f : En → Out (List Pv)} {g : List D → Option D} {r : List V → Hp → VK → Prop} {id T : String}
theorem e_blt (hc : CallR X (.builtin id) r) (hr : OpN X r g) (hm : X.mg x = none) (hv : bootBuiltins x = some (.builtin id)) (ha : DA X Z (e :: es) f) (hg : Gl X x := by rfl) (hn : x ≠ "__name__" := by decide) (hdb : (x == ("__debug__" : Str)) = false := by decide)
    (he : starEach (e :: es) X.env = (false, eval e X.env) :: starEach es X.env := by rfl) (hpl : (backTo pos (starEach es X.env)).any (·.1) = false := by rfl) : DE X Z (.Call (.Name x p1) (e :: es) [] pos) (cN g f) :=
  let ⟨_, p, s⟩ := ha; ⟨_, pe_callB hc hg hm hv p hn hdb he hpl, det_N hr s⟩
theorem e_ty (hc : CallR X (.type T) r) (hr : OpN X r g) (hm : X.mg x = none) (hv : bootBuiltins x = some (.type T)) (ha : DA X Z (e :: es) f) (hg : Gl X x := by rfl) (hn : x ≠ "__name__" := by decide) (hdb : (x == ("__debug__" : Str)) = false := by decide)
    (he : starEach (e :: es) X.env = (false, eval e X.env) :: starEach es X.env := by rfl) (hpl : (backTo pos (starEach es X.env)).any (·.1) = false := by rfl) : DE X Z (.Call (.Name x p1) (e :: es) [] pos) (cN g f) :=
  let ⟨_, p, s⟩ := ha; ⟨_, pe_callTy hc hg hm hv p hn hdb he hpl, det_N hr s⟩
theorem n_blt (hc : CallR X (.builtin id) r) (hr : OpL X r g) (hm : X.mg x = none) (hv : bootBuiltins x = some (.builtin id)) (ha : DA X Z (e :: es) f) (hg : Gl X x := by rfl) (hn : x ≠ "__name__" := by decide) (hdb : (x == ("__debug__" : Str)) = false := by decide)
    (he : starEach (e :: es) X.env = (false, eval e X.env) :: starEach es X.env := by rfl) (hpl : (backTo pos (starEach es X.env)).any (·.1) = false := by rfl) : DN X Z (.Call (.Name x p1) (e :: es) [] pos) (nN g f) :=
  let ⟨_, p, s⟩ := ha; ⟨_, pe_callB hc hg hm hv p hn hdb he hpl, dnt_N hr s⟩
theorem n_ty (hc : CallR X (.type T) r) (hr : OpL X r g) (hm : X.mg x = none) (hv : bootBuiltins x = some (.type T)) (ha : DA X Z (e :: es) f) (hg : Gl X x := by rfl) (hn : x ≠ "__name__" := by decide) (hdb : (x == ("__debug__" : Str)) = false := by decide)
    (he : starEach (e :: es) X.env = (false, eval e X.env) :: starEach es X.env := by rfl) (hpl : (backTo pos (starEach es X.env)).any (·.1) = false := by rfl) : DN X Z (.Call (.Name x p1) (e :: es) [] pos) (nN g f) :=
  let ⟨_, p, s⟩ := ha; ⟨_, pe_callTy hc hg hm hv p hn hdb he hpl, dnt_N hr s⟩
theorem RepPs.one {d : D} {vs : List V} (h : RepPs G W H vs [d]) : ∃ v, vs = [v] ∧ RepP G W H v d := by
  cases h with
  | cons h t => cases t; exact ⟨_, rfl, h⟩
theorem RepPs.two {d d2 : D} {vs : List V} (h : RepPs G W H vs [d, d2]) : ∃ v v2, vs = [v, v2] ∧ RepP G W H v d ∧ RepP G W H v2 d2 := by
  cases h with
  | cons h t => obtain ⟨v2, rfl, h2⟩ := t.one; exact ⟨_, _, rfl, h, h2⟩
/-! len -/
def gLen : List D → Option D
  | [.tup ds] => some (.int ds.length)
  | [.lst ds] => some (.int ds.length)
  | [.str x] => if x.length ≤ sizeLine then some (.int x.length) else none
  | _ => none
theorem o_len : ∃ r, CallR X (.builtin "len") r ∧ OpN X r gLen := ⟨_, call_len_seq.or call_len_str, fun {W H xs ds d Q} dom h e q => by
  unfold gLen at e
  split at e
  · cases e
    obtain ⟨v, rfl, hv⟩ := h.one
    obtain ⟨a, vs, rfl, s1, r1⟩ := hv.tup
    exact .inl ⟨a, vs, rfl, .inr s1, by rw [r1.length]; exact q _ H (Same.refl _) (.int _)⟩
  · cases e
    obtain ⟨v, rfl, hv⟩ := h.one
    obtain ⟨a, vs, rfl, s1, r1⟩ := hv.lst
    exact .inl ⟨a, vs, rfl, .inl (.inl s1), by rw [r1.length]; exact q _ H (Same.refl _) (.int _)⟩
  · split at e
    · rename_i hz
      cases e
      obtain ⟨v, rfl, hv⟩ := h.one
      exact .inr ⟨_, by rw [hv.str_], hz, q _ H (Same.refl _) (.int _)⟩
    · cases e
  · cases e⟩
theorem e_len (hm : X.mg "len" = none) (ha : DA X Z [a] f) (hg : Gl X "len" := by rfl) (he : starEach [a] X.env = (false, eval a X.env) :: starEach [] X.env := by rfl) (hpl : (backTo pos (starEach [] X.env)).any (·.1) = false := by rfl) : DE X Z (.Call (.Name "len" p1) [a] [] pos) (cN gLen f) :=
  let ⟨_, o, h⟩ := o_len (X := X); e_blt o h hm (by decide +kernel) ha hg (by decide) (by decide) he hpl
/-! items -/
def gIx : D → D → Option D
  | .tup ds, .int i => atI ds i
  | .lst ds, .int i => atI ds i
  | .str z, .int i => if z.length ≤ sizeLine then (atI z.cps.toList i).map fun c => .str ⟨#[c]⟩ else none
  | _, _ => none
theorem Reps.atI {vs : List V} {ds : List D} {i : Int} {d : D} (r : Reps G W H vs ds) (e : atI ds i = some d) : ∃ v, L2.atI vs i = some v ∧ Rep G W H v d := by
  unfold L2.atI at e ⊢
  rw [r.length]
  simp only [Option.bind_eq_some_iff] at e
  obtain ⟨j, e1, e2⟩ := e
  obtain ⟨v, h1, h2⟩ := r.get e2
  exact ⟨v, by rw [e1]; exact h1, h2⟩
theorem o_ix : ∃ r, IxR X r ∧ Op2 X r gIx := ⟨_, ix_seq, fun {W H x y a b d Q} dom ha hb e q => by
  unfold gIx at e
  split at e
  · obtain ⟨a, vs, rfl, s1, r1⟩ := ha.tup
    obtain ⟨v, h1, h2⟩ := r1.atI e
    exact .inr (.inl ⟨a, vs, _, v, rfl, hb.int_, s1, h1, q _ H (Same.refl _) h2⟩)
  · obtain ⟨a, vs, rfl, s1, r1⟩ := ha.lst
    obtain ⟨v, h1, h2⟩ := r1.atI e
    exact .inl ⟨a, vs, _, v, rfl, hb.int_, .inl s1, h1, q _ H (Same.refl _) h2⟩
  · split at e
    · rename_i hz
      simp only [Option.map_eq_some_iff] at e
      obtain ⟨c, e1, rfl⟩ := e
      exact .inr (.inr ⟨_, _, c, ha.str_, hb.int_, hz, e1, q _ H (Same.refl _) (.str _)⟩)
    · cases e
  · cases e⟩
theorem e_ix (ha : DE X Z a fa) (hb : DE X Z b fb) (hs : PlainIx b := by exact fun _ _ => rfl) : DE X Z (.Subscript a b pos) (c2 gIx fa fb) :=
  let ⟨_, o, h⟩ := o_ix (X := X); let ⟨_, pa, sa⟩ := ha; let ⟨_, pb, sb⟩ := hb; ⟨_, pe_ix o pa pb hs, det_2 h sa sb⟩
end
end L3
namespace L3
open PySem PySem.Spec PyProof.Rows L2
section
variable {X : Cx} {Z : WXZ} {G : Pm} {W : Addr → Prop} {H : Hp} {v : V} {d : D} {a b : Expr} {pos p1 : Pos} {fa fb : En → Out Pv} {f : En → Out (List Pv)}

/-! ### slices -/
def cutD {α : Type} (xs : List α) (lo hi : Option Int) : List α := (xs.drop (HT.sIx xs.length 0 lo)).take (HT.sIx xs.length xs.length hi - HT.sIx xs.length 0 lo)
theorem Reps.cut {vs : List V} {ds : List D} (r : Reps G W H vs ds) (lo hi : Option Int) : Reps G W H (cutV vs lo hi) (cutD ds lo hi) := by
  unfold cutV cutD
  rw [r.length]
  exact (r.drop _).take _
def oNone : En → Out (Option Int) := fun ρ => .ok none ρ
def oSome (f : En → Out Pv) : En → Out (Option Int) := fun ρ => (f ρ).bind fun p ρ1 => match p with
  | .v (.int i) => .ok (some i) ρ1
  | _ => .bad
structure DOt (X : Cx) (Z : WXZ) (t : TO) (f : En → Out (Option Int)) : Prop where
  go : ∀ {B : Bs} {as : List (Option Addr)} {σ : L2.St} {H : Hp} {ρ : En} {Q : Option Int → Hp → Prop}, Rel X.G B as σ H ρ → EO X Z B as σ H (fun o _ H' => Q o H') (f ρ) → t σ H Q
def DO (X : Cx) (Z : WXZ) (e : Option Expr) (f : En → Out (Option Int)) : Prop := ∃ t, PO X e t ∧ DOt X Z t f
theorem o_none : DO X Z none oNone := ⟨_, po_none, ⟨fun {B as σ H ρ Q} R q => q H R .refl⟩⟩
theorem o_some (h : DE X Z a fa) : DO X Z (some a) (oSome fa) := by
  obtain ⟨_, p, s⟩ := h
  refine ⟨_, po_some p, ⟨fun {B as σ H ρ Q} R q => s.go R (q.bind.imp fun p ρ1 H1 R1 g1 q1 v k1 => ?_)⟩⟩
  split at q1
  · rename_i i
    cases k1 with
    | v k => exact ⟨i, k.int_, q1 H1 R1 .refl⟩
  · exact q1.elim
def gSl (d : D) (lo hi : Option Int) : Option D := match d with
  | .tup ds => some (.tup (cutD ds lo hi))
  | .lst ds => some (.lst (cutD ds lo hi))
  | _ => none
def cSl (f : En → Out Pv) (l h : En → Out (Option Int)) : En → Out Pv := fun ρ => (f ρ).bind fun p ρ1 => (l ρ1).bind fun lo ρ2 => (h ρ2).bind fun hi ρ3 => ofO ((pvD ρ3 p).bind fun d => gSl d lo hi) ρ3
def nSl (f : En → Out Pv) (l h : En → Out (Option Int)) : En → Out D := fun ρ => (f ρ).bind fun p ρ1 => (l ρ1).bind fun lo ρ2 => (h ρ2).bind fun hi ρ3 => match pvD ρ3 p with
  | some (.lst ds) => .ok (.lst (cutD ds lo hi)) ρ3
  | _ => .bad
theorem cut_whole {α : Type} (xs : List α) {lo hi : Option Int} (h : HT.sIx xs.length 0 lo = 0 ∧ HT.sIx xs.length xs.length hi = xs.length) : cutD xs lo hi = xs := by
  unfold cutD
  rw [h.1, h.2]
  simp
variable {lo hi : Option Expr} {p2 : Pos} {fl fh : En → Out (Option Int)}
theorem e_sl (ha : DE X Z a fa) (hl : DO X Z lo fl) (hh : DO X Z hi fh) : DE X Z (.Subscript a (.Slice lo hi none p2) pos) (cSl fa fl fh) := by
  obtain ⟨_, pa, sa⟩ := ha
  obtain ⟨_, pl, sl⟩ := hl
  obtain ⟨_, ph, sh⟩ := hh
  refine ⟨_, pe_slice (sl_list.or sl_tupS) pa pl ph, ⟨fun {B as σ H ρ Q} R q => sa.go R (q.bind.imp fun p ρ1 H1 R1 g1 q1 v k1 => sl.go R1 (q1.bind.imp fun l ρ2 H2 R2 g2 q2 => sh.go R2 (q2.bind.imp fun u ρ3 H3 R3 g3 q3 => ?_)))⟩⟩
  obtain ⟨d, e, q⟩ := q3.ofO R3
  have k1 := (k1.go g2).go g3
  simp only [Option.bind_eq_some_iff] at e
  obtain ⟨d0, e1, e2⟩ := e
  have kp := k1.peek R3 e1
  unfold gSl at e2
  split at e2
  · rename_i ds
    cases e2
    obtain ⟨a, vs, rfl, s1, r1⟩ := kp.tup
    refine .inr ⟨a, vs, rfl, s1, fun w => ?_, fun _ p ob hp hd => q _ _ (Same.new hp) (Rep.newTup R3.domA hp (r1.cut l u) ob hd)⟩
    rw [r1.length] at w
    rw [cut_whole ds w] at q
    exact q _ H3 (Same.refl _) kp.tupR
  · cases e2
    obtain ⟨a, vs, rfl, s1, r1⟩ := kp.lst
    exact .inl ⟨a, vs, rfl, .inl s1, fun p hp => q _ _ (Same.new hp) (Rep.newLst R3.domA hp (r1.cut l u))⟩
  · cases e2
theorem n_sl (ha : DE X Z a fa) (hl : DO X Z lo fl) (hh : DO X Z hi fh) : DN X Z (.Subscript a (.Slice lo hi none p2) pos) (nSl fa fl fh) := by
  obtain ⟨_, pa, sa⟩ := ha
  obtain ⟨_, pl, sl⟩ := hl
  obtain ⟨_, ph, sh⟩ := hh
  refine ⟨_, pe_slice sl_list pa pl ph, ⟨fun {B as σ H ρ Q} R q => sa.go R (q.bind.imp fun p ρ1 H1 R1 g1 q1 v k1 => sl.go R1 (q1.bind.imp fun l ρ2 H2 R2 g2 q2 => sh.go R2 (q2.bind.imp fun u ρ3 H3 R3 g3 q3 => ?_)))⟩⟩
  have k1 := (k1.go g2).go g3
  split at q3
  · rename_i ds e1
    obtain ⟨a, vs, rfl, s1, r1⟩ := (k1.peek R3 e1).lst
    exact ⟨a, vs, rfl, .inl s1, fun p hp => DNt.lay R3 hp (g1.grow p (g2.grow p (g3.grow p hp))) True.intro (.lst (r1.cut l u)) q3⟩
  · exact q3.elim

/-! ### list(..), tuple(..) -/
def gToT : List D → Option D
  | [.tup ds] => some (.tup ds)
  | [.lst ds] => some (.tup ds)
  | _ => none
theorem o_toT : OpN X (fun xs H Q => ∃ p ys, xs = [.ref p] ∧ ((SqL X.K H p ys ∧ ∀ l (ob : Obj), H l = none → ob.dict = none → Q (.ref l) (upd H l (.frz ob (.tup ys)))) ∨ (SqT X.K H p ys ∧ Q (.ref p) H))) gToT := fun {W H xs ds d Q} dom h e q => by
  unfold gToT at e
  split at e
  · cases e
    obtain ⟨v, rfl, hv⟩ := h.one
    obtain ⟨a, vs, rfl, s1, r1⟩ := hv.tup
    exact ⟨a, vs, rfl, .inr ⟨s1, q _ H (Same.refl _) hv.tupR⟩⟩
  · cases e
    obtain ⟨v, rfl, hv⟩ := h.one
    obtain ⟨a, vs, rfl, s1, r1⟩ := hv.lst
    exact ⟨a, vs, rfl, .inl ⟨.inl s1, fun p ob hp hd => q _ _ (Same.new hp) (Rep.newTup dom hp r1 ob hd)⟩⟩
  · cases e
theorem e_toT (hm : X.mg "tuple" = none) (ha : DA X Z [a] f) (hg : Gl X "tuple" := by rfl) (he : starEach [a] X.env = (false, eval a X.env) :: starEach [] X.env := by rfl) (hpl : (backTo pos (starEach [] X.env)).any (·.1) = false := by rfl) : DE X Z (.Call (.Name "tuple" p1) [a] [] pos) (cN gToT f) :=
  e_ty call_tuple_ofS o_toT hm (by decide +kernel) ha hg (by decide) (by decide) he hpl
def gToL : List D → Option D
  | [.tup ds] => some (.lst ds)
  | [.lst ds] => some (.lst ds)
  | _ => none
theorem o_toL : OpL X (fun xs H Q => ∃ p ys, xs = [.ref p] ∧ (SqL X.K H p ys ∨ SqT X.K H p ys) ∧ ∀ l, H l = none → Q (.ref l) (upd H l (.lst ys))) gToL := fun {W H xs ds d Q} h e q => by
  unfold gToL at e
  split at e
  · cases e
    obtain ⟨v, rfl, hv⟩ := h.one
    obtain ⟨a, vs, rfl, s1, r1⟩ := hv.tup
    exact ⟨a, vs, rfl, .inr s1, fun p hp => q p _ hp True.intro (.lst r1)⟩
  · cases e
    obtain ⟨v, rfl, hv⟩ := h.one
    obtain ⟨a, vs, rfl, s1, r1⟩ := hv.lst
    exact ⟨a, vs, rfl, .inl (.inl s1), fun p hp => q p _ hp True.intro (.lst r1)⟩
  · cases e
theorem n_toL (hm : X.mg "list" = none) (ha : DA X Z [a] f) (hg : Gl X "list" := by rfl) (he : starEach [a] X.env = (false, eval a X.env) :: starEach [] X.env := by rfl) (hpl : (backTo pos (starEach [] X.env)).any (·.1) = false := by rfl) : DN X Z (.Call (.Name "list" p1) [a] [] pos) (nN gToL f) :=
  n_ty call_list_of o_toL hm (by decide +kernel) ha hg (by decide) (by decide) he hpl

/-! ### sums, greatest, least -/
def asInts : List D → Option (List Int)
  | [] => some []
  | .int i :: r => (asInts r).map (i :: ·)
  | _ :: _ => none
theorem asInts_some : ∀ {ds : List D} {ns : List Int}, asInts ds = some ns → ds = ns.map D.int
  | [], _, h => by cases h; rfl
  | .int i :: r, ns, h => by
    simp only [asInts, Option.map_eq_some_iff] at h
    obtain ⟨m, h1, rfl⟩ := h
    rw [asInts_some h1]; rfl
  | .non :: _, _, h | .bl _ :: _, _, h | .str _ :: _, _, h | .tup _ :: _, _, h | .lst _ :: _, _, h | .dic _ :: _, _, h | .dit _ :: _, _, h | .obj _ _ _ :: _, _, h | .ty _ :: _, _, h => by cases h
theorem asInts_map (ns : List Int) : asInts (ns.map D.int) = some ns := by
  induction ns with
  | nil => rfl
  | cons n r ih => simp [asInts, ih]
def maxI : List Int → Int
  | [] => 0
  | [a] => a
  | a :: r => max a (maxI r)
def minI : List Int → Int
  | [] => 0
  | [a] => a
  | a :: r => min a (minI r)
theorem maxI_cons (a b : Int) (r : List Int) : maxI (a :: b :: r) = max a (maxI (b :: r)) := rfl
theorem minI_cons (a b : Int) (r : List Int) : minI (a :: b :: r) = min a (minI (b :: r)) := rfl
theorem maxI_mem : ∀ {ns : List Int}, ns ≠ [] → maxI ns ∈ ns ∧ ∀ y ∈ ns, y ≤ maxI ns
  | [], h => absurd rfl h
  | [a], _ => by simp [maxI]
  | a :: b :: r, _ => by
    obtain ⟨h1, h2⟩ := maxI_mem (ns := b :: r) (by simp)
    rw [maxI_cons]
    refine ⟨?_, fun y hy => ?_⟩
    · rcases Int.le_total a (maxI (b :: r)) with h | h
      · rw [Int.max_eq_right h]; exact List.mem_cons_of_mem _ h1
      · rw [Int.max_eq_left h]; exact List.mem_cons_self
    · rcases List.mem_cons.mp hy with rfl | hy
      · omega
      · have := h2 y hy; omega
theorem minI_mem : ∀ {ns : List Int}, ns ≠ [] → minI ns ∈ ns ∧ ∀ y ∈ ns, minI ns ≤ y
  | [], h => absurd rfl h
  | [a], _ => by simp [minI]
  | a :: b :: r, _ => by
    obtain ⟨h1, h2⟩ := minI_mem (ns := b :: r) (by simp)
    rw [minI_cons]
    refine ⟨?_, fun y hy => ?_⟩
    · rcases Int.le_total a (minI (b :: r)) with h | h
      · rw [Int.min_eq_left h]; exact List.mem_cons_self
      · rw [Int.min_eq_right h]; exact List.mem_cons_of_mem _ h1
    · rcases List.mem_cons.mp hy with rfl | hy
      · omega
      · have := h2 y hy; omega
theorem maxI_eq {ns : List Int} {m : Int} (h : m ∈ ns) (h2 : ∀ y ∈ ns, y ≤ m) : maxI ns = m := by
  have hn : ns ≠ [] := by rintro rfl; simp at h
  obtain ⟨q1, q2⟩ := maxI_mem hn
  have := q2 m h; have := h2 _ q1; omega
theorem minI_eq {ns : List Int} {m : Int} (h : m ∈ ns) (h2 : ∀ y ∈ ns, m ≤ y) : minI ns = m := by
  have hn : ns ≠ [] := by rintro rfl; simp at h
  obtain ⟨q1, q2⟩ := minI_mem hn
  have := q2 m h; have := h2 _ q1; omega
end

section
variable {prog : Program} {w : World} {A : Around} {E : Value → Shared → Prop} {s : Shared} {t : Addr} {its : List Value} {ns : List Int} {Q : Value → Shared → Prop}
theorem ints_at (hi : IntsAre its ns) {i : Nat} {v : Value} (h : its.toArray[i]? = some v) : ∃ tk, v = .int (ns.getD i 0) tk := by
  have r := vals_of_ints hi
  rw [List.getElem?_toArray] at h
  have hl : i < ns.length := by
    have := lt_of_get h
    have := r.length
    simp at this
    omega
  obtain ⟨u, h1, h2⟩ := r.get (i := i) (x := .int ns[i]) (by simp [hl])
  rw [h] at h1; cases h1
  obtain ⟨tk, rfl⟩ := h2
  exact ⟨tk, by simp [hl]⟩
theorem preSum_getD (ns : List Int) : ∀ n, n ≤ ns.length → preSum (fun i => ns.getD i 0) n = (ns.take n).sum
  | 0, _ => by simp [preSum]
  | n + 1, h => by
    rw [preSum, preSum_getD ns n (by omega), List.take_add_one, List.sum_append]
    simp [List.getElem?_eq_getElem (show n < ns.length by omega)]
theorem iter_tup (ht : IsTup s.heap t its.toArray) {K : Value → Shared → Prop}
    (h : ∀ s₂ : Shared, s₂ = { s with heap := s.heap.push { cls := .type "tuple_iterator", data := .fields #[.ref t, .int 0 0] } } → (s₂.heap.IsTupleIter s.heap.objs.size t 0 ∧ s₂.heap.IsTuple t its.toArray) →
      (∀ b ∈ [s.heap.objs.size, t], b < s₂.heap.objs.size) → t ≠ s.heap.objs.size → K (.ref s.heap.objs.size) s₂) : wpAny (model prog w) A (pyIter (.ref t)) K E s := by
  have hlt : t < s.heap.objs.size := ht.lt
  refine wpAny_pyIter_tuple (show s.heap.IsTuple t its.toArray from ht) (h _ rfl ⟨⟨_, Heap.get?_push_size _ rfl, rfl, rfl⟩, ?_⟩ (fun b hb => ?_) (Nat.ne_of_lt hlt))
  · obtain ⟨o, e, c, n, d⟩ := ht
    exact ⟨o, Heap.get?_push_of_some _ e, c, n, d⟩
  · show b < (s.heap.push _).objs.size
    rw [Heap.size_push]
    simp only [List.mem_cons, List.not_mem_nil, or_false] at hb
    rcases hb with e | e
    · rw [e]; exact Nat.lt_succ_self _
    · rw [e]; exact Nat.lt_succ_of_lt hlt
theorem kept_tup {h' : Heap} (hk : ∀ b o, b ∉ [s.heap.objs.size, t] → (s.heap.push { cls := .type "tuple_iterator", data := .fields #[.ref t, .int 0 0] }).get? b = some o → h'.get? b = some o) (b : Addr) (o : Obj) (hb : b ≠ t) (e : s.heap.get? b = some o) : h'.get? b = some o := by
  refine hk b o (fun hm => ?_) (Heap.get?_push_of_some _ e)
  simp only [List.mem_cons, List.not_mem_nil, or_false] at hm
  rcases hm with h | h
  · exact absurd (h ▸ Heap.lt_size e) (Nat.lt_irrefl _)
  · exact hb h
theorem sum_tup (hh : A.handled = none) (ht : IsTup s.heap t its.toArray) (hi : IntsAre its ns)
    (h : ∀ h' tk t', (∀ b o, s.heap.get? b = some o → h'.get? b = some o) → Q (.int ns.sum t') { s with heap := h', toks := tk }) : wpAny (model prog w) A (call (.builtin "sum") [.ref t]) Q E s := by
  refine call_sum_walkG (iter_tup ht fun s₂ e st hfp hne => ?_)
  subst e
  refine ⟨_, _, _, _, _, _, fun i => ns.getD i 0, rfl, Walks.tuple (A := A.in1) hh _ t hne its.toArray, st, hfp, fun i v hv => ints_at hi hv, fun h' tk t' hk => ?_⟩
  have hl : its.toArray.size = ns.length := by simp [hi.length]
  rw [hl, preSum_getD ns _ (Nat.le_refl _), List.take_length]
  refine h h' tk t' fun b o e => hk b o (fun hm => ?_) (Heap.get?_push_of_some _ e)
  simp only [List.mem_cons, List.not_mem_nil, or_false] at hm
  exact absurd (hm ▸ Heap.lt_size e) (Nat.lt_irrefl _)
theorem max_tup (hh : A.handled = none) (ht : IsTup s.heap t its.toArray) (hi : IntsAre its ns) (hne : ns ≠ [])
    (h : ∀ h' tk t', (∀ b o, s.heap.get? b = some o → h'.get? b = some o) → Q (.int (maxI ns) t') { s with heap := h', toks := tk }) : wpAny (model prog w) A (call (.builtin "max") [.ref t]) Q E s := by
  refine call_max_walk (iter_tup ht fun s₂ e st hfp hne' => ?_)
  subst e
  have hl : its.toArray.size = ns.length := by simp [hi.length]
  have hp : 0 < ns.length := List.length_pos_iff.mpr hne
  refine ⟨_, _, _, _, _, _, _, rfl, Walks.tuple (A := A.in1) hh _ t hne' its.toArray, st, hfp, by omega, CmpOf.ints_gt (fun i => ns.getD i 0) fun i v hv => ints_at hi hv, fun v h' tk hP hk => ?_⟩
  obtain ⟨t', rfl⟩ := ints_at hi hP
  obtain ⟨h1, h2⟩ := argBest_gt (fun i => ns.getD i 0) (its.toArray.size - 1)
  have em : ns.getD (argBest (fun i j => decide (ns.getD i 0 > ns.getD j 0)) (its.toArray.size - 1)) 0 = maxI ns := by
    refine (maxI_eq ?_ fun y hy => ?_).symm
    · exact PySem.getD_mem (by omega)
    · obtain ⟨j, hj, rfl⟩ := mem_getD hy
      exact h2 j (by omega)
  rw [em]
  refine h h' tk t' fun b o e => hk b o (fun hm => ?_) (Heap.get?_push_of_some _ e)
  simp only [List.mem_cons, List.not_mem_nil, or_false] at hm
  exact absurd (hm ▸ Heap.lt_size e) (Nat.lt_irrefl _)
theorem min_tup (hh : A.handled = none) (ht : IsTup s.heap t its.toArray) (hi : IntsAre its ns) (hne : ns ≠ [])
    (h : ∀ h' tk t', (∀ b o, s.heap.get? b = some o → h'.get? b = some o) → Q (.int (minI ns) t') { s with heap := h', toks := tk }) : wpAny (model prog w) A (call (.builtin "min") [.ref t]) Q E s := by
  refine call_min_walk (iter_tup ht fun s₂ e st hfp hne' => ?_)
  subst e
  have hl : its.toArray.size = ns.length := by simp [hi.length]
  have hp : 0 < ns.length := List.length_pos_iff.mpr hne
  refine ⟨_, _, _, _, _, _, _, rfl, Walks.tuple (A := A.in1) hh _ t hne' its.toArray, st, hfp, by omega, CmpOf.ints_lt (fun i => ns.getD i 0) fun i v hv => ints_at hi hv, fun v h' tk hP hk => ?_⟩
  obtain ⟨t', rfl⟩ := ints_at hi hP
  obtain ⟨h1, h2⟩ := argBest_lt (fun i => ns.getD i 0) (its.toArray.size - 1)
  have em : ns.getD (argBest (fun i j => decide (ns.getD i 0 < ns.getD j 0)) (its.toArray.size - 1)) 0 = minI ns := by
    refine (minI_eq ?_ fun y hy => ?_).symm
    · exact PySem.getD_mem (by omega)
    · obtain ⟨j, hj, rfl⟩ := mem_getD hy
      exact h2 j (by omega)
  rw [em]
  refine h h' tk t' fun b o e => hk b o (fun hm => ?_) (Heap.get?_push_of_some _ e)
  simp only [List.mem_cons, List.not_mem_nil, or_false] at hm
  exact absurd (hm ▸ Heap.lt_size e) (Nat.lt_irrefl _)
end
section
variable {X : Cx} {Z : WXZ} {G : Pm} {W : Addr → Prop} {H : Hp} {v : V} {d : D} {a b : Expr} {pos p1 : Pos} {fa fb : En → Out Pv} {f : En → Out (List Pv)}
theorem cr_sumT (hc : X.calm = true) : CallR X (.builtin "sum") (fun vs H Q => ∃ (a : Addr) (ns : List Int), vs = [V.ref a] ∧ SqT X.K H a (ns.map V.int) ∧ Q (.int ns.sum) H) := by
  rintro pins s σ H vs us Q I r ⟨a, ns, rfl, hs, q⟩
  obtain ⟨its, rv, ht, _⟩ := I.tuple hs
  rw [Vals.ref1 r]
  exact sum_tup (I.ok.hd hc) ht rv.ints fun h' tk t' hk => ⟨.int _, H, I.kept hk, ⟨_, rfl⟩, q⟩
theorem cr_maxT (hc : X.calm = true) : CallR X (.builtin "max") (fun vs H Q => ∃ (a : Addr) (ns : List Int), vs = [V.ref a] ∧ SqT X.K H a (ns.map V.int) ∧ ns ≠ [] ∧ Q (.int (maxI ns)) H) := by
  rintro pins s σ H vs us Q I r ⟨a, ns, rfl, hs, hne, q⟩
  obtain ⟨its, rv, ht, _⟩ := I.tuple hs
  rw [Vals.ref1 r]
  exact max_tup (I.ok.hd hc) ht rv.ints hne fun h' tk t' hk => ⟨.int _, H, I.kept hk, ⟨_, rfl⟩, q⟩
theorem cr_minT (hc : X.calm = true) : CallR X (.builtin "min") (fun vs H Q => ∃ (a : Addr) (ns : List Int), vs = [V.ref a] ∧ SqT X.K H a (ns.map V.int) ∧ ns ≠ [] ∧ Q (.int (minI ns)) H) := by
  rintro pins s σ H vs us Q I r ⟨a, ns, rfl, hs, hne, q⟩
  obtain ⟨its, rv, ht, _⟩ := I.tuple hs
  rw [Vals.ref1 r]
  exact min_tup (I.ok.hd hc) ht rv.ints hne fun h' tk t' hk => ⟨.int _, H, I.kept hk, ⟨_, rfl⟩, q⟩
def gSum : List D → Option D
  | [.lst ds] => (asInts ds).map fun ns => .int ns.sum
  | [.tup ds] => (asInts ds).map fun ns => .int ns.sum
  | _ => none
theorem o_sum (hc : X.calm = true) : ∃ r, CallR X (.builtin "sum") r ∧ OpN X r gSum := ⟨_, (cr_sum hc).or (cr_sumT hc), fun {W H xs ds d Q} dom h e q => by
  unfold gSum at e
  split at e
  · simp only [Option.map_eq_some_iff] at e
    obtain ⟨ns, e1, rfl⟩ := e
    cases asInts_some e1
    obtain ⟨v, rfl, hv⟩ := h.one
    obtain ⟨a, vs, rfl, s1, r1⟩ := hv.lst
    rw [r1.ints] at s1
    exact .inl ⟨a, ns, rfl, .inl s1, q _ H (Same.refl _) (.int _)⟩
  · simp only [Option.map_eq_some_iff] at e
    obtain ⟨ns, e1, rfl⟩ := e
    cases asInts_some e1
    obtain ⟨v, rfl, hv⟩ := h.one
    obtain ⟨a, vs, rfl, s1, r1⟩ := hv.tup
    rw [r1.ints] at s1
    exact .inr ⟨a, ns, rfl, s1, q _ H (Same.refl _) (.int _)⟩
  · cases e⟩
theorem e_sum (hc : X.calm = true) (hm : X.mg "sum" = none) (ha : DA X Z [a] f) (hg : Gl X "sum" := by rfl) (he : starEach [a] X.env = (false, eval a X.env) :: starEach [] X.env := by rfl) (hpl : (backTo pos (starEach [] X.env)).any (·.1) = false := by rfl) : DE X Z (.Call (.Name "sum" p1) [a] [] pos) (cN gSum f) :=
  let ⟨_, o, h⟩ := o_sum (X := X) hc; e_blt o h hm (by decide +kernel) ha hg (by decide) (by decide) he hpl
def gMax : List D → Option D
  | [.int a, .int b] => some (.int (max a b))
  | [.lst ds] => (asInts ds).bind fun ns => if ns = [] then none else some (.int (maxI ns))
  | [.tup ds] => (asInts ds).bind fun ns => if ns = [] then none else some (.int (maxI ns))
  | _ => none
def gMin : List D → Option D
  | [.int a, .int b] => some (.int (min a b))
  | [.lst ds] => (asInts ds).bind fun ns => if ns = [] then none else some (.int (minI ns))
  | [.tup ds] => (asInts ds).bind fun ns => if ns = [] then none else some (.int (minI ns))
  | _ => none
theorem o_max (hc : X.calm = true) : ∃ r, CallR X (.builtin "max") r ∧ OpN X r gMax := ⟨_, (call_max2 hc).or ((cr_max hc).or (cr_maxT hc)), fun {W H xs ds d Q} dom h e q => by
  unfold gMax at e
  split at e
  · rename_i i j
    cases e
    obtain ⟨v, v2, rfl, h1, h2⟩ := h.two
    refine .inl ⟨_, _, by rw [h1.int_, h2.int_], ?_⟩
    have : (if j > i then j else i) = max i j := by rw [Int.max_def]; split <;> split <;> omega
    rw [this]
    exact q _ H (Same.refl _) (.int _)
  · simp only [Option.bind_eq_some_iff] at e
    obtain ⟨ns, e1, e2⟩ := e
    split at e2
    · cases e2
    · rename_i hn
      cases e2
      cases asInts_some e1
      obtain ⟨v, rfl, hv⟩ := h.one
      obtain ⟨a, vs, rfl, s1, r1⟩ := hv.lst
      rw [r1.ints] at s1
      exact .inr (.inl ⟨a, ns, rfl, .inl s1, List.length_pos_iff.mpr hn, fun m h1 h2 => by rw [← maxI_eq h1 h2]; exact q _ H (Same.refl _) (.int _)⟩)
  · simp only [Option.bind_eq_some_iff] at e
    obtain ⟨ns, e1, e2⟩ := e
    split at e2
    · cases e2
    · rename_i hn
      cases e2
      cases asInts_some e1
      obtain ⟨v, rfl, hv⟩ := h.one
      obtain ⟨a, vs, rfl, s1, r1⟩ := hv.tup
      rw [r1.ints] at s1
      exact .inr (.inr ⟨a, ns, rfl, s1, hn, q _ H (Same.refl _) (.int _)⟩)
  · cases e⟩
theorem o_min (hc : X.calm = true) : ∃ r, CallR X (.builtin "min") r ∧ OpN X r gMin := ⟨_, (call_min2 hc).or ((cr_min hc).or (cr_minT hc)), fun {W H xs ds d Q} dom h e q => by
  unfold gMin at e
  split at e
  · rename_i i j
    cases e
    obtain ⟨v, v2, rfl, h1, h2⟩ := h.two
    refine .inl ⟨_, _, by rw [h1.int_, h2.int_], ?_⟩
    have : (if j < i then j else i) = min i j := by rw [Int.min_def]; split <;> split <;> omega
    rw [this]
    exact q _ H (Same.refl _) (.int _)
  · simp only [Option.bind_eq_some_iff] at e
    obtain ⟨ns, e1, e2⟩ := e
    split at e2
    · cases e2
    · rename_i hn
      cases e2
      cases asInts_some e1
      obtain ⟨v, rfl, hv⟩ := h.one
      obtain ⟨a, vs, rfl, s1, r1⟩ := hv.lst
      rw [r1.ints] at s1
      exact .inr (.inl ⟨a, ns, rfl, .inl s1, List.length_pos_iff.mpr hn, fun m h1 h2 => by rw [← minI_eq h1 h2]; exact q _ H (Same.refl _) (.int _)⟩)
  · simp only [Option.bind_eq_some_iff] at e
    obtain ⟨ns, e1, e2⟩ := e
    split at e2
    · cases e2
    · rename_i hn
      cases e2
      cases asInts_some e1
      obtain ⟨v, rfl, hv⟩ := h.one
      obtain ⟨a, vs, rfl, s1, r1⟩ := hv.tup
      rw [r1.ints] at s1
      exact .inr (.inr ⟨a, ns, rfl, s1, hn, q _ H (Same.refl _) (.int _)⟩)
  · cases e⟩
theorem e_max {es : List Expr} (hc : X.calm = true) (hm : X.mg "max" = none) (ha : DA X Z (a :: es) f) (hg : Gl X "max" := by rfl) (he : starEach (a :: es) X.env = (false, eval a X.env) :: starEach es X.env := by rfl) (hpl : (backTo pos (starEach es X.env)).any (·.1) = false := by rfl) : DE X Z (.Call (.Name "max" p1) (a :: es) [] pos) (cN gMax f) :=
  let ⟨_, o, h⟩ := o_max (X := X) hc; e_blt o h hm (by decide +kernel) ha hg (by decide) (by decide) he hpl
theorem e_min {es : List Expr} (hc : X.calm = true) (hm : X.mg "min" = none) (ha : DA X Z (a :: es) f) (hg : Gl X "min" := by rfl) (he : starEach (a :: es) X.env = (false, eval a X.env) :: starEach es X.env := by rfl) (hpl : (backTo pos (starEach es X.env)).any (·.1) = false := by rfl) : DE X Z (.Call (.Name "min" p1) (a :: es) [] pos) (cN gMin f) :=
  let ⟨_, o, h⟩ := o_min (X := X) hc; e_blt o h hm (by decide +kernel) ha hg (by decide) (by decide) he hpl
/-! abs, int, bool -/
def gAbs : List D → Option D
  | [.int a] => some (.int (if a < 0 then -a else a))
  | _ => none
theorem e_abs (hm : X.mg "abs" = none) (ha : DA X Z [a] f) (hg : Gl X "abs" := by rfl) (he : starEach [a] X.env = (false, eval a X.env) :: starEach [] X.env := by rfl) (hpl : (backTo pos (starEach [] X.env)).any (·.1) = false := by rfl) : DE X Z (.Call (.Name "abs" p1) [a] [] pos) (cN gAbs f) :=
  e_blt call_abs (fun {W H xs ds d Q} dom h e q => by
    unfold gAbs at e
    split at e
    · cases e
      obtain ⟨v, rfl, hv⟩ := h.one
      exact ⟨_, by rw [hv.int_], q _ H (Same.refl _) (.int _)⟩
    · cases e) hm (by decide +kernel) ha hg (by decide) (by decide) he hpl
def gInt : List D → Option D
  | [.int a] => some (.int a)
  | [.bl a] => some (.int (if a then 1 else 0))
  | _ => none
theorem e_int (hm : X.mg "int" = none) (ha : DA X Z [a] f) (hg : Gl X "int" := by rfl) (he : starEach [a] X.env = (false, eval a X.env) :: starEach [] X.env := by rfl) (hpl : (backTo pos (starEach [] X.env)).any (·.1) = false := by rfl) : DE X Z (.Call (.Name "int" p1) [a] [] pos) (cN gInt f) :=
  e_ty call_int1 (fun {W H xs ds d Q} dom h e q => by
    unfold gInt at e
    split at e
    · cases e
      obtain ⟨v, rfl, hv⟩ := h.one
      exact .inl ⟨_, by rw [hv.int_], q _ H (Same.refl _) (.int _)⟩
    · cases e
      obtain ⟨v, rfl, hv⟩ := h.one
      exact .inr ⟨_, by rw [hv.bl_], q _ H (Same.refl _) (.int _)⟩
    · cases e) hm (by decide +kernel) ha hg (by decide) (by decide) he hpl
end
end L3
namespace L3
open PySem PySem.Spec PyProof.Rows L2

/-! ### data as the library's data -/
mutual
def py : D → PyData
  | .non => .none
  | .bl b => .bool b
  | .int i => .int i
  | .str x => .str x
  | .tup ds => .tuple (pyL ds)
  | .lst ds => .list (pyL ds)
  | _ => .none
def pyL : List D → List PyData
  | [] => []
  | d :: r => py d :: pyL r
end
mutual
def pyOk : Nat → D → Bool
  | _, .non => true
  | _, .bl _ => true
  | _, .int _ => true
  | _, .str x => PyData.strOk x
  | n + 1, .tup ds => pyOkL n ds
  | n + 1, .lst ds => pyOkL n ds
  | _, _ => false
def pyOkL : Nat → List D → Bool
  | _, [] => true
  | n, d :: r => pyOk n d && pyOkL n r
end
mutual
/-- a bound of the length of what is shown -/
def wt : D → Nat
  | .non => 4
  | .bl _ => 5
  | .int i => i.natAbs.log2 + 3
  | .str x => 10 * x.length + 2
  | .tup ds => wtL ds + 3
  | .lst ds => wtL ds + 3
  | _ => 0
def wtL : List D → Nat
  | [] => 0
  | d :: r => wt d + 2 + wtL r
end
mutual
def smallD : D → Bool
  | .int i => decide (i.natAbs.log2 < 1920)
  | .tup ds => smallL ds
  | .lst ds => smallL ds
  | _ => true
def smallL : List D → Bool
  | [] => true
  | d :: r => smallD d && smallL r
end
mutual
theorem pyOk_lay : ∀ (d : D) (n : Nat), pyOk n d = true → (py d).canLay0 = true ∧ (py d).depth ≤ n
  | .non, _, _ => by simp [py, PyData.canLay0, PyData.depth]
  | .bl _, _, _ => by simp [py, PyData.canLay0, PyData.depth]
  | .int _, _, _ => by simp [py, PyData.canLay0, PyData.depth]
  | .str x, n, h => by
    have h : PyData.strOk x = true := by cases n <;> simpa [pyOk] using h
    simp [py, PyData.canLay0, PyData.depth, h]
  | .tup ds, n, h => by
    cases n with
    | zero => simp [pyOk] at h
    | succ n =>
      obtain ⟨h1, h2⟩ := pyOkL_lay ds n (by simpa [pyOk] using h)
      simp [py, PyData.canLay0, PyData.depth, h1]; omega
  | .lst ds, n, h => by
    cases n with
    | zero => simp [pyOk] at h
    | succ n =>
      obtain ⟨h1, h2⟩ := pyOkL_lay ds n (by simpa [pyOk] using h)
      simp [py, PyData.canLay0, PyData.depth, h1]; omega
  | .dic _, n, h => by cases n <;> simp [pyOk] at h
  | .dit _, n, h => by cases n <;> simp [pyOk] at h
  | .obj _ _ _, n, h => by cases n <;> simp [pyOk] at h
  | .ty _, n, h => by cases n <;> simp [pyOk] at h
theorem pyOkL_lay : ∀ (ds : List D) (n : Nat), pyOkL n ds = true → PyData.canLayAll0 (pyL ds) = true ∧ PyData.depthAll (pyL ds) ≤ n
  | [], _, _ => by simp [pyL, PyData.canLayAll0, PyData.depthAll]
  | d :: r, n, h => by
    have h : pyOk n d = true ∧ pyOkL n r = true := by cases n <;> simpa [pyOkL] using h
    obtain ⟨h1, h2⟩ := pyOk_lay d n h.1
    obtain ⟨h3, h4⟩ := pyOkL_lay r n h.2
    simp [pyL, PyData.canLayAll0, PyData.depthAll, h1, h3]; omega
end
theorem pyOk_shaped {d : D} {n : Nat} (h : pyOk n d = true) (hn : n ≤ 64) : SeqAt.shaped (py d) = true := by
  obtain ⟨h1, h2⟩ := pyOk_lay d n h
  unfold SeqAt.shaped
  rw [h1, Bool.true_and]
  exact decide_eq_true (by omega)
section
variable {G : Pm} {W : Addr → Prop} {H : Hp}
mutual
theorem Rep.dp : ∀ {v : V} {d : D} {n : Nat}, Rep G W H v d → pyOk n d = true → Dp G.K H v (py d)
  | _, _, _, .non, _ => .non
  | _, _, _, .bl b, _ => .bl b
  | _, _, _, .int i, _ => .int i
  | _, _, _, .str x, _ => .str x
  | _, _, _, .ty _, h => by rename_i n; cases n <;> simp [pyOk] at h
  | _, _, n, .ref h w c _, e => by
    cases c with
    | tup r =>
      cases n with
      | zero => simp [pyOk] at e
      | succ n =>
        simp only [py]
        exact .tup (.inl h) (Reps.dp (n := n) r (by simpa [pyOk] using e))
    | lst r =>
      cases n with
      | zero => simp [pyOk] at e
      | succ n =>
        simp only [py]
        exact .lst (.inl h) (Reps.dp (n := n) r (by simpa [pyOk] using e))
    | dic _ _ => cases n <;> simp [pyOk] at e
    | dit _ _ => cases n <;> simp [pyOk] at e
    | obj _ _ _ => cases n <;> simp [pyOk] at e
    | wtp _ => cases n <;> simp [pyOk] at e
  | _, _, n, .tupK h r, e => by
    cases n with
    | zero => simp [pyOk] at e
    | succ n =>
      simp only [py]
      exact .tup h.sq (Reps.dp (n := n) r (by simpa [pyOk] using e))
theorem Reps.dp : ∀ {vs : List V} {ds : List D} {n : Nat}, Reps G W H vs ds → pyOkL n ds = true → DpAll G.K H vs (pyL ds)
  | _, _, _, .nil, _ => .nil
  | _, _, n, .cons h t, e => by
    have e := (Bool.and_eq_true_iff.mp (show (pyOk n _ && pyOkL n _) = true by cases n <;> simpa [pyOkL] using e))
    exact .cons (Rep.dp (n := n) h e.1) (Reps.dp (n := n) t e.2)
end
theorem RepP.dp {v : V} {d : D} {n : Nat} (r : RepP G W H v d) (e : pyOk n d = true) : Dp G.K H v (py d) := by
  cases r with
  | rep r => exact r.dp e
  | own o =>
    obtain ⟨u, h, _, c⟩ := o
    cases c with
    | tup r =>
      cases n with
      | zero => simp [pyOk] at e
      | succ n => simp only [py]; exact .tup (.inl (.inl h)) (Reps.dp (n := n) r (by simpa [pyOk] using e))
    | lst r =>
      cases n with
      | zero => simp [pyOk] at e
      | succ n => simp only [py]; exact .lst (.inl (.inl h)) (Reps.dp (n := n) r (by simpa [pyOk] using e))
    | dic _ _ => cases n <;> simp [pyOk] at e
    | dit _ _ => cases n <;> simp [pyOk] at e
    | obj _ _ _ => cases n <;> simp [pyOk] at e
    | wtp _ => cases n <;> simp [pyOk] at e
end

/-! ### == and != -/
def eqD (a b : D) : Bool := PyData.eqv (py a) (py b)
def gEq (a b : D) : Option D := match a, b with
  | .str x, .str y => some (.bl (decide (x = y)))
  | a, b => if (pyOk 60 a && pyOk 60 b) = true then some (.bl (eqD a b)) else none
def gNe (a b : D) : Option D := match a, b with
  | .str x, .str y => some (.bl (!decide (x = y)))
  | a, b => if (pyOk 60 a && pyOk 60 b) = true then some (.bl (!eqD a b)) else none
section
variable {X : Cx} {Z : WXZ} {a b : Expr} {pos p1 : Pos} {fa fb : En → Out Pv} {f : En → Out (List Pv)}
theorem dec_vs {x y : Str} : decide (V.str x = V.str y) = decide (x = y) := by simp
theorem o_Eq (hu : X.A.units + 64 < cLine) : ∃ r, OpR X (compareOp .Eq) r ∧ Op2 X r gEq := ⟨_, op_eq.or (op_eqD hu), fun {W H x y a b d Q} dom ha hb e q => by
  unfold gEq at e
  split at e
  · cases e
    exact .inl ⟨by rw [ha.str_, hb.str_]; rfl, by rw [ha.str_, hb.str_, dec_vs]; exact q _ H (Same.refl _) (.bl _)⟩
  · split at e
    · rename_i h
      rw [Bool.and_eq_true] at h
      cases e
      exact .inr ⟨_, _, ha.dp h.1, hb.dp h.2, pyOk_shaped h.1 (by decide), pyOk_shaped h.2 (by decide), q _ H (Same.refl _) (.bl _)⟩
    · cases e⟩
theorem o_Ne (hu : X.A.units + 64 < cLine) : ∃ r, OpR X (compareOp .NotEq) r ∧ Op2 X r gNe := ⟨_, op_ne.or (op_neD hu), fun {W H x y a b d Q} dom ha hb e q => by
  unfold gNe at e
  split at e
  · cases e
    exact .inl ⟨by rw [ha.str_, hb.str_]; rfl, by rw [ha.str_, hb.str_, dec_vs]; exact q _ H (Same.refl _) (.bl _)⟩
  · split at e
    · rename_i h
      rw [Bool.and_eq_true] at h
      cases e
      exact .inr ⟨_, _, ha.dp h.1, hb.dp h.2, pyOk_shaped h.1 (by decide), pyOk_shaped h.2 (by decide), q _ H (Same.refl _) (.bl _)⟩
    · cases e⟩
theorem e_eq {k : Nat} (hr : RoomG k X.A) (ha : DE X Z a fa) (hb : DE X Z b fb) : DE X Z (.Compare a [.Eq] [b] pos) (c2 gEq fa fb) := let ⟨_, o, h⟩ := o_Eq (X := X) hr.room.units; d_cmp o h ha hb (nomark _)
theorem t_eq {k : Nat} (hr : RoomG k X.A) (ha : DE X Z a fa) (hb : DE X Z b fb) : DT X Z (.Compare a [.Eq] [b] pos) (cB (c2 gEq fa fb)) := let ⟨_, o, h⟩ := o_Eq (X := X) hr.room.units; t_cmp o h ha hb (nomark _)
theorem e_ne {k : Nat} (hr : RoomG k X.A) (ha : DE X Z a fa) (hb : DE X Z b fb) : DE X Z (.Compare a [.NotEq] [b] pos) (c2 gNe fa fb) := let ⟨_, o, h⟩ := o_Ne (X := X) hr.room.units; d_cmp o h ha hb (nomark _)
theorem t_ne {k : Nat} (hr : RoomG k X.A) (ha : DE X Z a fa) (hb : DE X Z b fb) : DT X Z (.Compare a [.NotEq] [b] pos) (cB (c2 gNe fa fb)) := let ⟨_, o, h⟩ := o_Ne (X := X) hr.room.units; t_cmp o h ha hb (nomark _)
/-! is None -/
def isNon : D → Bool
  | .non => true
  | _ => false
def gIsN : D → D → Option D := fun a b => match b with
  | .non => some (.bl (isNon a))
  | _ => none
def gNotN : D → D → Option D := fun a b => match b with
  | .non => some (.bl (!isNon a))
  | _ => none
theorem RepP.isN {G : Pm} {W : Addr → Prop} {H : Hp} {v : V} {d : D} (r : RepP G W H v d) : decide (v = .non) = isNon d := by
  cases r with
  | rep r =>
    cases r with
    | non => rfl
    | ref _ _ c => cases c <;> rfl
    | _ => rfl
  | own o =>
    obtain ⟨u, _, _, c⟩ := o
    cases c <;> rfl
theorem o_isN : Op2 X (fun x y H Q => y = .non ∧ Q (.bl (decide (x = .non))) H) gIsN := fun {W H x y a b d Q} dom ha hb e q => by
  unfold gIsN at e
  split at e
  · cases e
    exact ⟨hb.non_, q _ H (Same.refl _) (by rw [ha.isN]; exact .bl _)⟩
  · cases e
theorem o_notN : Op2 X (fun x y H Q => y = .non ∧ Q (.bl (!decide (x = .non))) H) gNotN := fun {W H x y a b d Q} dom ha hb e q => by
  unfold gNotN at e
  split at e
  · cases e
    exact ⟨hb.non_, q _ H (Same.refl _) (by rw [ha.isN]; exact .bl _)⟩
  · cases e
theorem e_isN (ha : DE X Z a fa) (hb : DE X Z b fb) : DE X Z (.Compare a [.Is] [b] pos) (c2 gIsN fa fb) := d_cmp op_isN o_isN ha hb (nomark _)
theorem t_isN (ha : DE X Z a fa) (hb : DE X Z b fb) : DT X Z (.Compare a [.Is] [b] pos) (cB (c2 gIsN fa fb)) := t_cmp op_isN o_isN ha hb (nomark _)
theorem e_notN (ha : DE X Z a fa) (hb : DE X Z b fb) : DE X Z (.Compare a [.IsNot] [b] pos) (c2 gNotN fa fb) := d_cmp op_notN o_notN ha hb (nomark _)
theorem t_notN (ha : DE X Z a fa) (hb : DE X Z b fb) : DT X Z (.Compare a [.IsNot] [b] pos) (cB (c2 gNotN fa fb)) := t_cmp op_notN o_notN ha hb (nomark _)

/-! ### isinstance with a built-in class -/
def tyD : D → Option String
  | .non => some "NoneType"
  | .bl _ => some "bool"
  | .int _ => some "int"
  | .str _ => some "str"
  | .tup _ => some "tuple"
  | .lst _ => some "list"
  | .dic _ => some "dict"
  | _ => none
theorem RepP.ty {K : PySem.W.Frag} {mg : Str → Option Value} {W : Addr → Prop} {H : Hp} {v : V} {d : D} {t : String} (r : RepP ⟨K, mg⟩ W H v d) (e : tyD d = some t) : TyX K H v (.type t) := by
  cases r with
  | rep r =>
    cases r with
    | non => cases e; exact .base .non
    | bl b => cases e; exact .base (.bl b)
    | int i => cases e; exact .base (.int i)
    | str x => cases e; exact .base (.str x)
    | ty _ => cases e
    | ref h w c =>
      cases c with
      | tup r => cases e; rcases h with h | ⟨o, h⟩
                 · exact .base (.tup h)
                 · exact .fTuple h
      | lst r => cases e; rcases h with h | ⟨o, h⟩
                 · exact .base (.lst h)
                 · exact .base (.frz h)
      | dic _ r => cases e; rcases h with h | ⟨o, h⟩
                   · exact .base (.dK h)
                   · exact .fDict h
      | dit _ _ => cases e
      | obj _ _ _ => cases e
      | wtp _ => cases e
    | tupK h r =>
      cases e
      obtain ⟨o, its, n, h1, h2, _⟩ := h
      exact .kTuple h1 h2
  | own o =>
    obtain ⟨u, h, _, c⟩ := o
    cases c with
    | tup r => cases e; exact .base (.tup h)
    | lst r => cases e; exact .base (.lst h)
    | dic _ r => cases e; exact .base (.dK h)
    | dit _ _ => cases e
    | obj _ _ _ => cases e
    | wtp _ => cases e
def gIsi : List D → Option D
  | [d, .ty n] => (tyD d).bind fun t => (kitB t n).map .bl
  | _ => none
theorem RepP.ty_ {G : Pm} {W : Addr → Prop} {H : Hp} {v : V} {n : String} (r : RepP G W H v (.ty n)) : v = .ty n := by
  cases r with
  | rep r => cases r with
    | ty => rfl
    | ref _ _ c => cases c
  | own o => obtain ⟨u, _, _, c⟩ := o; cases c
theorem e_isi (hm : X.mg "isinstance" = none) (ha : DA X Z [a, b] f) (hg : Gl X "isinstance" := by rfl) (he : starEach [a, b] X.env = (false, eval a X.env) :: starEach [b] X.env := by rfl) (hpl : (backTo pos (starEach [b] X.env)).any (·.1) = false := by rfl) : DE X Z (.Call (.Name "isinstance" p1) [a, b] [] pos) (cN gIsi f) :=
  e_blt call_isi (fun {W H xs ds d Q} dom h e q => by
    unfold gIsi at e
    split at e
    · simp only [Option.bind_eq_some_iff, Option.map_eq_some_iff] at e
      obtain ⟨t, e1, r, e2, rfl⟩ := e
      obtain ⟨v, v2, rfl, h1, h2⟩ := h.two
      exact ⟨v, v2, _, _, r, rfl, by rw [h2.ty_]; exact .ty _, h1.ty e1, kit_ty e2, q _ H (Same.refl _) (.bl r)⟩
    · cases e) hm (by decide +kernel) ha hg (by decide) (by decide) he hpl
/-- a built-in class as a value -/
theorem d_bty {x : Str} {n : String} {p : Pos} (hm : X.mg x = none) (hv : bootBuiltins x = some (.type n)) (hg : Gl X x := by rfl) (hn : x ≠ "__name__" := by decide) (hd : (x == ("__debug__" : Str)) = false := by decide) : DE X Z (.Name x p) (cK (.ty n)) :=
  ⟨_, pe_bltn hg hm hv (v := .ty n) rfl (by first | exact hn | exact hd) (by first | exact hd | exact hn), det_c fun _ _ => .ty n⟩
end
end L3
namespace L3
open PySem PySem.Spec PyProof.Rows L2

/-! ### repr -/
theorem piled_eq (ts : List Str) : piled ts = (ts.map (·.length)).sum + 2 * ts.length := by
  induction ts with
  | nil => rfl
  | cons t r ih => rw [piled_cons, ih]; simp; omega
theorem int_len (i : Int) : (Str.ofString (toString i)).length ≤ i.natAbs.log2 + 3 := by
  have h := int_text_length_le (a := i) (k := i.natAbs.log2 + 1) (Nat.succ_pos _) (Nat.lt_succ_self _)
  rw [PySem.ofString_length]
  omega
mutual
theorem shown_len : ∀ (d : D) (n : Nat), pyOk n d = true → (py d).shown.length ≤ wt d
  | .non, _, _ => by simp only [py, PyData.shown, wt]; decide
  | .bl b, _, _ => by cases b <;> (simp only [py, PyData.shown, wt]; decide)
  | .int i, _, _ => by
    simp only [py, PyData.shown, wt]
    exact int_len i
  | .str x, n, h => by
    simp only [py, PyData.shown, wt]
    have h : PyData.strOk x = true := by cases n <;> simpa [pyOk] using h
    refine StrLaws.reprText_len x fun c hc => ?_
    have h2 : c < 0x110000 := by
      have := Array.all_eq_true'.mp h c (by simpa using hc)
      exact of_decide_eq_true this
    omega
  | .tup ds, n, h => by
    cases n with
    | zero => simp [pyOk] at h
    | succ n =>
      have h1 := shownL_len ds n (by simpa [pyOk] using h)
      simp only [py, PyData.shown, wt]
      have := tupleText_len_le (PyData.shownAll (pyL ds))
      rw [piled_eq] at h1
      omega
  | .lst ds, n, h => by
    cases n with
    | zero => simp [pyOk] at h
    | succ n =>
      have h1 := shownL_len ds n (by simpa [pyOk] using h)
      simp only [py, PyData.shown, wt]
      have := listText_len_le (PyData.shownAll (pyL ds))
      rw [piled_eq] at h1
      omega
  | .dic _, n, h => by cases n <;> simp [pyOk] at h
  | .dit _, n, h => by cases n <;> simp [pyOk] at h
  | .obj _ _ _, n, h => by cases n <;> simp [pyOk] at h
  | .ty _, n, h => by cases n <;> simp [pyOk] at h
theorem shownL_len : ∀ (ds : List D) (n : Nat), pyOkL n ds = true → piled (PyData.shownAll (pyL ds)) ≤ wtL ds
  | [], _, _ => by simp [pyL, PyData.shownAll, piled, wtL]
  | d :: r, n, h => by
    have e := (Bool.and_eq_true_iff.mp (show (pyOk n d && pyOkL n r) = true by cases n <;> simpa [pyOkL] using h))
    have h1 := shown_len d n e.1
    have h2 := shownL_len r n e.2
    simp only [pyL, PyData.shownAll, wtL]
    rw [piled_cons]
    omega
end
mutual
theorem small_show : ∀ d : D, smallD d = true → (py d).showable = true
  | .non, _ => by simp only [py, PyData.showable]
  | .bl _, _ => by simp only [py, PyData.showable]
  | .int i, h => by simpa only [py, PyData.showable, smallD] using h
  | .str _, _ => by simp only [py, PyData.showable]
  | .tup ds, h => by
    simp only [py, PyData.showable]
    exact smallL_show ds (by simpa [smallD] using h)
  | .lst ds, h => by
    simp only [py, PyData.showable]
    exact smallL_show ds (by simpa [smallD] using h)
  | .dic _, _ => by simp only [py, PyData.showable]
  | .dit _, _ => by simp only [py, PyData.showable]
  | .obj _ _ _, _ => by simp only [py, PyData.showable]
  | .ty _, _ => by simp only [py, PyData.showable]
theorem smallL_show : ∀ ds : List D, smallL ds = true → PyData.showableAll (pyL ds) = true
  | [], _ => by simp only [pyL, PyData.showableAll]
  | d :: r, h => by
    have h : smallD d = true ∧ smallL r = true := by simpa [smallL] using h
    simp only [pyL, PyData.showableAll, small_show d h.1, smallL_show r h.2, Bool.and_self]
end
/-- data that may be shown -/
def repOk (d : D) : Bool := pyOk 60 d && smallD d && decide (wt d ≤ 16000000)
def showD (d : D) : Str := (py d).shown
def gRepr : List D → Option D
  | [d] => if repOk d = true then some (.str (showD d)) else none
  | _ => none
section
variable {X : Cx} {Z : WXZ} {a b : Expr} {pos p1 : Pos} {fa fb : En → Out Pv} {f : En → Out (List Pv)}
theorem cr_repr {k : Nat} (hr : RoomG k X.A) : CallR X (.builtin "repr") (fun xs H Q => ∃ x d, xs = [x] ∧ Dp X.K H x d ∧ d.canLay0 = true ∧ d.showable = true ∧ d.depth ≤ 60 ∧ d.shown.length ≤ sizeLine ∧ Q (.str d.shown) H) := by
  rintro pins s σ H xs us Q I r ⟨x, d, rfl, h, hl, hs, hd, hz, q⟩
  obtain ⟨u, rfl, ru⟩ := vals1 r
  obtain ⟨as, rd⟩ := Dp.reads I d x u h ru
  cases rd with
  | none => exact PySem.P.repr_of_none ⟨.str _, H, I.tok _, ⟨_, rfl⟩, q⟩
  | bool b => exact PySem.P.repr_of_bool ⟨.str _, H, I.tok _, ⟨_, rfl⟩, q⟩
  | int i t => exact PySem.P.repr_of_int (by simpa [PyData.showable] using hs) ⟨.str _, H, I.tok _, ⟨_, rfl⟩, q⟩
  | str x t => exact PySem.P.repr_of_str ⟨.str _, H, I.tok _, ⟨_, rfl⟩, q⟩ (hsz := hz)
  | list h1 h2 h3 h4 =>
    have hu := hr.room.units
    exact repr_of_reads' (h₀ := s.heap) (Reads.list h1 h2 h3 h4) hs (PyData.noDict_hsm (PyData.hasDict_of_canLay _ hl)) hr.gd (by omega) (fun _ _ e => e) (fun h' u tk hk => ⟨.str _, H, I.kept hk, ⟨_, rfl⟩, q⟩) (hsz := hz)
  | tuple h1 h2 h3 h4 =>
    have hu := hr.room.units
    exact repr_of_reads' (h₀ := s.heap) (Reads.tuple h1 h2 h3 h4) hs (PyData.noDict_hsm (PyData.hasDict_of_canLay _ hl)) hr.gd (by omega) (fun _ _ e => e) (fun h' u tk hk => ⟨.str _, H, I.kept hk, ⟨_, rfl⟩, q⟩) (hsz := hz)
  | dict h1 h2 h3 h4 h5 => simp [PyData.canLay0] at hl
theorem repOk_iff {d : D} : repOk d = true ↔ pyOk 60 d = true ∧ smallD d = true ∧ wt d ≤ 16000000 := by
  unfold repOk
  rw [Bool.and_eq_true, Bool.and_eq_true, decide_eq_true_eq, and_assoc]
theorem e_repr {k : Nat} (hr : RoomG k X.A) (hm : X.mg "repr" = none) (ha : DA X Z [a] f) (hg : Gl X "repr" := by rfl) (he : starEach [a] X.env = (false, eval a X.env) :: starEach [] X.env := by rfl) (hpl : (backTo pos (starEach [] X.env)).any (·.1) = false := by rfl) :
    DE X Z (.Call (.Name "repr" p1) [a] [] pos) (cN gRepr f) := e_blt (cr_repr hr) (fun {W H xs ds d Q} dom h e q => by
    unfold gRepr at e
    split at e
    · split at e
      · rename_i d0 hk
        cases e
        obtain ⟨h1, h2, h3⟩ := repOk_iff.mp hk
        obtain ⟨v, rfl, hv⟩ := h.one
        obtain ⟨l1, l2⟩ := pyOk_lay _ _ h1
        refine ⟨v, _, rfl, hv.dp h1, l1, small_show _ h2, l2, ?_, q _ H (Same.refl _) (.str _)⟩
        have := shown_len _ _ h1
        rw [sizeLine_eq]
        omega
      · cases e
    · cases e) hm (by decide +kernel) ha hg (by decide) (by decide) he hpl
/-! is of bools -/
def gIsB : D → D → Option D
  | .bl a, .bl b => some (.bl (decide (a = b)))
  | _, _ => none
def gNotB : D → D → Option D
  | .bl a, .bl b => some (.bl (!decide (a = b)))
  | _, _ => none
theorem o_isB : Op2 X rIsB gIsB := fun {W H x y a b d Q} dom ha hb e q => by
  unfold gIsB at e
  split at e
  · cases e; exact ⟨_, _, ha.bl_, hb.bl_, q _ H (Same.refl _) (.bl _)⟩
  · cases e
theorem o_notB : Op2 X rNotB gNotB := fun {W H x y a b d Q} dom ha hb e q => by
  unfold gNotB at e
  split at e
  · cases e; exact ⟨_, _, ha.bl_, hb.bl_, q _ H (Same.refl _) (.bl _)⟩
  · cases e
theorem e_isB (ha : DE X Z a fa) (hb : DE X Z b fb) : DE X Z (.Compare a [.Is] [b] pos) (c2 gIsB fa fb) := d_cmp op_isBl o_isB ha hb (nomark _)
theorem t_isB (ha : DE X Z a fa) (hb : DE X Z b fb) : DT X Z (.Compare a [.Is] [b] pos) (cB (c2 gIsB fa fb)) := t_cmp op_isBl o_isB ha hb (nomark _)
theorem e_notB (ha : DE X Z a fa) (hb : DE X Z b fb) : DE X Z (.Compare a [.IsNot] [b] pos) (c2 gNotB fa fb) := d_cmp op_notBl o_notB ha hb (nomark _)
theorem t_notB (ha : DE X Z a fa) (hb : DE X Z b fb) : DT X Z (.Compare a [.IsNot] [b] pos) (cB (c2 gNotB fa fb)) := t_cmp op_notBl o_notB ha hb (nomark _)
end
end L3
namespace L3
open PySem PySem.Spec PyProof.Rows L2

/-! ### dicts with whole numbers and texts as keys -/
def keyD : D → Option Key
  | .int i => some (.inl i)
  | .str x => some (.inr x)
  | _ => none
def dlook (kvs : List (Key × D)) (k : Key) : Option D := (kvs.find? fun kv => decide (kv.1 = k)).map (·.2)
def dput (kvs : List (Key × D)) (k : Key) (d : D) : List (Key × D) :=
  if (kvs.any fun kv => decide (kv.1 = k)) = true then kvs.map (fun kv => if kv.1 = k then (kv.1, d) else kv) else kvs ++ [(k, d)]
section
variable {X : Cx} {Z : WXZ} {G : Pm} {W : Addr → Prop} {H : Hp} {v : V} {d : D} {a b : Expr} {pos p1 : Pos} {fa fb : En → Out Pv} {f : En → Out (List Pv)}
theorem RepP.key {x : V} {b : D} {k : Key} (r : RepP G W H x b) (e : keyD b = some k) : x = kV k := by
  unfold keyD at e
  split at e
  · cases e; rw [r.int_]; rfl
  · cases e; rw [r.str_]; rfl
  · cases e
theorem dlook_ok : ∀ {kvs : List (Key × V)} {kds : List (Key × D)} {k : Key}, kvs.map (·.1) = kds.map (·.1) → Reps G W H (kvs.map (·.2)) (kds.map (·.2)) →
    (dlook kds k = none ∧ valV kvs k = none) ∨ ∃ d v, dlook kds k = some d ∧ valV kvs k = some v ∧ Rep G W H v d
  | [], [], k, _, _ => .inl ⟨rfl, rfl⟩
  | [], _ :: _, _, h, _ => by simp at h
  | _ :: _, [], _, h, _ => by simp at h
  | p :: r, q :: s, k, h, c => by
    simp only [List.map_cons, List.cons.injEq] at h
    simp only [List.map_cons] at c
    cases c with
    | cons c1 c2 =>
      by_cases e : q.1 = k
      · refine .inr ⟨q.2, p.2, ?_, valV_pos (h.1.trans e), c1⟩
        simp [dlook, List.find?_cons, e]
      · have e2 : dlook (q :: s) k = dlook s k := by simp [dlook, List.find?_cons, e]
        rw [e2, valV_neg (fun z => e (h.1.symm.trans z))]
        exact dlook_ok h.2 c2
theorem any_keys {α : Type} {k : Key} : ∀ {kvs : List (Key × V)} {kds : List (Key × α)}, kvs.map (·.1) = kds.map (·.1) → (kvs.any fun kv => decide (kv.1 = k)) = kds.any fun kv => decide (kv.1 = k)
  | [], [], _ => rfl
  | [], _ :: _, h => by simp at h
  | _ :: _, [], h => by simp at h
  | p :: r, q :: s, h => by
    simp only [List.map_cons, List.cons.injEq] at h
    simp only [List.any_cons, h.1, any_keys h.2]
theorem dput_map {k : Key} {v : V} (rv : Rep G W H v d) : ∀ {kvs : List (Key × V)} {kds : List (Key × D)}, kvs.map (·.1) = kds.map (·.1) → Reps G W H (kvs.map (·.2)) (kds.map (·.2)) →
    (kvs.map (fun kv => if kv.1 = k then (kv.1, v) else kv)).map (·.1) = (kds.map (fun kv => if kv.1 = k then (kv.1, d) else kv)).map (·.1) ∧
    Reps G W H ((kvs.map (fun kv => if kv.1 = k then (kv.1, v) else kv)).map (·.2)) ((kds.map (fun kv => if kv.1 = k then (kv.1, d) else kv)).map (·.2))
  | [], [], _, _ => ⟨rfl, .nil⟩
  | [], _ :: _, h, _ => by simp at h
  | _ :: _, [], h, _ => by simp at h
  | p :: r, q :: s, h, c => by
    simp only [List.map_cons, List.cons.injEq] at h
    simp only [List.map_cons] at c
    cases c with
    | cons c1 c2 =>
      obtain ⟨h1, h2⟩ := dput_map rv h.2 c2
      simp only [List.map_cons]
      by_cases e : q.1 = k
      · rw [if_pos e, if_pos (h.1.trans e)]
        exact ⟨by simp only [h.1, h1], .cons rv h2⟩
      · rw [if_neg e, if_neg (fun z => e (h.1.symm.trans z))]
        exact ⟨by simp only [h.1, h1], .cons c1 h2⟩
theorem dput_ok {kvs : List (Key × V)} {kds : List (Key × D)} {k : Key} {v : V} (h : kvs.map (·.1) = kds.map (·.1)) (c : Reps G W H (kvs.map (·.2)) (kds.map (·.2))) (rv : Rep G W H v d) :
    (putK kvs k v).map (·.1) = (dput kds k d).map (·.1) ∧ Reps G W H ((putK kvs k v).map (·.2)) ((dput kds k d).map (·.2)) := by
  unfold putK dput
  rw [any_keys h]
  split
  · exact dput_map rv h c
  · refine ⟨by simp [h], ?_⟩
    rw [List.map_append, List.map_append]
    exact c.append (.cons rv .nil)
theorem RepP.dic {kds : List (Key × D)} (r : RepP G W H v (.dic kds)) : ∃ a kvs, v = .ref a ∧ Rd H a (.dK kvs) ∧ kvs.map (·.1) = kds.map (·.1) ∧ Reps G W H (kvs.map (·.2)) (kds.map (·.2)) := by
  cases r with
  | rep r =>
    cases r with
    | ref h w c => cases c with | dic k r => exact ⟨_, _, rfl, h, k, r⟩
  | own o =>
    obtain ⟨u, e, _, c⟩ := o
    cases c with
    | dic k r => exact ⟨_, _, rfl, .inl e, k, r⟩
theorem ix_dict (hu : X.A.units + 1 < cLine) : IxR X (fun x y H Q => ∃ a v, x = .ref a ∧ DGet H a y (some v) ∧ Q v H) := by
  rintro value slice pins s σ H x y v u Q I rx ry ⟨a, w', rfl, g, q⟩ hs
  cases rx
  exact tail_any (dict_typeIs I g) PySem.F.slot_dict_getitem.lookup (d_getItem hu I g ry fun w2 s2 I2 r2 => ⟨w', H, I2, r2, q⟩) hs
def gGet : D → D → Option D := fun x y => match x with
  | .dic kvs => (keyD y).bind (dlook kvs)
  | _ => gIx x y
theorem o_get (hu : X.A.units + 1 < cLine) : ∃ r, IxR X r ∧ Op2 X r gGet := by
  obtain ⟨r, h1, h2⟩ := o_ix (X := X)
  refine ⟨_, (ix_dict hu).or h1, fun {W H x y a b d Q} dom ha hb e q => ?_⟩
  cases a with
  | dic kds =>
    simp only [gGet, Option.bind_eq_some_iff] at e
    obtain ⟨k, e1, e2⟩ := e
    obtain ⟨a, kvs, rfl, h3, h4, h5⟩ := ha.dic
    rcases dlook_ok (k := k) h4 h5 with ⟨z, _⟩ | ⟨d', v, h6, h7, h8⟩
    · rw [z] at e2; cases e2
    · rw [h6] at e2; cases e2
      exact .inl ⟨a, v, rfl, .inl ⟨kvs, k, h3, hb.key e1, h7.symm⟩, q _ H (Same.refl _) h8⟩
  | _ => exact .inr (h2 dom ha hb e q)
theorem e_get {k : Nat} (hr : RoomG k X.A) (ha : DE X Z a fa) (hb : DE X Z b fb) (hs : PlainIx b := by exact fun _ _ => rfl) : DE X Z (.Subscript a b pos) (c2 gGet fa fb) :=
  let ⟨_, o, h⟩ := o_get (X := X) (hu_of hr.room); let ⟨_, pa, sa⟩ := ha; let ⟨_, pb, sb⟩ := hb; ⟨_, pe_ix o pa pb hs, det_2 h sa sb⟩

/-! ### x[i] = v : a list's place, a dict's key; x in a slot as one's own -/
def setD (x i d : D) : Option D := match x with
  | .lst ds => match i with
    | .int k => (ixN ds.length k).map fun j => .lst (ds.set j d)
    | _ => none
  | .dic kvs => (keyD i).bind fun k => if kvs.length < sizeLine then some (.dic (dput kvs k d)) else none
  | _ => none
def gSubD (i : Nat) (fi : En → Out Pv) : D → En → Out Unit := fun d ρ => if ((ρ[i]?).bind Sl.dat).isSome = false then .bad else (fi ρ).bind fun p ρ1 => match ρ1[i]? with
  | some s => match (Sl.dat s).bind fun x => (pvD ρ1 p).bind fun k => setD x k d with
    | some x' => .ok () (ρ1.set i (s.put x'))
    | none => .bad
  | none => .bad
theorem set_any (hu : X.A.units + 1 < cLine) : PSet X (fun o i v H Q => rSetL o i v H Q ∨ rSetD o i v H Q) := by
  intro pins s σ H o i v ov iv u Q I ro ri rv h
  rcases h with h | h
  · exact set_list pins s σ H o i v ov iv u Q I ro ri rv h
  · exact set_dict hu pins s σ H o i v ov iv u Q I ro ri rv h
theorem setD_ok {B : Bs} {as : List (Option Addr)} {σ : L2.St} {ρ : En} {i : Nat} {s : Sl} {x k : D} {x' : D} {kv : V} {aa : Addr} {Q : Hp → Prop} (R : Rel X.G B as σ H ρ) (hs : ρ[i]? = some s) (ha : as[i]? = some (some aa)) (hx : Sl.dat s = some x)
    (rk : RepP X.G (B.W as) H kv k) (rv : Rep X.G (B.W as) H v d) (e : setD x k d = some x') (q : ∀ H', Rel X.G B as σ H' (ρ.set i (s.put x')) → Go (Ad as) H (Ad as) H' → Q H') :
    rSetL (.ref aa) kv v H Q ∨ rSetD (.ref aa) kv v H Q := by
  obtain ⟨d0, h1, h2, u, e1, mu, c⟩ := R.at_a ha
  have ed : d0 = x := by
    rw [hs] at h2
    rcases h2 with h2 | h2 <;> (cases h2; cases hx; rfl)
  subst ed
  have fin : ∀ {o' : HO}, Mut (some o') → Cont X.G (B.W as) H o' x' → Q (upd H aa o') := fun {o'} m c' => by
    have c2 : Cont X.G (B.W as) (upd H aa o') o' x' := c'.stp fun b u hb n => ⟨by
      rw [upd_ne (fun z => n (by rw [z]; exact .inr (Ad.of ha)))]; exact hb, n⟩
    obtain ⟨R2, g2⟩ := R.mut hs ha upd_same (fun b hb => upd_ne hb) m c2
    exact q _ R2 g2
  unfold setD at e
  split at e
  · rename_i ds
    cases c with
    | lst r =>
      rename_i vs
      split at e
      · rename_i n
        simp only [Option.map_eq_some_iff] at e
        obtain ⟨j, e2, rfl⟩ := e
        refine .inl ⟨aa, vs, n, j, rfl, rk.int_, e1, by rw [r.length]; exact e2, fin True.intro (.lst (r.set rv j))⟩
      · cases e
  · rename_i kds
    cases c with
    | dic hk r =>
      rename_i kvs
      simp only [Option.bind_eq_some_iff] at e
      obtain ⟨key, e2, e3⟩ := e
      split at e3
      · rename_i hl
        cases e3
        obtain ⟨h3, h4⟩ := dput_ok (k := key) hk r rv
        have hlen : kvs.length = kds.length := by have := congrArg List.length hk; simpa using this
        exact .inr ⟨aa, _, rfl, .inl ⟨kvs, key, e1, rk.key e2, by rw [hlen]; exact hl, rfl⟩, fin True.intro (.dic h3 h4)⟩
      · cases e3
  · cases e
theorem GO.ofE {α : Type} {B : Bs} {as : List (Option Addr)} {σ : L2.St} {N : L2.St → Hp → Prop} {o : Out α} {k : α → En → Out Unit} (h : GO X Z B as H N (o.bind k)) : EO X Z B as σ H (fun a ρ1 H1 => GO X Z B as H1 N (k a ρ1)) o := by
  cases o with
  | ok a ρ' => exact fun H' R g => GO.after h g
  | exc e ρ' => exact fun cls dx H' R g x => h cls dx as σ H' R g x
  | bad => exact h
theorem g_sub {k i : Nat} {x : Str} {px : Pos} (hr : RoomG k X.A) (hi : DE X Z b fb) (hN : X.N[i]? = some x := by rfl) (hv : Vis X.env.scope x := by first | exact Or.inl rfl | exact Or.inr (Or.inl rfl) | exact Or.inr (Or.inr rfl))
    (hd : (x == ("__debug__" : Str)) = false := by decide) (hcd : (x == ("__classdict__" : Str)) = false := by decide)
    (ha : ∀ v, assign (.Subscript (.Name x px) b pos) X.env v = (do
      let ov ← holding [v] (eval (.Name x px) X.env)
      let iv ← holding [v, ov] (eval b X.env)
      standAt pos
      holding [v, ov, iv] (setItem ov iv v)
      release [v, ov, iv] []) := by intro _; rfl) : DG X Z (.Subscript (.Name x px) b pos) (gSubD i fb) := by
  obtain ⟨_, pb, sb⟩ := hi
  refine ⟨_, pg_sub (pe_var hN hv hd hcd) pb (set_any (hu_of hr.room)) ha, ⟨fun {B as σ H ρ v d N} R r q => ?_⟩⟩
  unfold gSubD at q
  split at q
  · exact q.elim
  rename_i hsome
  have hsome : ((ρ[i]?).bind Sl.dat).isSome = true := by cases q2 : ((ρ[i]?).bind Sl.dat).isSome with | true => rfl | false => exact absurd q2 hsome
  obtain ⟨x0, hx0⟩ := Option.isSome_iff_exists.mp hsome
  simp only [Option.bind_eq_some_iff] at hx0
  obtain ⟨s0, e0, e0'⟩ := hx0
  obtain ⟨aa, h1, h2⟩ : ∃ aa, σ[i]? = some (some (.ref aa)) ∧ as[i]? = some (some aa) := by
    obtain ⟨v, a, h3, h4, h5⟩ := R.at_s e0
    cases h5 with
    | un => cases e0'
    | val => cases e0'
    | own o => exact ⟨_, h3, h4⟩
    | bor o => exact ⟨_, h3, h4⟩
  refine ⟨_, h1, sb.go R (q.ofE.imp fun p ρ1 H1 R1 g1 q1 kv k1 => ?_)⟩
  cases es : ρ1[i]? with
  | none => rw [es] at q1; exact q1.elim
  | some s =>
    rw [es] at q1
    dsimp only at q1
    cases ex : Sl.dat s with
    | none => rw [ex] at q1; exact q1.elim
    | some x =>
      rw [ex] at q1
      cases ep : pvD ρ1 p with
      | none => rw [ep] at q1; exact q1.elim
      | some k =>
        rw [ep] at q1
        simp only [Option.bind_some] at q1
        cases et : setD x k d with
        | none => rw [et] at q1; exact q1.elim
        | some x' =>
          rw [et] at q1
          exact setD_ok R1 es h2 ex (k1.peek R1 ep) (r.go g1) et fun H' R' g' => q1 as σ H' R' g'
end
end L3
namespace L3
open PySem PySem.Spec PyProof.Rows L2

/-! ### methods of lists of one's own -/
/-- the content and the arguments; the result and the content behind -/
def OpM (X : Cx) (r : V → List V → Hp → VK → Prop) (g : D → List D → Option (D × D)) : Prop := ∀ {W : Addr → Prop} {H : Hp} {a : Addr} {o : HO} {c : D} {vs : List V} {ds : List D} {d c' : D} {Q : VK},
  H a = some o → Mut (some o) → W a → Cont X.G W H o c → Reps X.G W H vs ds → g c ds = some (d, c') →
  (∀ v o', Mut (some o') → Cont X.G W H o' c' → Rep X.G W H v d → Q v (upd H a o')) → r (.ref a) vs H Q
def cM (i : Nat) (g : D → List D → Option (D × D)) (f : En → Out (List Pv)) : En → Out Pv := fun ρ => match (ρ[i]?).bind Sl.dat with
  | some (.lst _) => (f ρ).bind fun ps ρ1 => match ρ1[i]? with
    | some s => match (Sl.dat s).bind fun c => (pvs ps).bind fun ds => g c ds with
      | some (d, c') => .ok (.v d) (ρ1.set i (s.put c'))
      | none => .bad
    | none => .bad
  | _ => .bad
section
variable {X : Cx} {Z : WXZ} {G : Pm} {W : Addr → Prop} {H : Hp} {v : V} {d : D} {B : Bs} {as : List (Option Addr)} {σ : L2.St} {ρ : En}
theorem Rel.own_slot (R : Rel X.G B as σ H ρ) {i : Nat} {x : D} (h : (ρ[i]?).bind Sl.dat = some x) : ∃ s aa, ρ[i]? = some s ∧ Sl.dat s = some x ∧ σ[i]? = some (some (.ref aa)) ∧ as[i]? = some (some aa) ∧ Own X.G (B.W as) H aa x := by
  simp only [Option.bind_eq_some_iff] at h
  obtain ⟨s0, e0, e0'⟩ := h
  obtain ⟨v, a, h3, h4, h5⟩ := R.at_s e0
  cases h5 with
  | un => cases e0'
  | val => cases e0'
  | own o => cases e0'; exact ⟨_, _, e0, rfl, h3, h4, o⟩
  | bor o => cases e0'; exact ⟨_, _, e0, rfl, h3, h4, o⟩
/-- one's own object is changed -/
theorem Rel.put (R : Rel X.G B as σ H ρ) {i : Nat} {s : Sl} {x' : D} {aa : Addr} {o' : HO} (hs : ρ[i]? = some s) (ha : as[i]? = some (some aa)) (m : Mut (some o')) (c : Cont X.G (B.W as) H o' x') :
    Rel X.G B as σ (upd H aa o') (ρ.set i (s.put x')) ∧ Go (Ad as) H (Ad as) (upd H aa o') ∧ Stp (B.W as) H (B.W as) (upd H aa o') := by
  have st : Stp (B.W as) H (B.W as) (upd H aa o') := fun b u hb n => ⟨by rw [upd_ne (fun z => n (by rw [z]; exact .inr (Ad.of ha)))]; exact hb, n⟩
  obtain ⟨R2, g2⟩ := R.mut hs ha upd_same (fun b hb => upd_ne hb) m (c.stp st)
  exact ⟨R2, g2, st⟩
theorem det_M {i : Nat} {r : V → List V → Hp → VK → Prop} {g : D → List D → Option (D × D)} {t : TA} {f : En → Out (List Pv)} (hr : OpM X r g) (ha : DAt X Z t f) : DEt X Z (tBM X.K "list" r (tVar i) t) (cM i g f) := by
  refine ⟨fun {B as σ H ρ Q} R q => ?_⟩
  unfold cM at q
  cases e0 : (ρ[i]?).bind Sl.dat with
  | none => rw [e0] at q; exact q.elim
  | some x0 =>
    rw [e0] at q
    obtain ⟨s0, aa, h1, h2, h3, h4, o0⟩ := R.own_slot e0
    cases x0 with
    | lst ds0 =>
      refine ⟨_, h3, ?_, ?_⟩
      · obtain ⟨u, hu, _, c⟩ := o0
        cases c with
        | lst _ => exact .inl ⟨rfl, _, .inl (.inl hu)⟩
      · refine ha.go R (q.bind.imp fun ps ρ1 H1 R1 g1 q1 vs k1 => ?_)
        cases es : ρ1[i]? with
        | none => rw [es] at q1; exact q1.elim
        | some s =>
          rw [es] at q1
          dsimp only at q1
          cases ex : Sl.dat s with
          | none => rw [ex] at q1; exact q1.elim
          | some x =>
            rw [ex] at q1
            cases ep : pvs ps with
            | none => rw [ep] at q1; exact q1.elim
            | some ds =>
              rw [ep] at q1
              simp only [Option.bind_some] at q1
              cases eg : g x ds with
              | none => rw [eg] at q1; exact q1.elim
              | some dc =>
                obtain ⟨d, c'⟩ := dc
                rw [eg] at q1
                obtain ⟨d0, h5, h6, u, hu, mu, c⟩ := R1.at_a h4
                have ed : d0 = x := by
                  rw [es] at h6
                  rcases h6 with h6 | h6 <;> (cases h6; cases ex; rfl)
                subst ed
                refine hr hu mu (.inr (Ad.of h4)) c (k1.reps ep) eg fun v o' m c2 rv => ?_
                obtain ⟨R2, g2, st⟩ := R1.put es h4 m c2
                exact q1 _ R2 g2 v (.v (rv.stp st))
    | _ => exact q.elim
variable {i : Nat} {x : Str} {px apos cpos : Pos} {e : Expr} {es : List Expr} {f : En → Out (List Pv)}
theorem e_bm {id name : String} {r : V → List V → Hp → VK → Prop} {g : D → List D → Option (D × D)} (slot : Slot "list" name id) (hty : typeOf (.builtin id) = pure (.type "method_descriptor")) (hm : MtR X id r) (hr : OpM X r g) (ha : DA X Z (e :: es) f)
    (hN : X.N[i]? = some x := by rfl) (hv : Vis X.env.scope x := by first | exact Or.inl rfl | exact Or.inr (Or.inl rfl) | exact Or.inr (Or.inr rfl)) (hd : (x == ("__debug__" : Str)) = false := by decide) (hcd : (x == ("__classdict__" : Str)) = false := by decide)
    (hbase : attributeBase (.Name x px) name X.env (eval (.Name x px) X.env) = eval (.Name x px) X.env := by rfl)
    (hfew : ((backTo cpos (starEach (e :: es) X.env)).all (fun x => !x.1) && (backToKw cpos (keywordEach [] X.env)).all (fun x => x.1.isSome) && decide ((e :: es).length + ([] : List Keyword).length + (if ([] : List Keyword).isEmpty then 0 else 1) < 30)) = true := by rfl)
    (hline : (apos.endLine == cpos.line) = true := by rfl) (hs : starEach (e :: es) X.env = (false, eval e X.env) :: starEach es X.env := by rfl) (hplain : (backTo cpos (starEach es X.env)).any (·.1) = false := by rfl) :
    DE X Z (.Call (.Attribute (.Name x px) name apos) (e :: es) [] cpos) (cM i g f) :=
  let ⟨_, p, s⟩ := ha; ⟨_, pe_bm PySem.F.plainAttrs_list slot hty hm (pe_var hN hv hd hcd) p hbase hfew hline hs hplain, det_M hr s⟩
def gAppend : D → List D → Option (D × D)
  | .lst xs, [d] => if xs.length < sizeLine then some (.non, .lst (xs ++ [d])) else none
  | _, _ => none
theorem o_append : OpM X rAppend gAppend := fun {W H a o c vs ds d c' Q} h mu w k r e q => by
  unfold gAppend at e
  split at e
  · split at e
    · rename_i hl
      cases e
      cases k with
      | lst rk =>
        cases r with
        | cons r1 rn =>
          cases rn
          exact ⟨_, _, _, rfl, rfl, h, by rw [rk.length]; exact hl, q .non _ True.intro (.lst (rk.append (.cons r1 .nil))) .non⟩
    · cases e
  · cases e
def gPopAt : D → List D → Option (D × D)
  | .lst xs, [.int i] => if inR i = true then (ixN xs.length i).bind fun k => (xs[k]?).map fun d => (d, .lst (xs.eraseIdx k)) else none
  | _, _ => none
theorem o_popAt : OpM X rPopAt gPopAt := fun {W H a o c vs ds d c' Q} h mu w k r e q => by
  unfold gPopAt at e
  split at e
  · split at e
    · rename_i xs i hi
      have hi := inR_b hi
      simp only [Option.bind_eq_some_iff, Option.map_eq_some_iff] at e
      obtain ⟨j, e1, d0, e2, e3⟩ := e
      cases e3
      cases k with
      | lst rk =>
        cases r with
        | cons r1 rn =>
          cases rn
          obtain ⟨v, h1, h2⟩ := rk.get e2
          obtain ⟨h3, h4, h5, h6⟩ := ixN_seq e1
          exact ⟨_, _, i, j, v, rfl, by rw [r1.int_], h, by omega, by omega, by rw [rk.length]; exact h3, h1, q v _ True.intro (.lst (rk.erase j)) h2⟩
    · cases e
  · cases e
/-- name.append(e) -/
theorem e_append (ha : DA X Z [e] f) (hN : X.N[i]? = some x := by rfl) (hv : Vis X.env.scope x := by first | exact Or.inl rfl | exact Or.inr (Or.inl rfl) | exact Or.inr (Or.inr rfl)) (hd : (x == ("__debug__" : Str)) = false := by decide) (hcd : (x == ("__classdict__" : Str)) = false := by decide)
    (hbase : attributeBase (.Name x px) "append" X.env (eval (.Name x px) X.env) = eval (.Name x px) X.env := by rfl)
    (hfew : ((backTo cpos (starEach [e] X.env)).all (fun x => !x.1) && (backToKw cpos (keywordEach [] X.env)).all (fun x => x.1.isSome) && decide ([e].length + ([] : List Keyword).length + (if ([] : List Keyword).isEmpty then 0 else 1) < 30)) = true := by rfl)
    (hline : (apos.endLine == cpos.line) = true := by rfl) (hs : starEach [e] X.env = (false, eval e X.env) :: starEach [] X.env := by rfl) (hplain : (backTo cpos (starEach [] X.env)).any (·.1) = false := by rfl) :
    DE X Z (.Call (.Attribute (.Name x px) "append" apos) [e] [] cpos) (cM i gAppend f) := e_bm PySem.F.slot_list_append PySem.F.type_list_append mt_append o_append ha hN hv hd hcd hbase hfew hline hs hplain
theorem e_popAt (ha : DA X Z [e] f) (hN : X.N[i]? = some x := by rfl) (hv : Vis X.env.scope x := by first | exact Or.inl rfl | exact Or.inr (Or.inl rfl) | exact Or.inr (Or.inr rfl)) (hd : (x == ("__debug__" : Str)) = false := by decide) (hcd : (x == ("__classdict__" : Str)) = false := by decide)
    (hbase : attributeBase (.Name x px) "pop" X.env (eval (.Name x px) X.env) = eval (.Name x px) X.env := by rfl)
    (hfew : ((backTo cpos (starEach [e] X.env)).all (fun x => !x.1) && (backToKw cpos (keywordEach [] X.env)).all (fun x => x.1.isSome) && decide ([e].length + ([] : List Keyword).length + (if ([] : List Keyword).isEmpty then 0 else 1) < 30)) = true := by rfl)
    (hline : (apos.endLine == cpos.line) = true := by rfl) (hs : starEach [e] X.env = (false, eval e X.env) :: starEach [] X.env := by rfl) (hplain : (backTo cpos (starEach [] X.env)).any (·.1) = false := by rfl) :
    DE X Z (.Call (.Attribute (.Name x px) "pop" apos) [e] [] cpos) (cM i gPopAt f) := e_bm PySem.F.slot_list_pop PySem.F.type_list_pop mt_popAt o_popAt ha hN hv hd hcd hbase hfew hline hs hplain
end
end L3
namespace L3
open PySem PySem.Spec PyProof.Rows L2 RZ

/-! ### zip of two lists, of two tuples -/
section
variable {X : Cx} {Z : WXZ} {B : Bs} {as : List (Option Addr)} {H : Hp}
def zipD (ds es : List D) : List D := (ds.zip es).map fun p => .obj "" [] [p.1, p.2]
def iZ (f : En → Out (List Pv)) : En → Out (List D) := fun ρ => (f ρ).bind fun ps ρ1 => match ps with
  | [.v (.lst ds), .v (.lst es)] => .ok (zipD ds es) ρ1
  | [.v (.tup ds), .v (.tup es)] => .ok (zipD ds es) ρ1
  | _ => .bad
theorem zipD_at {ds es : List D} {i : Nat} {d : D} (h : (zipD ds es)[i]? = some d) : ∃ x y, ds[i]? = some x ∧ es[i]? = some y ∧ d = .obj "" [] [x, y] := by
  unfold zipD at h
  rw [List.getElem?_map, Option.map_eq_some_iff] at h
  obtain ⟨⟨x, y⟩, h1, rfl⟩ := h
  rw [List.getElem?_zip_eq_some] at h1
  exact ⟨x, y, h1.1, h1.2, rfl⟩
theorem zipD_len (ds es : List D) : (zipD ds es).length = min ds.length es.length := by simp [zipD]
theorem walks_zipL {a b : Addr} {xs ys : List V} {ds es : List D} (h1 : Rd H a (.lst xs)) (w1 : ¬ B.W as a) (r1 : Reps X.G (B.W as) H xs ds) (h2 : Rd H b (.lst ys)) (w2 : ¬ B.W as b) (r2 : Reps X.G (B.W as) H ys es) :
    Walks X B as H (Itz X.K a b) (zipD ds es) := by
  intro A H2 dom g
  have g1 : SqL X.K H2 a xs := .inl (Rd.stp h1 g.stp w1).1
  have g2 : SqL X.K H2 b ys := .inl (Rd.stp h2 g.stp w2).1
  have q1 := r1.go g
  have q2 := r2.go g
  refine ⟨⟨xs, ys, g1, g2, ?_⟩, fun i d e => ?_⟩
  · rw [zipD_len, q1.length, q2.length]; omega
  · obtain ⟨x, y, e1, e2, rfl⟩ := zipD_at e
    obtain ⟨v, f1, p1⟩ := q1.get e1
    obtain ⟨u, f2, p2⟩ := q2.get e2
    refine ⟨⟨xs, ys, v, u, g1, g2, f1, f2⟩, ?_⟩
    rintro z H3 ⟨T, v', u', rfl, nT, rfl, k1, k2⟩
    have := k1 xs g1; rw [f1] at this; cases this
    have := k2 ys g2; rw [f2] at this; cases this
    exact ⟨Same.new nT, Rep.newWtp dom nT (.cons p1 (.cons p2 .nil))⟩
theorem walks_zipT {a b : Addr} {xs ys : List V} {ds es : List D} (h1 : (Rd H a (.tup xs) ∧ ¬ B.W as a) ∨ ConT X.K a xs) (r1 : Reps X.G (B.W as) H xs ds) (h2 : (Rd H b (.tup ys) ∧ ¬ B.W as b) ∨ ConT X.K b ys) (r2 : Reps X.G (B.W as) H ys es) :
    Walks X B as H (ItzT X.K a b) (zipD ds es) := by
  intro A H2 dom g
  have g1 : SqT X.K H2 a xs := by
    rcases h1 with ⟨h, w⟩ | h
    · exact .inl (Rd.stp h g.stp w).1
    · exact h.sq
  have g2 : SqT X.K H2 b ys := by
    rcases h2 with ⟨h, w⟩ | h
    · exact .inl (Rd.stp h g.stp w).1
    · exact h.sq
  have q1 := r1.go g
  have q2 := r2.go g
  refine ⟨⟨xs, ys, g1, g2, ?_⟩, fun i d e => ?_⟩
  · rw [zipD_len, q1.length, q2.length]; omega
  · obtain ⟨x, y, e1, e2, rfl⟩ := zipD_at e
    obtain ⟨v, f1, p1⟩ := q1.get e1
    obtain ⟨u, f2, p2⟩ := q2.get e2
    refine ⟨⟨xs, ys, v, u, g1, g2, f1, f2⟩, ?_⟩
    rintro z H3 ⟨T, v', u', rfl, nT, rfl, k1, k2⟩
    have := k1 xs g1; rw [f1] at this; cases this
    have := k2 ys g2; rw [f2] at this; cases this
    exact ⟨Same.new nT, Rep.newWtp dom nT (.cons p1 (.cons p2 .nil))⟩
theorem Rep.lstA {G : Pm} {W : Addr → Prop} {v : V} {ds : List D} (r : Rep G W H v (.lst ds)) : ∃ a vs, v = .ref a ∧ Rd H a (.lst vs) ∧ ¬ W a ∧ Reps G W H vs ds := by
  cases r with
  | ref h w c => cases c with | lst r => exact ⟨_, _, rfl, h, w, r⟩
theorem Rep.tupA {G : Pm} {W : Addr → Prop} {v : V} {ds : List D} (r : Rep G W H v (.tup ds)) : ∃ a vs, v = .ref a ∧ ((Rd H a (.tup vs) ∧ ¬ W a) ∨ ConT G.K a vs) ∧ Reps G W H vs ds := by
  cases r with
  | ref h w c => cases c with | tup r => exact ⟨_, _, rfl, .inl ⟨h, w⟩, r⟩
  | tupK h r => exact ⟨_, _, rfl, .inr h, r⟩
theorem tup_sq {K : PySem.W.Frag} {W : Addr → Prop} {a : Addr} {vs : List V} (h : (Rd H a (.tup vs) ∧ ¬ W a) ∨ ConT K a vs) : SqT K H a vs := h.elim (fun z => .inl z.1) fun z => z.sq
theorem i_zip {e e2 : Expr} {p pos tpos : Pos} {elts : List Expr} {kk : Nat} {f : En → Out (List Pv)} (h : DA X Z [e, e2] f) (hg : Gl X "zip") (hm : X.mg "zip" = none)
    (hs : starEach [e, e2] X.env = (false, eval e X.env) :: starEach [e2] X.env := by rfl) (hpl : (backTo pos (starEach [e2] X.env)).any (·.1) = false := by rfl) :
    DI X Z (.Tuple elts kk tpos) (.Call (.Name "zip" p) [e, e2] [] pos) (iZ f) := by
  obtain ⟨_, pa, s⟩ := h
  refine ⟨_, pi_zipA hg hm pa hs hpl, ⟨fun {B as σ H ρ R'} R q => s.go R (q.bind.imp fun ps ρ1 H1 R1 g1 q1 vs k1 => ?_)⟩⟩
  cases k1 with
  | nil => exact q1.elim
  | cons k1 k2 =>
    cases k2 with
    | nil =>
      cases k1 with
      | b _ => exact q1.elim
      | @v u1 d1 k1 => cases d1 <;> exact q1.elim
    | cons k2 k3 =>
      cases k1 with
      | b _ => exact q1.elim
      | @v u1 d1 k1 =>
        cases k2 with
        | b _ => cases d1 <;> exact q1.elim
        | @v u2 d2 k2 =>
          cases k3 with
          | cons _ _ => cases d1 <;> first | exact q1.elim | (cases d2 <;> exact q1.elim)
          | nil =>
            cases d1 with
            | lst ds =>
              cases d2 with
              | lst es =>
                obtain ⟨a, xs, rfl, a1, a2, a3⟩ := k1.lstA
                obtain ⟨b, ys, rfl, b1, b2, b3⟩ := k2.lstA
                exact ⟨a, b, xs, ys, rfl, .inl ⟨.inl a1, .inl b1, q1 H1 R1 .refl _ H1 (Same.refl _) (walks_zipL a1 a2 a3 b1 b2 b3)⟩⟩
              | _ => exact q1.elim
            | tup ds =>
              cases d2 with
              | tup es =>
                obtain ⟨a, xs, rfl, a1, a3⟩ := k1.tupA
                obtain ⟨b, ys, rfl, b1, b3⟩ := k2.tupA
                exact ⟨a, b, xs, ys, rfl, .inr ⟨tup_sq a1, tup_sq b1, q1 H1 R1 .refl _ H1 (Same.refl _) (walks_zipT a1 a3 b1 b3)⟩⟩
              | _ => exact q1.elim
            | _ => exact q1.elim

/-! ### all, any -/
def asBls : List D → Option (List Bool)
  | [] => some []
  | .bl b :: r => (asBls r).map (b :: ·)
  | _ :: _ => none
theorem asBls_some : ∀ {ds : List D} {bs : List Bool}, asBls ds = some bs → ds = bs.map D.bl
  | [], _, h => by cases h; rfl
  | .bl b :: r, bs, h => by
    simp only [asBls, Option.map_eq_some_iff] at h
    obtain ⟨m, h1, rfl⟩ := h
    rw [asBls_some h1]; rfl
  | .non :: _, _, h | .int _ :: _, _, h | .str _ :: _, _, h | .tup _ :: _, _, h | .lst _ :: _, _, h | .dic _ :: _, _, h | .dit _ :: _, _, h | .obj _ _ _ :: _, _, h | .ty _ :: _, _, h => by cases h
theorem asBls_map (bs : List Bool) : asBls (bs.map D.bl) = some bs := by
  induction bs with
  | nil => rfl
  | cons n r ih => simp [asBls, ih]
theorem Reps.blsV {G : Pm} {W : Addr → Prop} : ∀ {vs : List V} {bs : List Bool}, Reps G W H vs (bs.map D.bl) → vs = bs.map V.bl
  | _, [], .nil => rfl
  | _, b :: bs, .cons h t => by
    rw [Reps.blsV t, List.map_cons]
    cases h with
    | bl => rfl
    | ref _ _ c => cases c
def gAll : List D → Option D
  | [.lst ds] => (asBls ds).map fun bs => .bl (bs.all id)
  | _ => none
def gAny : List D → Option D
  | [.lst ds] => (asBls ds).map fun bs => .bl (bs.any id)
  | _ => none
variable {a : Expr} {pos p1 : Pos} {f : En → Out (List Pv)}
theorem e_all (hc : X.calm = true) (hm : X.mg "all" = none) (ha : DA X Z [a] f) (hg : Gl X "all" := by rfl) (he : starEach [a] X.env = (false, eval a X.env) :: starEach [] X.env := by rfl) (hpl : (backTo pos (starEach [] X.env)).any (·.1) = false := by rfl) :
    DE X Z (.Call (.Name "all" p1) [a] [] pos) (cN gAll f) :=
  e_blt (cr_all hc) (fun {W H xs ds d Q} dom h e q => by
    unfold gAll at e
    split at e
    · simp only [Option.map_eq_some_iff] at e
      obtain ⟨bs, e1, rfl⟩ := e
      have := asBls_some e1
      subst this
      obtain ⟨v, rfl, hv⟩ := h.one
      obtain ⟨b, vs, rfl, s1, r1⟩ := hv.lst
      rw [r1.blsV] at s1
      exact ⟨b, bs, rfl, .inl s1, q _ H (Same.refl _) (.bl _)⟩
    · cases e) hm (by decide +kernel) ha hg (by decide) (by decide) he hpl
theorem e_any (hc : X.calm = true) (hm : X.mg "any" = none) (ha : DA X Z [a] f) (hg : Gl X "any" := by rfl) (he : starEach [a] X.env = (false, eval a X.env) :: starEach [] X.env := by rfl) (hpl : (backTo pos (starEach [] X.env)).any (·.1) = false := by rfl) :
    DE X Z (.Call (.Name "any" p1) [a] [] pos) (cN gAny f) :=
  e_blt (cr_any hc) (fun {W H xs ds d Q} dom h e q => by
    unfold gAny at e
    split at e
    · simp only [Option.map_eq_some_iff] at e
      obtain ⟨bs, e1, rfl⟩ := e
      have := asBls_some e1
      subst this
      obtain ⟨v, rfl, hv⟩ := h.one
      obtain ⟨b, vs, rfl, s1, r1⟩ := hv.lst
      rw [r1.blsV] at s1
      exact ⟨b, bs, rfl, .inl s1, q _ H (Same.refl _) (.bl _)⟩
    · cases e) hm (by decide +kernel) ha hg (by decide) (by decide) he hpl

/-! ### name += e, name -= e : whole numbers -/
theorem s_aug_add {i : Nat} {x : Str} {e : Expr} {pos pos' : Pos} {f : En → Out Pv} (hN : X.N.Nodup) (h : DE X Z e f) (hi : X.N[i]? = some x := by rfl) (hx : Loc X.env.scope x := by first | exact Or.inl rfl | exact Or.inr rfl)
    (hf : X.fn x = true ∨ X.env.scope.names.lookup x = some .local := by first | exact .inl rfl | exact .inr rfl | assumption) : DS X Z (.AugAssign (.Name x pos') .Add e pos) (sAug i f (gI (· + ·))) :=
  s_aug hN (r := ipI fun i j => i + j) ip_add (fun {W H x y a b d Q} dom ha hb e q => by
    unfold gI at e
    split at e
    · cases e; exact ⟨_, _, ha.int_, hb.int_, q _ H (Same.refl _) (.int _)⟩
    · cases e) h hi hx hf
theorem s_aug_sub {i : Nat} {x : Str} {e : Expr} {pos pos' : Pos} {f : En → Out Pv} (hN : X.N.Nodup) (h : DE X Z e f) (hi : X.N[i]? = some x := by rfl) (hx : Loc X.env.scope x := by first | exact Or.inl rfl | exact Or.inr rfl)
    (hf : X.fn x = true ∨ X.env.scope.names.lookup x = some .local := by first | exact .inl rfl | exact .inr rfl | assumption) : DS X Z (.AugAssign (.Name x pos') .Sub e pos) (sAug i f (gI (· - ·))) :=
  s_aug hN (r := ipI fun i j => i - j) ip_sub (fun {W H x y a b d Q} dom ha hb e q => by
    unfold gI at e
    split at e
    · cases e; exact ⟨_, _, ha.int_, hb.int_, q _ H (Same.refl _) (.int _)⟩
    · cases e) h hi hx hf
end
end L3
namespace L3
open PySem PySem.Spec PyProof.Rows L2
/-! ### a op b op c -/
section
variable {X : Cx} {Z : WXZ} {a b c : Expr} {pos : Pos} {fa fb fc : En → Out Pv} {g g' : D → D → Option D}
def cChain (g g' : D → D → Option D) (fa fb fc : En → Out Pv) : En → Out Pv := fun ρ => (fa ρ).bind fun p ρ1 => (fb ρ1).bind fun q ρ2 => match (pvD ρ2 p).bind fun x => (pvD ρ2 q).bind fun y => g x y with
  | some (.bl true) => (fc ρ2).bind fun r ρ3 => ofO ((pvD ρ3 q).bind fun y => (pvD ρ3 r).bind fun z => g' y z) ρ3
  | some (.bl false) => .ok (.v (.bl false)) ρ2
  | _ => .bad
theorem det_chain {r r' : R2} {ta tb tc : TE} (hr : Op2 X r g) (hr' : Op2 X r' g') (sa : DEt X Z ta fa) (sb : DEt X Z tb fb) (sc : DEt X Z tc fc) : DEt X Z (tChain r r' ta tb tc) (cChain g g' fa fb fc) := by
  refine ⟨fun {B as σ H ρ Q} R q => sa.go R (q.bind.imp fun p ρ1 H1 R1 g1 q1 v k1 => sb.go R1 (q1.bind.imp fun p' ρ2 H2 R2 g2 q2 u k2 => ?_))⟩
  cases ep : pvD ρ2 p with
  | none => rw [ep] at q2; exact q2.elim
  | some x =>
    cases eq : pvD ρ2 p' with
    | none => rw [ep, eq] at q2; exact q2.elim
    | some y =>
      rw [ep, eq] at q2
      simp only [Option.bind_some] at q2
      cases eg : g x y with
      | none => rw [eg] at q2; exact q2.elim
      | some d =>
        rw [eg] at q2
        refine hr R2.domA ((k1.go g2).peek R2 ep) (k2.peek R2 eq) eg fun w H3 s3 rw3 => ?_
        cases d with
        | bl k =>
          have ew : w = .bl k := by
            cases rw3 with
            | bl => rfl
            | ref _ _ c => cases c
          subst ew
          have R3 := R2.same s3
          refine ⟨k, rfl, ?_⟩
          cases k with
          | false => exact iteF (q2 H3 R3 (.of_same s3) _ (.v (.bl false)))
          | true =>
            refine iteT (sc.go R3 (q2.bind.after (.of_same s3) |>.imp fun p3 ρ4 H4 R4 g4 q4 z k4 => ?_))
            obtain ⟨d, e, q⟩ := q4.ofO R4
            cases e1 : pvD ρ4 p' with
            | none => rw [e1] at e; cases e
            | some y' =>
              rw [e1] at e
              cases e2 : pvD ρ4 p3 with
              | none => rw [e2] at e; cases e
              | some z' =>
                rw [e2] at e
                exact hr' R4.domA (((k2.go (.of_same s3)).go g4).peek R4 e1) (k4.peek R4 e2) e q
        | _ => exact q2.elim
theorem e_chain {op op' : CmpOp} {r r' : R2} (ho : OpR X (compareOp op) r) (hr : Op2 X r g) (ho' : OpR X (compareOp op') r') (hr' : Op2 X r' g') (ha : DE X Z a fa) (hb : DE X Z b fb) (hc : DE X Z c fc)
    (hm : lastMarks [op, op'] [b, c] = false := by with_unfolding_all rfl) : DE X Z (.Compare a [op, op'] [b, c] pos) (cChain g g' fa fb fc) :=
  let ⟨_, pa, sa⟩ := ha; let ⟨_, pb, sb⟩ := hb; let ⟨_, pc, sc⟩ := hc; ⟨_, pe_chain ho ho' pa pb pc hm, det_chain hr hr' sa sb sc⟩
theorem t_chain {op op' : CmpOp} {r r' : R2} (ho : OpR X (compareOp op) r) (hr : Op2 X r g) (ho' : OpR X (compareOp op') r') (hr' : Op2 X r' g') (ha : DE X Z a fa) (hb : DE X Z b fb) (hc : DE X Z c fc)
    (hm : lastMarks [op, op'] [b, c] = false := by with_unfolding_all rfl) : DT X Z (.Compare a [op, op'] [b, c] pos) (cB (cChain g g' fa fb fc)) :=
  let ⟨_, pa, sa⟩ := ha; let ⟨_, pb, sb⟩ := hb; let ⟨_, pc, sc⟩ := hc; ⟨_, pt_chain ho ho' pa pb pc hm, dtt_B (det_chain hr hr' sa sb sc)⟩
end
/-! ### in, not in : flat items of a list, a tuple -/
def flD : D → Option V
  | .non => some .non
  | .bl b => some (.bl b)
  | .int i => some (.int i)
  | .str x => some (.str x)
  | _ => none
def flDs : List D → Option (List V)
  | [] => some []
  | d :: r => (flD d).bind fun v => (flDs r).map (v :: ·)
def seqD : D → Option (List D)
  | .lst ds => some ds
  | .tup ds => some ds
  | _ => none
def gIn (neg : Bool) (a b : D) : Option D := (flD a).bind fun x => (seqD b).bind fun ds => (flDs ds).map fun xs => .bl (if neg then !inV x xs else inV x xs)
section
variable {X : Cx} {Z : WXZ} {G : Pm} {W : Addr → Prop} {H : Hp} {a b : Expr} {pos : Pos} {fa fb : En → Out Pv}
theorem RepP.fl {x : V} {d : D} {v : V} (r : RepP G W H x d) (e : flD d = some v) : x = v ∧ flatV v = true := by
  cases d with
  | non => cases e; exact ⟨r.non_, rfl⟩
  | bl b => cases e; exact ⟨r.bl_, rfl⟩
  | int i => cases e; exact ⟨r.int_, rfl⟩
  | str z => cases e; exact ⟨r.str_, rfl⟩
  | _ => cases e
theorem Reps.fl : ∀ {vs : List V} {ds : List D} {xs : List V}, Reps G W H vs ds → flDs ds = some xs → vs = xs ∧ xs.all flatV = true
  | _, _, _, .nil, e => by cases e; exact ⟨rfl, rfl⟩
  | _, _, _, .cons h t, e => by
    simp only [flDs, Option.bind_eq_some_iff, Option.map_eq_some_iff] at e
    obtain ⟨v, e1, r, e2, rfl⟩ := e
    obtain ⟨rfl, h2⟩ := RepP.fl (.rep h) e1
    obtain ⟨rfl, h4⟩ := Reps.fl t e2
    exact ⟨rfl, by rw [List.all_cons, h2, h4]; rfl⟩
theorem o_in (neg : Bool) : Op2 X (rIn X.K neg) (gIn neg) := fun {W H x y a b d Q} dom ha hb e q => by
  simp only [gIn, Option.bind_eq_some_iff, Option.map_eq_some_iff] at e
  obtain ⟨v, e1, ds, e2, xs, e3, rfl⟩ := e
  obtain ⟨rfl, f1⟩ := ha.fl e1
  cases b with
  | lst es =>
    cases e2
    obtain ⟨p, vs, rfl, h1, h2⟩ := hb.lst
    obtain ⟨rfl, f2⟩ := h2.fl e3
    exact ⟨p, vs, rfl, .inl (.inl h1), f1, f2, q _ H (Same.refl _) (.bl _)⟩
  | tup es =>
    cases e2
    obtain ⟨p, vs, rfl, h1, h2⟩ := hb.tup
    obtain ⟨rfl, f2⟩ := h2.fl e3
    exact ⟨p, vs, rfl, .inr h1, f1, f2, q _ H (Same.refl _) (.bl _)⟩
  | _ => cases e2
theorem e_in (ha : DE X Z a fa) (hb : DE X Z b fb) (hm : behindInMarks .In b = false := by with_unfolding_all rfl) : DE X Z (.Compare a [.In] [b] pos) (c2 (gIn false) fa fb) := d_cmp op_in_seq (o_in false) ha hb hm
theorem t_in (ha : DE X Z a fa) (hb : DE X Z b fb) (hm : behindInMarks .In b = false := by with_unfolding_all rfl) : DT X Z (.Compare a [.In] [b] pos) (cB (c2 (gIn false) fa fb)) := t_cmp op_in_seq (o_in false) ha hb hm
theorem e_nin (ha : DE X Z a fa) (hb : DE X Z b fb) (hm : behindInMarks .NotIn b = false := by with_unfolding_all rfl) : DE X Z (.Compare a [.NotIn] [b] pos) (c2 (gIn true) fa fb) := d_cmp op_notIn_seq (o_in true) ha hb hm
theorem t_nin (ha : DE X Z a fa) (hb : DE X Z b fb) (hm : behindInMarks .NotIn b = false := by with_unfolding_all rfl) : DT X Z (.Compare a [.NotIn] [b] pos) (cB (c2 (gIn true) fa fb)) := t_cmp op_notIn_seq (o_in true) ha hb hm
end
end L3
namespace L3
open PySem PySem.Spec PyProof.Rows L2
/-! ### range(a, b, c) -/
section
variable {X : Cx} {Z : WXZ} {B : Bs} {as : List (Option Addr)} {H : Hp}
def range3 (i j c : Int) : Option (List D) :=
  if c ≠ 0 ∧ c.natAbs < 1073741824 ∧ Builtin.Range.small i j c = true ∧ 0 ≤ Builtin.Range.rangeSize i j c then some ((List.range (Builtin.Range.rangeSize i j c).toNat).map fun (k : Nat) => D.int (i + (k : Int) * c)) else none
def iR3 (f : En → Out (List Pv)) : En → Out (List D) := fun ρ => (f ρ).bind fun ps ρ1 => match ps with
  | [.v (.int i), .v (.int j), .v (.int c)] => match range3 i j c with
    | some ds => .ok ds ρ1
    | none => .bad
  | _ => .bad
theorem walks_step (lo c : Int) (n : Nat) : Walks X B as H (Itc lo c n) ((List.range n).map fun (i : Nat) => D.int (lo + (i : Int) * c)) := by
  intro A H2 _ g
  refine ⟨by show n ≤ _; simp, fun i d e => ?_⟩
  have hi : i < n := by simpa using lt_of_get e
  rw [List.getElem?_map, List.getElem?_range hi] at e
  cases e
  refine ⟨hi, fun x H3 y => ?_⟩
  obtain ⟨rfl, rfl⟩ := y
  exact ⟨Same.refl _, .int _⟩
theorem i_range3 {tg a b c : Expr} {p pos : Pos} {f : En → Out (List Pv)} (h : DA X Z [a, b, c] f) (hg : Gl X "range") (hm : X.mg "range" = none)
    (hs : starEach [a, b, c] X.env = (false, eval a X.env) :: starEach [b, c] X.env := by rfl) (hpl : (backTo pos (starEach [b, c] X.env)).any (·.1) = false := by rfl) : DI X Z tg (.Call (.Name "range" p) [a, b, c] [] pos) (iR3 f) := by
  obtain ⟨_, pa, s⟩ := h
  refine ⟨_, pi_range3 hg hm pa hs hpl, ⟨fun {B as σ H ρ R'} R q => s.go R (q.bind.imp fun ps ρ1 H1 R1 g1 q1 vs k1 => ?_)⟩⟩
  split at q1
  · rename_i i j c
    cases k1 with
    | cons k1 k =>
      cases k with
      | cons k2 k =>
        cases k with
        | cons k3 k =>
          cases k
          cases k1 with
          | v k1 => cases k2 with
            | v k2 => cases k3 with
              | v k3 =>
                unfold range3 at q1
                split at q1
                · rename_i ds e
                  split at e
                  · rename_i hc
                    cases e
                    exact ⟨i, j, c, _, by rw [k1.int_, k2.int_, k3.int_], ⟨hc.1, hc.2.1, hc.2.2.1, by have := hc.2.2.2; omega⟩, q1 H1 R1 .refl _ H1 (Same.refl _) (walks_step i c _)⟩
                  · cases e
                · exact q1.elim
  · exact q1.elim
end
end L3
namespace L3
open PySem PySem.Spec PyProof.Rows L2
/-! ### list(range(..)) -/
section
variable {X : Cx} {Z : WXZ} {a b c e : Expr} {fa fb fc : En → Out Pv} {p pos p1 : Pos}
/-- an expression that makes a range object -/
structure DRt (X : Cx) (Z : WXZ) (t : L2.St → Hp → (Int → Int → Int → Hp → Prop) → Prop) (f : En → Out (Int × Int × Int)) : Prop where
  go : ∀ {B : Bs} {as : List (Option Addr)} {σ : L2.St} {H : Hp} {ρ : En} {Q : Int → Int → Int → Hp → Prop}, Rel X.G B as σ H ρ → EO X Z B as σ H (fun r _ H' => Q r.1 r.2.1 r.2.2 H') (f ρ) → t σ H Q
def DR (X : Cx) (Z : WXZ) (e : Expr) (f : En → Out (Int × Int × Int)) : Prop := ∃ t, (∀ (pins : List (Addr × Obj)) (s : Shared) (σ : L2.St) (H : Hp) (Q : Int → Int → Int → Hp → Prop), Inv X pins σ H s → t σ H Q →
    wpAny (model X.prog X.w) X.A (eval e X.env) (fun x s' => ∃ r a b c t u v H', x = .ref r ∧ IsRange s'.heap r a b c t u v ∧ Inv X pins σ H' s' ∧ Q a b c H') X.xe s) ∧ DRt X Z t f
def intP (p : Pv) : Option Int := match p with
  | .v (.int i) => some i
  | _ => none
theorem intP_ok {B : Bs} {as : List (Option Addr)} {H : Hp} {v : V} {p : Pv} {i : Int} (h : PvOk X.G (B.W as) as H v p) (e : intP p = some i) : v = .int i := by
  cases h with
  | @v v d h =>
    cases d with
    | int j => cases e; exact h.int_
    | _ => cases e
  | b _ => cases e
def r1F (fa : En → Out Pv) : En → Out (Int × Int × Int) := fun ρ => (fa ρ).bind fun p ρ1 => match intP p with
  | some i => .ok (0, i, 1) ρ1
  | none => .bad
def r2F (fa fb : En → Out Pv) : En → Out (Int × Int × Int) := fun ρ => (fa ρ).bind fun p ρ1 => (fb ρ1).bind fun q ρ2 => match intP p, intP q with
  | some i, some j => .ok (i, j, 1) ρ2
  | _, _ => .bad
def r3F (fa fb fc : En → Out Pv) : En → Out (Int × Int × Int) := fun ρ => (fa ρ).bind fun p ρ1 => (fb ρ1).bind fun q ρ2 => (fc ρ2).bind fun r ρ3 => match intP p, intP q, intP r with
  | some i, some j, some k => if k ≠ 0 ∧ k.natAbs < 1073741824 then .ok (i, j, k) ρ3 else .bad
  | _, _, _ => .bad
theorem r_1 (ha : DE X Z a fa) (hg : Gl X "range") (hm : X.mg "range" = none) (na : starEach [a] X.env = (false, eval a X.env) :: starEach [] X.env := by rfl) : DR X Z (.Call (.Name "range" p) [a] [] pos) (r1F fa) := by
  obtain ⟨ta, pa, sa⟩ := ha
  refine ⟨fun σ H Q => ta σ H fun x H1 => ∃ i, x = .int i ∧ Q 0 i 1 H1, fun pins s σ H Q I h => ?_, ⟨fun {B as σ H ρ Q} R q => sa.go R (q.bind.imp fun p ρ1 H1 R1 g1 q1 v k1 => ?_)⟩⟩
  · refine Call_ (ld_blt I hg hm boot_range (PyProof.Rows.callWith_type1 (one_arg pa I h (fun v s2 x H2 I2 r q => ?_) na) na))
    obtain ⟨n, rfl, q⟩ := q
    obtain ⟨t, rfl⟩ := r
    exact call_range_1 ⟨_, 0, n, 1, _, _, _, H2, rfl, IsRange.new _ _ _ _ _ _ _, I2.kept fun b u e => Heap.get?_push_of_some _ e, q⟩
  · cases e : intP p with
    | none => rw [e] at q1; exact q1.elim
    | some i =>
      rw [e] at q1
      exact ⟨i, intP_ok k1 e, q1 H1 R1 .refl⟩
theorem r_2 (ha : DE X Z a fa) (hb : DE X Z b fb) (hg : Gl X "range") (hm : X.mg "range" = none) (na : starEach [a, b] X.env = (false, eval a X.env) :: starEach [b] X.env := by rfl)
    (nb : starEach [b] X.env = (false, eval b X.env) :: starEach [] X.env := by rfl) (hp : (backTo pos (starEach [b] X.env)).any (·.1) = false := by rfl) : DR X Z (.Call (.Name "range" p) [a, b] [] pos) (r2F fa fb) := by
  obtain ⟨ta, pa, sa⟩ := ha
  obtain ⟨tb, pb, sb⟩ := hb
  refine ⟨fun σ H Q => ta σ H fun x H1 => tb σ H1 fun y H2 => ∃ i j, x = .int i ∧ y = .int j ∧ Q i j 1 H2, fun pins s σ H Q I h => ?_, ⟨fun {B as σ H ρ Q} R q => sa.go R (q.bind.imp fun p ρ1 H1 R1 g1 q1 v k1 => sb.go R1 (q1.bind.imp fun p' ρ2 H2 R2 g2 q2 u k2 => ?_))⟩⟩
  · refine Call_ (ld_blt I hg hm boot_range (PyProof.Rows.callWith_type1 (args_cons (thn (pa.run pins s σ H _ I h) fun v s1 ⟨x, H1, I1, r1, q1⟩ => one_arg pb I1 q1 (fun u s2 y H2 I2 r2 q => ?_) nb) na) na hp))
    obtain ⟨i, j, rfl, rfl, q⟩ := q
    obtain ⟨t, rfl⟩ := r1
    obtain ⟨t', rfl⟩ := r2
    exact call_range_2 ⟨_, i, j, 1, _, _, _, H2, rfl, IsRange.new _ _ _ _ _ _ _, I2.kept fun b u e => Heap.get?_push_of_some _ e, q⟩
  · cases e : intP p with
    | none => rw [e] at q2; exact q2.elim
    | some i =>
      cases e2 : intP p' with
      | none => rw [e, e2] at q2; exact q2.elim
      | some j =>
        rw [e, e2] at q2
        exact ⟨i, j, intP_ok k1 e, intP_ok k2 e2, q2 H2 R2 .refl⟩
theorem r_3 (ha : DE X Z a fa) (hb : DE X Z b fb) (hc : DE X Z c fc) (hg : Gl X "range") (hm : X.mg "range" = none) (na : starEach [a, b, c] X.env = (false, eval a X.env) :: starEach [b, c] X.env := by rfl)
    (nb : starEach [b, c] X.env = (false, eval b X.env) :: starEach [c] X.env := by rfl) (nc : starEach [c] X.env = (false, eval c X.env) :: starEach [] X.env := by rfl) (hp : (backTo pos (starEach [b, c] X.env)).any (·.1) = false := by rfl) : DR X Z (.Call (.Name "range" p) [a, b, c] [] pos) (r3F fa fb fc) := by
  obtain ⟨ta, pa, sa⟩ := ha
  obtain ⟨tb, pb, sb⟩ := hb
  obtain ⟨tc, pc, sc⟩ := hc
  refine ⟨fun σ H Q => ta σ H fun x H1 => tb σ H1 fun y H2 => tc σ H2 fun z H3 => ∃ i j k, x = .int i ∧ y = .int j ∧ z = .int k ∧ (k ≠ 0 ∧ k.natAbs < 1073741824) ∧ Q i j k H3, fun pins s σ H Q I h => ?_,
    ⟨fun {B as σ H ρ Q} R q => sa.go R (q.bind.imp fun p ρ1 H1 R1 g1 q1 v k1 => sb.go R1 (q1.bind.imp fun p' ρ2 H2 R2 g2 q2 u k2 => sc.go R2 (q2.bind.imp fun p3 ρ3 H3 R3 g3 q3 w k3 => ?_)))⟩⟩
  · refine Call_ (ld_blt I hg hm boot_range (PyProof.Rows.callWith_type1 (args_cons (thn (pa.run pins s σ H _ I h) fun v s1 ⟨x, H1, I1, r1, q1⟩ => args_cons (thn (pb.run pins s1 σ H1 _ I1 q1) fun u s2 ⟨y, H2, I2, r2, q2⟩ => one_arg pc I2 q2 (fun w s3 z H3 I3 r3 q => ?_) nc) nb) na) na hp))
    obtain ⟨i, j, k, rfl, rfl, rfl, hk, q⟩ := q
    obtain ⟨t, rfl⟩ := r1
    obtain ⟨t', rfl⟩ := r2
    obtain ⟨t3, rfl⟩ := r3
    exact call_range_3 hk.1 ⟨_, i, j, k, _, _, _, H3, rfl, IsRange.new _ _ _ _ _ _ _, I3.kept fun b u e => Heap.get?_push_of_some _ e, q⟩ (Or.inl (PyProof.noPylong_small (by have := hk.2; omega)))
  · cases e : intP p with
    | none => rw [e] at q3; exact q3.elim
    | some i =>
      cases e2 : intP p' with
      | none => rw [e, e2] at q3; exact q3.elim
      | some j =>
        cases e3 : intP p3 with
        | none => rw [e, e2, e3] at q3; exact q3.elim
        | some k =>
          rw [e, e2, e3] at q3
          dsimp only at q3
          split at q3
          · rename_i hk
            exact ⟨i, j, k, intP_ok k1 e, intP_ok k2 e2, intP_ok k3 e3, hk, q3 H3 R3 .refl⟩
          · exact q3.elim
def ranL (i j c : Int) : Option (List D) :=
  if Builtin.Range.small i j c = true ∧ 0 ≤ Builtin.Range.rangeSize i j c ∧ Builtin.Range.rangeSize i j c ≤ 16000000 then some ((List.range (Builtin.Range.rangeSize i j c).toNat).map fun (k : Nat) => D.int (i + (k : Int) * c)) else none
def nRan (f : En → Out (Int × Int × Int)) : En → Out D := fun ρ => (f ρ).bind fun r ρ1 => match ranL r.1 r.2.1 r.2.2 with
  | some ds => .ok (.lst ds) ρ1
  | none => .bad
theorem reps_ran {G : Pm} {W : Addr → Prop} {H : Hp} (i c : Int) : ∀ l : List Nat, Reps G W H (l.map fun (k : Nat) => V.int (i + (k : Int) * c)) (l.map fun (k : Nat) => D.int (i + (k : Int) * c))
  | [] => .nil
  | _ :: l => .cons (.int _) (reps_ran i c l)
theorem n_ran {f : En → Out (Int × Int × Int)} (hcm : X.calm = true) (hm : X.mg "list" = none) (he : DR X Z e f) (hg : Gl X "list" := by rfl) (na : starEach [e] X.env = (false, eval e X.env) :: starEach [] X.env := by rfl) : DN X Z (.Call (.Name "list" p1) [e] [] pos) (nRan f) := by
  obtain ⟨t, pe, se⟩ := he
  refine ⟨fun σ H Q => t σ H fun i j c H1 => (Builtin.Range.small i j c = true ∧ 0 ≤ Builtin.Range.rangeSize i j c ∧ Builtin.Range.rangeSize i j c ≤ 16000000) ∧
      ∀ q, H1 q = none → Q (.ref q) (upd H1 q (.lst ((List.range (Builtin.Range.rangeSize i j c).toNat).map fun (k : Nat) => V.int (i + (k : Int) * c)))), ⟨fun pins s σ H Q I h => ?_⟩, ⟨fun {B as σ H ρ Q} R q => se.go R (q.bind.imp fun r ρ1 H1 R1 g1 q1 => ?_)⟩⟩
  · refine Call_ (ld_blt I hg hm boot_list (PyProof.Rows.callWith_type1 (args_cons (thn (pe pins s σ H _ I h) fun x s1 ⟨r, a, b, c, t, u, v, H1, ex, hr, I1, ok, q⟩ => args_nil ?_) na) na))
    subst ex
    obtain ⟨o1, o2, o3⟩ := ok
    refine call_list_range (n := (Builtin.Range.rangeSize a b c).toNat) (I1.ok.hd hcm) hr o1 (by omega) (by omega) fun h' tk acc c' hk e' hi => ?_
    have hz : acc.toList.length = (Builtin.Range.rangeSize a b c).toNat := by rw [Array.length_toList]; exact hi.1
    have vr : Vals ((List.range (Builtin.Range.rangeSize a b c).toNat).map fun (k : Nat) => V.int (a + (k : Int) * c)) acc.toList := by
      rw [← hz]
      refine vals_of_get acc.toList _ fun j u hj => ?_
      obtain ⟨t, rfl⟩ := hi.2 j u (by rw [← hj, Array.getElem?_toList])
      exact ⟨t, rfl⟩
    refine ⟨.ref s1.heap.objs.size, upd H1 s1.heap.objs.size (.lst _), I1.laid hk (Nat.le_refl _) (show ObjOk X.prog X.w _ _ _ (.lst _) from ⟨?_, acc.toList, c', vr, ?_⟩), rfl, q _ (I1.hok.fresh (Nat.le_refl _))⟩
    · rw [List.length_map, List.length_range, sizeLine_eq]; omega
    · rw [Array.toArray_toList]; exact e'
  · unfold ranL at q1
    split at q1
    · rename_i ds e
      split at e
      · rename_i hk
        cases e
        exact ⟨hk, fun q hq => DNt.lay R1 hq (g1.grow q hq) True.intro (.lst (reps_ran _ _ _)) q1⟩
      · cases e
    · exact q1.elim
end
end L3
namespace L3
open PySem PySem.Spec PyProof.Rows L2

/-! ### one reading for all contexts of one text -/
section
variable {X : Cx} {Z : WXZ}
def TEof (X : Cx) (Z : WXZ) (f : En → Out Pv) : TE := fun σ H Q => ∃ B as ρ, Rel X.G B as σ H ρ ∧ EO X Z B as σ H (fun p _ H' => ∀ v, PvOk X.G (B.W as) as H' v p → Q v H') (f ρ)
def TTof (X : Cx) (Z : WXZ) (f : En → Out Bool) : TT := fun σ H Q => ∃ B as ρ, Rel X.G B as σ H ρ ∧ EO X Z B as σ H (fun b _ H' => Q b H') (f ρ)
theorem DE.pe {e : Expr} {f : En → Out Pv} (h : DE X Z e f) : PE X e (TEof X Z f) := by
  obtain ⟨t, p, s⟩ := h
  exact ⟨fun pins st σ H Q I ⟨B, as, ρ, R, q⟩ => p.run pins st σ H Q I (s.go R q)⟩
theorem DT.pt {e : Expr} {f : En → Out Bool} (h : DT X Z e f) : PT X e (TTof X Z f) := by
  obtain ⟨t, p, s⟩ := h
  exact ⟨fun pins st σ H Q I ⟨B, as, ρ, R, q⟩ => p.run pins st σ H Q I (s.go R q)⟩
end

/-! ### several slots -/
def setAllF {α : Type} : List Nat → List α → List α → List α
  | [] => fun _ l => l
  | i :: is => fun xs l => match xs with
    | [] => l
    | x :: xs => setAllF is xs (l.set i x)
abbrev setAll {α : Type} (l : List α) (is : List Nat) (xs : List α) : List α := setAllF is xs l
def unAll (ρ : En) : List Nat → En
  | [] => ρ
  | i :: is => (unAll ρ is).set i .un
theorem setAll_len {α : Type} : ∀ (l : List α) (is : List Nat) (xs : List α), (setAll l is xs).length = l.length
  | l, [], _ => rfl
  | l, _ :: _, [] => rfl
  | l, i :: is, x :: xs => by exact (setAll_len (l.set i x) is xs).trans List.length_set
theorem setAll_out {α : Type} : ∀ (l : List α) (is : List Nat) (xs : List α) (j : Nat), j ∉ is → (setAll l is xs)[j]? = l[j]?
  | l, [], _, j, _ => rfl
  | l, _ :: _, [], j, _ => rfl
  | l, i :: is, x :: xs, j, h => by
    exact (setAll_out (l.set i x) is xs j (fun z => h (List.mem_cons_of_mem _ z))).trans (List.getElem?_set_ne (fun z => h (by rw [z]; exact List.mem_cons_self)))
theorem wipe_get (σ : L2.St) : ∀ (is : List Nat) (j : Nat), (wipe σ is)[j]? = if j ∈ is then (σ[j]?).map (fun _ => none) else σ[j]?
  | [], j => by simp [wipe]
  | i :: is, j => by
    rw [wipe]
    by_cases e : j = i
    · subst e
      by_cases hl : j < σ.length
      · rw [List.getElem?_set_self (by rw [wipe_length]; exact hl)]
        simp [List.getElem?_eq_getElem hl]
      · rw [List.getElem?_eq_none (by simp [wipe_length]; omega)]
        simp [List.getElem?_eq_none (show σ.length ≤ j by omega)]
    · rw [List.getElem?_set_ne (Ne.symm e), wipe_get σ is j]
      simp [e]
theorem unAll_len (ρ : En) : ∀ is : List Nat, (unAll ρ is).length = ρ.length
  | [] => rfl
  | i :: is => by rw [unAll, List.length_set, unAll_len ρ is]
theorem unAll_get (ρ : En) : ∀ (is : List Nat) (j : Nat), (unAll ρ is)[j]? = if j ∈ is then (ρ[j]?).map (fun _ => .un) else ρ[j]?
  | [], j => by simp [unAll]
  | i :: is, j => by
    rw [unAll]
    by_cases e : j = i
    · subst e
      by_cases hl : j < ρ.length
      · rw [List.getElem?_set_self (by rw [unAll_len]; exact hl)]
        simp [List.getElem?_eq_getElem hl]
      · rw [List.getElem?_eq_none (by simp [unAll_len]; omega)]
        simp [List.getElem?_eq_none (show ρ.length ≤ j by omega)]
    · rw [List.getElem?_set_ne (Ne.symm e), unAll_get ρ is j]
      simp [e]
theorem wipe_again {σ σ2 : L2.St} {is : List Nat} (hl : σ2.length = σ.length) (h : ∀ j, j ∉ is → σ2[j]? = σ[j]?) : wipe σ2 is = wipe σ is := by
  apply List.ext_getElem?
  intro j
  rw [wipe_get, wipe_get]
  by_cases e : j ∈ is
  · rw [if_pos e, if_pos e]
    by_cases hj : j < σ.length
    · rw [List.getElem?_eq_getElem hj, List.getElem?_eq_getElem (show j < σ2.length by omega)]; rfl
    · rw [List.getElem?_eq_none (by omega), List.getElem?_eq_none (by omega)]
  · rw [if_neg e, if_neg e, h j e]

/-- a target of names: g stores the parts of the data -/
def NTg (K : PySem.W.Frag) (g : TG) (is : List Nat) (h : D → Option (List D)) : Prop := ∀ {mg : Str → Option Value} {W : Addr → Prop} {H : Hp} {v : V} {d : D} {ds : List D} {σ : L2.St} {Q : L2.St → Hp → Prop},
  Rep ⟨K, mg⟩ W H v d → h d = some ds → (∀ vs, Reps ⟨K, mg⟩ W H vs ds → ds.length = is.length → Q (setAll σ is (vs.map some)) H) → g v σ H Q
def hOne : D → Option (List D) := fun d => some [d]
def hTup (n : Nat) : D → Option (List D)
  | .tup ds => if ds.length = n then some ds else none
  | .obj c ks ds => if c = "" ∧ ks = [] ∧ ds ≠ [] ∧ ds.length = n then some ds else none
  | _ => none
theorem ntg_name {K : PySem.W.Frag} (i : Nat) : NTg K (gName i) [i] hOne := fun {mg W H v d ds σ Q} r e q => by
  cases e
  exact q [v] (.cons r .nil) rfl
def gNames : List Nat → TGs
  | [] => gNil
  | i :: is => gCons (gName i) (gNames is)
theorem gNames_ok : ∀ (is : List Nat) {vs : List V} {σ : L2.St} {H : Hp} {Q : L2.St → Hp → Prop}, vs.length = is.length → Q (setAll σ is (vs.map some)) H → gNames is vs σ H Q
  | [], [], σ, H, Q, _, q => ⟨rfl, q⟩
  | i :: is, v :: vs, σ, H, Q, h, q => ⟨v, vs, rfl, gNames_ok is (by simpa using h) q⟩
  | [], _ :: _, _, _, _, h, _ => by simp at h
  | _ :: _, [], _, _, _, h, _ => by simp at h
theorem ntg_tup {K : PySem.W.Frag} (is : List Nat) : NTg K (gTup K is.length (gNames is)) is (hTup is.length) := fun {mg W H v d ds σ Q} r e q => by
  unfold hTup at e
  split at e
  · split at e
    · rename_i hl
      cases e
      obtain ⟨a, vs, rfl, h1, h2⟩ := RepP.tup (.rep r)
      exact ⟨a, vs, rfl, h1, by rw [h2.length]; exact hl, gNames_ok is (by rw [h2.length]; exact hl) (q vs h2 hl)⟩
    · cases e
  · split at e
    · rename_i hl
      obtain ⟨rfl, rfl, hn, hl⟩ := hl
      cases e
      obtain ⟨a, vs, rfl, h1, h2⟩ := RepP.wtp (.rep r) hn
      exact ⟨a, vs, rfl, h1, by rw [h2.length]; exact hl, gNames_ok is (by rw [h2.length]; exact hl) (q vs h2 hl)⟩
    · cases e
  · cases e

/-! ### [e for target in iter if c] -/
def lcL (is : List Nat) (h : D → Option (List D)) (c : En → Out Bool) (e : En → Out Pv) : List D → List D → En → Out (List D)
  | [], acc, ρ => .ok acc ρ
  | d :: r, acc, ρ => match h d with
    | some ds => match c (setAll ρ is (ds.map .val)) with
      | .ok true ρ2 => match e ρ2 with
        | .ok (.v x) ρ3 => if acc.length < sizeLine then lcL is h c e r (acc ++ [x]) (unAll ρ3 is) else .bad
        | _ => .bad
      | .ok false ρ2 => lcL is h c e r acc (unAll ρ2 is)
      | _ => .bad
    | none => .bad
def noAdr (ρ : En) (is : List Nat) : Bool := is.all fun i => match ρ[i]? with
  | some (.own _) => false
  | some (.bor _) => false
  | _ => true
/-- the slots is of ρ, all else of ρ' -/
def backAll (ρ ρ' : En) : List Nat → En
  | [] => ρ'
  | i :: is => match ρ[i]? with
    | some s => (backAll ρ ρ' is).set i s
    | none => backAll ρ ρ' is
def nLc (it : En → Out (List D)) (is : List Nat) (h : D → Option (List D)) (c : En → Out Bool) (e : En → Out Pv) : En → Out D := fun ρ => (it ρ).bind fun ds ρ1 =>
  if noAdr ρ1 is = true then match lcL is h c e ds [] (unAll ρ1 is) with
    | .ok acc ρ2 => .ok (.lst acc) (backAll ρ1 ρ2 is)
    | _ => .bad
  else .bad
def cYes : En → Out Bool := fun ρ => .ok true ρ
theorem backAll_len (ρ ρ' : En) : ∀ is, (backAll ρ ρ' is).length = ρ'.length
  | [] => rfl
  | i :: is => by
    rw [backAll]
    split
    · rw [List.length_set, backAll_len ρ ρ' is]
    · exact backAll_len ρ ρ' is
theorem backAll_get {ρ ρ' : En} (hl : ρ'.length = ρ.length) : ∀ (is : List Nat) (j : Nat), (backAll ρ ρ' is)[j]? = if j ∈ is then ρ[j]? else ρ'[j]?
  | [], j => by simp [backAll]
  | i :: is, j => by
    rw [backAll]
    by_cases e : j = i
    · subst e
      rw [if_pos List.mem_cons_self]
      cases e : ρ[j]? with
      | some s =>
        dsimp only
        have hj : j < ρ.length := (List.getElem?_eq_some_iff.mp e).1
        rw [List.getElem?_set_self (by rw [backAll_len, hl]; exact hj)]
      | none =>
        dsimp only
        have hj := List.getElem?_eq_none_iff.mp e
        rw [List.getElem?_eq_none (show (backAll ρ ρ' is).length ≤ j by rw [backAll_len]; omega)]
    · have : (backAll ρ ρ' is)[j]? = if j ∈ i :: is then ρ[j]? else ρ'[j]? := by
        rw [backAll_get hl is j]; simp [e]
      split
      · rw [List.getElem?_set_ne (Ne.symm e)]; exact this
      · exact this
section
variable {X : Cx} {Z : WXZ} {B : Bs} {as : List (Option Addr)} {σ : L2.St} {H H' : Hp} {ρ ρ' : En}
theorem noAdr_none (R : Rel X.G B as σ H ρ) {is : List Nat} (h : noAdr ρ is = true) {i : Nat} (hi : i ∈ is) {a : Option Addr} (e : as[i]? = some a) : a = none := by
  cases a with
  | none => rfl
  | some a =>
    obtain ⟨d, _, h2, _⟩ := R.at_a e
    have := List.all_eq_true.mp h i hi
    rcases h2 with h2 | h2 <;> (rw [h2] at this; cases this)
/-- the slots is hold anything; un in ρ -/
theorem Rel.uns (R : Rel X.G B as σ H ρ) {is : List Nat} (hn : ∀ i ∈ is, ∀ a, as[i]? = some a → a = none) {σ2 : L2.St} (hl : σ2.length = σ.length) (h : ∀ j, j ∉ is → σ2[j]? = σ[j]?) : Rel X.G B as σ2 H (unAll ρ is) := by
  refine ⟨by rw [hl, unAll_len]; exact R.l1, by rw [unAll_len]; exact R.l2, fun i v s a h1 h2 h3 => ?_, fun i d h1 => ?_, fun i d a h1 h2 => ?_, R.inj, R.nw, R.dom, R.gr⟩
  · rw [unAll_get] at h2
    split at h2
    · rename_i hi
      simp only [Option.map_eq_some_iff] at h2
      obtain ⟨_, _, rfl⟩ := h2
      rw [hn i hi a h3]
      exact .un _
    · rename_i hi
      exact R.sl i v s a ((h i hi).symm.trans h1) h2 h3
  · rw [unAll_get] at h1
    split at h1
    · simp only [Option.map_eq_some_iff] at h1
      obtain ⟨_, _, z⟩ := h1; cases z
    · exact R.pin i d h1
  · rw [unAll_get] at h1
    split at h1
    · simp only [Option.map_eq_some_iff] at h1
      obtain ⟨_, _, z⟩ := h1; cases z
    · exact R.fr i d a h1 h2
theorem Rel.sets : ∀ {is : List Nat} (_ : ∀ i ∈ is, ∀ a, as[i]? = some a → a = none) {vs : List V} {ds : List D}, Reps X.G (B.W as) H vs ds → ∀ {σ ρ}, Rel X.G B as σ H ρ → Rel X.G B as (setAll σ is (vs.map some)) H (setAll ρ is (ds.map .val))
  | [], _, _, _, _, σ, ρ, R => R
  | _ :: _, _, _, _, .nil, σ, ρ, R => R
  | i :: is, hn, _, _, .cons h t, σ, ρ, R => by
    have e : as.set i none = as := by
      apply List.ext_getElem?
      intro j
      by_cases hj : j = i
      · subst hj
        by_cases hl : j < as.length
        · rw [List.getElem?_set_self hl]
          have := hn j List.mem_cons_self _ (List.getElem?_eq_getElem hl)
          rw [List.getElem?_eq_getElem hl, this]
        · rw [List.getElem?_eq_none (by simpa using hl), List.getElem?_eq_none (by omega)]
      · rw [List.getElem?_set_ne (Ne.symm hj)]
    have R2 := (R.setVal i h).1
    rw [e] at R2
    exact Rel.sets (fun j hj => hn j (List.mem_cons_of_mem _ hj)) t R2
/-- the outer slots again; H: the heap at the outset -/
theorem Rel.backs {B' : Bs} (R0 : Rel X.G B as σ H ρ) {is : List Nat} (hn : ∀ i ∈ is, ∀ a, as[i]? = some a → a = none) {σw : L2.St} (hw : ∀ j, j ∉ is → σw[j]? = σ[j]?) (hpn : B'.pn = B.pn) (R : Rel X.G B' as σw H' ρ')
    (st : Stp (B.W as) H (B'.W as) H') : Rel X.G B' as σ H' (backAll ρ ρ' is) := by
  have hl : ρ'.length = ρ.length := by rw [← R.l2, R0.l2]
  refine ⟨by rw [backAll_len, hl]; exact R0.l1, by rw [backAll_len, hl]; exact R0.l2, fun i v s a h1 h2 h3 => ?_, fun i d h1 => ?_, fun i d a h1 h2 => ?_, R.inj, R.nw, R.dom, R.gr⟩
  · rw [backAll_get hl] at h2
    split at h2
    · rename_i hi
      have := hn i hi a h3
      subst this
      cases R0.sl i v s none h1 h2 h3 with
      | un => exact .un _
      | val x => exact .val (x.stp st)
    · rename_i hi
      exact R.sl i v s a ((hw i hi).trans h1) h2 h3
  · rw [backAll_get hl] at h1
    split at h1
    · rw [hpn]; exact R0.pin i d h1
    · exact R.pin i d h1
  · rw [backAll_get hl] at h1
    split at h1
    · rename_i hi
      have := hn i hi _ h2
      cases this
    · exact R.fr i d a h1 h2
def Z0 : WXZ := fun _ _ _ _ => False
theorem dnt_lc {wi : TI} {g : TG} {tt : TT} {te : TE} {is : List Nat} {it : En → Out (List D)} {h : D → Option (List D)} {c : En → Out Bool} {e : En → Out Pv} (si : DIt X Z wi it) (sg : NTg X.K g is h) (st : DTt X Z0 tt c) (se : DEt X Z0 te e) :
    DNt X Z (tLc wi g tt te is) (nLc it is h c e) := by
  refine ⟨fun {B as σ H ρ Q} R q => si.go R (q.bind.imp fun ds ρ1 H1 R1 g1 q1 J H2 s2 wk Dd hD => ?_)⟩
  split at q1
  rotate_left
  · exact q1.elim
  rename_i hno
  have R2 := R1.same s2
  have g2 : Go (Ad as) H (Ad as) H2 := g1.trans (.of_same s2)
  have hn : ∀ i ∈ is, ∀ a, as[i]? = some a → a = none := fun i hi a ha => noAdr_none R1 hno hi ha
  obtain ⟨R3, g3⟩ := R2.more (o := .lst []) hD
  have nD : ¬ Ad as Dd := fun z => R2.fresh hD (.inr z)
  -- from H2 on, with the new list among the own ones
  let A : Addr → Prop := fun b => Ad as b ∨ b = Dd
  have gA : ∀ {Ha Hb : Hp}, Go (Ad as) Ha (Ad as) Hb → Go A Ha A Hb := fun {Ha Hb} g => ⟨fun b o e n => g.keep b o e fun z => n (.inl z), fun b z => .inl z, g.grow⟩
  have goD : ∀ {Ha : Hp} {o : HO}, (∃ u, Ha Dd = some u) → Go A Ha A (upd Ha Dd o) := fun {Ha o} ⟨u, hu⟩ => ⟨fun b u e n => by rw [upd_ne (fun z => n (.inr z))]; exact e, fun b z => .inl z, fun b e => by
    by_cases z : b = Dd
    · subst z; rw [upd_same] at e; cases e
    · rw [upd_ne z] at e; exact e⟩
  have g0 : Go (Ad as) H2 A (upd H2 Dd (.lst [])) := ⟨g3.keep, fun b z => z.elim .inl fun e => .inr (by rw [e]; exact hD), g3.grow⟩
  have eW : Wu B.W0 A = (B.and Dd).W as := by
    funext b
    exact propext ⟨fun z => z.elim (fun z => .inl (.inl z)) fun z => z.elim .inr fun z => .inl (.inr z), fun z => z.elim (fun z => z.elim .inl fun z => .inr (.inr z)) fun z => .inr (.inl z)⟩
  have hwl : (wipe σ is).length = σ.length := wipe_length σ is
  have hwo : ∀ j, j ∉ is → (wipe σ is)[j]? = σ[j]? := fun j hj => by rw [wipe_get, if_neg hj]
  refine ⟨fun i m Hc => m = ds.length - i ∧ i ≤ ds.length ∧ ∃ ρc acc vs, Rel X.G (B.and Dd) as (wipe σ is) Hc ρc ∧ Go (Ad as) H2 A Hc ∧ Hc Dd = some (.lst vs) ∧ Reps X.G ((B.and Dd).W as) Hc vs acc ∧
      (match lcL is h c e (ds.drop i) acc ρc with
        | .ok acc' ρ2 => ∀ Hf vf, Rel X.G (B.and Dd) as (wipe σ is) Hf ρ2 → Go (Ad as) H2 A Hf → Hf Dd = some (.lst vf) → Reps X.G ((B.and Dd).W as) Hf vf acc' → Q (.ref Dd) Hf
        | _ => False), ⟨_, rfl, Nat.zero_le _, unAll ρ1 is, [], [], R3.uns hn hwl hwo, g0, upd_same, .nil, ?_⟩, ?_⟩
  · rw [List.drop_zero]
    cases el : lcL is h c e ds [] (unAll ρ1 is) with
    | bad => rw [el] at q1; exact q1.elim
    | exc x ρ2 => rw [el] at q1; exact q1.elim
    | ok acc' ρ2 =>
      rw [el] at q1
      intro Hf vf Rf gf hf rf
      have gff : Go (Ad as) H1 (Ad as) Hf := (Go.of_same s2).trans ⟨gf.keep, fun b z => .inl z, gf.grow⟩
      have stf : Stp (B.W as) H1 ((B.and Dd).W as) Hf := by
        have := ((Go.of_same s2 (A := Ad as)).trans gf).stp (W0 := B.W0)
        rw [eW] at this
        exact this
      have Rb : Rel X.G (B.and Dd) as σ Hf (backAll ρ1 ρ2 is) := R1.backs (B' := B.and Dd) hn hwo rfl Rf stf
      exact q1 Hf Rb.less gff Dd Hf Rb .refl (g2.grow _ hD) ⟨_, hf, True.intro, .lst rf⟩
  · rintro i m Hc ⟨rfl, hle, ρc, acc, vs, Rc, gc, hc, rc, qc⟩
    obtain ⟨w1, w2⟩ := wk A Hc (by rw [eW]; exact Rc.domA) gc
    by_cases hlt : i < ds.length
    · have ed : ds.drop i = ds[i] :: ds.drop (i + 1) := List.drop_eq_getElem_cons hlt
      rw [ed] at qc
      unfold lcL at qc
      obtain ⟨w3, w4⟩ := w2 i ds[i] (List.getElem?_eq_getElem hlt)
      refine .inr ⟨w3, fun Hn => i + 1 ≤ ds.length ∧ ∃ ρc acc vs, Rel X.G (B.and Dd) as (wipe σ is) Hn ρc ∧ Go (Ad as) H2 A Hn ∧ Hn Dd = some (.lst vs) ∧ Reps X.G ((B.and Dd).W as) Hn vs acc ∧
        (match lcL is h c e (ds.drop (i + 1)) acc ρc with
          | .ok acc' ρ2 => ∀ Hf vf, Rel X.G (B.and Dd) as (wipe σ is) Hf ρ2 → Go (Ad as) H2 A Hf → Hf Dd = some (.lst vf) → Reps X.G ((B.and Dd).W as) Hf vf acc' → Q (.ref Dd) Hf
          | _ => False), fun Hn hN => ⟨ds.length - (i + 1), by omega, rfl, hN.1, hN.2⟩, fun x H4 y => ?_⟩
      obtain ⟨s4, r4⟩ := w4 x H4 y
      rw [eW] at r4
      have R4 := Rc.same s4
      cases eh : h ds[i] with
      | none => rw [eh] at qc; exact qc.elim
      | some parts =>
        rw [eh] at qc
        dsimp only at qc
        refine sg (mg := X.mg) r4 eh fun vs' rv hlen => ?_
        have hl2 : (setAll (wipe σ is) is (vs'.map some)).length = σ.length := by rw [setAll_len, hwl]
        have ho2 : ∀ j, j ∉ is → (setAll (wipe σ is) is (vs'.map some))[j]? = σ[j]? := fun j hj => by rw [setAll_out _ _ _ _ hj, hwo j hj]
        refine ⟨wipe_again hl2 ho2, ?_⟩
        have R5 := Rel.sets hn rv R4
        have hnw : ∀ j, j ∉ is → (wipe σ is)[j]? = (setAll (wipe σ is) is (vs'.map some))[j]? := fun j hj => by rw [hwo j hj, ho2 j hj]
        refine st.go R5 ?_
        cases ec : c (setAll ρc is (parts.map .val)) with
        | bad => rw [ec] at qc; exact qc.elim
        | exc z ρ6 => rw [ec] at qc; exact qc.elim
        | ok b ρ6 =>
          rw [ec] at qc
          intro H6 R6 g6
          have g46 : Go A Hc A H6 := (Go.of_same s4).trans (gA g6)
          cases b with
          | false =>
            refine iteF ⟨hlt, _, acc, vs, R6.uns hn (by rw [hl2, hwl]) hnw, gc.trans g46, ?_, ?_, qc⟩
            · exact g6.keep _ _ (s4 _ _ hc) nD
            · exact (rc.stp (.same s4)).stp g6.stp
          | true =>
            refine iteT (se.go R6 ?_)
            dsimp only at qc
            cases ee : e ρ6 with
            | bad => rw [ee] at qc; exact qc.elim
            | exc z ρ7 => rw [ee] at qc; exact qc.elim
            | ok p ρ7 =>
              rw [ee] at qc
              intro H7 R7 g7 v kv
              cases kv with
              | b _ => exact qc.elim
              | v kv =>
                dsimp only at qc
                by_cases hz : acc.length < sizeLine
                rotate_left
                · rw [if_neg hz] at qc; exact qc.elim
                rw [if_pos hz] at qc
                have h7 : H7 Dd = some (.lst vs) := g7.keep _ _ (g6.keep _ _ (s4 _ _ hc) nD) nD
                have r7 : Reps X.G ((B.and Dd).W as) H7 vs acc := ((rc.stp (.same s4)).stp g6.stp).stp g7.stp
                have st8 : Stp ((B.and Dd).W as) H7 ((B.and Dd).W as) (upd H7 Dd (.lst (vs ++ [v]))) := fun b u hb n => ⟨by rw [upd_ne (fun z => n (by rw [z]; exact .inl (.inr rfl)))]; exact hb, n⟩
                have R8 : Rel X.G (B.and Dd) as (setAll (wipe σ is) is (vs'.map some)) (upd H7 Dd (.lst (vs ++ [v]))) ρ7 := by
                  refine ⟨R7.l1, R7.l2, fun j v s a h1 h2 h3 => ?_, R7.pin, R7.fr, R7.inj, R7.nw, fun b z => ?_, fun b z => ?_⟩
                  · have ne : ∀ a', a = some a' → a' ≠ Dd := fun a' ea z => by
                      subst ea z
                      exact R7.nw _ (Ad.of h3) (.inr rfl)
                    cases R7.sl j v s a h1 h2 h3 with
                    | un => exact .un _
                    | val x => exact .val (x.stp st8)
                    | own x => exact .own (x.stp st8 (upd_ne (ne _ rfl)))
                    | bor x => exact .bor (x.stp st8 (upd_ne (ne _ rfl)))
                  · by_cases zz : b = Dd
                    · subst zz; exact ⟨_, upd_same⟩
                    · rw [upd_ne zz]; exact R7.dom b z
                  · by_cases zz : b = Dd
                    · subst zz; rw [upd_same] at z; cases z
                    · rw [upd_ne zz] at z; exact R7.gr b z
                refine ⟨vs, h7, by rw [r7.length]; exact hz, hlt, _, acc ++ [_], vs ++ [v], R8.uns hn (by rw [hl2, hwl]) hnw, (gc.trans (g46.trans (gA g7))).trans (goD ⟨_, h7⟩), upd_same, ?_, qc⟩
                exact (r7.append (.cons kv .nil)).stp st8
    · have ei : i = ds.length := by omega
      subst ei
      rw [List.drop_length] at qc
      exact .inl ⟨w1, qc Hc vs Rc gc hc rc⟩
end

section
variable {X : Cx} {Z : WXZ} {elt tg iter : Expr} {ifs : List Expr} {scope : Scope} {own : List (Str × Nat)} {pos : Pos} {it : En → Out (List D)} {g : TG} {is : List Nat} {h : D → Option (List D)} {c : En → Out Bool} {e : En → Out Pv}
/-- the tests of a comprehension -/
def DTs (X : Cx) (ifs : List Expr) (c : En → Out Bool) : Prop := PTs X ifs (TTof X Z0 c)
theorem TTof.t {f : En → Out Bool} : DTt X Z0 (TTof X Z0 f) f := ⟨fun {B as σ H ρ Q} R q => ⟨B, as, ρ, R, q⟩⟩
theorem TEof.t {f : En → Out Pv} : DEt X Z0 (TEof X Z0 f) f := ⟨fun {B as σ H ρ Q} R q => ⟨B, as, ρ, R, q⟩⟩
theorem ts_nil : DTs X [] cYes := ⟨fun pins s σ H Q I ⟨B, as, ρ, R, q⟩ => wpAny_tests_nil ⟨H, I, q H R .refl⟩⟩
theorem ts_one {a : Expr} {f : En → Out Bool} (h : DT X Z0 a f) : DTs X [a] f := pts_one h.pt
abbrev Cx.bk (X : Cx) (scope : Scope) (s : Shared) (H : Hp) (C : Addr) (cl : List (Str × Addr)) (fp : List Addr) : Cx := X.blk s H scope (compEnvC scope cl C X.env) fp
theorem n_lc (hc : X.calm = true) (hN : X.N.Nodup) (own : List (Str × Nat)) (ok : blkC X.N X.env.scope scope own = true) (ho : own.map (·.2) = is) (hi : DI X Z tg iter it) (sg : NTg X.K g is h) (hg : ∀ s H C cl fp, PG (Cx.bk X scope s H C cl fp) tg g)
    (ht : ∀ s H C cl fp, DTs (Cx.bk X scope s H C cl fp) ifs c) (he : ∀ s H C cl fp, DE (Cx.bk X scope s H C cl fp) Z0 elt e) (hs : ∀ x, foldedSetIterable iter X.env x = pure x := by intro _; rfl) :
    DN X Z (.ListComp elt [⟨tg, iter, ifs, 0⟩] scope pos) (nLc it is h c e) := by
  obtain ⟨wi, pi, si⟩ := hi
  refine ⟨tLc wi g (TTof X Z0 c) (TEof X Z0 e) is, ?_, dnt_lc si sg TTof.t TEof.t⟩
  rw [← ho]
  exact pe_lc hc hN pi (blkOk_by ok) hg ht (fun s H C cl fp => (he s H C cl fp).pe) hs
theorem s_setLc {i : Nat} {y : Str} {py spos : Pos} (hc : X.calm = true) (hN : X.N.Nodup) (own : List (Str × Nat)) (ok : blkC X.N X.env.scope scope own = true) (ho : own.map (·.2) = is)
    (hsw : swapsWith (.ListComp elt [⟨tg, iter, ifs, 0⟩] scope pos) (some (.Name y py)) spos.line X.env = pure true) (hi : DI X Z tg iter it) (sg : NTg X.K g is h) (hg : ∀ s H C cl fp, PG (Cx.bk X scope s H C cl fp) tg g)
    (ht : ∀ s H C cl fp, DTs (Cx.bk X scope s H C cl fp) ifs c) (he : ∀ s H C cl fp, DE (Cx.bk X scope s H C cl fp) Z0 elt e) (hy : X.N[i]? = some y := by rfl) (hyl : X.env.scope.names.lookup y = some .local := by rfl) (hs : ∀ x, foldedSetIterable iter X.env x = pure x := by intro _; rfl) :
    DS X Z (.Assign [.Name y py] (.ListComp elt [⟨tg, iter, ifs, 0⟩] scope pos) spos) (sSetN i (nLc it is h c e)) := by
  obtain ⟨wi, pi, si⟩ := hi
  refine ⟨tAsg (tLc wi g (TTof X Z0 c) (TEof X Z0 e) is) (gName i), ?_, (dnt_lc si sg TTof.t TEof.t).set i⟩
  rw [← ho]
  exact ps_setLc hc hN hy hyl hsw pi (blkOk_by ok) hg ht (fun s H C cl fp => (he s H C cl fp).pe) hs
/-- the same, let go of at once -/
theorem s_setLcV {i : Nat} {y : Str} {py spos : Pos} (hc : X.calm = true) (hN : X.N.Nodup) (own : List (Str × Nat)) (ok : blkC X.N X.env.scope scope own = true) (ho : own.map (·.2) = is)
    (hsw : swapsWith (.ListComp elt [⟨tg, iter, ifs, 0⟩] scope pos) (some (.Name y py)) spos.line X.env = pure true) (hi : DI X Z tg iter it) (sg : NTg X.K g is h) (hg : ∀ s H C cl fp, PG (Cx.bk X scope s H C cl fp) tg g)
    (ht : ∀ s H C cl fp, DTs (Cx.bk X scope s H C cl fp) ifs c) (he : ∀ s H C cl fp, DE (Cx.bk X scope s H C cl fp) Z0 elt e) (hy : X.N[i]? = some y := by rfl) (hyl : X.env.scope.names.lookup y = some .local := by rfl) (hs : ∀ x, foldedSetIterable iter X.env x = pure x := by intro _; rfl) :
    DS X Z (.Assign [.Name y py] (.ListComp elt [⟨tg, iter, ifs, 0⟩] scope pos) spos) (sSet i (vN (nLc it is h c e))) := by
  obtain ⟨wi, pi, si⟩ := hi
  refine ⟨tAsg (tLc wi g (TTof X Z0 c) (TEof X Z0 e) is) (gName i), ?_, ⟨fun {B as σ H ρ D'} R q => (dnt_lc si sg TTof.t TEof.t).val.go R ((q.bind R).imp fun p ρ1 H1 R1 g1 q1 v k1 => ?_)⟩⟩
  · rw [← ho]
    exact ps_setLc hc hN hy hyl hsw pi (blkOk_by ok) hg ht (fun s H C cl fp => (he s H C cl fp).pe) hs
  · cases k1 with
    | v k =>
      obtain ⟨R2, g2⟩ := R1.setVal i k
      exact q1 _ _ _ R2 g2
    | b k => exact q1.elim
end
end L3
namespace L3
open PySem PySem.Spec PyProof.Rows L2

/-! ### {k: v, ..} -/
section
variable {X : Cx} {Z : WXZ} {B : Bs} {as : List (Option Addr)} {σ : L2.St} {H H' : Hp} {ρ ρ' : En} {α : Type}
theorem EO.and {K K' : α → En → Hp → Prop} {o : Out α} {a : Addr} (h : EO X Z B as σ H K o) (f : ∀ x ρ' H', Rel X.G (B.and a) as σ H' ρ' → Go (Ad as) H (Ad as) H' → K x ρ' H' → K' x ρ' H') : EO X Z (B.and a) as σ H K' o := by
  cases o with
  | ok x ρ' => exact fun H' R g => f x ρ' H' R g (h H' R.less g)
  | exc e ρ' => exact fun cls dx H' R g ⟨x1, x2⟩ => h cls dx H' R.less g ⟨x1, x2.imp id fun ⟨d, vfs, e1, e2, e3, r⟩ => ⟨d, vfs, e1, e2, e3, r.stp (.less fun b z => .inl (z.imp .inl id))⟩⟩
  | bad => exact h
/-- the object that is under way is written anew -/
theorem Rel.over {a : Addr} {o u : HO} (R : Rel X.G (B.and a) as σ H ρ) (h : H a = some u) : Rel X.G (B.and a) as σ (upd H a o) ρ ∧ Stp ((B.and a).W as) H ((B.and a).W as) (upd H a o) := by
  have st : Stp ((B.and a).W as) H ((B.and a).W as) (upd H a o) := fun b w hb n => ⟨by rw [upd_ne (fun z => n (by rw [z]; exact .inl (.inr rfl)))]; exact hb, n⟩
  refine ⟨⟨R.l1, R.l2, fun j v s b h1 h2 h3 => ?_, R.pin, R.fr, R.inj, R.nw, fun b z => ?_, fun b z => ?_⟩, st⟩
  · have ne : ∀ b', b = some b' → b' ≠ a := fun b' eb z => by
      subst eb z
      exact R.nw _ (Ad.of h3) (.inr rfl)
    cases R.sl j v s b h1 h2 h3 with
    | un => exact .un _
    | val x => exact .val (x.stp st)
    | own x => exact .own (x.stp st (upd_ne (ne _ rfl)))
    | bor x => exact .bor (x.stp st (upd_ne (ne _ rfl)))
  · by_cases e : b = a
    · rw [e]; exact ⟨_, upd_same⟩
    · rw [upd_ne e]; exact R.dom b z
  · by_cases e : b = a
    · rw [e, upd_same] at z; cases z
    · rw [upd_ne e] at z; exact R.gr b z
def pNil : En → Out (List (Key × D)) := fun ρ => .ok [] ρ
def pCons (fk fv : En → Out Pv) (g : En → Out (List (Key × D))) : En → Out (List (Key × D)) := fun ρ => (fk ρ).bind fun p ρ1 => (fv ρ1).bind fun q ρ2 => match (pvD ρ1 p).bind keyD, q with
  | some k, .v d => (g ρ2).bind fun r ρ3 => .ok ((k, d) :: r) ρ3
  | _, _ => .bad
def dics (kds : List (Key × D)) : List (Key × D) := kds.foldl (fun acc kv => dput acc kv.1 kv.2) []
def nDic (g : En → Out (List (Key × D))) : En → Out D := fun ρ => (g ρ).bind fun kds ρ1 => .ok (.dic (dics kds)) ρ1
structure DPt (X : Cx) (Z : WXZ) (n : Nat) (trs : List (TE × TE)) (g : En → Out (List (Key × D))) : Prop where
  go : ∀ {B : Bs} {as : List (Option Addr)} {σ : L2.St} {H : Hp} {ρ : En} {Q : List (V × V) → Hp → Prop}, Rel X.G B as σ H ρ →
    EO X Z B as σ H (fun kds _ H' => ∀ kvs : List (Key × V), kvs.length = n → kvs.map (·.1) = kds.map (·.1) → Reps X.G (B.W as) H' (kvs.map (·.2)) (kds.map (·.2)) → Q (kvs.map fun kv => (kV kv.1, kv.2)) H') (g ρ) → tPairs trs σ H Q
def DP (X : Cx) (Z : WXZ) (pos : Pos) (ks : List (Option Expr)) (vs : List Expr) (g : En → Out (List (Key × D))) : Prop := ∃ trs, PPs X pos ks vs trs ∧ DPt X Z ks.length trs g
theorem dp_nil {pos : Pos} : DP X Z pos [] [] pNil := ⟨_, pps_nil, ⟨fun {B as σ H ρ Q} R q => q H R .refl [] rfl rfl .nil⟩⟩
theorem dp_cons {pos : Pos} {k v : Expr} {ks : List (Option Expr)} {vs : List Expr} {fk fv : En → Out Pv} {g : En → Out (List (Key × D))} (hk : DE X Z k fk) (hv : DE X Z v fv) (h : DP X Z pos ks vs g) : DP X Z pos (some k :: ks) (v :: vs) (pCons fk fv g) := by
  obtain ⟨_, p1, s1⟩ := hk
  obtain ⟨_, p2, s2⟩ := hv
  obtain ⟨_, p3, s3⟩ := h
  refine ⟨_, pps_cons p1 p2 p3, ⟨fun {B as σ H ρ Q} R q => s1.go R (q.bind.imp fun p ρ1 H1 R1 g1 q1 x kx => s2.go R1 (q1.bind.imp fun p' ρ2 H2 R2 g2 q2 y ky => ?_))⟩⟩
  cases ek : (pvD ρ1 p).bind keyD with
  | none => rw [ek] at q2; exact q2.elim
  | some kk =>
    rw [ek] at q2
    cases ky with
    | b _ => exact q2.elim
    | v ky =>
      cases ed : pvD ρ1 p with
      | none => rw [ed] at ek; cases ek
      | some dk =>
        rw [ed] at ek
        have exk := (kx.peek R1 ed).key ek
        subst exk
        exact s3.go R2 (EO.bind q2 |>.imp fun kds ρ3 H3 R3 g3 q3 kvs hl he hr => q3 H3 R3 .refl ((kk, y) :: kvs) (by simp [hl]) (by simp [he]) (.cons (ky.go g3) hr))
theorem merge_ok {W : Addr → Prop} {H : Hp} {G : Pm} : ∀ {more : List (Key × V)} {mds : List (Key × D)} {kvs : List (Key × V)} {kds : List (Key × D)}, more.map (·.1) = mds.map (·.1) → Reps G W H (more.map (·.2)) (mds.map (·.2)) →
    kvs.map (·.1) = kds.map (·.1) → Reps G W H (kvs.map (·.2)) (kds.map (·.2)) →
    (mergeK kvs more).map (·.1) = (mds.foldl (fun acc kv => dput acc kv.1 kv.2) kds).map (·.1) ∧ Reps G W H ((mergeK kvs more).map (·.2)) ((mds.foldl (fun acc kv => dput acc kv.1 kv.2) kds).map (·.2))
  | [], [], kvs, kds, _, _, h, r => ⟨h, r⟩
  | [], _ :: _, _, _, h, _, _, _ => by simp at h
  | _ :: _, [], _, _, h, _, _, _ => by simp at h
  | p :: more, q :: mds, kvs, kds, h, c, hk, r => by
    simp only [List.map_cons, List.cons.injEq] at h
    simp only [List.map_cons] at c
    cases c with
    | cons c1 c2 =>
      have e := dput_ok (k := q.1) hk r c1
      have := merge_ok (kvs := putK kvs q.1 p.2) (kds := dput kds q.1 q.2) h.2 c2 e.1 e.2
      have e3 : mergeK kvs (p :: more) = mergeK (putK kvs q.1 p.2) more := by
        show mergeK (putK kvs p.1 p.2) more = _
        rw [h.1]
      rw [e3]
      exact this
theorem n_dic {pos : Pos} {ks : List (Option Expr)} {vs : List Expr} {g : En → Out (List (Key × D))} (h : DP X Z pos ks vs g) (hall : ks.all (·.isSome) = true := by rfl) (hl : ks.length = vs.length := by rfl) (h0 : ks ≠ [] := by intro z; cases z) (h15 : ks.length ≤ 15 := by decide) :
    DN X Z (.Dict ks vs pos) (nDic g) := by
  obtain ⟨trs, p, s⟩ := h
  refine ⟨_, pe_disp p hall hl h0 h15, ⟨fun {B as σ H ρ Q} R q a ha => ?_⟩⟩
  obtain ⟨R1, g1⟩ := R.more (o := .dK []) ha
  have na : ¬ Ad as a := fun z => R.fresh ha (.inr z)
  unfold nDic at q
  refine s.go R1 ?_
  cases eg : g ρ with
  | bad => rw [eg] at q; exact q.elim
  | exc x ρ2 =>
    rw [eg] at q
    exact EO.and (a := a) (B := B) (K := fun _ _ _ => False) (o := .exc x ρ2) (fun cls dx H' R' g' y => q cls dx H' R' (g1.trans g') y) fun _ _ _ _ _ z => z.elim
  | ok kds ρ2 =>
    rw [eg] at q
    intro H2 R2 g2 kvs hn he hr
    have e2 : H2 a = some (.dK []) := g2.keep _ _ upd_same na
    refine ⟨e2, kvs, rfl, by omega, ?_⟩
    obtain ⟨R3, st⟩ := R2.over (o := .dK (mergeK [] kvs)) e2
    obtain ⟨m1, m2⟩ := merge_ok he hr (kvs := []) (kds := []) rfl .nil
    have gg : Go (Ad as) H (Ad as) (upd H2 a (.dK (mergeK [] kvs))) := by
      have g3 := g1.trans g2
      refine ⟨fun b u e n => ?_, g3.sub, fun b e => ?_⟩
      · rw [upd_ne (ne_of_none e ha)]; exact g3.keep b u e n
      · by_cases z : b = a
        · rw [z]; exact ha
        · rw [upd_ne z] at e; exact g3.grow b e
    exact q _ R3.less gg a _ R3 .refl ha ⟨_, upd_same, True.intro, .dic m1 (m2.stp st)⟩
end
end L3
namespace L3
open PySem PySem.Spec PyProof.Rows L2

/-! ### the law's own end -/
def isLst (o : Obj) : Bool := match o.cls with
  | .type n => n == "list"
  | _ => false
/-- no list of the module's own stands there when the law is called -/
def noLst (K : PySem.W.Frag) : Bool := K.all fun q => !isLst q.2
theorem noLst_at {K : PySem.W.Frag} (h : noLst K = true) {a : Addr} {o : Obj} (hl : K.lookup a = some o) (hc : o.cls = .type "list") : False := by
  unfold noLst at h
  induction K with
  | nil => cases hl
  | cons p r ih =>
    obtain ⟨b, u⟩ := p
    rw [List.all_cons, Bool.and_eq_true] at h
    rw [List.lookup_cons] at hl
    split at hl
    · cases hl
      have h1 := h.1
      simp [isLst, hc] at h1
    · exact ih h.2 hl
theorem rep_ints {G : Pm} {W : Addr → Prop} {H : Hp} : ∀ ns : List Int, Reps G W H (ns.map V.int) (ns.map D.int)
  | [] => .nil
  | n :: ns => .cons (.int n) (rep_ints ns)
/-- the law, from its def's promise: m answers true -/
theorem law_go {P : Program} {w : World} {K : PySem.W.Frag} {mg mb : Str → Option Value} {k : Nat} {fa a : Addr} {fd : FuncData} {x : Str} {m : Mf} {s₁ : Shared} {vs : List Value} {ns : List Int}
    (KX : K.In s₁.heap) (hK : noLst K = true) (hns : s₁.heap.Ns mainGlobals mg) (hb : s₁.heap.Ns builtinsNs mb) (hbb : ∀ x : Str, x ≠ "__name__" → mb x = bootBuiltins x) (hlim : s₁.heap.NoLimit) (hg : s₁.gens = #[])
    (ha : s₁.heap.get? a = some { cls := .type "list", data := .seq vs.toArray }) (hi : IntsAre vs ns) (hl : ns.length ≤ sizeLine) (hr : RoomG k callerA)
    (F : ∀ base : Heap, K.In base → base.Ns mainGlobals mg → FnG P w K mg base CX0 k fa fd [x] (spM false ⟨K, mg⟩ 1 m)) (hbind : ∀ (s : Shared) (u : Value), BindsTo s fd ⟨[u], []⟩ [(x, u)])
    (hm : ∃ cs, m [.val (.lst (ns.map .int))] = .ok (.v (.bl true)) cs) :
    codeAny (model P w) callerA (.call (.ref fa) ⟨[.ref a], []⟩) (fun r s' => r = .ok (.ret (.bool true)) ∧ OldK s₁.heap s'.heap ∧ s'.os = s₁.os ∧ AllBare s'.gens) s₁ := by
  have nk : K.lookup a = none := by
    cases e : K.lookup a with
    | none => rfl
    | some o =>
      have := KX a o e
      rw [ha] at this
      cases this
      exact (noLst_at hK e rfl).elim
  -- nothing is tracked but the script
  let ob : Obj := { cls := .type "list", data := .seq vs.toArray }
  let H : Hp := fun b => if b = a then some (.frz ob (.lst (ns.map V.int))) else none
  have Ha : H a = some (.frz ob (.lst (ns.map V.int))) := if_pos rfl
  have Hn : ∀ b, b ≠ a → H b = none := fun b n => if_neg n
  have hok : HOk P w H s₁.heap := fun b u e => by
    by_cases n : b = a
    · subst n
      rw [Ha] at e; cases e
      exact ⟨ha, by rw [List.length_map]; exact hl, vs, _, vals_ints hi, ha⟩
    · rw [Hn b n] at e; cases e
  have free : ∀ {b : Addr} {o : Obj} {es : Array DictEntry} {n : Nat}, s₁.heap.get? b = some o → o.data = .dict es n → H b = none := fun {b o es n} e ed => by
    refine Hn b fun z => ?_
    subst z
    rw [ha] at e; cases e
    cases ed
  have nsH : ∀ {b : Addr} {f : Str → Option Value}, s₁.heap.Ns b f → (hidT s₁.heap H).Ns b f := fun ⟨o, es, n, e, ed, q⟩ => ⟨o, es, n, hidT_get e (free e ed), ed, q⟩
  have KB : K.In (hidT s₁.heap H) := fun b o e => hidT_get (KX b o e) (Hn b fun z => by
    subst z
    rw [nk] at e; cases e)
  have md : Mod K mg (hidT s₁.heap H) := ⟨KB, nsH hns, ⟨mb, nsH hb, hbb⟩, hlim.imp fun mc q => ⟨nsH q.1, q.2⟩⟩
  have env : Env0 P w K mg (hidT s₁.heap H) callerA [] s₁ H :=
    { frames := rfl, mod := md, bs := (fun b o e => of_hidT e), bsz := Nat.le_of_eq (hidT_size _ _), funs := trivial, frf := (fun b hb => absurd (show b ∈ ([] : List Addr) from hb) (by simp)), hok := hok, bare := .of_eq hg }
  have rS : Rel ⟨K, mg⟩ ⟨fun _ => False, [none], H⟩ [none] [some (.ref a)] H [.val (.lst (ns.map .int))] := by
    refine ⟨rfl, rfl, fun i v s b h1 h2 h3 => ?_, fun i d h => ?_, fun i d b h => ?_, fun i j b h => ?_, fun b _ z => z, fun b z => z.elim, fun b z => z⟩
    · match i, h1, h2, h3 with
      | 0, h1, h2, h3 =>
        cases h1; cases h2; cases h3
        exact .val (.ref (.inr ⟨ob, Ha⟩) (fun z => z.elim id fun z => by cases z with | tail _ z => cases z) (.lst (rep_ints ns)) trivial)
    · match i, h with
      | 0, h => cases h
    · match i, h with
      | 0, h => cases h
    · match i, h with
      | 0, h => cases h
  obtain ⟨cs, em⟩ := hm
  have sp : spM false ⟨K, mg⟩ 1 m [.ref a] H (fun v _ => v = .bl true) fun _ _ _ => False := by
    refine ⟨rfl, _, _, _, rS, fun i d h => ?_, ?_⟩
    · match i, h with
      | 0, h => cases h
    · rw [em]
      intro v H' g c r
      cases r with
      | bl => rfl
      | ref _ _ c => cases c
  refine codeAny_mono ((F _ KB (nsH hns)).run callerA [] s₁ H ⟨[.ref a], []⟩ [.ref a] [.ref a] _ _ hr env (hbind s₁ (.ref a)) (.cons rfl .nil) sp) fun r s' q => ?_
  match r, q with
  | .error e, q => exact (show False from q).elim
  | .ok .next, q => exact False.elim q
  | .ok .brk, q => exact False.elim q
  | .ok .cont, q => exact False.elim q
  | .ok (.ret u), q =>
    obtain ⟨v, H', os, bare, un, hok', ru, ev⟩ := q
    have ev' : v = .bl true := ev
    subst ev'
    have eu : u = Value.bool true := ru
    subst eu
    refine ⟨rfl, OldK.of_keep fun b o e => ?_, os, bare⟩
    by_cases n : b = a
    · subst n
      rw [ha] at e; cases e
      exact (hok' b _ (un.frzs b _ _ Ha)).1
    · exact un.keep b o e (Hn b n) (fun z => nomatch (show b ∈ ([] : List Addr) from z)) (fun z => nomatch z)
/-- what k_head leaves (case hc) -/
theorem law_end {l : PySem.W.OpenLaw} {n k : Nat} {q : Program} {loose : List Str} {XP : (Str → Option Value) → Heap → Prop} {YP : World → Heap → Prop} {d : DefRec} {K : Params → PySem.W.Frag} {x : Str} {m : Mf}
    (hn : l.most = some n) (hn2 : n ≤ sizeLine) (hdf : d.params.defaults = []) (hr : RoomG k callerA) (hY : ∀ (w : World) (h : Heap), YP w h → (K w.params).In h) (hK : ∀ p, noLst (K p) = true)
    (F : ∀ (w : World) (mg : Str → Option Value) (fa : Addr) (h : Heap), (K w.params).In h → h.Ns mainGlobals mg → mg d.name = some (.ref fa) →
      ∃ fd : FuncData, (∀ (s : Shared) (u : Value), BindsTo s fd ⟨[u], []⟩ [(x, u)]) ∧ ∀ base : Heap, (K w.params).In base → base.Ns mainGlobals mg → FnG l.prog w (K w.params) mg base CX0 k fa fd [x] (spM false ⟨K w.params, mg⟩ 1 m))
    (hm : ∀ ns : List Int, ns.length ≤ n → ∃ cs, m [.val (.lst (ns.map .int))] = .ok (.v (.bl true)) cs) : PySem.W.WalkO q loose XP YP l.row.toRowW d [] (fun f vs => PySem.call f vs) := by
  refine Att.attach_call hn hdf fun w s₀ s₁ mg mb fa o pm cd doc a vs ns G Y ho hd hcd hmg hobj hints hlen hg => ?_
  have KX := hY w _ Y
  obtain ⟨fd, hb, hF⟩ := F w mg fa _ KX G.T.g hmg
  exact law_go KX (hK _) G.T.g G.T.b G.T.builtins G.T.nolimit hg hobj hints (Nat.le_trans hlen hn2) hr hF hb (hm ns hlen)
end L3
namespace L3
open PySem PySem.Spec PyProof.Rows L2

/-! ### reckoning with mirrors -/
/-- it ends well, and so -/
def W {α : Type} (o : Out α) (P : α → En → Prop) : Prop := match o with
  | .ok a ρ => P a ρ
  | _ => False
section
variable {α β : Type}
theorem W_ok {a : α} {ρ : En} {P : α → En → Prop} : W (.ok a ρ) P = P a ρ := rfl
theorem W.imp {o : Out α} {P Q : α → En → Prop} (h : W o P) (f : ∀ a ρ, P a ρ → Q a ρ) : W o Q := by
  cases o with
  | ok a ρ => exact f a ρ h
  | exc e ρ => exact h
  | bad => exact h
theorem W.ok {o : Out α} {P : α → En → Prop} (h : W o P) : ∃ a ρ, o = .ok a ρ ∧ P a ρ := by
  cases o with
  | ok a ρ => exact ⟨a, ρ, rfl, h⟩
  | exc e ρ => exact h.elim
  | bad => exact h.elim
theorem W_congr {o o' : Out α} {P : α → En → Prop} (h : o = o') : W o P = W o' P := by rw [h]
theorem bind_congr {o o' : Out α} {k : α → En → Out β} (h : o = o') : o.bind k = o'.bind k := by rw [h]
theorem thn_congr {o o' : Out Fl} {k : En → Out Fl} (h : o = o') : o.thn k = o'.thn k := by rw [h]
theorem bind_ok {a : α} {ρ : En} {k : α → En → Out β} : (Out.ok a ρ).bind k = k a ρ := rfl
theorem thn_nx {ρ : En} {k : En → Out Fl} : (Out.ok Fl.nx ρ).thn k = k ρ := rfl
theorem thn_rt {d : D} {ρ : En} {k : En → Out Fl} : (Out.ok (Fl.rt d) ρ).thn k = .ok (.rt d) ρ := rfl
theorem thn_rn {d : D} {ρ : En} {k : En → Out Fl} : (Out.ok (Fl.rn d) ρ).thn k = .ok (.rn d) ρ := rfl
theorem thn_bk {ρ : En} {k : En → Out Fl} : (Out.ok Fl.bk ρ).thn k = .ok .bk ρ := rfl
theorem thn_ct {ρ : En} {k : En → Out Fl} : (Out.ok Fl.ct ρ).thn k = .ok .ct ρ := rfl
/-- a call, as far as what is told of the callee goes -/
theorem callM_ok {np : Nat} {m : Mf} {ps : List Pv} {ρ ρ0 cs : En} {r : Rt} (h1 : (lents ps).Nodup) (h2 : ps.length = np) (h3 : sls ρ ps = some ρ0) (h4 : m ρ0 = .ok r cs) : callM np m ps ρ = .ok r (wbk ps cs 0 ρ) := by
  rw [callM, if_pos ⟨h1, h2⟩, h3]
  dsimp only
  rw [h4]
end

section
variable {a b i j v : Int} {xs ys ds : List D} {d : D}
theorem add_i : gAdd (.int a) (.int b) = some (.int (a + b)) := rfl
theorem mns_i : gMns (.int a) (.int b) = some (.int (a - b)) := rfl
theorem mul_i (h : (b64 a || b64 b) = true) : gMul (.int a) (.int b) = some (.int (a * b)) := if_pos h
theorem mul_r (h : b64 b = true) : gMul (.int a) (.int b) = some (.int (a * b)) := mul_i (by rw [h, Bool.or_true])
theorem mul_l (h : b64 a = true) : gMul (.int a) (.int b) = some (.int (a * b)) := mul_i (by rw [h, Bool.true_or])
theorem div_i (h : 0 < b) (h2 : b < 1073741824) : gDiv (.int a) (.int b) = some (.int (a / b)) := if_pos (decide_eq_true ⟨h, by omega⟩)
theorem mod_i (h : 0 < b) : gMod (.int a) (.int b) = some (.int (a % b)) := if_pos (decide_eq_true h)
theorem neg_i : gNeg (.int a) = some (.int (-a)) := rfl
theorem lt_i : gLt (.int a) (.int b) = some (.bl (decide (a < b))) := rfl
theorem le_i : gLe (.int a) (.int b) = some (.bl (decide (a ≤ b))) := rfl
theorem gt_i : gGt (.int a) (.int b) = some (.bl (decide (b < a))) := rfl
theorem ge_i : gGe (.int a) (.int b) = some (.bl (decide (b ≤ a))) := rfl
theorem int_i : gInt [.int a] = some (.int a) := rfl
theorem abs_i : gAbs [.int a] = some (.int a.natAbs) := by
  have e : (if a < 0 then -a else a) = (a.natAbs : Int) := by split <;> omega
  show some (D.int (if a < 0 then -a else a)) = _
  rw [e]
theorem len_l : gLen [.lst xs] = some (.int xs.length) := rfl
theorem len_t : gLen [.tup xs] = some (.int xs.length) := rfl
theorem get_l : gGet (.lst xs) (.int i) = L2.atI xs i := rfl
theorem get_t : gGet (.tup xs) (.int i) = L2.atI xs i := rfl
theorem toT_l : gToT [.lst xs] = some (.tup xs) := rfl
theorem toT_t : gToT [.tup xs] = some (.tup xs) := rfl
theorem eqv_int : PyData.eqv (.int a) (.int b) = decide (a = b) := by first | rfl | (simp [PyData.eqv]; done)
theorem eq_i : gEq (.int a) (.int b) = some (.bl (decide (a = b))) := by
  show some (D.bl (PyData.eqv (.int a) (.int b))) = _
  rw [eqv_int]
theorem ne_i : gNe (.int a) (.int b) = some (.bl (!decide (a = b))) := by
  show some (D.bl (!PyData.eqv (.int a) (.int b))) = _
  rw [eqv_int]
theorem eq_s {x y : Str} : gEq (.str x) (.str y) = some (.bl (decide (x = y))) := rfl
theorem ne_s {x y : Str} : gNe (.str x) (.str y) = some (.bl (!decide (x = y))) := rfl
/-- data that are small and flat enough to be shown -/
theorem log_lt {i : Int} {k : Nat} (h : i.natAbs < 2 ^ k) (hk : 0 < k) : i.natAbs.log2 < k := by
  by_cases e : i.natAbs = 0
  · rw [e]; simpa using hk
  · exact (Nat.log2_lt e).mpr h
theorem show_ok {d : D} (h : repOk d = true) : gRepr [d] = some (.str (showD d)) := if_pos h
mutual
def mk : D → Bool
  | .non => true
  | .bl _ => true
  | .int i => decide (i.natAbs < 2 ^ 90)
  | .tup ds => mkL ds
  | .lst ds => mkL ds
  | _ => false
def mkL : List D → Bool
  | [] => true
  | d :: r => mk d && mkL r
end
mutual
/-- how many parts -/
def cnt : D → Nat
  | .tup ds => 1 + cntL ds
  | .lst ds => 1 + cntL ds
  | _ => 1
def cntL : List D → Nat
  | [] => 0
  | d :: r => cnt d + cntL r
end
mutual
def dep : D → Nat
  | .tup ds => 1 + depL ds
  | .lst ds => 1 + depL ds
  | _ => 0
def depL : List D → Nat
  | [] => 0
  | d :: r => max (dep d) (depL r)
end
mutual
theorem mk_ok : ∀ (d : D) (n : Nat), mk d = true → dep d ≤ n → pyOk n d = true ∧ smallD d = true ∧ wt d + 2 ≤ 100 * cnt d
  | .non, n, _, _ => ⟨by cases n <;> rfl, rfl, by simp [wt, cnt]⟩
  | .bl _, n, _, _ => ⟨by cases n <;> rfl, rfl, by simp [wt, cnt]⟩
  | .int i, n, h, _ => by
    have h := of_decide_eq_true (show decide (i.natAbs < 2 ^ 90) = true from h)
    have := log_lt h (by decide)
    refine ⟨by cases n <;> rfl, decide_eq_true (by omega), ?_⟩
    simp only [wt, cnt]; omega
  | .tup ds, n, h, hd => by
    simp only [dep] at hd
    obtain ⟨n, rfl⟩ : ∃ m, n = m + 1 := ⟨n - 1, by omega⟩
    obtain ⟨h1, h2, h3⟩ := mkL_ok ds n (by simpa [mk] using h) (by omega)
    refine ⟨by simpa [pyOk] using h1, by simpa [smallD] using h2, ?_⟩
    simp only [wt, cnt]; omega
  | .lst ds, n, h, hd => by
    simp only [dep] at hd
    obtain ⟨n, rfl⟩ : ∃ m, n = m + 1 := ⟨n - 1, by omega⟩
    obtain ⟨h1, h2, h3⟩ := mkL_ok ds n (by simpa [mk] using h) (by omega)
    refine ⟨by simpa [pyOk] using h1, by simpa [smallD] using h2, ?_⟩
    simp only [wt, cnt]; omega
  | .str _, _, h, _ => by simp [mk] at h
  | .dic _, _, h, _ => by simp [mk] at h
  | .dit _, _, h, _ => by simp [mk] at h
  | .obj _ _ _, _, h, _ => by simp [mk] at h
  | .ty _, _, h, _ => by simp [mk] at h
theorem mkL_ok : ∀ (ds : List D) (n : Nat), mkL ds = true → depL ds ≤ n → pyOkL n ds = true ∧ smallL ds = true ∧ wtL ds ≤ 100 * cntL ds
  | [], n, _, _ => ⟨by cases n <;> rfl, rfl, by simp [wtL, cntL]⟩
  | d :: r, n, h, hd => by
    have h : mk d = true ∧ mkL r = true := by simpa [mkL] using h
    simp only [depL] at hd
    obtain ⟨h1, h2, h3⟩ := mk_ok d n h.1 (by omega)
    obtain ⟨h4, h5, h6⟩ := mkL_ok r n h.2 (by omega)
    refine ⟨by cases n <;> simp [pyOkL, h1, h4], by simp [smallL, h2, h5], ?_⟩
    simp only [wtL, cntL]; omega
end
theorem mk_show {d : D} (h : mk d = true) (h1 : dep d ≤ 60) (h2 : cnt d ≤ 160000) : gRepr [d] = some (.str (showD d)) := by
  obtain ⟨a1, a2, a3⟩ := mk_ok d 60 h h1
  refine show_ok ?_
  unfold repOk
  rw [a1, a2, Bool.true_and, Bool.true_and]
  exact decide_eq_true (by omega)
theorem mk_int {i : Int} (h : -(2 ^ 90) < i) (h2 : i < 2 ^ 90) : mk (.int i) = true := decide_eq_true (by omega)
theorem pow18 : gPow (.int 10) (.int 18) = some (.int 1000000000000000000) := rfl
theorem app_l (h : xs.length < sizeLine) : gAppend (.lst xs) [d] = some (.non, .lst (xs ++ [d])) := if_pos h
end

/-! what follows, by names (a reckoning does not look into it ahead of time) -/
section
variable {α : Type} {ρ : En}
def c1_k (g : D → Option D) (p : Pv) (ρ1 : En) : Out Pv := ofO ((pvD ρ1 p).bind g) ρ1
theorem c1_e {g : D → Option D} {fa : En → Out Pv} : c1 g fa ρ = (fa ρ).bind (c1_k g) := rfl
def c2_k2 (g : D → D → Option D) (p q : Pv) (ρ2 : En) : Out Pv := ofO ((pvD ρ2 p).bind fun a => (pvD ρ2 q).bind fun b => g a b) ρ2
def c2_k (g : D → D → Option D) (fb : En → Out Pv) (p : Pv) (ρ1 : En) : Out Pv := (fb ρ1).bind (c2_k2 g p)
theorem c2_e {g : D → D → Option D} {fa fb : En → Out Pv} : c2 g fa fb ρ = (fa ρ).bind (c2_k g fb) := rfl
def cB_k (p : Pv) (ρ1 : En) : Out Bool := match p with
  | .v (.bl b) => .ok b ρ1
  | _ => .bad
theorem cB_e {f : En → Out Pv} : cB f ρ = (f ρ).bind cB_k := rfl
def iteK (f g : En → Out α) (b : Bool) (ρ1 : En) : Out α := if b = true then f ρ1 else g ρ1
theorem iteK_t {f g : En → Out α} : iteK f g true ρ = f ρ := rfl
theorem iteK_f {f g : En → Out α} : iteK f g false ρ = g ρ := rfl
def okB (b : Bool) (ρ : En) : Out Bool := .ok b ρ
def okV (b : Bool) (ρ : En) : Out Pv := .ok (.v (.bl b)) ρ
theorem cAnd_e {f g : En → Out Bool} : cAnd f g ρ = (f ρ).bind (iteK g (okB false)) := rfl
theorem cOr_e {f g : En → Out Bool} : cOr f g ρ = (f ρ).bind (iteK (okB true) g) := rfl
def cNot_k (b : Bool) (ρ : En) : Out Bool := .ok (!b) ρ
theorem cNot_e {f : En → Out Bool} : cNot f ρ = (f ρ).bind cNot_k := rfl
theorem cIte_e {c : En → Out Bool} {f g : En → Out Pv} : cIte c f g ρ = (c ρ).bind (iteK f g) := rfl
theorem cAndV_e {f g : En → Out Pv} : cAndV f g ρ = (cB f ρ).bind (iteK g (okV false)) := rfl
theorem cOrV_e {f g : En → Out Pv} : cOrV f g ρ = (cB f ρ).bind (iteK (okV true) g) := rfl
def cNotV_k (b : Bool) (ρ : En) : Out Pv := .ok (.v (.bl (!b))) ρ
theorem cNotV_e {f : En → Out Pv} : cNotV f ρ = (cB f ρ).bind cNotV_k := rfl
theorem cBv_e {f : En → Out Bool} : cBv f ρ = (f ρ).bind okV := rfl
def aCons_k2 (p : Pv) (ps : List Pv) (ρ2 : En) : Out (List Pv) := .ok (p :: ps) ρ2
def aCons_k (g : En → Out (List Pv)) (p : Pv) (ρ1 : En) : Out (List Pv) := (g ρ1).bind (aCons_k2 p)
theorem aCons_e {f : En → Out Pv} {g : En → Out (List Pv)} : aCons f g ρ = (f ρ).bind (aCons_k g) := rfl
def cTup_k (ps : List Pv) (ρ1 : En) : Out Pv := ofO ((pvs ps).bind fun ds => if ds.length ≤ sizeLine then some (.tup ds) else none) ρ1
theorem cTup_e {f : En → Out (List Pv)} : cTup f ρ = (f ρ).bind cTup_k := rfl
def nLst_k (ps : List Pv) (ρ1 : En) : Out D := match pvs ps with
  | some ds => if ds.length ≤ sizeLine then .ok (.lst ds) ρ1 else .bad
  | none => .bad
theorem nLst_e {f : En → Out (List Pv)} : nLst f ρ = (f ρ).bind nLst_k := rfl
def vN_k (d : D) (ρ1 : En) : Out Pv := .ok (.v d) ρ1
theorem vN_e {f : En → Out D} : vN f ρ = (f ρ).bind vN_k := rfl
def cN_k (g : List D → Option D) (ps : List Pv) (ρ1 : En) : Out Pv := ofO ((pvDs ρ1 ps).bind g) ρ1
theorem cN_e {g : List D → Option D} {f : En → Out (List Pv)} : cN g f ρ = (f ρ).bind (cN_k g) := rfl
def nN_k (g : List D → Option D) (ps : List Pv) (ρ1 : En) : Out D := match (pvDs ρ1 ps).bind g with
  | some d => .ok d ρ1
  | none => .bad
theorem nN_e {g : List D → Option D} {f : En → Out (List Pv)} : nN g f ρ = (f ρ).bind (nN_k g) := rfl
def oSome_k (p : Pv) (ρ1 : En) : Out (Option Int) := match p with
  | .v (.int i) => .ok (some i) ρ1
  | _ => .bad
theorem oSome_e {f : En → Out Pv} : oSome f ρ = (f ρ).bind oSome_k := rfl
def cSl_k3 (p : Pv) (lo hi : Option Int) (ρ3 : En) : Out Pv := ofO ((pvD ρ3 p).bind fun d => gSl d lo hi) ρ3
def cSl_k2 (h : En → Out (Option Int)) (p : Pv) (lo : Option Int) (ρ2 : En) : Out Pv := (h ρ2).bind (cSl_k3 p lo)
def cSl_k (l h : En → Out (Option Int)) (p : Pv) (ρ1 : En) : Out Pv := (l ρ1).bind (cSl_k2 h p)
theorem cSl_e {f : En → Out Pv} {l h : En → Out (Option Int)} : cSl f l h ρ = (f ρ).bind (cSl_k l h) := rfl
def nSl_k3 (p : Pv) (lo hi : Option Int) (ρ3 : En) : Out D := match pvD ρ3 p with
  | some (.lst ds) => .ok (.lst (cutD ds lo hi)) ρ3
  | _ => .bad
def nSl_k2 (h : En → Out (Option Int)) (p : Pv) (lo : Option Int) (ρ2 : En) : Out D := (h ρ2).bind (nSl_k3 p lo)
def nSl_k (l h : En → Out (Option Int)) (p : Pv) (ρ1 : En) : Out D := (l ρ1).bind (nSl_k2 h p)
theorem nSl_e {f : En → Out Pv} {l h : En → Out (Option Int)} : nSl f l h ρ = (f ρ).bind (nSl_k l h) := rfl
def nCat_k2 (p q : Pv) (ρ2 : En) : Out D := match pvD ρ2 p, pvD ρ2 q with
  | some (.lst a), some (.lst b) => if a.length + b.length ≤ sizeLine then .ok (.lst (a ++ b)) ρ2 else .bad
  | _, _ => .bad
def nCat_k (fb : En → Out Pv) (p : Pv) (ρ1 : En) : Out D := (fb ρ1).bind (nCat_k2 p)
theorem nCat_e {fa fb : En → Out Pv} : nCat fa fb ρ = (fa ρ).bind (nCat_k fb) := rfl
def sExp_k (_ : Pv) (ρ1 : En) : Out Fl := .ok .nx ρ1
theorem sExp_e {f : En → Out Pv} : sExp f ρ = (f ρ).bind sExp_k := rfl
def sRet_k (p : Pv) (ρ1 : En) : Out Fl := match p with
  | .v d => .ok (.rt d) ρ1
  | .b i => match ρ1[i]? with
    | some (.own d) => .ok (.rn d) (ρ1.set i .un)
    | _ => .bad
theorem sRet_e {f : En → Out Pv} : sRet f ρ = (f ρ).bind sRet_k := rfl
def sRetN_k (d : D) (ρ1 : En) : Out Fl := .ok (.rn d) ρ1
theorem sRetN_e {f : En → Out D} : sRetN f ρ = (f ρ).bind sRetN_k := rfl
theorem sIf_e {c : En → Out Bool} {f g : En → Out Fl} : sIf c f g ρ = (c ρ).bind (iteK f g) := rfl
def sSet_k (i : Nat) (p : Pv) (ρ1 : En) : Out Fl := match p with
  | .v d => .ok .nx (ρ1.set i (.val d))
  | .b _ => .bad
theorem sSet_e {i : Nat} {f : En → Out Pv} : sSet i f ρ = (f ρ).bind (sSet_k i) := rfl
def sSetN_k (i : Nat) (d : D) (ρ1 : En) : Out Fl := .ok .nx (ρ1.set i (.own d))
theorem sSetN_e {i : Nat} {f : En → Out D} : sSetN i f ρ = (f ρ).bind (sSetN_k i) := rfl
def gsCons_k (hs : List D → En → Out Unit) (r : List D) (_ : Unit) (ρ1 : En) : Out Unit := hs r ρ1
theorem gsCons_e {h : D → En → Out Unit} {hs : List D → En → Out Unit} {d : D} {r : List D} : gsCons h hs (d :: r) ρ = (h d ρ).bind (gsCons_k hs r) := rfl
def nxK (_ : Unit) (ρ1 : En) : Out Fl := .ok .nx ρ1
def sAsg_k (h : D → En → Out Unit) (p : Pv) (ρ1 : En) : Out Fl := match p with
  | .v d => (h d ρ1).bind nxK
  | .b _ => .bad
theorem sAsg_e {f : En → Out Pv} {h : D → En → Out Unit} : sAsg f h ρ = (f ρ).bind (sAsg_k h) := rfl
def sAug_k (i : Nat) (g : D → D → Option D) (a : D) (q : Pv) (ρ1 : En) : Out Fl := match (pvD ρ1 q).bind fun b => g a b with
  | some d => .ok .nx (ρ1.set i (.val d))
  | none => .bad
theorem sAug_e {i : Nat} {f : En → Out Pv} {g : D → D → Option D} : sAug i f g ρ = match ρ[i]? with
  | some (.val a) => (f ρ).bind (sAug_k i g a)
  | _ => .bad := rfl
def iL_k (p : Pv) (ρ1 : En) : Out (List D) := match p with
  | .v (.lst ds) => .ok ds ρ1
  | _ => .bad
theorem iL_e {f : En → Out Pv} : iL f ρ = (f ρ).bind iL_k := rfl
def iT_k (p : Pv) (ρ1 : En) : Out (List D) := match p with
  | .v (.tup ds) => .ok ds ρ1
  | _ => .bad
theorem iT_e {f : En → Out Pv} : iT f ρ = (f ρ).bind iT_k := rfl
def iR1_k (ps : List Pv) (ρ1 : En) : Out (List D) := match ps with
  | [.v (.int j)] => if inR j = true then .ok (rangeD 0 j) ρ1 else .bad
  | _ => .bad
theorem iR1_e {f : En → Out (List Pv)} : iR1 f ρ = (f ρ).bind iR1_k := rfl
def iR2_k (ps : List Pv) (ρ1 : En) : Out (List D) := match ps with
  | [.v (.int i), .v (.int j)] => if (inR i && inR j) = true then .ok (rangeD i j) ρ1 else .bad
  | _ => .bad
theorem iR2_e {f : En → Out (List Pv)} : iR2 f ρ = (f ρ).bind iR2_k := rfl
theorem sFor_e {it : En → Out (List D)} {g : D → En → Out Unit} {b : En → Out Fl} : sFor it g b ρ = (it ρ).bind (forL g b) := rfl
def cCall_k2 (r : Rt) (ρ2 : En) : Out Pv := .ok (.v r.d) ρ2
def cCall_k (np : Nat) (m : Mf) (ps : List Pv) (ρ1 : En) : Out Pv := (callM np m ps ρ1).bind cCall_k2
theorem cCall_e {np : Nat} {m : Mf} {f : En → Out (List Pv)} : cCall np m f ρ = (f ρ).bind (cCall_k np m) := rfl
def nCall_k2 (r : Rt) (ρ2 : En) : Out D := match r with
  | .n d => .ok d ρ2
  | .v _ => .bad
def nCall_k (np : Nat) (m : Mf) (ps : List Pv) (ρ1 : En) : Out D := (callM np m ps ρ1).bind nCall_k2
theorem nCall_e {np : Nat} {m : Mf} {f : En → Out (List Pv)} : nCall np m f ρ = (f ρ).bind (nCall_k np m) := rfl
def gSubD_k (i : Nat) (d : D) (p : Pv) (ρ1 : En) : Out Unit := match ρ1[i]? with
  | some s => match (Sl.dat s).bind fun x => (pvD ρ1 p).bind fun k => setD x k d with
    | some x' => .ok () (ρ1.set i (s.put x'))
    | none => .bad
  | none => .bad
theorem gSubD_e {i : Nat} {fi : En → Out Pv} {d : D} : gSubD i fi d ρ = if ((ρ[i]?).bind Sl.dat).isSome = false then .bad else (fi ρ).bind (gSubD_k i d) := rfl
def cM_k (i : Nat) (g : D → List D → Option (D × D)) (ps : List Pv) (ρ1 : En) : Out Pv := match ρ1[i]? with
  | some s => match (Sl.dat s).bind fun c => (pvs ps).bind fun ds => g c ds with
    | some (d, c') => .ok (.v d) (ρ1.set i (s.put c'))
    | none => .bad
  | none => .bad
theorem cM_e {i : Nat} {g : D → List D → Option (D × D)} {f : En → Out (List Pv)} : cM i g f ρ = match (ρ[i]?).bind Sl.dat with
  | some (.lst _) => (f ρ).bind (cM_k i g)
  | _ => .bad := rfl
def pCons_k3 (k : Key) (d : D) (r : List (Key × D)) (ρ3 : En) : Out (List (Key × D)) := .ok ((k, d) :: r) ρ3
def pCons_k2 (g : En → Out (List (Key × D))) (p : Pv) (ρ1 : En) (q : Pv) (ρ2 : En) : Out (List (Key × D)) := match (pvD ρ1 p).bind keyD, q with
  | some k, .v d => (g ρ2).bind (pCons_k3 k d)
  | _, _ => .bad
def pCons_k (fv : En → Out Pv) (g : En → Out (List (Key × D))) (p : Pv) (ρ1 : En) : Out (List (Key × D)) := (fv ρ1).bind (pCons_k2 g p ρ1)
theorem pCons_e {fk fv : En → Out Pv} {g : En → Out (List (Key × D))} : pCons fk fv g ρ = (fk ρ).bind (pCons_k fv g) := rfl
def nDic_k (kds : List (Key × D)) (ρ1 : En) : Out D := .ok (.dic (dics kds)) ρ1
theorem nDic_e {g : En → Out (List (Key × D))} : nDic g ρ = (g ρ).bind nDic_k := rfl
def lcB (ρ1 : En) (is : List Nat) (o : Out (List D)) : Out D := match o with
  | .ok acc ρ2 => .ok (.lst acc) (backAll ρ1 ρ2 is)
  | _ => .bad
def nLc_k (is : List Nat) (h : D → Option (List D)) (c : En → Out Bool) (e : En → Out Pv) (ds : List D) (ρ1 : En) : Out D := if noAdr ρ1 is = true then lcB ρ1 is (lcL is h c e ds [] (unAll ρ1 is)) else .bad
theorem nLc_e {it : En → Out (List D)} {is : List Nat} {h : D → Option (List D)} {c : En → Out Bool} {e : En → Out Pv} : nLc it is h c e ρ = (it ρ).bind (nLc_k is h c e) := rfl
theorem lcB_ok {ρ1 ρ2 : En} {is : List Nat} {acc : List D} : lcB ρ1 is (.ok acc ρ2) = .ok (.lst acc) (backAll ρ1 ρ2 is) := rfl
def iZ_k (ps : List Pv) (ρ1 : En) : Out (List D) := match ps with
  | [.v (.lst ds), .v (.lst es)] => .ok (zipD ds es) ρ1
  | [.v (.tup ds), .v (.tup es)] => .ok (zipD ds es) ρ1
  | _ => .bad
theorem iZ_e {f : En → Out (List Pv)} : iZ f ρ = (f ρ).bind iZ_k := rfl
def iR3_k (ps : List Pv) (ρ1 : En) : Out (List D) := match ps with
  | [.v (.int i), .v (.int j), .v (.int c)] => match range3 i j c with
    | some ds => .ok ds ρ1
    | none => .bad
  | _ => .bad
theorem iR3_e {f : En → Out (List Pv)} : iR3 f ρ = (f ρ).bind iR3_k := rfl
def cCh_k3 (g' : D → D → Option D) (q r : Pv) (ρ3 : En) : Out Pv := ofO ((pvD ρ3 q).bind fun y => (pvD ρ3 r).bind fun z => g' y z) ρ3
def cCh_k2 (g g' : D → D → Option D) (fc : En → Out Pv) (p q : Pv) (ρ2 : En) : Out Pv := match (pvD ρ2 p).bind fun x => (pvD ρ2 q).bind fun y => g x y with
  | some (.bl true) => (fc ρ2).bind (cCh_k3 g' q)
  | some (.bl false) => .ok (.v (.bl false)) ρ2
  | _ => .bad
def cCh_k (g g' : D → D → Option D) (fb fc : En → Out Pv) (p : Pv) (ρ1 : En) : Out Pv := (fb ρ1).bind (cCh_k2 g g' fc p)
theorem cCh_e {g g' : D → D → Option D} {fa fb fc : En → Out Pv} : cChain g g' fa fb fc ρ = (fa ρ).bind (cCh_k g g' fb fc) := rfl
def nRan_k (r : Int × Int × Int) (ρ1 : En) : Out D := match ranL r.1 r.2.1 r.2.2 with
  | some ds => .ok (.lst ds) ρ1
  | none => .bad
theorem nRan_e {f : En → Out (Int × Int × Int)} : nRan f ρ = (f ρ).bind nRan_k := rfl
def r1F_k (p : Pv) (ρ1 : En) : Out (Int × Int × Int) := match intP p with
  | some i => .ok (0, i, 1) ρ1
  | none => .bad
theorem r1F_e {fa : En → Out Pv} : r1F fa ρ = (fa ρ).bind r1F_k := rfl
def r2F_k2 (p q : Pv) (ρ2 : En) : Out (Int × Int × Int) := match intP p, intP q with
  | some i, some j => .ok (i, j, 1) ρ2
  | _, _ => .bad
def r2F_k (fb : En → Out Pv) (p : Pv) (ρ1 : En) : Out (Int × Int × Int) := (fb ρ1).bind (r2F_k2 p)
theorem r2F_e {fa fb : En → Out Pv} : r2F fa fb ρ = (fa ρ).bind (r2F_k fb) := rfl
def r3F_k3 (p q r : Pv) (ρ3 : En) : Out (Int × Int × Int) := match intP p, intP q, intP r with
  | some i, some j, some k => if k ≠ 0 ∧ k.natAbs < 1073741824 then .ok (i, j, k) ρ3 else .bad
  | _, _, _ => .bad
def r3F_k2 (fc : En → Out Pv) (p q : Pv) (ρ2 : En) : Out (Int × Int × Int) := (fc ρ2).bind (r3F_k3 p q)
def r3F_k (fb fc : En → Out Pv) (p : Pv) (ρ1 : En) : Out (Int × Int × Int) := (fb ρ1).bind (r3F_k2 fc p)
theorem r3F_e {fa fb fc : En → Out Pv} : r3F fa fb fc ρ = (fa ρ).bind (r3F_k fb fc) := rfl
/-! loops over written lists -/
def Out.lp (o : Out Fl) (k : En → Out Fl) : Out Fl := match o with
  | .ok .nx ρ => k ρ
  | .ok .ct ρ => k ρ
  | .ok .bk ρ => .ok .nx ρ
  | o => o
theorem lp_nx {k : En → Out Fl} : (Out.ok Fl.nx ρ).lp k = k ρ := rfl
theorem lp_ct {k : En → Out Fl} : (Out.ok Fl.ct ρ).lp k = k ρ := rfl
theorem lp_bk {k : En → Out Fl} : (Out.ok Fl.bk ρ).lp k = .ok .nx ρ := rfl
theorem lp_rt {k : En → Out Fl} {d : D} : (Out.ok (Fl.rt d) ρ).lp k = .ok (.rt d) ρ := rfl
theorem lp_rn {k : En → Out Fl} {d : D} : (Out.ok (Fl.rn d) ρ).lp k = .ok (.rn d) ρ := rfl
def forL_k (g : D → En → Out Unit) (b : En → Out Fl) (r : List D) (_ : Unit) (ρ1 : En) : Out Fl := (b ρ1).lp (forL g b r)
theorem forL_nil {g : D → En → Out Unit} {b : En → Out Fl} : forL g b [] ρ = .ok .nx ρ := rfl
theorem forL_cons {g : D → En → Out Unit} {b : En → Out Fl} {d : D} {r : List D} : forL g b (d :: r) ρ = (g d ρ).bind (forL_k g b r) := by
  unfold forL
  cases g d ρ with
  | ok u ρ1 =>
    show _ = (b ρ1).lp (forL g b r)
    dsimp only
    cases b ρ1 with
    | ok fl ρ2 => cases fl <;> rfl
    | exc _ _ => rfl
    | bad => rfl
  | exc _ _ => rfl
  | bad => rfl
def Out.sub {α β : Type} (o : Out α) (k : α → En → Out β) : Out β := match o with
  | .ok a ρ => k a ρ
  | _ => .bad
theorem sub_ok {β : Type} {a : α} {k : α → En → Out β} : (Out.ok a ρ).sub k = k a ρ := rfl
def lcL_k2 (is : List Nat) (h : D → Option (List D)) (c : En → Out Bool) (e : En → Out Pv) (r acc : List D) (p : Pv) (ρ3 : En) : Out (List D) := match p with
  | .v x => if acc.length < sizeLine then lcL is h c e r (acc ++ [x]) (unAll ρ3 is) else .bad
  | .b _ => .bad
def lcL_k (is : List Nat) (h : D → Option (List D)) (c : En → Out Bool) (e : En → Out Pv) (r acc : List D) (b : Bool) (ρ2 : En) : Out (List D) := if b = true then (e ρ2).sub (lcL_k2 is h c e r acc) else lcL is h c e r acc (unAll ρ2 is)
theorem lcL_nil {is : List Nat} {h : D → Option (List D)} {c : En → Out Bool} {e : En → Out Pv} {acc : List D} : lcL is h c e [] acc ρ = .ok acc ρ := rfl
def lcH (is : List Nat) (c : En → Out Bool) (k : Bool → En → Out (List D)) (ρ : En) (o : Option (List D)) : Out (List D) := match o with
  | some ds => (c (setAll ρ is (ds.map .val))).sub k
  | none => .bad
theorem lcH_some {is : List Nat} {c : En → Out Bool} {k : Bool → En → Out (List D)} {ds : List D} : lcH is c k ρ (some ds) = (c (setAll ρ is (ds.map .val))).sub k := rfl
theorem lcL_cons {is : List Nat} {h : D → Option (List D)} {c : En → Out Bool} {e : En → Out Pv} {d : D} {r acc : List D} : lcL is h c e (d :: r) acc ρ = lcH is c (lcL_k is h c e r acc) ρ (h d) := by
  unfold lcL
  cases h d with
  | none => rfl
  | some ds =>
    show _ = (c (setAll ρ is (ds.map .val))).sub (lcL_k is h c e r acc)
    dsimp only
    cases hc : c (setAll ρ is (ds.map .val)) with
    | ok b ρ2 =>
      cases b with
      | true =>
        show _ = (e ρ2).sub (lcL_k2 is h c e r acc)
        dsimp only
        cases e ρ2 with
        | ok p ρ3 => cases p <;> rfl
        | exc _ _ => rfl
        | bad => rfl
      | false => rfl
    | exc _ _ => rfl
    | bad => rfl
/-! a def's end -/
def runK (x : Bool) (ρ0 : En) (o : Out Fl) : Out Rt := match o with
  | .ok (.rt d) ρ' => fin ρ0 (.v d) ρ'
  | .ok (.rn d) ρ' => fin ρ0 (.n d) ρ'
  | .ok .nx ρ' => fin ρ0 (.v .non) ρ'
  | .exc e ρ' => match x, outs ρ0 ρ' with
    | true, some cs => .exc e cs
    | _, _ => .bad
  | _ => .bad
theorem run_e {x : Bool} {n : Nat} {g : En → Out Fl} : run x n g ρ = runK x ρ (g (ρ ++ List.replicate (n - ρ.length) .un)) := rfl
theorem runK_rt {x : Bool} {ρ0 : En} {d : D} : runK x ρ0 (.ok (.rt d) ρ) = fin ρ0 (.v d) ρ := rfl
theorem runK_rn {x : Bool} {ρ0 : En} {d : D} : runK x ρ0 (.ok (.rn d) ρ) = fin ρ0 (.n d) ρ := rfl
theorem runK_nx {x : Bool} {ρ0 : En} : runK x ρ0 (.ok .nx ρ) = fin ρ0 (.v .non) ρ := rfl
end
section
variable {a b : Int} {x y z u : D} {l : List D}
theorem isi_int : gIsi [.int a, .ty "int"] = some (.bl true) := rfl
theorem isi_bool : gIsi [.int a, .ty "bool"] = some (.bl false) := rfl
theorem at0 : L2.atI (x :: l) 0 = some x := atI_nat (j := 0) rfl
theorem at1 : L2.atI (x :: y :: l) 1 = some y := atI_nat (j := 1) rfl
theorem at2 : L2.atI (x :: y :: z :: l) 2 = some z := atI_nat (j := 2) rfl
theorem at3 : L2.atI (x :: y :: z :: u :: l) 3 = some u := atI_nat (j := 3) rfl
theorem setD_at {xs : List D} {i : Int} {j : Nat} {d : D} (h : ixN xs.length i = some j) : setD (.lst xs) (.int i) d = some (.lst (xs.set j d)) := by
  show (ixN xs.length i).map _ = _
  rw [h]; rfl
theorem ixN_nat {n j : Nat} (h : j < n) : ixN n (j : Int) = some j := by
  unfold ixN
  rw [if_pos (by omega), if_pos (by omega)]; rfl
theorem set0 : setD (.lst (x :: l)) (.int 0) u = some (.lst (u :: l)) := setD_at (ixN_nat (j := 0) (by simp))
theorem set1 : setD (.lst (x :: y :: l)) (.int 1) u = some (.lst (x :: u :: l)) := setD_at (ixN_nat (j := 1) (by simp))
theorem set2 : setD (.lst (x :: y :: z :: l)) (.int 2) u = some (.lst (x :: y :: u :: l)) := setD_at (ixN_nat (j := 2) (by simp))
theorem ran0 : rangeD 0 0 = [] := rfl
theorem ran1 : rangeD 0 1 = [.int 0] := rfl
theorem ran2 : rangeD 0 2 = [.int 0, .int 1] := rfl
theorem ran3 : rangeD 0 3 = [.int 0, .int 1, .int 2] := rfl
theorem maxI_one : maxI [a] = a := rfl
theorem max_ii : gMax [.int a, .int b] = some (.int (max a b)) := rfl
theorem max_l : gMax [.lst l] = (asInts l).bind fun ns => if ns = [] then none else some (.int (maxI ns)) := rfl
theorem max_t : gMax [.tup l] = (asInts l).bind fun ns => if ns = [] then none else some (.int (maxI ns)) := rfl
theorem sum_l : gSum [.lst l] = (asInts l).map fun ns => .int ns.sum := rfl
theorem sum_t : gSum [.tup l] = (asInts l).map fun ns => .int ns.sum := rfl
theorem asI_nil : asInts [] = some [] := rfl
theorem asI_cons : asInts (.int a :: l) = (asInts l).map (a :: ·) := rfl
theorem add_l {xs ys : List D} (h : xs.length + ys.length ≤ sizeLine) : gAdd (.lst xs) (.lst ys) = some (.lst (xs ++ ys)) := if_pos h
theorem add_t {xs ys : List D} (h : xs.length + ys.length ≤ sizeLine) : gAdd (.tup xs) (.tup ys) = some (.tup (xs ++ ys)) := if_pos h
theorem toL_l : gToL [.lst l] = some (.lst l) := rfl
theorem toL_t : gToL [.tup l] = some (.lst l) := rfl
theorem sl_l {lo hi : Option Int} : gSl (.lst l) lo hi = some (.lst (cutD l lo hi)) := rfl
theorem sl_t {lo hi : Option Int} : gSl (.tup l) lo hi = some (.tup (cutD l lo hi)) := rfl
theorem int_lit (n : Nat) : ((no_index (OfNat.ofNat n) : Nat) : Int) = (OfNat.ofNat n : Int) := rfl
theorem line_le {n : Nat} (h : n ≤ 1000) : n ≤ sizeLine := by rw [sizeLine_eq]; omega
theorem line_lt {n : Nat} (h : n ≤ 1000) : n < sizeLine := by rw [sizeLine_eq]; omega
end
/-! comprehensions, loops -/
theorem lcL_map {α : Type} {is : List Nat} {h : D → Option (List D)} {c : En → Out Bool} {e : En → Out Pv} {ρ : En} (dIn dOut : α → D) :
    ∀ (xs : List α) (acc : List D), acc.length + xs.length ≤ sizeLine → (∀ x ∈ xs, ∃ ps ρ2 ρ3, h (dIn x) = some ps ∧ c (setAll ρ is (ps.map .val)) = .ok true ρ2 ∧ e ρ2 = .ok (.v (dOut x)) ρ3 ∧ unAll ρ3 is = ρ) →
      lcL is h c e (xs.map dIn) acc ρ = .ok (acc ++ xs.map dOut) ρ
  | [], acc, _, _ => by simp [lcL]
  | x :: xs, acc, hl, H => by
    obtain ⟨ps, ρ2, ρ3, e1, e2, e3, e4⟩ := H x List.mem_cons_self
    have hl' : acc.length < sizeLine := by simp only [List.length_cons] at hl; omega
    simp only [List.map_cons, lcL, e1, e2, e3, e4, if_pos hl']
    rw [lcL_map dIn dOut xs (acc ++ [dOut x]) (by simp only [List.length_append, List.length_cons, List.length_nil] at hl ⊢; omega) fun y hy => H y (List.mem_cons_of_mem _ hy)]
    simp
/-- .. a state goes through -/
theorem lcL_fold {is : List Nat} {h : D → Option (List D)} {c : En → Out Bool} {e : En → Out Pv} (I : Nat → List D → En → Prop) (xs : List D) (hs : xs.length ≤ sizeLine)
    (step : ∀ i acc ρ x, xs[i]? = some x → I i acc ρ → ∃ ps ρ2 d ρ3, h x = some ps ∧ c (setAll ρ is (ps.map .val)) = .ok true ρ2 ∧ e ρ2 = .ok (.v d) ρ3 ∧ I (i + 1) (acc ++ [d]) (unAll ρ3 is)) :
    ∀ (i : Nat) (acc : List D) (ρ : En), i ≤ xs.length → acc.length = i → I i acc ρ → ∃ acc' ρ', lcL is h c e (xs.drop i) acc ρ = .ok acc' ρ' ∧ acc'.length = xs.length ∧ I xs.length acc' ρ' := by
  intro i acc ρ hi ha hI
  generalize hn : xs.length - i = n
  induction n generalizing i acc ρ with
  | zero =>
    have : i = xs.length := by omega
    subst this
    exact ⟨acc, ρ, by rw [List.drop_length]; rfl, ha, hI⟩
  | succ n ih =>
    have hlt : i < xs.length := by omega
    obtain ⟨ps, ρ2, d, ρ3, e1, e2, e3, e4⟩ := step i acc ρ xs[i] (List.getElem?_eq_getElem hlt) hI
    obtain ⟨acc', ρ', f1, f2, f3⟩ := ih (i + 1) (acc ++ [d]) (unAll ρ3 is) hlt (by simp [ha]) e4 (by omega)
    refine ⟨acc', ρ', ?_, f2, f3⟩
    rw [List.drop_eq_getElem_cons hlt]
    simp only [lcL, e1, e2, e3, if_pos (show acc.length < sizeLine by omega)]
    exact f1
/-- a for loop that goes to its end or returns -/
theorem forL_inv {g : D → En → Out Unit} {b : En → Out Fl} (I : Nat → En → Prop) (Q : Fl → En → Prop) (ds : List D) (he : ∀ ρ, I ds.length ρ → Q .nx ρ)
    (step : ∀ i ρ d, ds[i]? = some d → I i ρ → ∃ ρ1, g d ρ = .ok () ρ1 ∧ W (b ρ1) fun fl ρ2 => match fl with
      | .nx => I (i + 1) ρ2
      | .ct => I (i + 1) ρ2
      | .bk => Q .nx ρ2
      | fl => Q fl ρ2) :
    ∀ (i : Nat) (ρ : En), i ≤ ds.length → I i ρ → W (forL g b (ds.drop i) ρ) Q := by
  intro i ρ hi hI
  generalize hn : ds.length - i = n
  induction n generalizing i ρ with
  | zero =>
    have : i = ds.length := by omega
    subst this
    rw [List.drop_length]
    exact he ρ hI
  | succ n ih =>
    have hlt : i < ds.length := by omega
    obtain ⟨ρ1, e1, e2⟩ := step i ρ ds[i] (List.getElem?_eq_getElem hlt) hI
    rw [List.drop_eq_getElem_cons hlt]
    obtain ⟨fl, ρ2, e3, e4⟩ := e2.ok
    simp only [forL, e1, e3]
    cases fl with
    | nx => exact ih (i + 1) ρ2 hlt e4 (by omega)
    | ct => exact ih (i + 1) ρ2 hlt e4 (by omega)
    | bk => exact e4
    | rt d => exact e4
    | rn d => exact e4
theorem forL_all {g : D → En → Out Unit} {b : En → Out Fl} {I : Nat → En → Prop} {Q : Fl → En → Prop} {ds : List D} {ρ : En} (h0 : I 0 ρ) (he : ∀ ρ, I ds.length ρ → Q .nx ρ)
    (step : ∀ i ρ d, ds[i]? = some d → I i ρ → ∃ ρ1, g d ρ = .ok () ρ1 ∧ W (b ρ1) fun fl ρ2 => match fl with
      | .nx => I (i + 1) ρ2
      | .ct => I (i + 1) ρ2
      | .bk => Q .nx ρ2
      | fl => Q fl ρ2) : W (forL g b ds ρ) Q := by
  have := forL_inv I Q ds he step 0 ρ (Nat.zero_le _) h0
  rwa [List.drop_zero] at this

/-! lists by their places -/
def rg (n : Nat) (f : Nat → D) : List D := (List.range n).map f
section
variable {n k : Nat} {f g : Nat → D} {a : Int}
theorem rg_len : (rg n f).length = n := by simp [rg]
theorem rg_get (h : k < n) : (rg n f)[k]? = some (f k) := by
  unfold rg
  rw [List.getElem?_map, List.getElem?_range h]; rfl
theorem rg_at (h : k < n) : L2.atI (rg n f) (k : Int) = some (f k) := atI_nat (rg_get h)
theorem rg_succ : rg n f ++ [f n] = rg (n + 1) f := by
  unfold rg
  rw [List.range_succ, List.map_append]; rfl
theorem rg_congr (h : ∀ i < n, f i = g i) : rg n f = rg n g := List.map_congr_left fun i hi => h i (List.mem_range.mp hi)
theorem rg_ran (n : Nat) : rangeD 0 (n : Int) = rg n fun i => .int (0 + i) := rfl
theorem rg_map {α : Type} {f : Nat → α} {h : α → D} : ((List.range n).map f).map h = rg n fun i => h (f i) := by simp [rg]
theorem cut_rg {s a b : Nat} (h1 : a ≤ b) (h2 : b ≤ s) : cutD (rg s f) (some (a : Int)) (some (b : Int)) = rg (b - a) fun l => f (a + l) := by
  unfold cutD
  rw [rg_len, HT.sIx_nat, HT.sIx_nat, Nat.min_eq_left h2, Nat.min_eq_left (Nat.le_trans h1 h2)]
  apply List.ext_getElem?
  intro k
  rw [List.getElem?_take, List.getElem?_drop]
  by_cases hk : k < b - a
  · rw [if_pos hk, rg_get (show a + k < s by omega), rg_get hk]
  · rw [if_neg hk, List.getElem?_eq_none (by rw [rg_len]; omega)]
theorem cut_to {α : Type} {xs : List α} {k : Nat} : cutD xs none (some (k : Int)) = xs.take k := by
  unfold cutD
  rw [HT.sIx_none, HT.sIx_nat, List.drop_zero, Nat.sub_zero]
  by_cases h : k ≤ xs.length
  · rw [Nat.min_eq_left h]
  · rw [Nat.min_eq_right (by omega), List.take_of_length_le (Nat.le_refl _), List.take_of_length_le (by omega)]
theorem cut_from {α : Type} {xs : List α} {k : Nat} : cutD xs (some (k : Int)) none = xs.drop k := by
  unfold cutD
  rw [HT.sIx_none, HT.sIx_nat]
  by_cases h : k ≤ xs.length
  · rw [Nat.min_eq_left h, List.take_of_length_le (by rw [List.length_drop]; omega)]
  · rw [Nat.min_eq_right (by omega), List.drop_of_length_le (Nat.le_refl _), List.drop_of_length_le (by omega), List.take_nil]
theorem map_at {α : Type} {xs : List α} {h : α → D} {k : Nat} (hk : k < xs.length) : L2.atI (xs.map h) (k : Int) = some (h xs[k]) := by
  refine atI_nat (j := k) ?_
  rw [List.getElem?_map, List.getElem?_eq_getElem hk]; rfl
theorem asI_rg {f : Nat → Int} : asInts (rg n fun i => .int (f i)) = some ((List.range n).map f) := by
  unfold rg
  rw [← asInts_map, List.map_map]; rfl
theorem ran_get {lo hi : Int} {i : Nat} {d : D} (h : (rangeD lo hi)[i]? = some d) : d = .int (lo + i) ∧ i < (hi - lo).toNat := by
  unfold rangeD at h
  rw [List.getElem?_map] at h
  have hl : i < (hi - lo).toNat := by
    by_cases e : i < (hi - lo).toNat
    · exact e
    · rw [List.getElem?_eq_none (by rw [List.length_range]; omega)] at h
      cases h
  rw [List.getElem?_range hl] at h
  cases h
  exact ⟨rfl, hl⟩
theorem ran_nat {i : Nat} {d : D} (h : (rangeD 0 (n : Int))[i]? = some d) : d = .int i ∧ i < n := by
  obtain ⟨h1, h2⟩ := ran_get h
  refine ⟨by rw [h1, Int.zero_add], by omega⟩
theorem ran_len : (rangeD 0 (n : Int)).length = n := by simp [rangeD]
theorem inR_nat (h : n ≤ 1000000000) : inR (n : Int) = true := decide_eq_true (by omega)
theorem isN_non : gIsN .non .non = some (.bl true) := rfl
theorem isN_int : gIsN (.int a) .non = some (.bl false) := rfl
theorem notN_non : gNotN .non .non = some (.bl false) := rfl
theorem notN_int : gNotN (.int a) .non = some (.bl true) := rfl
/-- a comprehension over range(n), its element by the place; nothing else is changed -/
theorem lcL_rg {e : En → Out Pv} {ρ : En} {i0 : Nat} (hn : n ≤ 1000000) (H : ∀ k < n, ∃ ρ3, e (ρ.set i0 (.val (.int k))) = .ok (.v (f k)) ρ3 ∧ unAll ρ3 [i0] = ρ) :
    lcL [i0] hOne cYes e (rangeD 0 (n : Int)) [] ρ = .ok (rg n f) ρ := by
  have := lcL_map (is := [i0]) (h := hOne) (c := cYes) (e := e) (ρ := ρ) (fun k : Nat => D.int ((0 : Int) + k)) (fun k : Nat => f k) (List.range n) [] (by rw [List.length_range, sizeLine_eq]; simp; omega) fun k hk => by
    obtain ⟨ρ3, e1, e2⟩ := H k (List.mem_range.mp hk)
    refine ⟨[.int ((0 : Int) + k)], _, ρ3, rfl, rfl, ?_, e2⟩
    rw [← e1, Int.zero_add]; rfl
  exact this
end

/-! ### the laws' own stock of draws -/
def sD (cs : List Int) (a n j t : Int) : D := .dic [(.inr "cells", .lst (cs.map .int)), (.inr "at", .int a), (.inr "number", .int n), (.inr "jar", .int j), (.inr "turn", .int t)]
section
variable {cs : List Int} {a n j t v : Int}
theorem sg1 : gGet (sD cs a n j t) (.str "cells") = some (.lst (cs.map .int)) := rfl
theorem sg2 : gGet (sD cs a n j t) (.str "at") = some (.int a) := rfl
theorem sg3 : gGet (sD cs a n j t) (.str "number") = some (.int n) := rfl
theorem sg4 : gGet (sD cs a n j t) (.str "jar") = some (.int j) := rfl
theorem sg5 : gGet (sD cs a n j t) (.str "turn") = some (.int t) := rfl
theorem ss2 : setD (sD cs a n j t) (.str "at") (.int v) = some (sD cs v n j t) := rfl
theorem ss3 : setD (sD cs a n j t) (.str "number") (.int v) = some (sD cs a v j t) := rfl
theorem ss4 : setD (sD cs a n j t) (.str "jar") (.int v) = some (sD cs a n v t) := rfl
theorem ss5 : setD (sD cs a n j t) (.str "turn") (.int v) = some (sD cs a n j v) := rfl
end
end L3
namespace L3
open PySem PySem.Spec PyProof.Rows L2
local macro_rules | `(tactic| walk_at "ev") => `(tactic| simp (config := {decide := true}) only [W_ok, bind_ok, thn_nx, thn_rt, thn_rn, thn_bk, thn_ct, cVar, cK, c1_e, c1_k, c2_e, c2_k, c2_k2, cB_e, cB_k, cAnd_e, cOr_e, cNot_e, cNot_k, cIte_e, iteK_t, iteK_f, iteK, okB, okV, cAndV_e, cOrV_e, cNotV_e, cNotV_k, cBv_e, aNil, aCons_e, aCons_k, aCons_k2, cTup_e, cTup_k, nLst_e, nLst_k, vN_e, vN_k, cN_e, cN_k, nN_e, nN_k, oNone, oSome_e, oSome_k, cSl_e, cSl_k, cSl_k2, cSl_k3, nSl_e, nSl_k, nSl_k2, nSl_k3, nCat_e, nCat_k, nCat_k2, sNil, sSeq, sFrz, sBrk, sCnt, sExp_e, sExp_k, sRet_e, sRet_k, sRetN_e, sRetN_k, sRetU, sIf_e, sSet_e, sSet_k, sSetN_e, sSetN_k, gSet, gsNil, gsCons_e, gsCons_k, nxK, gTupD, gLstD, sAsg_e, sAsg_k, sAug_e, sAug_k, iL_e, iL_k, iT_e, iT_k, iR1_e, iR1_k, iR2_e, iR2_k, iZ_e, iZ_k, iR3_e, iR3_k, cCh_e, cCh_k, cCh_k2, cCh_k3, nRan_e, nRan_k, r1F_e, r1F_k, r2F_e, r2F_k, r2F_k2, r3F_e, r3F_k, r3F_k2, r3F_k3, intP, sFor_e, run_e, runK_rt, runK_rn, runK_nx, fin, outs, cCall_e, cCall_k, cCall_k2, nCall_e, nCall_k, nCall_k2, callM, sls, lents, wbk, lk, pvD, pvDs, pvs, Sl.dat, Sl.put, gSubD_e, gSubD_k, cM_e, cM_k, pNil, keyD, pCons_e, pCons_k, pCons_k2, pCons_k3, nDic_e, nDic_k, nLc_e, nLc_k, lcB_ok, unAll, backAll, noAdr, setAll, setAllF, List.map_cons, List.map_nil, hOne, cYes, List.all_cons, List.all_nil, Bool.and_true, Bool.true_and, Bool.and_self, Option.map_none, ofO, Rt.d, add_i, mns_i, mul_r, mul_l, div_i, mod_i, neg_i, lt_i, le_i, gt_i, ge_i, int_i, abs_i, len_l, len_t, get_l, get_t, toT_l, toT_t, eq_i, ne_i, eq_s, ne_s, rg_len, isN_non, isN_int, notN_non, notN_int, pow18, isi_int, isi_bool, max_ii, max_l, max_t, sum_l, sum_t, toL_l, toL_t, sl_l, sl_t, sg1, sg2, sg3, sg4, sg5, ss2, ss3, ss4, ss5, List.getElem?_cons_zero, List.getElem?_cons_succ, List.set_cons_zero, List.set_cons_succ, List.length_cons, List.length_nil, List.length_map, List.length_range, List.replicate, List.cons_append, List.nil_append, Option.bind_some, Option.map_some, Option.isSome_some, Option.bind_none, if_true, if_false, reduceIte, decide_eq_true_eq, Bool.false_eq_true, reduceCtorEq, decide_true, decide_false, Bool.not_true, Bool.not_false, *])
local macro_rules | `(tactic| walk_at "evc") => `(tactic| simp (config := {decide := true}) only [at0, at1, at2, at3, set0, set1, set2, ran0, ran1, ran2, ran3, maxI_one, maxI_cons, asI_nil, asI_cons, add_l, add_t, app_l, line_le, line_lt, forL_nil, forL_cons, forL_k, lp_nx, lp_ct, lp_bk, lp_rt, lp_rn, sub_ok, lcL_nil, lcL_cons, lcH_some, lcL_k, lcL_k2, L3.cutD, HT.sIx, List.take_succ_cons, List.take_zero, List.drop_succ_cons, List.drop_zero, List.sum_cons, List.sum_nil, Nat.reduceAdd, Int.reduceSub, Int.reduceAdd, int_lit, Int.reduceToNat, Nat.reduceSub, Nat.min_def, Nat.reduceLeDiff, Int.reduceLT, W_ok, bind_ok, thn_nx, thn_rt, thn_rn, thn_bk, thn_ct, cVar, cK, c1_e, c1_k, c2_e, c2_k, c2_k2, cB_e, cB_k, cAnd_e, cOr_e, cNot_e, cNot_k, cIte_e, iteK_t, iteK_f, iteK, okB, okV, cAndV_e, cOrV_e, cNotV_e, cNotV_k, cBv_e, aNil, aCons_e, aCons_k, aCons_k2, cTup_e, cTup_k, nLst_e, nLst_k, vN_e, vN_k, cN_e, cN_k, nN_e, nN_k, oNone, oSome_e, oSome_k, cSl_e, cSl_k, cSl_k2, cSl_k3, nSl_e, nSl_k, nSl_k2, nSl_k3, nCat_e, nCat_k, nCat_k2, sNil, sSeq, sFrz, sBrk, sCnt, sExp_e, sExp_k, sRet_e, sRet_k, sRetN_e, sRetN_k, sRetU, sIf_e, sSet_e, sSet_k, sSetN_e, sSetN_k, gSet, gsNil, gsCons_e, gsCons_k, nxK, gTupD, gLstD, sAsg_e, sAsg_k, sAug_e, sAug_k, iL_e, iL_k, iT_e, iT_k, iR1_e, iR1_k, iR2_e, iR2_k, iZ_e, iZ_k, iR3_e, iR3_k, cCh_e, cCh_k, cCh_k2, cCh_k3, nRan_e, nRan_k, r1F_e, r1F_k, r2F_e, r2F_k, r2F_k2, r3F_e, r3F_k, r3F_k2, r3F_k3, intP, sFor_e, run_e, runK_rt, runK_rn, runK_nx, fin, outs, cCall_e, cCall_k, cCall_k2, nCall_e, nCall_k, nCall_k2, callM, sls, lents, wbk, lk, pvD, pvDs, pvs, Sl.dat, Sl.put, gSubD_e, gSubD_k, cM_e, cM_k, pNil, keyD, pCons_e, pCons_k, pCons_k2, pCons_k3, nDic_e, nDic_k, nLc_e, nLc_k, lcB_ok, unAll, backAll, noAdr, setAll, setAllF, List.map_cons, List.map_nil, hOne, cYes, List.all_cons, List.all_nil, Bool.and_true, Bool.true_and, Bool.and_self, Option.map_none, ofO, Rt.d, add_i, mns_i, mul_r, mul_l, div_i, mod_i, neg_i, lt_i, le_i, gt_i, ge_i, int_i, abs_i, len_l, len_t, get_l, get_t, toT_l, toT_t, eq_i, ne_i, eq_s, ne_s, rg_len, isN_non, isN_int, notN_non, notN_int, pow18, isi_int, isi_bool, max_ii, max_l, max_t, sum_l, sum_t, toL_l, toL_t, sl_l, sl_t, sg1, sg2, sg3, sg4, sg5, ss2, ss3, ss4, ss5, List.getElem?_cons_zero, List.getElem?_cons_succ, List.set_cons_zero, List.set_cons_succ, List.length_cons, List.length_nil, List.length_map, List.length_range, List.replicate, List.cons_append, List.nil_append, Option.bind_some, Option.map_some, Option.isSome_some, Option.bind_none, if_true, if_false, reduceIte, decide_eq_true_eq, Bool.false_eq_true, reduceCtorEq, decide_true, decide_false, Bool.not_true, Bool.not_false, *])
def eBegin : En → Out Pv := cN gAbs (aCons (cN gInt (aCons (cVar 2) (aNil))) (aNil))
def gBegin : En → Out Fl := sSeq (sSet 1 (vN (nLc (iL (cSl (cVar 0) (oNone) (oSome (cK (.int 63))))) [2] hOne cYes eBegin))) (sRetN (nDic (pCons (cK (.str "cells")) (cVar 1) (pCons (cK (.str "at")) (cK (.int 0)) (pCons (cK (.str "number")) (cK (.int 0)) (pCons (cK (.str "jar")) (c2 gAdd (cK (.int 1)) (c2 gMod (cN gInt (aCons (cN gSum (aCons (cVar 1) (aNil))) (aNil))) (cK (.int 1000003)))) (pCons (cK (.str "turn")) (cK (.int 0)) (pNil))))))))
def mBegin : Mf := run false 3 gBegin
def gDraw : En → Out Fl := sSeq (sAsg (c2 gAdd (c2 gGet (cVar 0) (cK (.str "turn"))) (cK (.int 1))) (gSubD 0 (cK (.str "turn")))) (sSeq (sIf (cAnd (cB (c2 gLt (c2 gGet (cVar 0) (cK (.str "number"))) (cVar 1))) (cB (c2 gLt (c2 gGet (cVar 0) (cK (.str "at"))) (cN gLen (aCons (c2 gGet (cVar 0) (cK (.str "cells"))) (aNil)))))) (sSeq (sSet 2 (c2 gGet (c2 gGet (cVar 0) (cK (.str "cells"))) (c2 gGet (cVar 0) (cK (.str "at"))))) (sSeq (sAsg (c2 gAdd (c2 gGet (cVar 0) (cK (.str "at"))) (cK (.int 1))) (gSubD 0 (cK (.str "at")))) (sIf (cB (c2 gGe (cVar 2) (c2 gPow (cK (.int 10)) (cK (.int 18))))) (sAsg (cVar 2) (gSubD 0 (cK (.str "number")))) (sAsg (c2 gMod (cN gInt (aCons (c2 gAdd (c2 gAdd (c2 gMul (c2 gGet (cVar 0) (cK (.str "jar"))) (cK (.int 48271))) (c2 gMul (cVar 2) (cK (.int 69621)))) (c2 gMul (c2 gGet (cVar 0) (cK (.str "turn"))) (cK (.int 7)))) (aNil))) (cK (.int 2147483647))) (gSubD 0 (cK (.str "jar"))))))) (sNil)) (sSeq (sIf (cB (c2 gGe (c2 gGet (cVar 0) (cK (.str "number"))) (cVar 1))) (sSeq (sSet 3 (c2 gMod (cN gInt (aCons (c2 gGet (cVar 0) (cK (.str "number"))) (aNil))) (cVar 1))) (sSeq (sAsg (c2 gDiv (c2 gGet (cVar 0) (cK (.str "number"))) (cVar 1)) (gSubD 0 (cK (.str "number")))) (sRet (cVar 3)))) (sNil)) (sSeq (sAsg (c2 gMod (cN gInt (aCons (c2 gAdd (c2 gAdd (c2 gMul (c2 gGet (cVar 0) (cK (.str "jar"))) (cK (.int 16807))) (c2 gMul (c2 gGet (cVar 0) (cK (.str "turn"))) (cK (.int 48271)))) (cK (.int 11))) (aNil))) (cK (.int 2147483647))) (gSubD 0 (cK (.str "jar")))) (sRet (c2 gMod (cN gInt (aCons (c2 gAdd (c2 gDiv (c2 gGet (cVar 0) (cK (.str "jar"))) (cK (.int 65536))) (c2 gMul (c2 gMod (cN gInt (aCons (c2 gGet (cVar 0) (cK (.str "jar"))) (aNil))) (cK (.int 8191))) (cK (.int 3)))) (aNil))) (cVar 1))))))
def mDraw : Mf := run false 4 gDraw
def gRare : En → Out Fl := sRet (c2 gEq (cCall 2 mDraw (aCons (cVar 0) (aCons (cVar 1) (aNil)))) (cK (.int 0)))
def mRare : Mf := run false 2 gRare
def gPick : En → Out Fl := sRet (c2 gGet (cVar 1) (cCall 2 mDraw (aCons (cVar 0) (aCons (cN gLen (aCons (cVar 1) (aNil))) (aNil)))))
def mPick : Mf := run false 2 gPick

/-- a stock that may be drawn from -/
def Wf (d : D) : Prop := ∃ cs a n j t, d = sD cs a n j t ∧ 0 ≤ a ∧ 0 ≤ n
theorem draw_ok {s : D} (h : Wf s) {many : Int} (h0 : 0 < many) (h1 : many < 1073741824) : ∃ x s', mDraw [.bor s, .val (.int many)] = .ok (.v (.int x)) [.bor s', .un] ∧ 0 ≤ x ∧ x < many ∧ Wf s' := by
  suffices hs : W (mDraw [.bor s, .val (.int many)]) (fun r c => ∃ x s', r = .v (.int x) ∧ c = [.bor s', .un] ∧ 0 ≤ x ∧ x < many ∧ Wf s') by
    obtain ⟨r, c, e, x, s', rfl, rfl, h⟩ := hs.ok
    exact ⟨x, s', e, h⟩
  obtain ⟨cs, a, n, j, t, rfl, ha, hn⟩ := h
  have wf : ∀ {a n j t}, 0 ≤ a → 0 ≤ n → Wf (sD cs a n j t) := fun {a n j t} h1 h2 => ⟨cs, a, n, j, t, rfl, h1, h2⟩
  unfold mDraw L3.run gDraw
  have hp : ∀ m : Int, 0 ≤ m % many := fun m => Int.emod_nonneg _ (by omega)
  have hq : ∀ m : Int, m % many < many := fun m => Int.emod_lt_of_pos _ h0
  by_cases k1 : n < many
  · have k1' : ¬ many ≤ n := by omega
    by_cases k2 : a < cs.length
    · obtain ⟨m, rfl⟩ := Int.eq_ofNat_of_zero_le ha
      have hm : m < cs.length := by omega
      have e : atI (cs.map D.int) (m : Int) = some (.int cs[m]) := by
        refine atI_nat (j := m) ?_
        rw [List.getElem?_map, List.getElem?_eq_getElem hm]; rfl
      by_cases k3 : 1000000000000000000 ≤ cs[m]
      · by_cases k4 : many ≤ cs[m]
        · walk_at "ev"
          exact ⟨_, _, rfl, rfl, hp _, hq _, wf (by omega) (Int.ediv_nonneg (by omega) (by omega))⟩
        · walk_at "ev"
          exact ⟨_, _, rfl, rfl, hp _, hq _, wf (by omega) (by omega)⟩
      · walk_at "ev"
        exact ⟨_, _, rfl, rfl, hp _, hq _, wf (by omega) (by omega)⟩
    · walk_at "ev"
      exact ⟨_, _, rfl, rfl, hp _, hq _, wf (by omega) (by omega)⟩
  · have k1' : many ≤ n := by omega
    walk_at "ev"
    exact ⟨_, _, rfl, rfl, hp _, hq _, wf (by omega) (Int.ediv_nonneg (by omega) (by omega))⟩
theorem rare_ok {s : D} (h : Wf s) {many : Int} (h0 : 0 < many) (h1 : many < 1073741824) : ∃ b s', mRare [.bor s, .val (.int many)] = .ok (.v (.bl b)) [.bor s', .un] ∧ Wf s' := by
  obtain ⟨x, s', e, h2, h3, h4⟩ := draw_ok h h0 h1
  refine ⟨decide (x = 0), s', ?_, h4⟩
  unfold mRare L3.run gRare
  walk_at "ev"
theorem pick_ok {s : D} (h : Wf s) {ds : List D} (h0 : ds ≠ []) (h1 : ds.length < 1073741824) : ∃ (x : Nat) (d : D) (s' : D), mPick [.bor s, .val (.tup ds)] = .ok (.v d) [.bor s', .un] ∧ ds[x]? = some d ∧ Wf s' := by
  have hl : 0 < ds.length := List.length_pos_iff.mpr h0
  obtain ⟨x, s', e, h2, h3, h4⟩ := draw_ok h (many := ds.length) (by omega) (by omega)
  obtain ⟨m, rfl⟩ := Int.eq_ofNat_of_zero_le h2
  have hm : m < ds.length := by omega
  have e2 : atI ds (m : Int) = some ds[m] := atI_nat (List.getElem?_eq_getElem hm)
  refine ⟨m, ds[m], s', ?_, List.getElem?_eq_getElem hm, h4⟩
  unfold mPick L3.run gPick
  walk_at "ev"
theorem cut63 {α : Type} {xs : List α} {k : Nat} (h : xs.length ≤ k) : cutD xs none (some (k : Int)) = xs := by
  unfold cutD
  rw [HT.sIx_none, HT.sIx_nat, Nat.min_eq_right h]
  simp
theorem begin_ok {ns : List Int} (h : ns.length ≤ 63) : ∃ s, mBegin [.val (.lst (ns.map .int))] = .ok (.n s) [.un] ∧ Wf s := by
  have e1 : gSl (.lst (ns.map D.int)) none (some 63) = some (.lst (ns.map D.int)) := by
    show some (D.lst (cutD (ns.map D.int) none (some ((63 : Nat) : Int)))) = _
    rw [cut63 (by rw [List.length_map]; exact h)]
  have e2 : lcL [2] hOne cYes eBegin (ns.map D.int) [] [.val (.lst (ns.map .int)), .un, .un] = .ok ((ns.map fun n => (n.natAbs : Int)).map .int) [.val (.lst (ns.map .int)), .un, .un] := by
    have := lcL_map (is := [2]) (h := hOne) (c := cYes) (e := eBegin) (ρ := [.val (.lst (ns.map .int)), .un, .un]) D.int (fun n => .int (n.natAbs : Int)) ns [] (by have := sizeLine_eq; simp; omega) fun n _ => ⟨[.int n], [.val (.lst (ns.map .int)), .un, .val (.int n)], [.val (.lst (ns.map .int)), .un, .val (.int n)], rfl, rfl, by unfold eBegin; walk_at "ev", rfl⟩
    rw [this, List.map_map]
    rfl
  have e3 : gSum [.lst ((ns.map fun n => (n.natAbs : Int)).map .int)] = some (.int (ns.map fun n => (n.natAbs : Int)).sum) := by
    show (asInts _).map _ = _
    rw [asInts_map]; rfl
  refine ⟨sD (ns.map fun n => (n.natAbs : Int)) 0 0 (1 + (ns.map fun n => (n.natAbs : Int)).sum % 1000003) 0, ?_, _, _, _, _, _, rfl, by omega, by omega⟩
  unfold mBegin L3.run gBegin
  walk_at "ev"
  rfl
end L3
namespace L3
open PySem PySem.Spec PyProof.Rows L2
mutual
theorem eqv_self : ∀ (d : D) (n : Nat), pyOk n d = true → PyData.eqv (py d) (py d) = true
  | .non, _, _ => by simp [py, PyData.eqv]
  | .bl _, _, _ => by simp [py, PyData.eqv]
  | .int _, _, _ => by simp [py, PyData.eqv]
  | .str _, _, _ => by simp [py, PyData.eqv]
  | .tup ds, n, h => by
    cases n with
    | zero => simp [pyOk] at h
    | succ n =>
      have := eqvL_self ds n (by simpa [pyOk] using h)
      simpa [py, PyData.eqv] using this
  | .lst ds, n, h => by
    cases n with
    | zero => simp [pyOk] at h
    | succ n =>
      have := eqvL_self ds n (by simpa [pyOk] using h)
      simpa [py, PyData.eqv] using this
  | .dic _, n, h => by cases n <;> simp [pyOk] at h
  | .dit _, n, h => by cases n <;> simp [pyOk] at h
  | .obj _ _ _, n, h => by cases n <;> simp [pyOk] at h
  | .ty _, n, h => by cases n <;> simp [pyOk] at h
theorem eqvL_self : ∀ (ds : List D) (n : Nat), pyOkL n ds = true → PyData.eqvAll (pyL ds) (pyL ds) = true
  | [], _, _ => by simp [pyL, PyData.eqvAll]
  | d :: r, n, h => by
    have h : pyOk n d = true ∧ pyOkL n r = true := by cases n <;> simpa [pyOkL] using h
    have h1 := eqv_self d n h.1
    have h2 := eqvL_self r n h.2
    simp [pyL, PyData.eqvAll, h1, h2]
end
section
variable {n c : Nat} {g : Nat → D}
theorem mkL_all : ∀ (l : List D), (∀ d ∈ l, mk d = true) → mkL l = true
  | [], _ => rfl
  | d :: r, h => by
    show (mk d && mkL r) = true
    rw [h d List.mem_cons_self, mkL_all r fun e he => h e (List.mem_cons_of_mem _ he)]; rfl
theorem depL_all : ∀ (l : List D) (c : Nat), (∀ d ∈ l, dep d ≤ c) → depL l ≤ c
  | [], c, _ => Nat.zero_le _
  | d :: r, c, h => by
    show max (dep d) (depL r) ≤ c
    have h1 := h d List.mem_cons_self
    have h2 := depL_all r c fun e he => h e (List.mem_cons_of_mem _ he)
    omega
theorem cntL_all : ∀ (l : List D) (c : Nat), (∀ d ∈ l, L3.cnt d ≤ c) → L3.cntL l ≤ l.length * c
  | [], c, _ => Nat.zero_le _
  | d :: r, c, h => by
    show L3.cnt d + L3.cntL r ≤ (r.length + 1) * c
    have h1 := h d List.mem_cons_self
    have h2 := cntL_all r c fun e he => h e (List.mem_cons_of_mem _ he)
    rw [Nat.add_mul, Nat.one_mul]; omega
theorem rg_mem {d : D} (h : d ∈ rg n g) : ∃ i, i < n ∧ d = g i := by
  unfold rg at h
  obtain ⟨i, hi, rfl⟩ := List.mem_map.mp h
  exact ⟨i, List.mem_range.mp hi, rfl⟩
/-- data to be shown: so deep, so many parts -/
def Sh (b c : Nat) (d : D) : Prop := mk d = true ∧ dep d ≤ b ∧ L3.cnt d ≤ c
theorem Sh.mono {b c b' c' : Nat} {d : D} (h : Sh b c d) (h1 : b ≤ b') (h2 : c ≤ c') : Sh b' c' d := ⟨h.1, Nat.le_trans h.2.1 h1, Nat.le_trans h.2.2 h2⟩
theorem sh_int {i : Int} (h : -(2 ^ 80) < i) (h2 : i < 2 ^ 80) : Sh 0 1 (.int i) := ⟨mk_int (by omega) (by omega), Nat.le_refl _, Nat.le_refl _⟩
theorem sh_bl {b : Bool} : Sh 0 1 (.bl b) := ⟨rfl, Nat.le_refl _, Nat.le_refl _⟩
theorem sh_non : Sh 0 1 .non := ⟨rfl, Nat.le_refl _, Nat.le_refl _⟩
theorem sh_tup {b c : Nat} {l : List D} (h : ∀ d ∈ l, Sh b c d) : Sh (b + 1) (l.length * c + 1) (.tup l) := by
  refine ⟨mkL_all l fun d hd => (h d hd).1, ?_, ?_⟩
  · have := depL_all l b fun d hd => (h d hd).2.1
    simp only [dep]; omega
  · have := cntL_all l c fun d hd => (h d hd).2.2
    simp only [L3.cnt]; omega
theorem sh_lst {b c : Nat} {l : List D} (h : ∀ d ∈ l, Sh b c d) : Sh (b + 1) (l.length * c + 1) (.lst l) := by
  refine ⟨mkL_all l fun d hd => (h d hd).1, ?_, ?_⟩
  · have := depL_all l b fun d hd => (h d hd).2.1
    simp only [dep]; omega
  · have := cntL_all l c fun d hd => (h d hd).2.2
    simp only [L3.cnt]; omega
theorem sh_show {b c : Nat} {d : D} (h : Sh b c d) (h1 : b ≤ 60) (h2 : c ≤ 160000) : gRepr [d] = some (.str (showD d)) :=
  mk_show h.1 (Nat.le_trans h.2.1 h1) (Nat.le_trans h.2.2 h2)
end
theorem ne_self {d : D} (h : pyOk 60 d = true) : gNe d d = some (.bl false) := by
  have e := eqv_self d 60 h
  unfold gNe
  split
  · simp
  · rw [h, Bool.and_self, if_pos rfl, eqD, e]; rfl
theorem eq_self {d : D} (h : pyOk 60 d = true) : gEq d d = some (.bl true) := by
  have e := eqv_self d 60 h
  unfold gEq
  split
  · simp
  · rw [h, Bool.and_self, if_pos rfl, eqD, e]
theorem pyOkL_all : ∀ (ds : List D) (n : Nat), (∀ d ∈ ds, pyOk n d = true) → pyOkL n ds = true
  | [], n, _ => by cases n <;> rfl
  | d :: r, n, h => by
    have h1 := h d List.mem_cons_self
    have h2 := pyOkL_all r n fun x hx => h x (List.mem_cons_of_mem _ hx)
    cases n <;> simp [pyOkL, h1, h2]
theorem pyOk_lst {ds : List D} {n : Nat} (h : ∀ d ∈ ds, pyOk n d = true) : pyOk (n + 1) (.lst ds) = true := by
  simp [pyOk, pyOkL_all ds n h]
theorem pyOk_tup {ds : List D} {n : Nat} (h : ∀ d ∈ ds, pyOk n d = true) : pyOk (n + 1) (.tup ds) = true := by
  simp [pyOk, pyOkL_all ds n h]
theorem pyOk_int {i : Int} {n : Nat} : pyOk n (.int i) = true := by cases n <;> rfl
theorem pyOk_bl {i : Bool} {n : Nat} : pyOk n (.bl i) = true := by cases n <;> rfl
theorem ne_bb {a b : Bool} : gNe (.bl a) (.bl b) = some (.bl (!(a == b))) := by
  unfold gNe
  split
  · rename_i h1 h2; cases h1
  · simp [pyOk, eqD, py, PyData.eqv]
theorem eq_bb {a b : Bool} : gEq (.bl a) (.bl b) = some (.bl (a == b)) := by
  unfold gEq
  split
  · rename_i h1 h2; cases h1
  · simp [pyOk, eqD, py, PyData.eqv]
theorem all_rg {n : Nat} {f : Nat → Bool} : gAll [.lst (rg n fun i => .bl (f i))] = some (.bl ((List.range n).all f)) := by
  have : (rg n fun i => D.bl (f i)) = ((List.range n).map f).map D.bl := by simp [rg]
  show (asBls _).map _ = _
  rw [this, asBls_map]
  simp [List.all_map]
theorem set_rg {n k : Nat} {f : Nat → Int} {v : Int} : (rg n fun i => D.int (f i)).set k (.int v) = rg n fun i => .int (if i = k then v else f i) := by
  apply List.ext_getElem?
  intro i
  by_cases hi : i < n
  · rw [rg_get hi]
    by_cases e : i = k
    · subst e
      rw [List.getElem?_set_self (by rw [rg_len]; exact hi), if_pos rfl]
    · rw [List.getElem?_set_ne (Ne.symm e), rg_get hi, if_neg e]
  · rw [List.getElem?_eq_none (by rw [List.length_set, rg_len]; omega), List.getElem?_eq_none (by rw [rg_len]; omega)]
theorem rg_lt {n k : Nat} {f : Nat → D} {d : D} (h : (rg n f)[k]? = some d) : k < n ∧ d = f k := by
  by_cases e : k < n
  · rw [rg_get e] at h; cases h; exact ⟨e, rfl⟩
  · rw [List.getElem?_eq_none (by rw [rg_len]; omega)] at h; cases h
theorem zip_rg {s n : Nat} {a b : Nat → D} : zipD (rg s a) (rg n b) = rg (min s n) fun i => .obj "" [] [a i, b i] := by
  apply List.ext_getElem?
  intro k
  by_cases hk : k < min s n
  · rw [rg_get hk]
    unfold zipD
    rw [List.getElem?_map]
    have : (List.zip (rg s a) (rg n b))[k]? = some (a k, b k) := List.getElem?_zip_eq_some.mpr ⟨rg_get (by omega), rg_get (by omega)⟩
    rw [this]; rfl
  · rw [List.getElem?_eq_none (by rw [zipD_len, rg_len, rg_len]; omega), List.getElem?_eq_none (by rw [rg_len]; omega)]
/-- a comprehension over a list told by places -/
theorem lcL_en {e : En → Out Pv} {ρ : En} {i0 n : Nat} {f g : Nat → D} (hn : n ≤ 1000000) (H : ∀ k < n, ∃ ρ3, e (ρ.set i0 (.val (f k))) = .ok (.v (g k)) ρ3 ∧ unAll ρ3 [i0] = ρ) :
    lcL [i0] hOne cYes e (rg n f) [] ρ = .ok (rg n g) ρ :=
  lcL_map (is := [i0]) (h := hOne) (c := cYes) (e := e) (ρ := ρ) f g (List.range n) [] (by rw [List.length_range, sizeLine_eq]; simp; omega) fun k hk => by
    obtain ⟨ρ3, e1, e2⟩ := H k (List.mem_range.mp hk)
    exact ⟨[f k], _, ρ3, rfl, rfl, e1, e2⟩
theorem min_rg {n : Nat} {f : Nat → Int} (h : 0 < n) : gMin [.lst (rg n fun i => .int (f i))] = some (.int (minI ((List.range n).map f))) := by
  show (asInts _).bind _ = _
  rw [asI_rg]
  show (if (List.range n).map f = [] then none else _) = _
  rw [if_neg fun e => by have := congrArg List.length e; rw [List.length_map, List.length_range, List.length_nil] at this; omega]
theorem max_rg {n : Nat} {f : Nat → Int} (h : 0 < n) : gMax [.lst (rg n fun i => .int (f i))] = some (.int (maxI ((List.range n).map f))) := by
  show (asInts _).bind _ = _
  rw [asI_rg]
  show (if (List.range n).map f = [] then none else _) = _
  rw [if_neg fun e => by have := congrArg List.length e; rw [List.length_map, List.length_range, List.length_nil] at this; omega]
theorem tup_rg {n : Nat} {f g : Nat → D} (h : ∀ i < n, f i = g i) : D.tup (rg n f) = D.tup (rg n g) := by rw [rg_congr h]
end L3
namespace L3
open PySem PySem.Spec PyProof.Rows L2
theorem fits_ok {i : Int} (h : -1000000000000 ≤ i) (h2 : i ≤ 1000000000000) : Builtin.Range.rangeFitsLong i = true := by
  unfold Builtin.Range.rangeFitsLong
  rw [Bool.and_eq_true]
  exact ⟨decide_eq_true (by omega), decide_eq_true (by omega)⟩
theorem size_nat {a n s : Nat} (hs : 0 < s) (hn : n ≤ 1000000) : ∃ q : Nat, Builtin.Range.rangeSize a n s = q ∧ q ≤ n ∧ ∀ k : Nat, k < q ↔ a + k * s < n := by
  unfold Builtin.Range.rangeSize
  have hs' : (s : Int) > 0 := by omega
  rw [if_pos hs']
  by_cases h : (a : Int) < n
  · rw [if_pos h]
    have h0 : 0 ≤ ((n : Int) - a - 1) / s := Int.ediv_nonneg (by omega) (by omega)
    have h1 : ((n : Int) - a - 1) / s ≤ n - a - 1 := Int.ediv_le_self _ (by omega)
    refine ⟨(((n : Int) - a - 1) / s + 1).toNat, by omega, by omega, fun k => ?_⟩
    have : (k : Int) ≤ ((n : Int) - a - 1) / s ↔ (k : Int) * s ≤ (n : Int) - a - 1 := Int.le_ediv_iff_mul_le hs'
    have e : ((k * s : Nat) : Int) = (k : Int) * s := by push_cast; rfl
    omega
  · rw [if_neg h]
    refine ⟨0, rfl, Nat.zero_le _, fun k => ?_⟩
    have := Nat.zero_le (k * s)
    omega
theorem small_nat {a n s : Nat} (hs : 0 < s) (ha : a ≤ 1000000) (hn : n ≤ 1000000) (hs2 : s ≤ 1000000) : Builtin.Range.small a n s = true := by
  obtain ⟨q, h1, h2, _⟩ := size_nat (a := a) (n := n) (s := s) hs hn
  unfold Builtin.Range.small
  have hs' : (s : Int) > 0 := by omega
  rw [h1, if_pos hs', fits_ok (by omega) (by omega), fits_ok (by omega) (by omega), fits_ok (by omega) (by omega), fits_ok (by omega) (by omega), fits_ok (by omega) (by omega), Bool.or_true]
  rfl
theorem ranL_nat {a n s : Nat} (hs : 0 < s) (ha : a ≤ 1000000) (hn : n ≤ 1000000) (hs2 : s ≤ 1000000) :
    ∃ q : Nat, ranL a n s = some (rg q fun k => .int ((a + k * s : Nat) : Int)) ∧ q ≤ n ∧ ∀ k : Nat, k < q ↔ a + k * s < n := by
  obtain ⟨q, h1, h2, h3⟩ := size_nat (a := a) (n := n) (s := s) hs hn
  refine ⟨q, ?_, h2, h3⟩
  unfold ranL
  rw [small_nat hs ha hn hs2, h1, if_pos ⟨rfl, by omega, by omega⟩]
  show some ((List.range q).map _) = some ((List.range q).map _)
  congr 1
theorem range3_nat {a n s : Nat} (hs : 0 < s) (ha : a ≤ 1000000) (hn : n ≤ 1000000) (hs2 : s ≤ 1000000) :
    ∃ q : Nat, range3 a n s = some (rg q fun k => .int ((a + k * s : Nat) : Int)) ∧ q ≤ n ∧ ∀ k : Nat, k < q ↔ a + k * s < n := by
  obtain ⟨q, h1, h2, h3⟩ := size_nat (a := a) (n := n) (s := s) hs hn
  refine ⟨q, ?_, h2, h3⟩
  unfold range3
  rw [small_nat hs ha hn hs2, h1, if_pos ⟨by omega, by omega, rfl, by omega⟩]
  show some ((List.range q).map _) = some ((List.range q).map _)
  congr 1
theorem er_map : ∀ (L : List Int) (k : Nat), (L.map D.int).eraseIdx k = (L.eraseIdx k).map D.int
  | [], _ => rfl
  | _ :: _, 0 => rfl
  | x :: r, k + 1 => by
    show D.int x :: (r.map D.int).eraseIdx k = D.int x :: (r.eraseIdx k).map D.int
    rw [er_map r k]
theorem pop_at {L : List Int} {k : Nat} (hk : k < L.length) (h : L.length ≤ 1000000) : gPopAt (.lst (L.map D.int)) [.int (k : Int)] = some (.int L[k], .lst ((L.eraseIdx k).map D.int)) := by
  unfold gPopAt
  dsimp only
  rw [if_pos (inR_nat (n := k) (by omega)), ixN_nat (by rw [List.length_map]; exact hk)]
  show ((L.map D.int)[k]?).map _ = _
  rw [List.getElem?_map, List.getElem?_eq_getElem hk]
  show some (D.int L[k], D.lst ((L.map D.int).eraseIdx k)) = _
  rw [er_map]
theorem nran3 {fa fb fc : En → Out Pv} {ρ : En} {a b c : Int} {l : List D} (ha : fa ρ = .ok (.v (.int a)) ρ) (hb : fb ρ = .ok (.v (.int b)) ρ) (hc : fc ρ = .ok (.v (.int c)) ρ) (h : c ≠ 0) (h2 : c.natAbs < 1073741824) (hr : ranL a b c = some l) :
    nRan (r3F fa fb fc) ρ = .ok (.lst l) ρ := by
  have e : r3F fa fb fc ρ = .ok (a, b, c) ρ := by
    unfold r3F
    rw [ha]
    dsimp only [Out.bind]
    rw [hb]
    dsimp only [Out.bind]
    rw [hc]
    dsimp only [Out.bind, intP]
    rw [if_pos ⟨h, h2⟩]
  unfold nRan
  rw [e]
  dsimp only [Out.bind]
  rw [hr]
end L3
namespace L3
open PySem PySem.Spec PyProof.Rows L2

/-! ### own exception classes: their making -/
/-- what the text says of the class c (at C), whose __init__ (at fI) stores its arguments as fs -/
structure ExT (K : PySem.W.Frag) (mg : Str → Option Value) (c : Str) (C fI : Addr) (fs : List Str) : Prop where
  gC : mg c = some (.ref C)
  ox : OexC K C
  xf : XfC K C
  iC : PySem.W.findIn K (.ref C) "__init__" = some (some (.ref fI))
  tI : PySem.W.typeIn K (.ref fI) = some (.type "function")
  no : ∀ f ∈ fs, PySem.W.findIn K (.ref C) f = some none
/-- the promise of __init__ -/
def spInit (C : Addr) (fs : List Str) : Sp := fun vs H Q _ => ∃ (a : Addr) (us : List V), vs = .ref a :: us ∧ us.length = fs.length ∧ H a = some (exo a C none) ∧
  ∀ (dx : Addr) (H2 : Hp), H dx = none → dx ≠ a → H2 a = some (exo a C (some dx)) → H2 dx = some (exd dx (fs.zip us).reverse) → (∀ b, b ≠ a → b ≠ dx → H2 b = H b) → Q .non H2
section
variable {K : PySem.W.Frag} {C : Addr} {f1 f2 f3 : Str} {vs : List V} {H : Hp} {Q : VK} {E : XK} {N : List Str}
theorem init_1 (T : OexC K C) (n1 : PySem.W.findIn K (.ref C) f1 = some none) (h : spInit C [f1] vs H Q E) : tOst K f1 (tVar 0) (tVar 1) { nx := fun _ H' => Q .non H', rt := Q } (L2.start N vs) H := by
  obtain ⟨a, us, rfl, hl, ha, q⟩ := h
  match us, hl with
  | [u], _ =>
    refine ⟨u, rfl, .ref a, rfl, a, C, rfl, T, n1, .inl ⟨ha, fun dx e n => ?_⟩⟩
    refine q dx _ e n upd_same ?_ fun b b1 b2 => by rw [upd_ne b1, upd_ne b2]
    rw [upd_ne n, upd_same]; rfl
theorem init_2 (T : OexC K C) (n1 : PySem.W.findIn K (.ref C) f1 = some none) (n2 : PySem.W.findIn K (.ref C) f2 = some none) (h : spInit C [f1, f2] vs H Q E) :
    tSeq (tOst K f1 (tVar 0) (tVar 1)) (tOst K f2 (tVar 0) (tVar 2)) { nx := fun _ H' => Q .non H', rt := Q } (L2.start N vs) H := by
  obtain ⟨a, us, rfl, hl, ha, q⟩ := h
  match us, hl with
  | [u1, u2], _ =>
    refine ⟨u1, rfl, .ref a, rfl, a, C, rfl, T, n1, .inl ⟨ha, fun dx e n => ?_⟩⟩
    refine ⟨u2, rfl, .ref a, rfl, a, C, rfl, T, n2, .inr ⟨dx, _, upd_same, by rw [upd_ne n, upd_same], by simp, ?_⟩⟩
    refine q dx _ e n (by rw [upd_ne (Ne.symm n), upd_same]) ?_ fun b b1 b2 => by rw [upd_ne b2, upd_ne b1, upd_ne b2]
    rw [upd_same]; rfl
theorem init_3 (T : OexC K C) (n1 : PySem.W.findIn K (.ref C) f1 = some none) (n2 : PySem.W.findIn K (.ref C) f2 = some none) (n3 : PySem.W.findIn K (.ref C) f3 = some none) (h : spInit C [f1, f2, f3] vs H Q E) :
    tSeq (tOst K f1 (tVar 0) (tVar 1)) (tSeq (tOst K f2 (tVar 0) (tVar 2)) (tOst K f3 (tVar 0) (tVar 3))) { nx := fun _ H' => Q .non H', rt := Q } (L2.start N vs) H := by
  obtain ⟨a, us, rfl, hl, ha, q⟩ := h
  match us, hl with
  | [u1, u2, u3], _ =>
    refine ⟨u1, rfl, .ref a, rfl, a, C, rfl, T, n1, .inl ⟨ha, fun dx e n => ?_⟩⟩
    refine ⟨u2, rfl, .ref a, rfl, a, C, rfl, T, n2, .inr ⟨dx, _, upd_same, by rw [upd_ne n, upd_same], by simp, ?_⟩⟩
    refine ⟨u3, rfl, .ref a, rfl, a, C, rfl, T, n3, .inr ⟨dx, _, by rw [upd_ne (Ne.symm n), upd_same], upd_same, by simp, ?_⟩⟩
    refine q dx _ e n (by rw [upd_ne (Ne.symm n), upd_ne (Ne.symm n), upd_same]) ?_ fun b b1 b2 => by rw [upd_ne b2, upd_ne b2, upd_ne b1, upd_ne b2]
    rw [upd_same]; rfl
theorem spInit_len {fs ps : List Str} (hp : ps.length = fs.length + 1) : ∀ vs H Q E, spInit C fs vs H Q E → vs.length = ps.length := by
  rintro vs H Q E ⟨a, us, rfl, hl, _⟩
  rw [List.length_cons, hl, hp]
end
/-! ### raise -/
def sRaise (c : Str) (fs : List Str) (f : En → Out (List Pv)) : En → Out Fl := fun ρ => (f ρ).bind fun ps ρ1 => match pvs ps with
  | some ds => if ds.length = fs.length then .exc ⟨c, (fs.zip ds).reverse⟩ ρ1 else .bad
  | none => .bad
section
variable {X : Cx} {Z : WXZ} {B : Bs} {as : List (Option Addr)} {σ : L2.St} {H : Hp} {ρ : En} {G : Pm} {W : Addr → Prop}
theorem zip_fst {α : Type} : ∀ {fs : List Str} {us : List α}, us.length = fs.length → (fs.zip us).map (·.1) = fs
  | [], [], _ => rfl
  | _ :: fs, _ :: us, h => by
    simp only [List.zip_cons_cons, List.map_cons, zip_fst (fs := fs) (us := us) (by simpa using h)]
theorem zip_snd {α : Type} : ∀ {fs : List Str} {us : List α}, us.length = fs.length → (fs.zip us).map (·.2) = us
  | [], [], _ => rfl
  | _ :: fs, _ :: us, h => by
    simp only [List.zip_cons_cons, List.map_cons, zip_snd (fs := fs) (us := us) (by simpa using h)]
theorem s_raise {k : Nat} {c : Str} {C fI : Addr} {fd : FuncData} {ps fs : List Str} {e : Expr} {es : List Expr} {f : En → Out (List Pv)} {p pos pos2 : Pos} (T : ExT X.K X.mg c C fI fs)
    (F1 : FnOk X.prog X.w X.K X.mg X.base CX0 k fI fd ps (spInit C fs)) (hb : Binds X.K fd ps []) (hr : RoomG (k + 1) X.A) (hcm : X.calm = true) (tk : Takes X Z) (ha : DA X Z (e :: es) f) (h5 : fs.length ≤ 900)
    (hg : Gl X c := by rfl) (hdb : (c == ("__debug__" : Str)) = false := by decide) (he : starEach (e :: es) X.env = (false, eval e X.env) :: starEach es X.env := by rfl) (hpl : (backTo pos (starEach es X.env)).any (·.1) = false := by rfl) :
    DS X Z (.Raise (some (.Call (.Name c p) (e :: es) [] pos)) none pos2) (sRaise c fs f) := by
  obtain ⟨_, pa, s⟩ := ha
  refine ⟨_, ps_raise hcm tk (pmk_oex T.ox T.iC T.tI F1 hr.room hb .nil (fun _ _ _ _ _ _ _ h => h.elim) hg T.gC pa hdb he hpl), ⟨fun {B as σ H ρ D'} R q => ?_⟩⟩
  refine s.go R (SO.bind R q |>.imp fun ps' ρ1 H1 R1 g1 q1 vs k1 => ?_)
  cases ep : pvs ps' with
  | none => rw [ep] at q1; exact q1.elim
  | some ds =>
    rw [ep] at q1
    dsimp only at q1
    split at q1
    · rename_i hl
      have rp := k1.reps ep
      have hlv : vs.length = fs.length := by rw [rp.length, hl]
      refine ⟨by omega, fun a ha => ⟨a, vs, by rw [List.append_nil], hlv, upd_same, fun dx H2 e1 n1 e2 e3 e4 => ?_⟩⟩
      have hdx : H1 dx = none := by rw [upd_ne n1] at e1; exact e1
      refine ⟨rfl, dx, _, e2, e3, hdx, ?_⟩
      -- the heap behind it
      have eq : ∀ b, b ≠ a → b ≠ dx → (upd (del H2 a) dx (.xd (fs.zip vs).reverse)) b = H1 b := fun b b1 b2 => by
        rw [upd_ne b2, del_ne b1, e4 b b1 b2, upd_ne b1]
      have kp : ∀ b o, H1 b = some o → (upd (del H2 a) dx (.xd (fs.zip vs).reverse)) b = some o := fun b o eb => by
        rw [eq b (fun z => by rw [z, ha] at eb; cases eb) (fun z => by rw [z, hdx] at eb; cases eb)]; exact eb
      have sm : Same H1 (upd (del H2 a) dx (.xd (fs.zip vs).reverse)) := kp
      refine q1 (.ref C) (some dx) as σ _ (R1.same sm) (.of_same sm) ⟨.inl T.gC, .inr ⟨dx, _, rfl, upd_same, ?_, ?_⟩⟩
      · dsimp only
        rw [List.map_reverse, List.map_reverse, zip_fst hlv, zip_fst hl]
      · dsimp only
        rw [List.map_reverse, List.map_reverse, zip_snd hlv, zip_snd hl]
        exact (rp.stp (.same sm)).reverse
    · exact q1.elim
end
end L3
namespace L3
open PySem PySem.Spec PyProof.Rows L2

/-! ### a suite behind except: what it hands back, by the exception -/
section
variable {X : Cx} {i : Nat} {a : Addr} {cls : Value} {d : Option Addr}
structure DXt (X : Cx) (i : Nat) (a : Addr) (cls : Value) (d : Option Addr) (t : TE) (h : Ex → Option D) : Prop where
  go : ∀ {W : Addr → Prop} {e : Ex} {dv : D} {σ : L2.St} {H : Hp} {Q : VK}, (∀ b, W b → ∃ o, H b = some o) → σ[i]? = some (some (.ref a)) → RepX X.G W H cls d e → h e = some dv → (∀ v H', Same H H' → Rep X.G W H' v dv → Q v H') → t σ H Q
structure DXst (X : Cx) (i : Nat) (a : Addr) (cls : Value) (d : Option Addr) (t : TA) (h : Ex → Option (List D)) : Prop where
  go : ∀ {W : Addr → Prop} {e : Ex} {dv : List D} {σ : L2.St} {H : Hp} {Q : List V → Hp → Prop}, (∀ b, W b → ∃ o, H b = some o) → σ[i]? = some (some (.ref a)) → RepX X.G W H cls d e → h e = some dv → (∀ v H', Same H H' → Reps X.G W H' v dv → Q v H') → t σ H Q
structure DXbt (X : Cx) (i : Nat) (a : Addr) (cls : Value) (d : Option Addr) (t : TT) (h : Ex → Option Bool) : Prop where
  go : ∀ {W : Addr → Prop} {e : Ex} {b : Bool} {σ : L2.St} {H : Hp} {Q : Bool → Hp → Prop}, (∀ b, W b → ∃ o, H b = some o) → σ[i]? = some (some (.ref a)) → RepX X.G W H cls d e → h e = some b → (∀ H', Same H H' → Q b H') → t σ H Q
/-- what the suite promises -/
def tHnd (X : Cx) (h : Ex → Option D) (i : Nat) (a : Addr) (cls : Value) (d : Option Addr) : TS := fun D' σ H => ∃ (W : Addr → Prop) (e : Ex) (dv : D), (∀ b, W b → ∃ o, H b = some o) ∧ σ[i]? = some (some (.ref a)) ∧ RepX X.G W H cls d e ∧ h e = some dv ∧ ∀ v H', Same H H' → Rep X.G W H' v dv → D'.rt v H'
theorem RepX.stp {G : Pm} {W W' : Addr → Prop} {H H' : Hp} {e : Ex} (x : RepX G W H cls d e) (s : Same H H') : RepX G W H' cls d e :=
  ⟨x.1, x.2.imp id fun ⟨dd, vfs, e1, e2, e3, r⟩ => ⟨dd, vfs, e1, s _ _ e2, e3, r.stp (.same s)⟩⟩
theorem same_dom {W : Addr → Prop} {H H' : Hp} (dom : ∀ b, W b → ∃ o, H b = some o) (s : Same H H') : ∀ b, W b → ∃ o, H' b = some o := fun b z => let ⟨o, e⟩ := dom b z; ⟨o, s _ _ e⟩
abbrev DX (X : Cx) (i : Nat) (a : Addr) (oe : Obj) (cls : Value) (d : Option Addr) (pn : List (Addr × Obj)) (e : Expr) (h : Ex → Option D) : Prop := ∃ t, PE (X.suite a ((a, oe) :: pn)) e t ∧ DXt X i a cls d t h
abbrev DXs (X : Cx) (i : Nat) (a : Addr) (oe : Obj) (cls : Value) (d : Option Addr) (pn : List (Addr × Obj)) (e : List Expr) (h : Ex → Option (List D)) : Prop := ∃ t, PA (X.suite a ((a, oe) :: pn)) e t ∧ DXst X i a cls d t h
abbrev DXb (X : Cx) (i : Nat) (a : Addr) (oe : Obj) (cls : Value) (d : Option Addr) (pn : List (Addr × Obj)) (e : Expr) (h : Ex → Option Bool) : Prop := ∃ t, PT (X.suite a ((a, oe) :: pn)) e t ∧ DXbt X i a cls d t h
abbrev DXw (X : Cx) (i : Nat) (a : Addr) (oe : Obj) (cls : Value) (d : Option Addr) (pn : List (Addr × Obj)) (e : Expr) (h : Ex → Option Bool) : Prop := ∃ t, PW (X.suite a ((a, oe) :: pn)) e t ∧ DXbt X i a cls d t h
variable {oe : Obj} {pn : List (Addr × Obj)}
def hK (v : D) : Ex → Option D := fun _ => some v
theorem x_c {v : V} {dv : D} (h : ∀ W H, Rep X.G W H v dv) : DXt X i a cls d (tC v) (hK dv) := ⟨fun {W e dv' σ H Q} dom hs x e1 q => by
  cases e1
  exact q v H (Same.refl _) (h _ _)⟩
theorem x_str {x : Str} {j pos} : DX X i a oe cls d pn (.Constant (.str x) j pos) (hK (.str x)) := ⟨_, pe_str, x_c fun _ _ => .str x⟩
theorem x_int {x : Int} {j pos} : DX X i a oe cls d pn (.Constant (.int x) j pos) (hK (.int x)) := ⟨_, pe_int, x_c fun _ _ => .int x⟩
theorem x_non {j pos} : DX X i a oe cls d pn (.Constant .none j pos) (hK .non) := ⟨_, pe_non, x_c fun _ _ => .non⟩
theorem x_bl {b : Bool} {j pos} : DX X i a oe cls d pn (.Constant (.bool b) j pos) (hK (.bl b)) := ⟨_, pe_bl, x_c fun _ _ => .bl b⟩
/-- e.f -/
def hF (c f : Str) : Ex → Option D := fun e => if e.c = c then e.fs.lookup f else none
theorem look_rep {G : Pm} {W : Addr → Prop} {H : Hp} {f : Str} {dv : D} : ∀ {vfs : List (Str × V)} {fs : List (Str × D)}, vfs.map (·.1) = fs.map (·.1) → Reps G W H (vfs.map (·.2)) (fs.map (·.2)) → fs.lookup f = some dv → ∃ v, vfs.lookup f = some v ∧ Rep G W H v dv
  | [], [], _, _, e => by simp at e
  | [], _ :: _, h, _, _ => by simp at h
  | _ :: _, [], h, _, _ => by simp at h
  | (k, v) :: vfs, (k', d') :: fs, h, r, e => by
    simp only [List.map_cons, List.cons.injEq] at h
    simp only [List.map_cons] at r
    obtain ⟨h1, h2⟩ := h
    subst h1
    cases r with
    | cons r1 r2 =>
      rw [List.lookup_cons] at e ⊢
      cases hk : f == k with
      | true =>
        rw [hk] at e
        cases e
        exact ⟨v, rfl, r1⟩
      | false =>
        rw [hk] at e
        exact look_rep h2 r2 e
theorem x_fld {c f n : Str} {C fI : Addr} {fs : List Str} {np pos : Pos} (T : ExT X.K X.mg c C fI fs) (hf : f ∈ fs) (hz : Zc cls d oe) (hd : ∃ vs, oe.data = .fields vs)
    (hN : X.N[i]? = some n := by rfl) (hv : Vis X.env.scope n := by first | exact Or.inl rfl | exact Or.inr (Or.inl rfl) | exact Or.inr (Or.inr rfl)) (h1 : (n == ("__debug__" : Str)) = false := by decide)
    (h2 : (n == ("__classdict__" : Str)) = false := by decide) (hb : attributeBase (.Name n np) f X.env (eval (.Name n np) X.env) = eval (.Name n np) X.env := by rfl) :
    DX X i a oe cls d pn (.Attribute (.Name n np) f pos) (hF c f) :=
  ⟨_, pe_xf T.xf (T.no f hf) hz hd (pe_var (i := i) hN hv h1 h2) hb, ⟨fun {W e dv σ H Q} dom hs x e1 q => by
    unfold hF at e1
    split at e1
    · rename_i ec
      obtain ⟨x1, x2⟩ := x
      rw [ec] at x1
      have hc : cls = .ref C := by
        rcases x1 with x1 | ⟨x1, _⟩
        · have x1 : X.mg c = some cls := x1
          rw [T.gC] at x1; cases x1; rfl
        · have x1 : X.mg c = none := x1
          rw [T.gC] at x1; cases x1
      rcases x2 with ⟨_, x2⟩ | ⟨dd, vfs, r1, r2, r3, r4⟩
      · rw [x2] at e1; simp at e1
      · obtain ⟨v, l1, l2⟩ := look_rep r3 r4 e1
        exact ⟨_, hs, rfl, hc, dd, vfs, v, r1, r2, l1, q v H (Same.refl _) l2⟩
    · cases e1⟩⟩
def hNil : Ex → Option (List D) := fun _ => some []
def hCons (f : Ex → Option D) (g : Ex → Option (List D)) : Ex → Option (List D) := fun e => (f e).bind fun x => (g e).map (x :: ·)
theorem x_nil : DXs X i a oe cls d pn [] hNil := ⟨_, pa_nil, ⟨fun {W e dv σ H Q} dom hs x e1 q => by cases e1; exact q [] H (Same.refl _) .nil⟩⟩
theorem x_cons {e : Expr} {es : List Expr} {f : Ex → Option D} {g : Ex → Option (List D)} (ha : DX X i a oe cls d pn e f) (hr : DXs X i a oe cls d pn es g) (hs : starEach (e :: es) X.env = (false, eval e X.env) :: starEach es X.env := by rfl) :
    DXs X i a oe cls d pn (e :: es) (hCons f g) :=
  let ⟨_, p, s⟩ := ha; let ⟨_, p2, s2⟩ := hr
  ⟨_, pa_cons p p2 hs, ⟨fun {W e dv σ H Q} dom hs x e1 q => by
    unfold hCons at e1
    simp only [Option.bind_eq_some_iff, Option.map_eq_some_iff] at e1
    obtain ⟨y, e2, ys, e3, rfl⟩ := e1
    refine s.go dom hs x e2 fun v H1 m1 r1 => s2.go (same_dom dom m1) hs (x.stp (W' := W) m1) e3 fun vs H2 m2 r2 => ?_
    exact q _ H2 (m1.trans m2) (.cons (r1.stp (.same m2)) r2)⟩⟩
def hTp (g : Ex → Option (List D)) : Ex → Option D := fun e => (g e).bind fun ds => if ds.length ≤ sizeLine then some (.tup ds) else none
theorem x_tup {es : List Expr} {k : Nat} {pos : Pos} {g : Ex → Option (List D)} (h : DXs X i a oe cls d pn es g) : DX X i a oe cls d pn (.Tuple es k pos) (hTp g) :=
  let ⟨_, p, s⟩ := h
  ⟨_, pe_tupS p, ⟨fun {W e dv σ H Q} dom hs x e1 q => by
    unfold hTp at e1
    simp only [Option.bind_eq_some_iff] at e1
    obtain ⟨ds, e2, e3⟩ := e1
    split at e3
    · rename_i hl
      cases e3
      refine s.go dom hs x e2 fun vs H1 m1 r1 => ⟨by rw [r1.length]; exact hl, fun p ob hp hod => ?_⟩
      have s1 : Same H1 (upd H1 p (.frz ob (.tup vs))) := fun b u e => by rw [upd_ne (ne_of_none e hp)]; exact e
      refine q _ _ (m1.trans s1) (.ref (.inr ⟨ob, upd_same⟩) (fun z => ?_) (.tup (r1.stp (.same s1))) ⟨ob, vs, upd_same, hod⟩)
      obtain ⟨o, eo⟩ := same_dom dom m1 p z
      rw [hp] at eo; cases eo
    · cases e3⟩⟩
/-- tests: isinstance -/
def hI (tbl : List (Str × Bool)) : Ex → Option Bool := fun e => match e.fs with
  | [] => none
  | _ => tbl.lookup e.c
def hNot (f : Ex → Option Bool) : Ex → Option Bool := fun e => (f e).map (!·)
def hOr (f g : Ex → Option Bool) : Ex → Option Bool := fun e => (f e).bind fun b => if b = true then some true else g e
def hAnd (f g : Ex → Option Bool) : Ex → Option Bool := fun e => (f e).bind fun b => if b = true then g e else some false
theorem xt_not {e : Expr} {pos : Pos} {f : Ex → Option Bool} (h : DXb X i a oe cls d pn e f) : DXb X i a oe cls d pn (.UnaryOp .Not e pos) (hNot f) :=
  let ⟨_, p, s⟩ := h; ⟨_, pt_not p, ⟨fun {W e b σ H Q} dom hs x e1 q => by
    unfold hNot at e1
    simp only [Option.map_eq_some_iff] at e1
    obtain ⟨b', e2, rfl⟩ := e1
    exact s.go dom hs x e2 fun H' m => q H' m⟩⟩
theorem xw_or1 {e : Expr} {pos : Pos} {f : Ex → Option Bool} (h : DXb X i a oe cls d pn e f) : DXw X i a oe cls d pn (.BoolOp .Or [e] pos) f := let ⟨_, p, s⟩ := h; ⟨_, pw_or1 p, s⟩
theorem xw_and1 {e : Expr} {pos : Pos} {f : Ex → Option Bool} (h : DXb X i a oe cls d pn e f) : DXw X i a oe cls d pn (.BoolOp .And [e] pos) f := let ⟨_, p, s⟩ := h; ⟨_, pw_and1 p, s⟩
theorem xw_or {x y : Expr} {rest : List Expr} {pos : Pos} {f g : Ex → Option Bool} (h : DXb X i a oe cls d pn x f) (h2 : DXw X i a oe cls d pn (.BoolOp .Or (y :: rest) pos) g) : DXw X i a oe cls d pn (.BoolOp .Or (x :: y :: rest) pos) (hOr f g) :=
  let ⟨_, p, s⟩ := h; let ⟨_, p2, s2⟩ := h2; ⟨_, pw_or p p2, ⟨fun {W e b σ H Q} dom hs x e1 q => by
    unfold hOr at e1
    simp only [Option.bind_eq_some_iff] at e1
    obtain ⟨b', e2, e3⟩ := e1
    refine s.go dom hs x e2 fun H' m => ?_
    cases b' with
    | true => rw [if_pos rfl] at e3; cases e3; exact iteT (q H' m)
    | false => rw [if_neg Bool.false_ne_true] at e3; exact iteF (s2.go (same_dom dom m) hs (x.stp (W' := W) m) e3 fun H2 m2 => q H2 (m.trans m2))⟩⟩
theorem xt_w {e : Expr} {f : Ex → Option Bool} (h : DXw X i a oe cls d pn e f) : DXb X i a oe cls d pn e f := let ⟨_, p, s⟩ := h; ⟨_, p.pt, s⟩
/-- what isinstance asks of the class -/
structure IsC (K : PySem.W.Frag) (C : Addr) : Prop where
  cl : (PySem.W.clsIn K C).isSome = true
  ha : PySem.W.findIn K (.ref C) "__class__" = some (some (.builtin "object.__class__"))
  hn : PySem.W.specialIn K (.builtin "object.__class__") "__get__" = some (some (.builtin "getset_descriptor.__get__"))
  ht : PySem.W.takesIn K (.builtin "object.__class__") = some true
  hm : PySem.W.mroIn K C (.type "object") = some true
def rIsX (K : PySem.W.Frag) (C a : Addr) (d : Option Addr) : List V → Hp → VK → Prop := fun xs H Q => ∃ (c : V) (cv : Value) (b : Bool), xs = [.ref a, c] ∧ (∀ u, RelV c u → u = cv) ∧ PySem.W.kitOne K (.ref C) cv = some b ∧
  (∃ dd fs, d = some dd ∧ H dd = some (.xd fs)) ∧ Q (.bl b) H
theorem call_isX {C : Addr} (F : XfC X.K C) (G : IsC X.K C) (hz : Zc (.ref C) d oe) (hf : ∃ vs, oe.data = .fields vs) : CallR (X.suite a ((a, oe) :: pn)) (.builtin "isinstance") (rIsX X.K C a d) := by
  intro pins s σ H xs us Q I r h
  obtain ⟨c, cv, b, rfl, hcv, e, ⟨dd, fs, rfl, ed⟩, q⟩ := h
  cases r with
  | cons rx rr =>
    cases rr with
    | cons rt rr =>
      cases rr
      cases rx
      have ec := hcv _ rt
      subst ec
      obtain ⟨hget, _⟩ := I.pin (a, oe) (List.mem_append.mpr (.inl List.mem_cons_self))
      obtain ⟨vs, hv⟩ := hf
      have hx : ObjOk X.prog X.w H s.heap dd (.xd fs) := I.hok dd _ ed
      obtain ⟨mA, hns, hr⟩ := hx
      obtain ⟨od, ho, hl⟩ := lookIn_ns hns
      have J : PySem.W.InstAt s.heap a oe C (some od) := ⟨hget, hz.1, by unfold PySem.W.notCls; rw [hv] <;> rfl, by rw [hz.2]; exact ho⟩
      exact PySem.W.kia_one (PySem.W.kitx_exc (od := some od) G.cl F.ga F.gg F.exC G.ha G.hn G.ht G.hm) I.kIn J e (fun z => nomatch z) fun tk => ⟨.bl b, H, I.kept (t' := tk) fun _ _ z => z, rfl, q⟩
/-- isinstance(n, c2): by the classes that it may be of -/
theorem x_isi {c2 n : Str} {C2 : Value} {tbl : List (Str × Bool)} {np np2 p1 pos : Pos} (hz : Zc cls d oe) (hd : ∃ vs, oe.data = .fields vs) (hm : X.mg "isinstance" = none) (h2 : X.mg c2 = some C2) (hC2 : ∃ b, C2 = .ref b)
    (T : ∀ nm b, tbl.lookup nm = some b → ∃ C, X.mg nm = some (.ref C) ∧ XfC X.K C ∧ IsC X.K C ∧ PySem.W.kitOne X.K (.ref C) C2 = some b)
    (hN : X.N[i]? = some n := by rfl) (hv : Vis X.env.scope n := by first | exact Or.inl rfl | exact Or.inr (Or.inl rfl) | exact Or.inr (Or.inr rfl)) (q1 : (n == ("__debug__" : Str)) = false := by decide)
    (q2 : (n == ("__classdict__" : Str)) = false := by decide) (hg : Gl X "isinstance" := by rfl) (hg2 : Gl X c2 := by rfl) (q3 : (c2 == ("__debug__" : Str)) = false := by decide)
    (he : starEach [.Name n np, .Name c2 np2] X.env = (false, eval (.Name n np) X.env) :: starEach [.Name c2 np2] X.env := by rfl)
    (he2 : starEach [.Name c2 np2] X.env = (false, eval (.Name c2 np2) X.env) :: starEach [] X.env := by rfl) (hpl : (backTo pos (starEach [.Name c2 np2] X.env)).any (·.1) = false := by rfl)
    (htr : ∀ whole, isTrue (.Call (.Name "isinstance" p1) [.Name n np, .Name c2 np2] [] pos) X.env whole = (do let v ← whole; standAt (Expr.Call (.Name "isinstance" p1) [.Name n np, .Name c2 np2] [] pos).pos; holding [v] (truthy v)) := by intro _; rfl) :
    DXb X i a oe cls d pn (.Call (.Name "isinstance" p1) [.Name n np, .Name c2 np2] [] pos) (hI tbl) := by
  obtain ⟨b2, rfl⟩ := hC2
  have key : ∀ {W : Addr → Prop} {H : Hp} {e : Ex} {b : Bool}, RepX X.G W H cls d e → hI tbl e = some b → ∃ C dd fs, cls = .ref C ∧ d = some dd ∧ H dd = some (.xd fs) ∧ X.mg e.c = some (.ref C) ∧ XfC X.K C ∧ IsC X.K C ∧ PySem.W.kitOne X.K (.ref C) (.ref b2) = some b := by
    intro W H e b x e1
    obtain ⟨x1, x2⟩ := x
    unfold hI at e1
    split at e1
    · cases e1
    · rename_i hne
      obtain ⟨C', m1, m2, m3, m4⟩ := T e.c b e1
      have ec : cls = .ref C' := by
        rcases x1 with x1 | ⟨x1, _⟩
        · have x1 : X.mg e.c = some cls := x1
          rw [m1] at x1; cases x1; rfl
        · have x1 : X.mg e.c = none := x1
          rw [m1] at x1; cases x1
      rcases x2 with ⟨_, r2⟩ | ⟨dd, vfs, r1, r2, _, _⟩
      · exact (hne r2).elim
      · exact ⟨C', dd, vfs, ec, r1, r2, m1, m2, m3, m4⟩
  by_cases hx : ∃ C, cls = .ref C ∧ XfC X.K C ∧ IsC X.K C
  · obtain ⟨C, rfl, g3, g4⟩ := hx
    refine ⟨_, pt_val (pe_callB (call_isX g3 g4 hz hd) hg hm (by decide +kernel) (pa_cons (pe_var (i := i) hN hv q1 q2) (pa_cons (pe_glob (v := .ref b2) hg2 h2 rfl q3) pa_nil he2) he) (by decide) (by decide) he hpl) htr, ⟨fun {W e b' σ H Q} dom hs x e1 q => ?_⟩⟩
    obtain ⟨C', dd, fs, ec, r1, r2, _, _, _, r3⟩ := key x e1
    cases ec
    exact ⟨.ref a, hs, .ref b2, _, b', rfl, fun u hu => hu, r3, ⟨dd, fs, r1, r2⟩, b', rfl, q H (Same.refl _)⟩
  · refine ⟨fun _ _ _ => False, ⟨fun _ _ _ _ _ _ h => h.elim⟩, ⟨fun {W e b' σ H Q} dom hs x e1 q => ?_⟩⟩
    obtain ⟨C', dd, fs, ec, _, _, _, g3, g4, _⟩ := key x e1
    exact hx ⟨C', ec, g3, g4⟩
/-- suites -/
def DSx (X : Cx) (i : Nat) (a : Addr) (oe : Obj) (cls : Value) (d : Option Addr) (pn : List (Addr × Obj)) (sts : List Stmt) (h : Ex → Option D) : Prop := PSs (X.suite a ((a, oe) :: pn)) sts (tHnd X h i a cls d)
theorem xs_ret {e : Expr} {pos : Pos} {h : Ex → Option D} (hx : DX X i a oe cls d pn e h) : DSx X i a oe cls d pn [.Return (some e) pos] h := by
  obtain ⟨_, p, s⟩ := hx
  exact ⟨fun pins s0 σ H D' I ⟨W, e, dv, dom, hs, x, e1, q⟩ => (pss_one (ps_ret p)).run pins s0 σ H D' I (s.go dom hs x e1 fun v H' m r => q v H' m r)⟩
def hIf (c : Ex → Option Bool) (f g : Ex → Option D) : Ex → Option D := fun e => (c e).bind fun b => if b = true then f e else g e
/-- if c: suite; rest (the suite hands back) -/
theorem xs_if {c : Expr} {body rest : List Stmt} {pos : Pos} {hc : Ex → Option Bool} {f g : Ex → Option D} (h : DXb X i a oe cls d pn c hc) (h1 : DSx X i a oe cls d pn body f) (h2 : DSx X i a oe cls d pn rest g) :
    DSx X i a oe cls d pn (.If c body [] pos :: rest) (hIf hc f g) := by
  obtain ⟨_, p, s⟩ := h
  refine ⟨fun pins s0 σ H D' I ⟨W, e, dv, dom, hs, x, e1, q⟩ => ?_⟩
  unfold hIf at e1
  simp only [Option.bind_eq_some_iff] at e1
  obtain ⟨b, e2, e3⟩ := e1
  refine (pss_cons (ps_if p h1 pss_nil) h2).run pins s0 σ H D' I ?_
  refine s.go dom hs x e2 fun H1 m1 => ?_
  cases b with
  | true => rw [if_pos rfl] at e3; exact iteT ⟨W, e, dv, same_dom dom m1, hs, x.stp (W' := W) m1, e3, fun v H' m r => q v H' (m1.trans m) r⟩
  | false => rw [if_neg Bool.false_ne_true] at e3; exact iteF ⟨W, e, dv, same_dom dom m1, hs, x.stp (W' := W) m1, e3, fun v H' m r => q v H' (m1.trans m) r⟩
end
/-! ### try -/
section
variable {X : Cx} {Z : WXZ}
/-- the mirror's own promise, as a reading -/
def tMir (X : Cx) (W : WXZ) (g : En → Out Fl) : TS := fun D' σ H => ∃ (B : Bs) (as : List (Option Addr)) (ρ : En), Rel X.G B as σ H ρ ∧ SO X W B as H D' (g ρ)
theorem SO.tr {pn : List (Addr × Obj)} {xe : Value → Shared → Prop} {W : WXZ} {B : Bs} {as : List (Option Addr)} {H : Hp} {D' : Ends} {o : Out Fl} (h : SO X W B as H D' o) : SO (X.tr pn xe) W B as H D' o := by
  cases o with
  | ok a ρ' => cases a <;> exact h
  | exc e ρ' => exact h
  | bad => exact h
theorem DSs.mir {pn : List (Addr × Obj)} {xe : Value → Shared → Prop} {W : WXZ} {b : List Stmt} {g : En → Out Fl} (h : DSs (X.tr pn xe) W b g) : PSs (X.tr pn xe) b (tMir X W g) :=
  let ⟨_, p, s⟩ := h
  ⟨fun pins s0 σ H D' I ⟨B, as, ρ, R, q⟩ => p.run pins s0 σ H D' I (s.go R q.tr)⟩
def sTry (g : En → Out Fl) (tbl : List (Str × Bool)) (i : Nat) (h : Ex → Option D) : En → Out Fl := fun ρ => match g ρ with
  | .exc e ρ' => match tbl.lookup e.c with
    | some true => match h e with
      | some d => if i < ρ'.length then .ok (.rt d) (ρ'.set i .un) else .bad
      | none => .bad
    | some false => .exc e ρ'
    | none => .bad
  | o => o
theorem s_try {i : Nat} {n c : Str} {Cv : Value} {body suite : List Stmt} {b₀ : Stmt} {np pos pos' : Pos} {g : En → Out Fl} {tbl : List (Str × Bool)} {h : Ex → Option D} (hs : X.stack = X.env :: X.outer) (hf : X.env.frame = some X.env.locals) (hN : X.N.Nodup)
    (hc : X.mg c = some Cv) (tk : Takes X Z) (hT : ∀ nm b, tbl.lookup nm = some b → ∃ v, X.mg nm = some v ∧ PySem.W.exmOne X.K v Cv = some b)
    (hb : ∀ (W : WXZ) (pn : List (Addr × Obj)) (xe : Value → Shared → Prop), Takes (X.tr pn xe) W → PassesOwn (model X.prog X.w) X.A X.env xe → DSs (X.tr pn xe) W body g)
    (hsu : ∀ (a : Addr) (oe : Obj) (cls : Value) (d : Option Addr) (pn : List (Addr × Obj)), Zc cls d oe → (∃ vs, oe.data = .fields vs) → DSx X i a oe cls d pn (b₀ :: suite) h)
    (hi : X.N[i]? = some n := by rfl) (hln : X.env.kindOf n = some .local := by rfl) (hg : Gl X c := by rfl) (hdb : (c == ("__debug__" : Str)) = false := by decide) :
    DS X Z (.Try body [.ExceptHandler (some (.Name c np)) (some n) (b₀ :: suite) pos'] [] [] pos) (sTry g tbl i h) := by
  refine ⟨_, ps_try_as (i := i) (Wout := Z) (tb := fun W => tMir X W g) (ts := fun a cls d => tHnd X h i a cls d) hs hf hN hi hln ⟨hg, hdb, .inl hc⟩ tk (fun W pn xe tk' po => (hb W pn xe tk' po).mir) (fun a oe cls d pn hz hd => hsu a oe cls d pn hz hd),
    ⟨fun {B as σ H ρ D'} R q => ⟨B, as, ρ, R, ?_⟩⟩⟩
  unfold sTry at q
  cases eg : g ρ with
  | bad => rw [eg] at q; exact q.elim
  | ok fl ρ' => rw [eg] at q; cases fl <;> exact q
  | exc e ρ' =>
    rw [eg] at q
    intro cls dx as' σ' H' R' g' x
    dsimp only at q
    cases et : tbl.lookup e.c with
    | none => rw [et] at q; exact q.elim
    | some b =>
      rw [et] at q
      obtain ⟨v, m1, m2⟩ := hT e.c b et
      have ec : cls = v := by
        rcases x.1 with x1 | ⟨x1, _⟩
        · have x1 : X.mg e.c = some cls := x1
          rw [m1] at x1; cases x1; rfl
        · have x1 : X.mg e.c = none := x1
          rw [m1] at x1; cases x1
      subst ec
      refine ⟨b, m2, fun hbt a ha => ?_, fun hbf => ?_⟩
      · subst hbt
        dsimp only at q
        cases eh : h e with
        | none => rw [eh] at q; exact q.elim
        | some dv =>
          rw [eh] at q
          dsimp only at q
          split at q
          · rename_i hl
            refine ⟨B.W as', e, dv, R'.domA, ?_, x, eh, fun v H2 m r => ?_⟩
            · rw [List.getElem?_set_self (by rw [R'.l1]; exact hl)]
            · have R2 := R'.setUn hl none
              have gl : Go (Ad as') H' (Ad (as'.set i none)) H' := .less fun b => Ad.set_none
              exact q v _ _ H2 (R2.same m) (g'.trans (gl.trans (.of_same m))) (r.stp (.less fun b z => .inl (z.imp id Ad.set_none)))
          · exact q.elim
      · subst hbf
        exact q cls dx as' σ' H' R' g' x
end
end L3
namespace L3
open PySem PySem.Spec PyProof.Rows L2
/-! ### xs.extend(ys) -/
def rExtS (K : PySem.W.Frag) : V → List V → Hp → VK → Prop := fun x vs H Q => ∃ l b xs zs, x = .ref l ∧ vs = [.ref b] ∧ H l = some (.lst xs) ∧ Rd H b (.lst zs) ∧ xs.length + zs.length ≤ sizeLine ∧ Q .non (upd H l (.lst (xs ++ zs)))
section
variable {X : Cx} {Z : WXZ} {G : Pm} {W : Addr → Prop} {H : Hp} {i : Nat} {x : Str} {px apos cpos : Pos} {e o : Expr} {f : En → Out (List Pv)} {fo : En → Out Pv}
theorem mt_extS : MtR X "list.extend" (rExtS X.K) := by
  intro pins s σ H x vs v us Q I rx rv h
  obtain ⟨l, b, xs, zs, rfl, rfl, hH, hB, hz, q⟩ := h
  cases rx
  obtain ⟨u, rfl, ru⟩ := rv.one
  cases ru
  obtain ⟨z, its, n, r, hl, e⟩ := I.lstM hH
  obtain ⟨hz2, its2, n2, r2, e2⟩ := hB.ok I.hok
  have hl2 := r2.length
  have hsz : its.toArray.size + its2.toArray.size ≤ sizeLine := by rw [List.size_toArray, List.size_toArray]; omega
  have hlong : ¬ (!its.toArray.isEmpty && Builtin.List.listTooLong (its.toArray.size + its2.toArray.size)) = true := by
    rw [notLongL hsz, Bool.and_false]
    exact Bool.false_ne_true
  refine call_meets F.slot_list_extend ⟨_, e, rfl⟩ F.entry_list_extend (F.args_list_extend_2 _ _)
    (AutoSeq1.list_extend_list_list_0 l its.toArray n b its2.toArray n2 hlong (by rw [List.size_toArray]; omega) (by omega)) ⟨e, e2, ?_⟩
  refine ⟨.non, _, I.lset (its' := its ++ its2) hH e (by simp) (r.append r2) ?_, rfl, q⟩
  rw [List.length_append]
  omega
def gExtend : D → List D → Option (D × D)
  | .lst xs, [.lst ys] => if xs.length + ys.length ≤ sizeLine then some (.non, .lst (xs ++ ys)) else none
  | _, _ => none
theorem o_extend : OpM X (rExtS X.K) gExtend := fun {W H a o c vs ds d c' Q} h mu w k r e q => by
  unfold gExtend at e
  split at e
  · split at e
    · rename_i hl
      cases e
      cases k with
      | lst rk =>
        cases r with
        | cons r1 rn =>
          cases rn
          obtain ⟨b, zs, rfl, h1, h2, h3⟩ := Rep.lstA r1
          exact ⟨_, b, _, zs, rfl, rfl, h, h1, by rw [rk.length, h3.length]; exact hl, q .non _ True.intro (.lst (rk.append h3)) .non⟩
    · cases e
  · cases e
theorem e_extend (ha : DA X Z [e] f) (hN : X.N[i]? = some x := by rfl) (hv : Vis X.env.scope x := by first | exact Or.inl rfl | exact Or.inr (Or.inl rfl) | exact Or.inr (Or.inr rfl)) (hd : (x == ("__debug__" : Str)) = false := by decide) (hcd : (x == ("__classdict__" : Str)) = false := by decide)
    (hbase : attributeBase (.Name x px) "extend" X.env (eval (.Name x px) X.env) = eval (.Name x px) X.env := by rfl)
    (hfew : ((backTo cpos (starEach [e] X.env)).all (fun x => !x.1) && (backToKw cpos (keywordEach [] X.env)).all (fun x => x.1.isSome) && decide ([e].length + ([] : List Keyword).length + (if ([] : List Keyword).isEmpty then 0 else 1) < 30)) = true := by rfl)
    (hline : (apos.endLine == cpos.line) = true := by rfl) (hs : starEach [e] X.env = (false, eval e X.env) :: starEach [] X.env := by rfl) (hplain : (backTo cpos (starEach [] X.env)).any (·.1) = false := by rfl) :
    DE X Z (.Call (.Attribute (.Name x px) "extend" apos) [e] [] cpos) (cM i gExtend f) := e_bm PySem.F.slot_list_extend PySem.F.type_list_extend mt_extS o_extend ha hN hv hd hcd hbase hfew hline hs hplain
/-! ### index of flat items -/
def ixV (y : V) : List V → Option Nat
  | [] => none
  | z :: r => if eqV z y = true then some 0 else (ixV y r).map (· + 1)
theorem ixV_ok {y : V} : ∀ {ys : List V} {j : Nat}, ixV y ys = some j → ∃ z, ys[j]? = some z ∧ eqV z y = true ∧ ∀ (m : Nat) (z' : V), m < j → ys[m]? = some z' → eqV z' y = false
  | [], j, h => by cases h
  | z :: r, j, h => by
    rw [ixV] at h
    split at h
    · rename_i c
      cases h
      exact ⟨z, rfl, c, fun m z' hm => by omega⟩
    · rename_i c
      simp only [Option.map_eq_some_iff] at h
      obtain ⟨k, hk, rfl⟩ := h
      obtain ⟨z1, h1, h2, h3⟩ := ixV_ok hk
      refine ⟨z1, by simpa using h1, h2, fun m z' hm e => ?_⟩
      cases m with
      | zero =>
        have : z = z' := by simpa using e
        subst this
        simpa using c
      | succ m => exact h3 m z' (by omega) (by simpa using e)
def gIdx (xs : List D) (ys : List D) : Option D := match ys with
  | [y] => (flD y).bind fun v => (flDs xs).bind fun vs => (ixV v vs).map fun j => .int (j : Nat)
  | _ => none
/-- t.index(y), t a tuple -/
def rIdxT (K : PySem.W.Frag) : V → List V → Hp → VK → Prop := fun x xs H Q => ∃ (a : Addr) (ys : List V) (y : V) (j : Nat), x = V.ref a ∧ xs = [y] ∧ SqT K H a ys ∧ flatV y = true ∧ ys.all flatV = true ∧ ixV y ys = some j ∧ Q (.int (j : Nat)) H
theorem mt_idxT : MtR X "tuple.index" (rIdxT X.K) := by
  intro pins s σ H x xs v us Q I rx rxs h
  obtain ⟨a, ys, y, j, rfl, rfl, hs, fy, fys, hj0, q⟩ := h
  obtain ⟨z, hz, hzj, hno⟩ := ixV_ok hj0
  cases rx
  cases rxs with
  | cons ry rt =>
    rename_i uy ut
    cases rt
    obtain ⟨its, rv, ⟨⟨cls, dd, data, sl⟩, ho, hc, n, hd⟩, hlen⟩ := I.tuple hs
    simp only at hc hd
    subst hc hd
    obtain ⟨u, hu, ru⟩ := rv.get hz
    obtain ⟨hjl, hje⟩ := List.getElem?_eq_some_iff.mp hu
    have hvl := rv.length
    have hj : j < its.toArray.size := by simpa using hjl
    refine call_meets PySem.F.slot_tuple_index ⟨_, ho, rfl⟩ PySem.F.entry_tuple_index (PySem.F.args_tuple_index_2 _ _)
      (TI.tuple_indexAt a its.toArray n dd sl uy (eqU y) j hj ?_ ?_) ⟨ho, fun u' hu' => mem_eqAt ry fy rv fys u' (by simpa using hu'), ?_⟩
    · have e1 : its.toArray[j] = u := by simpa using hje
      rw [e1, eqU_of ru (flat_at fys hz)]
      exact hzj
    · intro m hm hmj
      have hml : m < its.length := by simpa using hm
      have hmy : m < ys.length := by omega
      have hy' : ys[m]? = some ys[m] := List.getElem?_eq_getElem hmy
      obtain ⟨u2, hu2, ru2⟩ := rv.get hy'
      obtain ⟨_, hme⟩ := List.getElem?_eq_some_iff.mp hu2
      have e1 : its.toArray[m] = u2 := by simpa using hme
      rw [e1, eqU_of ru2 (flat_at fys hy')]
      exact hno m _ hmj hy'
    · exact ⟨.int (j : Nat), H, I.tok _, ⟨_, rfl⟩, q⟩
/-- a tuple without a dict of its own -/
def TupN (K : PySem.W.Frag) (H : Hp) (a : Addr) : Prop := (∃ (ob : Obj) (vs : List V), H a = some (.frz ob (.tup vs)) ∧ ob.dict = none) ∨ ∃ o, K.lookup a = some o ∧ o.cls = .type "tuple" ∧ o.dict = none
def tTM (K : PySem.W.Frag) (r : V → List V → Hp → VK → Prop) (to : TE) (t : TA) : TE := fun σ H Q => to σ H fun x H1 => (∃ a, x = .ref a ∧ TupN K H1 a) ∧ t σ H1 fun xs H2 => r x xs H2 Q
theorem pe_tm {name : Str} {id : String} {r : V → List V → Hp → VK → Prop} {to : TE} {t : TA} {es : List Expr} (slot : Slot "tuple" name id) (hty : typeOf (.builtin id) = pure (.type "method_descriptor")) (hm : MtR X id r) (ho : PE X o to) (ha : PA X (e :: es) t)
    (hbase : attributeBase o name X.env (eval o X.env) = eval o X.env := by rfl)
    (hfew : ((backTo cpos (starEach (e :: es) X.env)).all (fun x => !x.1) && (backToKw cpos (keywordEach [] X.env)).all (fun x => x.1.isSome)
      && decide ((e :: es).length + ([] : List Keyword).length + (if ([] : List Keyword).isEmpty then 0 else 1) < 30)) = true := by rfl)
    (hline : (apos.endLine == cpos.line) = true := by rfl) (hs : starEach (e :: es) X.env = (false, eval e X.env) :: starEach es X.env := by rfl) (hplain : (backTo cpos (starEach es X.env)).any (·.1) = false := by rfl) :
    PE X (.Call (.Attribute o name apos) (e :: es) [] cpos) (tTM X.K r to t) := by
  refine ⟨fun pins s σ H Q I h => ?_⟩
  refine wpAny_Call_method_late hbase hfew hline rfl (thn (ho.run pins s σ H _ I h) fun v s1 ⟨x, H1, I1, r1, ⟨a, ea, ty⟩, q1⟩ => ?_)
  subst ea
  cases r1
  have hh : s1.TypeIs (.ref a) "tuple" ∧ ∀ b, Value.ref a = .ref b → ∃ ob, s1.heap.get? b = some ob ∧ ob.dict = none := by
    rcases ty with ⟨ob, vs, e, hd⟩ | ⟨ob, e, hc, hd⟩
    · obtain ⟨h1, z, its, r, o', ho', hc', n, hdat⟩ := I1.hok a _ e
      refine ⟨⟨o', ho', hc'⟩, fun b eb => ?_⟩
      cases eb
      exact ⟨ob, h1, hd⟩
    · refine ⟨⟨ob, I1.kIn _ _ e, hc⟩, fun b eb => ?_⟩
      cases eb
      exact ⟨ob, I1.kIn _ _ e, hd⟩
  refine ⟨"tuple", id, PySem.F.plainAttrs_tuple, slot, hty, hh.1, hh.2, ?_⟩
  have hA := ha.run cpos pins s1 σ H1 _ I1 q1
  rw [hs] at hA ⊢
  refine Calls.callWith_builtin (by show (false || (backTo cpos (starEach es X.env)).any (·.1)) = false; rw [hplain] <;> rfl) (Calls.evalArgs_plain ?_)
  exact thn hA fun us s2 ⟨vs, H2, I2, r2, q2⟩ => hm pins s2 σ H2 (.ref a) vs (.ref a) us Q I2 rfl r2 q2
theorem Rep.tupN {K : PySem.W.Frag} {mg : Str → Option Value} {v : V} {ds : List D} (r : Rep ⟨K, mg⟩ W H v (.tup ds)) : ∃ a vs, v = .ref a ∧ TupN K H a ∧ SqT K H a vs ∧ Reps ⟨K, mg⟩ W H vs ds := by
  cases r with
  | ref h w c t =>
    cases c with
    | tup r =>
      obtain ⟨ob, vs, e, hd⟩ := t
      exact ⟨_, _, rfl, .inl ⟨ob, vs, e, hd⟩, .inl h, r⟩
  | tupK h r =>
    obtain ⟨ob, its, n, e1, e2, e3, e4, e5, e6⟩ := id h
    exact ⟨_, _, rfl, .inr ⟨ob, e1, e2, e6⟩, h.sq, r⟩
def cTIx (fo : En → Out Pv) (f : En → Out (List Pv)) : En → Out Pv := fun ρ => (fo ρ).bind fun p ρ1 => match p with
  | .v (.tup xs) => (f ρ1).bind fun ps ρ2 => ofO ((pvDs ρ2 ps).bind (gIdx xs)) ρ2
  | _ => .bad
theorem e_tidx (ho : DE X Z o fo) (ha : DA X Z [e] f) (hbase : attributeBase o "index" X.env (eval o X.env) = eval o X.env := by rfl)
    (hfew : ((backTo cpos (starEach [e] X.env)).all (fun x => !x.1) && (backToKw cpos (keywordEach [] X.env)).all (fun x => x.1.isSome)
      && decide ([e].length + ([] : List Keyword).length + (if ([] : List Keyword).isEmpty then 0 else 1) < 30)) = true := by rfl)
    (hline : (apos.endLine == cpos.line) = true := by rfl) (hs : starEach [e] X.env = (false, eval e X.env) :: starEach [] X.env := by rfl) (hplain : (backTo cpos (starEach [] X.env)).any (·.1) = false := by rfl) :
    DE X Z (.Call (.Attribute o "index" apos) [e] [] cpos) (cTIx fo f) := by
  obtain ⟨_, p1, s1⟩ := ho
  obtain ⟨_, p2, s2⟩ := ha
  refine ⟨_, pe_tm PySem.F.slot_tuple_index PySem.F.type_tuple_index mt_idxT p1 p2 hbase hfew hline hs hplain, ⟨fun {B as σ H ρ Q} R q => s1.go R (q.bind.imp fun p ρ1 H1 R1 g1 q1 v k1 => ?_)⟩⟩
  cases k1 with
  | b _ => exact q1.elim
  | @v v d k =>
    cases d with
    | tup xs =>
      obtain ⟨a, vs, rfl, h1, h2, h3⟩ := Rep.tupN k
      refine ⟨⟨a, rfl, h1⟩, s2.go R1 (EO.bind q1 |>.imp fun ps ρ2 H2 R2 g2 q2 us k2 => ?_)⟩
      obtain ⟨d, e1, q⟩ := q2.ofO R2
      simp only [Option.bind_eq_some_iff] at e1
      obtain ⟨ds, e2, e3⟩ := e1
      have rp := PvsOk.peeks R2 k2 e2
      unfold gIdx at e3
      split at e3
      · simp only [Option.bind_eq_some_iff, Option.map_eq_some_iff] at e3
        obtain ⟨y, f1, ys, f2, j, f3, rfl⟩ := e3
        obtain ⟨u, rfl, hu⟩ := rp.one
        obtain ⟨rfl, z1⟩ := hu.fl f1
        have k' := k.go g2
        obtain ⟨a', vs', ea, t1, t2, t3⟩ := Rep.tupN k'
        cases ea
        obtain ⟨rfl, z2⟩ := t3.fl f2
        exact ⟨a, _, _, j, rfl, rfl, t2, z1, z2, f3, q _ H2 (Same.refl _) (.int _)⟩
      · cases e3
    | _ => exact q1.elim
end
end L3
namespace L3
open PySem PySem.Spec PyProof.Rows L2
/-! ### texts in order -/
def insS (x : Str) : List Str → List Str
  | [] => [x]
  | y :: r => if ltCps y.cps.toList x.cps.toList = true then y :: insS x r else x :: y :: r
def srtS : List Str → List Str
  | [] => []
  | x :: r => insS x (srtS r)
abbrev leS (a b : Str) : Prop := ltCps b.cps.toList a.cps.toList = false
theorem leS_iff {a b : Str} : leS a b ↔ a.cps.toList ≤ b.cps.toList := by
  show ltCps b.cps.toList a.cps.toList = false ↔ _
  rw [ltCps_eq, decide_eq_false_iff_not, List.not_lt]
theorem leS_trans {a b c : Str} (h : leS a b) (h2 : leS b c) : leS a c := leS_iff.mpr (List.le_trans (leS_iff.mp h) (leS_iff.mp h2))
theorem leS_anti {a b : Str} (h : leS a b) (h2 : leS b a) : a = b := by
  have e := List.le_antisymm (leS_iff.mp h) (leS_iff.mp h2)
  cases a; cases b
  simp only [Array.toList_inj] at e
  rw [e]
theorem leS_tot {a b : Str} (h : ltCps b.cps.toList a.cps.toList = true) : leS b a := by
  rw [ltCps_eq, decide_eq_true_iff] at h
  exact leS_iff.mpr (List.le_of_lt h)
theorem insS_perm (x : Str) : ∀ l, (insS x l).Perm (x :: l)
  | [] => List.Perm.refl _
  | y :: r => by
    rw [insS]
    split
    · exact ((insS_perm x r).cons y).trans (List.Perm.swap x y r)
    · exact List.Perm.refl _
theorem srtS_perm : ∀ l, (srtS l).Perm l
  | [] => List.Perm.refl _
  | x :: r => (insS_perm x (srtS r)).trans ((srtS_perm r).cons x)
theorem insS_srt {x : Str} : ∀ {l : List Str}, l.Pairwise leS → (insS x l).Pairwise leS
  | [], _ => List.pairwise_singleton _ _
  | y :: r, h => by
    rw [List.pairwise_cons] at h
    rw [insS]
    split
    · rename_i c
      rw [List.pairwise_cons]
      refine ⟨fun z hz => ?_, insS_srt h.2⟩
      rcases List.mem_cons.mp ((insS_perm x r).mem_iff.mp hz) with rfl | q
      · exact leS_tot c
      · exact h.1 z q
    · rename_i c
      have c : leS x y := (Bool.not_eq_true _).mp c
      rw [List.pairwise_cons, List.pairwise_cons]
      refine ⟨fun z hz => ?_, h⟩
      rcases List.mem_cons.mp hz with rfl | q
      · exact c
      · exact leS_trans c (h.1 z q)
theorem srtS_srt : ∀ l : List Str, (srtS l).Pairwise leS
  | [] => List.Pairwise.nil
  | _ :: r => insS_srt (srtS_srt r)
theorem rise_pw : ∀ {l : List Str} {p : Str}, risingS p l = true → (p :: l).Pairwise leS
  | [], p, _ => List.pairwise_singleton _ _
  | x :: r, p, h => by
    rw [risingS, Bool.and_eq_true, Bool.not_eq_true'] at h
    have ih := rise_pw h.2
    rw [List.pairwise_cons]
    refine ⟨fun z hz => ?_, ih⟩
    rcases List.mem_cons.mp hz with rfl | q
    · exact h.1
    · exact leS_trans h.1 ((List.pairwise_cons.mp ih).1 z q)
theorem srt_uniq : ∀ {l m : List Str}, l.Perm m → l.Pairwise leS → m.Pairwise leS → l = m
  | [], m, p, _, _ => (List.nil_perm.mp p).symm
  | x :: r, [], p, _, _ => absurd p.length_eq (by simp)
  | x :: r, y :: t, p, h1, h2 => by
    rw [List.pairwise_cons] at h1 h2
    have e : x = y := by
      rcases List.mem_cons.mp (p.mem_iff.mp List.mem_cons_self) with q | q
      · exact q
      · rcases List.mem_cons.mp (p.mem_iff.mpr (List.mem_cons_self (a := y))) with q2 | q2
        · exact q2.symm
        · exact leS_anti (h1.1 y q2) (h2.1 x q)
    subst e
    rw [srt_uniq ((List.perm_cons x).mp p) h1.2 h2.2]
theorem srt_is {ys xs : List Str} (p : ys.Perm xs) (h : sortedS ys = true) : ys = srtS xs := by
  refine srt_uniq (p.trans (srtS_perm xs).symm) ?_ (srtS_srt xs)
  cases ys with
  | nil => exact List.Pairwise.nil
  | cons x r => exact rise_pw h
def asStrs : List D → Option (List Str)
  | [] => some []
  | .str x :: r => (asStrs r).map (x :: ·)
  | _ :: _ => none
theorem asStrs_some : ∀ {ds : List D} {ns : List Str}, asStrs ds = some ns → ds = ns.map D.str
  | [], _, h => by cases h; rfl
  | .str i :: r, ns, h => by
    simp only [asStrs, Option.map_eq_some_iff] at h
    obtain ⟨m, h1, rfl⟩ := h
    rw [asStrs_some h1]; rfl
  | .non :: _, _, h | .bl _ :: _, _, h | .int _ :: _, _, h | .tup _ :: _, _, h | .lst _ :: _, _, h | .dic _ :: _, _, h | .dit _ :: _, _, h | .obj _ _ _ :: _, _, h | .ty _ :: _, _, h => by cases h
theorem asStrs_map (ns : List Str) : asStrs (ns.map D.str) = some ns := by
  induction ns with
  | nil => rfl
  | cons n r ih => simp [asStrs, ih]
def keyStrs : List (Key × D) → Option (List Str)
  | [] => some []
  | (.inr x, _) :: r => (keyStrs r).map (x :: ·)
  | (.inl _, _) :: _ => none
theorem keyStrs_some : ∀ {ds : List (Key × D)} {ns : List Str}, keyStrs ds = some ns → ds.map (·.1) = ns.map Sum.inr
  | [], _, h => by cases h; rfl
  | (.inr x, _) :: r, ns, h => by
    simp only [keyStrs, Option.map_eq_some_iff] at h
    obtain ⟨m, h1, rfl⟩ := h
    rw [List.map_cons, keyStrs_some h1]; rfl
  | (.inl _, _) :: _, _, h => by cases h
/-- sorted: of texts, of a dict of texts -/
def gSorted : List D → Option D
  | [.lst ds] => (asStrs ds).bind fun xs => if xs.length < 64 then some (.lst ((srtS xs).map .str)) else none
  | [.dic kvs] => (keyStrs kvs).bind fun xs => if xs.length < 64 then some (.lst ((srtS xs).map .str)) else none
  | _ => none
section
variable {X : Cx} {Z : WXZ} {G : Pm} {W : Addr → Prop} {H : Hp} {a b o e : Expr} {es : List Expr} {pos p1 apos cpos : Pos} {fa fb fo : En → Out Pv} {f : En → Out (List Pv)} {name : Str} {id T : String} {r : V → List V → Hp → VK → Prop} {g : D → List D → Option D}
theorem o_sorted (hc : X.calm = true) : ∃ r, CallR X (.builtin "sorted") r ∧ OpL X r gSorted := ⟨_, cr_sortedS.or (call_sortedD hc), fun {W H xs ds d Q} h e q => by
  unfold gSorted at e
  split at e
  · simp only [Option.bind_eq_some_iff] at e
    obtain ⟨ns, e1, e2⟩ := e
    split at e2
    · rename_i hz
      cases e2
      obtain ⟨v, rfl, hv⟩ := h.one
      obtain ⟨a, vs, rfl, s1, r1⟩ := hv.lst
      rw [asStrs_some e1] at r1
      have := r1.strs
      subst this
      refine .inl ⟨a, ns, rfl, .inl s1, hz, fun ys p h1 h2 hp => ?_⟩
      rw [srt_is h1 h2]
      exact q p _ hp True.intro (.lst (Reps.of_strs _))
    · cases e2
  · simp only [Option.bind_eq_some_iff] at e
    obtain ⟨ns, e1, e2⟩ := e
    split at e2
    · rename_i hz
      cases e2
      obtain ⟨v, rfl, hv⟩ := h.one
      obtain ⟨a, kvs, rfl, s1, hk, r1⟩ := hv.dic
      refine .inr ⟨a, kvs, ns, rfl, s1, hk.trans (keyStrs_some e1), hz, fun ys p h1 h2 hp => ?_⟩
      rw [srt_is h1 h2]
      exact q p _ hp True.intro (.lst (Reps.of_strs _))
    · cases e2
  · cases e⟩
theorem n_sorted (hc : X.calm = true) (hm : X.mg "sorted" = none) (ha : DA X Z [a] f) (hg : Gl X "sorted" := by rfl) (he : starEach [a] X.env = (false, eval a X.env) :: starEach [] X.env := by rfl) (hpl : (backTo pos (starEach [] X.env)).any (·.1) = false := by rfl) : DN X Z (.Call (.Name "sorted" p1) [a] [] pos) (nN gSorted f) :=
  let ⟨_, h1, h2⟩ := o_sorted hc
  n_blt h1 h2 hm (by decide +kernel) ha hg (by decide) (by decide) he hpl
/-! ### methods that only look -/
def OpMr (X : Cx) (T : String) (r : V → List V → Hp → VK → Prop) (g : D → List D → Option D) : Prop := ∀ {W : Addr → Prop} {H : Hp} {x : V} {o : D} {vs : List V} {ds : List D} {d : D} {Q : VK}, (∀ b, W b → ∃ o, H b = some o) →
  RepP X.G W H x o → RepPs X.G W H vs ds → g o ds = some d → (∀ v H', Same H H' → Rep X.G W H' v d → Q v H') → r x vs H Q
def isTy (T : String) : D → Bool
  | .str _ => T == "str"
  | .lst _ => T == "list"
  | _ => false
theorem isTy_ok {W : Addr → Prop} {H : Hp} {x : V} {o : D} (r : RepP X.G W H x o) (h : isTy T o = true) : tyV X.K T x H := by
  cases o with
  | str z =>
    rw [r.str_]
    show T = "str"
    simpa [isTy] using h
  | lst ds =>
    obtain ⟨a, vs, rfl, h1, h2⟩ := r.lst
    exact .inl ⟨by simpa [isTy] using h, vs, .inl h1⟩
  | _ => cases h
def cMr (T : String) (g : D → List D → Option D) (fo : En → Out Pv) (f : En → Out (List Pv)) : En → Out Pv := fun ρ => (fo ρ).bind fun p ρ1 => if (pvD ρ1 p).map (isTy T) = some true then
  (f ρ1).bind fun ps ρ2 => ofO ((pvD ρ2 p).bind fun o => (pvDs ρ2 ps).bind (g o)) ρ2 else .bad
theorem e_mr (pa : PlainAttrs T) (slot : Slot T name id) (hty : typeOf (.builtin id) = pure (.type "method_descriptor")) (hm : MtR X id r) (hr : OpMr X T r g) (ho : DE X Z o fo) (ha : DA X Z (e :: es) f)
    (hbase : attributeBase o name X.env (eval o X.env) = eval o X.env := by rfl)
    (hfew : ((backTo cpos (starEach (e :: es) X.env)).all (fun x => !x.1) && (backToKw cpos (keywordEach [] X.env)).all (fun x => x.1.isSome)
      && decide ((e :: es).length + ([] : List Keyword).length + (if ([] : List Keyword).isEmpty then 0 else 1) < 30)) = true := by rfl)
    (hline : (apos.endLine == cpos.line) = true := by rfl) (hs : starEach (e :: es) X.env = (false, eval e X.env) :: starEach es X.env := by rfl) (hplain : (backTo cpos (starEach es X.env)).any (·.1) = false := by rfl) :
    DE X Z (.Call (.Attribute o name apos) (e :: es) [] cpos) (cMr T g fo f) := by
  obtain ⟨_, p1, s1⟩ := ho
  obtain ⟨_, p2, s2⟩ := ha
  refine ⟨_, pe_bm pa slot hty hm p1 p2 hbase hfew hline hs hplain, ⟨fun {B as σ H ρ Q} R q => s1.go R (q.bind.imp fun p ρ1 H1 R1 g1 q1 v k1 => ?_)⟩⟩
  split at q1
  · rename_i hc
    simp only [Option.map_eq_some_iff] at hc
    obtain ⟨d0, e0, e1⟩ := hc
    refine ⟨isTy_ok (k1.peek R1 e0) e1, s2.go R1 (EO.bind q1 |>.imp fun ps ρ2 H2 R2 g2 q2 us k2 => ?_)⟩
    obtain ⟨d, e1, q⟩ := q2.ofO R2
    simp only [Option.bind_eq_some_iff] at e1
    obtain ⟨o, e2, ds, e3, e4⟩ := e1
    exact hr R2.domA ((k1.go g2).peek R2 e2) (PvsOk.peeks R2 k2 e3) e4 q
  · exact q1.elim
/-- xs.index(y), xs a list -/
def gIdxL : D → List D → Option D
  | .lst xs, ys => gIdx xs ys
  | _, _ => none
theorem o_idxL : OpMr X "list" (rIndex X.K) gIdxL := fun {W H x o vs ds d Q} dom ho h e q => by
  unfold gIdxL at e
  split at e
  · unfold gIdx at e
    split at e
    · simp only [Option.bind_eq_some_iff, Option.map_eq_some_iff] at e
      obtain ⟨y, f1, ys, f2, j, f3, rfl⟩ := e
      obtain ⟨u, rfl, hu⟩ := h.one
      obtain ⟨rfl, z1⟩ := hu.fl f1
      obtain ⟨a, vs', rfl, t1, t3⟩ := ho.lst
      obtain ⟨rfl, z2⟩ := t3.fl f2
      obtain ⟨z, hz, hzj, hno⟩ := ixV_ok f3
      exact ⟨a, _, _, j, z, rfl, rfl, .inl t1, z1, z2, hz, hzj, hno, q _ H (Same.refl _) (.int _)⟩
    · cases e
  · cases e
theorem e_idxL (ho : DE X Z o fo) (ha : DA X Z [e] f) (hbase : attributeBase o "index" X.env (eval o X.env) = eval o X.env := by rfl)
    (hfew : ((backTo cpos (starEach [e] X.env)).all (fun x => !x.1) && (backToKw cpos (keywordEach [] X.env)).all (fun x => x.1.isSome)
      && decide ([e].length + ([] : List Keyword).length + (if ([] : List Keyword).isEmpty then 0 else 1) < 30)) = true := by rfl)
    (hline : (apos.endLine == cpos.line) = true := by rfl) (hs : starEach [e] X.env = (false, eval e X.env) :: starEach [] X.env := by rfl) (hplain : (backTo cpos (starEach [] X.env)).any (·.1) = false := by rfl) :
    DE X Z (.Call (.Attribute o "index" apos) [e] [] cpos) (cMr "list" gIdxL fo f) := e_mr PySem.F.plainAttrs_list PySem.F.slot_list_index PySem.F.type_list_index mt_index o_idxL ho ha hbase hfew hline hs hplain
/-- a.join(xs) -/
def gJoin : D → List D → Option D
  | .str a, [.lst ds] => (asStrs ds).bind fun ys => if (ys.map (·.length)).sum + ys.length * a.length ≤ 16777216 then some (.str (Txt.join a ys)) else none
  | _, _ => none
theorem e_join (ho : DE X Z o fo) (ha : DA X Z [e] f) (hbase : attributeBase o "join" X.env (eval o X.env) = eval o X.env := by rfl)
    (hfew : ((backTo cpos (starEach [e] X.env)).all (fun x => !x.1) && (backToKw cpos (keywordEach [] X.env)).all (fun x => x.1.isSome)
      && decide ([e].length + ([] : List Keyword).length + (if ([] : List Keyword).isEmpty then 0 else 1) < 30)) = true := by rfl)
    (hline : (apos.endLine == cpos.line) = true := by rfl) (hs : starEach [e] X.env = (false, eval e X.env) :: starEach [] X.env := by rfl) (hplain : (backTo cpos (starEach [] X.env)).any (·.1) = false := by rfl) :
    DE X Z (.Call (.Attribute o "join" apos) [e] [] cpos) (cMr "str" gJoin fo f) := e_mr PySem.F.plainAttrs_str PySem.F.slot_str_join PySem.F.type_str_join mt_join (fun {W H x o vs ds d Q} dom ho h e q => by
  unfold gJoin at e
  split at e
  · simp only [Option.bind_eq_some_iff] at e
    obtain ⟨ns, e1, e2⟩ := e
    split at e2
    · rename_i hz
      cases e2
      obtain ⟨v, rfl, hv⟩ := h.one
      obtain ⟨a, vs, rfl, s1, r1⟩ := hv.lst
      rw [asStrs_some e1] at r1
      have := r1.strs
      subst this
      exact ⟨_, a, ns, ho.str_, rfl, .inl (.inl s1), hz, q _ H (Same.refl _) (.str _)⟩
    · cases e2
  · cases e) ho ha hbase hfew hline hs hplain
/-- str(i) -/
def gStr : List D → Option D
  | [.int i] => if i.natAbs.log2 < 1920 then some (.str (toString i : String)) else none
  | _ => none
theorem e_str (hm : X.mg "str" = none) (ha : DA X Z [a] f) (hg : Gl X "str" := by rfl) (he : starEach [a] X.env = (false, eval a X.env) :: starEach [] X.env := by rfl) (hpl : (backTo pos (starEach [] X.env)).any (·.1) = false := by rfl) :
    DE X Z (.Call (.Name "str" p1) [a] [] pos) (cN gStr f) :=
  e_ty call_str_int (fun {W H xs ds d Q} dom h e q => by
    unfold gStr at e
    split at e
    · split at e
      · rename_i hz
        cases e
        obtain ⟨v, rfl, hv⟩ := h.one
        exact ⟨_, by rw [hv.int_], hz, q _ H (Same.refl _) (.str _)⟩
      · cases e
    · cases e) hm (by decide +kernel) ha hg (by decide) (by decide) he hpl
end
end L3
namespace L3
open PySem PySem.Spec PyProof.Rows L2
section
variable {X : Cx} {Z : WXZ} {G : Pm} {W : Addr → Prop} {H : Hp} {a b o e e2 : Expr} {es : List Expr} {pos p1 apos cpos : Pos} {fa fb fo : En → Out Pv} {f : En → Out (List Pv)}
/-! ### is a key in a dict? -/
def gInD (neg : Bool) (y x : D) : Option D := match x with
  | .dic kvs => (keyD y).map fun k => .bl (if neg then !(dlook kvs k).isSome else (dlook kvs k).isSome)
  | _ => none
theorem dget_of {kvs : List (Key × V)} {kds : List (Key × D)} {k : Key} {y : V} {H : Hp} {a : Addr} (h : Rd H a (.dK kvs)) (ey : y = kV k) : DGet H a y (valV kvs k) := .inl ⟨kvs, k, h, ey, rfl⟩
theorem dlook_some {kvs : List (Key × V)} {kds : List (Key × D)} {k : Key} (h : kvs.map (·.1) = kds.map (·.1)) (c : Reps G W H (kvs.map (·.2)) (kds.map (·.2))) : (valV kvs k).isSome = (dlook kds k).isSome := by
  rcases dlook_ok (k := k) h c with ⟨h1, h2⟩ | ⟨d, v, h1, h2, _⟩
  · rw [h1, h2]; rfl
  · rw [h1, h2]; rfl
theorem det_inD {ta tb : TE} (neg : Bool) (ha : DEt X Z ta fa) (hb : DEt X Z tb fb) : DEt X Z (if neg then tDNotIn ta tb else tDIn ta tb) (c2 (gInD neg) fa fb) := by
  have key : ∀ (B : Bs) (as : List (Option Addr)) (σ : L2.St) (H : Hp) (ρ : En) (Q : VK), Rel X.G B as σ H ρ → EO X Z B as σ H (fun p _ H' => ∀ v, PvOk X.G (B.W as) as H' v p → Q v H') (c2 (gInD neg) fa fb ρ) →
      ta σ H fun y H1 => tb σ H1 fun x H2 => ∃ a o, x = .ref a ∧ DGet H2 a y o ∧ Q (.bl (if neg then !o.isSome else o.isSome)) H2 := by
    intro B as σ H ρ Q R q
    refine ha.go R (q.bind.imp fun p ρ1 H1 R1 g1 q1 v k1 => ?_)
    refine hb.go R1 (q1.bind.imp fun p' ρ2 H2 R2 g2 q2 u k2 => ?_)
    obtain ⟨d, e, q⟩ := q2.ofO R2
    cases ep : pvD ρ2 p with
    | none => rw [ep] at e; cases e
    | some a =>
      rw [ep] at e
      cases eq : pvD ρ2 p' with
      | none => rw [eq] at e; cases e
      | some b =>
        rw [eq] at e
        have h1 := (k1.go g2).peek R2 ep
        have h2 := k2.peek R2 eq
        replace e : gInD neg a b = some d := e
        unfold gInD at e
        cases b with
        | dic kds =>
          simp only [Option.map_eq_some_iff] at e
          obtain ⟨k, e1, rfl⟩ := e
          obtain ⟨aa, kvs, rfl, s1, hk, r1⟩ := h2.dic
          refine ⟨aa, _, rfl, dget_of (kds := kds) s1 (h1.key e1), ?_⟩
          rw [dlook_some hk r1]
          exact q _ H2 (Same.refl _) (.bl _)
        | _ => cases e
  cases neg
  · exact ⟨fun {B as σ H ρ Q} R q => key B as σ H ρ Q R q⟩
  · exact ⟨fun {B as σ H ρ Q} R q => key B as σ H ρ Q R q⟩
theorem e_inD (hu : X.A.units + 1 < cLine) (ha : DE X Z a fa) (hb : DE X Z b fb) (hm : behindInMarks .In b = false := by with_unfolding_all rfl) : DE X Z (.Compare a [.In] [b] pos) (c2 (gInD false) fa fb) :=
  let ⟨_, pa, sa⟩ := ha; let ⟨_, pb, sb⟩ := hb; ⟨_, pe_cmp (pc_din hu pa pb) hm, det_inD false sa sb⟩
theorem e_ninD (hu : X.A.units + 1 < cLine) (ha : DE X Z a fa) (hb : DE X Z b fb) (hm : behindInMarks .NotIn b = false := by with_unfolding_all rfl) : DE X Z (.Compare a [.NotIn] [b] pos) (c2 (gInD true) fa fb) :=
  let ⟨_, pa, sa⟩ := ha; let ⟨_, pb, sb⟩ := hb; ⟨_, pe_cmp (pc_dnotin hu pa pb) hm, det_inD true sa sb⟩
theorem t_inD (hu : X.A.units + 1 < cLine) (ha : DE X Z a fa) (hb : DE X Z b fb) (hm : behindInMarks .In b = false := by with_unfolding_all rfl) : DT X Z (.Compare a [.In] [b] pos) (cB (c2 (gInD false) fa fb)) :=
  let ⟨_, pa, sa⟩ := ha; let ⟨_, pb, sb⟩ := hb; ⟨_, pt_cmp (pc_din hu pa pb) hm, dtt_B (det_inD false sa sb)⟩
theorem t_ninD (hu : X.A.units + 1 < cLine) (ha : DE X Z a fa) (hb : DE X Z b fb) (hm : behindInMarks .NotIn b = false := by with_unfolding_all rfl) : DT X Z (.Compare a [.NotIn] [b] pos) (cB (c2 (gInD true) fa fb)) :=
  let ⟨_, pa, sa⟩ := ha; let ⟨_, pb, sb⟩ := hb; ⟨_, pt_cmp (pc_dnotin hu pa pb) hm, dtt_B (det_inD true sa sb)⟩
/-! ### d.get(k, x) -/
def gGet2 (x y z : D) : Option D := match x with
  | .dic kvs => if (flD z).isSome = true then (keyD y).map fun k => (dlook kvs k).getD z else none
  | _ => none
def isDic : D → Bool
  | .dic _ => true
  | _ => false
def cGet2 (fo fa fb : En → Out Pv) : En → Out Pv := fun ρ => (fo ρ).bind fun p ρ1 => if (pvD ρ1 p).map isDic = some true then
  (fa ρ1).bind fun py ρ2 => (fb ρ2).bind fun pz ρ3 => ofO ((pvD ρ3 p).bind fun x => (pvD ρ3 py).bind fun y => (pvD ρ3 pz).bind fun z => gGet2 x y z) ρ3 else .bad
theorem RepP.flat {x : V} {d : D} (r : RepP G W H x d) (h : (flD d).isSome = true) : Rep G W H x d := by
  cases d with
  | non => rw [r.non_]; exact .non
  | bl b => rw [r.bl_]; exact .bl _
  | int i => rw [r.int_]; exact .int _
  | str z => rw [r.str_]; exact .str _
  | _ => cases h
theorem e_get2 (hu : X.A.units + 1 < cLine) (ho : DE X Z o fo) (ha : DE X Z a fa) (hb : DE X Z b fb) (m : M2 X o "get" apos a b cpos := by exact ⟨rfl, rfl, rfl, rfl⟩) : DE X Z (.Call (.Attribute o "get" apos) [a, b] [] cpos) (cGet2 fo fa fb) := by
  obtain ⟨_, p1, s1⟩ := ho
  obtain ⟨_, p2, s2⟩ := ha
  obtain ⟨_, p3, s3⟩ := hb
  refine ⟨_, pe_dget2 hu p1 p2 p3 m, ⟨fun {B as σ H ρ Q} R q => s1.go R (q.bind.imp fun p ρ1 H1 R1 g1 q1 v k1 => ?_)⟩⟩
  split at q1
  · rename_i hc
    simp only [Option.map_eq_some_iff] at hc
    obtain ⟨x0, ep, ex0⟩ := hc
    cases x0 with
    | dic kds0 =>
      obtain ⟨aa, kvs0, rfl, s0, _, _⟩ := (k1.peek R1 ep).dic
      refine ⟨aa, rfl, .inl ⟨_, s0⟩, s2.go R1 (EO.bind q1 |>.imp fun py ρ2 H2 R2 g2 q2 y k2 => ?_)⟩
      refine s3.go R2 (EO.bind q2 |>.imp fun pz ρ3 H3 R3 g3 q3 zz k3 => ?_)
      obtain ⟨d, e, q⟩ := q3.ofO R3
      simp only [Option.bind_eq_some_iff] at e
      obtain ⟨x, e1, y', e2, z, e3, e4⟩ := e
      have h1 := ((k1.go g2).go g3).peek R3 e1
      have h2 := (k2.go g3).peek R3 e2
      have h3 := k3.peek R3 e3
      unfold gGet2 at e4
      cases x with
      | dic kds =>
        dsimp only at e4
        split at e4
        · rename_i hz
          simp only [Option.map_eq_some_iff] at e4
          obtain ⟨k, f1, rfl⟩ := e4
          obtain ⟨a2, kvs, ea, t1, hk, r1⟩ := h1.dic
          cases ea
          refine ⟨_, dget_of (kds := kds) t1 (h2.key f1), ?_⟩
          rcases dlook_ok (k := k) hk r1 with ⟨f2, f3⟩ | ⟨d2, v2, f2, f3, f4⟩
          · rw [f3]
            rw [f2] at q
            exact q _ H3 (Same.refl _) (h3.flat hz)
          · rw [f3]
            rw [f2] at q
            exact q _ H3 (Same.refl _) f4
        · cases e4
      | _ => cases e4
    | _ => cases ex0
  · exact q1.elim
/-! ### new dicts -/
def nDic0 : En → Out D := fun ρ => .ok (.dic []) ρ
theorem n_dic0 : DN X Z (.Dict [] [] pos) nDic0 := ⟨_, pe_dnewK, ⟨fun {B as σ H ρ Q} R q p hp => DNt.lay R hp hp True.intro (.dic (kvs := []) (kds := []) rfl .nil) q⟩⟩
def pairD : D → Option (Key × D)
  | .tup [k, d] => (keyD k).map fun k => (k, d)
  | _ => none
def pairDs : List D → Option (List (Key × D))
  | [] => some []
  | d :: r => (pairD d).bind fun p => (pairDs r).map (p :: ·)
def mergeD (kds more : List (Key × D)) : List (Key × D) := more.foldl (fun acc kv => dput acc kv.1 kv.2) kds
def gDict : List D → Option D
  | [.dic kvs] => some (.dic kvs)
  | [.tup ds] => (pairDs ds).bind fun ps => if ps.length ≤ sizeLine then some (.dic (mergeD [] ps)) else none
  | _ => none
theorem pairs2 {pins : List (Addr × Obj)} {σ : L2.St} {H : Hp} {s : Shared} (I : Inv X pins σ H s) : ∀ {ps : List Addr} {kvs : List (Key × V)}, Paired (fun p kv => SqT X.K H p [kV kv.1, kv.2]) ps kvs →
    ∃ (prs : List (Key × Value)) (us : List (Value × Value)), KV kvs prs ∧ us.length = ps.length ∧ prs.length = ps.length ∧ ∀ (j : Nat) (k v : Value), us[j]? = some (k, v) → ∃ (b : Addr) (key : Key), ps[j]? = some b ∧ IsTup s.heap b #[k, v] ∧ prs[j]? = some (key, v) ∧ keyIs key k = true
  | _, _, .nil => ⟨[], [], .nil, rfl, rfl, fun j k v e => by simp at e⟩
  | _, _, .cons (a := p) (b := kv) h t => by
    obtain ⟨prs, us, r, h1, h2, h3⟩ := pairs2 I t
    obtain ⟨its, rv, ht, _⟩ := I.tuple h
    obtain ⟨u, y, ei, ru, ry⟩ := vals2 rv
    subst ei
    refine ⟨(kv.1, y) :: prs, (u, y) :: us, .cons ⟨rfl, ry⟩ r, by simp [h1], by simp [h2], fun j k v e => ?_⟩
    cases j with
    | zero =>
      have e' : (u, y) = (k, v) := Option.some.inj e
      cases e'
      exact ⟨p, kv.1, rfl, ht, rfl, kV_is (P := X.prog) (w := X.w) ru⟩
    | succ j =>
      obtain ⟨b, key, e1, e2, e3, e4⟩ := h3 j k v (by simpa using e)
      exact ⟨b, key, by simpa using e1, e2, by simpa using e3, e4⟩
/-- dict(t), t a tuple of pairs -/
theorem call_dictT (hcalm : X.calm = true) : CallR X (.type "dict") (fun xs H Q => ∃ (a : Addr) (ps : List Addr) (kvs : List (Key × V)), xs = [.ref a] ∧ TupN X.K H a ∧ SqT X.K H a (ps.map V.ref) ∧ Paired (fun p kv => SqT X.K H p [kV kv.1, kv.2]) ps kvs ∧
    ∀ p, H p = none → Q (.ref p) (upd H p (.dK (mergeK [] kvs)))) := by
  intro pins s σ H xs us Q I r q
  obtain ⟨a, ps, kvs, ex, tn, hq, hp, q⟩ := q
  subst ex
  obtain ⟨u, eu, rx⟩ := vals1 r
  subst eu
  cases rx
  obtain ⟨its, rv, ht, hz⟩ := I.tuple hq
  have ei := refs_at rv
  subst ei
  rw [List.length_map] at hz
  obtain ⟨prs, us, rel, hl1, hl2, hpr⟩ := pairs2 I hp
  obtain ⟨o, ho, hc, n, hdat⟩ := id ht
  have hd : o.dict = none := by
    rcases tn with ⟨ob, vs, e, hd⟩ | ⟨ob, e, hc', hd⟩
    · obtain ⟨h1, _⟩ := I.hok a _ e
      rw [h1] at ho; cases ho
      exact hd
    · have := I.kIn _ _ e
      rw [this] at ho; cases ho
      exact hd
  refine _root_.PySem.call_dict_pairs (knd := mixKind X.prog X.w) (kvs := prs) (PairArg.tuple a (ps.map Value.ref).toArray (fun j => ps.getD j 0) us) (I.ok.hd hcalm) ⟨⟨o, n, ho, hc, hd, hdat⟩, by simp [hl1], fun j k v e => ?_⟩ ⟨by rw [hl2, hl1], fun i k v e => ?_⟩ (by rw [hl1]; exact hz) fun h' tk hd' k => ?_
  · obtain ⟨b, key, e1, e2, _, _⟩ := hpr j k v e
    have e5 : ps.getD j 0 = b := by rw [List.getD_eq_getElem?_getD, e1]; rfl
    refine ⟨by simp [e1, List.getD_eq_getElem?_getD], ?_⟩
    dsimp only
    rw [e5]
    exact .inl e2
  · obtain ⟨b, key, e1, e2, e3, e4⟩ := hpr i k v e
    exact ⟨key, e3, e4⟩
  · have hm : (s.heap.objs.size == sysModules) = false := beq_eq_false_iff_ne.mpr (Nat.ne_of_gt I.big)
    have hlen : (mergeK [] kvs).length ≤ sizeLine := by
      refine Nat.le_trans (length_mergeK kvs []) ?_
      rw [List.length_nil, Nat.zero_add, rel.length, hl2]
      exact hz
    exact ⟨.ref s.heap.objs.size, upd H s.heap.objs.size (.dK (mergeK [] kvs)), I.laid (t' := tk) (fun b o e => k b o (by simp) e) (Nat.le_refl _) (show ObjOk X.prog X.w _ _ _ (.dK (mergeK [] kvs)) from ⟨hlen, hm, merged [] prs, KV.merge rel .nil, hd'⟩), rfl, q _ (I.hok.fresh (Nat.le_refl _))⟩
theorem pairDs_ok {G : Pm} {W : Addr → Prop} {H : Hp} : ∀ {vs : List V} {ds : List D} {pds : List (Key × D)}, Reps G W H vs ds → pairDs ds = some pds → ∃ (ps : List Addr) (kvs : List (Key × V)), vs = ps.map V.ref ∧ Paired (fun p kv => SqT G.K H p [kV kv.1, kv.2]) ps kvs ∧
    kvs.map (·.1) = pds.map (·.1) ∧ Reps G W H (kvs.map (·.2)) (pds.map (·.2))
  | _, _, _, .nil, e => by cases e; exact ⟨[], [], rfl, .nil, rfl, .nil⟩
  | _, _, _, .cons (v := v) (d := d) h t, e => by
    simp only [pairDs, Option.bind_eq_some_iff, Option.map_eq_some_iff] at e
    obtain ⟨p, e1, r, e2, rfl⟩ := e
    obtain ⟨ps, kvs, rfl, h1, h2, h3⟩ := pairDs_ok t e2
    unfold pairD at e1
    split at e1
    · rename_i k d'
      simp only [Option.map_eq_some_iff] at e1
      obtain ⟨key, f1, rfl⟩ := e1
      obtain ⟨a, vs2, rfl, s1, r1⟩ := RepP.tup (.rep h)
      cases r1 with
      | cons c1 c2 =>
        cases c2 with
        | cons c2 c3 =>
          cases c3
          have ek := RepP.key (.rep c1) f1
          subst ek
          exact ⟨a :: ps, (key, _) :: kvs, rfl, .cons s1 h1, by simp [h2], .cons c2 h3⟩
    · cases e1
theorem merge_ok2 {G : Pm} {W : Addr → Prop} {H : Hp} {kvs : List (Key × V)} {pds : List (Key × D)} (h : kvs.map (·.1) = pds.map (·.1)) (c : Reps G W H (kvs.map (·.2)) (pds.map (·.2))) :
    (mergeK [] kvs).map (·.1) = (mergeD [] pds).map (·.1) ∧ Reps G W H ((mergeK [] kvs).map (·.2)) ((mergeD [] pds).map (·.2)) := merge_ok h c rfl .nil
theorem o_dict (hc : X.calm = true) : ∃ r, CallR X (.type "dict") r ∧ OpL X r gDict := ⟨_, call_dictD.or (call_dictT hc), fun {W H xs ds d Q} h e q => by
  unfold gDict at e
  split at e
  · cases e
    obtain ⟨v, rfl, hv⟩ := h.one
    obtain ⟨a, kvs, rfl, s1, hk, r1⟩ := hv.dic
    exact .inl ⟨a, kvs, rfl, s1, fun p hp => q p _ hp True.intro (.dic hk r1)⟩
  · simp only [Option.bind_eq_some_iff] at e
    obtain ⟨ps, e1, e2⟩ := e
    split at e2
    · cases e2
      obtain ⟨v, rfl, hv⟩ := h.one
      obtain ⟨a, vs, rfl, t1, t2, t3⟩ := Rep.tupN hv.tupR
      obtain ⟨qs, kvs, rfl, h1, h2, h3⟩ := pairDs_ok t3 e1
      obtain ⟨m1, m2⟩ := merge_ok2 h2 h3
      exact .inr ⟨a, qs, kvs, rfl, t1, t2, h1, fun p hp => q p _ hp True.intro (.dic m1 m2)⟩
    · cases e2
  · cases e⟩
theorem n_dict (hc : X.calm = true) (hm : X.mg "dict" = none) (ha : DA X Z [a] f) (hg : Gl X "dict" := by rfl) (he : starEach [a] X.env = (false, eval a X.env) :: starEach [] X.env := by rfl) (hpl : (backTo pos (starEach [] X.env)).any (·.1) = false := by rfl) : DN X Z (.Call (.Name "dict" p1) [a] [] pos) (nN gDict f) :=
  let ⟨_, h1, h2⟩ := o_dict hc
  n_ty h1 h2 hm (by decide +kernel) ha hg (by decide) (by decide) he hpl
/-! ### dicts of flat values are compared -/
def flK : List (Key × D) → Option (List (Key × V))
  | [] => some []
  | (k, d) :: r => (flD d).bind fun v => (flK r).map ((k, v) :: ·)
def eqKV (kb : List (Key × V)) : List (Key × V) → Bool
  | [] => true
  | (k, v) :: r => match valV kb k with
    | none => false
    | some y => eqV v y && eqKV kb r
theorem flK_ok {G : Pm} {W : Addr → Prop} {H : Hp} : ∀ {kvs : List (Key × V)} {kds : List (Key × D)} {fs : List (Key × V)}, kvs.map (·.1) = kds.map (·.1) → Reps G W H (kvs.map (·.2)) (kds.map (·.2)) → flK kds = some fs → kvs = fs ∧ ∀ p ∈ kvs, flatV p.2 = true
  | [], [], _, _, _, e => by cases e; exact ⟨rfl, fun p h => by simp at h⟩
  | [], _ :: _, _, h, _, _ => by simp at h
  | _ :: _, [], _, h, _, _ => by simp at h
  | (k, v) :: r, (k', d) :: t, fs, h, c, e => by
    simp only [List.map_cons, List.cons.injEq] at h
    simp only [List.map_cons] at c
    simp only [flK, Option.bind_eq_some_iff, Option.map_eq_some_iff] at e
    obtain ⟨y, e1, m, e2, rfl⟩ := e
    cases c with
    | cons c1 c2 =>
      obtain ⟨rfl, f1⟩ := RepP.fl (.rep c1) e1
      obtain ⟨rfl, f2⟩ := flK_ok h.2 c2 e2
      obtain ⟨rfl, _⟩ := h
      refine ⟨rfl, fun p hp => ?_⟩
      rcases List.mem_cons.mp hp with rfl | hp
      · exact f1
      · exact f2 p hp
theorem valV_mem {kvs : List (Key × V)} {k : Key} {v : V} (h : valV kvs k = some v) : ∃ p ∈ kvs, p.2 = v := by
  unfold valV at h
  simp only [Option.map_eq_some_iff] at h
  obtain ⟨p, h1, rfl⟩ := h
  exact ⟨p, List.mem_of_find?_eq_some h1, rfl⟩
theorem hits_ok {A : Around} {s : Shared} {kb : List (Key × V)} {vb : List (Key × Value)} (rb : KV kb vb) (fb : ∀ p ∈ kb, flatV p.2 = true) : ∀ {ka : List (Key × V)} {va : List (Key × Value)}, KV ka va → (∀ p ∈ ka, flatV p.2 = true) → PySem.W.KeqHits A s vb va (eqKV kb ka)
  | _, _, .nil, _ => .nil
  | _, _, .cons (a := p) (b := q) h t, f => by
    obtain ⟨k, v⟩ := p
    obtain ⟨k', u⟩ := q
    obtain ⟨h1, h2⟩ := h
    simp only at h1 h2
    subst h1
    have ih := hits_ok (A := A) (s := s) rb fb t fun p hp => f p (List.mem_cons_of_mem _ hp)
    rw [eqKV]
    cases e : valV kb k with
    | none => exact .miss (RelO.none_of (by rw [← e]; exact rb.val k))
    | some y =>
      obtain ⟨w', hw, rw'⟩ := RelO.some_of (v := y) (o := valueAt vb k) (by rw [← e]; exact rb.val k)
      obtain ⟨p2, hp2, ep⟩ := valV_mem e
      exact .hit hw (eqAt_V h2 rw' (f _ List.mem_cons_self) (by rw [← ep]; exact fb _ hp2)) ih
def rNeK : R2 := fun x y H Q => ∃ (a b : Addr) (ka kb : List (Key × V)), x = .ref a ∧ y = .ref b ∧ Rd H a (.dK ka) ∧ Rd H b (.dK kb) ∧ (∀ p ∈ ka, flatV p.2 = true) ∧ (∀ p ∈ kb, flatV p.2 = true) ∧ Q (.bl (!(ka.length == kb.length && eqKV kb ka))) H
theorem op_neK (hu : X.A.units < cLine) : OpR X (compareOp .NotEq) rNeK := by
  intro pins s σ H x y v u Q I rx ry h
  obtain ⟨a, b, ka, kb, rfl, rfl, h1, h2, f1, f2, q⟩ := h
  cases rx
  cases ry
  obtain ⟨z1, l1, va, r1, d1⟩ := dk_rd I.hok h1
  obtain ⟨z2, l2, vb, r2, d2⟩ := dk_rd I.hok h2
  refine PySem.W.keq_ne l1 l2 d1 d2 hu (fun _ => hits_ok r2 f2 r1 f1) ?_
  rw [← r1.length, ← r2.length]
  exact ⟨.bl _, H, I, rfl, q⟩
def gNeK (a b : D) : Option D := match a with
  | .dic p => match b with
    | .dic q => (flK p).bind fun x => (flK q).map fun y => .bl (!(x.length == y.length && eqKV y x))
    | _ => none
  | _ => none
theorem o_neK : Op2 X rNeK gNeK := fun {W H x y a b d Q} dom ha hb e q => by
  unfold gNeK at e
  cases a with
  | dic p =>
    cases b with
    | dic p2 =>
      simp only [Option.bind_eq_some_iff, Option.map_eq_some_iff] at e
      obtain ⟨m1, e1, m2, e2, rfl⟩ := e
      obtain ⟨a1, k1, rfl, s1, hk1, r1⟩ := ha.dic
      obtain ⟨a2, k2, rfl, s2, hk2, r2⟩ := hb.dic
      obtain ⟨rfl, f1⟩ := flK_ok hk1 r1 e1
      obtain ⟨rfl, f2⟩ := flK_ok hk2 r2 e2
      exact ⟨_, _, _, _, rfl, rfl, s1, s2, f1, f2, q _ H (Same.refl _) (.bl _)⟩
    | _ => cases e
  | _ => cases e
theorem e_neK (hu : X.A.units < cLine) (ha : DE X Z a fa) (hb : DE X Z b fb) (hm : behindInMarks .NotEq b = false := by with_unfolding_all rfl) : DE X Z (.Compare a [.NotEq] [b] pos) (c2 gNeK fa fb) := d_cmp (op_neK hu) o_neK ha hb hm
theorem t_neK (hu : X.A.units < cLine) (ha : DE X Z a fa) (hb : DE X Z b fb) (hm : behindInMarks .NotEq b = false := by with_unfolding_all rfl) : DT X Z (.Compare a [.NotEq] [b] pos) (cB (c2 gNeK fa fb)) := t_cmp (op_neK hu) o_neK ha hb hm
/-! ### reversed -/
theorem walks_rev {B : Bs} {as : List (Option Addr)} {a : Addr} {vs : List V} {ds : List D} (h : Rd H a (.lst vs)) (w : ¬ B.W as a) (r : Reps X.G (B.W as) H vs ds) : Walks X B as H (Itv X.K a vs.length) ds.reverse := by
  intro A H2 _ g
  have h2 : SqL X.K H2 a vs := .inl (Rd.stp h g.stp w).1
  have r2 := r.go g
  have hl := r2.length
  refine ⟨by show vs.length ≤ _; rw [List.length_reverse, hl]; exact Nat.le_refl _, fun i d e => ?_⟩
  have hi : i < ds.length := by simpa using lt_of_get e
  rw [List.getElem?_reverse hi] at e
  obtain ⟨v, e1, r3⟩ := r2.get e
  refine ⟨⟨by omega, vs, v, h2, by rw [hl]; exact e1⟩, fun x H3 y => ?_⟩
  obtain ⟨rfl, y⟩ := y
  have := y vs h2
  rw [hl, e1] at this; cases this
  exact ⟨Same.refl _, r3⟩
theorem walks_revT {B : Bs} {as : List (Option Addr)} {a : Addr} {vs : List V} {ds : List D} (h : SqT X.K H a vs) (w : (∃ o, H a = some o) → ¬ B.W as a) (r : Reps X.G (B.W as) H vs ds) (kk : (∃ o, Rd H a o ∧ ¬ B.W as a) ∨ ∀ H', SqT X.K H' a vs) : Walks X B as H (RT.ItvT X.K a vs.length) ds.reverse := by
  intro A H2 _ g
  have h2 : SqT X.K H2 a vs := by
    rcases kk with ⟨o, ho, hw⟩ | hk
    · rcases h with h | h
      · exact .inl (Rd.stp h g.stp hw).1
      · exact .inr h
    · exact hk H2
  have r2 := r.go g
  have hl := r2.length
  refine ⟨by show vs.length ≤ _; rw [List.length_reverse, hl]; exact Nat.le_refl _, fun i d e => ?_⟩
  have hi : i < ds.length := by simpa using lt_of_get e
  rw [List.getElem?_reverse hi] at e
  obtain ⟨v, e1, r3⟩ := r2.get e
  refine ⟨⟨by omega, vs, v, h2, by rw [hl]; exact e1⟩, fun x H3 y => ?_⟩
  obtain ⟨rfl, y⟩ := y
  have := y vs h2
  rw [hl, e1] at this; cases this
  exact ⟨Same.refl _, r3⟩
def iRv (f : En → Out Pv) : En → Out (List D) := fun ρ => (f ρ).bind fun p ρ1 => match p with
  | .v (.lst ds) => .ok ds.reverse ρ1
  | .v (.tup ds) => .ok ds.reverse ρ1
  | _ => .bad
theorem i_rev {tg : Expr} (h : DE X Z e fa) (hg : Gl X "reversed") (hm : X.mg "reversed" = none) (hs : starEach [e] X.env = (false, eval e X.env) :: starEach [] X.env := by rfl) : DI X Z tg (.Call (.Name "reversed" p1) [e] [] pos) (iRv fa) := by
  obtain ⟨_, p, s⟩ := h
  refine ⟨_, RT.pi_revA hg hm p hs, ⟨fun {B as σ H ρ R'} R q => s.go R (q.bind.imp fun p ρ1 H1 R1 g1 q1 v k1 => ?_)⟩⟩
  cases k1 with
  | @v v d k =>
    cases d with
    | lst ds =>
      cases k with
      | ref h w c =>
        cases c with
        | lst r => exact ⟨_, _, rfl, .inl ⟨.inl h, q1 H1 R1 .refl _ H1 (Same.refl _) (walks_rev h w r)⟩⟩
    | tup ds =>
      cases k with
      | ref h w c =>
        cases c with
        | tup r => exact ⟨_, _, rfl, .inr ⟨.inl h, q1 H1 R1 .refl _ H1 (Same.refl _) (walks_revT (.inl h) (fun _ => w) r (.inl ⟨_, h, w⟩))⟩⟩
      | @tupK a vs ds h r => exact ⟨_, _, rfl, .inr ⟨h.sq, q1 H1 R1 .refl _ H1 (Same.refl _) (fun A H2 _ g => by
          have r2 := r.go g
          have hl := r2.length
          have h2 : SqT X.K H2 a vs := h.sq
          refine ⟨by show vs.length ≤ _; rw [List.length_reverse, hl]; exact Nat.le_refl _, fun i d e => ?_⟩
          have hi : i < ds.length := by simpa using lt_of_get e
          rw [List.getElem?_reverse hi] at e
          obtain ⟨v, e1, r3⟩ := r2.get e
          refine ⟨⟨by omega, vs, v, h2, by rw [hl]; exact e1⟩, fun x H3 y => ?_⟩
          obtain ⟨rfl, y⟩ := y
          have := y vs h2
          rw [hl, e1] at this; cases this
          exact ⟨Same.refl _, r3⟩)⟩⟩
    | _ => exact q1.elim
  | b => exact q1.elim
end
end L3
namespace L3
open PySem PySem.Spec PyProof.Rows L2
/-! ### dict(zip(a list, a tuple)) -/
section
variable {prog : Program} {w : World} {A : Around} {E : Value → Shared → Prop} {s : Shared} {z TI TO T i1 i2 : Addr} {fp1 fp2 : List Addr} {n1 n2 i : Nat} {P1 P2 : Nat → Value → Prop} {St1 St2 : Nat → Heap → Prop} {f : Bool} {oT : Obj}
theorem zipG_item_held {Q : Value → Shared → Prop} (S : ZipSep2 z TI TO i1 i2 fp1 fp2) (D1 : Draws prog w A i1 fp1 n1 P1 St1) (D2 : Draws prog w A i2 fp2 n2 P2 St2)
    (hz : IsZipHeld s.heap z TI TO T f) (hT : s.heap.get? T = some oT) (hTI : IsPair s.heap TI (.ref i1) (.ref i2)) (st1 : St1 i s.heap) (st2 : St2 i s.heap) (hlt1 : i < n1) (hlt2 : i < n2)
    (hQ : ∀ x y h' tk, P1 i x → P2 i y → IsZipHeld h' z TI TO T true → St1 (i + 1) h' → St2 (i + 1) h' → IsPair h' s.heap.objs.size x y →
      (∀ c o, c ≠ z → c ≠ i1 → c ≠ i2 → s.heap.get? c = some o → h'.get? c = some o) → Q (.ref s.heap.objs.size) { s with heap := h', toks := tk }) :
    wpAny (model prog w) A (Builtin.«zip.__next__» ⟨[.ref z], []⟩) (fun fin s' => ∃ v, fin = .done (.ret v) ∧ Q v s') E s := by
  obtain ⟨hp, g, d, tk0, os⟩ := s
  show wpAny _ _ (field (.ref z) 2 >>= _) _ _ _
  refine wpAny_bind (wpAny_field hz rfl (x := .bool false) rfl ?_)
  show wpAny _ _ (field (.ref z) 3 >>= _) _ _ _
  refine wpAny_bind (wpAny_field hz rfl (x := .ref TI) rfl ?_)
  refine wpAny_bind (wpAny_seqItems hTI rfl ?_)
  show wpAny _ _ (Builtin.SmallTypes.ownedTupleIsFree (.ref z) >>= _) _ _ _
  refine wpAny_bind (wpAny_tupleHeld_zip hz hT fun h₁ hz₁ hs₁ => ?_)
  replace hs₁ : Heap.SameBut z hp h₁ := hs₁
  simp only [Bool.false_eq_true, if_false]
  refine wpAny_bind ?_
  rw [← Array.forIn_toList]
  simp only [List.forIn_cons, List.forIn_nil]
  refine wpAny_bind (wpAny_bind (wpAny_holding ?_))
  show wpAny _ _ (Builtin.SmallTypes.nextOf (.ref i1) >>= _) _ _ ⟨h₁, g, d, tk0, os⟩
  refine wpAny_bind (D1.item i _ _ _ hlt1 (D1.over st1 hs₁ S.zf1) fun x h₂ tk1 hx sn1 hs₂ => wpAny_pure ?_)
  replace hs₂ : Heap.SameBut i1 h₁ h₂ := hs₂
  refine wpAny_pure ?_
  refine wpAny_bind (wpAny_bind (wpAny_holding ?_))
  show wpAny _ _ (Builtin.SmallTypes.nextOf (.ref i2) >>= _) _ _ ⟨h₂, g, d, tk1, os⟩
  refine wpAny_bind (D2.item i _ _ _ hlt2 (D2.over (D2.over st2 hs₁ S.zf2) hs₂ S.sep1_2) fun y h₃ tk2 hy sn2 hs₃ => wpAny_pure ?_)
  replace hs₃ : Heap.SameBut i2 h₂ h₃ := hs₃
  refine wpAny_pure (wpAny_pure ?_)
  show wpAny _ _ (newTuple [x, y] >>= _) _ _ _
  refine wpAny_bind (wpAny_newTuple ?_)
  have hsz : h₃.objs.size = hp.objs.size := by rw [hs₃.1, hs₂.1, hs₁.1]
  have hz₃ : IsZipHeld h₃ z TI TO T true := hs₃.extBut _ _ S.zi2 (hs₂.extBut _ _ S.zi1 hz₁)
  have hk : ∀ c o, c ≠ z → c ≠ i1 → c ≠ i2 → hp.get? c = some o → h₃.get? c = some o := fun c o c1 c2 c3 e => hs₃.extBut _ _ c3 (hs₂.extBut _ _ c2 (hs₁.extBut _ _ c1 e))
  have j1 : St1 (i + 1) h₃ := D1.over sn1 hs₃ S.sep2_1
  refine wpAny_pure ⟨_, rfl, ?_⟩
  show Q (.ref h₃.objs.size) _
  have hp' : IsPair (h₃.push { cls := .type "tuple", data := .seq #[x, y] }) h₃.objs.size x y := Heap.get?_push_size _ rfl
  rw [hsz] at hp' ⊢
  have pk : ∀ {h : Heap} (o : Obj), ∀ b ∈ fp1 ++ fp2, ∀ o', h.get? b = some o' → (h.push o).get? b = some o' := fun o b _ o' e => Heap.get?_push_of_some _ e
  exact hQ x y _ tk2 hx hy (Heap.get?_push_of_some _ hz₃) (D1.frame _ _ _ j1 fun b _ o e => Heap.get?_push_of_some _ e) (D2.frame _ _ _ sn2 fun b _ o e => Heap.get?_push_of_some _ e) hp' fun c o c1 c2 c3 e => Heap.get?_push_of_some _ (hk c o c1 c2 c3 e)
theorem zipG_end_held {Q : Fin → Shared → Prop} (S : ZipSep2 z TI TO i1 i2 fp1 fp2) (D1 : Draws prog w A i1 fp1 n1 P1 St1) (D2 : Draws prog w A i2 fp2 n2 P2 St2)
    (hz : IsZipHeld s.heap z TI TO T f) (hT : s.heap.get? T = some oT) (hTI : IsPair s.heap TI (.ref i1) (.ref i2)) (st1 : St1 i s.heap) (st2 : St2 i s.heap) (hle1 : i ≤ n1) (hle2 : i ≤ n2) (hend : i = n1 ∨ i = n2)
    (hE : ∀ h' tk e, (∀ c o, c ≠ z → c ≠ i1 → c ≠ i2 → s.heap.get? c = some o → h'.get? c = some o) → (∃ o, h'.get? e = some o ∧ o.cls = .type "StopIteration") → E (.ref e) { s with heap := h', toks := tk }) :
    wpAny (model prog w) A (Builtin.«zip.__next__» ⟨[.ref z], []⟩) Q E s := by
  obtain ⟨hp, g, d, tk0, os⟩ := s
  show wpAny _ _ (field (.ref z) 2 >>= _) _ _ _
  refine wpAny_bind (wpAny_field hz rfl (x := .bool false) rfl ?_)
  show wpAny _ _ (field (.ref z) 3 >>= _) _ _ _
  refine wpAny_bind (wpAny_field hz rfl (x := .ref TI) rfl ?_)
  refine wpAny_bind (wpAny_seqItems hTI rfl ?_)
  show wpAny _ _ (Builtin.SmallTypes.ownedTupleIsFree (.ref z) >>= _) _ _ _
  refine wpAny_bind (wpAny_tupleHeld_zip hz hT fun h₁ hz₁ hs₁ => ?_)
  replace hs₁ : Heap.SameBut z hp h₁ := hs₁
  simp only [Bool.false_eq_true, if_false]
  refine wpAny_bind ?_
  rw [← Array.forIn_toList]
  simp only [List.forIn_cons, List.forIn_nil]
  refine wpAny_bind (wpAny_bind (wpAny_holding ?_))
  show wpAny _ _ (Builtin.SmallTypes.nextOf (.ref i1) >>= _) _ _ ⟨h₁, g, d, tk0, os⟩
  by_cases h1 : i = n1
  · subst h1
    refine wpAny_bind (D1.done ⟨h₁, g, d, tk0, os⟩ _ _ (D1.over st1 hs₁ S.zf1) fun h₂ e hs₂ he => ?_)
    replace hs₂ : Heap.ExtBut i1 h₁ h₂ := hs₂
    exact hE h₂ tk0 e (fun c o c1 c2 _ x => hs₂ _ _ c2 (hs₁.extBut _ _ c1 x)) he
  · have h2 : i = n2 := hend.resolve_left h1
    subst h2
    refine wpAny_bind (D1.item i _ _ _ (by omega) (D1.over st1 hs₁ S.zf1) fun x h₂ tk1 hx sn1 hs₂ => wpAny_pure ?_)
    replace hs₂ : Heap.SameBut i1 h₁ h₂ := hs₂
    refine wpAny_pure ?_
    refine wpAny_bind (wpAny_bind (wpAny_holding ?_))
    show wpAny _ _ (Builtin.SmallTypes.nextOf (.ref i2) >>= _) _ _ ⟨h₂, g, d, tk1, os⟩
    refine wpAny_bind (D2.done ⟨h₂, g, d, tk1, os⟩ _ _ (D2.over (D2.over st2 hs₁ S.zf2) hs₂ S.sep1_2) fun h₃ e hs₃ he => ?_)
    replace hs₃ : Heap.ExtBut i2 h₂ h₃ := hs₃
    exact hE h₃ tk1 e (fun c o c1 c2 c3 x => hs₃ _ _ c3 (hs₂.extBut _ _ c2 (hs₁.extBut _ _ c1 x))) he
theorem pyNext_zipG_item {Q : Option Value → Shared → Prop} (S : ZipSep2 z TI TO i1 i2 fp1 fp2) (D1 : Draws prog w A.in1 i1 fp1 n1 P1 St1) (D2 : Draws prog w A.in1 i2 fp2 n2 P2 St2)
    (hz : IsZipHeld s.heap z TI TO T f) (hT : s.heap.get? T = some oT) (hTI : IsPair s.heap TI (.ref i1) (.ref i2)) (st1 : St1 i s.heap) (st2 : St2 i s.heap) (hlt1 : i < n1) (hlt2 : i < n2)
    (hQ : ∀ x y h' tk, P1 i x → P2 i y → IsZipHeld h' z TI TO T true → St1 (i + 1) h' → St2 (i + 1) h' → IsPair h' s.heap.objs.size x y →
      (∀ c o, c ≠ z → c ≠ i1 → c ≠ i2 → s.heap.get? c = some o → h'.get? c = some o) → Q (some (.ref s.heap.objs.size)) { s with heap := h', toks := tk }) :
    wpAny (model prog w) A (pyNext (.ref z)) Q E s := by
  have hTy : s.TypeIs (.ref z) "zip" := ⟨_, hz, rfl⟩
  unfold pyNext
  exact wpAny_bind (wpAny_attempt (wpAny_callSpecial?_slot (name := Str.ofString "__next__") hTy PySem.F.slot_zip_next
    (wpAny_call_entry PySem.F.slot_zip_next hTy PySem.F.entry_zip_next
      (zipG_item_held S D1 D2 hz hT hTI st1 st2 hlt1 hlt2 fun x y h' tk b1 b2 b3 b4 b5 b6 b7 => wpAny_pure (hQ x y h' tk b1 b2 b3 b4 b5 b6 b7)) (PySem.F.args_zip_next_1 _))))
theorem pyNext_zipG_end {Q : Option Value → Shared → Prop} (S : ZipSep2 z TI TO i1 i2 fp1 fp2) (D1 : Draws prog w A.in1 i1 fp1 n1 P1 St1) (D2 : Draws prog w A.in1 i2 fp2 n2 P2 St2)
    (hz : IsZipHeld s.heap z TI TO T f) (hT : s.heap.get? T = some oT) (hTI : IsPair s.heap TI (.ref i1) (.ref i2)) (st1 : St1 i s.heap) (st2 : St2 i s.heap) (hle1 : i ≤ n1) (hle2 : i ≤ n2) (hend : i = n1 ∨ i = n2)
    (hQ : ∀ h' tk, (∀ c o, c ≠ z → c ≠ i1 → c ≠ i2 → s.heap.get? c = some o → h'.get? c = some o) → Q none { s with heap := h', toks := tk }) : wpAny (model prog w) A (pyNext (.ref z)) Q E s := by
  have hTy : s.TypeIs (.ref z) "zip" := ⟨_, hz, rfl⟩
  unfold pyNext
  refine wpAny_bind (wpAny_attempt (wpAny_callSpecial?_slot (name := Str.ofString "__next__") hTy PySem.F.slot_zip_next
    (wpAny_call_entry PySem.F.slot_zip_next hTy PySem.F.entry_zip_next (zipG_end_held S D1 D2 hz hT hTI st1 st2 hle1 hle2 hend fun h' tk e hk he => ?_) (PySem.F.args_zip_next_1 _))))
  obtain ⟨o, ho, hc⟩ := he
  refine wpAny_bind (wpAny_isInstance (T := "StopIteration") (b := true) ⟨o, ho, hc⟩ isSubtype_stop ?_)
  exact wpAny_pure (hQ _ _ hk)
end
theorem sep_of {z TI TO i1 i2 l1 l2 : Addr} (D : ZipApart z TI TO i1 i2 l1 l2) : ZipSep2 z TI TO i1 i2 [i1, l1] [i2, l2] where
  TIz := D.TIz
  TOz := D.TOz
  TITO := D.TITO
  TIi1 := D.TIi1
  mem1 := by simp
  zf1 := by
    simp only [List.mem_cons, List.not_mem_nil, or_false, not_or]
    exact ⟨D.i1z.symm, D.l1z.symm⟩
  Tf1 := by
    simp only [List.mem_cons, List.not_mem_nil, or_false, not_or]
    exact ⟨D.TOi1, D.l1TO.symm⟩
  TIi2 := D.TIi2
  mem2 := by simp
  zf2 := by
    simp only [List.mem_cons, List.not_mem_nil, or_false, not_or]
    exact ⟨D.i2z.symm, D.l2z.symm⟩
  Tf2 := by
    simp only [List.mem_cons, List.not_mem_nil, or_false, not_or]
    exact ⟨D.TOi2, D.l2TO.symm⟩
  sep1_2 := by
    simp only [List.mem_cons, List.not_mem_nil, or_false, not_or]
    exact ⟨D.i12, D.l2i1.symm⟩
  sep2_1 := by
    simp only [List.mem_cons, List.not_mem_nil, or_false, not_or]
    exact ⟨D.i12.symm, D.l1i2.symm⟩
theorem argZ {prog : Program} {w : World} (z TI TO i1 i2 l1 l2 : Addr) (D : ZipApart z TI TO i1 i2 l1 l2) (xs ys : Array Value) :
    PairArg prog w "zip" z [z, TI, TO, i1, i2, l1, l2] [z, TO, i1, i2] (min xs.size ys.size) (fun i k v => xs[i]? = some k ∧ ys[i]? = some v)
      (fun h => IsZip h z TI TO .none ∧ IsPair h TI (.ref i1) (.ref i2) ∧ (∃ a b, IsPair h TO a b) ∧ h.IsListIter i1 l1 0 ∧ h.IsTupleIter i2 l2 0 ∧ h.IsList l1 xs ∧ h.IsTuple l2 ys) where
  type := fun s ok => ⟨_, ok.1, rfl⟩
  notDict := by decide
  keep := fun h h' ok hk => by
    obtain ⟨hz, hTI, ⟨a, b, hTO⟩, h1, h2, hl1, hl2⟩ := ok
    exact ⟨hk _ _ hz, hk _ _ hTI, ⟨a, b, hk _ _ hTO⟩, h1.at fun o e => hk _ o e, h2.at fun o e => hk _ o e, hl1.at fun o e => hk _ o e, hl2.at fun o e => hk _ o e⟩
  there := fun h ok b hb => by
    obtain ⟨hz, hTI, ⟨a, c, hTO⟩, ⟨o1, h1, _⟩, ⟨o2, h2, _⟩, ⟨o3, hl1, _⟩, ⟨o4, hl2, _⟩⟩ := ok
    simp only [List.mem_cons, List.not_mem_nil, or_false] at hb
    rcases hb with rfl | rfl | rfl | rfl | rfl | rfl | rfl
    all_goals first | exact ⟨_, hz⟩ | exact ⟨_, hTI⟩ | exact ⟨_, hTO⟩ | exact ⟨_, h1⟩ | exact ⟨_, h2⟩ | exact ⟨_, hl1⟩ | exact ⟨_, hl2⟩
  sub := fun b hb => by simp at hb ⊢; rcases hb with rfl | rfl | rfl | rfl <;> simp
  noKeys := fun A s Q E hA ok h => getAttrOr_miss_zip ok.1 rfl rfl rfl zip_no_keys (by decide +kernel) hA h
  iter := fun A s d Q E hA ok hd hdf h => by
    obtain ⟨hz, hTI, ⟨a, b, hTO⟩, h1, h2, hl1, hl2⟩ := ok
    simp only [List.mem_cons, List.not_mem_nil, or_false, not_or] at hdf
    obtain ⟨dz, dTI, dTO, di1, di2, dl1, dl2⟩ := hdf
    have D1 : ∀ {A : Around}, A.handled = none → Draws prog w A i1 [i1, l1] xs.size (fun i v => xs[i]? = some v) (fun i h => h.IsListIter i1 l1 i ∧ h.IsList l1 xs) := fun hA => Draws.list hA i1 l1 D.l1i1 xs
    have D2 : ∀ {A : Around}, A.handled = none → Draws prog w A i2 [i2, l2] ys.size (fun i v => ys[i]? = some v) (fun i h => h.IsTupleIter i2 l2 i ∧ h.IsTuple l2 ys) := fun hA => Draws.tuple hA i2 l2 D.l2i2 ys
    have S := sep_of D
    refine wpAny_pyIter_zip hz (h z [z, TO, i1, i2] (fun i h => IsPair h TI (.ref i1) (.ref i2) ∧ (h.IsListIter i1 l1 i ∧ h.IsList l1 xs) ∧ (h.IsTupleIter i2 l2 i ∧ h.IsTuple l2 ys) ∧
      ((IsZip h z TI TO .none ∧ ∃ a b, IsPair h TO a b) ∨ ∃ T f oT, IsZipHeld h z TI TO T f ∧ h.get? T = some oT ∧ T ≠ z ∧ T ≠ i1 ∧ T ≠ i2 ∧ T ≠ d)) s.heap s.toks ?_
      ⟨hTI, ⟨h1, hl1⟩, ⟨h2, hl2⟩, .inl ⟨hz, a, b, hTO⟩⟩ (fun _ _ e => e) fun b hb => .inl hb)
    exact {
      off := fun hm => by
        simp only [List.mem_cons, List.not_mem_nil, or_false] at hm
        rcases hm with e | e | e | e
        · exact dz e
        · exact dTO e
        · exact di1 e
        · exact di2 e
      frame := fun i h₁ h₂ st hk => by
        obtain ⟨hTI, ⟨h1, hl1⟩, ⟨h2, hl2⟩, hz⟩ := st
        refine ⟨hk _ _ (Ne.symm dTI) hTI, ⟨h1.at fun o e => hk _ o (Ne.symm di1) e, hl1.at fun o e => hk _ o (Ne.symm dl1) e⟩, ⟨h2.at fun o e => hk _ o (Ne.symm di2) e, hl2.at fun o e => hk _ o (Ne.symm dl2) e⟩, ?_⟩
        rcases hz with ⟨hz, a, b, hTO⟩ | ⟨T, f, oT, hz, hT, r1, r2, r3, r4⟩
        · exact .inl ⟨hk _ _ (Ne.symm dz) hz, a, b, hk _ _ (Ne.symm dTO) hTO⟩
        · exact .inr ⟨T, f, oT, hk _ _ (Ne.symm dz) hz, hk _ _ r4 hT, r1, r2, r3, r4⟩
      item := fun i s₁ Q₁ E₁ hi st hds hQ => by
        obtain ⟨hTI, h1, h2, hz⟩ := st
        have hix : i < xs.size := Nat.lt_of_lt_of_le hi (Nat.min_le_left ..)
        have hiy : i < ys.size := Nat.lt_of_lt_of_le hi (Nat.min_le_right ..)
        have lt : ∀ {c o}, s₁.heap.get? c = some o → s₁.heap.objs.size ≠ c := fun e => Nat.ne_of_gt (Heap.lt_size e)
        have n1 : s₁.heap.objs.size ≠ i1 := let ⟨⟨_, e, _⟩, _⟩ := h1; lt e
        have n2 : s₁.heap.objs.size ≠ i2 := let ⟨⟨_, e, _⟩, _⟩ := h2; lt e
        rcases hz with ⟨hz, a, b, hTO⟩ | ⟨T, f, oT, hz, hT, r1, r2, r3, r4⟩
        · refine wpAny_pyNext_zipD2_item S (D1 (A := A.in1) hA) (D2 (A := A.in1) hA) hz hTI hTO h1 h2 hix hiy fun x1 x2 h' tk y1 y2 a1 a2 a3 a4 a5 a6 hk => ?_
          exact hQ s₁.heap.objs.size _ _ h' tk ⟨y1, y2⟩ (.inl ⟨_, a5, rfl, _, rfl⟩)
            ⟨hk _ _ D.TIz D.TITO D.TIi1 D.TIi2 hTI, a3, a4, .inr ⟨s₁.heap.objs.size, false, _, a1, a5, lt hz, n1, n2, Nat.ne_of_gt hds⟩⟩
            fun c o hc e => hk c o (fun x => hc (by simp [x])) (fun x => hc (by simp [x])) (fun x => hc (by simp [x])) (fun x => hc (by simp [x])) e
        · refine pyNext_zipG_item S (D1 (A := A.in1) hA) (D2 (A := A.in1) hA) hz hT hTI h1 h2 hix hiy fun x1 x2 h' tk y1 y2 a1 a3 a4 a5 hk => ?_
          exact hQ s₁.heap.objs.size _ _ h' tk ⟨y1, y2⟩ (.inl ⟨_, a5, rfl, _, rfl⟩)
            ⟨hk _ _ D.TIz D.TIi1 D.TIi2 hTI, a3, a4, .inr ⟨T, true, oT, a1, hk _ _ r1 r2 r3 hT, r1, r2, r3, r4⟩⟩
            fun c o hc e => hk c o (fun x => hc (by simp [x])) (fun x => hc (by simp [x])) (fun x => hc (by simp [x])) e
      done := fun s₁ Q₁ E₁ st hQ => by
        obtain ⟨hTI, h1, h2, hz⟩ := st
        have hend : min xs.size ys.size = xs.size ∨ min xs.size ys.size = ys.size := by omega
        rcases hz with ⟨hz, a, b, hTO⟩ | ⟨T, f, oT, hz, hT, r1, r2, r3, r4⟩
        · exact wpAny_pyNext_zipD2_end S (D1 (A := A.in1) hA) (D2 (A := A.in1) hA) hz hTI hTO h1 h2 (Nat.min_le_left ..) (Nat.min_le_right ..) hend fun h' tk hk => hQ h' tk fun c o hc e => hk c o (fun x => hc (by simp [x])) (fun x => hc (by simp [x])) (fun x => hc (by simp [x])) (fun x => hc (by simp [x])) e
        · exact pyNext_zipG_end S (D1 (A := A.in1) hA) (D2 (A := A.in1) hA) hz hT hTI h1 h2 (Nat.min_le_left ..) (Nat.min_le_right ..) hend fun h' tk hk => hQ h' tk fun c o hc e => hk c o (fun x => hc (by simp [x])) (fun x => hc (by simp [x])) (fun x => hc (by simp [x])) e }
abbrev zM1 (h : Heap) (l1 : Addr) : Heap := h.push { cls := .type "list_iterator", data := .fields #[.ref l1, .int 0 0] }
abbrev zM2 (h : Heap) (l1 l2 : Addr) : Heap := (zM1 h l1).push { cls := .type "tuple_iterator", data := .fields #[.ref l2, .int 0 0] }
abbrev zM3 (h : Heap) (l1 l2 : Addr) : Heap := (zM2 h l1 l2).push { cls := .type "tuple", data := .seq #[.ref h.objs.size, .ref (zM1 h l1).objs.size] }
abbrev zM4 (h : Heap) (l1 l2 : Addr) : Heap := (zM3 h l1 l2).push { cls := .type "tuple", data := .seq #[.none, .none] }
abbrev zM5 (h : Heap) (l1 l2 : Addr) : Heap := (zM4 h l1 l2).push { cls := .type "zip", data := .fields #[.none, .bool false, .bool false, .ref (zM2 h l1 l2).objs.size, .ref (zM3 h l1 l2).objs.size] }
theorem meets_zM (l1 l2 : Addr) (xs ys : Array Value) :
    Meets (Builtin.«zip.__new__» ⟨[.type "zip", .ref l1, .ref l2], []⟩) (fun _ R s => s.heap.IsList l1 xs ∧ s.heap.IsTuple l2 ys ∧
      R (.ok (.ret (.ref (zM4 s.heap l1 l2).objs.size))) { s with heap := zM5 s.heap l1 l2 }) :=
  .of_wp fun prog w A R s h => by
    obtain ⟨hp, g, d, tk, os⟩ := s; obtain ⟨hl1, hl2, h⟩ := h
    have hsub := sub_zip
    have hL1 : Heap.IsList (Shared.heap ⟨hp, g, d, tk, os⟩) l1 xs := hl1
    have hL2 : Heap.IsTuple (Shared.heap ⟨hp.push { cls := .type "list_iterator", data := .fields #[.ref l1, .int 0 0] }, g, d, tk, os⟩) l2 ys := Heap.IsTuple.push hl2 _
    wp_walk using wpAny_pyIter_list hL1, wpAny_pyIter_tuple hL2
    exact ⟨_, rfl, h⟩
theorem call_zM {prog : Program} {w : World} {A : Around} {E : Value → Shared → Prop} {s : Shared} {l1 l2 : Addr} {xs ys : Array Value} {Q : Value → Shared → Prop} (hl1 : s.heap.IsList l1 xs) (hl2 : s.heap.IsTuple l2 ys)
    (h : ∀ h', IsZip h' (s.heap.objs.size + 4) (s.heap.objs.size + 2) (s.heap.objs.size + 3) .none → IsPair h' (s.heap.objs.size + 2) (.ref s.heap.objs.size) (.ref (s.heap.objs.size + 1)) →
      IsPair h' (s.heap.objs.size + 3) .none .none → h'.IsListIter s.heap.objs.size l1 0 → h'.IsTupleIter (s.heap.objs.size + 1) l2 0 → h'.objs.size = s.heap.objs.size + 5 →
      (∀ c o, s.heap.get? c = some o → h'.get? c = some o) → Q (.ref (s.heap.objs.size + 4)) { s with heap := h' }) :
    wpAny (model prog w) A (call (.type "zip") [.ref l1, .ref l2]) Q E s := by
  refine callType_new PySem.F.called_zip (by decide) (PySem.F.typeCall_zip_2 _ _) (PySem.F.newCall_zip_2 _ _) (fun obj => PySem.F.args_object_init_3 obj _ _) PySem.F.entry_zip_new
    (meets_zM l1 l2 xs ys) ⟨hl1, hl2, ?_⟩
  have z1 : (zM1 s.heap l1).objs.size = s.heap.objs.size + 1 := Heap.size_push ..
  have z2 : (zM2 s.heap l1 l2).objs.size = s.heap.objs.size + 2 := by rw [Heap.size_push, z1]
  have z3 : (zM3 s.heap l1 l2).objs.size = s.heap.objs.size + 3 := by rw [Heap.size_push, z2]
  have z4 : (zM4 s.heap l1 l2).objs.size = s.heap.objs.size + 4 := by rw [Heap.size_push, z3]
  have z5 : (zM5 s.heap l1 l2).objs.size = s.heap.objs.size + 5 := by rw [Heap.size_push, z4]
  have g5 : (zM5 s.heap l1 l2).get? (zM4 s.heap l1 l2).objs.size = some _ := Heap.get?_push_size _ rfl
  have g4 : (zM5 s.heap l1 l2).get? (zM3 s.heap l1 l2).objs.size = some _ := Heap.get?_push_of_some _ (Heap.get?_push_size _ rfl)
  have g3 : (zM5 s.heap l1 l2).get? (zM2 s.heap l1 l2).objs.size = some _ := Heap.get?_push_of_some _ (Heap.get?_push_of_some _ (Heap.get?_push_size _ rfl))
  have g2 : (zM5 s.heap l1 l2).get? (zM1 s.heap l1).objs.size = some _ := Heap.get?_push_of_some _ (Heap.get?_push_of_some _ (Heap.get?_push_of_some _ (Heap.get?_push_size _ rfl)))
  have g1 : (zM5 s.heap l1 l2).get? s.heap.objs.size = some _ := Heap.get?_push_of_some _ (Heap.get?_push_of_some _ (Heap.get?_push_of_some _ (Heap.get?_push_of_some _ (Heap.get?_push_size _ rfl))))
  show _ ∧ _
  rw [z2, z3, z4] at g5
  rw [z1, z2] at g3
  rw [z3] at g4
  rw [z1] at g2
  rw [z4]
  exact ⟨⟨_, g5, rfl⟩, h _ g5 g3 g4 ⟨_, g1, rfl, rfl⟩ ⟨_, g2, rfl, rfl⟩ z5 fun c o x =>
    Heap.get?_push_of_some _ (Heap.get?_push_of_some _ (Heap.get?_push_of_some _ (Heap.get?_push_of_some _ (Heap.get?_push_of_some _ x))))⟩
def rDZ (K : PySem.W.Frag) : List V → Hp → VK → Prop := fun vs H Q => ∃ (a b : Addr) (xs : List Str) (ys : List V), vs = [.ref a, .ref b] ∧ SqL K H a (xs.map V.str) ∧ SqT K H b ys ∧ ∀ p, H p = none → Q (.ref p) (upd H p (.dK (mergeK [] ((xs.map Sum.inr).zip ys))))
section
variable {X : Cx} {Z : WXZ} {e e2 : Expr} {p p2 pos pos2 : Pos} {ta : TA} {f : En → Out (List Pv)}
theorem pe_dz (hc : X.calm = true) (hg : Gl X "dict") (hm : X.mg "dict" = none) (hg2 : Gl X "zip") (hm2 : X.mg "zip" = none) (ha : PA X [e, e2] ta)
    (hs : starEach [e, e2] X.env = (false, eval e X.env) :: starEach [e2] X.env := by rfl) (hpl : (backTo pos2 (starEach [e2] X.env)).any (·.1) = false := by rfl)
    (hs2 : starEach [.Call (.Name "zip" p2) [e, e2] [] pos2] X.env = (false, eval (.Call (.Name "zip" p2) [e, e2] [] pos2) X.env) :: starEach [] X.env := by rfl) :
    PE X (.Call (.Name "dict" p) [.Call (.Name "zip" p2) [e, e2] [] pos2] [] pos) (tCB (rDZ X.K) ta) := by
  refine ⟨fun pins s σ H Q I h => ?_⟩
  refine Call_ (ld_blt I hg hm (show bootBuiltins "dict" = some (.type "dict") by decide +kernel) (PyProof.Rows.callWith_type1 (args_cons (Call_ (ld_blt I hg2 hm2 PyProof.Rows.boot_zip (PyProof.Rows.callWith_type1 (thn (ha.run pos2 pins s σ H _ I h) fun us s1 ⟨vs, H1, I1, r1, q1⟩ => ?_) hs hpl))) hs2) hs2 rfl))
  obtain ⟨a, b, xs, ys, ex, hqx, hqy, q⟩ := q1
  subst ex
  cases r1 with
  | cons r rr =>
    cases rr with
    | cons r' rr =>
      cases rr
      cases r
      cases r'
      obtain ⟨its, rv, p1, z1⟩ := I1.list hqx
      obtain ⟨its2, rv2, p2, z2⟩ := I1.tuple hqy
      obtain ⟨o2, ho2, _⟩ := id p2
      refine call_zM p1.isList (show s1.heap.IsTuple b its2.toArray from p2) fun h' hz hTI hTO h1 h2 hsz hk => args_nil ?_
      have ap := PySem.W.ktu_apart s1.heap.objs.size a b p1.lt (Heap.lt_size ho2)
      have hl := rv.length
      have hl2 := rv2.length
      rw [List.length_map] at hl z1
      have kvr : ∀ (xs : List Str) (its : List Value) (ys : List V) (its2 : List Value), Vals (xs.map V.str) its → Vals ys its2 → KV ((xs.map Sum.inr : List Key).zip ys) ((xs.map Sum.inr : List Key).zip its2) := by
        intro xs
        induction xs with
        | nil => intro its ys its2 _ _; exact .nil
        | cons x r ih =>
          intro its ys its2 h1 h2
          cases h1 with
          | cons c1 c2 =>
            cases h2 with
            | nil => exact .nil
            | cons d1 d2 => exact .cons ⟨rfl, d1⟩ (ih _ _ _ c2 d2)
      refine _root_.PySem.call_dict_pairs (knd := mixKind X.prog X.w) (kvs := (xs.map Sum.inr : List Key).zip its2) (argZ _ _ _ _ _ _ _ ap its.toArray its2.toArray) (I1.ok.hd hc) ⟨hz, hTI, ⟨_, _, hTO⟩, h1, h2, p1.isList.at fun o e => hk _ o e, (show s1.heap.IsTuple b its2.toArray from p2).at fun o e => hk _ o e⟩ ⟨?_, fun i key v hkv => ?_⟩ ?_ fun h2' tk hd' k => ?_
      · rw [List.length_zip, List.length_map, List.size_toArray, List.size_toArray, hl]
      · obtain ⟨e1, e2⟩ := hkv
        have e1 : its[i]? = some key := by simpa using e1
        have e2 : its2[i]? = some v := by simpa using e2
        have hi : i < xs.length := by rw [hl]; exact (List.getElem?_eq_some_iff.mp e1).1
        obtain ⟨u, hu, ru⟩ := rv.get (i := i) (x := V.str xs[i]) (by rw [List.getElem?_map, List.getElem?_eq_getElem hi]; rfl)
        rw [e1] at hu
        cases hu
        refine ⟨.inr xs[i], ?_, kV_is (P := X.prog) (w := X.w) (k := .inr xs[i]) ru⟩
        rw [List.getElem?_zip_eq_some]
        exact ⟨by rw [List.getElem?_map, List.getElem?_eq_getElem hi]; rfl, e2⟩
      · rw [List.size_toArray, List.size_toArray]
        exact Nat.le_trans (Nat.min_le_left ..) (by rw [← hl]; exact z1)
      · have hb := I1.big
        have hm : (h'.objs.size == sysModules) = false := beq_eq_false_iff_ne.mpr (Nat.ne_of_gt (show sysModules < h'.objs.size by rw [hsz]; exact Nat.lt_of_lt_of_le hb (Nat.le_add_right _ _)))
        have rel := kvr xs its ys its2 rv rv2
        have hlen : (mergeK [] ((xs.map Sum.inr : List Key).zip ys)).length ≤ sizeLine := by
          refine Nat.le_trans (length_mergeK _ []) ?_
          rw [List.length_nil, Nat.zero_add, List.length_zip, List.length_map]
          exact Nat.le_trans (Nat.min_le_left ..) z1
        have keep : ∀ c o, s1.heap.get? c = some o → h2'.get? c = some o := fun c o ec => k c o (by
          have lc := Heap.lt_size ec
          simp only [List.mem_cons, List.not_mem_nil, or_false, not_or]
          exact ⟨Nat.ne_of_lt (Nat.lt_of_lt_of_le lc (Nat.le_add_right _ _)), Nat.ne_of_lt (Nat.lt_of_lt_of_le lc (Nat.le_add_right _ _)), Nat.ne_of_lt lc, Nat.ne_of_lt (Nat.lt_of_lt_of_le lc (Nat.le_add_right _ _))⟩) (hk c o ec)
        exact ⟨.ref h'.objs.size, upd H1 h'.objs.size (.dK (mergeK [] ((xs.map Sum.inr : List Key).zip ys))), I1.laid (t' := tk) keep (by omega) (show ObjOk X.prog X.w _ _ _ (.dK (mergeK [] ((xs.map Sum.inr : List Key).zip ys))) from ⟨hlen, hm, merged [] ((xs.map Sum.inr : List Key).zip its2), KV.merge rel .nil, hd'⟩), rfl, q _ (I1.hok.fresh (by omega))⟩
def gDZip : List D → Option D
  | [.lst ks, .tup ys] => (asStrs ks).map fun xs => .dic (mergeD [] ((xs.map Sum.inr : List Key).zip ys))
  | _ => none
theorem n_dzip (hc : X.calm = true) (hm : X.mg "dict" = none) (hm2 : X.mg "zip" = none) (ha : DA X Z [e, e2] f) (hg : Gl X "dict" := by rfl) (hg2 : Gl X "zip" := by rfl)
    (hs : starEach [e, e2] X.env = (false, eval e X.env) :: starEach [e2] X.env := by rfl) (hpl : (backTo pos2 (starEach [e2] X.env)).any (·.1) = false := by rfl)
    (hs2 : starEach [.Call (.Name "zip" p2) [e, e2] [] pos2] X.env = (false, eval (.Call (.Name "zip" p2) [e, e2] [] pos2) X.env) :: starEach [] X.env := by rfl) :
    DN X Z (.Call (.Name "dict" p) [.Call (.Name "zip" p2) [e, e2] [] pos2] [] pos) (nN gDZip f) := by
  obtain ⟨_, pa, sa⟩ := ha
  refine ⟨_, pe_dz hc hg hm hg2 hm2 pa hs hpl hs2, dnt_N (fun {W H xs ds d Q} h e q => ?_) sa⟩
  unfold gDZip at e
  split at e
  · simp only [Option.map_eq_some_iff] at e
    obtain ⟨ns, e1, rfl⟩ := e
    obtain ⟨v, v2, rfl, hv, hv2⟩ := h.two
    obtain ⟨a, vs, rfl, s1, r1⟩ := hv.lst
    obtain ⟨b, ys, rfl, s2, r2⟩ := hv2.tup
    rw [asStrs_some e1] at r1
    have := r1.strs
    subst this
    refine ⟨a, b, ns, ys, rfl, .inl s1, s2, fun p hp => q p _ hp True.intro ?_⟩
    have zz : ∀ (ns : List Key) (ys : List V) (es : List D), Reps X.G W H ys es → (ns.zip ys).map (·.1) = (ns.zip es).map (·.1) ∧ Reps X.G W H ((ns.zip ys).map (·.2)) ((ns.zip es).map (·.2)) := by
      intro ns
      induction ns with
      | nil => intro ys es _; exact ⟨rfl, .nil⟩
      | cons n r ih =>
        intro ys es h
        cases h with
        | nil => exact ⟨rfl, .nil⟩
        | cons c1 c2 =>
          obtain ⟨i1, i2⟩ := ih _ _ c2
          refine ⟨?_, .cons c1 i2⟩
          simp only [List.zip_cons_cons, List.map_cons, i1]
    obtain ⟨z1, z2⟩ := zz (ns.map Sum.inr) ys _ r2
    obtain ⟨m1, m2⟩ := merge_ok2 z1 z2
    exact .dic m1 m2
  · cases e
end
end L3
namespace L3
open PySem PySem.Spec PyProof.Rows L2
/-! ### what a caller knows of a class of errors -/
structure RzT (P : Program) (w : World) (K : PySem.W.Frag) (mg : Str → Option Value) (base : Heap) (k : Nat) (c : Str) (fs : List Str) : Prop where
  ex : ∃ C fI fd ps, ExT K mg c C fI fs ∧ FnOk P w K mg base CX0 k fI fd ps (spInit C fs) ∧ Binds K fd ps []
/-- what `except c` catches -/
structure TyT (K : PySem.W.Frag) (mg : Str → Option Value) (c : Str) (tbl : List (Str × Bool)) : Prop where
  ex : ∃ Cv, mg c = some Cv ∧ ∀ nm b, tbl.lookup nm = some b → ∃ v, mg nm = some v ∧ PySem.W.exmOne K v Cv = some b
/-- what isinstance(.., c2) tells -/
structure IsT (K : PySem.W.Frag) (mg : Str → Option Value) (c2 : Str) (tbl : List (Str × Bool)) : Prop where
  ex : ∃ C2 : Addr, mg c2 = some (.ref C2) ∧ ∀ nm b, tbl.lookup nm = some b → ∃ C, mg nm = some (.ref C) ∧ XfC K C ∧ IsC K C ∧ PySem.W.kitOne K (.ref C) (.ref C2) = some b
section
variable {X : Cx} {Z : WXZ}
theorem s_raiseR {k : Nat} {c : Str} {fs : List Str} {e : Expr} {es : List Expr} {f : En → Out (List Pv)} {p pos pos2 : Pos} (T : RzT X.prog X.w X.K X.mg X.base k c fs)
    (hr : RoomG (k + 1) X.A) (hcm : X.calm = true) (tk : Takes X Z) (ha : DA X Z (e :: es) f) (h5 : fs.length ≤ 900 := by decide)
    (hg : Gl X c := by rfl) (hdb : (c == ("__debug__" : Str)) = false := by decide) (he : starEach (e :: es) X.env = (false, eval e X.env) :: starEach es X.env := by rfl) (hpl : (backTo pos (starEach es X.env)).any (·.1) = false := by rfl) :
    DS X Z (.Raise (some (.Call (.Name c p) (e :: es) [] pos)) none pos2) (sRaise c fs f) := by
  obtain ⟨C, fI, fd, ps, T, F1, hb⟩ := T.ex
  exact s_raise T F1 hb hr hcm tk ha h5 hg hdb he hpl
theorem s_tryR {i : Nat} {n c : Str} {body suite : List Stmt} {b₀ : Stmt} {np pos pos' : Pos} {g : En → Out Fl} {tbl : List (Str × Bool)} {h : Ex → Option D} (T : TyT X.K X.mg c tbl) (hs : X.stack = X.env :: X.outer) (hf : X.env.frame = some X.env.locals) (hN : X.N.Nodup)
    (tk : Takes X Z)
    (hb : ∀ (W : WXZ) (pn : List (Addr × Obj)) (xe : Value → Shared → Prop), Takes (X.tr pn xe) W → PassesOwn (model X.prog X.w) X.A X.env xe → DSs (X.tr pn xe) W body g)
    (hsu : ∀ (a : Addr) (oe : Obj) (cls : Value) (d : Option Addr) (pn : List (Addr × Obj)), Zc cls d oe → (∃ vs, oe.data = .fields vs) → DSx X i a oe cls d pn (b₀ :: suite) h)
    (hi : X.N[i]? = some n := by rfl) (hln : X.env.kindOf n = some .local := by rfl) (hg : Gl X c := by rfl) (hdb : (c == ("__debug__" : Str)) = false := by decide) :
    DS X Z (.Try body [.ExceptHandler (some (.Name c np)) (some n) (b₀ :: suite) pos'] [] [] pos) (sTry g tbl i h) := by
  obtain ⟨Cv, hc, hT⟩ := T.ex
  exact s_try hs hf hN hc tk hT hb hsu hi hln hg hdb
variable {i : Nat} {a : Addr} {oe : Obj} {cls : Value} {d : Option Addr} {pn : List (Addr × Obj)}
theorem x_fldR {k : Nat} {c f n : Str} {fs : List Str} {np pos : Pos} (T : RzT X.prog X.w X.K X.mg X.base k c fs) (hf : f ∈ fs) (hz : Zc cls d oe) (hd : ∃ vs, oe.data = .fields vs)
    (hN : X.N[i]? = some n := by rfl) (hv : Vis X.env.scope n := by first | exact Or.inl rfl | exact Or.inr (Or.inl rfl) | exact Or.inr (Or.inr rfl)) (h1 : (n == ("__debug__" : Str)) = false := by decide)
    (h2 : (n == ("__classdict__" : Str)) = false := by decide) (hb : attributeBase (.Name n np) f X.env (eval (.Name n np) X.env) = eval (.Name n np) X.env := by rfl) :
    DX X i a oe cls d pn (.Attribute (.Name n np) f pos) (hF c f) := by
  obtain ⟨C, fI, fd, ps, T, F1, _⟩ := T.ex
  exact x_fld T hf hz hd hN hv h1 h2 hb
theorem x_isiR {c2 n : Str} {tbl : List (Str × Bool)} {np np2 p1 pos : Pos} (T : IsT X.K X.mg c2 tbl) (hz : Zc cls d oe) (hd : ∃ vs, oe.data = .fields vs) (hm : X.mg "isinstance" = none)
    (hN : X.N[i]? = some n := by rfl) (hv : Vis X.env.scope n := by first | exact Or.inl rfl | exact Or.inr (Or.inl rfl) | exact Or.inr (Or.inr rfl)) (q1 : (n == ("__debug__" : Str)) = false := by decide)
    (q2 : (n == ("__classdict__" : Str)) = false := by decide) (hg : Gl X "isinstance" := by rfl) (hg2 : Gl X c2 := by rfl) (q3 : (c2 == ("__debug__" : Str)) = false := by decide)
    (he : starEach [.Name n np, .Name c2 np2] X.env = (false, eval (.Name n np) X.env) :: starEach [.Name c2 np2] X.env := by rfl)
    (he2 : starEach [.Name c2 np2] X.env = (false, eval (.Name c2 np2) X.env) :: starEach [] X.env := by rfl) (hpl : (backTo pos (starEach [.Name c2 np2] X.env)).any (·.1) = false := by rfl)
    (htr : ∀ whole, isTrue (.Call (.Name "isinstance" p1) [.Name n np, .Name c2 np2] [] pos) X.env whole = (do let v ← whole; standAt (Expr.Call (.Name "isinstance" p1) [.Name n np, .Name c2 np2] [] pos).pos; holding [v] (truthy v)) := by intro _; rfl) :
    DXb X i a oe cls d pn (.Call (.Name "isinstance" p1) [.Name n np, .Name c2 np2] [] pos) (hI tbl) := by
  obtain ⟨C2, h2, hT⟩ := T.ex
  exact x_isi hz hd hm h2 ⟨C2, rfl⟩ hT hN hv q1 q2 hg hg2 q3 he he2 hpl htr
end
/-! ### the making of these -/
section
variable {P : Program} {w : World} {K : PySem.W.Frag} {mg : Str → Option Value} {base : Heap} {A B : Addr}
theorem exm_is {b : Bool} (h1 : PySem.W.subIn K (.ref B) (.type "BaseException") = some true) (h2 : PySem.W.isClsIn K B = true) (h3 : PySem.W.typeIn K (.ref B) = some (.type "type")) (h4 : PySem.W.subIn K (.ref A) (.ref B) = some b) :
    PySem.W.exmOne K (.ref A) (.ref B) = some b := by
  have e1 : (PySem.W.subIn K (.ref B) (.type "BaseException") == some true) = true := by rw [h1] <;> rfl
  have e2 : ((PySem.W.clsIn K B).isSome && PySem.W.typeIn K (.ref B) == some (.type "type")) = true := by
    have h2' : (PySem.W.clsIn K B).isSome = true := h2
    rw [h2', h3] <;> rfl
  show (if (PySem.W.subIn K (.ref B) (.type "BaseException") == some true) = true then (if ((PySem.W.clsIn K B).isSome && PySem.W.typeIn K (.ref B) == some (.type "type")) = true then PySem.W.subIn K (.ref A) (.ref B) else none) else none) = some b
  rw [if_pos e1, if_pos e2]
  exact h4
theorem kit_t (h2 : PySem.W.isClsIn K B = true) (h3 : PySem.W.typeIn K (.ref B) = some (.type "type")) (h4 : PySem.W.subIn K (.ref A) (.ref B) = some true) : PySem.W.kitOne K (.ref A) (.ref B) = some true := by
  have e2 : ((PySem.W.clsIn K B).isSome && PySem.W.typeIn K (.ref B) == some (.type "type")) = true := by
    have h2' : (PySem.W.clsIn K B).isSome = true := h2
    rw [h2', h3] <;> rfl
  show (if (Value.ref A == Value.ref B) = true then some true else (if ((PySem.W.clsIn K B).isSome && PySem.W.typeIn K (.ref B) == some (.type "type")) = true then PySem.W.subIn K (.ref A) (.ref B) else none)) = some true
  rw [if_pos e2, h4]
  split <;> rfl
theorem kit_f (h2 : PySem.W.isClsIn K B = true) (h3 : PySem.W.typeIn K (.ref B) = some (.type "type")) (h4 : PySem.W.subIn K (.ref A) (.ref B) = some false) (h5 : (Value.ref A == Value.ref B) = false) : PySem.W.kitOne K (.ref A) (.ref B) = some false := by
  have e2 : ((PySem.W.clsIn K B).isSome && PySem.W.typeIn K (.ref B) == some (.type "type")) = true := by
    have h2' : (PySem.W.clsIn K B).isSome = true := h2
    rw [h2', h3] <;> rfl
  show (if (Value.ref A == Value.ref B) = true then some true else (if ((PySem.W.clsIn K B).isSome && PySem.W.typeIn K (.ref B) == some (.type "type")) = true then PySem.W.subIn K (.ref A) (.ref B) else none)) = some false
  rw [if_pos e2, h4, h5]; rfl
theorem tbl1 {α : Type} {n : Str} {b : α} {Q : Str → α → Prop} (h : Q n b) : ∀ nm c, ([(n, b)] : List (Str × α)).lookup nm = some c → Q nm c := fun nm c e => by
  by_cases q : nm = n
  · subst q
    rw [List.lookup_cons_self] at e; cases e
    exact h
  · rw [List.lookup_cons, show (nm == n) = false from by simpa using q] at e
    cases e
end
/-- a statement of a class's body -/
def clsS : Stmt → Nat → Stmt
  | .ClassDef _ _ _ body _ _ _ _ _ _ _, i => body.getD i (.Pass ⟨0, 0, 0, 0⟩)
  | _, _ => .Pass ⟨0, 0, 0, 0⟩
/-- a def that nothing is said of -/
theorem fnG_bad {P : Program} {w : World} {K : PySem.W.Frag} {mg : Str → Option Value} {base : Heap} {cx : CXT} {k : Nat} {f : Addr} {fd : FuncData} {ps : List Str} {G : Pm} {np : Nat} (hp : np = ps.length) : FnG P w K mg base cx k f fd ps (spM false G np fun _ => .bad) :=
  ⟨fun vs H Q E h => by rw [h.1, hp], fun A outer s H args us vs Q E r e b v h => by
    obtain ⟨_, _, _, _, _, _, z⟩ := h
    exact z.elim⟩
theorem nox_bad : NoX (fun _ => .bad) := fun _ _ _ h => by cases h
end L3
namespace L3
open PySem PySem.Spec PyProof.Rows L2
section
variable {ρ : En} {T : String} {g : D → List D → Option D} {fo fa fb : En → Out Pv} {f : En → Out (List Pv)}
def cMr_k2 (g : D → List D → Option D) (p : Pv) (ps : List Pv) (ρ2 : En) : Out Pv := ofO ((pvD ρ2 p).bind fun o => (pvDs ρ2 ps).bind (g o)) ρ2
def cMr_k (T : String) (g : D → List D → Option D) (f : En → Out (List Pv)) (p : Pv) (ρ1 : En) : Out Pv := if (pvD ρ1 p).map (isTy T) = some true then (f ρ1).bind (cMr_k2 g p) else .bad
theorem cMr_e : cMr T g fo f ρ = (fo ρ).bind (cMr_k T g f) := rfl
theorem isTy_str {x : Str} : isTy "str" (.str x) = true := rfl
theorem isTy_lst {x : List D} : isTy "list" (.lst x) = true := rfl
def cGet2_k3 (p py pz : Pv) (ρ3 : En) : Out Pv := ofO ((pvD ρ3 p).bind fun x => (pvD ρ3 py).bind fun y => (pvD ρ3 pz).bind fun z => gGet2 x y z) ρ3
def cGet2_k2 (fb : En → Out Pv) (p py : Pv) (ρ2 : En) : Out Pv := (fb ρ2).bind (cGet2_k3 p py)
def cGet2_k (fa fb : En → Out Pv) (p : Pv) (ρ1 : En) : Out Pv := if (pvD ρ1 p).map isDic = some true then (fa ρ1).bind (cGet2_k2 fb p) else .bad
theorem cGet2_e : cGet2 fo fa fb ρ = (fo ρ).bind (cGet2_k fa fb) := rfl
theorem isDic_d {x : List (Key × D)} : isDic (.dic x) = true := rfl
def iRv_k (p : Pv) (ρ1 : En) : Out (List D) := match p with
  | .v (.lst ds) => .ok ds.reverse ρ1
  | .v (.tup ds) => .ok ds.reverse ρ1
  | _ => .bad
theorem iRv_e : iRv fo ρ = (fo ρ).bind iRv_k := rfl
theorem get2_d {kvs : List (Key × D)} {x : Str} {i : Int} : gGet2 (.dic kvs) (.str x) (.int i) = some ((dlook kvs (.inr x)).getD (.int i)) := rfl
theorem set_d {kvs : List (Key × D)} {x : Str} {d : D} (h : kvs.length < sizeLine) : setD (.dic kvs) (.str x) d = some (.dic (dput kvs (.inr x) d)) := by
  show (if kvs.length < sizeLine then _ else _) = _
  rw [if_pos h]
theorem get_d {kvs : List (Key × D)} {x : Str} : gGet (.dic kvs) (.str x) = dlook kvs (.inr x) := rfl
theorem in_d {neg : Bool} {kvs : List (Key × D)} {x : Str} : gInD neg (.str x) (.dic kvs) = some (.bl (if neg then !(dlook kvs (.inr x)).isSome else (dlook kvs (.inr x)).isSome)) := rfl
end
end L3
namespace L3
open PySem PySem.Spec PyProof.Rows L2
/-! ### list(reversed(x)) -/
section
variable {prog : Program} {w : World} {A : Around} {E : Value → Shared → Prop} {s : Shared}
theorem nolen_rt : typeLookup (.type "reversed") "__len__" = pure none := by rw [typeLookup_type, builtinLookup_eq_fast]; kernel_rfl
theorem slot_rt_hint : Slot "reversed" "__length_hint__" "reversed.__length_hint__" :=
  .of (owner := "reversed") (n := "__length_hint__") (by rw [typeLookup_type, builtinLookup_eq_fast]; kernel_rfl) (by decide +kernel) (by decide +kernel) (by decide +kernel)
    (by first | exact .inl (by decide +kernel) | exact .inr (by decide +kernel)) (by rw [isSubtype_type]; kernel_rfl)
theorem entry_rt_hint : entryFor table "reversed.__length_hint__" = some Builtin.«reversed.__length_hint__» := entryFor_of_tree (by kernel_rfl)
theorem args_rt_hint (a : Value) : argsOk "reversed.__length_hint__" ⟨[a], []⟩ := by
  unfold argsOk; rw [signature?_of (id := "reversed.__length_hint__") (n := ['_', '_', 't', 'n', 'i', 'h', '_', 'h', 't', 'g', 'n', 'e', 'l', '_', '_']) (o := ['d', 'e', 's', 'r', 'e', 'v', 'e', 'r']) (by kernel_rfl) RT.owner_rt]; kernel_rfl
theorem type_rt_hint : typeOf (.builtin "reversed.__length_hint__") = pure (.type "method_descriptor") := by kernel_rfl
theorem hint_lri {I l : Addr} {i : Int} {Q : Bool → Shared → Prop} (hit : s.heap.IsRevIter I l i) (h : Q false s) : wpAny (model prog w) A (Builtin.List.listLengthHint (.ref I)) Q E s := by
  have hT : s.TypeIs (.ref I) "list_reverseiterator" := Heap.IsRevIter.typeIs hit
  unfold Builtin.List.listLengthHint
  refine wpAny_bind (wpAny_specialOf hT RT.nolen_lri ?_)
  show wpAny _ A (specialOf (Value.ref I) (Str.ofString "__length_hint__") >>= _) _ _ _
  refine wpAny_bind (wpAny_specialOf hT RT.hint_lri ?_)
  generalize hid : ("list_reverseiterator.__length_hint__" : String) = id0
  wp_delta
  rw [show splitId id0 = some ("list_reverseiterator", "__length_hint__") from by subst hid; decide +kernel]
  subst hid
  refine wpAny_bind (wpAny_isInstance (b := true) hT (by rw [isSubtype_type]; kernel_rfl) ?_)
  exact wpAny_pure h
theorem hint_rt {I t : Addr} {items : Array Value} {Q : Bool → Shared → Prop} (hit : RT.IsRt s.heap I t ((items.size : Int) - 1)) (ht : IsTup s.heap t items) (hz : items.size ≤ sizeLine)
    (h : ∀ b k, Q b { s with toks := k }) : wpAny (model prog w) A (Builtin.List.listLengthHint (.ref I)) Q E s := by
  have hT : s.TypeIs (.ref I) "reversed" := hit.typeIs
  have hz0 := hz
  rw [sizeLine_eq] at hz0
  obtain ⟨o, ho, hc, hd⟩ := id hit
  unfold Builtin.List.listLengthHint
  refine wpAny_bind (wpAny_specialOf hT nolen_rt ?_)
  show wpAny _ A (specialOf (Value.ref I) (Str.ofString "__length_hint__") >>= _) _ _ _
  refine wpAny_bind (wpAny_specialOf hT slot_rt_hint.lookup ?_)
  generalize hid : ("reversed.__length_hint__" : String) = id0
  wp_delta
  rw [show splitId id0 = some ("reversed", "__length_hint__") from by subst hid; decide +kernel]
  subst hid
  refine wpAny_bind (wpAny_isInstance (b := true) hT (by rw [isSubtype_type]; kernel_rfl) ?_)
  show wpAny _ _ (rule "list.length-hint.hint" >>= _) _ _ _
  refine wpAny_bind (wpAny_rule ?_)
  refine wpAny_bind ?_
  unfold bindSpecial
  refine wpAny_bind (wpAny_of_eq type_rt_hint ?_)
  try dsimp only
  rw [if_pos (by decide)]
  refine wpAny_pure ?_
  try dsimp only
  refine wpAny_bind (wpAny_attempt (wpAny_call_entry slot_rt_hint hT entry_rt_hint ?_ (args_rt_hint _)))
  unfold Builtin.«reversed.__length_hint__»
  refine wpAny_bind (wpAny_of_eq (a := Value.ref I) rfl ?_)
  try dsimp only
  refine wpAny_bind (wpAny_field ho hd (x := .ref t) rfl ?_)
  try dsimp only
  rw [if_neg (fun z => by cases z)]
  refine wpAny_bind (len_tuple ht (by omega) ?_)
  refine wpAny_bind (wpAny_of_eq (a := some ((items.size : Nat) : Int)) rfl ?_)
  try dsimp only
  refine wpAny_bind (wpAny_field (s := { s with toks := s.toks + 1 + 1 }) ho hd (x := rawInt ((items.size : Int) - 1)) rfl ?_)
  try dsimp only
  unfold rawInt
  try dsimp only
  rw [if_neg (by omega)]
  show wpAny _ _ (mkInt ((items.size : Int) - 1 + 1) >>= fun v => ret v) _ _ _
  refine wpAny_bind (wpAny_mkInt ?_)
  refine wpAny_pure ?_
  refine ⟨_, rfl, ?_⟩
  refine wpAny_bind (wpAny_of_eq (a := some ((items.size : Int) - 1 + 1)) rfl ?_)
  try dsimp only
  have e : ((items.size : Int) - 1 + 1) = (items.size : Int) := by omega
  rw [e]
  rw [if_neg (by unfold Builtin.List.listFitsIndex; simp; omega), if_neg (by omega), if_neg (by unfold Builtin.List.listTooLong; simp; omega)]
  exact wpAny_pure (h _ _)
theorem walks_tupRev (hh : A.handled = none) (I t : Addr) (hne : t ≠ I) (items : Array Value) (hz : items.size ≤ sizeLine) :
    PySem.Walks prog w A I [I, t] [I] items.size (fun i v => items[items.size - 1 - i]? = some v) (fun i h => i ≤ items.size ∧ RT.IsRt h I t ((items.size : Int) - 1 - (i : Int)) ∧ IsTup h t items) where
  sub := fun b hb => by simp at hb; simp [hb]
  frame := fun _ _ _ x hk => ⟨x.1, x.2.1.at fun o e => hk I (by simp) o e, (let ⟨o, e, r⟩ := x.2.2; ⟨o, hk t (by simp) o e, r⟩)⟩
  item := fun i s Q E hi x hQ => by
    have e : (items.size : Int) - 1 - (i : Int) = ((items.size - 1 - i : Nat) : Int) := by omega
    have hit := x.2.1
    rw [e] at hit
    have hx : items[items.size - 1 - i]? = some (items[items.size - 1 - i]'(by omega)) := Array.getElem?_eq_getElem (by omega)
    refine RT.next_rt_item hit x.2.2 hx hz fun h' hit' hs' => ?_
    have e2 : ((items.size - 1 - i : Nat) : Int) - 1 = (items.size : Int) - 1 - ((i + 1 : Nat) : Int) := by omega
    rw [e2] at hit'
    exact hQ _ h' (s.toks + 1) hx ⟨hi, hit', (let ⟨o, eo, r⟩ := x.2.2; ⟨o, (hs'.2 t hne).trans eo, r⟩)⟩ fun b o hb eo => hs'.extBut b o (fun h => hb (by simp [h])) eo
  done := fun s Q E x hQ => by
    have e : (items.size : Int) - 1 - (items.size : Int) = -1 := by omega
    have hit := x.2.1
    rw [e] at hit
    exact RT.next_rt_end hh hit fun h' he' => hQ h' s.toks fun b o hb eo => he' b o (fun h => hb (by simp [h])) eo
  self := fun _ _ _ _ x hQ => RT.iter_rt x.2.1 hQ
/-- list(it), it an iterator -/
theorem list_self {Q : Value → Shared → Prop} {T : String} {I l : Addr} {n : Nat} {P : Nat → Value → Prop} {St : Nat → Heap → Prop} (W : PySem.Walks prog w A.in1.in1 I [I, l] [I] n P St) (hn : n ≤ sizeLine)
    (hT : ∀ s : Shared, St 0 s.heap → s.TypeIs (.ref I) T) (h2 : (Value.type T == Value.type "list") = false) (h3 : (Value.type T == Value.type "tuple") = false)
    (hint : ∀ (A : Around) (E : Value → Shared → Prop) (s : Shared) (Q : Bool → Shared → Prop), St 0 s.heap → (∀ b k, Q b { s with toks := k }) → wpAny (model prog w) A (Builtin.List.listLengthHint (.ref I)) Q E s)
    (hst : St 0 s.heap) (hI : I < s.heap.objs.size) (hl : l < s.heap.objs.size)
    (hQ : ∀ h' tk acc' c', (∀ b o, b ≠ I → s.heap.get? b = some o → h'.get? b = some o) → h'.get? s.heap.objs.size = some { cls := .type "list", dict := none, data := .seq acc' c', slots := #[] } → ItemsOf P acc' n → Q (.ref s.heap.objs.size) { s with heap := h', toks := tk }) :
    wpAny (model prog w) A (call (.type "list") [.ref I]) Q E s := by
  refine callType_codes (Q₁ := fun obj s₁ => obj = .ref s.heap.objs.size ∧ s₁ = { s with heap := s.heap.push { cls := .type "list", data := .seq #[] } }) PySem.F.called_list (PySem.F.typeCall_list_1 _) PySem.F.entry_list_init
    (code_list_new _ ⟨rfl, rfl⟩) fun obj s₁ h₁ => ?_
  obtain ⟨rfl, rfl⟩ := h₁
  have hS : (s.heap.push { cls := .type "list", data := .seq #[] }).get? s.heap.objs.size = some { cls := .type "list", data := .seq #[] } := Heap.get?_push_size _ rfl
  refine ⟨⟨_, hS, rfl⟩, PySem.F.args_list_init_2 _ _, ?_⟩
  generalize hSe : s.heap.objs.size = S at hS ⊢
  have hSI : S ≠ I := Nat.ne_of_gt (hSe ▸ hI)
  have hSl : S ≠ l := Nat.ne_of_gt (hSe ▸ hl)
  have hSf : S ∉ [I, l] := by simp only [List.mem_cons, List.not_mem_nil, or_false, not_or]; exact ⟨hSI, hSl⟩
  show wpAny _ _ (do let old ← Builtin.List.listItems (.ref S); Builtin.List.listUpdate (.ref S) (fun _ => #[]); letGo old.toList.reverse; Builtin.List.listExtendWith (.ref S) (.ref I) .none) _ _ _
  refine wpAny_bind ?_
  unfold Builtin.List.listItems
  refine wpAny_bind (wpAny_seqItems hS rfl (wpAny_pure ?_))
  show wpAny _ _ (updateSeq S (fun _ => #[]) >>= fun _ => letGo (#[] : Array Value).toList.reverse >>= fun _ => Builtin.List.listExtendWith (.ref S) (.ref I) .none) _ _ _
  refine wpAny_bind (wpAny_updateSeq hS rfl ?_)
  have hS₂ := Heap.get?_update_self (Obj.mapSeq (fun _ => (#[] : Array Value))) hS rfl
  have oth : ∀ b o, b ≠ S → s.heap.get? b = some o → ((s.heap.push { cls := .type "list", data := .seq #[] }).update S (Obj.mapSeq (fun _ => (#[] : Array Value)))).get? b = some o :=
    fun b o hb e => (Heap.get?_update_other _ _ (Ne.symm hb)).trans (Heap.get?_push_of_some _ e)
  refine wpAny_bind (wpAny_letGo ?_)
  have hst2 := W.frame 0 _ ((s.heap.push { cls := .type "list", data := .seq #[] }).update S (Obj.mapSeq (fun _ => (#[] : Array Value)))) hst fun b hb o e => oth b o (fun z => hSf (z ▸ hb)) e
  have key : ∀ (h : Heap) (c₁ tk : Nat), St 0 h → (∀ b o, b ≠ S → s.heap.get? b = some o → h.get? b = some o) →
      h.get? S = some { cls := .type "list", data := .seq #[] c₁ } → codeAny (model prog w) A.in1 (.builtin "list.extend.loop" ⟨[.ref S, .ref I, .none], []⟩)
        (fun r s' => match r with | .ok (.ret v) => v = .none ∧ Q (.ref S) s' | .ok _ => False | .error e => E e s') { s with heap := h, toks := tk } := by
    intro h c₁ tk hst hk hS₁
    refine codeAny_extend_loopS W.toS hn S hSf .none n 0 _ #[] c₁ rfl (Nat.zero_le _) hst hS₁ (ItemsOf.nil _) fun s' acc' c' hm hS' hacc => ?_
    rw [Moved.eq_with hm]
    refine ⟨rfl, ?_⟩
    have := hQ s'.heap s'.toks acc' c' (fun b o hb e => hm.heap b o (fun hmem => ?_) (hk b o (Nat.ne_of_lt (hSe ▸ Heap.lt_size e)) e)) (hSe ▸ hS') hacc
    · rw [hSe] at this; exact this
    · rcases List.mem_cons.mp hmem with e' | hmem
      · exact absurd (Heap.lt_size e) (by rw [e', ← hSe]; exact Nat.lt_irrefl _)
      · exact hb (List.mem_singleton.mp hmem)
  unfold Builtin.List.listExtendWith
  refine wpAny_bind (wpAny_typeOf (T := T) (hT _ hst2) ?_)
  have h1 : Builtin.List.listSameRef (.ref S) (.ref I) = false := by simp [Builtin.List.listSameRef, hSI]
  simp only [h1, h2, h3, Bool.or_false, Bool.false_eq_true, if_false]
  refine wpAny_bind (W.self 0 _ _ _ hst2 ?_)
  refine wpAny_bind (wpAny_holding (hint _ _ _ _ hst2 fun b k => ?_))
  have hS' := hS₂
  refine wpAny_ite_split (fun _ => ?_) (fun _ => wpAny_pure ⟨plainId_quiet PySem.F.plain_extend_loop _, key _ _ _ hst2 (fun b o hb e => oth b o hb e) hS₂⟩)
  refine wpAny_bind (wpAny_rule ?_)
  refine wpAny_bind ?_
  show wpAny _ _ (updateSeq S (·.push .none) >>= fun _ => updateSeq S (·.pop)) _ _ _
  refine wpAny_bind (wpAny_updateSeq hS₂ rfl ?_)
  have hS₃ := Heap.get?_update_self (Obj.mapSeq (·.push Value.none)) hS₂ rfl
  refine wpAny_updateSeq (hz := by seq_fits) hS₃ rfl ?_
  have hS₄ := Heap.get?_update_self (Obj.mapSeq (·.pop)) hS₃ rfl
  refine wpAny_pure ⟨plainId_quiet PySem.F.plain_extend_loop _, key _ _ _ ?_ (fun b o hb e => ?_) hS₄⟩
  · refine W.frame 0 _ _ hst2 fun b hb o e => ?_
    have hbS : b ≠ S := fun h => hSf (h ▸ hb)
    exact (Heap.get?_update_other _ _ (Ne.symm hbS)).trans ((Heap.get?_update_other _ _ (Ne.symm hbS)).trans e)
  · exact (Heap.get?_update_other _ _ (Ne.symm hb)).trans ((Heap.get?_update_other _ _ (Ne.symm hb)).trans (oth b o hb e))
end

/-- list(reversed(x)), x a list or a tuple: a new list -/
def tLstRev (K : PySem.W.Frag) (te : TE) : TE := fun σ H Q => te σ H fun v H1 => ∃ (a : Addr) (xs : List V), v = .ref a ∧ (SqL K H1 a xs ∨ SqT K H1 a xs) ∧ ∀ q, H1 q = none → Q (.ref q) (upd H1 q (.lst xs.reverse))
section
variable {X : Cx}
theorem pe_lstRev {e : Expr} {te : TE} {p p2 pos pos2 : Pos} (hc : X.calm = true) (hg : Gl X "list") (hm : X.mg "list" = none) (hg2 : Gl X "reversed") (hm2 : X.mg "reversed" = none) (he : PE X e te)
    (hs : starEach [e] X.env = (false, eval e X.env) :: starEach [] X.env := by rfl)
    (hs2 : starEach [.Call (.Name "reversed" p2) [e] [] pos2] X.env = (false, eval (.Call (.Name "reversed" p2) [e] [] pos2) X.env) :: starEach [] X.env := by rfl) :
    PE X (.Call (.Name "list" p) [.Call (.Name "reversed" p2) [e] [] pos2] [] pos) (tLstRev X.K te) := by
  refine ⟨fun pins s σ H Q I h => ?_⟩
  refine Call_ (ld_blt I hg hm boot_list (PyProof.Rows.callWith_type1 (args_cons (Call_ (ld_blt I hg2 hm2 PyProof.Rows.boot_reversed (PyProof.Rows.callWith_type1 (args_cons (thn (he.run pins s σ H _ I h) fun u s1 ⟨v, H1, I1, r1, q1⟩ => args_nil ?_) hs) hs rfl))) hs2) hs2 rfl))
  obtain ⟨a, xs, ev, hq, q⟩ := q1
  subst ev
  obtain rfl : u = Value.ref a := r1
  have hh := I1.ok.hd hc
  rcases hq with hq | hq
  · obtain ⟨its, rv, p', hz⟩ := I1.list hq
    refine call_reversed_list p'.isList (args_nil ?_)
    have k0 : ∀ b o, s1.heap.get? b = some o → (s1.heap.push (revObj a ((its.toArray.size : Int) - 1))).get? b = some o := fun b o e => Heap.get?_push_of_some _ e
    have I2 : Inv X pins σ H1 { s1 with heap := s1.heap.push (revObj a ((its.toArray.size : Int) - 1)) } := I1.kept (t' := s1.toks) k0
    have fp := I1.fpOk (H' := H1) (b := s1.heap.objs.size) (Nat.le_refl _) (I1.hok.fresh (Nat.le_refl _))
    have hl := p'.isList
    obtain ⟨ol, hol, _⟩ := id hl
    have hne : a ≠ s1.heap.objs.size := Nat.ne_of_lt (Heap.lt_size hol)
    have hn : its.toArray.size ≤ sizeLine := by rw [List.size_toArray, ← rv.length]; exact hz
    refine list_self (s := { s1 with heap := s1.heap.push (revObj a ((its.toArray.size : Int) - 1)) }) (Walks.listRev (A := X.A.in1.in1) (show X.A.in1.in1.handled = none from hh) s1.heap.objs.size a hne its.toArray) hn (T := "list_reverseiterator")
      (fun s x => Heap.IsRevIter.typeIs x.2.1) (by decide) (by decide) (fun A E s Q x q => hint_lri x.2.1 (q false s.toks)) ⟨Nat.zero_le _, ?_, hl.push _⟩ (by simp [Heap.push]) (Nat.lt_trans (Heap.lt_size hol) (by simp [Heap.push])) fun h' tk acc c' hk hS hi => ?_
    · have e1 : ((its.toArray.size : Nat) : Int) - 1 - ((0 : Nat) : Int) = (its.toArray.size : Int) - 1 := by omega
      rw [e1]
      exact ⟨_, Heap.get?_push_size _ rfl, rfl, rfl⟩
    · refine ⟨V.ref _, upd H1 _ (.lst xs.reverse), I2.turnedNew (t' := tk) (ch := [s1.heap.objs.size]) (fun b o hb e => hk b o (by simpa using hb) e) (fun b hb => by
        have : b = s1.heap.objs.size := by simpa using hb
        subst this; exact fp) (Nat.le_refl _) (show ObjOk X.prog X.w _ h' _ (.lst xs.reverse) from ⟨by rw [List.length_reverse]; exact hz, acc.toList, c', RT.vals_rev rv hi, by rw [Array.toArray_toList]; exact hS⟩), rfl, q _ (I2.hok.fresh (Nat.le_refl _))⟩
  · obtain ⟨its, rv, p', hz⟩ := I1.tuple hq
    have hn : its.toArray.size ≤ sizeLine := by rw [List.size_toArray, ← rv.length]; exact hz
    have hn2 := line63
    refine RT.call_reversed_tup p' (fun A E Q k => len_tuple p' (by omega) k) (args_nil ?_)
    have k0 : ∀ b o, s1.heap.get? b = some o → (s1.heap.push (RT.rtObj a ((its.toArray.size : Int) - 1))).get? b = some o := fun b o e => Heap.get?_push_of_some _ e
    have I2 : Inv X pins σ H1 { s1 with heap := s1.heap.push (RT.rtObj a ((its.toArray.size : Int) - 1)), toks := s1.toks + 1 + 1 } := I1.kept (t' := s1.toks + 1 + 1) k0
    have fp := I1.fpOk (H' := H1) (b := s1.heap.objs.size) (Nat.le_refl _) (I1.hok.fresh (Nat.le_refl _))
    obtain ⟨ol, hol, hol2⟩ := id p'
    have hne : a ≠ s1.heap.objs.size := Nat.ne_of_lt (Heap.lt_size hol)
    refine list_self (s := { s1 with heap := s1.heap.push (RT.rtObj a ((its.toArray.size : Int) - 1)), toks := s1.toks + 1 + 1 }) (walks_tupRev (A := X.A.in1.in1) (show X.A.in1.in1.handled = none from hh) s1.heap.objs.size a hne its.toArray hn) hn (T := "reversed")
      (fun s x => x.2.1.typeIs) (by decide) (by decide) (fun A E s Q x q => hint_rt (by
        have e1 : ((its.toArray.size : Nat) : Int) - 1 - ((0 : Nat) : Int) = (its.toArray.size : Int) - 1 := by omega
        rw [← e1]; exact x.2.1) x.2.2 hn q) ⟨Nat.zero_le _, ?_, ⟨ol, Heap.get?_push_of_some _ hol, hol2⟩⟩ (by simp [Heap.push]) (Nat.lt_trans (Heap.lt_size hol) (by simp [Heap.push])) fun h' tk acc c' hk hS hi => ?_
    · have e1 : ((its.toArray.size : Nat) : Int) - 1 - ((0 : Nat) : Int) = (its.toArray.size : Int) - 1 := by omega
      rw [e1]
      exact ⟨_, Heap.get?_push_size _ rfl, rfl, rfl⟩
    · refine ⟨V.ref _, upd H1 _ (.lst xs.reverse), I2.turnedNew (t' := tk) (ch := [s1.heap.objs.size]) (fun b o hb e => hk b o (by simpa using hb) e) (fun b hb => by
        have : b = s1.heap.objs.size := by simpa using hb
        subst this; exact fp) (Nat.le_refl _) (show ObjOk X.prog X.w _ h' _ (.lst xs.reverse) from ⟨by rw [List.length_reverse]; exact hz, acc.toList, c', RT.vals_rev rv hi, by rw [Array.toArray_toList]; exact hS⟩), rfl, q _ (I2.hok.fresh (Nat.le_refl _))⟩
end
end L3
namespace L3
open PySem PySem.Spec PyProof.Rows L2
section
variable {X : Cx} {Z : WXZ} {B : Bs} {as : List (Option Addr)} {σ : L2.St} {H H' H1 : Hp} {ρ ρ' : En} {e a b c : Expr} {fa fb fc f : En → Out Pv} {p p1 p2 pos pos2 : Pos} {x : Str}
/-! ### list(reversed(x)) -/
def nRevL (f : En → Out Pv) : En → Out D := fun ρ => (f ρ).bind fun p ρ1 => match pvD ρ1 p with
  | some (.lst ds) => .ok (.lst ds.reverse) ρ1
  | some (.tup ds) => .ok (.lst ds.reverse) ρ1
  | _ => .bad
theorem n_lrev (hc : X.calm = true) (hm : X.mg "list" = none) (hm2 : X.mg "reversed" = none) (h : DE X Z e f) (hg : Gl X "list" := by rfl) (hg2 : Gl X "reversed" := by rfl)
    (hs : starEach [e] X.env = (false, eval e X.env) :: starEach [] X.env := by rfl)
    (hs2 : starEach [.Call (.Name "reversed" p2) [e] [] pos2] X.env = (false, eval (.Call (.Name "reversed" p2) [e] [] pos2) X.env) :: starEach [] X.env := by rfl) :
    DN X Z (.Call (.Name "list" p) [.Call (.Name "reversed" p2) [e] [] pos2] [] pos) (nRevL f) := by
  obtain ⟨_, pe, s⟩ := h
  refine ⟨_, pe_lstRev hc hg hm hg2 hm2 pe hs hs2, ⟨fun {B as σ H ρ Q} R q => s.go R (q.bind.imp fun p ρ1 H1 R1 g1 q1 v k1 => ?_)⟩⟩
  cases ed : pvD ρ1 p with
  | none => rw [ed] at q1; exact q1.elim
  | some d =>
    rw [ed] at q1
    have kp := k1.peek R1 ed
    cases d with
    | lst ds =>
      obtain ⟨a, vs, rfl, h1, r⟩ := kp.lst
      exact ⟨a, vs, rfl, .inl (.inl h1), fun p hp => DNt.lay R1 hp (g1.grow p hp) True.intro (.lst r.reverse) q1⟩
    | tup ds =>
      obtain ⟨a, vs, rfl, h1, r⟩ := kp.tup
      exact ⟨a, vs, rfl, .inr h1, fun p hp => DNt.lay R1 hp (g1.grow p hp) True.intro (.lst r.reverse) q1⟩
    | _ => exact q1.elim
/-! ### the truth of a value -/
def truD : D → Option Bool
  | .lst ds => some (!ds.isEmpty)
  | .tup ds => some (!ds.isEmpty)
  | .int i => some (i != 0)
  | .bl b => some b
  | .non => some false
  | _ => none
def cTru (f : En → Out Pv) : En → Out Bool := fun ρ => (f ρ).bind fun p ρ1 => match (pvD ρ1 p).bind truD with
  | some b => .ok b ρ1
  | none => .bad
theorem isE {W : Addr → Prop} {vs : List V} {ds : List D} (r : Reps X.G W H vs ds) : (!ds.isEmpty) = !vs.isEmpty := by cases r <;> rfl
theorem t_tru (h : DE X Z e f) (he : ∀ whole, isTrue e X.env whole = (do let v ← whole; standAt e.pos; holding [v] (truthy v)) := by intro _; rfl) : DT X Z e (cTru f) := by
  obtain ⟨_, pe, s⟩ := h
  refine ⟨_, pt_truth pe he, ⟨fun {B as σ H ρ Q} R q => s.go R (q.bind.imp fun p ρ1 H1 R1 g1 q1 v k1 => ?_)⟩⟩
  cases ed : pvD ρ1 p with
  | none => rw [ed] at q1; exact q1.elim
  | some d =>
    rw [ed] at q1
    have kp := k1.peek R1 ed
    cases d with
    | lst ds =>
      obtain ⟨a, vs, rfl, h1, r⟩ := kp.lst
      exact ⟨_, .inl ⟨vs, .inl h1, isE r⟩, q1 H1 R1 .refl⟩
    | tup ds =>
      obtain ⟨a, vs, rfl, h1, r⟩ := kp.tup
      exact ⟨_, .inr (.inl ⟨vs, h1, isE r⟩), q1 H1 R1 .refl⟩
    | int i =>
      cases kp with
      | rep r =>
        rw [r.int_]
        exact ⟨_, rfl, q1 H1 R1 .refl⟩
      | own o => obtain ⟨u, e1, m, cc⟩ := o; cases cc
    | bl b =>
      cases kp with
      | rep r =>
        cases r with
        | bl => exact ⟨_, rfl, q1 H1 R1 .refl⟩
        | ref _ _ c => cases c
      | own o => obtain ⟨u, e1, m, cc⟩ := o; cases cc
    | non =>
      cases kp with
      | rep r =>
        cases r with
        | non => exact ⟨_, rfl, q1 H1 R1 .refl⟩
        | ref _ _ c => cases c
      | own o => obtain ⟨u, e1, m, cc⟩ := o; cases cc
    | _ => exact q1.elim
/-! ### constants of the module -/
/-- what a name of the module holds: data that lies written -/
structure CoT (K : PySem.W.Frag) (mg : Str → Option Value) (x : Str) (d : D) : Prop where
  ex : ∃ u v, mg x = some u ∧ RelV v u ∧ ∀ (W : Addr → Prop) (H : Hp), Rep ⟨K, mg⟩ W H v d
theorem d_glb {d : D} (T : CoT X.K X.mg x d) (hg : Gl X x := by rfl) (hd : (x == ("__debug__" : Str)) = false := by decide) : DE X Z (.Name x pos) (cK d) := by
  obtain ⟨u, v, hm, r, hr⟩ := T.ex
  exact ⟨_, pe_glob hg hm r hd, det_c hr⟩
theorem cot_int {K : PySem.W.Frag} {mg : Str → Option Value} {i : Int} {t : Tok} (h : mg x = some (.int i t)) : CoT K mg x (.int i) := ⟨⟨_, .int i, h, ⟨t, rfl⟩, fun _ _ => .int i⟩⟩
theorem cot_str {K : PySem.W.Frag} {mg : Str → Option Value} {s : Str} {t : Tok} (h : mg x = some (.str s t)) : CoT K mg x (.str s) := ⟨⟨_, .str s, h, ⟨t, rfl⟩, fun _ _ => .str s⟩⟩
theorem cot_tup {K : PySem.W.Frag} {mg : Str → Option Value} {ds : List D} {q : Addr} {vs : List V} (h : mg x = some (.ref q)) (hc : ConT K q vs) (hr : ∀ (W : Addr → Prop) (H : Hp), Reps ⟨K, mg⟩ W H vs ds) : CoT K mg x (.tup ds) :=
  ⟨⟨_, .ref q, h, rfl, fun W H => .tupK hc (hr W H)⟩⟩
theorem conT_of {K : PySem.W.Frag} {q : Addr} {its : Array Value} {n : Nat} {sl : Array (Option Value)} {vs : List V} (h : K.lookup q = some ⟨.type "tuple", none, .seq its n, sl⟩) (hs : Vals vs its.toList) (hz : its.size ≤ sizeLine) : ConT K q vs :=
  ⟨_, its, n, h, rfl, rfl, hz, hs, rfl⟩
/-! ### name.pop() -/
def gPop : D → List D → Option (D × D)
  | .lst xs, [] => (xs[xs.length - 1]?).map fun d => (d, .lst xs.dropLast)
  | _, _ => none
theorem o_pop : OpM X rPop gPop := fun {W H a o c vs ds d c' Q} h mu w k r e q => by
  unfold gPop at e
  split at e
  · simp only [Option.map_eq_some_iff] at e
    obtain ⟨d0, e1, e2⟩ := e
    cases e2
    cases k with
    | lst rk =>
      cases r
      obtain ⟨v, h1, h2⟩ := rk.get e1
      have hl := rk.length
      refine ⟨_, _, v, rfl, rfl, h, by rw [hl]; exact h1, q v _ True.intro (.lst ?_) h2⟩
      rw [List.dropLast_eq_take, List.dropLast_eq_take, hl]
      exact rk.take _
  · cases e
def cM0 (i : Nat) (g : D → List D → Option (D × D)) : En → Out Pv := cM i g aNil
theorem e_pop {i : Nat} {px apos cpos : Pos} (hN : X.N[i]? = some x := by rfl) (hv : Vis X.env.scope x := by first | exact Or.inl rfl | exact Or.inr (Or.inl rfl) | exact Or.inr (Or.inr rfl)) (hd : (x == ("__debug__" : Str)) = false := by decide) (hcd : (x == ("__classdict__" : Str)) = false := by decide)
    (hbase : attributeBase (.Name x px) "pop" X.env (eval (.Name x px) X.env) = eval (.Name x px) X.env := by rfl) (hline : (apos.endLine == cpos.line) = true := by rfl) :
    DE X Z (.Call (.Attribute (.Name x px) "pop" apos) [] [] cpos) (cM i gPop aNil) := by
  obtain ⟨t, p, s⟩ := a_nil (X := X) (Z := Z)
  refine ⟨_, pe_bm0 PySem.F.plainAttrs_list PySem.F.slot_list_pop PySem.F.type_list_pop mt_pop (pe_var hN hv hd hcd) hbase hline, ?_⟩
  have := det_M (i := i) (Z := Z) o_pop (t := tNil) (f := aNil) (X := X) ⟨fun {B as σ H ρ Q} R q => q H R .refl [] .nil⟩
  exact this
/-! ### for x in reversed(range(n)) -/
def iRvR (f : En → Out Pv) : En → Out (List D) := fun ρ => (f ρ).bind fun p ρ1 => match intP p with
  | some j => if inR j = true then .ok (rangeD 0 j).reverse ρ1 else .bad
  | none => .bad
theorem walks_revR (n : Nat) : Walks X B as H (Itc (((n : Nat) : Int) - 1) (-1) n) ((List.range n).map fun (i : Nat) => D.int (0 + (i : Int))).reverse := by
  intro A H2 _ g
  refine ⟨by show n ≤ _; simp, fun i d e => ?_⟩
  have hi : i < n := by simpa using lt_of_get e
  rw [List.getElem?_reverse (by simpa using hi), List.length_map, List.length_range, List.getElem?_map, List.getElem?_range (by omega)] at e
  cases e
  refine ⟨hi, fun x H3 ⟨e1, e2⟩ => ?_⟩
  subst e1 e2
  refine ⟨Same.refl _, ?_⟩
  have : (n : Int) - 1 + (i : Int) * -1 = 0 + ((n - 1 - i : Nat) : Int) := by omega
  rw [this]
  exact .int _
theorem i_revR {tg : Expr} (h : DE X Z a f) (hg : Gl X "reversed") (hm : X.mg "reversed" = none) (hg2 : Gl X "range") (hm2 : X.mg "range" = none) (na : starEach [a] X.env = (false, eval a X.env) :: starEach [] X.env := by rfl)
    (hs : starEach [.Call (.Name "range" p2) [a] [] pos2] X.env = (false, eval (.Call (.Name "range" p2) [a] [] pos2) X.env) :: starEach [] X.env := by rfl) :
    DI X Z tg (.Call (.Name "reversed" p1) [.Call (.Name "range" p2) [a] [] pos2] [] pos) (iRvR f) := by
  obtain ⟨_, p, s⟩ := h
  refine ⟨_, pi_revR hg hm (prg_1 hg2 hm2 p na) hs, ⟨fun {B as σ H ρ R'} R q => s.go R (q.bind.imp fun p ρ1 H1 R1 g1 q1 v k1 => ?_)⟩⟩
  cases e : intP p with
  | none => rw [e] at q1; exact q1.elim
  | some j =>
    rw [e] at q1
    dsimp only at q1
    split at q1
    · rename_i hj
      have hj := inR_b hj
      refine ⟨j, intP_ok k1 e, by decide, by decide, hj.1, hj.2, ?_⟩
      have := walks_revR (X := X) (B := B) (as := as) (H := H1) j.toNat
      unfold rangeD at q1
      rw [Int.sub_zero] at q1
      have e2 : (0 : Int) + ((((j - 0).toNat : Nat)) : Int) - 1 = ((j.toNat : Nat) : Int) - 1 := by simp
      rw [e2, Int.sub_zero]
      exact q1 H1 R1 .refl _ H1 (Same.refl _) this
    · exact q1.elim
end
end L3
namespace L3
open PySem PySem.Spec PyProof.Rows L2
/-! ### f(.., a new object, ..): the new object is lent, and dropped behind the call -/
section
variable {X : Cx} {Z : WXZ} {B : Bs} {as : List (Option Addr)} {σ : L2.St} {H H' H1 : Hp} {ρ ρ' : En} {a : Addr} {d : D}
theorem get_snoc {α : Type} {l : List α} {x y : α} {i : Nat} (h : (l ++ [x])[i]? = some y) : (i < l.length ∧ l[i]? = some y) ∨ (i = l.length ∧ y = x) := by
  by_cases hi : i < l.length
  · rw [List.getElem?_append_left hi] at h; exact .inl ⟨hi, h⟩
  · rw [List.getElem?_append_right (by omega)] at h
    have : i - l.length = 0 := by
      cases e : i - l.length with
      | zero => rfl
      | succ k => rw [e] at h; simp at h
    rw [this] at h
    simp at h
    exact .inr ⟨by omega, h.symm⟩
/-- a place more, behind the def's own -/
theorem Rel.grow (R : Rel X.G (B.and a) as σ H ρ) (n : B.He a = none) (nB : ¬ B.W0 a) (o : Own X.G ((B.and a).W as) H a d) :
    Rel X.G B (as ++ [some a]) (σ ++ [some (.ref a)]) H (ρ ++ [.own d]) := by
  have na : ¬ Ad as a := fun z => R.nw a z (.inr rfl)
  have mem : ∀ b, Ad (as ++ [some a]) b → Ad as b ∨ b = a := fun b z => by
    have z : some b ∈ as ++ [some a] := z
    rcases List.mem_append.mp z with z | z
    · exact .inl z
    · simp at z; exact .inr z
  have st : Stp ((B.and a).W as) H (B.W (as ++ [some a])) H := .less fun b z => by
    rcases z with z | z
    · exact .inl (.inl (.inl z))
    · rcases mem b z with z | z
      · exact .inl (.inr z)
      · exact .inl (.inl (.inr z))
  refine ⟨by simp [R.l1], by simp [R.l2], fun i v s b h1 h2 h3 => ?_, fun i d' h => ?_, fun i d' b h hb => ?_, fun i j b h1 h2 => ?_, fun b hb z => ?_, fun b z => R.dom b (.inl z), R.gr⟩
  · rcases get_snoc h2 with ⟨hi, h2⟩ | ⟨hi, e⟩
    · rw [List.getElem?_append_left (by rw [R.l1]; exact hi)] at h1
      rw [List.getElem?_append_left (by rw [R.l2]; exact hi)] at h3
      cases R.sl i v s b h1 h2 h3 with
      | un => exact .un _
      | val x => exact .val (x.stp st)
      | own x => exact .own (x.stp st rfl)
      | bor x => exact .bor (x.stp st rfl)
    · subst hi e
      rw [show ρ.length = σ.length from R.l1.symm, List.getElem?_append_right (Nat.le_refl _)] at h1
      rw [show ρ.length = as.length from R.l2.symm, List.getElem?_append_right (Nat.le_refl _)] at h3
      simp at h1 h3
      subst h1 h3
      exact .own (o.stp st rfl)
  · rcases get_snoc h with ⟨hi, h⟩ | ⟨hi, e⟩
    · rw [List.getElem?_append_left (by rw [R.l2]; exact hi)]
      exact R.pin i d' h
    · cases e
  · rcases get_snoc h with ⟨hi, h⟩ | ⟨hi, e⟩
    · rw [List.getElem?_append_left (by rw [R.l2]; exact hi)] at hb
      exact R.fr i d' b h hb
    · subst hi
      rw [show ρ.length = as.length from R.l2.symm, List.getElem?_append_right (Nat.le_refl _)] at hb
      simp at hb
      subst hb
      exact n
  · rcases get_snoc h1 with ⟨hi, h1⟩ | ⟨hi, e1⟩
    · rcases get_snoc h2 with ⟨hj, h2⟩ | ⟨hj, e2⟩
      · exact R.inj i j b h1 h2
      · cases e2; exact absurd (Ad.of h1) na
    · rcases get_snoc h2 with ⟨hj, h2⟩ | ⟨hj, e2⟩
      · cases e1; exact absurd (Ad.of h2) na
      · rw [hi, hj]
  · rcases mem b hb with hb | hb
    · exact R.nw b hb (.inl z)
    · subst hb; exact nB z
/-- it is dropped -/
theorem Rel.drop1 {s : Sl} {v : Option V} {b : Option Addr} (R : Rel X.G B (as ++ [b]) (σ ++ [v]) H (ρ ++ [s])) : Rel X.G B as σ H ρ := by
  have l1 : σ.length = ρ.length := by have := R.l1; simpa using this
  have l2 : as.length = ρ.length := by have := R.l2; simpa using this
  have mem : ∀ c, Ad as c → Ad (as ++ [b]) c := fun c z => List.mem_append.mpr (.inl z)
  have st : Stp (B.W (as ++ [b])) H (B.W as) H := .less fun c z => .inl (z.imp id (mem c))
  have ga : ∀ {i : Nat} {x : Option Addr}, as[i]? = some x → (as ++ [b])[i]? = some x := fun {i x} h => by rw [List.getElem?_append_left (lt_of_get h)]; exact h
  have gr : ∀ {i : Nat} {x : Sl}, ρ[i]? = some x → (ρ ++ [s])[i]? = some x := fun {i x} h => by rw [List.getElem?_append_left (lt_of_get h)]; exact h
  have gs : ∀ {i : Nat} {x : Option V}, σ[i]? = some x → (σ ++ [v])[i]? = some x := fun {i x} h => by rw [List.getElem?_append_left (lt_of_get h)]; exact h
  refine ⟨l1, l2, fun i v s b h1 h2 h3 => ?_, fun i d' h => ?_, fun i d' b h hb => R.fr i d' b (gr h) (ga hb), fun i j b h1 h2 => R.inj i j b (ga h1) (ga h2), fun b hb => R.nw b (mem b hb), R.dom, R.gr⟩
  · cases R.sl i v s b (gs h1) (gr h2) (ga h3) with
    | un => exact .un _
    | val x => exact .val (x.stp st)
    | own x => exact .own (x.stp st rfl)
    | bor x => exact .bor (x.stp st rfl)
  · have := R.pin i d' (gr h)
    rwa [List.getElem?_append_left (by rw [l2]; exact lt_of_get h)] at this
theorem PvsOk.imp {W W' : Addr → Prop} {as' : List (Option Addr)} {vs : List V} {ps : List Pv} (k : PvsOk X.G W as H vs ps) (h1 : ∀ v d, Rep X.G W H v d → Rep X.G W' H' v d) (h2 : ∀ (i : Nat) b, as[i]? = some (some b) → as'[i]? = some (some b)) : PvsOk X.G W' as' H' vs ps := by
  induction k with
  | nil => exact .nil
  | cons h t ih =>
    refine .cons ?_ ih
    cases h with
    | v h => exact .v (h1 _ _ h)
    | b h => exact .b (h2 _ _ h)
theorem PvsOk.append {W : Addr → Prop} {vs vs' : List V} {ps ps' : List Pv} (k : PvsOk X.G W as H vs ps) (k' : PvsOk X.G W as H vs' ps') : PvsOk X.G W as H (vs ++ vs') (ps ++ ps') := by
  induction k with
  | nil => exact k'
  | cons h t ih => exact .cons h ih
/-- arguments of which one is new -/
structure DAnt (X : Cx) (Z : WXZ) (t : TA) (f : En → Out (List Pv × D × List Pv)) : Prop where
  go : ∀ {B : Bs} {as : List (Option Addr)} {σ : L2.St} {H : Hp} {ρ : En} {Q : List V → Hp → Prop}, Rel X.G B as σ H ρ →
    EO X Z B as σ H (fun r ρ' H' => ∀ a vs vs' H2, Rel X.G (B.and a) as σ H2 ρ' → Go (Ad as) H' (Ad as) H2 → H a = none → Own X.G ((B.and a).W as) H2 a r.2.1 → PvsOk X.G ((B.and a).W as) as H2 vs r.1 → PvsOk X.G ((B.and a).W as) as H2 vs' r.2.2 → Q (vs ++ .ref a :: vs') H2) (f ρ) → t σ H Q
def DAn (X : Cx) (Z : WXZ) (es : List Expr) (f : En → Out (List Pv × D × List Pv)) : Prop := ∃ t, PA X es t ∧ DAnt X Z t f
variable {e : Expr} {es : List Expr}
def anNew (fd : En → Out D) (f : En → Out (List Pv)) : En → Out (List Pv × D × List Pv) := fun ρ => (fd ρ).bind fun d ρ1 => (f ρ1).bind fun ps ρ2 => .ok ([], d, ps) ρ2
def anCons (fe : En → Out Pv) (f : En → Out (List Pv × D × List Pv)) : En → Out (List Pv × D × List Pv) := fun ρ => (fe ρ).bind fun p ρ1 => (f ρ1).bind fun r ρ2 => .ok (p :: r.1, r.2) ρ2
theorem an_new {fd : En → Out D} {f : En → Out (List Pv)} (h : DN X Z e fd) (h2 : DA X Z es f) (hs : starEach (e :: es) X.env = (false, eval e X.env) :: starEach es X.env := by rfl) : DAn X Z (e :: es) (anNew fd f) := by
  obtain ⟨_, p, s⟩ := h
  obtain ⟨_, p2, s2⟩ := h2
  refine ⟨_, pa_cons p p2 hs, ⟨fun {B as σ H ρ Q} R q => s.go R (q.bind.imp fun d ρ1 H1 R1 g1 q1 a H2 R2 g2 n o => ?_)⟩⟩
  refine s2.go R2 (EO.and (q1.bind.after g2) fun ps ρ2 H3 R3 g3 q3 vs k => ?_)
  have na : ¬ Ad as a := fun z => R2.nw a z (.inr rfl)
  obtain ⟨u, hu⟩ := o.there
  exact q3 H3 R3.less .refl a [] vs H3 R3 .refl n (o.stp g3.stp ((g3.keep a u hu na).trans hu.symm)) .nil k
theorem an_cons {fe : En → Out Pv} {f : En → Out (List Pv × D × List Pv)} (h : DE X Z e fe) (h2 : DAn X Z es f) (hs : starEach (e :: es) X.env = (false, eval e X.env) :: starEach es X.env := by rfl) : DAn X Z (e :: es) (anCons fe f) := by
  obtain ⟨_, p, s⟩ := h
  obtain ⟨_, p2, s2⟩ := h2
  refine ⟨_, pa_cons p p2 hs, ⟨fun {B as σ H ρ Q} R q => s.go R (q.bind.imp fun p ρ1 H1 R1 g1 q1 v k1 => ?_)⟩⟩
  refine s2.go R1 (q1.bind.imp fun r ρ2 H2 R2 g2 q2 a vs vs' H3 R3 g3 n o k k' => ?_)
  have g13 : Go (Ad as) H1 (Ad as) H3 := g2.trans g3
  have st : Stp (B.W as) H1 ((B.and a).W as) H3 := fun b u e nb => ⟨(g13.stp (W0 := B.W0) b u e nb).1, fun z => by
    rcases z with (z | z) | z
    · exact nb (.inl z)
    · subst z; rw [n] at e; cases e
    · exact nb (.inr z)⟩
  refine q2 H2 R2 .refl a (v :: vs) vs' H3 R3 g3 (g1.grow a n) o (.cons ?_ k) k'
  cases k1 with
  | v x => exact .v (x.stp st)
  | b x => exact .b x
def cCallA (np : Nat) (m : Mf) (f : En → Out (List Pv × D × List Pv)) : En → Out Pv := fun ρ => (f ρ).bind fun r ρ1 => match callM np m (r.1 ++ .b ρ1.length :: r.2.2) (ρ1 ++ [.own r.2.1]) with
  | .ok rr ρ2 => .ok (.v rr.d) ρ2.dropLast
  | .exc e ρ2 => .exc e ρ2.dropLast
  | .bad => .bad
theorem callM_len {np : Nat} {m : Mf} {ps : List Pv} : (∀ {r : Rt} {ρ' : En}, callM np m ps ρ = .ok r ρ' → ρ'.length = ρ.length) ∧ (∀ {e : Ex} {ρ' : En}, callM np m ps ρ = .exc e ρ' → ρ'.length = ρ.length) := by
  constructor
  · intro r ρ' h
    unfold callM at h
    split at h
    · split at h
      · split at h
        · cases h; exact wbk_len _ _ _ _
        · cases h
        · cases h
      · cases h
    · cases h
  · intro r ρ' h
    unfold callM at h
    split at h
    · split at h
      · split at h
        · cases h
        · cases h; exact wbk_len _ _ _ _
        · cases h
      · cases h
    · cases h
theorem snoc_of {α : Type} {l : List α} {n : Nat} (h : l.length = n + 1) : ∃ x, l = l.dropLast ++ [x] := by
  have : l ≠ [] := fun z => by subst z; simp at h
  exact ⟨l.getLast this, (List.dropLast_concat_getLast this).symm⟩
theorem callA_v {x : Bool} {np : Nat} {m : Mf} {t : TA} {f : En → Out (List Pv × D × List Pv)} (s : DAnt X Z t f) {Q : VK} {E : XK} (R : Rel X.G B as σ H ρ)
    (q : EO X Z B as σ H (fun p _ H' => ∀ v, PvOk X.G (B.W as) as H' v p → Q v H') (cCallA np m f ρ)) (hE : x = true → ∀ cls dx H', Z cls dx σ H' → E cls dx H') (hx : x = false → NoX m) : t σ H fun vs H2 => spM x X.G np m vs H2 Q E := by
  refine s.go R ?_
  unfold cCallA at q
  cases e : f ρ with
  | bad => rw [e] at q; exact q.elim
  | exc y ρ1 => rw [e] at q; exact q
  | ok r ρ1 =>
    rw [e] at q
    intro H1 R1 g1 a vs vs' H2 R2 g2 n o k k'
    have nB : ¬ B.W0 a := fun z => by
      obtain ⟨o, e⟩ := R.dom a z
      rw [n] at e; cases e
    have na : ¬ Ad as a := fun z => R2.nw a z (.inr rfl)
    have R3 := R2.grow (R.gr a n) nB o
    have st : Stp ((B.and a).W as) H2 (B.W (as ++ [some a])) H2 := .less fun b z => by
      rcases z with z | z
      · exact .inl (.inl (.inl z))
      · have z : some b ∈ as ++ [some a] := z
        rcases List.mem_append.mp z with z | z
        · exact .inl (.inr z)
        · simp at z; subst z; exact .inl (.inl (.inr rfl))
    have ia : (as ++ [some a])[ρ1.length]? = some (some a) := by
      rw [show ρ1.length = as.length from R2.l2.symm, List.getElem?_append_right (Nat.le_refl _)]; simp
    have im : ∀ {vs : List V} {ps : List Pv}, PvsOk X.G ((B.and a).W as) as H2 vs ps → PvsOk X.G (B.W (as ++ [some a])) (as ++ [some a]) H2 vs ps := fun {vs ps} k =>
      k.imp (fun v d y => y.stp st) fun i b y => by rw [List.getElem?_append_left (lt_of_get y)]; exact y
    have k3 : PvsOk X.G (B.W (as ++ [some a])) (as ++ [some a]) H2 (vs ++ .ref a :: vs') (r.1 ++ .b ρ1.length :: r.2.2) := (im k).append (.cons (.b ia) (im k'))
    -- from the callee's heap back to the start
    have gg : ∀ {H' : Hp}, Go (Ad (as ++ [some a])) H2 (Ad (as ++ [some a])) H' → Go (Ad as) H (Ad as) H' := fun {H'} g3 => ⟨fun b u hb nb => (by
      have g12 := g1.trans g2
      refine g3.keep b u (g12.keep b u hb nb) fun z => ?_
      have z : some b ∈ as ++ [some a] := z
      rcases List.mem_append.mp z with z | z
      · exact nb z
      · (simp at z; subst z; rw [n] at hb; cases hb)), fun b z => .inl z, fun b z => (g1.trans g2).grow b (g3.grow b z)⟩
    have dr : ∀ {H' : Hp} {ρ2 : En}, ρ2.length = (ρ1 ++ [Sl.own r.2.1]).length → Rel X.G B (as ++ [some a]) (σ ++ [some (.ref a)]) H' ρ2 → Rel X.G B as σ H' ρ2.dropLast := fun {H' ρ2} hl R4 => by
      obtain ⟨y, ey⟩ := snoc_of (l := ρ2) (n := ρ1.length) (by rw [hl]; simp)
      rw [ey] at R4
      exact R4.drop1
    have stw : ∀ {H' : Hp}, Stp (B.W (as ++ [some a])) H' (B.W as) H' := fun {H'} => .less fun b z => .inl (z.imp id fun z => List.mem_append.mpr (.inl z))
    refine call_v (Z := fun cls dx _ H' => Z cls dx σ H') (x := x) R3 k3 ?_ hE hx
    have L := callM_len (np := np) (m := m) (ps := r.1 ++ .b ρ1.length :: r.2.2) (ρ := ρ1 ++ [.own r.2.1])
    simp only [Out.bind] at q
    cases ec : callM np m (r.1 ++ .b ρ1.length :: r.2.2) (ρ1 ++ [.own r.2.1]) with
    | bad => rw [ec] at q; exact q.elim
    | exc y ρ2 =>
      rw [ec] at q
      intro cls dx H' R4 g4 ⟨x1, x2⟩
      exact q cls dx H' (dr (L.2 ec) R4) (gg g4) ⟨x1, x2.imp id fun ⟨d, vfs, e1, e2, e3, r⟩ => ⟨d, vfs, e1, e2, e3, r.stp stw⟩⟩
    | ok rr ρ2 =>
      rw [ec] at q
      intro H' R4 g4 v kv
      refine q H' (dr (L.1 ec) R4) (gg g4) v ?_
      cases kv with
      | v y => exact .v (y.stp stw)
variable {k : Nat} {x : Str} {p pos : Pos} {m : Mf} {np : Nat} {fa : En → Out (List Pv × D × List Pv)}
theorem e_callA (F : Def0 X.prog X.w X.K X.mg X.base k x np m) (hr : RoomG k X.A) (ha : DAn X Z (e :: es) fa)
    (hg : Gl X x := by rfl) (hdb : (x == ("__debug__" : Str)) = false := by decide) (he : starEach (e :: es) X.env = (false, eval e X.env) :: starEach es X.env := by rfl) (hpl : (backTo pos (starEach es X.env)).any (·.1) = false := by rfl) :
    DE X Z (.Call (.Name x p) (e :: es) [] pos) (cCallA np m fa) := by
  obtain ⟨⟨f, fd, ps, G, hm, hk, hb⟩, hx⟩ := F
  obtain ⟨_, pa, s⟩ := ha
  exact ⟨_, pg_call (E := fun _ => E0) G hr hg hm hk hb (fun _ => pass0S) pa hdb he hpl, ⟨fun {B as σ H ρ Q} R q => callA_v (x := false) s R q (fun z => nomatch z) fun _ => hx⟩⟩
theorem e_call0 (F : Def0 X.prog X.w X.K X.mg X.base k x np m) (hr : RoomG k X.A) (hg : Gl X x := by rfl) (hdb : (x == ("__debug__" : Str)) = false := by decide) :
    DE X Z (.Call (.Name x p) [] [] pos) (cCall np m aNil) := by
  obtain ⟨⟨f, fd, ps, G, hm, hk, hb⟩, hx⟩ := F
  exact ⟨_, pg_call0 G hr hg hm hk hb (fun _ => pass0S) hdb, tCall0_v ⟨fun {B as σ H ρ Q} R q => q H R .refl [] .nil⟩ hx⟩
end
end L3
namespace L3
open PySem PySem.Spec PyProof.Rows L2
/-! ### x in xs, for data of any depth -/
def rInQ (K : PySem.W.Frag) (neg : Bool) : R2 := fun x y H Q => ∃ d ds, Dp K H x d ∧ (Dp K H y (.list ds) ∨ Dp K H y (.tuple ds)) ∧ d.canLay0 = true ∧ PyData.canLayAll0 ds = true ∧ d.depth ≤ 60 ∧ Q (.bl (if neg then !ds.any fun z => PyData.eqv z d else ds.any fun z => PyData.eqv z d)) H
section
variable {X : Cx} {Z : WXZ} {a b : Expr} {pos : Pos} {fa fb : En → Out Pv}
theorem op_inQ (hu : X.A.units + 64 < cLine) : OpR X (compareOp .In) (rInQ X.K false) := by
  intro pins s σ H x y v u Q I rx ry h
  obtain ⟨d, ds, hd, he, sd, se, sp, q⟩ := h
  obtain ⟨as, r1⟩ := Dp.reads I d x v hd rx
  have hr : X.A.units + 1 + min (PyData.depthAll ds) d.depth < cLine := by
    have := Nat.min_le_right (PyData.depthAll ds) d.depth
    omega
  rcases he with he | he
  · obtain ⟨bs, r2⟩ := Dp.reads I (.list ds) y u he ry
    exact SeqAt.in_list_reads r2 r1 se sd hr ⟨.bl _, H, I, rfl, q⟩
  · obtain ⟨bs, r2⟩ := Dp.reads I (.tuple ds) y u he ry
    exact SeqAt.in_tuple_reads r2 r1 se sd hr ⟨.bl _, H, I, rfl, q⟩
theorem op_notInQ (hu : X.A.units + 64 < cLine) : OpR X (compareOp .NotIn) (rInQ X.K true) := by
  intro pins s σ H x y v u Q I rx ry h
  obtain ⟨d, ds, hd, he, sd, se, sp, q⟩ := h
  obtain ⟨as, r1⟩ := Dp.reads I d x v hd rx
  have hr : X.A.units + 1 + min (PyData.depthAll ds) d.depth < cLine := by
    have := Nat.min_le_right (PyData.depthAll ds) d.depth
    omega
  rcases he with he | he
  · obtain ⟨bs, r2⟩ := Dp.reads I (.list ds) y u he ry
    exact SeqAt.notIn_list_reads r2 r1 se sd hr ⟨.bl _, H, I, rfl, q⟩
  · obtain ⟨bs, r2⟩ := Dp.reads I (.tuple ds) y u he ry
    exact SeqAt.notIn_tuple_reads r2 r1 se sd hr ⟨.bl _, H, I, rfl, q⟩
/-- is it among these -/
def amg (a : D) (ds : List D) : Bool := ds.any fun z => eqD z a
def gInX (neg : Bool) (a b : D) : Option D := match gIn neg a b with
  | some d => some d
  | none => match b with
    | .lst ds => if (pyOk 60 a && pyOk 60 (.lst ds)) = true then some (.bl (if neg then !amg a ds else amg a ds)) else none
    | .tup ds => if (pyOk 60 a && pyOk 60 (.tup ds)) = true then some (.bl (if neg then !amg a ds else amg a ds)) else none
    | _ => none
theorem any_py (a : D) : ∀ ds : List D, ((pyL ds).any fun z => PyData.eqv z (py a)) = amg a ds
  | [] => rfl
  | d :: r => by
    have := any_py a r
    simp only [pyL, List.any_cons, amg] at this ⊢
    rw [this]; rfl
theorem o_inX (hu : X.A.units + 64 < cLine) : ∃ r, OpR X (compareOp .In) r ∧ Op2 X r (gInX false) := ⟨_, op_in_seq.or (op_inQ hu), fun {W H x y a b d Q} dom ha hb e q => by
  unfold gInX at e
  split at e
  · rename_i d' e'
    cases e
    exact .inl (o_in false dom ha hb e' q)
  · split at e
    · split at e
      · rename_i ds _ h
        rw [Bool.and_eq_true] at h
        cases e
        obtain ⟨p1, p2⟩ := pyOk_lay a 60 h.1
        obtain ⟨p3, p4⟩ := pyOk_lay (.lst ds) 60 h.2
        refine .inr ⟨_, _, ha.dp h.1, .inl (hb.dp h.2), p1, p3, p2, ?_⟩
        rw [any_py]
        exact q _ H (Same.refl _) (.bl _)
      · cases e
    · split at e
      · rename_i ds _ h
        rw [Bool.and_eq_true] at h
        cases e
        obtain ⟨p1, p2⟩ := pyOk_lay a 60 h.1
        obtain ⟨p3, p4⟩ := pyOk_lay (.tup ds) 60 h.2
        refine .inr ⟨_, _, ha.dp h.1, .inr (hb.dp h.2), p1, p3, p2, ?_⟩
        rw [any_py]
        exact q _ H (Same.refl _) (.bl _)
      · cases e
    · cases e⟩
theorem o_ninX (hu : X.A.units + 64 < cLine) : ∃ r, OpR X (compareOp .NotIn) r ∧ Op2 X r (gInX true) := ⟨_, op_notIn_seq.or (op_notInQ hu), fun {W H x y a b d Q} dom ha hb e q => by
  unfold gInX at e
  split at e
  · rename_i d' e'
    cases e
    exact .inl (o_in true dom ha hb e' q)
  · split at e
    · split at e
      · rename_i ds _ h
        rw [Bool.and_eq_true] at h
        cases e
        obtain ⟨p1, p2⟩ := pyOk_lay a 60 h.1
        obtain ⟨p3, p4⟩ := pyOk_lay (.lst ds) 60 h.2
        refine .inr ⟨_, _, ha.dp h.1, .inl (hb.dp h.2), p1, p3, p2, ?_⟩
        rw [any_py]
        exact q _ H (Same.refl _) (.bl _)
      · cases e
    · split at e
      · rename_i ds _ h
        rw [Bool.and_eq_true] at h
        cases e
        obtain ⟨p1, p2⟩ := pyOk_lay a 60 h.1
        obtain ⟨p3, p4⟩ := pyOk_lay (.tup ds) 60 h.2
        refine .inr ⟨_, _, ha.dp h.1, .inr (hb.dp h.2), p1, p3, p2, ?_⟩
        rw [any_py]
        exact q _ H (Same.refl _) (.bl _)
      · cases e
    · cases e⟩
theorem e_inX {k : Nat} (hr : RoomG k X.A) (ha : DE X Z a fa) (hb : DE X Z b fb) (hm : behindInMarks .In b = false := by with_unfolding_all rfl) : DE X Z (.Compare a [.In] [b] pos) (c2 (gInX false) fa fb) := let ⟨_, o, r⟩ := o_inX hr.room.units; d_cmp o r ha hb hm
theorem e_ninX {k : Nat} (hr : RoomG k X.A) (ha : DE X Z a fa) (hb : DE X Z b fb) (hm : behindInMarks .NotIn b = false := by with_unfolding_all rfl) : DE X Z (.Compare a [.NotIn] [b] pos) (c2 (gInX true) fa fb) := let ⟨_, o, r⟩ := o_ninX hr.room.units; d_cmp o r ha hb hm
theorem t_inX {k : Nat} (hr : RoomG k X.A) (ha : DE X Z a fa) (hb : DE X Z b fb) (hm : behindInMarks .In b = false := by with_unfolding_all rfl) : DT X Z (.Compare a [.In] [b] pos) (cB (c2 (gInX false) fa fb)) := let ⟨_, o, r⟩ := o_inX hr.room.units; t_cmp o r ha hb hm
theorem t_ninX {k : Nat} (hr : RoomG k X.A) (ha : DE X Z a fa) (hb : DE X Z b fb) (hm : behindInMarks .NotIn b = false := by with_unfolding_all rfl) : DT X Z (.Compare a [.NotIn] [b] pos) (cB (c2 (gInX true) fa fb)) := let ⟨_, o, r⟩ := o_ninX hr.room.units; t_cmp o r ha hb hm
end
end L3
namespace L3
open PySem PySem.Spec PyProof.Rows L2
section
variable {ρ : En} {f fe : En → Out Pv} {fd : En → Out D} {g : En → Out (List Pv)}
def cTru_k (p : Pv) (ρ1 : En) : Out Bool := match (pvD ρ1 p).bind truD with
  | some b => .ok b ρ1
  | none => .bad
theorem cTru_e : cTru f ρ = (f ρ).bind cTru_k := rfl
theorem tru_l {ds : List D} : truD (.lst ds) = some (!ds.isEmpty) := rfl
theorem tru_t {ds : List D} : truD (.tup ds) = some (!ds.isEmpty) := rfl
theorem emp_c {α : Type} {x : α} {l : List α} : (x :: l).isEmpty = false := rfl
theorem emp_n {α : Type} : ([] : List α).isEmpty = true := rfl
def nRevL_k (p : Pv) (ρ1 : En) : Out D := match pvD ρ1 p with
  | some (.lst ds) => .ok (.lst ds.reverse) ρ1
  | some (.tup ds) => .ok (.lst ds.reverse) ρ1
  | _ => .bad
theorem nRevL_e : nRevL f ρ = (f ρ).bind nRevL_k := rfl
def iRvR_k (p : Pv) (ρ1 : En) : Out (List D) := match intP p with
  | some j => if inR j = true then .ok (rangeD 0 j).reverse ρ1 else .bad
  | none => .bad
theorem iRvR_e : iRvR f ρ = (f ρ).bind iRvR_k := rfl
def anNew_k2 (d : D) (ps : List Pv) (ρ2 : En) : Out (List Pv × D × List Pv) := .ok ([], d, ps) ρ2
def anNew_k (g : En → Out (List Pv)) (d : D) (ρ1 : En) : Out (List Pv × D × List Pv) := (g ρ1).bind (anNew_k2 d)
theorem anNew_e : anNew fd g ρ = (fd ρ).bind (anNew_k g) := rfl
def anCons_k2 (p : Pv) (r : List Pv × D × List Pv) (ρ2 : En) : Out (List Pv × D × List Pv) := .ok (p :: r.1, r.2) ρ2
def anCons_k (f : En → Out (List Pv × D × List Pv)) (p : Pv) (ρ1 : En) : Out (List Pv × D × List Pv) := (f ρ1).bind (anCons_k2 p)
theorem anCons_e {f : En → Out (List Pv × D × List Pv)} : anCons fe f ρ = (fe ρ).bind (anCons_k f) := rfl
def cutA (o : Out Rt) : Out Pv := match o with
  | .ok rr ρ2 => .ok (.v rr.d) ρ2.dropLast
  | .exc e ρ2 => .exc e ρ2.dropLast
  | .bad => .bad
theorem cutA_ok {rr : Rt} {ρ2 : En} : cutA (.ok rr ρ2) = .ok (.v rr.d) ρ2.dropLast := rfl
def cCallA_k (np : Nat) (m : Mf) (r : List Pv × D × List Pv) (ρ1 : En) : Out Pv := cutA (callM np m (r.1 ++ .b ρ1.length :: r.2.2) (ρ1 ++ [.own r.2.1]))
theorem cCallA_e {np : Nat} {m : Mf} {f : En → Out (List Pv × D × List Pv)} : cCallA np m f ρ = (f ρ).bind (cCallA_k np m) := rfl
theorem pop_l {xs : List D} {x : D} : gPop (.lst (xs ++ [x])) [] = some (x, .lst xs) := by
  show ((xs ++ [x])[(xs ++ [x]).length - 1]?).map _ = _
  rw [List.length_append, List.length_singleton, Nat.add_sub_cancel, List.getElem?_append_right (Nat.le_refl _), Nat.sub_self]
  simp
theorem drop_l {α : Type} {a b : α} {l : List α} : (a :: b :: l).dropLast = a :: (b :: l).dropLast := rfl
theorem drop_1 {α : Type} {a : α} : [a].dropLast = [] := rfl
end
end L3
namespace L3
open PySem PySem.Spec PyProof.Rows L2
/-! ### letters, figures -/
def dg (i : Nat) : Str := Str.ofString (toString (i : Int))
def dgl (i : Nat) : List Nat := if i < 10 then [48 + i] else [48 + i / 10, 48 + i % 10]
theorem dg_is : ∀ i < 100, (dg i).cps.toList = dgl i := by decide +kernel
def abc : Str := "abcdefghijklmnopqrstuvwxyz"
theorem abc_is : abc.cps.toList = (List.range 26).map fun i => 97 + i := by decide +kernel
theorem abc_len : abc.length = 26 := by decide +kernel
def one (c : Nat) : Str := ⟨#[97 + c]⟩
theorem abc_at {y : Nat} (h : y < 26) : gGet (.str abc) (.int (y : Int)) = some (.str (one y)) := by
  have e : gGet (.str abc) (.int (y : Int)) = (if abc.length ≤ sizeLine then (L2.atI abc.cps.toList (y : Int)).map fun c => D.str ⟨#[c]⟩ else none) := rfl
  rw [e, abc_len, if_pos (by rw [sizeLine_eq]; omega), abc_is, atI_nat (j := y) (v := 97 + y) (by rw [List.getElem?_map, List.getElem?_range h]; rfl)]
  rfl
abbrev okA (a : Array Nat) : Prop := ∀ c ∈ a.toList, c < 0x110000
theorem strOk_of {x : Str} (h : okA x.cps) : PyData.strOk x = true := by
  unfold PyData.strOk
  rw [Array.all_eq_true]
  intro i hi
  exact decide_eq_true (h _ (by simp))
theorem one_ok {y : Nat} (h : y < 26) : okA (one y).cps := fun c hc => by
  simp [one] at hc
  omega
/-- two letters and a number -/
def Nam2 (i : Nat) (x : Str) : Prop := ∃ a b : Nat, a < 26 ∧ b < 26 ∧ x = one a ++ one b ++ dg i
theorem Nam2.cps {i : Nat} {x : Str} (h : Nam2 i x) (hi : i < 100) : ∃ a b : Nat, a < 26 ∧ b < 26 ∧ x.cps.toList = (97 + a) :: (97 + b) :: dgl i := by
  obtain ⟨a, b, h1, h2, rfl⟩ := h
  refine ⟨a, b, h1, h2, ?_⟩
  rw [PySem.Str.cps_append, PySem.Str.cps_append, Array.toList_append, Array.toList_append, dg_is i hi]
  rfl
theorem Nam2.ok {i : Nat} {x : Str} (h : Nam2 i x) (hi : i < 100) : PyData.strOk x = true ∧ x.length ≤ 4 := by
  obtain ⟨a, b, h1, h2, e⟩ := h.cps hi
  refine ⟨strOk_of fun c hc => ?_, ?_⟩
  · rw [e] at hc
    unfold dgl at hc
    split at hc <;> simp at hc <;> omega
  · have : x.length = x.cps.toList.length := by simp [Str.length]
    rw [this, e]
    unfold dgl
    split <;> simp
theorem Nam2.inj {i j : Nat} {x : Str} (h : Nam2 i x) (h2 : Nam2 j x) (hi : i < 100) (hj : j < 100) : i = j := by
  obtain ⟨a, b, _, _, e⟩ := h.cps hi
  obtain ⟨a', b', _, _, e'⟩ := h2.cps hj
  rw [e] at e'
  simp only [List.cons.injEq] at e'
  have := e'.2.2
  unfold dgl at this
  split at this <;> split at this <;> simp at this <;> omega
end L3
namespace K08
open PySem PySem.Spec PyProof.Rows L2 L3
/-! ### the text -/
def topS (i : Nat) : Stmt := PySem.Challenge.pw_ticksurety_k08_carried_by_own_closure.main.body.getD i (.Pass ⟨0, 0, 0, 0⟩)
abbrev t__law_begin : Stmt := topS 18
theorem sc__law_begin : FnScope ["script", "cells", "cell"] ["script"] (defScope t__law_begin) := ⟨rfl, rfl, rfl, by decide +kernel, rfl, by decide +kernel, by decide +kernel⟩
abbrev t__law_draw : Stmt := topS 19
theorem sc__law_draw : FnScope ["d", "many", "cell", "digit"] ["d", "many"] (defScope t__law_draw) := ⟨rfl, rfl, rfl, by decide +kernel, rfl, by decide +kernel, by decide +kernel⟩
abbrev t__law_names : Stmt := topS 22
theorem sc__law_names : FnScope ["d", "many", "letters", "at"] ["d", "many"] (defScope t__law_names) := ⟨rfl, rfl, rfl, by decide +kernel, rfl, by decide +kernel, by decide +kernel⟩
abbrev t__law_pick : Stmt := topS 20
theorem sc__law_pick : FnScope ["d", "row"] ["d", "row"] (defScope t__law_pick) := ⟨rfl, rfl, rfl, by decide +kernel, rfl, by decide +kernel, by decide +kernel⟩
abbrev t__law_calm : Stmt := topS 27
theorem sc__law_calm : FnScope ["d", "c"] ["d", "c"] (defScope t__law_calm) := ⟨rfl, rfl, rfl, by decide +kernel, rfl, by decide +kernel, by decide +kernel⟩
abbrev t__law_spare : Stmt := topS 26
theorem sc__law_spare : FnScope ["d", "c", "way"] ["d", "c"] (defScope t__law_spare) := ⟨rfl, rfl, rfl, by decide +kernel, rfl, by decide +kernel, by decide +kernel⟩
abbrev t__law_asking : Stmt := topS 28
theorem sc__law_asking : FnScope ["d", "c", "way", "sum_kind"] ["d", "c"] (defScope t__law_asking) := ⟨rfl, rfl, rfl, by decide +kernel, rfl, by decide +kernel, by decide +kernel⟩
abbrev t__law_telling : Stmt := topS 29
theorem sc__law_telling : FnScope ["d", "c", "way", "loud", "quiet"] ["d", "c"] (defScope t__law_telling) := ⟨rfl, rfl, rfl, by decide +kernel, rfl, by decide +kernel, by decide +kernel⟩
abbrev t__law_bodied : Stmt := topS 30
theorem sc__law_bodied : FnScope ["d", "c", "depth", "many", "found", "at", "way", "then"] ["d", "c", "depth", "many"] (defScope t__law_bodied) := ⟨rfl, rfl, rfl, by decide +kernel, rfl, by decide +kernel, by decide +kernel⟩
abbrev t__law_rare : Stmt := topS 21
theorem sc__law_rare : FnScope ["d", "many"] ["d", "many"] (defScope t__law_rare) := ⟨rfl, rfl, rfl, by decide +kernel, rfl, by decide +kernel, by decide +kernel⟩
abbrev t__law_with_row : Stmt := topS 31
theorem sc__law_with_row : FnScope ["d", "c", "body", "pieces", "piece", "place", "at"] ["d", "c", "body"] (defScope t__law_with_row) := ⟨rfl, rfl, rfl, by decide +kernel, rfl, by decide +kernel, by decide +kernel⟩
abbrev t__law_count : Stmt := topS 24
theorem sc__law_count : FnScope ["body", "found", "statement", "part"] ["body"] (defScope t__law_count) := ⟨rfl, rfl, rfl, by decide +kernel, rfl, by decide +kernel, by decide +kernel⟩
abbrev t__law_cut : Stmt := topS 25
theorem sc__law_cut : FnScope ["body", "at"] ["body"] (defScope t__law_cut) := ⟨rfl, rfl, rfl, by decide +kernel, rfl, by decide +kernel, by decide +kernel⟩
abbrev t__law_tree_of : Stmt := topS 32
theorem sc__law_tree_of : FnScope ["d", "names", "c", "subs", "at", "body", "entries", "channels", "name"] ["d", "names"] (defScope t__law_tree_of) := ⟨rfl, rfl, rfl, by decide +kernel, rfl, by decide +kernel, by decide +kernel⟩
abbrev t__law_values : Stmt := topS 23
theorem sc__law_values : FnScope ["pairs", "name", "pair"] ["pairs", "name"] (defScope t__law_values) := ⟨rfl, rfl, rfl, by decide +kernel, rfl, by decide +kernel, by decide +kernel⟩
abbrev t__law_walk : Stmt := topS 33
theorem sc__law_walk : FnScope ["tree", "body", "seen", "found", "one", "part"] ["tree", "body", "seen"] (defScope t__law_walk) := ⟨rfl, rfl, rfl, by decide +kernel, rfl, by decide +kernel, by decide +kernel⟩
abbrev t__law_closure : Stmt := topS 34
theorem sc__law_closure : FnScope ["walk", "reached", "givings", "found", "turn", "fresh", "one", "name"] ["walk"] (defScope t__law_closure) := ⟨rfl, rfl, rfl, by decide +kernel, rfl, by decide +kernel, by decide +kernel⟩
abbrev t__law_first_reason : Stmt := topS 35
theorem sc__law_first_reason : FnScope ["walk", "carried", "one", "hits", "part"] ["walk", "carried"] (defScope t__law_first_reason) := ⟨rfl, rfl, rfl, by decide +kernel, rfl, by decide +kernel, by decide +kernel⟩
abbrev t_task_body : Stmt := topS 4
theorem sc_task_body : FnScope ["tree", "name", "task", "arrays", "body"] ["tree", "name"] (defScope t_task_body) := ⟨rfl, rfl, rfl, by decide +kernel, rfl, by decide +kernel, by decide +kernel⟩
abbrev t_bodies_of : Stmt := topS 7
theorem sc_bodies_of : FnScope ["statement"] ["statement"] (defScope t_bodies_of) := ⟨rfl, rfl, rfl, by decide +kernel, rfl, by decide +kernel, by decide +kernel⟩
abbrev t_statements_of : Stmt := topS 8
theorem sc_statements_of : FnScope ["body", "found", "waiting", "statement", "part"] ["body"] (defScope t_statements_of) := ⟨rfl, rfl, rfl, by decide +kernel, rfl, by decide +kernel, by decide +kernel⟩
abbrev t_sub_body : Stmt := topS 11
theorem sc_sub_body : FnScope ["tree", "name", "sub", "body"] ["tree", "name"] (defScope t_sub_body) := ⟨rfl, rfl, rfl, by decide +kernel, rfl, by decide +kernel, by decide +kernel⟩
abbrev t_walk_of : Stmt := topS 12
theorem sc_walk_of : FnScope ["tree", "task", "body", "found", "seen", "waiting", "statement"] ["tree", "task"] (defScope t_walk_of) := ⟨rfl, rfl, rfl, by decide +kernel, rfl, by decide +kernel, by decide +kernel⟩
abbrev t_operands_of : Stmt := topS 9
theorem sc_operands_of : FnScope ["statement", "kind"] ["statement"] (defScope t_operands_of) := ⟨rfl, rfl, rfl, by decide +kernel, rfl, by decide +kernel, by decide +kernel⟩
abbrev t_carries : Stmt := topS 13
theorem sc_carries : FnScope ["statement", "names", "operand"] ["statement", "names"] (defScope t_carries) := ⟨rfl, rfl, rfl, by decide +kernel, rfl, by decide +kernel, by decide +kernel⟩
abbrev t_carried_names : Stmt := topS 14
theorem sc_carried_names : FnScope ["tree", "task", "statements", "names", "grows", "statement"] ["tree", "task"] (defScope t_carried_names) := ⟨rfl, rfl, rfl, by decide +kernel, rfl, by decide +kernel, by decide +kernel⟩
abbrev t_asks : Stmt := topS 15
theorem sc_asks : FnScope ["statement", "names", "kind", "told", "operand"] ["statement", "names"] (defScope t_asks) := ⟨rfl, rfl, rfl, by decide +kernel, rfl, by decide +kernel, by decide +kernel⟩
abbrev t_carried_fault : Stmt := topS 16
theorem sc_carried_fault : FnScope ["tree", "task", "names", "statement", "reason"] ["tree", "task"] (defScope t_carried_fault) := ⟨rfl, rfl, rfl, by decide +kernel, rfl, by decide +kernel, by decide +kernel⟩
abbrev t__law_is_right : Stmt := topS 36
theorem sc__law_is_right : FnScope ["tree", "entry", "walk", "carried", "reason", "fault", "told"] ["tree"] (defScope t__law_is_right) := ⟨rfl, rfl, rfl, by decide +kernel, rfl, by decide +kernel, by decide +kernel⟩
abbrev t__law_untaken : Stmt := topS 37
theorem sc__law_untaken : FnScope ["body", "found", "one", "part"] ["body"] (defScope t__law_untaken) := ⟨rfl, rfl, rfl, by decide +kernel, rfl, by decide +kernel, by decide +kernel⟩
abbrev t_law : Stmt := topS 38
theorem sc_law : FnScope ["script", "d", "names", "first", "second", "subs", "entries", "calm", "entry", "pair"] ["script"] (defScope t_law) := ⟨rfl, rfl, rfl, by decide +kernel, rfl, by decide +kernel, by decide +kernel⟩
def k_SUMS : D := .tup [.str "plus", .str "minus", .str "times"]
/-! ### the mirrors -/
def e__law_names_1 : En → Out Pv := c2 gAdd (c2 gAdd (c2 gGet (cVar 2) (cCall 2 mDraw (aCons (cVar 0) (aCons (cK (.int 26)) (aNil))))) (c2 gGet (cVar 2) (cCall 2 mDraw (aCons (cVar 0) (aCons (cK (.int 26)) (aNil)))))) (cN gStr (aCons (cVar 3) (aNil)))
def g__law_names : En → Out Fl := sSeq (sSet 2 (cK (.str "abcdefghijklmnopqrstuvwxyz"))) (sRetN (nLc (iR1 (aCons (cVar 1) (aNil))) [3] hOne cYes e__law_names_1))
def m__law_names : Mf := run false 4 g__law_names
def g__law_calm : En → Out Fl := sRet (cIte (cB (c2 gEq (cCall 2 mDraw (aCons (cVar 0) (aCons (cK (.int 2)) (aNil)))) (cK (.int 0)))) (cCall 2 mPick (aCons (cVar 0) (aCons (c2 gGet (cVar 1) (cK (.str "quiet"))) (aNil)))) (cCall 2 mDraw (aCons (cVar 0) (aCons (cK (.int 3)) (aNil)))))
def m__law_calm : Mf := run false 2 g__law_calm
def g__law_spare : En → Out Fl := sSeq (sSet 2 (cCall 2 mDraw (aCons (cVar 0) (aCons (cK (.int 7)) (aNil))))) (sSeq (sIf (cB (c2 gLt (cVar 2) (cK (.int 3)))) (sRet (cCall 2 mPick (aCons (cVar 0) (aCons (c2 gGet (cVar 1) (cK (.str "loud"))) (aNil))))) (sNil)) (sSeq (sIf (cB (c2 gLt (cVar 2) (cK (.int 5)))) (sRet (cCall 2 mPick (aCons (cVar 0) (aCons (c2 gGet (cVar 1) (cK (.str "quiet"))) (aNil))))) (sNil)) (sRet (cIte (cB (c2 gEq (cVar 2) (cK (.int 5)))) (cCall 2 mPick (aCons (cVar 0) (aCons (c2 gGet (cVar 1) (cK (.str "row"))) (aNil)))) (cCall 2 mDraw (aCons (cVar 0) (aCons (cK (.int 3)) (aNil))))))))
def m__law_spare : Mf := run false 3 g__law_spare
def g__law_asking : En → Out Fl := sSeq (sSet 2 (cCall 2 mDraw (aCons (cVar 0) (aCons (cK (.int 7)) (aNil))))) (sSeq (sSet 3 (cCall 2 mPick (aCons (cVar 0) (aCons (cTup (aCons (cK (.str "plus")) (aCons (cK (.str "minus")) (aCons (cK (.str "times")) (aNil))))) (aNil))))) (sSeq (sIf (cB (c2 gEq (cVar 2) (cK (.int 0)))) (sRet (cTup (aCons (cVar 3) (aCons (cCall 2 mPick (aCons (cVar 0) (aCons (c2 gGet (cVar 1) (cK (.str "quiet"))) (aNil)))) (aCons (cCall 2 m__law_calm (aCons (cVar 0) (aCons (cVar 1) (aNil)))) (aCons (cCall 2 m__law_spare (aCons (cVar 0) (aCons (cVar 1) (aNil)))) (aNil))))))) (sNil)) (sSeq (sIf (cB (c2 gEq (cVar 2) (cK (.int 1)))) (sRet (cTup (aCons (cK (.str "times")) (aCons (cCall 2 mPick (aCons (cVar 0) (aCons (c2 gGet (cVar 1) (cK (.str "loud"))) (aNil)))) (aCons (cCall 2 m__law_spare (aCons (cVar 0) (aCons (cVar 1) (aNil)))) (aCons (cCall 2 m__law_spare (aCons (cVar 0) (aCons (cVar 1) (aNil)))) (aNil))))))) (sNil)) (sSeq (sIf (cAnd (cB (c2 gEq (cVar 2) (cK (.int 2)))) (cB (c2 gGet (cVar 1) (cK (.str "is_task"))))) (sRet (cTup (aCons (cK (.str "get")) (aCons (cCall 2 mPick (aCons (cVar 0) (aCons (c2 gGet (cVar 1) (cK (.str "quiet"))) (aNil)))) (aCons (c2 gGet (cVar 1) (cK (.str "array"))) (aCons (cCall 2 m__law_spare (aCons (cVar 0) (aCons (cVar 1) (aNil)))) (aNil))))))) (sNil)) (sSeq (sIf (cAnd (cB (c2 gEq (cVar 2) (cK (.int 3)))) (cB (c2 gGet (cVar 1) (cK (.str "is_task"))))) (sRet (cTup (aCons (cK (.str "put")) (aCons (c2 gGet (cVar 1) (cK (.str "array"))) (aCons (cCall 2 m__law_spare (aCons (cVar 0) (aCons (cVar 1) (aNil)))) (aCons (cCall 2 m__law_spare (aCons (cVar 0) (aCons (cVar 1) (aNil)))) (aNil))))))) (sNil)) (sSeq (sIf (cAnd (cB (c2 gEq (cVar 2) (cK (.int 4)))) (cB (c2 gGet (cVar 1) (cK (.str "is_task"))))) (sRet (cTup (aCons (cK (.str "put")) (aCons (c2 gGet (cVar 1) (cK (.str "array"))) (aCons (cCall 2 m__law_calm (aCons (cVar 0) (aCons (cVar 1) (aNil)))) (aCons (cCall 2 m__law_spare (aCons (cVar 0) (aCons (cVar 1) (aNil)))) (aNil))))))) (sNil)) (sSeq (sIf (cB (c2 gEq (cVar 2) (cK (.int 5)))) (sRet (cTup (aCons (cK (.str "if")) (aCons (cCall 2 m__law_calm (aCons (cVar 0) (aCons (cVar 1) (aNil)))) (aCons (cK (.str "equal")) (aCons (cCall 2 m__law_spare (aCons (cVar 0) (aCons (cVar 1) (aNil)))) (aCons (cTup (aCons (cTup (aCons (cK (.str "set")) (aCons (c2 gGet (c2 gGet (cVar 1) (cK (.str "quiet"))) (cK (.int 0))) (aCons (cK (.int 1)) (aNil))))) (aNil))) (aCons (cTup (aNil)) (aNil))))))))) (sNil)) (sRet (cTup (aCons (cK (.str "if")) (aCons (cCall 2 m__law_spare (aCons (cVar 0) (aCons (cVar 1) (aNil)))) (aCons (cK (.str "below")) (aCons (cCall 2 m__law_calm (aCons (cVar 0) (aCons (cVar 1) (aNil)))) (aCons (cTup (aNil)) (aCons (cTup (aCons (cTup (aCons (cK (.str "set")) (aCons (c2 gGet (c2 gGet (cVar 1) (cK (.str "quiet"))) (cK (.int 1))) (aCons (cK (.int 2)) (aNil))))) (aNil))) (aNil))))))))))))))))
def m__law_asking : Mf := run false 4 g__law_asking
def g__law_telling : En → Out Fl := sSeq (sSet 2 (cCall 2 mDraw (aCons (cVar 0) (aCons (cK (.int 8)) (aNil))))) (sSeq (sSet 3 (cCall 2 mPick (aCons (cVar 0) (aCons (c2 gGet (cVar 1) (cK (.str "loud"))) (aNil))))) (sSeq (sSet 4 (cCall 2 mPick (aCons (cVar 0) (aCons (c2 gGet (cVar 1) (cK (.str "quiet"))) (aNil))))) (sSeq (sIf (cB (c2 gEq (cVar 2) (cK (.int 0)))) (sRet (cTup (aCons (cK (.str "set")) (aCons (cVar 3) (aCons (cCall 2 m__law_spare (aCons (cVar 0) (aCons (cVar 1) (aNil)))) (aNil)))))) (sNil)) (sSeq (sIf (cB (c2 gEq (cVar 2) (cK (.int 1)))) (sRet (cTup (aCons (cCall 2 mPick (aCons (cVar 0) (aCons (cTup (aCons (cK (.str "plus")) (aCons (cK (.str "minus")) (aNil)))) (aNil)))) (aCons (cVar 3) (aCons (cCall 2 m__law_spare (aCons (cVar 0) (aCons (cVar 1) (aNil)))) (aCons (cCall 2 m__law_spare (aCons (cVar 0) (aCons (cVar 1) (aNil)))) (aNil))))))) (sNil)) (sSeq (sIf (cB (c2 gEq (cVar 2) (cK (.int 2)))) (sRet (cTup (aCons (cK (.str "times")) (aCons (cVar 3) (aCons (cCall 2 m__law_calm (aCons (cVar 0) (aCons (cVar 1) (aNil)))) (aCons (cCall 2 m__law_spare (aCons (cVar 0) (aCons (cVar 1) (aNil)))) (aNil))))))) (sNil)) (sSeq (sIf (cAnd (cB (c2 gEq (cVar 2) (cK (.int 3)))) (cB (c2 gEq (cCall 2 mDraw (aCons (cVar 0) (aCons (cK (.int 2)) (aNil)))) (cK (.int 0))))) (sRet (cTup (aCons (cK (.str "take")) (aCons (cVar 3) (aCons (cCall 2 mPick (aCons (cVar 0) (aCons (c2 gGet (cVar 1) (cK (.str "channels"))) (aNil)))) (aNil)))))) (sNil)) (sSeq (sIf (cAnd (cB (c2 gEq (cVar 2) (cK (.int 4)))) (cB (c2 gNe (c2 gGet (cVar 1) (cK (.str "sends"))) (cK (.str ""))))) (sRet (cTup (aCons (cK (.str "send")) (aCons (c2 gGet (cVar 1) (cK (.str "sends"))) (aCons (cCall 2 m__law_spare (aCons (cVar 0) (aCons (cVar 1) (aNil)))) (aNil)))))) (sNil)) (sSeq (sIf (cAnd (cB (c2 gEq (cVar 2) (cK (.int 5)))) (cB (c2 gGet (cVar 1) (cK (.str "is_task"))))) (sRet (cTup (aCons (cK (.str "get")) (aCons (cVar 3) (aCons (c2 gGet (cVar 1) (cK (.str "array"))) (aCons (cCall 2 m__law_calm (aCons (cVar 0) (aCons (cVar 1) (aNil)))) (aNil))))))) (sNil)) (sSeq (sIf (cB (c2 gEq (cVar 2) (cK (.int 6)))) (sRet (cTup (aCons (cK (.str "read")) (aCons (cVar 4) (aCons (c2 gGet (cVar 1) (cK (.str "port"))) (aNil)))))) (sNil)) (sRet (cTup (aCons (cCall 2 mPick (aCons (cVar 0) (aCons (cTup (aCons (cK (.str "plus")) (aCons (cK (.str "minus")) (aCons (cK (.str "times")) (aNil))))) (aNil)))) (aCons (cVar 4) (aCons (cCall 2 m__law_calm (aCons (cVar 0) (aCons (cVar 1) (aNil)))) (aCons (cCall 2 m__law_calm (aCons (cVar 0) (aCons (cVar 1) (aNil)))) (aNil))))))))))))))))
def m__law_telling : Mf := run false 5 g__law_telling
def s__law_bodied_1 (R : Mf) : En → Out Fl := sSeq (sSet 6 (cCall 2 mDraw (aCons (cVar 0) (aCons (cK (.int 12)) (aNil))))) (sIf (cB (c2 gLt (cVar 6) (c2 gGet (cVar 1) (cK (.str "risk"))))) (sExp (cM 4 gAppend (aCons (cCall 2 m__law_asking (aCons (cVar 0) (aCons (cVar 1) (aNil)))) (aNil)))) (sIf (cAnd (cB (c2 gEq (cVar 6) (cK (.int 11)))) (cB (c2 gGt (cVar 2) (cK (.int 0))))) (sSeq (sSet 7 (cCall 4 R (aCons (cVar 0) (aCons (cVar 1) (aCons (c2 gMns (cVar 2) (cK (.int 1))) (aCons (cCall 2 mDraw (aCons (cVar 0) (aCons (cK (.int 3)) (aNil)))) (aNil))))))) (sExp (cM 4 gAppend (aCons (cTup (aCons (cK (.str "if")) (aCons (cCall 2 m__law_calm (aCons (cVar 0) (aCons (cVar 1) (aNil)))) (aCons (cK (.str "below")) (aCons (cK (.int 1)) (aCons (cVar 7) (aCons (cCall 4 R (aCons (cVar 0) (aCons (cVar 1) (aCons (c2 gMns (cVar 2) (cK (.int 1))) (aCons (cCall 2 mDraw (aCons (cVar 0) (aCons (cK (.int 3)) (aNil)))) (aNil)))))) (aNil)))))))) (aNil))))) (sIf (cAnd (cB (c2 gEq (cVar 6) (cK (.int 10)))) (cB (c2 gGt (cVar 2) (cK (.int 0))))) (sExp (cM 4 gAppend (aCons (cTup (aCons (cK (.str "loop")) (aCons (c2 gAdd (cK (.int 1)) (cCall 2 mDraw (aCons (cVar 0) (aCons (cK (.int 3)) (aNil))))) (aCons (cCall 4 R (aCons (cVar 0) (aCons (cVar 1) (aCons (c2 gMns (cVar 2) (cK (.int 1))) (aCons (c2 gAdd (cK (.int 1)) (cCall 2 mDraw (aCons (cVar 0) (aCons (cK (.int 2)) (aNil))))) (aNil)))))) (aNil))))) (aNil)))) (sIf (cAnd (cB (c2 (gInX false) (cVar 6) (cTup (aCons (cK (.int 8)) (aCons (cK (.int 9)) (aNil)))))) (cB (c2 gGt (cN gLen (aCons (c2 gGet (cVar 1) (cK (.str "subs"))) (aNil))) (cK (.int 0))))) (sExp (cM 4 gAppend (aCons (cTup (aCons (cK (.str "call")) (aCons (cCall 2 mPick (aCons (cVar 0) (aCons (c2 gGet (cVar 1) (cK (.str "subs"))) (aNil)))) (aNil)))) (aNil)))) (sIf (cAnd (cB (c2 gEq (cVar 6) (cK (.int 7)))) (cAnd (cB (c2 gEq (cVar 2) (cK (.int 2)))) (cB (c2 gGet (cVar 1) (cK (.str "is_task")))))) (sExp (cM 4 gAppend (aCons (cTup (aCons (cK (.str "hold")) (aCons (c2 gGet (cVar 1) (cK (.str "lock"))) (aCons (cCall 4 R (aCons (cVar 0) (aCons (cVar 1) (aCons (cK (.int 1)) (aCons (c2 gAdd (cK (.int 1)) (cCall 2 mDraw (aCons (cVar 0) (aCons (cK (.int 2)) (aNil))))) (aNil)))))) (aNil))))) (aNil)))) (sExp (cM 4 gAppend (aCons (cCall 2 m__law_telling (aCons (cVar 0) (aCons (cVar 1) (aNil)))) (aNil)))))))))
def g__law_bodied (R : Mf) : En → Out Fl := sSeq (sSetN 4 (nLst (aNil))) (sSeq (sFor (iR1 (aCons (cVar 3) (aNil))) (gSet 5) (s__law_bodied_1 R)) (sRet (cN gToT (aCons (cVar 4) (aNil)))))
def m__law_bodied : Nat → Mf
  | 0 => fun _ => .bad
  | k + 1 => run false 8 (g__law_bodied (m__law_bodied k))
def e__law_with_row_1 : En → Out Pv := cTup (aCons (cK (.str "set")) (aCons (c2 gGet (c2 gGet (cVar 1) (cK (.str "row"))) (c2 gAdd (cVar 6) (cK (.int 1)))) (aCons (c2 gGet (c2 gGet (cVar 1) (cK (.str "row"))) (cVar 6)) (aNil))))
def q__law_with_row_2 : En → Out Fl := sSet 3 (vN (nLc (iRvR (cK (.int 5))) [6] hOne cYes e__law_with_row_1))
def q__law_with_row_3 : En → Out Fl := sSet 3 (cIte (cB (c2 gEq (cCall 2 mDraw (aCons (cVar 0) (aCons (cK (.int 2)) (aNil)))) (cK (.int 0)))) (cSl (cVar 3) (oNone) (oSome (c2 gAdd (cK (.int 1)) (cCall 2 mDraw (aCons (cVar 0) (aCons (cK (.int 5)) (aNil))))))) (cVar 3))
def q__law_with_row_4 : En → Out Fl := sIf (cB (c2 gEq (cCall 2 mDraw (aCons (cVar 0) (aCons (cK (.int 2)) (aNil)))) (cK (.int 0)))) (sSet 3 (c2 gAdd (cVar 3) (vN (nLst (aCons (cTup (aCons (cK (.str "take")) (aCons (c2 gGet (c2 gGet (cVar 1) (cK (.str "row"))) (cK (.int 0))) (aCons (c2 gGet (c2 gGet (cVar 1) (cK (.str "channels"))) (cK (.int 0))) (aNil))))) (aNil)))))) (sNil)
def q__law_with_row_5 : En → Out Fl := sIf (cB (c2 gEq (cCall 2 mDraw (aCons (cVar 0) (aCons (cK (.int 2)) (aNil)))) (cK (.int 0)))) (sSet 3 (c2 gAdd (vN (nLst (aCons (cTup (aCons (cK (.str "plus")) (aCons (c2 gGet (c2 gGet (cVar 1) (cK (.str "row"))) (cK (.int 5))) (aCons (cK (.int 1)) (aCons (c2 gGet (c2 gGet (cVar 1) (cK (.str "row"))) (cK (.int 4))) (aNil)))))) (aNil)))) (cVar 3))) (sNil)
def q__law_with_row_6 : En → Out Fl := sIf (cAnd (cB (c2 gGt (c2 gGet (cVar 1) (cK (.str "risk"))) (cK (.int 0)))) (cB (c2 gEq (cCall 2 mDraw (aCons (cVar 0) (aCons (cK (.int 2)) (aNil)))) (cK (.int 0))))) (sSet 3 (c2 gAdd (vN (nLst (aCons (cTup (aCons (cK (.str "if")) (aCons (cK (.int 0)) (aCons (cK (.str "equal")) (aCons (c2 gGet (c2 gGet (cVar 1) (cK (.str "row"))) (cK (.int 5))) (aCons (cTup (aNil)) (aCons (cTup (aNil)) (aNil)))))))) (aNil)))) (cVar 3))) (sNil)
def s__law_with_row_7 : En → Out Fl := sSeq (sSet 5 (cCall 2 mDraw (aCons (cVar 0) (aCons (c2 gAdd (cK (.int 1)) (cN gMin (aCons (cK (.int 1)) (aCons (cN gLen (aCons (cVar 2) (aNil))) (aNil))))) (aNil))))) (sSet 2 (c2 gAdd (c2 gAdd (cSl (cVar 2) (oNone) (oSome (cVar 5))) (cTup (aCons (cVar 4) (aNil)))) (cSl (cVar 2) (oSome (cVar 5)) (oNone))))
def g__law_with_row : En → Out Fl := sSeq (q__law_with_row_2) (sSeq (q__law_with_row_3) (sSeq (q__law_with_row_4) (sSeq (q__law_with_row_5) (sSeq (q__law_with_row_6) (sSeq (sFor (iRv (cVar 3)) (gSet 4) s__law_with_row_7) (sRet (cVar 2)))))))
def m__law_with_row : Mf := run false 7 g__law_with_row
def s__law_count_1 (R : Mf) : En → Out Fl := sIf (cB (cN gIsi (aCons (cVar 3) (aCons (cK (.ty "tuple")) (aNil))))) (sSet 1 (c2 gAdd (cVar 1) (cCall 1 R (aCons (cVar 3) (aNil))))) (sNil)
def s__law_count_2 (R : Mf) : En → Out Fl := sSeq (sSet 1 (c2 gAdd (cVar 1) (cK (.int 1)))) (sFor (iT (cVar 2)) (gSet 3) (s__law_count_1 R))
def g__law_count (R : Mf) : En → Out Fl := sSeq (sSet 1 (cK (.int 0))) (sSeq (sFor (iT (cVar 0)) (gSet 2) (s__law_count_2 R)) (sRet (cVar 1)))
def m__law_count : Nat → Mf
  | 0 => fun _ => .bad
  | k + 1 => run false 4 (g__law_count (m__law_count k))
def s__law_cut_1 : En → Out Fl := sIf (cB (c2 gGt (cCall 1 (m__law_count 6) (aCons (cVar 0) (aNil))) (cK (.int 40)))) (sSet 0 (cSl (cVar 0) (oSome (cK (.int 1))) (oNone))) (sNil)
def g__law_cut : En → Out Fl := sSeq (sFor (iR1 (aCons (cN gLen (aCons (cVar 0) (aNil))) (aNil))) (gSet 1) s__law_cut_1) (sRet (cVar 0))
def m__law_cut : Mf := run false 2 g__law_cut
def q__law_tree_of_1 : En → Out Fl := sSetN 2 (nDic (pCons (cK (.str "quiet")) (cSl (cVar 1) (oNone) (oSome (cK (.int 3)))) (pCons (cK (.str "loud")) (cSl (cVar 1) (oSome (cK (.int 3))) (oSome (cK (.int 6)))) (pCons (cK (.str "row")) (cSl (cVar 1) (oSome (cK (.int 6))) (oSome (cK (.int 12)))) (pCons (cK (.str "array")) (c2 gGet (cVar 1) (cK (.int 12))) (pCons (cK (.str "port")) (c2 gGet (cVar 1) (cK (.int 13))) (pCons (cK (.str "lock")) (c2 gGet (cVar 1) (cK (.int 14))) (pCons (cK (.str "subs")) (vN (nLst (aNil))) (pCons (cK (.str "is_task")) (cK (.bl false)) (pCons (cK (.str "risk")) (cCall 2 mPick (aCons (cVar 0) (aCons (cTup (aCons (cK (.int 0)) (aCons (cK (.int 0)) (aCons (cK (.int 1)) (aCons (cK (.int 2)) (aCons (cK (.int 4)) (aNil))))))) (aNil)))) (pCons (cK (.str "sends")) (cK (.str "")) (pNil))))))))))))
def q__law_tree_of_2 : En → Out Fl := sAsg (cSl (cVar 1) (oSome (cK (.int 15))) (oSome (c2 gAdd (cK (.int 16)) (cCall 2 mDraw (aCons (cVar 0) (aCons (cK (.int 3)) (aNil))))))) (gSubD 2 (cK (.str "channels")))
def s__law_tree_of_3 : En → Out Fl := sSeq (sSet 5 (cCall 4 (m__law_bodied 4) (aCons (cVar 0) (aCons (cVar 2) (aCons (cK (.int 2)) (aCons (cCall 2 mDraw (aCons (cVar 0) (aCons (cK (.int 5)) (aNil)))) (aNil))))))) (sSeq (sIf (cB (cCall 2 mRare (aCons (cVar 0) (aCons (cK (.int 3)) (aNil))))) (sSet 5 (cCall 3 m__law_with_row (aCons (cVar 0) (aCons (cVar 2) (aCons (cVar 5) (aNil)))))) (sNil)) (sSeq (sExp (cM 3 gAppend (aCons (cTup (aCons (c2 gGet (cVar 1) (c2 gAdd (cK (.int 18)) (cVar 4))) (aCons (cCall 1 m__law_cut (aCons (cVar 5) (aNil))) (aNil)))) (aNil)))) (sAsg (c2 gAdd (c2 gGet (cVar 2) (cK (.str "subs"))) (vN (nLst (aCons (c2 gGet (cVar 1) (c2 gAdd (cK (.int 18)) (cVar 4))) (aNil))))) (gSubD 2 (cK (.str "subs"))))))
def q__law_tree_of_4 : En → Out Fl := sFor (iR1 (aCons (cCall 2 mDraw (aCons (cVar 0) (aCons (cK (.int 5)) (aNil)))) (aNil))) (gSet 4) s__law_tree_of_3
def s__law_tree_of_5 : En → Out Fl := sSeq (sAsg (cIte (cB (c2 gLt (cVar 4) (cN gLen (aCons (c2 gGet (cVar 2) (cK (.str "channels"))) (aNil))))) (c2 gGet (c2 gGet (cVar 2) (cK (.str "channels"))) (cVar 4)) (cK (.str ""))) (gSubD 2 (cK (.str "sends")))) (sSeq (sSet 5 (cCall 4 (m__law_bodied 4) (aCons (cVar 0) (aCons (cVar 2) (aCons (cK (.int 2)) (aCons (c2 gAdd (cK (.int 1)) (cCall 2 mDraw (aCons (cVar 0) (aCons (cK (.int 5)) (aNil))))) (aNil))))))) (sSeq (sIf (cB (c2 gEq (cCall 2 mDraw (aCons (cVar 0) (aCons (cK (.int 2)) (aNil)))) (cK (.int 0)))) (sSet 5 (cCall 3 m__law_with_row (aCons (cVar 0) (aCons (cVar 2) (aCons (cVar 5) (aNil)))))) (sNil)) (sExp (cM 6 gAppend (aCons (cTup (aCons (c2 gGet (cVar 1) (c2 gAdd (cK (.int 22)) (cVar 4))) (aCons (cTup (aCons (cTup (aCons (c2 gGet (cVar 1) (cK (.int 12))) (aCons (c2 gAdd (cK (.int 1)) (cCall 2 mDraw (aCons (cVar 0) (aCons (cK (.int 4)) (aNil))))) (aNil)))) (aNil))) (aCons (cCall 1 m__law_cut (aCons (cVar 5) (aNil))) (aNil))))) (aNil))))))
def q__law_tree_of_6 : En → Out Fl := sFor (iR1 (aCons (c2 gAdd (cK (.int 1)) (cCall 2 mDraw (aCons (cVar 0) (aCons (cK (.int 3)) (aNil))))) (aNil))) (gSet 4) s__law_tree_of_5
def e__law_tree_of_7 : En → Out Pv := cTup (aCons (cVar 8) (aCons (cCall 2 mDraw (aCons (cVar 0) (aCons (cK (.int 4)) (aNil)))) (aNil)))
def q__law_tree_of_8 : En → Out Fl := sSet 7 (cN gToT (aCons (vN (nLc (iL (c2 gGet (cVar 2) (cK (.str "channels")))) [8] hOne cYes e__law_tree_of_7)) (aNil)))
def g__law_tree_of : En → Out Fl := sSeq (q__law_tree_of_1) (sSeq (q__law_tree_of_2) (sSeq (sSetN 3 (nLst (aNil))) (sSeq (q__law_tree_of_4) (sSeq (sAsg (cK (.bl true)) (gSubD 2 (cK (.str "is_task")))) (sSeq (sSetN 6 (nLst (aNil))) (sSeq (q__law_tree_of_6) (sSeq (q__law_tree_of_8) (sRet (cTup (aCons (cK (.int 4)) (aCons (cTup (aCons (cTup (aCons (c2 gGet (cVar 1) (cK (.int 13))) (aCons (cK (.int 2)) (aNil)))) (aNil))) (aCons (cVar 7) (aCons (cTup (aCons (c2 gGet (cVar 1) (cK (.int 14))) (aNil))) (aCons (cN gToT (aCons (cVar 3) (aNil))) (aCons (cN gToT (aCons (cVar 6) (aNil))) (aNil))))))))))))))))
def m__law_tree_of : Mf := run false 9 g__law_tree_of
def s__law_values_1 : En → Out Fl := sIf (cB (c2 gEq (c2 gGet (cVar 2) (cK (.int 0))) (cVar 1))) (sRet (c2 gGet (cVar 2) (cK (.int 1)))) (sNil)
def g__law_values : En → Out Fl := sSeq (sFor (iT (cVar 0)) (gSet 2) s__law_values_1) (sRet (cK (.int 0)))
def m__law_values : Mf := run false 3 g__law_values
def s__law_walk_1 (R : Mf) : En → Out Fl := sIf (cB (cN gIsi (aCons (cVar 5) (aCons (cK (.ty "tuple")) (aNil))))) (sExp (cM 3 gExtend (aCons (cCall 3 R (aCons (cVar 0) (aCons (cVar 5) (aCons (cVar 2) (aNil))))) (aNil)))) (sNil)
def s__law_walk_2 (R : Mf) : En → Out Fl := sSeq (sExp (cM 3 gAppend (aCons (cVar 4) (aNil)))) (sSeq (sFor (iT (cVar 4)) (gSet 5) (s__law_walk_1 R)) (sIf (cAnd (cB (c2 gEq (c2 gGet (cVar 4) (cK (.int 0))) (cK (.str "call")))) (cB (c2 (gInX true) (c2 gGet (cVar 4) (cK (.int 1))) (cVar 2)))) (sSeq (sExp (cM 2 gAppend (aCons (c2 gGet (cVar 4) (cK (.int 1))) (aNil)))) (sExp (cM 3 gExtend (aCons (cCall 3 R (aCons (cVar 0) (aCons (cCall 2 m__law_values (aCons (c2 gGet (cVar 0) (cK (.int 4))) (aCons (c2 gGet (cVar 4) (cK (.int 1))) (aNil)))) (aCons (cVar 2) (aNil))))) (aNil))))) (sNil)))
def g__law_walk (R : Mf) : En → Out Fl := sSeq (sSetN 3 (nLst (aNil))) (sSeq (sFor (iT (cVar 1)) (gSet 4) (s__law_walk_2 R)) (sRet (cVar 3)))
def m__law_walk : Nat → Mf
  | 0 => fun _ => .bad
  | k + 1 => run false 6 (g__law_walk (m__law_walk k))
def t__law_closure_1 : En → Out Bool := cB (c2 gEq (c2 gGet (cVar 6) (cK (.int 0))) (cK (.str "take")))
def e__law_closure_2 : En → Out Pv := c2 gGet (cVar 6) (cK (.int 1))
def t__law_closure_3 : En → Out Bool := cB (c2 (gInX false) (c2 gGet (cVar 6) (cK (.int 0))) (cTup (aCons (cK (.str "set")) (aCons (cK (.str "plus")) (aCons (cK (.str "minus")) (aCons (cK (.str "times")) (aNil)))))))
def e__law_closure_4 : En → Out Pv := cVar 6
def t__law_closure_5 : En → Out Bool := cB (c2 (gInX true) (cVar 7) (cVar 3))
def e__law_closure_6 : En → Out Pv := cVar 7
def t__law_closure_7 : En → Out Bool := cB (c2 (gInX false) (c2 gGet (cVar 5) (cK (.int 0))) (cSl (cVar 6) (oSome (cK (.int 2))) (oNone)))
def e__law_closure_8 : En → Out Pv := c2 gGet (cVar 6) (cK (.int 1))
def s__law_closure_9 : En → Out Fl := sSeq (sSet 5 (vN (nLc (iL (cVar 1)) [7] hOne t__law_closure_5 e__law_closure_6))) (sSeq (sIf (cB (c2 gEq (cN gLen (aCons (cVar 5) (aNil))) (cK (.int 0)))) (sRetN (nN gSorted (aCons (cVar 3) (aNil)))) (sNil)) (sSeq (sExp (cM 3 gAppend (aCons (c2 gGet (cVar 5) (cK (.int 0))) (aNil)))) (sSet 1 (c2 gAdd (cVar 1) (vN (nLc (iL (cVar 2)) [6] hOne t__law_closure_7 e__law_closure_8))))))
def g__law_closure : En → Out Fl := sSeq (sSet 1 (vN (nLc (iL (cVar 0)) [6] hOne t__law_closure_1 e__law_closure_2))) (sSeq (sSet 2 (vN (nLc (iL (cVar 0)) [6] hOne t__law_closure_3 e__law_closure_4))) (sSeq (sSetN 3 (nLst (aNil))) (sSeq (sFor (iR1 (aCons (c2 gAdd (cN gLen (aCons (cVar 0) (aNil))) (cK (.int 1))) (aNil))) (gSet 4) s__law_closure_9) (sRetN (nN gSorted (aCons (cVar 3) (aNil)))))))
def m__law_closure : Mf := run false 8 g__law_closure
def e__law_first_reason_1 : En → Out Pv := c2 (gInX false) (cVar 4) (cVar 1)
def s__law_first_reason_2 : En → Out Fl := sSeq (sSet 3 (vN (nLc (iT (cSl (cVar 2) (oSome (cK (.int 1))) (oSome (cK (.int 4))))) [4] hOne cYes e__law_first_reason_1))) (sSeq (sIf (cAnd (cB (c2 gEq (c2 gGet (cVar 2) (cK (.int 0))) (cK (.str "if")))) (cOr (cB (c2 gGet (cVar 3) (cK (.int 0)))) (cB (c2 gGet (cVar 3) (cK (.int 2)))))) (sRet (cK (.str "asked"))) (sNil)) (sSeq (sIf (cOr (cAnd (cB (c2 gEq (c2 gGet (cVar 2) (cK (.int 0))) (cK (.str "get")))) (cB (c2 gGet (cVar 3) (cK (.int 2))))) (cAnd (cB (c2 gEq (c2 gGet (cVar 2) (cK (.int 0))) (cK (.str "put")))) (cB (c2 gGet (cVar 3) (cK (.int 1)))))) (sRet (cK (.str "index"))) (sNil)) (sSeq (sIf (cAnd (cB (c2 gEq (c2 gGet (cVar 2) (cK (.int 0))) (cK (.str "put")))) (cB (c2 gGet (cVar 3) (cK (.int 2))))) (sRet (cK (.str "stored"))) (sNil)) (sIf (cAnd (cB (c2 gEq (c2 gGet (cVar 2) (cK (.int 0))) (cK (.str "times")))) (cAnd (cB (c2 gGet (cVar 3) (cK (.int 1)))) (cB (c2 gGet (cVar 3) (cK (.int 2)))))) (sRet (cK (.str "product"))) (sNil)))))
def g__law_first_reason : En → Out Fl := sSeq (sFor (iL (cVar 0)) (gSet 2) s__law_first_reason_2) (sRet (cK .non))
def m__law_first_reason : Mf := run false 5 g__law_first_reason
def s_task_body_1 : En → Out Fl := sIf (cB (c2 gEq (cVar 2) (cVar 1))) (sRet (cVar 4)) (sNil)
def g_task_body : En → Out Fl := sSeq (sFor (iT (c2 gGet (cVar 0) (cK (.int 5)))) (gTupD 3 (gsCons (gSet 2) (gsCons (gSet 3) (gsCons (gSet 4) (gsNil))))) s_task_body_1) (sRet (cK .non))
def m_task_body : Mf := run false 5 g_task_body
def g_bodies_of : En → Out Fl := sSeq (sIf (cB (c2 gEq (c2 gGet (cVar 0) (cK (.int 0))) (cK (.str "if")))) (sRet (cTup (aCons (c2 gGet (cVar 0) (cK (.int 4))) (aCons (c2 gGet (cVar 0) (cK (.int 5))) (aNil))))) (sNil)) (sSeq (sIf (cB (c2 (gInX false) (c2 gGet (cVar 0) (cK (.int 0))) (cTup (aCons (cK (.str "loop")) (aCons (cK (.str "hold")) (aNil)))))) (sRet (cTup (aCons (c2 gGet (cVar 0) (cK (.int 2))) (aNil)))) (sNil)) (sRet (cTup (aNil))))
def m_bodies_of : Mf := run false 1 g_bodies_of
def s_statements_of_1 : En → Out Fl := sExp (cM 2 gExtend (aCons (vN (nRevL (cVar 4))) (aNil)))
def s_statements_of_2 : En → Out Fl := sSeq (sSet 3 (cM 2 gPop aNil)) (sSeq (sExp (cM 1 gAppend (aCons (cVar 3) (aNil)))) (sFor (iRv (cCall 1 m_bodies_of (aCons (cVar 3) (aNil)))) (gSet 4) s_statements_of_1))
def g_statements_of : En → Out Fl := sSeq (sSetN 1 (nLst (aNil))) (sSeq (sSetN 2 (nRevL (cVar 0))) (sSeq (whileN (cTru (cVar 2)) s_statements_of_2 100000) (sRet (cVar 1))))
def m_statements_of : Mf := run false 5 g_statements_of
def s_sub_body_1 : En → Out Fl := sIf (cB (c2 gEq (cVar 2) (cVar 1))) (sRet (cVar 3)) (sNil)
def g_sub_body : En → Out Fl := sSeq (sFor (iT (c2 gGet (cVar 0) (cK (.int 4)))) (gTupD 2 (gsCons (gSet 2) (gsCons (gSet 3) (gsNil)))) s_sub_body_1) (sRaise "NoSuch" ["name"] (aCons (cVar 1) (aNil)))
def m_sub_body : Mf := run true 4 g_sub_body
def s_walk_of_1 : En → Out Fl := sSeq (sSet 6 (cM 5 gPop aNil)) (sSeq (sExp (cM 3 gAppend (aCons (cVar 6) (aNil)))) (sIf (cAnd (cB (c2 gEq (c2 gGet (cVar 6) (cK (.int 0))) (cK (.str "call")))) (cB (c2 (gInX true) (c2 gGet (cVar 6) (cK (.int 1))) (cVar 4)))) (sSeq (sExp (cM 4 gAppend (aCons (c2 gGet (cVar 6) (cK (.int 1))) (aNil)))) (sExp (cM 5 gExtend (aCons (vN (nRevL (cCall 1 m_statements_of (aCons (cCall 2 m_sub_body (aCons (cVar 0) (aCons (c2 gGet (cVar 6) (cK (.int 1))) (aNil)))) (aNil))))) (aNil))))) (sNil)))
def g_walk_of : En → Out Fl := sSeq (sSet 2 (cCall 2 m_task_body (aCons (cVar 0) (aCons (cVar 1) (aNil))))) (sSeq (sIf (cB (c2 gIsN (cVar 2) (cK .non))) (sRaise "NoSuch" ["name"] (aCons (cVar 1) (aNil))) (sNil)) (sSeq (sSetN 3 (nLst (aNil))) (sSeq (sSetN 4 (nLst (aNil))) (sSeq (sSetN 5 (nRevL (cCall 1 m_statements_of (aCons (cVar 2) (aNil))))) (sSeq (whileN (cTru (cVar 5)) s_walk_of_1 100000) (sRet (cVar 3)))))))
def m_walk_of : Mf := run true 7 g_walk_of
def g_operands_of : En → Out Fl := sSeq (sSet 1 (c2 gGet (cVar 0) (cK (.int 0)))) (sSeq (sIf (cB (c2 (gInX false) (cVar 1) (cK k_SUMS))) (sRet (cTup (aCons (c2 gGet (cVar 0) (cK (.int 2))) (aCons (c2 gGet (cVar 0) (cK (.int 3))) (aNil))))) (sNil)) (sSeq (sIf (cB (c2 (gInX false) (cVar 1) (cTup (aCons (cK (.str "set")) (aCons (cK (.str "send")) (aNil)))))) (sRet (cTup (aCons (c2 gGet (cVar 0) (cK (.int 2))) (aNil)))) (sNil)) (sSeq (sIf (cB (c2 gEq (cVar 1) (cK (.str "get")))) (sRet (cTup (aCons (c2 gGet (cVar 0) (cK (.int 3))) (aNil)))) (sNil)) (sSeq (sIf (cB (c2 gEq (cVar 1) (cK (.str "put")))) (sRet (cTup (aCons (c2 gGet (cVar 0) (cK (.int 2))) (aCons (c2 gGet (cVar 0) (cK (.int 3))) (aNil))))) (sNil)) (sSeq (sIf (cB (c2 gEq (cVar 1) (cK (.str "if")))) (sRet (cTup (aCons (c2 gGet (cVar 0) (cK (.int 1))) (aCons (c2 gGet (cVar 0) (cK (.int 3))) (aNil))))) (sNil)) (sRet (cTup (aNil))))))))
def m_operands_of : Mf := run false 2 g_operands_of
def e_carries_1 : En → Out Pv := c2 (gInX false) (cVar 2) (cVar 1)
def g_carries : En → Out Fl := sSeq (sIf (cB (c2 gEq (c2 gGet (cVar 0) (cK (.int 0))) (cK (.str "take")))) (sRet (cK (.bl true))) (sNil)) (sSeq (sIf (cOr (cB (c2 gEq (c2 gGet (cVar 0) (cK (.int 0))) (cK (.str "set")))) (cB (c2 (gInX false) (c2 gGet (cVar 0) (cK (.int 0))) (cK k_SUMS)))) (sRet (cN gAny (aCons (vN (nLc (iT (cCall 1 m_operands_of (aCons (cVar 0) (aNil)))) [2] hOne cYes e_carries_1)) (aNil)))) (sNil)) (sRet (cK (.bl false))))
def m_carries : Mf := run false 3 g_carries
def s_carried_names_1 : En → Out Fl := sIf (cAnd (cB (cCall 2 m_carries (aCons (cVar 5) (aCons (cVar 3) (aNil))))) (cB (c2 (gInX true) (c2 gGet (cVar 5) (cK (.int 1))) (cVar 3)))) (sSeq (sExp (cM 3 gAppend (aCons (c2 gGet (cVar 5) (cK (.int 1))) (aNil)))) (sSet 4 (cK (.bl true)))) (sNil)
def s_carried_names_2 : En → Out Fl := sSeq (sSet 4 (cK (.bl false))) (sFor (iL (cVar 2)) (gSet 5) s_carried_names_1)
def g_carried_names : En → Out Fl := sSeq (sSet 2 (cCall 2 m_walk_of (aCons (cVar 0) (aCons (cVar 1) (aNil))))) (sSeq (sSetN 3 (nLst (aNil))) (sSeq (sSet 4 (cK (.bl true))) (sSeq (whileN (cB (cVar 4)) s_carried_names_2 100000) (sRet (cN gToT (aCons (vN (nN gSorted (aCons (cVar 3) (aNil)))) (aNil)))))))
def m_carried_names : Mf := run true 6 g_carried_names
def e_asks_1 : En → Out Pv := c2 (gInX false) (cVar 4) (cVar 1)
def g_asks : En → Out Fl := sSeq (sSet 2 (c2 gGet (cVar 0) (cK (.int 0)))) (sSeq (sSet 3 (vN (nLc (iT (cCall 1 m_operands_of (aCons (cVar 0) (aNil)))) [4] hOne cYes e_asks_1))) (sSeq (sIf (cAnd (cB (c2 gEq (cVar 2) (cK (.str "if")))) (cB (cN gAny (aCons (cVar 3) (aNil))))) (sRet (cK (.str "asked"))) (sNil)) (sSeq (sIf (cAnd (cB (c2 (gInX false) (cVar 2) (cTup (aCons (cK (.str "get")) (aCons (cK (.str "put")) (aNil)))))) (cB (c2 gGet (cVar 3) (cK (.int 0))))) (sRet (cK (.str "index"))) (sNil)) (sSeq (sIf (cAnd (cB (c2 gEq (cVar 2) (cK (.str "put")))) (cB (c2 gGet (cVar 3) (cK (.int 1))))) (sRet (cK (.str "stored"))) (sNil)) (sSeq (sIf (cAnd (cB (c2 gEq (cVar 2) (cK (.str "times")))) (cAnd (cB (c2 gGet (cVar 3) (cK (.int 0)))) (cB (c2 gGet (cVar 3) (cK (.int 1)))))) (sRet (cK (.str "product"))) (sNil)) (sRet (cK .non)))))))
def m_asks : Mf := run false 5 g_asks
def s_carried_fault_1 : En → Out Fl := sSeq (sSet 4 (cCall 2 m_asks (aCons (cVar 3) (aCons (cVar 2) (aNil))))) (sIf (cB (c2 gNotN (cVar 4) (cK .non))) (sRet (cTup (aCons (cVar 1) (aCons (cVar 4) (aNil))))) (sNil))
def g_carried_fault : En → Out Fl := sSeq (sSet 2 (cCall 2 m_carried_names (aCons (cVar 0) (aCons (cVar 1) (aNil))))) (sSeq (sFor (iL (cCall 2 m_walk_of (aCons (cVar 0) (aCons (cVar 1) (aNil))))) (gSet 3) s_carried_fault_1) (sRet (cK .non)))
def m_carried_fault : Mf := run true 5 g_carried_fault
def s__law_is_right_1 : En → Out Fl := sSeq (sSet 2 (cCallA 3 (m__law_walk 25) (anCons (cVar 0) (anCons (c2 gGet (cVar 1) (cK (.int 2))) (anNew (nLst (aNil)) (aNil)))))) (sSeq (sSet 3 (cCall 1 m__law_closure (aCons (cVar 2) (aNil)))) (sSeq (sSet 4 (cCall 2 m__law_first_reason (aCons (cVar 2) (aCons (cVar 3) (aNil))))) (sSeq (sSet 5 (cIte (cB (c2 gNotN (cVar 4) (cK .non))) (cTup (aCons (c2 gGet (cVar 1) (cK (.int 0))) (aCons (cVar 4) (aNil)))) (cK .non))) (sSeq (sSet 6 (cTup (aCons (cCall 2 m_carried_names (aCons (cVar 0) (aCons (c2 gGet (cVar 1) (cK (.int 0))) (aNil)))) (aCons (cCall 2 m_carried_fault (aCons (cVar 0) (aCons (c2 gGet (cVar 1) (cK (.int 0))) (aNil)))) (aNil))))) (sIf (cOr (cB (c2 gNe (cVar 6) (cTup (aCons (cN gToT (aCons (cVar 3) (aNil))) (aCons (cVar 5) (aNil)))))) (cB (c2 gNe (cN gRepr (aCons (cVar 6) (aNil))) (cN gRepr (aCons (cTup (aCons (cN gToT (aCons (cVar 3) (aNil))) (aCons (cVar 5) (aNil)))) (aNil)))))) (sRet (cK (.bl false))) (sNil))))))
def q__law_is_right_2 : En → Out Fl := sFor (iT (c2 gGet (cVar 0) (cK (.int 5)))) (gSet 1) s__law_is_right_1
def g__law_is_right : En → Out Fl := sSeq (q__law_is_right_2) (sRet (cK (.bl true)))
def m__law_is_right : Mf := run false 7 g__law_is_right
def e__law_untaken_1 (R : Mf) : En → Out Pv := cIte (cB (cN gIsi (aCons (cVar 3) (aCons (cK (.ty "tuple")) (aNil))))) (cCall 1 R (aCons (cVar 3) (aNil))) (cVar 3)
def s__law_untaken_2 (R : Mf) : En → Out Fl := sSeq (sIf (cB (c2 gEq (c2 gGet (cVar 2) (cK (.int 0))) (cK (.str "take")))) (sSet 2 (cTup (aCons (cK (.str "set")) (aCons (c2 gGet (cVar 2) (cK (.int 1))) (aCons (cK (.int 0)) (aNil)))))) (sNil)) (sExp (cM 1 gAppend (aCons (cN gToT (aCons (vN (nLc (iT (cVar 2)) [3] hOne cYes (e__law_untaken_1 R))) (aNil))) (aNil))))
def g__law_untaken (R : Mf) : En → Out Fl := sSeq (sSetN 1 (nLst (aNil))) (sSeq (sFor (iT (cVar 0)) (gSet 2) (s__law_untaken_2 R)) (sRet (cN gToT (aCons (cVar 1) (aNil)))))
def m__law_untaken : Nat → Mf
  | 0 => fun _ => .bad
  | k + 1 => run false 4 (g__law_untaken (m__law_untaken k))
def q_law_1 : En → Out Fl := sSet 2 (cCall 2 m__law_names (aCons (cVar 1) (aCons (cK (.int 25)) (aNil))))
def q_law_2 : En → Out Fl := sSet 3 (cCall 2 m__law_tree_of (aCons (cVar 1) (aCons (cVar 2) (aNil))))
def q_law_3 : En → Out Fl := sSet 4 (cCall 2 m__law_tree_of (aCons (cVar 1) (aCons (cVar 2) (aNil))))
def q_law_4 : En → Out Fl := sIf (cOr (cNot (cB (cCall 1 m__law_is_right (aCons (cVar 3) (aNil))))) (cNot (cB (cCall 1 m__law_is_right (aCons (cVar 4) (aNil)))))) (sRet (cK (.bl false))) (sNil)
def e_law_5 : En → Out Pv := cTup (aCons (c2 gGet (cVar 9) (cK (.int 0))) (aCons (cCall 1 (m__law_untaken 6) (aCons (c2 gGet (cVar 9) (cK (.int 1))) (aNil))) (aNil)))
def q_law_6 : En → Out Fl := sSet 5 (cN gToT (aCons (vN (nLc (iT (c2 gGet (cVar 3) (cK (.int 4)))) [9] hOne cYes e_law_5)) (aNil)))
def e_law_7 : En → Out Pv := cTup (aCons (c2 gGet (cVar 8) (cK (.int 0))) (aCons (c2 gGet (cVar 8) (cK (.int 1))) (aCons (cCall 1 (m__law_untaken 6) (aCons (c2 gGet (cVar 8) (cK (.int 2))) (aNil))) (aNil))))
def q_law_8 : En → Out Fl := sSet 6 (cN gToT (aCons (vN (nLc (iT (c2 gGet (cVar 3) (cK (.int 5)))) [8] hOne cYes e_law_7)) (aNil)))
def q_law_9 : En → Out Fl := sSet 7 (c2 gAdd (cSl (cVar 3) (oNone) (oSome (cK (.int 4)))) (cTup (aCons (cVar 5) (aCons (cVar 6) (aNil)))))
def s_law_10 : En → Out Fl := sIf (cOr (cB (c2 gNe (cCall 2 m_carried_names (aCons (cVar 7) (aCons (c2 gGet (cVar 8) (cK (.int 0))) (aNil)))) (cTup (aNil)))) (cB (c2 gNotN (cCall 2 m_carried_fault (aCons (cVar 7) (aCons (c2 gGet (cVar 8) (cK (.int 0))) (aNil)))) (cK .non)))) (sRet (cK (.bl false))) (sNil)
def g_law : En → Out Fl := sSeq (sSetN 1 (nCall 1 mBegin (aCons (cVar 0) (aNil)))) (sSeq (q_law_1) (sSeq (q_law_2) (sSeq (q_law_3) (sSeq (q_law_4) (sSeq (q_law_6) (sSeq (q_law_8) (sSeq (q_law_9) (sSeq (sFor (iT (cVar 6)) (gSet 8) s_law_10) (sRet (cAndV (cCall 1 m__law_is_right (aCons (cVar 7) (aNil))) (cCall 1 m__law_is_right (aCons (cVar 3) (aNil)))))))))))))
def m_law : Mf := run false 10 g_law
abbrev ti_NoSuch : Stmt := clsS (topS 2) 0
theorem sci_NoSuch : FnScope ["self", "name"] ["self", "name"] (defScope ti_NoSuch) := ⟨rfl, rfl, rfl, by decide +kernel, rfl, by decide +kernel, by decide +kernel⟩
/-! ### the walks -/
section
variable {P : Program} {w : World} {K : PySem.W.Frag} {mg : Str → Option Value} {base : Heap}
theorem ok__law_begin (z_int : mg "int" = none) (z_abs : mg "abs" = none) (z_sum : mg "sum" = none) {f : Addr} {fd : FuncData} (F : Fun K "_law_begin" "_law_begin" t__law_begin f fd) : FnG P w K mg base CX0 1 f fd ["script"] (spM false ⟨K, mg⟩ 1 mBegin) :=
  fg_ok F sc__law_begin 3 1 rfl rfl (by decide) fun cdv A outer s H E hr =>
    b_cons (s_setLcV (i := 1) rfl sc__law_begin.nd [("cell", 2)] (show blkC ["script", "cells", "cell"] (defScope t__law_begin) _ [("cell", 2)] = true by decide +kernel) rfl (sw_true rfl rfl rfl (by decide +kernel)) (i_lst (e_sl (dv 0) (o_none) (o_some (d_int)))) (ntg_name 2) (fun _ _ _ _ _ => pg_name (i := 2) sc__law_begin.nd rfl (Or.inl rfl)) (fun _ _ _ _ _ => ts_nil) (fun _ _ _ _ _ => e_abs z_abs (a_cons (e_int z_int (a_cons (dv 2) (a_nil))) (a_nil)))) (b_one (s_retN (n_dic (dp_cons (d_str) (dv 1) (dp_cons (d_str) (d_int) (dp_cons (d_str) (d_int) (dp_cons (d_str) (e_add (d_int) (e_mod (e_int z_int (a_cons (e_sum rfl z_sum (a_cons (dv 1) (a_nil))) (a_nil))) (d_int))) (dp_cons (d_str) (d_int) (dp_nil)))))))))
theorem ok__law_draw (z_len : mg "len" = none) (z_int : mg "int" = none) {f : Addr} {fd : FuncData} (F : Fun K "_law_draw" "_law_draw" t__law_draw f fd) : FnG P w K mg base CX0 1 f fd ["d", "many"] (spM false ⟨K, mg⟩ 2 mDraw) :=
  fg_ok F sc__law_draw 4 2 rfl rfl (by decide) fun cdv A outer s H E hr =>
    b_cons (s_asg (e_add (e_get hr (dv 0) (d_str)) (d_int)) (g_sub (i := 0) hr (d_str))) (b_cons (s_if (t_w (w_and (t_lt (e_get hr (dv 0) (d_str)) (dv 1)) (w_and1 (t_lt (e_get hr (dv 0) (d_str)) (e_len z_len (a_cons (e_get hr (dv 0) (d_str)) (a_nil))))))) (b_cons (s_set (i := 2) sc__law_draw.nd (e_get hr (e_get hr (dv 0) (d_str)) (e_get hr (dv 0) (d_str)))) (b_cons (s_asg (e_add (e_get hr (dv 0) (d_str)) (d_int)) (g_sub (i := 0) hr (d_str))) (b_one (s_if (t_ge (dv 2) (e_pow (d_int) (d_int))) (b_one (s_asg (dv 2) (g_sub (i := 0) hr (d_str)))) (b_one (s_asg (e_mod (e_int z_int (a_cons (e_add (e_add (e_mul (e_get hr (dv 0) (d_str)) (d_int)) (e_mul (dv 2) (d_int))) (e_mul (e_get hr (dv 0) (d_str)) (d_int))) (a_nil))) (d_int)) (g_sub (i := 0) hr (d_str)))))))) (b_nil)) (b_cons (s_if (t_ge (e_get hr (dv 0) (d_str)) (dv 1)) (b_cons (s_set (i := 3) sc__law_draw.nd (e_mod (e_int z_int (a_cons (e_get hr (dv 0) (d_str)) (a_nil))) (dv 1))) (b_cons (s_asg (e_div (e_get hr (dv 0) (d_str)) (dv 1)) (g_sub (i := 0) hr (d_str))) (b_one (s_ret (dv 3))))) (b_nil)) (b_cons (s_asg (e_mod (e_int z_int (a_cons (e_add (e_add (e_mul (e_get hr (dv 0) (d_str)) (d_int)) (e_mul (e_get hr (dv 0) (d_str)) (d_int))) (d_int)) (a_nil))) (d_int)) (g_sub (i := 0) hr (d_str))) (b_one (s_ret (e_mod (e_int z_int (a_cons (e_add (e_div (e_get hr (dv 0) (d_str)) (d_int)) (e_mul (e_mod (e_int z_int (a_cons (e_get hr (dv 0) (d_str)) (a_nil))) (d_int)) (d_int))) (a_nil))) (dv 1)))))))
theorem ok__law_names (G__law_draw : Def0 P w K mg base 1 "_law_draw" 2 mDraw) (z_range : mg "range" = none) (z_str : mg "str" = none) {f : Addr} {fd : FuncData} (F : Fun K "_law_names" "_law_names" t__law_names f fd) : FnG P w K mg base CX0 2 f fd ["d", "many"] (spM false ⟨K, mg⟩ 2 m__law_names) :=
  fg_ok F sc__law_names 4 2 rfl rfl (by decide) fun cdv A outer s H E hr =>
    b_cons (s_set (i := 2) sc__law_names.nd (d_str)) (b_one (s_retN (n_lc rfl sc__law_names.nd [("at", 3)] (show blkC ["d", "many", "letters", "at"] (defScope t__law_names) _ [("at", 3)] = true by decide +kernel) rfl (i_range1 (a_cons (dv 1) (a_nil)) (by rfl) z_range) (ntg_name 3) (fun _ _ _ _ _ => pg_name (i := 3) sc__law_names.nd rfl (Or.inl rfl)) (fun _ _ _ _ _ => ts_nil) (fun _ _ _ _ _ => e_add (e_add (e_get hr (dv 2) (e_call G__law_draw (hr.mono (by decide)) (a_cons (dv 0) (a_cons (d_int) (a_nil))))) (e_get hr (dv 2) (e_call G__law_draw (hr.mono (by decide)) (a_cons (dv 0) (a_cons (d_int) (a_nil)))))) (e_str z_str (a_cons (dv 3) (a_nil)))))))
theorem ok__law_pick (G__law_draw : Def0 P w K mg base 1 "_law_draw" 2 mDraw) (z_len : mg "len" = none) {f : Addr} {fd : FuncData} (F : Fun K "_law_pick" "_law_pick" t__law_pick f fd) : FnG P w K mg base CX0 2 f fd ["d", "row"] (spM false ⟨K, mg⟩ 2 mPick) :=
  fg_ok F sc__law_pick 2 2 rfl rfl (by decide) fun cdv A outer s H E hr =>
    b_one (s_ret (e_get hr (dv 1) (e_call G__law_draw (hr.mono (by decide)) (a_cons (dv 0) (a_cons (e_len z_len (a_cons (dv 1) (a_nil))) (a_nil))))))
theorem ok__law_calm (G__law_draw : Def0 P w K mg base 1 "_law_draw" 2 mDraw) (G__law_pick : Def0 P w K mg base 2 "_law_pick" 2 mPick) {f : Addr} {fd : FuncData} (F : Fun K "_law_calm" "_law_calm" t__law_calm f fd) : FnG P w K mg base CX0 3 f fd ["d", "c"] (spM false ⟨K, mg⟩ 2 m__law_calm) :=
  fg_ok F sc__law_calm 2 2 rfl rfl (by decide) fun cdv A outer s H E hr =>
    b_one (s_ret (d_if (t_eq hr (e_call G__law_draw (hr.mono (by decide)) (a_cons (dv 0) (a_cons (d_int) (a_nil)))) (d_int)) (e_call G__law_pick (hr.mono (by decide)) (a_cons (dv 0) (a_cons (e_get hr (dv 1) (d_str)) (a_nil)))) (e_call G__law_draw (hr.mono (by decide)) (a_cons (dv 0) (a_cons (d_int) (a_nil))))))
theorem ok__law_spare (G__law_draw : Def0 P w K mg base 1 "_law_draw" 2 mDraw) (G__law_pick : Def0 P w K mg base 2 "_law_pick" 2 mPick) {f : Addr} {fd : FuncData} (F : Fun K "_law_spare" "_law_spare" t__law_spare f fd) : FnG P w K mg base CX0 3 f fd ["d", "c"] (spM false ⟨K, mg⟩ 2 m__law_spare) :=
  fg_ok F sc__law_spare 3 2 rfl rfl (by decide) fun cdv A outer s H E hr =>
    b_cons (s_set (i := 2) sc__law_spare.nd (e_call G__law_draw (hr.mono (by decide)) (a_cons (dv 0) (a_cons (d_int) (a_nil))))) (b_cons (s_if (t_lt (dv 2) (d_int)) (b_one (s_ret (e_call G__law_pick (hr.mono (by decide)) (a_cons (dv 0) (a_cons (e_get hr (dv 1) (d_str)) (a_nil)))))) (b_nil)) (b_cons (s_if (t_lt (dv 2) (d_int)) (b_one (s_ret (e_call G__law_pick (hr.mono (by decide)) (a_cons (dv 0) (a_cons (e_get hr (dv 1) (d_str)) (a_nil)))))) (b_nil)) (b_one (s_ret (d_if (t_eq hr (dv 2) (d_int)) (e_call G__law_pick (hr.mono (by decide)) (a_cons (dv 0) (a_cons (e_get hr (dv 1) (d_str)) (a_nil)))) (e_call G__law_draw (hr.mono (by decide)) (a_cons (dv 0) (a_cons (d_int) (a_nil)))))))))
theorem ok__law_asking (G__law_draw : Def0 P w K mg base 1 "_law_draw" 2 mDraw) (G__law_pick : Def0 P w K mg base 2 "_law_pick" 2 mPick) (G__law_calm : Def0 P w K mg base 3 "_law_calm" 2 m__law_calm) (G__law_spare : Def0 P w K mg base 3 "_law_spare" 2 m__law_spare) {f : Addr} {fd : FuncData} (F : Fun K "_law_asking" "_law_asking" t__law_asking f fd) : FnG P w K mg base CX0 4 f fd ["d", "c"] (spM false ⟨K, mg⟩ 2 m__law_asking) :=
  fg_ok F sc__law_asking 4 2 rfl rfl (by decide) fun cdv A outer s H E hr =>
    b_cons (s_set (i := 2) sc__law_asking.nd (e_call G__law_draw (hr.mono (by decide)) (a_cons (dv 0) (a_cons (d_int) (a_nil))))) (b_cons (s_set (i := 3) sc__law_asking.nd (e_call G__law_pick (hr.mono (by decide)) (a_cons (dv 0) (a_cons (d_tup (a_cons (d_str) (a_cons (d_str) (a_cons (d_str) (a_nil))))) (a_nil))))) (b_cons (s_if (t_eq hr (dv 2) (d_int)) (b_one (s_ret (d_tup (a_cons (dv 3) (a_cons (e_call G__law_pick (hr.mono (by decide)) (a_cons (dv 0) (a_cons (e_get hr (dv 1) (d_str)) (a_nil)))) (a_cons (e_call G__law_calm (hr.mono (by decide)) (a_cons (dv 0) (a_cons (dv 1) (a_nil)))) (a_cons (e_call G__law_spare (hr.mono (by decide)) (a_cons (dv 0) (a_cons (dv 1) (a_nil)))) (a_nil)))))))) (b_nil)) (b_cons (s_if (t_eq hr (dv 2) (d_int)) (b_one (s_ret (d_tup (a_cons (d_str) (a_cons (e_call G__law_pick (hr.mono (by decide)) (a_cons (dv 0) (a_cons (e_get hr (dv 1) (d_str)) (a_nil)))) (a_cons (e_call G__law_spare (hr.mono (by decide)) (a_cons (dv 0) (a_cons (dv 1) (a_nil)))) (a_cons (e_call G__law_spare (hr.mono (by decide)) (a_cons (dv 0) (a_cons (dv 1) (a_nil)))) (a_nil)))))))) (b_nil)) (b_cons (s_if (t_w (w_and (t_eq hr (dv 2) (d_int)) (w_and1 (t_val (e_get hr (dv 1) (d_str)))))) (b_one (s_ret (d_tup (a_cons (d_str) (a_cons (e_call G__law_pick (hr.mono (by decide)) (a_cons (dv 0) (a_cons (e_get hr (dv 1) (d_str)) (a_nil)))) (a_cons (e_get hr (dv 1) (d_str)) (a_cons (e_call G__law_spare (hr.mono (by decide)) (a_cons (dv 0) (a_cons (dv 1) (a_nil)))) (a_nil)))))))) (b_nil)) (b_cons (s_if (t_w (w_and (t_eq hr (dv 2) (d_int)) (w_and1 (t_val (e_get hr (dv 1) (d_str)))))) (b_one (s_ret (d_tup (a_cons (d_str) (a_cons (e_get hr (dv 1) (d_str)) (a_cons (e_call G__law_spare (hr.mono (by decide)) (a_cons (dv 0) (a_cons (dv 1) (a_nil)))) (a_cons (e_call G__law_spare (hr.mono (by decide)) (a_cons (dv 0) (a_cons (dv 1) (a_nil)))) (a_nil)))))))) (b_nil)) (b_cons (s_if (t_w (w_and (t_eq hr (dv 2) (d_int)) (w_and1 (t_val (e_get hr (dv 1) (d_str)))))) (b_one (s_ret (d_tup (a_cons (d_str) (a_cons (e_get hr (dv 1) (d_str)) (a_cons (e_call G__law_calm (hr.mono (by decide)) (a_cons (dv 0) (a_cons (dv 1) (a_nil)))) (a_cons (e_call G__law_spare (hr.mono (by decide)) (a_cons (dv 0) (a_cons (dv 1) (a_nil)))) (a_nil)))))))) (b_nil)) (b_cons (s_if (t_eq hr (dv 2) (d_int)) (b_one (s_ret (d_tup (a_cons (d_str) (a_cons (e_call G__law_calm (hr.mono (by decide)) (a_cons (dv 0) (a_cons (dv 1) (a_nil)))) (a_cons (d_str) (a_cons (e_call G__law_spare (hr.mono (by decide)) (a_cons (dv 0) (a_cons (dv 1) (a_nil)))) (a_cons (d_tup (a_cons (d_tup (a_cons (d_str) (a_cons (e_get hr (e_get hr (dv 1) (d_str)) (d_int)) (a_cons (d_int) (a_nil))))) (a_nil))) (a_cons (d_tup (a_nil)) (a_nil)))))))))) (b_nil)) (b_one (s_ret (d_tup (a_cons (d_str) (a_cons (e_call G__law_spare (hr.mono (by decide)) (a_cons (dv 0) (a_cons (dv 1) (a_nil)))) (a_cons (d_str) (a_cons (e_call G__law_calm (hr.mono (by decide)) (a_cons (dv 0) (a_cons (dv 1) (a_nil)))) (a_cons (d_tup (a_nil)) (a_cons (d_tup (a_cons (d_tup (a_cons (d_str) (a_cons (e_get hr (e_get hr (dv 1) (d_str)) (d_int)) (a_cons (d_int) (a_nil))))) (a_nil))) (a_nil)))))))))))))))))
theorem ok__law_telling (G__law_draw : Def0 P w K mg base 1 "_law_draw" 2 mDraw) (G__law_pick : Def0 P w K mg base 2 "_law_pick" 2 mPick) (G__law_spare : Def0 P w K mg base 3 "_law_spare" 2 m__law_spare) (G__law_calm : Def0 P w K mg base 3 "_law_calm" 2 m__law_calm) {f : Addr} {fd : FuncData} (F : Fun K "_law_telling" "_law_telling" t__law_telling f fd) : FnG P w K mg base CX0 4 f fd ["d", "c"] (spM false ⟨K, mg⟩ 2 m__law_telling) :=
  fg_ok F sc__law_telling 5 2 rfl rfl (by decide) fun cdv A outer s H E hr =>
    b_cons (s_set (i := 2) sc__law_telling.nd (e_call G__law_draw (hr.mono (by decide)) (a_cons (dv 0) (a_cons (d_int) (a_nil))))) (b_cons (s_set (i := 3) sc__law_telling.nd (e_call G__law_pick (hr.mono (by decide)) (a_cons (dv 0) (a_cons (e_get hr (dv 1) (d_str)) (a_nil))))) (b_cons (s_set (i := 4) sc__law_telling.nd (e_call G__law_pick (hr.mono (by decide)) (a_cons (dv 0) (a_cons (e_get hr (dv 1) (d_str)) (a_nil))))) (b_cons (s_if (t_eq hr (dv 2) (d_int)) (b_one (s_ret (d_tup (a_cons (d_str) (a_cons (dv 3) (a_cons (e_call G__law_spare (hr.mono (by decide)) (a_cons (dv 0) (a_cons (dv 1) (a_nil)))) (a_nil))))))) (b_nil)) (b_cons (s_if (t_eq hr (dv 2) (d_int)) (b_one (s_ret (d_tup (a_cons (e_call G__law_pick (hr.mono (by decide)) (a_cons (dv 0) (a_cons (d_tup (a_cons (d_str) (a_cons (d_str) (a_nil)))) (a_nil)))) (a_cons (dv 3) (a_cons (e_call G__law_spare (hr.mono (by decide)) (a_cons (dv 0) (a_cons (dv 1) (a_nil)))) (a_cons (e_call G__law_spare (hr.mono (by decide)) (a_cons (dv 0) (a_cons (dv 1) (a_nil)))) (a_nil)))))))) (b_nil)) (b_cons (s_if (t_eq hr (dv 2) (d_int)) (b_one (s_ret (d_tup (a_cons (d_str) (a_cons (dv 3) (a_cons (e_call G__law_calm (hr.mono (by decide)) (a_cons (dv 0) (a_cons (dv 1) (a_nil)))) (a_cons (e_call G__law_spare (hr.mono (by decide)) (a_cons (dv 0) (a_cons (dv 1) (a_nil)))) (a_nil)))))))) (b_nil)) (b_cons (s_if (t_w (w_and (t_eq hr (dv 2) (d_int)) (w_and1 (t_eq hr (e_call G__law_draw (hr.mono (by decide)) (a_cons (dv 0) (a_cons (d_int) (a_nil)))) (d_int))))) (b_one (s_ret (d_tup (a_cons (d_str) (a_cons (dv 3) (a_cons (e_call G__law_pick (hr.mono (by decide)) (a_cons (dv 0) (a_cons (e_get hr (dv 1) (d_str)) (a_nil)))) (a_nil))))))) (b_nil)) (b_cons (s_if (t_w (w_and (t_eq hr (dv 2) (d_int)) (w_and1 (t_ne hr (e_get hr (dv 1) (d_str)) (d_str))))) (b_one (s_ret (d_tup (a_cons (d_str) (a_cons (e_get hr (dv 1) (d_str)) (a_cons (e_call G__law_spare (hr.mono (by decide)) (a_cons (dv 0) (a_cons (dv 1) (a_nil)))) (a_nil))))))) (b_nil)) (b_cons (s_if (t_w (w_and (t_eq hr (dv 2) (d_int)) (w_and1 (t_val (e_get hr (dv 1) (d_str)))))) (b_one (s_ret (d_tup (a_cons (d_str) (a_cons (dv 3) (a_cons (e_get hr (dv 1) (d_str)) (a_cons (e_call G__law_calm (hr.mono (by decide)) (a_cons (dv 0) (a_cons (dv 1) (a_nil)))) (a_nil)))))))) (b_nil)) (b_cons (s_if (t_eq hr (dv 2) (d_int)) (b_one (s_ret (d_tup (a_cons (d_str) (a_cons (dv 4) (a_cons (e_get hr (dv 1) (d_str)) (a_nil))))))) (b_nil)) (b_one (s_ret (d_tup (a_cons (e_call G__law_pick (hr.mono (by decide)) (a_cons (dv 0) (a_cons (d_tup (a_cons (d_str) (a_cons (d_str) (a_cons (d_str) (a_nil))))) (a_nil)))) (a_cons (dv 4) (a_cons (e_call G__law_calm (hr.mono (by decide)) (a_cons (dv 0) (a_cons (dv 1) (a_nil)))) (a_cons (e_call G__law_calm (hr.mono (by decide)) (a_cons (dv 0) (a_cons (dv 1) (a_nil)))) (a_nil)))))))))))))))))
theorem ok__law_bodied {kk : Nat} {R : Mf} (hk : 4 ≤ kk) (G__law_draw : Def0 P w K mg base 1 "_law_draw" 2 mDraw) (G__law_asking : Def0 P w K mg base 4 "_law_asking" 2 m__law_asking) (G__law_bodied : Def0 P w K mg base kk "_law_bodied" 4 R) (G__law_calm : Def0 P w K mg base 3 "_law_calm" 2 m__law_calm) (G__law_pick : Def0 P w K mg base 2 "_law_pick" 2 mPick) (G__law_telling : Def0 P w K mg base 4 "_law_telling" 2 m__law_telling) (z_range : mg "range" = none) (z_len : mg "len" = none) (z_tuple : mg "tuple" = none) {f : Addr} {fd : FuncData} (F : Fun K "_law_bodied" "_law_bodied" t__law_bodied f fd) : FnG P w K mg base CX0 (kk + 1) f fd ["d", "c", "depth", "many"] (spM false ⟨K, mg⟩ 4 (run false 8 (g__law_bodied R))) :=
  fg_ok F sc__law_bodied 8 4 rfl rfl (by decide) fun cdv A outer s H E hr =>
    b_cons (s_setN (i := 4) sc__law_bodied.nd (n_lst (a_nil))) (b_cons (s_for PassesOwn.never rfl (i_range1 (a_cons (dv 3) (a_nil)) (by rfl) z_range) (g_name (i := 5) sc__law_bodied.nd) (b_cons (s_set (i := 6) sc__law_bodied.nd (e_call G__law_draw (hr.mono (by omega)) (a_cons (dv 0) (a_cons (d_int) (a_nil))))) (b_one (s_if (t_lt (dv 6) (e_get hr (dv 1) (d_str))) (b_one (s_expr (e_append (i := 4) (a_cons (e_call G__law_asking (hr.mono (by omega)) (a_cons (dv 0) (a_cons (dv 1) (a_nil)))) (a_nil))))) (b_one (s_if (t_w (w_and (t_eq hr (dv 6) (d_int)) (w_and1 (t_gt (dv 2) (d_int))))) (b_cons (s_set (i := 7) sc__law_bodied.nd (e_call G__law_bodied (hr.mono (by omega)) (a_cons (dv 0) (a_cons (dv 1) (a_cons (e_sub (dv 2) (d_int)) (a_cons (e_call G__law_draw (hr.mono (by omega)) (a_cons (dv 0) (a_cons (d_int) (a_nil)))) (a_nil))))))) (b_one (s_expr (e_append (i := 4) (a_cons (d_tup (a_cons (d_str) (a_cons (e_call G__law_calm (hr.mono (by omega)) (a_cons (dv 0) (a_cons (dv 1) (a_nil)))) (a_cons (d_str) (a_cons (d_int) (a_cons (dv 7) (a_cons (e_call G__law_bodied (hr.mono (by omega)) (a_cons (dv 0) (a_cons (dv 1) (a_cons (e_sub (dv 2) (d_int)) (a_cons (e_call G__law_draw (hr.mono (by omega)) (a_cons (dv 0) (a_cons (d_int) (a_nil)))) (a_nil)))))) (a_nil)))))))) (a_nil)))))) (b_one (s_if (t_w (w_and (t_eq hr (dv 6) (d_int)) (w_and1 (t_gt (dv 2) (d_int))))) (b_one (s_expr (e_append (i := 4) (a_cons (d_tup (a_cons (d_str) (a_cons (e_add (d_int) (e_call G__law_draw (hr.mono (by omega)) (a_cons (dv 0) (a_cons (d_int) (a_nil))))) (a_cons (e_call G__law_bodied (hr.mono (by omega)) (a_cons (dv 0) (a_cons (dv 1) (a_cons (e_sub (dv 2) (d_int)) (a_cons (e_add (d_int) (e_call G__law_draw (hr.mono (by omega)) (a_cons (dv 0) (a_cons (d_int) (a_nil))))) (a_nil)))))) (a_nil))))) (a_nil))))) (b_one (s_if (t_w (w_and (t_inX hr (dv 6) (d_tup (a_cons (d_int) (a_cons (d_int) (a_nil))))) (w_and1 (t_gt (e_len z_len (a_cons (e_get hr (dv 1) (d_str)) (a_nil))) (d_int))))) (b_one (s_expr (e_append (i := 4) (a_cons (d_tup (a_cons (d_str) (a_cons (e_call G__law_pick (hr.mono (by omega)) (a_cons (dv 0) (a_cons (e_get hr (dv 1) (d_str)) (a_nil)))) (a_nil)))) (a_nil))))) (b_one (s_if (t_w (w_and (t_eq hr (dv 6) (d_int)) (w_and (t_eq hr (dv 2) (d_int)) (w_and1 (t_val (e_get hr (dv 1) (d_str))))))) (b_one (s_expr (e_append (i := 4) (a_cons (d_tup (a_cons (d_str) (a_cons (e_get hr (dv 1) (d_str)) (a_cons (e_call G__law_bodied (hr.mono (by omega)) (a_cons (dv 0) (a_cons (dv 1) (a_cons (d_int) (a_cons (e_add (d_int) (e_call G__law_draw (hr.mono (by omega)) (a_cons (dv 0) (a_cons (d_int) (a_nil))))) (a_nil)))))) (a_nil))))) (a_nil))))) (b_one (s_expr (e_append (i := 4) (a_cons (e_call G__law_telling (hr.mono (by omega)) (a_cons (dv 0) (a_cons (dv 1) (a_nil)))) (a_nil))))))))))))))))) (b_one (s_ret (e_toT z_tuple (a_cons (dv 4) (a_nil))))))
theorem ok__law_rare (G__law_draw : Def0 P w K mg base 1 "_law_draw" 2 mDraw) {f : Addr} {fd : FuncData} (F : Fun K "_law_rare" "_law_rare" t__law_rare f fd) : FnG P w K mg base CX0 2 f fd ["d", "many"] (spM false ⟨K, mg⟩ 2 mRare) :=
  fg_ok F sc__law_rare 2 2 rfl rfl (by decide) fun cdv A outer s H E hr =>
    b_one (s_ret (e_eq hr (e_call G__law_draw (hr.mono (by decide)) (a_cons (dv 0) (a_cons (dv 1) (a_nil)))) (d_int)))
theorem ok__law_with_row (G__law_draw : Def0 P w K mg base 1 "_law_draw" 2 mDraw) (z_reversed : mg "reversed" = none) (z_range : mg "range" = none) (z_len : mg "len" = none) (z_min : mg "min" = none) {f : Addr} {fd : FuncData} (F : Fun K "_law_with_row" "_law_with_row" t__law_with_row f fd) : FnG P w K mg base CX0 2 f fd ["d", "c", "body"] (spM false ⟨K, mg⟩ 3 m__law_with_row) :=
  fg_ok F sc__law_with_row 7 3 rfl rfl (by decide) fun cdv A outer s H E hr =>
    b_cons (s_setLcV (i := 3) rfl sc__law_with_row.nd [("at", 6)] (show blkC ["d", "c", "body", "pieces", "piece", "place", "at"] (defScope t__law_with_row) _ [("at", 6)] = true by decide +kernel) rfl (sw_true rfl rfl rfl (by decide +kernel)) (i_revR (d_int) (by rfl) z_reversed (by rfl) z_range) (ntg_name 6) (fun _ _ _ _ _ => pg_name (i := 6) sc__law_with_row.nd rfl (Or.inl rfl)) (fun _ _ _ _ _ => ts_nil) (fun _ _ _ _ _ => d_tup (a_cons (d_str) (a_cons (e_get hr (e_get hr (dv 1) (d_str)) (e_add (dv 6) (d_int))) (a_cons (e_get hr (e_get hr (dv 1) (d_str)) (dv 6)) (a_nil)))))) (b_cons (s_set (i := 3) sc__law_with_row.nd (d_if (t_eq hr (e_call G__law_draw (hr.mono (by decide)) (a_cons (dv 0) (a_cons (d_int) (a_nil)))) (d_int)) (e_sl (dv 3) (o_none) (o_some (e_add (d_int) (e_call G__law_draw (hr.mono (by decide)) (a_cons (dv 0) (a_cons (d_int) (a_nil))))))) (dv 3))) (b_cons (s_if (t_eq hr (e_call G__law_draw (hr.mono (by decide)) (a_cons (dv 0) (a_cons (d_int) (a_nil)))) (d_int)) (b_one (s_set (i := 3) sc__law_with_row.nd (e_add (dv 3) ((n_lst (a_cons (d_tup (a_cons (d_str) (a_cons (e_get hr (e_get hr (dv 1) (d_str)) (d_int)) (a_cons (e_get hr (e_get hr (dv 1) (d_str)) (d_int)) (a_nil))))) (a_nil))).val)))) (b_nil)) (b_cons (s_if (t_eq hr (e_call G__law_draw (hr.mono (by decide)) (a_cons (dv 0) (a_cons (d_int) (a_nil)))) (d_int)) (b_one (s_set (i := 3) sc__law_with_row.nd (e_add ((n_lst (a_cons (d_tup (a_cons (d_str) (a_cons (e_get hr (e_get hr (dv 1) (d_str)) (d_int)) (a_cons (d_int) (a_cons (e_get hr (e_get hr (dv 1) (d_str)) (d_int)) (a_nil)))))) (a_nil))).val) (dv 3)))) (b_nil)) (b_cons (s_if (t_w (w_and (t_gt (e_get hr (dv 1) (d_str)) (d_int)) (w_and1 (t_eq hr (e_call G__law_draw (hr.mono (by decide)) (a_cons (dv 0) (a_cons (d_int) (a_nil)))) (d_int))))) (b_one (s_set (i := 3) sc__law_with_row.nd (e_add ((n_lst (a_cons (d_tup (a_cons (d_str) (a_cons (d_int) (a_cons (d_str) (a_cons (e_get hr (e_get hr (dv 1) (d_str)) (d_int)) (a_cons (d_tup (a_nil)) (a_cons (d_tup (a_nil)) (a_nil)))))))) (a_nil))).val) (dv 3)))) (b_nil)) (b_cons (s_for PassesOwn.never rfl (i_rev (dv 3) (by rfl) z_reversed) (g_name (i := 4) sc__law_with_row.nd) (b_cons (s_set (i := 5) sc__law_with_row.nd (e_call G__law_draw (hr.mono (by decide)) (a_cons (dv 0) (a_cons (e_add (d_int) (e_min rfl z_min (a_cons (d_int) (a_cons (e_len z_len (a_cons (dv 2) (a_nil))) (a_nil))))) (a_nil))))) (b_one (s_set (i := 2) sc__law_with_row.nd (e_add (e_add (e_sl (dv 2) (o_none) (o_some (dv 5))) (d_tup (a_cons (dv 4) (a_nil)))) (e_sl (dv 2) (o_some (dv 5)) (o_none))))))) (b_one (s_ret (dv 2))))))))
theorem ok__law_count {kk : Nat} {R : Mf} (hk : 0 ≤ kk) (G__law_count : Def0 P w K mg base kk "_law_count" 1 R) (z_tuple : mg "tuple" = none) (z_isinstance : mg "isinstance" = none) {f : Addr} {fd : FuncData} (F : Fun K "_law_count" "_law_count" t__law_count f fd) : FnG P w K mg base CX0 (kk + 1) f fd ["body"] (spM false ⟨K, mg⟩ 1 (run false 4 (g__law_count R))) :=
  fg_ok F sc__law_count 4 1 rfl rfl (by decide) fun cdv A outer s H E hr =>
    b_cons (s_set (i := 1) sc__law_count.nd (d_int)) (b_cons (s_for PassesOwn.never rfl (i_tup (dv 0)) (g_name (i := 2) sc__law_count.nd) (b_cons (s_set (i := 1) sc__law_count.nd (e_add (dv 1) (d_int))) (b_one (s_for PassesOwn.never rfl (i_tup (dv 2)) (g_name (i := 3) sc__law_count.nd) (b_one (s_if (t_val (e_isi z_isinstance (a_cons (dv 3) (a_cons (d_bty z_tuple rfl) (a_nil))))) (b_one (s_set (i := 1) sc__law_count.nd (e_add (dv 1) (e_call G__law_count (hr.mono (by omega)) (a_cons (dv 3) (a_nil)))))) (b_nil))))))) (b_one (s_ret (dv 1))))
theorem ok__law_cut (G__law_count : Def0 P w K mg base 6 "_law_count" 1 (m__law_count 6)) (z_len : mg "len" = none) (z_range : mg "range" = none) {f : Addr} {fd : FuncData} (F : Fun K "_law_cut" "_law_cut" t__law_cut f fd) : FnG P w K mg base CX0 7 f fd ["body"] (spM false ⟨K, mg⟩ 1 m__law_cut) :=
  fg_ok F sc__law_cut 2 1 rfl rfl (by decide) fun cdv A outer s H E hr =>
    b_cons (s_for PassesOwn.never rfl (i_range1 (a_cons (e_len z_len (a_cons (dv 0) (a_nil))) (a_nil)) (by rfl) z_range) (g_name (i := 1) sc__law_cut.nd) (b_one (s_if (t_gt (e_call G__law_count (hr.mono (by decide)) (a_cons (dv 0) (a_nil))) (d_int)) (b_one (s_set (i := 0) sc__law_cut.nd (e_sl (dv 0) (o_some (d_int)) (o_none)))) (b_nil)))) (b_one (s_ret (dv 0)))
theorem ok__law_tree_of (G__law_pick : Def0 P w K mg base 2 "_law_pick" 2 mPick) (G__law_draw : Def0 P w K mg base 1 "_law_draw" 2 mDraw) (G__law_bodied : Def0 P w K mg base 8 "_law_bodied" 4 (m__law_bodied 4)) (G__law_rare : Def0 P w K mg base 2 "_law_rare" 2 mRare) (G__law_with_row : Def0 P w K mg base 2 "_law_with_row" 3 m__law_with_row) (G__law_cut : Def0 P w K mg base 7 "_law_cut" 1 m__law_cut) (z_range : mg "range" = none) (z_len : mg "len" = none) (z_tuple : mg "tuple" = none) {f : Addr} {fd : FuncData} (F : Fun K "_law_tree_of" "_law_tree_of" t__law_tree_of f fd) : FnG P w K mg base CX0 9 f fd ["d", "names"] (spM false ⟨K, mg⟩ 2 m__law_tree_of) :=
  fg_ok F sc__law_tree_of 9 2 rfl rfl (by decide) fun cdv A outer s H E hr =>
    b_cons (s_setN (i := 2) sc__law_tree_of.nd (n_dic (dp_cons (d_str) (e_sl (dv 1) (o_none) (o_some (d_int))) (dp_cons (d_str) (e_sl (dv 1) (o_some (d_int)) (o_some (d_int))) (dp_cons (d_str) (e_sl (dv 1) (o_some (d_int)) (o_some (d_int))) (dp_cons (d_str) (e_get hr (dv 1) (d_int)) (dp_cons (d_str) (e_get hr (dv 1) (d_int)) (dp_cons (d_str) (e_get hr (dv 1) (d_int)) (dp_cons (d_str) ((n_lst (a_nil)).val) (dp_cons (d_str) (d_bl) (dp_cons (d_str) (e_call G__law_pick (hr.mono (by decide)) (a_cons (dv 0) (a_cons (d_tup (a_cons (d_int) (a_cons (d_int) (a_cons (d_int) (a_cons (d_int) (a_cons (d_int) (a_nil))))))) (a_nil)))) (dp_cons (d_str) (d_str) (dp_nil))))))))))))) (b_cons (s_asg (e_sl (dv 1) (o_some (d_int)) (o_some (e_add (d_int) (e_call G__law_draw (hr.mono (by decide)) (a_cons (dv 0) (a_cons (d_int) (a_nil))))))) (g_sub (i := 2) hr (d_str))) (b_cons (s_setN (i := 3) sc__law_tree_of.nd (n_lst (a_nil))) (b_cons (s_for PassesOwn.never rfl (i_range1 (a_cons (e_call G__law_draw (hr.mono (by decide)) (a_cons (dv 0) (a_cons (d_int) (a_nil)))) (a_nil)) (by rfl) z_range) (g_name (i := 4) sc__law_tree_of.nd) (b_cons (s_set (i := 5) sc__law_tree_of.nd (e_call G__law_bodied (hr.mono (by decide)) (a_cons (dv 0) (a_cons (dv 2) (a_cons (d_int) (a_cons (e_call G__law_draw (hr.mono (by decide)) (a_cons (dv 0) (a_cons (d_int) (a_nil)))) (a_nil))))))) (b_cons (s_if (t_val (e_call G__law_rare (hr.mono (by decide)) (a_cons (dv 0) (a_cons (d_int) (a_nil))))) (b_one (s_set (i := 5) sc__law_tree_of.nd (e_call G__law_with_row (hr.mono (by decide)) (a_cons (dv 0) (a_cons (dv 2) (a_cons (dv 5) (a_nil))))))) (b_nil)) (b_cons (s_expr (e_append (i := 3) (a_cons (d_tup (a_cons (e_get hr (dv 1) (e_add (d_int) (dv 4))) (a_cons (e_call G__law_cut (hr.mono (by decide)) (a_cons (dv 5) (a_nil))) (a_nil)))) (a_nil)))) (b_one (s_asg (e_add (e_get hr (dv 2) (d_str)) ((n_lst (a_cons (e_get hr (dv 1) (e_add (d_int) (dv 4))) (a_nil))).val)) (g_sub (i := 2) hr (d_str)))))))) (b_cons (s_asg (d_bl) (g_sub (i := 2) hr (d_str))) (b_cons (s_setN (i := 6) sc__law_tree_of.nd (n_lst (a_nil))) (b_cons (s_for PassesOwn.never rfl (i_range1 (a_cons (e_add (d_int) (e_call G__law_draw (hr.mono (by decide)) (a_cons (dv 0) (a_cons (d_int) (a_nil))))) (a_nil)) (by rfl) z_range) (g_name (i := 4) sc__law_tree_of.nd) (b_cons (s_asg (d_if (t_lt (dv 4) (e_len z_len (a_cons (e_get hr (dv 2) (d_str)) (a_nil)))) (e_get hr (e_get hr (dv 2) (d_str)) (dv 4)) (d_str)) (g_sub (i := 2) hr (d_str))) (b_cons (s_set (i := 5) sc__law_tree_of.nd (e_call G__law_bodied (hr.mono (by decide)) (a_cons (dv 0) (a_cons (dv 2) (a_cons (d_int) (a_cons (e_add (d_int) (e_call G__law_draw (hr.mono (by decide)) (a_cons (dv 0) (a_cons (d_int) (a_nil))))) (a_nil))))))) (b_cons (s_if (t_eq hr (e_call G__law_draw (hr.mono (by decide)) (a_cons (dv 0) (a_cons (d_int) (a_nil)))) (d_int)) (b_one (s_set (i := 5) sc__law_tree_of.nd (e_call G__law_with_row (hr.mono (by decide)) (a_cons (dv 0) (a_cons (dv 2) (a_cons (dv 5) (a_nil))))))) (b_nil)) (b_one (s_expr (e_append (i := 6) (a_cons (d_tup (a_cons (e_get hr (dv 1) (e_add (d_int) (dv 4))) (a_cons (d_tup (a_cons (d_tup (a_cons (e_get hr (dv 1) (d_int)) (a_cons (e_add (d_int) (e_call G__law_draw (hr.mono (by decide)) (a_cons (dv 0) (a_cons (d_int) (a_nil))))) (a_nil)))) (a_nil))) (a_cons (e_call G__law_cut (hr.mono (by decide)) (a_cons (dv 5) (a_nil))) (a_nil))))) (a_nil))))))))) (b_cons (s_set (i := 7) sc__law_tree_of.nd (e_toT z_tuple (a_cons ((n_lc rfl sc__law_tree_of.nd [("name", 8)] (show blkC ["d", "names", "c", "subs", "at", "body", "entries", "channels", "name"] (defScope t__law_tree_of) _ [("name", 8)] = true by decide +kernel) rfl (i_lst (e_get hr (dv 2) (d_str))) (ntg_name 8) (fun _ _ _ _ _ => pg_name (i := 8) sc__law_tree_of.nd rfl (Or.inl rfl)) (fun _ _ _ _ _ => ts_nil) (fun _ _ _ _ _ => d_tup (a_cons (dv 8) (a_cons (e_call G__law_draw (hr.mono (by decide)) (a_cons (dv 0) (a_cons (d_int) (a_nil)))) (a_nil))))).val) (a_nil)))) (b_one (s_ret (d_tup (a_cons (d_int) (a_cons (d_tup (a_cons (d_tup (a_cons (e_get hr (dv 1) (d_int)) (a_cons (d_int) (a_nil)))) (a_nil))) (a_cons (dv 7) (a_cons (d_tup (a_cons (e_get hr (dv 1) (d_int)) (a_nil))) (a_cons (e_toT z_tuple (a_cons (dv 3) (a_nil))) (a_cons (e_toT z_tuple (a_cons (dv 6) (a_nil))) (a_nil)))))))))))))))))
theorem ok__law_values {f : Addr} {fd : FuncData} (F : Fun K "_law_values" "_law_values" t__law_values f fd) : FnG P w K mg base CX0 1 f fd ["pairs", "name"] (spM false ⟨K, mg⟩ 2 m__law_values) :=
  fg_ok F sc__law_values 3 2 rfl rfl (by decide) fun cdv A outer s H E hr =>
    b_cons (s_for PassesOwn.never rfl (i_tup (dv 0)) (g_name (i := 2) sc__law_values.nd) (b_one (s_if (t_eq hr (e_get hr (dv 2) (d_int)) (dv 1)) (b_one (s_ret (e_get hr (dv 2) (d_int)))) (b_nil)))) (b_one (s_ret (d_int)))
theorem ok__law_walk {kk : Nat} {R : Mf} (hk : 1 ≤ kk) (G__law_walk : Def0 P w K mg base kk "_law_walk" 3 R) (G__law_values : Def0 P w K mg base 1 "_law_values" 2 m__law_values) (z_tuple : mg "tuple" = none) (z_isinstance : mg "isinstance" = none) {f : Addr} {fd : FuncData} (F : Fun K "_law_walk" "_law_walk" t__law_walk f fd) : FnG P w K mg base CX0 (kk + 1) f fd ["tree", "body", "seen"] (spM false ⟨K, mg⟩ 3 (run false 6 (g__law_walk R))) :=
  fg_ok F sc__law_walk 6 3 rfl rfl (by decide) fun cdv A outer s H E hr =>
    b_cons (s_setN (i := 3) sc__law_walk.nd (n_lst (a_nil))) (b_cons (s_for PassesOwn.never rfl (i_tup (dv 1)) (g_name (i := 4) sc__law_walk.nd) (b_cons (s_expr (e_append (i := 3) (a_cons (dv 4) (a_nil)))) (b_cons (s_for PassesOwn.never rfl (i_tup (dv 4)) (g_name (i := 5) sc__law_walk.nd) (b_one (s_if (t_val (e_isi z_isinstance (a_cons (dv 5) (a_cons (d_bty z_tuple rfl) (a_nil))))) (b_one (s_expr (e_extend (i := 3) (a_cons (e_call G__law_walk (hr.mono (by omega)) (a_cons (dv 0) (a_cons (dv 5) (a_cons (dv 2) (a_nil))))) (a_nil))))) (b_nil)))) (b_one (s_if (t_w (w_and (t_eq hr (e_get hr (dv 4) (d_int)) (d_str)) (w_and1 (t_ninX hr (e_get hr (dv 4) (d_int)) (dv 2))))) (b_cons (s_expr (e_append (i := 2) (a_cons (e_get hr (dv 4) (d_int)) (a_nil)))) (b_one (s_expr (e_extend (i := 3) (a_cons (e_call G__law_walk (hr.mono (by omega)) (a_cons (dv 0) (a_cons (e_call G__law_values (hr.mono (by omega)) (a_cons (e_get hr (dv 0) (d_int)) (a_cons (e_get hr (dv 4) (d_int)) (a_nil)))) (a_cons (dv 2) (a_nil))))) (a_nil)))))) (b_nil)))))) (b_one (s_ret (dv 3))))
theorem ok__law_closure (z_len : mg "len" = none) (z_range : mg "range" = none) (z_sorted : mg "sorted" = none) {f : Addr} {fd : FuncData} (F : Fun K "_law_closure" "_law_closure" t__law_closure f fd) : FnG P w K mg base CX0 1 f fd ["walk"] (spM false ⟨K, mg⟩ 1 m__law_closure) :=
  fg_ok F sc__law_closure 8 1 rfl rfl (by decide) fun cdv A outer s H E hr =>
    b_cons (s_setLcV (i := 1) rfl sc__law_closure.nd [("one", 6)] (show blkC ["walk", "reached", "givings", "found", "turn", "fresh", "one", "name"] (defScope t__law_closure) _ [("one", 6)] = true by decide +kernel) rfl (sw_true rfl rfl rfl (by decide +kernel)) (i_lst (dv 0)) (ntg_name 6) (fun _ _ _ _ _ => pg_name (i := 6) sc__law_closure.nd rfl (Or.inl rfl)) (fun _ _ _ _ _ => ts_one (t_eq hr (e_get hr (dv 6) (d_int)) (d_str))) (fun _ _ _ _ _ => e_get hr (dv 6) (d_int))) (b_cons (s_setLcV (i := 2) rfl sc__law_closure.nd [("one", 6)] (show blkC ["walk", "reached", "givings", "found", "turn", "fresh", "one", "name"] (defScope t__law_closure) _ [("one", 6)] = true by decide +kernel) rfl (sw_true rfl rfl rfl (by decide +kernel)) (i_lst (dv 0)) (ntg_name 6) (fun _ _ _ _ _ => pg_name (i := 6) sc__law_closure.nd rfl (Or.inl rfl)) (fun _ _ _ _ _ => ts_one (t_inX hr (e_get hr (dv 6) (d_int)) (d_tup (a_cons (d_str) (a_cons (d_str) (a_cons (d_str) (a_cons (d_str) (a_nil)))))))) (fun _ _ _ _ _ => dv 6)) (b_cons (s_setN (i := 3) sc__law_closure.nd (n_lst (a_nil))) (b_cons (s_for PassesOwn.never rfl (i_range1 (a_cons (e_add (e_len z_len (a_cons (dv 0) (a_nil))) (d_int)) (a_nil)) (by rfl) z_range) (g_name (i := 4) sc__law_closure.nd) (b_cons (s_set (i := 5) sc__law_closure.nd ((n_lc rfl sc__law_closure.nd [("name", 7)] (show blkC ["walk", "reached", "givings", "found", "turn", "fresh", "one", "name"] (defScope t__law_closure) _ [("name", 7)] = true by decide +kernel) rfl (i_lst (dv 1)) (ntg_name 7) (fun _ _ _ _ _ => pg_name (i := 7) sc__law_closure.nd rfl (Or.inl rfl)) (fun _ _ _ _ _ => ts_one (t_ninX hr (dv 7) (dv 3))) (fun _ _ _ _ _ => dv 7)).val)) (b_cons (s_if (t_eq hr (e_len z_len (a_cons (dv 5) (a_nil))) (d_int)) (b_one (s_retN (n_sorted rfl z_sorted (a_cons (dv 3) (a_nil))))) (b_nil)) (b_cons (s_expr (e_append (i := 3) (a_cons (e_get hr (dv 5) (d_int)) (a_nil)))) (b_one (s_set (i := 1) sc__law_closure.nd (e_add (dv 1) ((n_lc rfl sc__law_closure.nd [("one", 6)] (show blkC ["walk", "reached", "givings", "found", "turn", "fresh", "one", "name"] (defScope t__law_closure) _ [("one", 6)] = true by decide +kernel) rfl (i_lst (dv 2)) (ntg_name 6) (fun _ _ _ _ _ => pg_name (i := 6) sc__law_closure.nd rfl (Or.inl rfl)) (fun _ _ _ _ _ => ts_one (t_inX hr (e_get hr (dv 5) (d_int)) (e_sl (dv 6) (o_some (d_int)) (o_none)))) (fun _ _ _ _ _ => e_get hr (dv 6) (d_int))).val)))))))) (b_one (s_retN (n_sorted rfl z_sorted (a_cons (dv 3) (a_nil))))))))
theorem ok__law_first_reason {f : Addr} {fd : FuncData} (F : Fun K "_law_first_reason" "_law_first_reason" t__law_first_reason f fd) : FnG P w K mg base CX0 1 f fd ["walk", "carried"] (spM false ⟨K, mg⟩ 2 m__law_first_reason) :=
  fg_ok F sc__law_first_reason 5 2 rfl rfl (by decide) fun cdv A outer s H E hr =>
    b_cons (s_for PassesOwn.never rfl (i_lst (dv 0)) (g_name (i := 2) sc__law_first_reason.nd) (b_cons (s_setLcV (i := 3) rfl sc__law_first_reason.nd [("part", 4)] (show blkC ["walk", "carried", "one", "hits", "part"] (defScope t__law_first_reason) _ [("part", 4)] = true by decide +kernel) rfl (sw_true rfl rfl rfl (by decide +kernel)) (i_tup (e_sl (dv 2) (o_some (d_int)) (o_some (d_int)))) (ntg_name 4) (fun _ _ _ _ _ => pg_name (i := 4) sc__law_first_reason.nd rfl (Or.inl rfl)) (fun _ _ _ _ _ => ts_nil) (fun _ _ _ _ _ => e_inX hr (dv 4) (dv 1))) (b_cons (s_if (t_w (w_and (t_eq hr (e_get hr (dv 2) (d_int)) (d_str)) (w_and1 (t_w (w_or (t_val (e_get hr (dv 3) (d_int))) (w_or1 (t_val (e_get hr (dv 3) (d_int))))))))) (b_one (s_ret (d_str))) (b_nil)) (b_cons (s_if (t_w (w_or (t_w (w_and (t_eq hr (e_get hr (dv 2) (d_int)) (d_str)) (w_and1 (t_val (e_get hr (dv 3) (d_int)))))) (w_or1 (t_w (w_and (t_eq hr (e_get hr (dv 2) (d_int)) (d_str)) (w_and1 (t_val (e_get hr (dv 3) (d_int))))))))) (b_one (s_ret (d_str))) (b_nil)) (b_cons (s_if (t_w (w_and (t_eq hr (e_get hr (dv 2) (d_int)) (d_str)) (w_and1 (t_val (e_get hr (dv 3) (d_int)))))) (b_one (s_ret (d_str))) (b_nil)) (b_one (s_if (t_w (w_and (t_eq hr (e_get hr (dv 2) (d_int)) (d_str)) (w_and (t_val (e_get hr (dv 3) (d_int))) (w_and1 (t_val (e_get hr (dv 3) (d_int))))))) (b_one (s_ret (d_str))) (b_nil)))))))) (b_one (s_ret (d_non)))
theorem ok_task_body {f : Addr} {fd : FuncData} (F : Fun K "task_body" "task_body" t_task_body f fd) : FnG P w K mg base CX0 1 f fd ["tree", "name"] (spM false ⟨K, mg⟩ 2 m_task_body) :=
  fg_ok F sc_task_body 5 2 rfl rfl (by decide) fun cdv A outer s H E hr =>
    b_cons (s_for PassesOwn.never rfl (i_tup (e_get hr (dv 0) (d_int))) (g_tup 3 rfl (gs_cons (g_name (i := 2) sc_task_body.nd) (gs_cons (g_name (i := 3) sc_task_body.nd) (gs_cons (g_name (i := 4) sc_task_body.nd) (gs_nil))))) (b_one (s_if (t_eq hr (dv 2) (dv 1)) (b_one (s_ret (dv 4))) (b_nil)))) (b_one (s_ret (d_non)))
theorem ok_bodies_of {f : Addr} {fd : FuncData} (F : Fun K "bodies_of" "bodies_of" t_bodies_of f fd) : FnG P w K mg base CX0 1 f fd ["statement"] (spM false ⟨K, mg⟩ 1 m_bodies_of) :=
  fg_ok F sc_bodies_of 1 1 rfl rfl (by decide) fun cdv A outer s H E hr =>
    b_cons (s_if (t_eq hr (e_get hr (dv 0) (d_int)) (d_str)) (b_one (s_ret (d_tup (a_cons (e_get hr (dv 0) (d_int)) (a_cons (e_get hr (dv 0) (d_int)) (a_nil)))))) (b_nil)) (b_cons (s_if (t_inX hr (e_get hr (dv 0) (d_int)) (d_tup (a_cons (d_str) (a_cons (d_str) (a_nil))))) (b_one (s_ret (d_tup (a_cons (e_get hr (dv 0) (d_int)) (a_nil))))) (b_nil)) (b_one (s_ret (d_tup (a_nil)))))
theorem ok_statements_of (G_bodies_of : Def0 P w K mg base 1 "bodies_of" 1 m_bodies_of) (z_list : mg "list" = none) (z_reversed : mg "reversed" = none) {f : Addr} {fd : FuncData} (F : Fun K "statements_of" "statements_of" t_statements_of f fd) : FnG P w K mg base CX0 2 f fd ["body"] (spM false ⟨K, mg⟩ 1 m_statements_of) :=
  fg_ok F sc_statements_of 5 1 rfl rfl (by decide) fun cdv A outer s H E hr =>
    b_cons (s_setN (i := 1) sc_statements_of.nd (n_lst (a_nil))) (b_cons (s_setN (i := 2) sc_statements_of.nd (n_lrev rfl z_list z_reversed (dv 0))) (b_cons (s_while 100000 PassesOwn.never (t_tru (dv 2)) (b_cons (s_set (i := 3) sc_statements_of.nd (e_pop (i := 2))) (b_cons (s_expr (e_append (i := 1) (a_cons (dv 3) (a_nil)))) (b_one (s_for PassesOwn.never rfl (i_rev (e_call G_bodies_of (hr.mono (by decide)) (a_cons (dv 3) (a_nil))) (by rfl) z_reversed) (g_name (i := 4) sc_statements_of.nd) (b_one (s_expr (e_extend (i := 2) (a_cons ((n_lrev rfl z_list z_reversed (dv 4)).val) (a_nil)))))))))) (b_one (s_ret (dv 1)))))
theorem ok_sub_body (Z_NoSuch : RzT P w K mg base 1 "NoSuch" ["name"]) {f : Addr} {fd : FuncData} (F : Fun K "sub_body" "sub_body" t_sub_body f fd) : FnG P w K mg base (L2.CX P w) 3 f fd ["tree", "name"] (spM true ⟨K, mg⟩ 2 m_sub_body) :=
  fg_okX F sc_sub_body 4 2 rfl rfl (by decide) fun cdv A outer s H E hr =>
    b_cons (s_for (passes_of rfl) rfl (i_tup (e_get hr (dv 0) (d_int))) (g_tup 2 rfl (gs_cons (g_name (i := 2) sc_sub_body.nd) (gs_cons (g_name (i := 3) sc_sub_body.nd) (gs_nil)))) (b_one (s_if (t_eq hr (dv 2) (dv 1)) (b_one (s_ret (dv 3))) (b_nil)))) (b_one (s_raiseR Z_NoSuch (hr.mono (by decide)) rfl (takes_of rfl rfl rfl rfl) (a_cons (dv 1) (a_nil))))
theorem ok_walk_of (G_task_body : Def0 P w K mg base 1 "task_body" 2 m_task_body) (G_statements_of : Def0 P w K mg base 2 "statements_of" 1 m_statements_of) (G_sub_body : DefX P w K mg base 3 "sub_body" 2 m_sub_body) (Z_NoSuch : RzT P w K mg base 1 "NoSuch" ["name"]) (z_list : mg "list" = none) (z_reversed : mg "reversed" = none) {f : Addr} {fd : FuncData} (F : Fun K "walk_of" "walk_of" t_walk_of f fd) : FnG P w K mg base (L2.CX P w) 4 f fd ["tree", "task"] (spM true ⟨K, mg⟩ 2 m_walk_of) :=
  fg_okX F sc_walk_of 7 2 rfl rfl (by decide) fun cdv A outer s H E hr =>
    b_cons (s_set (i := 2) sc_walk_of.nd (e_call G_task_body (hr.mono (by decide)) (a_cons (dv 0) (a_cons (dv 1) (a_nil))))) (b_cons (s_if (t_isN (dv 2) (d_non)) (b_one (s_raiseR Z_NoSuch (hr.mono (by decide)) rfl (takes_of rfl rfl rfl rfl) (a_cons (dv 1) (a_nil)))) (b_nil)) (b_cons (s_setN (i := 3) sc_walk_of.nd (n_lst (a_nil))) (b_cons (s_setN (i := 4) sc_walk_of.nd (n_lst (a_nil))) (b_cons (s_setN (i := 5) sc_walk_of.nd (n_lrev rfl z_list z_reversed (e_call G_statements_of (hr.mono (by decide)) (a_cons (dv 2) (a_nil))))) (b_cons (s_while 100000 (passes_of rfl) (t_tru (dv 5)) (b_cons (s_set (i := 6) sc_walk_of.nd (e_pop (i := 5))) (b_cons (s_expr (e_append (i := 3) (a_cons (dv 6) (a_nil)))) (b_one (s_if (t_w (w_and (t_eq hr (e_get hr (dv 6) (d_int)) (d_str)) (w_and1 (t_ninX hr (e_get hr (dv 6) (d_int)) (dv 4))))) (b_cons (s_expr (e_append (i := 4) (a_cons (e_get hr (dv 6) (d_int)) (a_nil)))) (b_one (s_expr (e_extend (i := 5) (a_cons ((n_lrev rfl z_list z_reversed (e_call G_statements_of (hr.mono (by decide)) (a_cons (e_callX G_sub_body (takes_of rfl rfl rfl rfl) (hr.mono (by decide)) (a_cons (dv 0) (a_cons (e_get hr (dv 6) (d_int)) (a_nil)))) (a_nil)))).val) (a_nil)))))) (b_nil)))))) (b_one (s_ret (dv 3))))))))
theorem ok_operands_of (c_SUMS : CoT K mg "SUMS" k_SUMS) {f : Addr} {fd : FuncData} (F : Fun K "operands_of" "operands_of" t_operands_of f fd) : FnG P w K mg base CX0 1 f fd ["statement"] (spM false ⟨K, mg⟩ 1 m_operands_of) :=
  fg_ok F sc_operands_of 2 1 rfl rfl (by decide) fun cdv A outer s H E hr =>
    b_cons (s_set (i := 1) sc_operands_of.nd (e_get hr (dv 0) (d_int))) (b_cons (s_if (t_inX hr (dv 1) (d_glb c_SUMS)) (b_one (s_ret (d_tup (a_cons (e_get hr (dv 0) (d_int)) (a_cons (e_get hr (dv 0) (d_int)) (a_nil)))))) (b_nil)) (b_cons (s_if (t_inX hr (dv 1) (d_tup (a_cons (d_str) (a_cons (d_str) (a_nil))))) (b_one (s_ret (d_tup (a_cons (e_get hr (dv 0) (d_int)) (a_nil))))) (b_nil)) (b_cons (s_if (t_eq hr (dv 1) (d_str)) (b_one (s_ret (d_tup (a_cons (e_get hr (dv 0) (d_int)) (a_nil))))) (b_nil)) (b_cons (s_if (t_eq hr (dv 1) (d_str)) (b_one (s_ret (d_tup (a_cons (e_get hr (dv 0) (d_int)) (a_cons (e_get hr (dv 0) (d_int)) (a_nil)))))) (b_nil)) (b_cons (s_if (t_eq hr (dv 1) (d_str)) (b_one (s_ret (d_tup (a_cons (e_get hr (dv 0) (d_int)) (a_cons (e_get hr (dv 0) (d_int)) (a_nil)))))) (b_nil)) (b_one (s_ret (d_tup (a_nil)))))))))
theorem ok_carries (G_operands_of : Def0 P w K mg base 1 "operands_of" 1 m_operands_of) (c_SUMS : CoT K mg "SUMS" k_SUMS) (z_any : mg "any" = none) {f : Addr} {fd : FuncData} (F : Fun K "carries" "carries" t_carries f fd) : FnG P w K mg base CX0 2 f fd ["statement", "names"] (spM false ⟨K, mg⟩ 2 m_carries) :=
  fg_ok F sc_carries 3 2 rfl rfl (by decide) fun cdv A outer s H E hr =>
    b_cons (s_if (t_eq hr (e_get hr (dv 0) (d_int)) (d_str)) (b_one (s_ret (d_bl))) (b_nil)) (b_cons (s_if (t_w (w_or (t_eq hr (e_get hr (dv 0) (d_int)) (d_str)) (w_or1 (t_inX hr (e_get hr (dv 0) (d_int)) (d_glb c_SUMS))))) (b_one (s_ret (e_any rfl z_any (a_cons ((n_lc rfl sc_carries.nd [("operand", 2)] (show blkC ["statement", "names", "operand"] (defScope t_carries) _ [("operand", 2)] = true by decide +kernel) rfl (i_tup (e_call G_operands_of (hr.mono (by decide)) (a_cons (dv 0) (a_nil)))) (ntg_name 2) (fun _ _ _ _ _ => pg_name (i := 2) sc_carries.nd rfl (Or.inl rfl)) (fun _ _ _ _ _ => ts_nil) (fun _ _ _ _ _ => e_inX hr (dv 2) (dv 1))).val) (a_nil))))) (b_nil)) (b_one (s_ret (d_bl))))
theorem ok_carried_names (G_walk_of : DefX P w K mg base 4 "walk_of" 2 m_walk_of) (G_carries : Def0 P w K mg base 2 "carries" 2 m_carries) (z_sorted : mg "sorted" = none) (z_tuple : mg "tuple" = none) {f : Addr} {fd : FuncData} (F : Fun K "carried_names" "carried_names" t_carried_names f fd) : FnG P w K mg base (L2.CX P w) 5 f fd ["tree", "task"] (spM true ⟨K, mg⟩ 2 m_carried_names) :=
  fg_okX F sc_carried_names 6 2 rfl rfl (by decide) fun cdv A outer s H E hr =>
    b_cons (s_set (i := 2) sc_carried_names.nd (e_callX G_walk_of (takes_of rfl rfl rfl rfl) (hr.mono (by decide)) (a_cons (dv 0) (a_cons (dv 1) (a_nil))))) (b_cons (s_setN (i := 3) sc_carried_names.nd (n_lst (a_nil))) (b_cons (s_set (i := 4) sc_carried_names.nd (d_bl)) (b_cons (s_while 100000 (passes_of rfl) (t_val (dv 4)) (b_cons (s_set (i := 4) sc_carried_names.nd (d_bl)) (b_one (s_for (passes_of rfl) rfl (i_lst (dv 2)) (g_name (i := 5) sc_carried_names.nd) (b_one (s_if (t_w (w_and (t_val (e_call G_carries (hr.mono (by decide)) (a_cons (dv 5) (a_cons (dv 3) (a_nil))))) (w_and1 (t_ninX hr (e_get hr (dv 5) (d_int)) (dv 3))))) (b_cons (s_expr (e_append (i := 3) (a_cons (e_get hr (dv 5) (d_int)) (a_nil)))) (b_one (s_set (i := 4) sc_carried_names.nd (d_bl)))) (b_nil))))))) (b_one (s_ret (e_toT z_tuple (a_cons ((n_sorted rfl z_sorted (a_cons (dv 3) (a_nil))).val) (a_nil))))))))
theorem ok_asks (G_operands_of : Def0 P w K mg base 1 "operands_of" 1 m_operands_of) (z_any : mg "any" = none) {f : Addr} {fd : FuncData} (F : Fun K "asks" "asks" t_asks f fd) : FnG P w K mg base CX0 2 f fd ["statement", "names"] (spM false ⟨K, mg⟩ 2 m_asks) :=
  fg_ok F sc_asks 5 2 rfl rfl (by decide) fun cdv A outer s H E hr =>
    b_cons (s_set (i := 2) sc_asks.nd (e_get hr (dv 0) (d_int))) (b_cons (s_setLcV (i := 3) rfl sc_asks.nd [("operand", 4)] (show blkC ["statement", "names", "kind", "told", "operand"] (defScope t_asks) _ [("operand", 4)] = true by decide +kernel) rfl (sw_true rfl rfl rfl (by decide +kernel)) (i_tup (e_call G_operands_of (hr.mono (by decide)) (a_cons (dv 0) (a_nil)))) (ntg_name 4) (fun _ _ _ _ _ => pg_name (i := 4) sc_asks.nd rfl (Or.inl rfl)) (fun _ _ _ _ _ => ts_nil) (fun _ _ _ _ _ => e_inX hr (dv 4) (dv 1))) (b_cons (s_if (t_w (w_and (t_eq hr (dv 2) (d_str)) (w_and1 (t_val (e_any rfl z_any (a_cons (dv 3) (a_nil))))))) (b_one (s_ret (d_str))) (b_nil)) (b_cons (s_if (t_w (w_and (t_inX hr (dv 2) (d_tup (a_cons (d_str) (a_cons (d_str) (a_nil))))) (w_and1 (t_val (e_get hr (dv 3) (d_int)))))) (b_one (s_ret (d_str))) (b_nil)) (b_cons (s_if (t_w (w_and (t_eq hr (dv 2) (d_str)) (w_and1 (t_val (e_get hr (dv 3) (d_int)))))) (b_one (s_ret (d_str))) (b_nil)) (b_cons (s_if (t_w (w_and (t_eq hr (dv 2) (d_str)) (w_and (t_val (e_get hr (dv 3) (d_int))) (w_and1 (t_val (e_get hr (dv 3) (d_int))))))) (b_one (s_ret (d_str))) (b_nil)) (b_one (s_ret (d_non))))))))
theorem ok_carried_fault (G_carried_names : DefX P w K mg base 5 "carried_names" 2 m_carried_names) (G_walk_of : DefX P w K mg base 4 "walk_of" 2 m_walk_of) (G_asks : Def0 P w K mg base 2 "asks" 2 m_asks) {f : Addr} {fd : FuncData} (F : Fun K "carried_fault" "carried_fault" t_carried_fault f fd) : FnG P w K mg base (L2.CX P w) 6 f fd ["tree", "task"] (spM true ⟨K, mg⟩ 2 m_carried_fault) :=
  fg_okX F sc_carried_fault 5 2 rfl rfl (by decide) fun cdv A outer s H E hr =>
    b_cons (s_set (i := 2) sc_carried_fault.nd (e_callX G_carried_names (takes_of rfl rfl rfl rfl) (hr.mono (by decide)) (a_cons (dv 0) (a_cons (dv 1) (a_nil))))) (b_cons (s_for (passes_of rfl) rfl (i_lst (e_callX G_walk_of (takes_of rfl rfl rfl rfl) (hr.mono (by decide)) (a_cons (dv 0) (a_cons (dv 1) (a_nil))))) (g_name (i := 3) sc_carried_fault.nd) (b_cons (s_set (i := 4) sc_carried_fault.nd (e_call G_asks (hr.mono (by decide)) (a_cons (dv 3) (a_cons (dv 2) (a_nil))))) (b_one (s_if (t_notN (dv 4) (d_non)) (b_one (s_ret (d_tup (a_cons (dv 1) (a_cons (dv 4) (a_nil)))))) (b_nil))))) (b_one (s_ret (d_non))))
theorem ok__law_is_right (G__law_walk : Def0 P w K mg base 26 "_law_walk" 3 (m__law_walk 25)) (G__law_closure : Def0 P w K mg base 1 "_law_closure" 1 m__law_closure) (G__law_first_reason : Def0 P w K mg base 1 "_law_first_reason" 2 m__law_first_reason) (G_carried_names : DefX P w K mg base 5 "carried_names" 2 m_carried_names) (G_carried_fault : DefX P w K mg base 6 "carried_fault" 2 m_carried_fault) (z_tuple : mg "tuple" = none) (z_repr : mg "repr" = none) {f : Addr} {fd : FuncData} (F : Fun K "_law_is_right" "_law_is_right" t__law_is_right f fd) : FnG P w K mg base CX0 27 f fd ["tree"] (spM false ⟨K, mg⟩ 1 m__law_is_right) :=
  fg_ok F sc__law_is_right 7 1 rfl rfl (by decide) fun cdv A outer s H E hr =>
    b_cons (s_for PassesOwn.never rfl (i_tup (e_get hr (dv 0) (d_int))) (g_name (i := 1) sc__law_is_right.nd) (b_cons (s_set (i := 2) sc__law_is_right.nd (e_callA G__law_walk (hr.mono (by decide)) (an_cons (dv 0) (an_cons (e_get hr (dv 1) (d_int)) (an_new (n_lst (a_nil)) (a_nil)))))) (b_cons (s_set (i := 3) sc__law_is_right.nd (e_call G__law_closure (hr.mono (by decide)) (a_cons (dv 2) (a_nil)))) (b_cons (s_set (i := 4) sc__law_is_right.nd (e_call G__law_first_reason (hr.mono (by decide)) (a_cons (dv 2) (a_cons (dv 3) (a_nil))))) (b_cons (s_set (i := 5) sc__law_is_right.nd (d_if (t_notN (dv 4) (d_non)) (d_tup (a_cons (e_get hr (dv 1) (d_int)) (a_cons (dv 4) (a_nil)))) (d_non))) (b_cons (s_set (i := 6) sc__law_is_right.nd (d_tup (a_cons (e_callX G_carried_names (takes0) (hr.mono (by decide)) (a_cons (dv 0) (a_cons (e_get hr (dv 1) (d_int)) (a_nil)))) (a_cons (e_callX G_carried_fault (takes0) (hr.mono (by decide)) (a_cons (dv 0) (a_cons (e_get hr (dv 1) (d_int)) (a_nil)))) (a_nil))))) (b_one (s_if (t_w (w_or (t_ne hr (dv 6) (d_tup (a_cons (e_toT z_tuple (a_cons (dv 3) (a_nil))) (a_cons (dv 5) (a_nil))))) (w_or1 (t_ne hr (e_repr hr z_repr (a_cons (dv 6) (a_nil))) (e_repr hr z_repr (a_cons (d_tup (a_cons (e_toT z_tuple (a_cons (dv 3) (a_nil))) (a_cons (dv 5) (a_nil)))) (a_nil))))))) (b_one (s_ret (d_bl))) (b_nil))))))))) (b_one (s_ret (d_bl)))
theorem ok__law_untaken {kk : Nat} {R : Mf} (hk : 0 ≤ kk) (G__law_untaken : Def0 P w K mg base kk "_law_untaken" 1 R) (z_tuple : mg "tuple" = none) (z_isinstance : mg "isinstance" = none) {f : Addr} {fd : FuncData} (F : Fun K "_law_untaken" "_law_untaken" t__law_untaken f fd) : FnG P w K mg base CX0 (kk + 1) f fd ["body"] (spM false ⟨K, mg⟩ 1 (run false 4 (g__law_untaken R))) :=
  fg_ok F sc__law_untaken 4 1 rfl rfl (by decide) fun cdv A outer s H E hr =>
    b_cons (s_setN (i := 1) sc__law_untaken.nd (n_lst (a_nil))) (b_cons (s_for PassesOwn.never rfl (i_tup (dv 0)) (g_name (i := 2) sc__law_untaken.nd) (b_cons (s_if (t_eq hr (e_get hr (dv 2) (d_int)) (d_str)) (b_one (s_set (i := 2) sc__law_untaken.nd (d_tup (a_cons (d_str) (a_cons (e_get hr (dv 2) (d_int)) (a_cons (d_int) (a_nil))))))) (b_nil)) (b_one (s_expr (e_append (i := 1) (a_cons (e_toT z_tuple (a_cons ((n_lc rfl sc__law_untaken.nd [("part", 3)] (show blkC ["body", "found", "one", "part"] (defScope t__law_untaken) _ [("part", 3)] = true by decide +kernel) rfl (i_tup (dv 2)) (ntg_name 3) (fun _ _ _ _ _ => pg_name (i := 3) sc__law_untaken.nd rfl (Or.inl rfl)) (fun _ _ _ _ _ => ts_nil) (fun _ _ _ _ _ => d_if (t_val (e_isi z_isinstance (a_cons (dv 3) (a_cons (d_bty z_tuple rfl) (a_nil))))) (e_call G__law_untaken (hr.mono (by omega)) (a_cons (dv 3) (a_nil))) (dv 3))).val) (a_nil))) (a_nil))))))) (b_one (s_ret (e_toT z_tuple (a_cons (dv 1) (a_nil))))))
theorem ok_law (G__law_begin : Def0 P w K mg base 1 "_law_begin" 1 mBegin) (G__law_names : Def0 P w K mg base 2 "_law_names" 2 m__law_names) (G__law_tree_of : Def0 P w K mg base 9 "_law_tree_of" 2 m__law_tree_of) (G__law_is_right : Def0 P w K mg base 27 "_law_is_right" 1 m__law_is_right) (G__law_untaken : Def0 P w K mg base 6 "_law_untaken" 1 (m__law_untaken 6)) (G_carried_names : DefX P w K mg base 5 "carried_names" 2 m_carried_names) (G_carried_fault : DefX P w K mg base 6 "carried_fault" 2 m_carried_fault) (z_tuple : mg "tuple" = none) {f : Addr} {fd : FuncData} (F : Fun K "law" "law" t_law f fd) : FnG P w K mg base CX0 28 f fd ["script"] (spM false ⟨K, mg⟩ 1 m_law) :=
  fg_ok F sc_law 10 1 rfl rfl (by decide) fun cdv A outer s H E hr =>
    b_cons (s_setN (i := 1) sc_law.nd (e_callN G__law_begin (hr.mono (by decide)) (a_cons (dv 0) (a_nil)))) (b_cons (s_set (i := 2) sc_law.nd (e_call G__law_names (hr.mono (by decide)) (a_cons (dv 1) (a_cons (d_int) (a_nil))))) (b_cons (s_set (i := 3) sc_law.nd (e_call G__law_tree_of (hr.mono (by decide)) (a_cons (dv 1) (a_cons (dv 2) (a_nil))))) (b_cons (s_set (i := 4) sc_law.nd (e_call G__law_tree_of (hr.mono (by decide)) (a_cons (dv 1) (a_cons (dv 2) (a_nil))))) (b_cons (s_if (t_w (w_or (t_not (t_val (e_call G__law_is_right (hr.mono (by decide)) (a_cons (dv 3) (a_nil))))) (w_or1 (t_not (t_val (e_call G__law_is_right (hr.mono (by decide)) (a_cons (dv 4) (a_nil)))))))) (b_one (s_ret (d_bl))) (b_nil)) (b_cons (s_set (i := 5) sc_law.nd (e_toT z_tuple (a_cons ((n_lc rfl sc_law.nd [("pair", 9)] (show blkC ["script", "d", "names", "first", "second", "subs", "entries", "calm", "entry", "pair"] (defScope t_law) _ [("pair", 9)] = true by decide +kernel) rfl (i_tup (e_get hr (dv 3) (d_int))) (ntg_name 9) (fun _ _ _ _ _ => pg_name (i := 9) sc_law.nd rfl (Or.inl rfl)) (fun _ _ _ _ _ => ts_nil) (fun _ _ _ _ _ => d_tup (a_cons (e_get hr (dv 9) (d_int)) (a_cons (e_call G__law_untaken (hr.mono (by decide)) (a_cons (e_get hr (dv 9) (d_int)) (a_nil))) (a_nil))))).val) (a_nil)))) (b_cons (s_set (i := 6) sc_law.nd (e_toT z_tuple (a_cons ((n_lc rfl sc_law.nd [("entry", 8)] (show blkC ["script", "d", "names", "first", "second", "subs", "entries", "calm", "entry", "pair"] (defScope t_law) _ [("entry", 8)] = true by decide +kernel) rfl (i_tup (e_get hr (dv 3) (d_int))) (ntg_name 8) (fun _ _ _ _ _ => pg_name (i := 8) sc_law.nd rfl (Or.inl rfl)) (fun _ _ _ _ _ => ts_nil) (fun _ _ _ _ _ => d_tup (a_cons (e_get hr (dv 8) (d_int)) (a_cons (e_get hr (dv 8) (d_int)) (a_cons (e_call G__law_untaken (hr.mono (by decide)) (a_cons (e_get hr (dv 8) (d_int)) (a_nil))) (a_nil)))))).val) (a_nil)))) (b_cons (s_set (i := 7) sc_law.nd (e_add (e_sl (dv 3) (o_none) (o_some (d_int))) (d_tup (a_cons (dv 5) (a_cons (dv 6) (a_nil)))))) (b_cons (s_for PassesOwn.never rfl (i_tup (dv 6)) (g_name (i := 8) sc_law.nd) (b_one (s_if (t_w (w_or (t_ne hr (e_callX G_carried_names (takes0) (hr.mono (by decide)) (a_cons (dv 7) (a_cons (e_get hr (dv 8) (d_int)) (a_nil)))) (d_tup (a_nil))) (w_or1 (t_notN (e_callX G_carried_fault (takes0) (hr.mono (by decide)) (a_cons (dv 7) (a_cons (e_get hr (dv 8) (d_int)) (a_nil)))) (d_non))))) (b_one (s_ret (d_bl))) (b_nil)))) (b_one (s_ret (d_and (e_call G__law_is_right (hr.mono (by decide)) (a_cons (dv 7) (a_nil))) (d_one (e_call G__law_is_right (hr.mono (by decide)) (a_cons (dv 3) (a_nil)))))))))))))))
end
/-! ### what the top has written -/
theorem all_mk {l : PySem.W.OpenLaw} {w : World} {K : PySem.W.Frag} {h : Heap} {mg : Str → Option Value} {fa : Addr} (X : K.In h) (G : h.Ns mainGlobals mg) (hfa : mg "law" = some (.ref fa))
    {C_SuretyError : Addr}
    {C_NoSuch : Addr}
    {nm_NoSuch q_NoSuch : Str} {N_NoSuch : Addr} {bs_NoSuch sub_NoSuch : List Value} {sn_NoSuch : List Str} {ab_NoSuch : Bool} {col_NoSuch : Option Bool} {dd_NoSuch : Option Addr} {m0_NoSuch m1_NoSuch m2_NoSuch m3_NoSuch m5_NoSuch : Option Value} {I_NoSuch : Addr} {odi_NoSuch ani_NoSuch : Option Addr} {sli_NoSuch : Array (Option Value)} {oci_NoSuch kVi_NoSuch dci_NoSuch pmi_NoSuch cdi_NoSuch cti_NoSuch : Value}
    {q_SUMS : Addr} {its_SUMS : Array Value} {nn_SUMS : Nat} {sl_SUMS : Array (Option Value)}
    (aC_SuretyError : PySem.W.nsIn K mainGlobals "SuretyError" = some (some (.ref C_SuretyError)))
    (aC_NoSuch : PySem.W.nsIn K mainGlobals "NoSuch" = some (some (.ref C_NoSuch)))
    (xL_NoSuch : K.lookup C_NoSuch = some (excClassObj nm_NoSuch q_NoSuch C_NoSuch N_NoSuch bs_NoSuch [.ref C_SuretyError, .type "ValueError", .type "Exception", .type "BaseException", .type "object"] true sn_NoSuch sub_NoSuch ab_NoSuch col_NoSuch dd_NoSuch m0_NoSuch m1_NoSuch m2_NoSuch m3_NoSuch m5_NoSuch "ValueError.__new__"))
    (sa_NoSuch : PySem.W.findIn K (.ref C_NoSuch) "__setattr__" = some (some (.builtin "object.__setattr__")))
    (ga_NoSuch : PySem.W.findIn K (.ref C_NoSuch) "__getattribute__" = some (some (.builtin "BaseException.__getattribute__")))
    (gg_NoSuch : PySem.W.findIn K (.ref C_NoSuch) "__getattr__" = some none)
    (nb0_NoSuch : PySem.W.findIn K (.ref C_NoSuch) "name" = some none)
    (ai_NoSuch : PySem.W.findIn K (.ref C_NoSuch) "__init__" = some (some (.ref I_NoSuch)))
    (ty_NoSuch : PySem.W.typeIn K (.ref I_NoSuch) = some (.type "function"))
    (li_NoSuch : K.lookup I_NoSuch = some ⟨oci_NoSuch, odi_NoSuch, .func (PySem.W.fnOf "__init__" "NoSuch.__init__" (defArgs ti_NoSuch) (defBody ti_NoSuch) (defScope ti_NoSuch) .none kVi_NoSuch dci_NoSuch pmi_NoSuch ani_NoSuch cdi_NoSuch cti_NoSuch), sli_NoSuch⟩)
    (ci_NoSuch : PySem.W.codeIn K cdi_NoSuch "NoSuch.__init__" = true)
    (ki_NoSuch : PySem.W.keepIn K (.ref I_NoSuch) = true)
    (kC_NoSuch : PySem.W.keepIn K (.ref C_NoSuch) = true)
    (hC_NoSuch : PySem.W.hasDictIn K C_NoSuch = true)
    (eC_NoSuch : PySem.W.subIn K (.ref C_NoSuch) (.type "BaseException") = some true)
    (tC_NoSuch : PySem.W.typeIn K (.ref C_NoSuch) = some (.type "type"))
    (co_SUMS : PySem.W.nsIn K mainGlobals "SUMS" = some (some (.ref q_SUMS)))
    (cl_SUMS : K.lookup q_SUMS = some ⟨.type "tuple", none, .seq its_SUMS nn_SUMS, sl_SUMS⟩)
    (cv_SUMS : Vals [V.str "plus", V.str "minus", V.str "times"] its_SUMS.toList)
    (cz_SUMS : its_SUMS.size ≤ sizeLine)
    {f0 : Addr} {od0 an0 : Option Addr} {sl0 : Array (Option Value)} {oc0 kV0 dc0 pm0 cd0 ct0 : Value} (a0 : PySem.W.nsIn K mainGlobals "_law_begin" = some (some (.ref f0)))
    (l0 : K.lookup f0 = some ⟨oc0, od0, .func (PySem.W.fnOf "_law_begin" "_law_begin" (defArgs t__law_begin) (defBody t__law_begin) (defScope t__law_begin) .none kV0 dc0 pm0 an0 cd0 ct0), sl0⟩)
    (c0 : PySem.W.codeIn K cd0 "_law_begin" = true) (k0 : PySem.W.keepIn K (.ref f0) = true)
    {f1 : Addr} {od1 an1 : Option Addr} {sl1 : Array (Option Value)} {oc1 kV1 dc1 pm1 cd1 ct1 : Value} (a1 : PySem.W.nsIn K mainGlobals "_law_draw" = some (some (.ref f1)))
    (l1 : K.lookup f1 = some ⟨oc1, od1, .func (PySem.W.fnOf "_law_draw" "_law_draw" (defArgs t__law_draw) (defBody t__law_draw) (defScope t__law_draw) .none kV1 dc1 pm1 an1 cd1 ct1), sl1⟩)
    (c1 : PySem.W.codeIn K cd1 "_law_draw" = true) (k1 : PySem.W.keepIn K (.ref f1) = true)
    {f2 : Addr} {od2 an2 : Option Addr} {sl2 : Array (Option Value)} {oc2 kV2 dc2 pm2 cd2 ct2 : Value} (a2 : PySem.W.nsIn K mainGlobals "_law_names" = some (some (.ref f2)))
    (l2 : K.lookup f2 = some ⟨oc2, od2, .func (PySem.W.fnOf "_law_names" "_law_names" (defArgs t__law_names) (defBody t__law_names) (defScope t__law_names) .none kV2 dc2 pm2 an2 cd2 ct2), sl2⟩)
    (c2 : PySem.W.codeIn K cd2 "_law_names" = true) (k2 : PySem.W.keepIn K (.ref f2) = true)
    {f3 : Addr} {od3 an3 : Option Addr} {sl3 : Array (Option Value)} {oc3 kV3 dc3 pm3 cd3 ct3 : Value} (a3 : PySem.W.nsIn K mainGlobals "_law_pick" = some (some (.ref f3)))
    (l3 : K.lookup f3 = some ⟨oc3, od3, .func (PySem.W.fnOf "_law_pick" "_law_pick" (defArgs t__law_pick) (defBody t__law_pick) (defScope t__law_pick) .none kV3 dc3 pm3 an3 cd3 ct3), sl3⟩)
    (c3 : PySem.W.codeIn K cd3 "_law_pick" = true) (k3 : PySem.W.keepIn K (.ref f3) = true)
    {f4 : Addr} {od4 an4 : Option Addr} {sl4 : Array (Option Value)} {oc4 kV4 dc4 pm4 cd4 ct4 : Value} (a4 : PySem.W.nsIn K mainGlobals "_law_calm" = some (some (.ref f4)))
    (l4 : K.lookup f4 = some ⟨oc4, od4, .func (PySem.W.fnOf "_law_calm" "_law_calm" (defArgs t__law_calm) (defBody t__law_calm) (defScope t__law_calm) .none kV4 dc4 pm4 an4 cd4 ct4), sl4⟩)
    (c4 : PySem.W.codeIn K cd4 "_law_calm" = true) (k4 : PySem.W.keepIn K (.ref f4) = true)
    {f5 : Addr} {od5 an5 : Option Addr} {sl5 : Array (Option Value)} {oc5 kV5 dc5 pm5 cd5 ct5 : Value} (a5 : PySem.W.nsIn K mainGlobals "_law_spare" = some (some (.ref f5)))
    (l5 : K.lookup f5 = some ⟨oc5, od5, .func (PySem.W.fnOf "_law_spare" "_law_spare" (defArgs t__law_spare) (defBody t__law_spare) (defScope t__law_spare) .none kV5 dc5 pm5 an5 cd5 ct5), sl5⟩)
    (c5 : PySem.W.codeIn K cd5 "_law_spare" = true) (k5 : PySem.W.keepIn K (.ref f5) = true)
    {f6 : Addr} {od6 an6 : Option Addr} {sl6 : Array (Option Value)} {oc6 kV6 dc6 pm6 cd6 ct6 : Value} (a6 : PySem.W.nsIn K mainGlobals "_law_asking" = some (some (.ref f6)))
    (l6 : K.lookup f6 = some ⟨oc6, od6, .func (PySem.W.fnOf "_law_asking" "_law_asking" (defArgs t__law_asking) (defBody t__law_asking) (defScope t__law_asking) .none kV6 dc6 pm6 an6 cd6 ct6), sl6⟩)
    (c6 : PySem.W.codeIn K cd6 "_law_asking" = true) (k6 : PySem.W.keepIn K (.ref f6) = true)
    {f7 : Addr} {od7 an7 : Option Addr} {sl7 : Array (Option Value)} {oc7 kV7 dc7 pm7 cd7 ct7 : Value} (a7 : PySem.W.nsIn K mainGlobals "_law_telling" = some (some (.ref f7)))
    (l7 : K.lookup f7 = some ⟨oc7, od7, .func (PySem.W.fnOf "_law_telling" "_law_telling" (defArgs t__law_telling) (defBody t__law_telling) (defScope t__law_telling) .none kV7 dc7 pm7 an7 cd7 ct7), sl7⟩)
    (c7 : PySem.W.codeIn K cd7 "_law_telling" = true) (k7 : PySem.W.keepIn K (.ref f7) = true)
    {f8 : Addr} {od8 an8 : Option Addr} {sl8 : Array (Option Value)} {oc8 kV8 dc8 pm8 cd8 ct8 : Value} (a8 : PySem.W.nsIn K mainGlobals "_law_bodied" = some (some (.ref f8)))
    (l8 : K.lookup f8 = some ⟨oc8, od8, .func (PySem.W.fnOf "_law_bodied" "_law_bodied" (defArgs t__law_bodied) (defBody t__law_bodied) (defScope t__law_bodied) .none kV8 dc8 pm8 an8 cd8 ct8), sl8⟩)
    (c8 : PySem.W.codeIn K cd8 "_law_bodied" = true) (k8 : PySem.W.keepIn K (.ref f8) = true)
    {f9 : Addr} {od9 an9 : Option Addr} {sl9 : Array (Option Value)} {oc9 kV9 dc9 pm9 cd9 ct9 : Value} (a9 : PySem.W.nsIn K mainGlobals "_law_rare" = some (some (.ref f9)))
    (l9 : K.lookup f9 = some ⟨oc9, od9, .func (PySem.W.fnOf "_law_rare" "_law_rare" (defArgs t__law_rare) (defBody t__law_rare) (defScope t__law_rare) .none kV9 dc9 pm9 an9 cd9 ct9), sl9⟩)
    (c9 : PySem.W.codeIn K cd9 "_law_rare" = true) (k9 : PySem.W.keepIn K (.ref f9) = true)
    {f10 : Addr} {od10 an10 : Option Addr} {sl10 : Array (Option Value)} {oc10 kV10 dc10 pm10 cd10 ct10 : Value} (a10 : PySem.W.nsIn K mainGlobals "_law_with_row" = some (some (.ref f10)))
    (l10 : K.lookup f10 = some ⟨oc10, od10, .func (PySem.W.fnOf "_law_with_row" "_law_with_row" (defArgs t__law_with_row) (defBody t__law_with_row) (defScope t__law_with_row) .none kV10 dc10 pm10 an10 cd10 ct10), sl10⟩)
    (c10 : PySem.W.codeIn K cd10 "_law_with_row" = true) (k10 : PySem.W.keepIn K (.ref f10) = true)
    {f11 : Addr} {od11 an11 : Option Addr} {sl11 : Array (Option Value)} {oc11 kV11 dc11 pm11 cd11 ct11 : Value} (a11 : PySem.W.nsIn K mainGlobals "_law_count" = some (some (.ref f11)))
    (l11 : K.lookup f11 = some ⟨oc11, od11, .func (PySem.W.fnOf "_law_count" "_law_count" (defArgs t__law_count) (defBody t__law_count) (defScope t__law_count) .none kV11 dc11 pm11 an11 cd11 ct11), sl11⟩)
    (c11 : PySem.W.codeIn K cd11 "_law_count" = true) (k11 : PySem.W.keepIn K (.ref f11) = true)
    {f12 : Addr} {od12 an12 : Option Addr} {sl12 : Array (Option Value)} {oc12 kV12 dc12 pm12 cd12 ct12 : Value} (a12 : PySem.W.nsIn K mainGlobals "_law_cut" = some (some (.ref f12)))
    (l12 : K.lookup f12 = some ⟨oc12, od12, .func (PySem.W.fnOf "_law_cut" "_law_cut" (defArgs t__law_cut) (defBody t__law_cut) (defScope t__law_cut) .none kV12 dc12 pm12 an12 cd12 ct12), sl12⟩)
    (c12 : PySem.W.codeIn K cd12 "_law_cut" = true) (k12 : PySem.W.keepIn K (.ref f12) = true)
    {f13 : Addr} {od13 an13 : Option Addr} {sl13 : Array (Option Value)} {oc13 kV13 dc13 pm13 cd13 ct13 : Value} (a13 : PySem.W.nsIn K mainGlobals "_law_tree_of" = some (some (.ref f13)))
    (l13 : K.lookup f13 = some ⟨oc13, od13, .func (PySem.W.fnOf "_law_tree_of" "_law_tree_of" (defArgs t__law_tree_of) (defBody t__law_tree_of) (defScope t__law_tree_of) .none kV13 dc13 pm13 an13 cd13 ct13), sl13⟩)
    (c13 : PySem.W.codeIn K cd13 "_law_tree_of" = true) (k13 : PySem.W.keepIn K (.ref f13) = true)
    {f14 : Addr} {od14 an14 : Option Addr} {sl14 : Array (Option Value)} {oc14 kV14 dc14 pm14 cd14 ct14 : Value} (a14 : PySem.W.nsIn K mainGlobals "_law_values" = some (some (.ref f14)))
    (l14 : K.lookup f14 = some ⟨oc14, od14, .func (PySem.W.fnOf "_law_values" "_law_values" (defArgs t__law_values) (defBody t__law_values) (defScope t__law_values) .none kV14 dc14 pm14 an14 cd14 ct14), sl14⟩)
    (c14 : PySem.W.codeIn K cd14 "_law_values" = true) (k14 : PySem.W.keepIn K (.ref f14) = true)
    {f15 : Addr} {od15 an15 : Option Addr} {sl15 : Array (Option Value)} {oc15 kV15 dc15 pm15 cd15 ct15 : Value} (a15 : PySem.W.nsIn K mainGlobals "_law_walk" = some (some (.ref f15)))
    (l15 : K.lookup f15 = some ⟨oc15, od15, .func (PySem.W.fnOf "_law_walk" "_law_walk" (defArgs t__law_walk) (defBody t__law_walk) (defScope t__law_walk) .none kV15 dc15 pm15 an15 cd15 ct15), sl15⟩)
    (c15 : PySem.W.codeIn K cd15 "_law_walk" = true) (k15 : PySem.W.keepIn K (.ref f15) = true)
    {f16 : Addr} {od16 an16 : Option Addr} {sl16 : Array (Option Value)} {oc16 kV16 dc16 pm16 cd16 ct16 : Value} (a16 : PySem.W.nsIn K mainGlobals "_law_closure" = some (some (.ref f16)))
    (l16 : K.lookup f16 = some ⟨oc16, od16, .func (PySem.W.fnOf "_law_closure" "_law_closure" (defArgs t__law_closure) (defBody t__law_closure) (defScope t__law_closure) .none kV16 dc16 pm16 an16 cd16 ct16), sl16⟩)
    (c16 : PySem.W.codeIn K cd16 "_law_closure" = true) (k16 : PySem.W.keepIn K (.ref f16) = true)
    {f17 : Addr} {od17 an17 : Option Addr} {sl17 : Array (Option Value)} {oc17 kV17 dc17 pm17 cd17 ct17 : Value} (a17 : PySem.W.nsIn K mainGlobals "_law_first_reason" = some (some (.ref f17)))
    (l17 : K.lookup f17 = some ⟨oc17, od17, .func (PySem.W.fnOf "_law_first_reason" "_law_first_reason" (defArgs t__law_first_reason) (defBody t__law_first_reason) (defScope t__law_first_reason) .none kV17 dc17 pm17 an17 cd17 ct17), sl17⟩)
    (c17 : PySem.W.codeIn K cd17 "_law_first_reason" = true) (k17 : PySem.W.keepIn K (.ref f17) = true)
    {f18 : Addr} {od18 an18 : Option Addr} {sl18 : Array (Option Value)} {oc18 kV18 dc18 pm18 cd18 ct18 : Value} (a18 : PySem.W.nsIn K mainGlobals "task_body" = some (some (.ref f18)))
    (l18 : K.lookup f18 = some ⟨oc18, od18, .func (PySem.W.fnOf "task_body" "task_body" (defArgs t_task_body) (defBody t_task_body) (defScope t_task_body) .none kV18 dc18 pm18 an18 cd18 ct18), sl18⟩)
    (c18 : PySem.W.codeIn K cd18 "task_body" = true) (k18 : PySem.W.keepIn K (.ref f18) = true)
    {f19 : Addr} {od19 an19 : Option Addr} {sl19 : Array (Option Value)} {oc19 kV19 dc19 pm19 cd19 ct19 : Value} (a19 : PySem.W.nsIn K mainGlobals "bodies_of" = some (some (.ref f19)))
    (l19 : K.lookup f19 = some ⟨oc19, od19, .func (PySem.W.fnOf "bodies_of" "bodies_of" (defArgs t_bodies_of) (defBody t_bodies_of) (defScope t_bodies_of) .none kV19 dc19 pm19 an19 cd19 ct19), sl19⟩)
    (c19 : PySem.W.codeIn K cd19 "bodies_of" = true) (k19 : PySem.W.keepIn K (.ref f19) = true)
    {f20 : Addr} {od20 an20 : Option Addr} {sl20 : Array (Option Value)} {oc20 kV20 dc20 pm20 cd20 ct20 : Value} (a20 : PySem.W.nsIn K mainGlobals "statements_of" = some (some (.ref f20)))
    (l20 : K.lookup f20 = some ⟨oc20, od20, .func (PySem.W.fnOf "statements_of" "statements_of" (defArgs t_statements_of) (defBody t_statements_of) (defScope t_statements_of) .none kV20 dc20 pm20 an20 cd20 ct20), sl20⟩)
    (c20 : PySem.W.codeIn K cd20 "statements_of" = true) (k20 : PySem.W.keepIn K (.ref f20) = true)
    {f21 : Addr} {od21 an21 : Option Addr} {sl21 : Array (Option Value)} {oc21 kV21 dc21 pm21 cd21 ct21 : Value} (a21 : PySem.W.nsIn K mainGlobals "sub_body" = some (some (.ref f21)))
    (l21 : K.lookup f21 = some ⟨oc21, od21, .func (PySem.W.fnOf "sub_body" "sub_body" (defArgs t_sub_body) (defBody t_sub_body) (defScope t_sub_body) .none kV21 dc21 pm21 an21 cd21 ct21), sl21⟩)
    (c21 : PySem.W.codeIn K cd21 "sub_body" = true) (k21 : PySem.W.keepIn K (.ref f21) = true)
    {f22 : Addr} {od22 an22 : Option Addr} {sl22 : Array (Option Value)} {oc22 kV22 dc22 pm22 cd22 ct22 : Value} (a22 : PySem.W.nsIn K mainGlobals "walk_of" = some (some (.ref f22)))
    (l22 : K.lookup f22 = some ⟨oc22, od22, .func (PySem.W.fnOf "walk_of" "walk_of" (defArgs t_walk_of) (defBody t_walk_of) (defScope t_walk_of) .none kV22 dc22 pm22 an22 cd22 ct22), sl22⟩)
    (c22 : PySem.W.codeIn K cd22 "walk_of" = true) (k22 : PySem.W.keepIn K (.ref f22) = true)
    {f23 : Addr} {od23 an23 : Option Addr} {sl23 : Array (Option Value)} {oc23 kV23 dc23 pm23 cd23 ct23 : Value} (a23 : PySem.W.nsIn K mainGlobals "operands_of" = some (some (.ref f23)))
    (l23 : K.lookup f23 = some ⟨oc23, od23, .func (PySem.W.fnOf "operands_of" "operands_of" (defArgs t_operands_of) (defBody t_operands_of) (defScope t_operands_of) .none kV23 dc23 pm23 an23 cd23 ct23), sl23⟩)
    (c23 : PySem.W.codeIn K cd23 "operands_of" = true) (k23 : PySem.W.keepIn K (.ref f23) = true)
    {f24 : Addr} {od24 an24 : Option Addr} {sl24 : Array (Option Value)} {oc24 kV24 dc24 pm24 cd24 ct24 : Value} (a24 : PySem.W.nsIn K mainGlobals "carries" = some (some (.ref f24)))
    (l24 : K.lookup f24 = some ⟨oc24, od24, .func (PySem.W.fnOf "carries" "carries" (defArgs t_carries) (defBody t_carries) (defScope t_carries) .none kV24 dc24 pm24 an24 cd24 ct24), sl24⟩)
    (c24 : PySem.W.codeIn K cd24 "carries" = true) (k24 : PySem.W.keepIn K (.ref f24) = true)
    {f25 : Addr} {od25 an25 : Option Addr} {sl25 : Array (Option Value)} {oc25 kV25 dc25 pm25 cd25 ct25 : Value} (a25 : PySem.W.nsIn K mainGlobals "carried_names" = some (some (.ref f25)))
    (l25 : K.lookup f25 = some ⟨oc25, od25, .func (PySem.W.fnOf "carried_names" "carried_names" (defArgs t_carried_names) (defBody t_carried_names) (defScope t_carried_names) .none kV25 dc25 pm25 an25 cd25 ct25), sl25⟩)
    (c25 : PySem.W.codeIn K cd25 "carried_names" = true) (k25 : PySem.W.keepIn K (.ref f25) = true)
    {f26 : Addr} {od26 an26 : Option Addr} {sl26 : Array (Option Value)} {oc26 kV26 dc26 pm26 cd26 ct26 : Value} (a26 : PySem.W.nsIn K mainGlobals "asks" = some (some (.ref f26)))
    (l26 : K.lookup f26 = some ⟨oc26, od26, .func (PySem.W.fnOf "asks" "asks" (defArgs t_asks) (defBody t_asks) (defScope t_asks) .none kV26 dc26 pm26 an26 cd26 ct26), sl26⟩)
    (c26 : PySem.W.codeIn K cd26 "asks" = true) (k26 : PySem.W.keepIn K (.ref f26) = true)
    {f27 : Addr} {od27 an27 : Option Addr} {sl27 : Array (Option Value)} {oc27 kV27 dc27 pm27 cd27 ct27 : Value} (a27 : PySem.W.nsIn K mainGlobals "carried_fault" = some (some (.ref f27)))
    (l27 : K.lookup f27 = some ⟨oc27, od27, .func (PySem.W.fnOf "carried_fault" "carried_fault" (defArgs t_carried_fault) (defBody t_carried_fault) (defScope t_carried_fault) .none kV27 dc27 pm27 an27 cd27 ct27), sl27⟩)
    (c27 : PySem.W.codeIn K cd27 "carried_fault" = true) (k27 : PySem.W.keepIn K (.ref f27) = true)
    {f28 : Addr} {od28 an28 : Option Addr} {sl28 : Array (Option Value)} {oc28 kV28 dc28 pm28 cd28 ct28 : Value} (a28 : PySem.W.nsIn K mainGlobals "_law_is_right" = some (some (.ref f28)))
    (l28 : K.lookup f28 = some ⟨oc28, od28, .func (PySem.W.fnOf "_law_is_right" "_law_is_right" (defArgs t__law_is_right) (defBody t__law_is_right) (defScope t__law_is_right) .none kV28 dc28 pm28 an28 cd28 ct28), sl28⟩)
    (c28 : PySem.W.codeIn K cd28 "_law_is_right" = true) (k28 : PySem.W.keepIn K (.ref f28) = true)
    {f29 : Addr} {od29 an29 : Option Addr} {sl29 : Array (Option Value)} {oc29 kV29 dc29 pm29 cd29 ct29 : Value} (a29 : PySem.W.nsIn K mainGlobals "_law_untaken" = some (some (.ref f29)))
    (l29 : K.lookup f29 = some ⟨oc29, od29, .func (PySem.W.fnOf "_law_untaken" "_law_untaken" (defArgs t__law_untaken) (defBody t__law_untaken) (defScope t__law_untaken) .none kV29 dc29 pm29 an29 cd29 ct29), sl29⟩)
    (c29 : PySem.W.codeIn K cd29 "_law_untaken" = true) (k29 : PySem.W.keepIn K (.ref f29) = true)
    {f30 : Addr} {od30 an30 : Option Addr} {sl30 : Array (Option Value)} {oc30 kV30 dc30 pm30 cd30 ct30 : Value} (a30 : PySem.W.nsIn K mainGlobals "law" = some (some (.ref f30)))
    (l30 : K.lookup f30 = some ⟨oc30, od30, .func (PySem.W.fnOf "law" "law" (defArgs t_law) (defBody t_law) (defScope t_law) .none kV30 dc30 pm30 an30 cd30 ct30), sl30⟩)
    (c30 : PySem.W.codeIn K cd30 "law" = true) (k30 : PySem.W.keepIn K (.ref f30) = true)
    (z0 : PySem.W.nsIn K mainGlobals "int" = some none)
    (z1 : PySem.W.nsIn K mainGlobals "abs" = some none)
    (z2 : PySem.W.nsIn K mainGlobals "sum" = some none)
    (z3 : PySem.W.nsIn K mainGlobals "len" = some none)
    (z4 : PySem.W.nsIn K mainGlobals "range" = some none)
    (z5 : PySem.W.nsIn K mainGlobals "str" = some none)
    (z6 : PySem.W.nsIn K mainGlobals "tuple" = some none)
    (z7 : PySem.W.nsIn K mainGlobals "reversed" = some none)
    (z8 : PySem.W.nsIn K mainGlobals "min" = some none)
    (z9 : PySem.W.nsIn K mainGlobals "isinstance" = some none)
    (z10 : PySem.W.nsIn K mainGlobals "sorted" = some none)
    (z11 : PySem.W.nsIn K mainGlobals "list" = some none)
    (z12 : PySem.W.nsIn K mainGlobals "any" = some none)
    (z13 : PySem.W.nsIn K mainGlobals "repr" = some none)
    : ∃ fd : FuncData, (∀ (s : Shared) (v : Value), BindsTo s fd ⟨[v], []⟩ [("script", v)]) ∧ ∀ base : Heap, K.In base → base.Ns mainGlobals mg → FnG l.prog w K mg base CX0 28 fa fd ["script"] (spM false ⟨K, mg⟩ 1 m_law) := by
  have e := hfa.symm.trans (PySem.W.mg_of X G a30)
  cases e
  have F0 := fun_mk (st := t__law_begin) l0 c0 k0
  have F1 := fun_mk (st := t__law_draw) l1 c1 k1
  have F2 := fun_mk (st := t__law_names) l2 c2 k2
  have F3 := fun_mk (st := t__law_pick) l3 c3 k3
  have F4 := fun_mk (st := t__law_calm) l4 c4 k4
  have F5 := fun_mk (st := t__law_spare) l5 c5 k5
  have F6 := fun_mk (st := t__law_asking) l6 c6 k6
  have F7 := fun_mk (st := t__law_telling) l7 c7 k7
  have F8 := fun_mk (st := t__law_bodied) l8 c8 k8
  have F9 := fun_mk (st := t__law_rare) l9 c9 k9
  have F10 := fun_mk (st := t__law_with_row) l10 c10 k10
  have F11 := fun_mk (st := t__law_count) l11 c11 k11
  have F12 := fun_mk (st := t__law_cut) l12 c12 k12
  have F13 := fun_mk (st := t__law_tree_of) l13 c13 k13
  have F14 := fun_mk (st := t__law_values) l14 c14 k14
  have F15 := fun_mk (st := t__law_walk) l15 c15 k15
  have F16 := fun_mk (st := t__law_closure) l16 c16 k16
  have F17 := fun_mk (st := t__law_first_reason) l17 c17 k17
  have F18 := fun_mk (st := t_task_body) l18 c18 k18
  have F19 := fun_mk (st := t_bodies_of) l19 c19 k19
  have F20 := fun_mk (st := t_statements_of) l20 c20 k20
  have F21 := fun_mk (st := t_sub_body) l21 c21 k21
  have F22 := fun_mk (st := t_walk_of) l22 c22 k22
  have F23 := fun_mk (st := t_operands_of) l23 c23 k23
  have F24 := fun_mk (st := t_carries) l24 c24 k24
  have F25 := fun_mk (st := t_carried_names) l25 c25 k25
  have F26 := fun_mk (st := t_asks) l26 c26 k26
  have F27 := fun_mk (st := t_carried_fault) l27 c27 k27
  have F28 := fun_mk (st := t__law_is_right) l28 c28 k28
  have F29 := fun_mk (st := t__law_untaken) l29 c29 k29
  have F30 := fun_mk (st := t_law) l30 c30 k30
  have y_int := PySem.W.mg_none_of X G z0
  have y_abs := PySem.W.mg_none_of X G z1
  have y_sum := PySem.W.mg_none_of X G z2
  have y_len := PySem.W.mg_none_of X G z3
  have y_range := PySem.W.mg_none_of X G z4
  have y_str := PySem.W.mg_none_of X G z5
  have y_tuple := PySem.W.mg_none_of X G z6
  have y_reversed := PySem.W.mg_none_of X G z7
  have y_min := PySem.W.mg_none_of X G z8
  have y_isinstance := PySem.W.mg_none_of X G z9
  have y_sorted := PySem.W.mg_none_of X G z10
  have y_list := PySem.W.mg_none_of X G z11
  have y_any := PySem.W.mg_none_of X G z12
  have y_repr := PySem.W.mg_none_of X G z13
  refine ⟨PySem.W.fnOf "law" "law" (defArgs t_law) (defBody t_law) (defScope t_law) .none kV30 dc30 pm30 an30 cd30 ct30, fun s v => .of_eq rfl, fun base _ _ => ?_⟩
  have D_SUMS : CoT K mg "SUMS" k_SUMS := cot_tup (PySem.W.mg_of X G co_SUMS) (conT_of cl_SUMS cv_SUMS cz_SUMS) (fun _ _ => .cons (.str _) (.cons (.str _) (.cons (.str _) (.nil))))
  have FI_NoSuch := fun_mk (st := ti_NoSuch) li_NoSuch ci_NoSuch ki_NoSuch
  have ox_NoSuch : OexC K C_NoSuch := ⟨⟨_, _, _, _, _, _, _, _, _, _, _, _, _, _, _, xL_NoSuch, by first | rfl | decide +kernel⟩, sa_NoSuch, eC_NoSuch, tC_NoSuch, kC_NoSuch⟩
  have ET_NoSuch : ExT K mg "NoSuch" C_NoSuch I_NoSuch ["name"] := ⟨PySem.W.mg_of X G aC_NoSuch, ox_NoSuch, ⟨ga_NoSuch, gg_NoSuch, eC_NoSuch, hC_NoSuch⟩, ai_NoSuch, ty_NoSuch, fun f hf => by
    simp only [List.mem_cons, List.not_mem_nil, or_false] at hf
    rcases hf with rfl <;> assumption⟩
  have Z_NoSuch : RzT l.prog w K mg base 1 "NoSuch" ["name"] := ⟨C_NoSuch, I_NoSuch, _, ["self", "name"], ET_NoSuch, FI_NoSuch.ok sci_NoSuch (spInit_len rfl) fun cdv A outer s H vs Q E hr h => ⟨_, pss_one (ps_ost (pv 0) (pv 1)), init_1 ox_NoSuch nb0_NoSuch h⟩, FI_NoSuch.binds (ps := ["self", "name"]) fun _ _ _ _ _ _ us hl => match us, hl with | [_, _], _ => rfl⟩
  have b0 := F0.binds (ps := ["script"]) fun _ _ _ _ _ _ us hl => match us, hl with | [_], _ => rfl
  have G__law_begin : Def0 l.prog w K mg base 1 "_law_begin" 1 mBegin := ⟨⟨f0, _, _, ok__law_begin y_int y_abs y_sum F0, PySem.W.mg_of X G a0, F0.kp, b0⟩, run_nox⟩
  have b1 := F1.binds (ps := ["d", "many"]) fun _ _ _ _ _ _ us hl => match us, hl with | [_, _], _ => rfl
  have G__law_draw : Def0 l.prog w K mg base 1 "_law_draw" 2 mDraw := ⟨⟨f1, _, _, ok__law_draw y_len y_int F1, PySem.W.mg_of X G a1, F1.kp, b1⟩, run_nox⟩
  have b2 := F2.binds (ps := ["d", "many"]) fun _ _ _ _ _ _ us hl => match us, hl with | [_, _], _ => rfl
  have G__law_names : Def0 l.prog w K mg base 2 "_law_names" 2 m__law_names := ⟨⟨f2, _, _, ok__law_names G__law_draw y_range y_str F2, PySem.W.mg_of X G a2, F2.kp, b2⟩, run_nox⟩
  have b3 := F3.binds (ps := ["d", "row"]) fun _ _ _ _ _ _ us hl => match us, hl with | [_, _], _ => rfl
  have G__law_pick : Def0 l.prog w K mg base 2 "_law_pick" 2 mPick := ⟨⟨f3, _, _, ok__law_pick G__law_draw y_len F3, PySem.W.mg_of X G a3, F3.kp, b3⟩, run_nox⟩
  have b4 := F4.binds (ps := ["d", "c"]) fun _ _ _ _ _ _ us hl => match us, hl with | [_, _], _ => rfl
  have G__law_calm : Def0 l.prog w K mg base 3 "_law_calm" 2 m__law_calm := ⟨⟨f4, _, _, ok__law_calm G__law_draw G__law_pick F4, PySem.W.mg_of X G a4, F4.kp, b4⟩, run_nox⟩
  have b5 := F5.binds (ps := ["d", "c"]) fun _ _ _ _ _ _ us hl => match us, hl with | [_, _], _ => rfl
  have G__law_spare : Def0 l.prog w K mg base 3 "_law_spare" 2 m__law_spare := ⟨⟨f5, _, _, ok__law_spare G__law_draw G__law_pick F5, PySem.W.mg_of X G a5, F5.kp, b5⟩, run_nox⟩
  have b6 := F6.binds (ps := ["d", "c"]) fun _ _ _ _ _ _ us hl => match us, hl with | [_, _], _ => rfl
  have G__law_asking : Def0 l.prog w K mg base 4 "_law_asking" 2 m__law_asking := ⟨⟨f6, _, _, ok__law_asking G__law_draw G__law_pick G__law_calm G__law_spare F6, PySem.W.mg_of X G a6, F6.kp, b6⟩, run_nox⟩
  have b7 := F7.binds (ps := ["d", "c"]) fun _ _ _ _ _ _ us hl => match us, hl with | [_, _], _ => rfl
  have G__law_telling : Def0 l.prog w K mg base 4 "_law_telling" 2 m__law_telling := ⟨⟨f7, _, _, ok__law_telling G__law_draw G__law_pick G__law_spare G__law_calm F7, PySem.W.mg_of X G a7, F7.kp, b7⟩, run_nox⟩
  have b8 := F8.binds (ps := ["d", "c", "depth", "many"]) fun _ _ _ _ _ _ us hl => match us, hl with | [_, _, _, _], _ => rfl
  have G__law_bodied : ∀ n, Def0 l.prog w K mg base (4 + n) "_law_bodied" 4 (m__law_bodied n) := fun n => by
    induction n with
    | zero => exact ⟨⟨f8, _, ["d", "c", "depth", "many"], fnG_bad rfl, PySem.W.mg_of X G a8, F8.kp, b8⟩, nox_bad⟩
    | succ n ih => exact ⟨⟨f8, _, _, ok__law_bodied (by omega) G__law_draw G__law_asking ih G__law_calm G__law_pick G__law_telling y_range y_len y_tuple F8, PySem.W.mg_of X G a8, F8.kp, b8⟩, run_nox⟩
  have b9 := F9.binds (ps := ["d", "many"]) fun _ _ _ _ _ _ us hl => match us, hl with | [_, _], _ => rfl
  have G__law_rare : Def0 l.prog w K mg base 2 "_law_rare" 2 mRare := ⟨⟨f9, _, _, ok__law_rare G__law_draw F9, PySem.W.mg_of X G a9, F9.kp, b9⟩, run_nox⟩
  have b10 := F10.binds (ps := ["d", "c", "body"]) fun _ _ _ _ _ _ us hl => match us, hl with | [_, _, _], _ => rfl
  have G__law_with_row : Def0 l.prog w K mg base 2 "_law_with_row" 3 m__law_with_row := ⟨⟨f10, _, _, ok__law_with_row G__law_draw y_reversed y_range y_len y_min F10, PySem.W.mg_of X G a10, F10.kp, b10⟩, run_nox⟩
  have b11 := F11.binds (ps := ["body"]) fun _ _ _ _ _ _ us hl => match us, hl with | [_], _ => rfl
  have G__law_count : ∀ n, Def0 l.prog w K mg base (0 + n) "_law_count" 1 (m__law_count n) := fun n => by
    induction n with
    | zero => exact ⟨⟨f11, _, ["body"], fnG_bad rfl, PySem.W.mg_of X G a11, F11.kp, b11⟩, nox_bad⟩
    | succ n ih => exact ⟨⟨f11, _, _, ok__law_count (by omega) ih y_tuple y_isinstance F11, PySem.W.mg_of X G a11, F11.kp, b11⟩, run_nox⟩
  have b12 := F12.binds (ps := ["body"]) fun _ _ _ _ _ _ us hl => match us, hl with | [_], _ => rfl
  have G__law_cut : Def0 l.prog w K mg base 7 "_law_cut" 1 m__law_cut := ⟨⟨f12, _, _, ok__law_cut (G__law_count 6) y_len y_range F12, PySem.W.mg_of X G a12, F12.kp, b12⟩, run_nox⟩
  have b13 := F13.binds (ps := ["d", "names"]) fun _ _ _ _ _ _ us hl => match us, hl with | [_, _], _ => rfl
  have G__law_tree_of : Def0 l.prog w K mg base 9 "_law_tree_of" 2 m__law_tree_of := ⟨⟨f13, _, _, ok__law_tree_of G__law_pick G__law_draw (G__law_bodied 4) G__law_rare G__law_with_row G__law_cut y_range y_len y_tuple F13, PySem.W.mg_of X G a13, F13.kp, b13⟩, run_nox⟩
  have b14 := F14.binds (ps := ["pairs", "name"]) fun _ _ _ _ _ _ us hl => match us, hl with | [_, _], _ => rfl
  have G__law_values : Def0 l.prog w K mg base 1 "_law_values" 2 m__law_values := ⟨⟨f14, _, _, ok__law_values F14, PySem.W.mg_of X G a14, F14.kp, b14⟩, run_nox⟩
  have b15 := F15.binds (ps := ["tree", "body", "seen"]) fun _ _ _ _ _ _ us hl => match us, hl with | [_, _, _], _ => rfl
  have G__law_walk : ∀ n, Def0 l.prog w K mg base (1 + n) "_law_walk" 3 (m__law_walk n) := fun n => by
    induction n with
    | zero => exact ⟨⟨f15, _, ["tree", "body", "seen"], fnG_bad rfl, PySem.W.mg_of X G a15, F15.kp, b15⟩, nox_bad⟩
    | succ n ih => exact ⟨⟨f15, _, _, ok__law_walk (by omega) ih G__law_values y_tuple y_isinstance F15, PySem.W.mg_of X G a15, F15.kp, b15⟩, run_nox⟩
  have b16 := F16.binds (ps := ["walk"]) fun _ _ _ _ _ _ us hl => match us, hl with | [_], _ => rfl
  have G__law_closure : Def0 l.prog w K mg base 1 "_law_closure" 1 m__law_closure := ⟨⟨f16, _, _, ok__law_closure y_len y_range y_sorted F16, PySem.W.mg_of X G a16, F16.kp, b16⟩, run_nox⟩
  have b17 := F17.binds (ps := ["walk", "carried"]) fun _ _ _ _ _ _ us hl => match us, hl with | [_, _], _ => rfl
  have G__law_first_reason : Def0 l.prog w K mg base 1 "_law_first_reason" 2 m__law_first_reason := ⟨⟨f17, _, _, ok__law_first_reason F17, PySem.W.mg_of X G a17, F17.kp, b17⟩, run_nox⟩
  have b18 := F18.binds (ps := ["tree", "name"]) fun _ _ _ _ _ _ us hl => match us, hl with | [_, _], _ => rfl
  have G_task_body : Def0 l.prog w K mg base 1 "task_body" 2 m_task_body := ⟨⟨f18, _, _, ok_task_body F18, PySem.W.mg_of X G a18, F18.kp, b18⟩, run_nox⟩
  have b19 := F19.binds (ps := ["statement"]) fun _ _ _ _ _ _ us hl => match us, hl with | [_], _ => rfl
  have G_bodies_of : Def0 l.prog w K mg base 1 "bodies_of" 1 m_bodies_of := ⟨⟨f19, _, _, ok_bodies_of F19, PySem.W.mg_of X G a19, F19.kp, b19⟩, run_nox⟩
  have b20 := F20.binds (ps := ["body"]) fun _ _ _ _ _ _ us hl => match us, hl with | [_], _ => rfl
  have G_statements_of : Def0 l.prog w K mg base 2 "statements_of" 1 m_statements_of := ⟨⟨f20, _, _, ok_statements_of G_bodies_of y_list y_reversed F20, PySem.W.mg_of X G a20, F20.kp, b20⟩, run_nox⟩
  have b21 := F21.binds (ps := ["tree", "name"]) fun _ _ _ _ _ _ us hl => match us, hl with | [_, _], _ => rfl
  have G_sub_body : DefX l.prog w K mg base 3 "sub_body" 2 m_sub_body := ⟨⟨f21, _, _, ok_sub_body Z_NoSuch F21, PySem.W.mg_of X G a21, F21.kp, b21⟩⟩
  have b22 := F22.binds (ps := ["tree", "task"]) fun _ _ _ _ _ _ us hl => match us, hl with | [_, _], _ => rfl
  have G_walk_of : DefX l.prog w K mg base 4 "walk_of" 2 m_walk_of := ⟨⟨f22, _, _, ok_walk_of G_task_body G_statements_of G_sub_body Z_NoSuch y_list y_reversed F22, PySem.W.mg_of X G a22, F22.kp, b22⟩⟩
  have b23 := F23.binds (ps := ["statement"]) fun _ _ _ _ _ _ us hl => match us, hl with | [_], _ => rfl
  have G_operands_of : Def0 l.prog w K mg base 1 "operands_of" 1 m_operands_of := ⟨⟨f23, _, _, ok_operands_of D_SUMS F23, PySem.W.mg_of X G a23, F23.kp, b23⟩, run_nox⟩
  have b24 := F24.binds (ps := ["statement", "names"]) fun _ _ _ _ _ _ us hl => match us, hl with | [_, _], _ => rfl
  have G_carries : Def0 l.prog w K mg base 2 "carries" 2 m_carries := ⟨⟨f24, _, _, ok_carries G_operands_of D_SUMS y_any F24, PySem.W.mg_of X G a24, F24.kp, b24⟩, run_nox⟩
  have b25 := F25.binds (ps := ["tree", "task"]) fun _ _ _ _ _ _ us hl => match us, hl with | [_, _], _ => rfl
  have G_carried_names : DefX l.prog w K mg base 5 "carried_names" 2 m_carried_names := ⟨⟨f25, _, _, ok_carried_names G_walk_of G_carries y_sorted y_tuple F25, PySem.W.mg_of X G a25, F25.kp, b25⟩⟩
  have b26 := F26.binds (ps := ["statement", "names"]) fun _ _ _ _ _ _ us hl => match us, hl with | [_, _], _ => rfl
  have G_asks : Def0 l.prog w K mg base 2 "asks" 2 m_asks := ⟨⟨f26, _, _, ok_asks G_operands_of y_any F26, PySem.W.mg_of X G a26, F26.kp, b26⟩, run_nox⟩
  have b27 := F27.binds (ps := ["tree", "task"]) fun _ _ _ _ _ _ us hl => match us, hl with | [_, _], _ => rfl
  have G_carried_fault : DefX l.prog w K mg base 6 "carried_fault" 2 m_carried_fault := ⟨⟨f27, _, _, ok_carried_fault G_carried_names G_walk_of G_asks F27, PySem.W.mg_of X G a27, F27.kp, b27⟩⟩
  have b28 := F28.binds (ps := ["tree"]) fun _ _ _ _ _ _ us hl => match us, hl with | [_], _ => rfl
  have G__law_is_right : Def0 l.prog w K mg base 27 "_law_is_right" 1 m__law_is_right := ⟨⟨f28, _, _, ok__law_is_right (G__law_walk 25) G__law_closure G__law_first_reason G_carried_names G_carried_fault y_tuple y_repr F28, PySem.W.mg_of X G a28, F28.kp, b28⟩, run_nox⟩
  have b29 := F29.binds (ps := ["body"]) fun _ _ _ _ _ _ us hl => match us, hl with | [_], _ => rfl
  have G__law_untaken : ∀ n, Def0 l.prog w K mg base (0 + n) "_law_untaken" 1 (m__law_untaken n) := fun n => by
    induction n with
    | zero => exact ⟨⟨f29, _, ["body"], fnG_bad rfl, PySem.W.mg_of X G a29, F29.kp, b29⟩, nox_bad⟩
    | succ n ih => exact ⟨⟨f29, _, _, ok__law_untaken (by omega) ih y_tuple y_isinstance F29, PySem.W.mg_of X G a29, F29.kp, b29⟩, run_nox⟩
  exact ok_law G__law_begin G__law_names G__law_tree_of G__law_is_right (G__law_untaken 6) G_carried_names G_carried_fault y_tuple F30
end K08
namespace K08
open PySem PySem.Spec PyProof.Rows L2 L3
local macro_rules | `(tactic| walk_at "ev") => `(tactic| simp (config := {decide := true}) only [W_ok, bind_ok, thn_nx, thn_rt, thn_rn, thn_bk, thn_ct, cVar, cK, c1_e, c1_k, c2_e, c2_k, c2_k2, cB_e, cB_k, cAnd_e, cOr_e, cNot_e, cNot_k, cIte_e, iteK_t, iteK_f, iteK, okB, okV, cAndV_e, cOrV_e, cNotV_e, cNotV_k, cBv_e, aNil, aCons_e, aCons_k, aCons_k2, cTup_e, cTup_k, nLst_e, nLst_k, vN_e, vN_k, cN_e, cN_k, nN_e, nN_k, oNone, oSome_e, oSome_k, cSl_e, cSl_k, cSl_k2, cSl_k3, nSl_e, nSl_k, nSl_k2, nSl_k3, nCat_e, nCat_k, nCat_k2, sNil, sSeq, sFrz, sBrk, sCnt, sExp_e, sExp_k, sRet_e, sRet_k, sRetN_e, sRetN_k, sRetU, sIf_e, sSet_e, sSet_k, sSetN_e, sSetN_k, gSet, gsNil, gsCons_e, gsCons_k, nxK, gTupD, gLstD, sAsg_e, sAsg_k, sAug_e, sAug_k, iL_e, iL_k, iT_e, iT_k, iR1_e, iR1_k, iR2_e, iR2_k, iZ_e, iZ_k, iR3_e, iR3_k, cCh_e, cCh_k, cCh_k2, cCh_k3, nRan_e, nRan_k, r1F_e, r1F_k, r2F_e, r2F_k, r2F_k2, r3F_e, r3F_k, r3F_k2, r3F_k3, intP, sFor_e, run_e, runK_rt, runK_rn, runK_nx, fin, outs, cCall_e, cCall_k, cCall_k2, nCall_e, nCall_k, nCall_k2, callM, sls, lents, wbk, lk, pvD, pvDs, pvs, Sl.dat, Sl.put, gSubD_e, gSubD_k, cM_e, cM_k, cMr_e, cMr_k, cMr_k2, isTy_str, isTy_lst, cGet2_e, cGet2_k, cGet2_k2, cGet2_k3, isDic_d, iRv_e, iRv_k, get2_d, nDic0, cTru_e, cTru_k, tru_l, tru_t, emp_c, emp_n, nRevL_e, nRevL_k, iRvR_e, iRvR_k, anNew_e, anNew_k, anNew_k2, anCons_e, anCons_k, anCons_k2, cCallA_e, cCallA_k, cutA_ok, drop_l, drop_1, pNil, keyD, pCons_e, pCons_k, pCons_k2, pCons_k3, nDic_e, nDic_k, nLc_e, nLc_k, lcB_ok, unAll, backAll, noAdr, setAll, setAllF, List.map_cons, List.map_nil, hOne, cYes, List.all_cons, List.all_nil, Bool.and_true, Bool.true_and, Bool.and_self, Option.map_none, ofO, Rt.d, add_i, mns_i, mul_r, mul_l, div_i, mod_i, neg_i, lt_i, le_i, gt_i, ge_i, int_i, abs_i, len_l, len_t, get_l, get_t, toT_l, toT_t, eq_i, ne_i, eq_s, ne_s, rg_len, isN_non, isN_int, notN_non, notN_int, pow18, isi_int, isi_bool, max_ii, max_l, max_t, sum_l, sum_t, toL_l, toL_t, sl_l, sl_t, sg1, sg2, sg3, sg4, sg5, ss2, ss3, ss4, ss5, List.getElem?_cons_zero, List.getElem?_cons_succ, List.set_cons_zero, List.set_cons_succ, List.length_cons, List.length_nil, List.length_map, List.length_range, List.replicate, List.cons_append, List.nil_append, Option.bind_some, Option.map_some, Option.isSome_some, Option.bind_none, if_true, if_false, reduceIte, decide_eq_true_eq, Bool.false_eq_true, reduceCtorEq, decide_true, decide_false, Bool.not_true, Bool.not_false, *])
local macro_rules | `(tactic| walk_at "evc") => `(tactic| simp (config := {decide := true}) only [at0, at1, at2, at3, set0, set1, set2, ran0, ran1, ran2, ran3, maxI_one, maxI_cons, asI_nil, asI_cons, add_l, add_t, app_l, line_le, line_lt, forL_nil, forL_cons, forL_k, lp_nx, lp_ct, lp_bk, lp_rt, lp_rn, sub_ok, lcL_nil, lcL_cons, lcH_some, lcL_k, lcL_k2, L3.cutD, HT.sIx, List.take_succ_cons, List.take_zero, List.drop_succ_cons, List.drop_zero, List.sum_cons, List.sum_nil, Nat.reduceAdd, Int.reduceSub, Int.reduceAdd, int_lit, Int.reduceToNat, Nat.reduceSub, Nat.min_def, Nat.reduceLeDiff, Int.reduceLT, W_ok, bind_ok, thn_nx, thn_rt, thn_rn, thn_bk, thn_ct, cVar, cK, c1_e, c1_k, c2_e, c2_k, c2_k2, cB_e, cB_k, cAnd_e, cOr_e, cNot_e, cNot_k, cIte_e, iteK_t, iteK_f, iteK, okB, okV, cAndV_e, cOrV_e, cNotV_e, cNotV_k, cBv_e, aNil, aCons_e, aCons_k, aCons_k2, cTup_e, cTup_k, nLst_e, nLst_k, vN_e, vN_k, cN_e, cN_k, nN_e, nN_k, oNone, oSome_e, oSome_k, cSl_e, cSl_k, cSl_k2, cSl_k3, nSl_e, nSl_k, nSl_k2, nSl_k3, nCat_e, nCat_k, nCat_k2, sNil, sSeq, sFrz, sBrk, sCnt, sExp_e, sExp_k, sRet_e, sRet_k, sRetN_e, sRetN_k, sRetU, sIf_e, sSet_e, sSet_k, sSetN_e, sSetN_k, gSet, gsNil, gsCons_e, gsCons_k, nxK, gTupD, gLstD, sAsg_e, sAsg_k, sAug_e, sAug_k, iL_e, iL_k, iT_e, iT_k, iR1_e, iR1_k, iR2_e, iR2_k, iZ_e, iZ_k, iR3_e, iR3_k, cCh_e, cCh_k, cCh_k2, cCh_k3, nRan_e, nRan_k, r1F_e, r1F_k, r2F_e, r2F_k, r2F_k2, r3F_e, r3F_k, r3F_k2, r3F_k3, intP, sFor_e, run_e, runK_rt, runK_rn, runK_nx, fin, outs, cCall_e, cCall_k, cCall_k2, nCall_e, nCall_k, nCall_k2, callM, sls, lents, wbk, lk, pvD, pvDs, pvs, Sl.dat, Sl.put, gSubD_e, gSubD_k, cM_e, cM_k, cMr_e, cMr_k, cMr_k2, isTy_str, isTy_lst, cGet2_e, cGet2_k, cGet2_k2, cGet2_k3, isDic_d, iRv_e, iRv_k, get2_d, nDic0, cTru_e, cTru_k, tru_l, tru_t, emp_c, emp_n, nRevL_e, nRevL_k, iRvR_e, iRvR_k, anNew_e, anNew_k, anNew_k2, anCons_e, anCons_k, anCons_k2, cCallA_e, cCallA_k, cutA_ok, drop_l, drop_1, pNil, keyD, pCons_e, pCons_k, pCons_k2, pCons_k3, nDic_e, nDic_k, nLc_e, nLc_k, lcB_ok, unAll, backAll, noAdr, setAll, setAllF, List.map_cons, List.map_nil, hOne, cYes, List.all_cons, List.all_nil, Bool.and_true, Bool.true_and, Bool.and_self, Option.map_none, ofO, Rt.d, add_i, mns_i, mul_r, mul_l, div_i, mod_i, neg_i, lt_i, le_i, gt_i, ge_i, int_i, abs_i, len_l, len_t, get_l, get_t, toT_l, toT_t, eq_i, ne_i, eq_s, ne_s, rg_len, isN_non, isN_int, notN_non, notN_int, pow18, isi_int, isi_bool, max_ii, max_l, max_t, sum_l, sum_t, toL_l, toL_t, sl_l, sl_t, sg1, sg2, sg3, sg4, sg5, ss2, ss3, ss4, ss5, List.getElem?_cons_zero, List.getElem?_cons_succ, List.set_cons_zero, List.set_cons_succ, List.length_cons, List.length_nil, List.length_map, List.length_range, List.replicate, List.cons_append, List.nil_append, Option.bind_some, Option.map_some, Option.isSome_some, Option.bind_none, if_true, if_false, reduceIte, decide_eq_true_eq, Bool.false_eq_true, reduceCtorEq, decide_true, decide_false, Bool.not_true, Bool.not_false, *])
/-! ### what stands in the trees -/
inductive Op where
  | nm (x : Str) | no (i : Int)
def Op.d : Op → D
  | .nm x => .str x
  | .no i => .int i
inductive Sk where
  | p | m | t
def Sk.s : Sk → Str
  | .p => "plus"
  | .m => "minus"
  | .t => "times"
inductive Stm where
  | set (x : Str) (a : Op)
  | sum (k : Sk) (x : Str) (a b : Op)
  | take (x c : Str)
  | read (x p : Str)
  | send (c : Str) (a : Op)
  | get (x v : Str) (a : Op)
  | put (v : Str) (a b : Op)
  | call (s : Str)
  | ifs (a : Op) (e : Bool) (b : Op) (p q : List Stm)
  | loop (n : Int) (p : List Stm)
  | hold (l : Str) (p : List Stm)
mutual
def dS : Stm → D
  | .set x a => .tup [.str "set", .str x, a.d]
  | .sum k x a b => .tup [.str k.s, .str x, a.d, b.d]
  | .take x c => .tup [.str "take", .str x, .str c]
  | .read x p => .tup [.str "read", .str x, .str p]
  | .send c a => .tup [.str "send", .str c, a.d]
  | .get x v a => .tup [.str "get", .str x, .str v, a.d]
  | .put v a b => .tup [.str "put", .str v, a.d, b.d]
  | .call s => .tup [.str "call", .str s]
  | .ifs a e b p q => .tup [.str "if", a.d, .str (if e then "equal" else "below"), b.d, .tup (dB p), .tup (dB q)]
  | .loop n p => .tup [.str "loop", .int n, .tup (dB p)]
  | .hold l p => .tup [.str "hold", .str l, .tup (dB p)]
def dB : List Stm → List D
  | [] => []
  | s :: r => dS s :: dB r
end
theorem dB_map : ∀ b : List Stm, dB b = b.map dS
  | [] => rfl
  | s :: r => by rw [dB, dB_map r]; rfl
/-! ### what is let -/
def okO (N : List Str) : Op → Prop
  | .nm x => x ∈ N
  | .no i => 0 ≤ i ∧ i < 1000
def OkS (N C : List Str) : Nat → Stm → Prop
  | _, .set x a => x ∈ N ∧ okO N a
  | _, .sum _ x a b => x ∈ N ∧ okO N a ∧ okO N b
  | _, .take x c => x ∈ N ∧ c ∈ N
  | _, .read x p => x ∈ N ∧ p ∈ N
  | _, .send c a => c ∈ N ∧ okO N a
  | _, .get x v a => x ∈ N ∧ v ∈ N ∧ okO N a
  | _, .put v a b => v ∈ N ∧ okO N a ∧ okO N b
  | _, .call s => s ∈ N ∧ s ∈ C
  | k + 1, .ifs a _ b p q => okO N a ∧ okO N b ∧ p.length ≤ 2 ∧ q.length ≤ 2 ∧ (∀ s ∈ p, OkS N C k s) ∧ ∀ s ∈ q, OkS N C k s
  | k + 1, .loop n p => (0 ≤ n ∧ n < 1000) ∧ p.length ≤ 2 ∧ ∀ s ∈ p, OkS N C k s
  | k + 1, .hold l p => l ∈ N ∧ p.length ≤ 2 ∧ ∀ s ∈ p, OkS N C k s
  | 0, .ifs _ _ _ _ _ => False
  | 0, .loop _ _ => False
  | 0, .hold _ _ => False
abbrev OkB (N C : List Str) (k : Nat) (b : List Stm) : Prop := ∀ s ∈ b, OkS N C k s
theorem OkS.up {N C : List Str} : ∀ {k : Nat} {s : Stm}, OkS N C k s → OkS N C (k + 1) s
  | k, .set _ _, h | k, .sum _ _ _ _, h | k, .take _ _, h | k, .read _ _, h | k, .send _ _, h | k, .get _ _ _, h | k, .put _ _ _, h | k, .call _, h => by simpa [OkS] using h
  | k + 1, .ifs _ _ _ _ _, h => by
    simp only [OkS] at h ⊢
    exact ⟨h.1, h.2.1, h.2.2.1, h.2.2.2.1, fun s hs => (h.2.2.2.2.1 s hs).up, fun s hs => (h.2.2.2.2.2 s hs).up⟩
  | k + 1, .loop _ _, h => by
    simp only [OkS] at h ⊢
    exact ⟨h.1, h.2.1, fun s hs => (h.2.2 s hs).up⟩
  | k + 1, .hold _ _, h => by
    simp only [OkS] at h ⊢
    exact ⟨h.1, h.2.1, fun s hs => (h.2.2 s hs).up⟩
  | 0, .ifs _ _ _ _ _, h | 0, .loop _ _, h | 0, .hold _ _, h => by simp [OkS] at h
theorem OkB.up {N C : List Str} {k j : Nat} {b : List Stm} (h : OkB N C k b) (hj : k ≤ j) : OkB N C j b := by
  induction hj with
  | refl => exact h
  | step _ ih => exact fun s hs => (ih s hs).up
/-! ### what is drawn from -/
structure Ctx where
  q : List Str
  l : List Str
  r : List Str
  ar : Str
  po : Str
  lo : Str
  sb : List Str
  it : Bool
  ri : Int
  se : Str
  ch : List Str
def cD (c : Ctx) : D := .dic [(.inr "quiet", .lst (c.q.map .str)), (.inr "loud", .lst (c.l.map .str)), (.inr "row", .lst (c.r.map .str)), (.inr "array", .str c.ar), (.inr "port", .str c.po), (.inr "lock", .str c.lo),
  (.inr "subs", .lst (c.sb.map .str)), (.inr "is_task", .bl c.it), (.inr "risk", .int c.ri), (.inr "sends", .str c.se), (.inr "channels", .lst (c.ch.map .str))]
section
variable {c : Ctx}
theorem k_q : gGet (cD c) (.str "quiet") = some (.lst (c.q.map .str)) := rfl
theorem k_l : gGet (cD c) (.str "loud") = some (.lst (c.l.map .str)) := rfl
theorem k_r : gGet (cD c) (.str "row") = some (.lst (c.r.map .str)) := rfl
theorem k_ar : gGet (cD c) (.str "array") = some (.str c.ar) := rfl
theorem k_po : gGet (cD c) (.str "port") = some (.str c.po) := rfl
theorem k_lo : gGet (cD c) (.str "lock") = some (.str c.lo) := rfl
theorem k_sb : gGet (cD c) (.str "subs") = some (.lst (c.sb.map .str)) := rfl
theorem k_it : gGet (cD c) (.str "is_task") = some (.bl c.it) := rfl
theorem k_ri : gGet (cD c) (.str "risk") = some (.int c.ri) := rfl
theorem k_se : gGet (cD c) (.str "sends") = some (.str c.se) := rfl
theorem k_ch : gGet (cD c) (.str "channels") = some (.lst (c.ch.map .str)) := rfl
end
structure Cok (N C : List Str) (c : Ctx) : Prop where
  q3 : c.q.length = 3
  l3 : c.l.length = 3
  r6 : c.r.length = 6
  ch0 : 0 < c.ch.length
  ch3 : c.ch.length ≤ 3
  qN : ∀ x ∈ c.q, x ∈ N
  lN : ∀ x ∈ c.l, x ∈ N
  rN : ∀ x ∈ c.r, x ∈ N
  chN : ∀ x ∈ c.ch, x ∈ N
  arN : c.ar ∈ N
  poN : c.po ∈ N
  loN : c.lo ∈ N
  sbN : ∀ x ∈ c.sb, x ∈ N ∧ x ∈ C
  sb4 : c.sb.length ≤ 4
  seN : c.se = "" ∨ c.se ∈ N
theorem pickS_ok {s : D} (h : Wf s) {l : List Str} (h0 : 0 < l.length) (h1 : l.length ≤ 1000) : ∃ (x : Str) (s' : D), mPick [.bor s, .val (.lst (l.map .str))] = .ok (.v (.str x)) [.bor s', .un] ∧ x ∈ l ∧ Wf s' := by
  obtain ⟨x, s', e, h2, h3, h4⟩ := draw_ok h (many := l.length) (by omega) (by omega)
  obtain ⟨m, rfl⟩ := Int.eq_ofNat_of_zero_le h2
  have hm : m < l.length := by omega
  have e2 : atI (l.map D.str) (m : Int) = some (.str l[m]) := map_at hm
  refine ⟨l[m], s', ?_, List.getElem_mem hm, h4⟩
  have e3 : gLen [.lst (l.map D.str)] = some (.int (l.length : Int)) := by
    show some (D.int ((l.map D.str).length : Int)) = _
    rw [List.length_map]
  generalize l.map D.str = LL at *
  unfold mPick L3.run gPick
  walk_at "ev"
/-- a number drawn below a small bound -/
theorem drawN {s : D} (h : Wf s) (many : Int) (h0 : 0 < many) (h1 : many ≤ 1000) : ∃ (x : Nat) (s' : D), mDraw [.bor s, .val (.int many)] = .ok (.v (.int x)) [.bor s', .un] ∧ (x : Int) < many ∧ Wf s' := by
  obtain ⟨x, s', e, h2, h3, h4⟩ := draw_ok h (many := many) h0 (by omega)
  obtain ⟨m, rfl⟩ := Int.eq_ofNat_of_zero_le h2
  exact ⟨m, s', e, h3, h4⟩
section
variable {d : D} {c : Ctx} {N C : List Str}
theorem calm_ok (hw : Wf d) (hc : Cok N C c) : ∃ (a : Op) (d' : D), m__law_calm [.bor d, .bor (cD c)] = .ok (.v a.d) [.bor d', .bor (cD c)] ∧ okO N a ∧ Wf d' := by
  obtain ⟨x, d1, e1, hx, w1⟩ := drawN hw 2 (by decide) (by decide)
  by_cases h0 : (x : Int) = 0
  · obtain ⟨y, d2, e2, hy, w2⟩ := pickS_ok w1 (l := c.q) (by rw [hc.q3]; decide) (by rw [hc.q3]; decide)
    refine ⟨.nm y, d2, ?_, hc.qN y hy, w2⟩
    have := k_q (c := c)
    generalize cD c = CD at *
    clear hw hc w1 w2 hy
    unfold m__law_calm g__law_calm
    walk_at "ev"
    rfl
  · obtain ⟨y, d2, e2, hy, w2⟩ := drawN w1 3 (by decide) (by decide)
    refine ⟨.no y, d2, ?_, ⟨by omega, by omega⟩, w2⟩
    generalize cD c = CD at *
    clear hw hc w1 w2
    unfold m__law_calm g__law_calm
    walk_at "ev"
    rfl
theorem spare_ok (hw : Wf d) (hc : Cok N C c) : ∃ (a : Op) (d' : D), m__law_spare [.bor d, .bor (cD c)] = .ok (.v a.d) [.bor d', .bor (cD c)] ∧ okO N a ∧ Wf d' := by
  obtain ⟨x, d1, e1, hx, w1⟩ := drawN hw 7 (by decide) (by decide)
  have kq := k_q (c := c)
  have kl := k_l (c := c)
  have kr := k_r (c := c)
  by_cases h0 : (x : Int) < 3
  · obtain ⟨y, d2, e2, hy, w2⟩ := pickS_ok w1 (l := c.l) (by rw [hc.l3]; decide) (by rw [hc.l3]; decide)
    refine ⟨.nm y, d2, ?_, hc.lN y hy, w2⟩
    generalize cD c = CD at *
    clear hw hc w1 w2 hy
    unfold m__law_spare g__law_spare
    walk_at "ev"
    rfl
  · by_cases h1 : (x : Int) < 5
    · obtain ⟨y, d2, e2, hy, w2⟩ := pickS_ok w1 (l := c.q) (by rw [hc.q3]; decide) (by rw [hc.q3]; decide)
      refine ⟨.nm y, d2, ?_, hc.qN y hy, w2⟩
      generalize cD c = CD at *
      clear hw hc w1 w2 hy
      unfold m__law_spare g__law_spare
      walk_at "ev"
      rfl
    · by_cases h2 : (x : Int) = 5
      · obtain ⟨y, d2, e2, hy, w2⟩ := pickS_ok w1 (l := c.r) (by rw [hc.r6]; decide) (by rw [hc.r6]; decide)
        refine ⟨.nm y, d2, ?_, hc.rN y hy, w2⟩
        generalize cD c = CD at *
        clear hw hc w1 w2 hy
        unfold m__law_spare g__law_spare
        walk_at "ev"
        rfl
      · obtain ⟨y, d2, e2, hy, w2⟩ := drawN w1 3 (by decide) (by decide)
        refine ⟨.no y, d2, ?_, ⟨by omega, by omega⟩, w2⟩
        generalize cD c = CD at *
        clear hw hc w1 w2
        unfold m__law_spare g__law_spare
        walk_at "ev"
        rfl
end
end K08
namespace K08
open PySem PySem.Spec PyProof.Rows L2 L3
local macro_rules | `(tactic| walk_at "ev") => `(tactic| simp (config := {decide := true}) only [W_ok, bind_ok, thn_nx, thn_rt, thn_rn, thn_bk, thn_ct, cVar, cK, c1_e, c1_k, c2_e, c2_k, c2_k2, cB_e, cB_k, cAnd_e, cOr_e, cNot_e, cNot_k, cIte_e, iteK_t, iteK_f, iteK, okB, okV, cAndV_e, cOrV_e, cNotV_e, cNotV_k, cBv_e, aNil, aCons_e, aCons_k, aCons_k2, cTup_e, cTup_k, nLst_e, nLst_k, vN_e, vN_k, cN_e, cN_k, nN_e, nN_k, oNone, oSome_e, oSome_k, cSl_e, cSl_k, cSl_k2, cSl_k3, nSl_e, nSl_k, nSl_k2, nSl_k3, nCat_e, nCat_k, nCat_k2, sNil, sSeq, sFrz, sBrk, sCnt, sExp_e, sExp_k, sRet_e, sRet_k, sRetN_e, sRetN_k, sRetU, sIf_e, sSet_e, sSet_k, sSetN_e, sSetN_k, gSet, gsNil, gsCons_e, gsCons_k, nxK, gTupD, gLstD, sAsg_e, sAsg_k, sAug_e, sAug_k, iL_e, iL_k, iT_e, iT_k, iR1_e, iR1_k, iR2_e, iR2_k, iZ_e, iZ_k, iR3_e, iR3_k, cCh_e, cCh_k, cCh_k2, cCh_k3, nRan_e, nRan_k, r1F_e, r1F_k, r2F_e, r2F_k, r2F_k2, r3F_e, r3F_k, r3F_k2, r3F_k3, intP, sFor_e, run_e, runK_rt, runK_rn, runK_nx, fin, outs, cCall_e, cCall_k, cCall_k2, nCall_e, nCall_k, nCall_k2, callM, sls, lents, wbk, lk, pvD, pvDs, pvs, Sl.dat, Sl.put, gSubD_e, gSubD_k, cM_e, cM_k, cMr_e, cMr_k, cMr_k2, isTy_str, isTy_lst, cGet2_e, cGet2_k, cGet2_k2, cGet2_k3, isDic_d, iRv_e, iRv_k, get2_d, nDic0, cTru_e, cTru_k, tru_l, tru_t, emp_c, emp_n, nRevL_e, nRevL_k, iRvR_e, iRvR_k, anNew_e, anNew_k, anNew_k2, anCons_e, anCons_k, anCons_k2, cCallA_e, cCallA_k, cutA_ok, drop_l, drop_1, pNil, keyD, pCons_e, pCons_k, pCons_k2, pCons_k3, nDic_e, nDic_k, nLc_e, nLc_k, lcB_ok, unAll, backAll, noAdr, setAll, setAllF, List.map_cons, List.map_nil, hOne, cYes, List.all_cons, List.all_nil, Bool.and_true, Bool.true_and, Bool.and_self, Option.map_none, ofO, Rt.d, add_i, mns_i, mul_r, mul_l, div_i, mod_i, neg_i, lt_i, le_i, gt_i, ge_i, int_i, abs_i, len_l, len_t, get_l, get_t, toT_l, toT_t, eq_i, ne_i, eq_s, ne_s, rg_len, isN_non, isN_int, notN_non, notN_int, pow18, isi_int, isi_bool, max_ii, max_l, max_t, sum_l, sum_t, toL_l, toL_t, sl_l, sl_t, sg1, sg2, sg3, sg4, sg5, ss2, ss3, ss4, ss5, List.getElem?_cons_zero, List.getElem?_cons_succ, List.set_cons_zero, List.set_cons_succ, List.length_cons, List.length_nil, List.length_map, List.length_range, List.replicate, List.cons_append, List.nil_append, Option.bind_some, Option.map_some, Option.isSome_some, Option.bind_none, if_true, if_false, reduceIte, decide_eq_true_eq, Bool.false_eq_true, reduceCtorEq, decide_true, decide_false, Bool.not_true, Bool.not_false, *])
local macro_rules | `(tactic| walk_at "evc") => `(tactic| simp (config := {decide := true}) only [at0, at1, at2, at3, set0, set1, set2, ran0, ran1, ran2, ran3, maxI_one, maxI_cons, asI_nil, asI_cons, add_l, add_t, app_l, line_le, line_lt, forL_nil, forL_cons, forL_k, lp_nx, lp_ct, lp_bk, lp_rt, lp_rn, sub_ok, lcL_nil, lcL_cons, lcH_some, lcL_k, lcL_k2, L3.cutD, HT.sIx, List.take_succ_cons, List.take_zero, List.drop_succ_cons, List.drop_zero, List.sum_cons, List.sum_nil, Nat.reduceAdd, Int.reduceSub, Int.reduceAdd, int_lit, Int.reduceToNat, Nat.reduceSub, Nat.min_def, Nat.reduceLeDiff, Int.reduceLT, W_ok, bind_ok, thn_nx, thn_rt, thn_rn, thn_bk, thn_ct, cVar, cK, c1_e, c1_k, c2_e, c2_k, c2_k2, cB_e, cB_k, cAnd_e, cOr_e, cNot_e, cNot_k, cIte_e, iteK_t, iteK_f, iteK, okB, okV, cAndV_e, cOrV_e, cNotV_e, cNotV_k, cBv_e, aNil, aCons_e, aCons_k, aCons_k2, cTup_e, cTup_k, nLst_e, nLst_k, vN_e, vN_k, cN_e, cN_k, nN_e, nN_k, oNone, oSome_e, oSome_k, cSl_e, cSl_k, cSl_k2, cSl_k3, nSl_e, nSl_k, nSl_k2, nSl_k3, nCat_e, nCat_k, nCat_k2, sNil, sSeq, sFrz, sBrk, sCnt, sExp_e, sExp_k, sRet_e, sRet_k, sRetN_e, sRetN_k, sRetU, sIf_e, sSet_e, sSet_k, sSetN_e, sSetN_k, gSet, gsNil, gsCons_e, gsCons_k, nxK, gTupD, gLstD, sAsg_e, sAsg_k, sAug_e, sAug_k, iL_e, iL_k, iT_e, iT_k, iR1_e, iR1_k, iR2_e, iR2_k, iZ_e, iZ_k, iR3_e, iR3_k, cCh_e, cCh_k, cCh_k2, cCh_k3, nRan_e, nRan_k, r1F_e, r1F_k, r2F_e, r2F_k, r2F_k2, r3F_e, r3F_k, r3F_k2, r3F_k3, intP, sFor_e, run_e, runK_rt, runK_rn, runK_nx, fin, outs, cCall_e, cCall_k, cCall_k2, nCall_e, nCall_k, nCall_k2, callM, sls, lents, wbk, lk, pvD, pvDs, pvs, Sl.dat, Sl.put, gSubD_e, gSubD_k, cM_e, cM_k, cMr_e, cMr_k, cMr_k2, isTy_str, isTy_lst, cGet2_e, cGet2_k, cGet2_k2, cGet2_k3, isDic_d, iRv_e, iRv_k, get2_d, nDic0, cTru_e, cTru_k, tru_l, tru_t, emp_c, emp_n, nRevL_e, nRevL_k, iRvR_e, iRvR_k, anNew_e, anNew_k, anNew_k2, anCons_e, anCons_k, anCons_k2, cCallA_e, cCallA_k, cutA_ok, drop_l, drop_1, pNil, keyD, pCons_e, pCons_k, pCons_k2, pCons_k3, nDic_e, nDic_k, nLc_e, nLc_k, lcB_ok, unAll, backAll, noAdr, setAll, setAllF, List.map_cons, List.map_nil, hOne, cYes, List.all_cons, List.all_nil, Bool.and_true, Bool.true_and, Bool.and_self, Option.map_none, ofO, Rt.d, add_i, mns_i, mul_r, mul_l, div_i, mod_i, neg_i, lt_i, le_i, gt_i, ge_i, int_i, abs_i, len_l, len_t, get_l, get_t, toT_l, toT_t, eq_i, ne_i, eq_s, ne_s, rg_len, isN_non, isN_int, notN_non, notN_int, pow18, isi_int, isi_bool, max_ii, max_l, max_t, sum_l, sum_t, toL_l, toL_t, sl_l, sl_t, sg1, sg2, sg3, sg4, sg5, ss2, ss3, ss4, ss5, List.getElem?_cons_zero, List.getElem?_cons_succ, List.set_cons_zero, List.set_cons_succ, List.length_cons, List.length_nil, List.length_map, List.length_range, List.replicate, List.cons_append, List.nil_append, Option.bind_some, Option.map_some, Option.isSome_some, Option.bind_none, if_true, if_false, reduceIte, decide_eq_true_eq, Bool.false_eq_true, reduceCtorEq, decide_true, decide_false, Bool.not_true, Bool.not_false, *])
section
variable {d : D} {c : Ctx} {N C : List Str}
theorem pickK_ok {s : D} (h : Wf s) : ∃ (k : Sk) (s' : D), mPick [.bor s, .val (.tup [.str "plus", .str "minus", .str "times"])] = .ok (.v (.str k.s)) [.bor s', .un] ∧ Wf s' := by
  obtain ⟨x, d, s', e, h1, h2⟩ := pick_ok h (ds := [.str "plus", .str "minus", .str "times"]) (by simp) (by decide)
  match x, h1 with
  | 0, h1 => cases h1; exact ⟨.p, s', e, h2⟩
  | 1, h1 => cases h1; exact ⟨.m, s', e, h2⟩
  | 2, h1 => cases h1; exact ⟨.t, s', e, h2⟩
  | x + 3, h1 => simp at h1
theorem pickP_ok {s : D} (h : Wf s) : ∃ (k : Sk) (s' : D), mPick [.bor s, .val (.tup [.str "plus", .str "minus"])] = .ok (.v (.str k.s)) [.bor s', .un] ∧ Wf s' := by
  obtain ⟨x, d, s', e, h1, h2⟩ := pick_ok h (ds := [.str "plus", .str "minus"]) (by simp) (by decide)
  match x, h1 with
  | 0, h1 => cases h1; exact ⟨.p, s', e, h2⟩
  | 1, h1 => cases h1; exact ⟨.m, s', e, h2⟩
  | x + 2, h1 => simp at h1
theorem q_at (hc : Cok N C c) : ∃ y0 y1 y2, c.q = [y0, y1, y2] ∧ y0 ∈ N ∧ y1 ∈ N ∧ y2 ∈ N := by
  have h := hc.q3
  have hN := hc.qN
  match e : c.q, h with
  | [a, b, x], _ =>
    rw [e] at hN
    exact ⟨a, b, x, rfl, hN _ (by simp), hN _ (by simp), hN _ (by simp)⟩

theorem asking_ok (hw : Wf d) (hc : Cok N C c) : ∃ (s : Stm) (d' : D), m__law_asking [.bor d, .bor (cD c)] = .ok (.v (dS s)) [.bor d', .bor (cD c)] ∧ OkS N C 1 s ∧ Wf d' := by
  have kq := k_q (c := c)
  have kl := k_l (c := c)
  have kar := k_ar (c := c)
  have kpo := k_po (c := c)
  have kit := k_it (c := c)
  have kse := k_se (c := c)
  have kch := k_ch (c := c)
  obtain ⟨y0, y1, y2, eq, n0, n1, n2⟩ := q_at hc
  have a0 : gGet (.lst (c.q.map D.str)) (.int 0) = some (.str y0) := by rw [eq]; rfl
  have a1 : gGet (.lst (c.q.map D.str)) (.int 1) = some (.str y1) := by rw [eq]; rfl
  clear eq
  have arN := hc.arN
  obtain ⟨x1, d1, e1, h1, w1⟩ := drawN hw 7 (by decide) (by decide)
  obtain ⟨k2, d2, e2, w2⟩ := pickK_ok w1
  by_cases g0 : (x1 : Int) = 0
  · obtain ⟨y3, d3, e3, q3, w3⟩ := pickS_ok w2 (l := c.q) (by rw [hc.q3]; decide) (by rw [hc.q3]; decide)
    have p3 := hc.qN y3 q3
    obtain ⟨a4, d4, e4, p4, w4⟩ := calm_ok w3 hc
    obtain ⟨a5, d5, e5, p5, w5⟩ := spare_ok w4 hc
    refine ⟨.sum k2 y3 a4 a5, d5, ?_, ⟨p3, p4, p5⟩, w5⟩
    clear hw hc w1 w2 p3 q3 w3 p4 w4 p5 w5
    try clear n0 n1 n2
    generalize cD c = CD at *
    unfold m__law_asking g__law_asking
    walk_at "ev"
    rfl
  · by_cases g1 : (x1 : Int) = 1
    · obtain ⟨y3, d3, e3, q3, w3⟩ := pickS_ok w2 (l := c.l) (by rw [hc.l3]; decide) (by rw [hc.l3]; decide)
      have p3 := hc.lN y3 q3
      obtain ⟨a4, d4, e4, p4, w4⟩ := spare_ok w3 hc
      obtain ⟨a5, d5, e5, p5, w5⟩ := spare_ok w4 hc
      refine ⟨.sum .t y3 a4 a5, d5, ?_, ⟨p3, p4, p5⟩, w5⟩
      clear hw hc w1 w2 p3 q3 w3 p4 w4 p5 w5
      try clear n0 n1 n2
      generalize cD c = CD at *
      unfold m__law_asking g__law_asking
      walk_at "ev"
      rfl
    · by_cases g2 : (x1 : Int) = 2
      · by_cases t2 : c.it = true
        · obtain ⟨y3, d3, e3, q3, w3⟩ := pickS_ok w2 (l := c.q) (by rw [hc.q3]; decide) (by rw [hc.q3]; decide)
          have p3 := hc.qN y3 q3
          obtain ⟨a4, d4, e4, p4, w4⟩ := spare_ok w3 hc
          refine ⟨.get y3 c.ar a4, d4, ?_, ⟨p3, arN, p4⟩, w4⟩
          clear hw hc w1 w2 p3 q3 w3 p4 w4
          try clear n0 n1 n2
          generalize cD c = CD at *
          unfold m__law_asking g__law_asking
          walk_at "ev"
          rfl
        · obtain ⟨a3, d3, e3, p3, w3⟩ := spare_ok w2 hc
          obtain ⟨a4, d4, e4, p4, w4⟩ := calm_ok w3 hc
          refine ⟨.ifs a3 false a4 [] [.set y1 (.no 2)], d4, ?_, ⟨p3, p4, by simp, by simp, fun s hs => (by cases hs), fun s hs => (by cases List.mem_singleton.mp hs; exact ⟨n1, by decide, by decide⟩)⟩, w4⟩
          clear hw hc w1 w2 p3 w3 p4 w4
          try clear n0 n1 n2
          generalize cD c = CD at *
          unfold m__law_asking g__law_asking
          walk_at "ev"
          rfl
      · by_cases g3 : (x1 : Int) = 3
        · by_cases t3 : c.it = true
          · obtain ⟨a3, d3, e3, p3, w3⟩ := spare_ok w2 hc
            obtain ⟨a4, d4, e4, p4, w4⟩ := spare_ok w3 hc
            refine ⟨.put c.ar a3 a4, d4, ?_, ⟨arN, p3, p4⟩, w4⟩
            clear hw hc w1 w2 p3 w3 p4 w4
            try clear n0 n1 n2
            generalize cD c = CD at *
            unfold m__law_asking g__law_asking
            walk_at "ev"
            rfl
          · obtain ⟨a3, d3, e3, p3, w3⟩ := spare_ok w2 hc
            obtain ⟨a4, d4, e4, p4, w4⟩ := calm_ok w3 hc
            refine ⟨.ifs a3 false a4 [] [.set y1 (.no 2)], d4, ?_, ⟨p3, p4, by simp, by simp, fun s hs => (by cases hs), fun s hs => (by cases List.mem_singleton.mp hs; exact ⟨n1, by decide, by decide⟩)⟩, w4⟩
            clear hw hc w1 w2 p3 w3 p4 w4
            try clear n0 n1 n2
            generalize cD c = CD at *
            unfold m__law_asking g__law_asking
            walk_at "ev"
            rfl
        · by_cases g4 : (x1 : Int) = 4
          · by_cases t4 : c.it = true
            · obtain ⟨a3, d3, e3, p3, w3⟩ := calm_ok w2 hc
              obtain ⟨a4, d4, e4, p4, w4⟩ := spare_ok w3 hc
              refine ⟨.put c.ar a3 a4, d4, ?_, ⟨arN, p3, p4⟩, w4⟩
              clear hw hc w1 w2 p3 w3 p4 w4
              try clear n0 n1 n2
              generalize cD c = CD at *
              unfold m__law_asking g__law_asking
              walk_at "ev"
              rfl
            · obtain ⟨a3, d3, e3, p3, w3⟩ := spare_ok w2 hc
              obtain ⟨a4, d4, e4, p4, w4⟩ := calm_ok w3 hc
              refine ⟨.ifs a3 false a4 [] [.set y1 (.no 2)], d4, ?_, ⟨p3, p4, by simp, by simp, fun s hs => (by cases hs), fun s hs => (by cases List.mem_singleton.mp hs; exact ⟨n1, by decide, by decide⟩)⟩, w4⟩
              clear hw hc w1 w2 p3 w3 p4 w4
              try clear n0 n1 n2
              generalize cD c = CD at *
              unfold m__law_asking g__law_asking
              walk_at "ev"
              rfl
          · by_cases g5 : (x1 : Int) = 5
            · obtain ⟨a3, d3, e3, p3, w3⟩ := calm_ok w2 hc
              obtain ⟨a4, d4, e4, p4, w4⟩ := spare_ok w3 hc
              refine ⟨.ifs a3 true a4 [.set y0 (.no 1)] [], d4, ?_, ⟨p3, p4, by simp, by simp, fun s hs => (by cases List.mem_singleton.mp hs; exact ⟨n0, by decide, by decide⟩), fun s hs => (by cases hs)⟩, w4⟩
              clear hw hc w1 w2 p3 w3 p4 w4
              try clear n0 n1 n2
              generalize cD c = CD at *
              unfold m__law_asking g__law_asking
              walk_at "ev"
              rfl
            · obtain ⟨a3, d3, e3, p3, w3⟩ := spare_ok w2 hc
              obtain ⟨a4, d4, e4, p4, w4⟩ := calm_ok w3 hc
              refine ⟨.ifs a3 false a4 [] [.set y1 (.no 2)], d4, ?_, ⟨p3, p4, by simp, by simp, fun s hs => (by cases hs), fun s hs => (by cases List.mem_singleton.mp hs; exact ⟨n1, by decide, by decide⟩)⟩, w4⟩
              clear hw hc w1 w2 p3 w3 p4 w4
              try clear n0 n1 n2
              generalize cD c = CD at *
              unfold m__law_asking g__law_asking
              walk_at "ev"
              rfl
theorem telling_ok (hw : Wf d) (hc : Cok N C c) : ∃ (s : Stm) (d' : D), m__law_telling [.bor d, .bor (cD c)] = .ok (.v (dS s)) [.bor d', .bor (cD c)] ∧ OkS N C 1 s ∧ Wf d' := by
  have kq := k_q (c := c)
  have kl := k_l (c := c)
  have kar := k_ar (c := c)
  have kpo := k_po (c := c)
  have kit := k_it (c := c)
  have kse := k_se (c := c)
  have kch := k_ch (c := c)
  obtain ⟨y0, y1, y2, eq, n0, n1, n2⟩ := q_at hc
  have a0 : gGet (.lst (c.q.map D.str)) (.int 0) = some (.str y0) := by rw [eq]; rfl
  have a1 : gGet (.lst (c.q.map D.str)) (.int 1) = some (.str y1) := by rw [eq]; rfl
  clear eq
  have arN := hc.arN
  have poN := hc.poN
  have seN := hc.seN
  obtain ⟨x1, d1, e1, h1, w1⟩ := drawN hw 8 (by decide) (by decide)
  obtain ⟨l2, d2, e2, r2, w2⟩ := pickS_ok w1 (l := c.l) (by rw [hc.l3]; decide) (by rw [hc.l3]; decide)
  obtain ⟨q3, d3, e3, r3, w3⟩ := pickS_ok w2 (l := c.q) (by rw [hc.q3]; decide) (by rw [hc.q3]; decide)
  have lN := hc.lN l2 r2
  have qN := hc.qN q3 r3
  clear r2 r3
  by_cases g0 : (x1 : Int) = 0
  · obtain ⟨a4, d4, e4, p4, w4⟩ := spare_ok w3 hc
    refine ⟨.set l2 a4, d4, ?_, ⟨lN, p4⟩, w4⟩
    clear hw hc w1 w2 w3 p4 w4
    try clear n0 n1 n2
    generalize cD c = CD at *
    unfold m__law_telling g__law_telling
    walk_at "ev"
    rfl
  · by_cases g1 : (x1 : Int) = 1
    · obtain ⟨k4, d4, e4, w4⟩ := pickP_ok w3
      obtain ⟨a5, d5, e5, p5, w5⟩ := spare_ok w4 hc
      obtain ⟨a6, d6, e6, p6, w6⟩ := spare_ok w5 hc
      refine ⟨.sum k4 l2 a5 a6, d6, ?_, ⟨lN, p5, p6⟩, w6⟩
      clear hw hc w1 w2 w3 w4 p5 w5 p6 w6
      try clear n0 n1 n2
      generalize cD c = CD at *
      unfold m__law_telling g__law_telling
      walk_at "ev"
      rfl
    · by_cases g2 : (x1 : Int) = 2
      · obtain ⟨a4, d4, e4, p4, w4⟩ := calm_ok w3 hc
        obtain ⟨a5, d5, e5, p5, w5⟩ := spare_ok w4 hc
        refine ⟨.sum .t l2 a4 a5, d5, ?_, ⟨lN, p4, p5⟩, w5⟩
        clear hw hc w1 w2 w3 p4 w4 p5 w5
        try clear n0 n1 n2
        generalize cD c = CD at *
        unfold m__law_telling g__law_telling
        walk_at "ev"
        rfl
      · by_cases g3 : (x1 : Int) = 3
        · obtain ⟨x4, d4, e4, h4, w4⟩ := drawN w3 2 (by decide) (by decide)
          by_cases g30 : (x4 : Int) = 0
          · obtain ⟨y5, d5, e5, q5, w5⟩ := pickS_ok w4 (l := c.ch) (by have := hc.ch0; omega) (by have := hc.ch3; omega)
            have p5 := hc.chN y5 q5
            refine ⟨.take l2 y5, d5, ?_, ⟨lN, p5⟩, w5⟩
            clear hw hc w1 w2 w3 w4 p5 q5 w5
            try clear n0 n1 n2
            generalize cD c = CD at *
            unfold m__law_telling g__law_telling
            walk_at "ev"
            rfl
          · obtain ⟨k5, d5, e5, w5⟩ := pickK_ok w4
            obtain ⟨a6, d6, e6, p6, w6⟩ := calm_ok w5 hc
            obtain ⟨a7, d7, e7, p7, w7⟩ := calm_ok w6 hc
            refine ⟨.sum k5 q3 a6 a7, d7, ?_, ⟨qN, p6, p7⟩, w7⟩
            clear hw hc w1 w2 w3 w4 w5 p6 w6 p7 w7
            try clear n0 n1 n2
            generalize cD c = CD at *
            unfold m__law_telling g__law_telling
            walk_at "ev"
            rfl
        · by_cases g4 : (x1 : Int) = 4
          · by_cases z4 : c.se = ""
            · obtain ⟨k4, d4, e4, w4⟩ := pickK_ok w3
              obtain ⟨a5, d5, e5, p5, w5⟩ := calm_ok w4 hc
              obtain ⟨a6, d6, e6, p6, w6⟩ := calm_ok w5 hc
              refine ⟨.sum k4 q3 a5 a6, d6, ?_, ⟨qN, p5, p6⟩, w6⟩
              clear hw hc w1 w2 w3 w4 p5 w5 p6 w6
              try clear n0 n1 n2
              generalize cD c = CD at *
              unfold m__law_telling g__law_telling
              walk_at "ev"
              rfl
            · obtain ⟨a4, d4, e4, p4, w4⟩ := spare_ok w3 hc
              refine ⟨.send c.se a4, d4, ?_, ⟨seN.resolve_left z4, p4⟩, w4⟩
              clear hw hc w1 w2 w3 p4 w4
              try clear n0 n1 n2
              generalize cD c = CD at *
              unfold m__law_telling g__law_telling
              walk_at "ev"
              rfl
          · by_cases g5 : (x1 : Int) = 5
            · by_cases t5 : c.it = true
              · obtain ⟨a4, d4, e4, p4, w4⟩ := calm_ok w3 hc
                refine ⟨.get l2 c.ar a4, d4, ?_, ⟨lN, arN, p4⟩, w4⟩
                clear hw hc w1 w2 w3 p4 w4
                try clear n0 n1 n2
                generalize cD c = CD at *
                unfold m__law_telling g__law_telling
                walk_at "ev"
                rfl
              · obtain ⟨k4, d4, e4, w4⟩ := pickK_ok w3
                obtain ⟨a5, d5, e5, p5, w5⟩ := calm_ok w4 hc
                obtain ⟨a6, d6, e6, p6, w6⟩ := calm_ok w5 hc
                refine ⟨.sum k4 q3 a5 a6, d6, ?_, ⟨qN, p5, p6⟩, w6⟩
                clear hw hc w1 w2 w3 w4 p5 w5 p6 w6
                try clear n0 n1 n2
                generalize cD c = CD at *
                unfold m__law_telling g__law_telling
                walk_at "ev"
                rfl
            · by_cases g6 : (x1 : Int) = 6
              · refine ⟨.read q3 c.po, d3, ?_, ⟨qN, poN⟩, w3⟩
                clear hw hc w1 w2 w3
                try clear n0 n1 n2
                generalize cD c = CD at *
                unfold m__law_telling g__law_telling
                walk_at "ev"
                rfl
              · obtain ⟨k4, d4, e4, w4⟩ := pickK_ok w3
                obtain ⟨a5, d5, e5, p5, w5⟩ := calm_ok w4 hc
                obtain ⟨a6, d6, e6, p6, w6⟩ := calm_ok w5 hc
                refine ⟨.sum k4 q3 a5 a6, d6, ?_, ⟨qN, p5, p6⟩, w6⟩
                clear hw hc w1 w2 w3 w4 p5 w5 p6 w6
                try clear n0 n1 n2
                generalize cD c = CD at *
                unfold m__law_telling g__law_telling
                walk_at "ev"
                rfl
end
end K08
namespace K08
open PySem PySem.Spec PyProof.Rows L2 L3
local macro_rules | `(tactic| walk_at "ev") => `(tactic| simp (config := {decide := true}) only [W_ok, bind_ok, thn_nx, thn_rt, thn_rn, thn_bk, thn_ct, cVar, cK, c1_e, c1_k, c2_e, c2_k, c2_k2, cB_e, cB_k, cAnd_e, cOr_e, cNot_e, cNot_k, cIte_e, iteK_t, iteK_f, iteK, okB, okV, cAndV_e, cOrV_e, cNotV_e, cNotV_k, cBv_e, aNil, aCons_e, aCons_k, aCons_k2, cTup_e, cTup_k, nLst_e, nLst_k, vN_e, vN_k, cN_e, cN_k, nN_e, nN_k, oNone, oSome_e, oSome_k, cSl_e, cSl_k, cSl_k2, cSl_k3, nSl_e, nSl_k, nSl_k2, nSl_k3, nCat_e, nCat_k, nCat_k2, sNil, sSeq, sFrz, sBrk, sCnt, sExp_e, sExp_k, sRet_e, sRet_k, sRetN_e, sRetN_k, sRetU, sIf_e, sSet_e, sSet_k, sSetN_e, sSetN_k, gSet, gsNil, gsCons_e, gsCons_k, nxK, gTupD, gLstD, sAsg_e, sAsg_k, sAug_e, sAug_k, iL_e, iL_k, iT_e, iT_k, iR1_e, iR1_k, iR2_e, iR2_k, iZ_e, iZ_k, iR3_e, iR3_k, cCh_e, cCh_k, cCh_k2, cCh_k3, nRan_e, nRan_k, r1F_e, r1F_k, r2F_e, r2F_k, r2F_k2, r3F_e, r3F_k, r3F_k2, r3F_k3, intP, sFor_e, run_e, runK_rt, runK_rn, runK_nx, fin, outs, cCall_e, cCall_k, cCall_k2, nCall_e, nCall_k, nCall_k2, callM, sls, lents, wbk, lk, pvD, pvDs, pvs, Sl.dat, Sl.put, gSubD_e, gSubD_k, cM_e, cM_k, cMr_e, cMr_k, cMr_k2, isTy_str, isTy_lst, cGet2_e, cGet2_k, cGet2_k2, cGet2_k3, isDic_d, iRv_e, iRv_k, get2_d, nDic0, cTru_e, cTru_k, tru_l, tru_t, emp_c, emp_n, nRevL_e, nRevL_k, iRvR_e, iRvR_k, anNew_e, anNew_k, anNew_k2, anCons_e, anCons_k, anCons_k2, cCallA_e, cCallA_k, cutA_ok, drop_l, drop_1, pNil, keyD, pCons_e, pCons_k, pCons_k2, pCons_k3, nDic_e, nDic_k, nLc_e, nLc_k, lcB_ok, unAll, backAll, noAdr, setAll, setAllF, List.map_cons, List.map_nil, hOne, cYes, List.all_cons, List.all_nil, Bool.and_true, Bool.true_and, Bool.and_self, Option.map_none, ofO, Rt.d, add_i, mns_i, mul_r, mul_l, div_i, mod_i, neg_i, lt_i, le_i, gt_i, ge_i, int_i, abs_i, len_l, len_t, get_l, get_t, toT_l, toT_t, eq_i, ne_i, eq_s, ne_s, rg_len, isN_non, isN_int, notN_non, notN_int, pow18, isi_int, isi_bool, max_ii, max_l, max_t, sum_l, sum_t, toL_l, toL_t, sl_l, sl_t, sg1, sg2, sg3, sg4, sg5, ss2, ss3, ss4, ss5, List.getElem?_cons_zero, List.getElem?_cons_succ, List.set_cons_zero, List.set_cons_succ, List.length_cons, List.length_nil, List.length_map, List.length_range, List.replicate, List.cons_append, List.nil_append, Option.bind_some, Option.map_some, Option.isSome_some, Option.bind_none, if_true, if_false, reduceIte, decide_eq_true_eq, Bool.false_eq_true, reduceCtorEq, decide_true, decide_false, Bool.not_true, Bool.not_false, *])
local macro_rules | `(tactic| walk_at "evc") => `(tactic| simp (config := {decide := true}) only [at0, at1, at2, at3, set0, set1, set2, ran0, ran1, ran2, ran3, maxI_one, maxI_cons, asI_nil, asI_cons, add_l, add_t, app_l, line_le, line_lt, forL_nil, forL_cons, forL_k, lp_nx, lp_ct, lp_bk, lp_rt, lp_rn, sub_ok, lcL_nil, lcL_cons, lcH_some, lcL_k, lcL_k2, L3.cutD, HT.sIx, List.take_succ_cons, List.take_zero, List.drop_succ_cons, List.drop_zero, List.sum_cons, List.sum_nil, Nat.reduceAdd, Int.reduceSub, Int.reduceAdd, int_lit, Int.reduceToNat, Nat.reduceSub, Nat.min_def, Nat.reduceLeDiff, Int.reduceLT, W_ok, bind_ok, thn_nx, thn_rt, thn_rn, thn_bk, thn_ct, cVar, cK, c1_e, c1_k, c2_e, c2_k, c2_k2, cB_e, cB_k, cAnd_e, cOr_e, cNot_e, cNot_k, cIte_e, iteK_t, iteK_f, iteK, okB, okV, cAndV_e, cOrV_e, cNotV_e, cNotV_k, cBv_e, aNil, aCons_e, aCons_k, aCons_k2, cTup_e, cTup_k, nLst_e, nLst_k, vN_e, vN_k, cN_e, cN_k, nN_e, nN_k, oNone, oSome_e, oSome_k, cSl_e, cSl_k, cSl_k2, cSl_k3, nSl_e, nSl_k, nSl_k2, nSl_k3, nCat_e, nCat_k, nCat_k2, sNil, sSeq, sFrz, sBrk, sCnt, sExp_e, sExp_k, sRet_e, sRet_k, sRetN_e, sRetN_k, sRetU, sIf_e, sSet_e, sSet_k, sSetN_e, sSetN_k, gSet, gsNil, gsCons_e, gsCons_k, nxK, gTupD, gLstD, sAsg_e, sAsg_k, sAug_e, sAug_k, iL_e, iL_k, iT_e, iT_k, iR1_e, iR1_k, iR2_e, iR2_k, iZ_e, iZ_k, iR3_e, iR3_k, cCh_e, cCh_k, cCh_k2, cCh_k3, nRan_e, nRan_k, r1F_e, r1F_k, r2F_e, r2F_k, r2F_k2, r3F_e, r3F_k, r3F_k2, r3F_k3, intP, sFor_e, run_e, runK_rt, runK_rn, runK_nx, fin, outs, cCall_e, cCall_k, cCall_k2, nCall_e, nCall_k, nCall_k2, callM, sls, lents, wbk, lk, pvD, pvDs, pvs, Sl.dat, Sl.put, gSubD_e, gSubD_k, cM_e, cM_k, cMr_e, cMr_k, cMr_k2, isTy_str, isTy_lst, cGet2_e, cGet2_k, cGet2_k2, cGet2_k3, isDic_d, iRv_e, iRv_k, get2_d, nDic0, cTru_e, cTru_k, tru_l, tru_t, emp_c, emp_n, nRevL_e, nRevL_k, iRvR_e, iRvR_k, anNew_e, anNew_k, anNew_k2, anCons_e, anCons_k, anCons_k2, cCallA_e, cCallA_k, cutA_ok, drop_l, drop_1, pNil, keyD, pCons_e, pCons_k, pCons_k2, pCons_k3, nDic_e, nDic_k, nLc_e, nLc_k, lcB_ok, unAll, backAll, noAdr, setAll, setAllF, List.map_cons, List.map_nil, hOne, cYes, List.all_cons, List.all_nil, Bool.and_true, Bool.true_and, Bool.and_self, Option.map_none, ofO, Rt.d, add_i, mns_i, mul_r, mul_l, div_i, mod_i, neg_i, lt_i, le_i, gt_i, ge_i, int_i, abs_i, len_l, len_t, get_l, get_t, toT_l, toT_t, eq_i, ne_i, eq_s, ne_s, rg_len, isN_non, isN_int, notN_non, notN_int, pow18, isi_int, isi_bool, max_ii, max_l, max_t, sum_l, sum_t, toL_l, toL_t, sl_l, sl_t, sg1, sg2, sg3, sg4, sg5, ss2, ss3, ss4, ss5, List.getElem?_cons_zero, List.getElem?_cons_succ, List.set_cons_zero, List.set_cons_succ, List.length_cons, List.length_nil, List.length_map, List.length_range, List.replicate, List.cons_append, List.nil_append, Option.bind_some, Option.map_some, Option.isSome_some, Option.bind_none, if_true, if_false, reduceIte, decide_eq_true_eq, Bool.false_eq_true, reduceCtorEq, decide_true, decide_false, Bool.not_true, Bool.not_false, *])
section
variable {d : D} {c : Ctx} {N C : List Str}
theorem in89 {x : Int} : gInX false (.int x) (.tup [.int 8, .int 9]) = some (.bl (decide (x = 8) || decide (x = 9))) := by
  have e : gIn false (.int x) (.tup [.int 8, .int 9]) = some (.bl (decide (x = 8) || decide (x = 9))) := by
    show some (D.bl (inV (.int x) [.int 8, .int 9])) = _
    have : inV (.int x) [.int 8, .int 9] = (decide (x = 8) || decide (x = 9)) := by
      have h1 : ∀ a b : Int, decide (a = b) = decide (b = a) := fun a b => by
        by_cases e : a = b
        · subst e; rfl
        · rw [decide_eq_false e, decide_eq_false (Ne.symm e)]
      show (eqV (.int 8) (.int x) || (eqV (.int 9) (.int x) || false)) = _
      rw [Bool.or_false, h1 x 8, h1 x 9]
      rfl
    rw [this]
  unfold gInX
  rw [e]
theorem bodied_turn {R : Mf} {dep m : Int} {k : Nat} {L : List D} {y5 y6 y7 : Sl} (hk : dep = k) (hw : Wf d) (hc : Cok N C c) (hA : ∀ d, gAppend (.lst L) [d] = some (.non, .lst (L ++ [d])))
    (hR : 0 < k → ∀ (d : D) (m : Int), Wf d → 0 ≤ m → m ≤ 2 → ∃ (b : List Stm) (d' : D), R [.bor d, .bor (cD c), .val (.int (dep - 1)), .val (.int m)] = .ok (.v (.tup (dB b))) [.bor d', .bor (cD c), .un, .un] ∧ OkB N C k b ∧ b.length ≤ 2 ∧ Wf d') :
    ∃ (s : Stm) (d' : D) (y6' y7' : Sl), s__law_bodied_1 R [.bor d, .bor (cD c), .val (.int dep), .val (.int m), .own (.lst L), y5, y6, y7] = .ok .nx [.bor d', .bor (cD c), .val (.int dep), .val (.int m), .own (.lst (L ++ [dS s])), y5, y6', y7'] ∧ OkS N C (k + 1) s ∧ Wf d' := by
  have kri := k_ri (c := c)
  have ksb := k_sb (c := c)
  have klo := k_lo (c := c)
  have kit := k_it (c := c)
  have loN := hc.loN
  have sbN := hc.sbN
  have sb4 := hc.sb4
  have eL : gLen [.lst (c.sb.map D.str)] = some (.int (c.sb.length : Int)) := by
    show some (D.int ((c.sb.map D.str).length : Int)) = _
    rw [List.length_map]
  obtain ⟨x, d1, e1, h1, w1⟩ := drawN hw 12 (by decide) (by decide)
  have i89 := in89 (x := (x : Int))
  by_cases h0 : (x : Int) < c.ri
  · obtain ⟨s, d2, e2, o2, w2⟩ := asking_ok w1 hc
    refine ⟨s, d2, .val (.int x), y7, ?_, OkB.up (b := [s]) (fun z hz => by cases List.mem_singleton.mp hz; exact o2) (by omega) s (by simp), w2⟩
    clear hw hc o2 w1 w2
    try clear hR
    try clear loN sbN sb4 hk
    try rw [g11] at h0 i89
    try rw [g10] at h0 i89
    try rw [g7] at h0 i89
    generalize cD c = CD at *
    unfold s__law_bodied_1
    walk_at "ev"
    try rfl
  · by_cases g11 : (x : Int) = 11
    · by_cases h2 : 0 < dep
      · obtain ⟨x2, d2, e2, p2, w2⟩ := drawN w1 3 (by decide) (by decide)
        obtain ⟨b3, d3, e3, o3, l3, w3⟩ := hR (by omega) d2 x2 w2 (by omega) (by omega)
        obtain ⟨a4, d4, e4, o4, w4⟩ := calm_ok w3 hc
        obtain ⟨x5, d5, e5, p5, w5⟩ := drawN w4 3 (by decide) (by decide)
        obtain ⟨b6, d6, e6, o6, l6, w6⟩ := hR (by omega) d5 x5 w5 (by omega) (by omega)
        refine ⟨.ifs a4 false (.no 1) b3 b6, d6, .val (.int x), .val (.tup (dB b3)), ?_, ⟨o4, ⟨by decide, by decide⟩, l3, l6, o3, o6⟩, w6⟩
        clear hw hc o3 l3 o4 o6 l6 w1 w2 w3 w4 w5 w6
        try clear hR
        try clear loN sbN sb4 hk
        try rw [g11] at h0 i89
        try rw [g10] at h0 i89
        try rw [g7] at h0 i89
        generalize cD c = CD at *
        unfold s__law_bodied_1
        walk_at "ev"
        try rfl
      ·
        obtain ⟨s, d2, e2, o2, w2⟩ := telling_ok w1 hc
        refine ⟨s, d2, .val (.int x), y7, ?_, OkB.up (b := [s]) (fun z hz => by cases List.mem_singleton.mp hz; exact o2) (by omega) s (by simp), w2⟩
        clear hw hc o2 w1 w2
        try clear hR
        try clear loN sbN sb4 hk
        try rw [g11] at h0 i89
        try rw [g10] at h0 i89
        try rw [g7] at h0 i89
        generalize cD c = CD at *
        unfold s__law_bodied_1
        walk_at "ev"
        try rfl
    · by_cases g10 : (x : Int) = 10
      · by_cases h2 : 0 < dep
        · obtain ⟨x2, d2, e2, p2, w2⟩ := drawN w1 3 (by decide) (by decide)
          obtain ⟨x5, d5, e5, p5, w5⟩ := drawN w2 2 (by decide) (by decide)
          obtain ⟨b6, d6, e6, o6, l6, w6⟩ := hR (by omega) d5 (1 + x5) w5 (by omega) (by omega)
          refine ⟨.loop (1 + x2) b6, d6, .val (.int x), y7, ?_, ⟨⟨by omega, by omega⟩, l6, o6⟩, w6⟩
          clear hw hc o6 l6 w1 w2 w5 w6
          try clear hR
          try clear loN sbN sb4 hk
          try rw [g11] at h0 i89
          try rw [g10] at h0 i89
          try rw [g7] at h0 i89
          generalize cD c = CD at *
          unfold s__law_bodied_1
          walk_at "ev"
          try rfl
        ·
          obtain ⟨s, d2, e2, o2, w2⟩ := telling_ok w1 hc
          refine ⟨s, d2, .val (.int x), y7, ?_, OkB.up (b := [s]) (fun z hz => by cases List.mem_singleton.mp hz; exact o2) (by omega) s (by simp), w2⟩
          clear hw hc o2 w1 w2
          try clear hR
          try clear loN sbN sb4 hk
          try rw [g11] at h0 i89
          try rw [g10] at h0 i89
          try rw [g7] at h0 i89
          generalize cD c = CD at *
          unfold s__law_bodied_1
          walk_at "ev"
          try rfl
      · by_cases g89 : (x : Int) = 8 ∨ (x : Int) = 9
        · replace i89 : gInX false (.int (x : Int)) (.tup [.int 8, .int 9]) = some (.bl true) := by
            rw [in89]
            rcases g89 with g | g <;> simp [g]
          have g7 : ¬ (x : Int) = 7 := by omega
          by_cases h2 : (0 : Int) < c.sb.length
          · obtain ⟨y2, d2, e2, q2, w2⟩ := pickS_ok w1 (l := c.sb) (by omega) (by omega)
            refine ⟨.call y2, d2, .val (.int x), y7, ?_, sbN y2 q2, w2⟩
            clear hw hc q2 w1 w2 g89
            try clear hR
            try clear loN sbN sb4 hk
            try rw [g11] at h0 i89
            try rw [g10] at h0 i89
            try rw [g7] at h0 i89
            generalize cD c = CD at *
            unfold s__law_bodied_1
            walk_at "ev"
            try rfl
          · clear g89
            obtain ⟨s, d2, e2, o2, w2⟩ := telling_ok w1 hc
            refine ⟨s, d2, .val (.int x), y7, ?_, OkB.up (b := [s]) (fun z hz => by cases List.mem_singleton.mp hz; exact o2) (by omega) s (by simp), w2⟩
            clear hw hc o2 w1 w2
            try clear hR
            try clear loN sbN sb4 hk
            try rw [g11] at h0 i89
            try rw [g10] at h0 i89
            try rw [g7] at h0 i89
            generalize cD c = CD at *
            unfold s__law_bodied_1
            walk_at "ev"
            try rfl
        · replace i89 : gInX false (.int (x : Int)) (.tup [.int 8, .int 9]) = some (.bl false) := by
            rw [in89, decide_eq_false (fun z => g89 (.inl z)), decide_eq_false (fun z => g89 (.inr z))]; rfl
          clear g89
          by_cases g7 : (x : Int) = 7
          · by_cases h2 : dep = 2
            · by_cases h3 : c.it = true
              · obtain ⟨x5, d5, e5, p5, w5⟩ := drawN w1 2 (by decide) (by decide)
                obtain ⟨b6, d6, e6, o6, l6, w6⟩ := hR (by omega) d5 (1 + x5) w5 (by omega) (by omega)
                rw [h2, show (2 : Int) - 1 = 1 from rfl] at e6
                refine ⟨.hold c.lo b6, d6, .val (.int x), y7, ?_, ⟨loN, l6, o6⟩, w6⟩
                clear hw hc o6 l6 w1 w5 w6
                try clear hR
                try clear loN sbN sb4 hk
                try rw [g11] at h0 i89
                try rw [g10] at h0 i89
                try rw [g7] at h0 i89
                generalize cD c = CD at *
                unfold s__law_bodied_1
                walk_at "ev"
                try rfl
              ·
                obtain ⟨s, d2, e2, o2, w2⟩ := telling_ok w1 hc
                refine ⟨s, d2, .val (.int x), y7, ?_, OkB.up (b := [s]) (fun z hz => by cases List.mem_singleton.mp hz; exact o2) (by omega) s (by simp), w2⟩
                clear hw hc o2 w1 w2
                try clear hR
                try clear loN sbN sb4 hk
                try rw [g11] at h0 i89
                try rw [g10] at h0 i89
                try rw [g7] at h0 i89
                generalize cD c = CD at *
                unfold s__law_bodied_1
                walk_at "ev"
                try rfl
            ·
              obtain ⟨s, d2, e2, o2, w2⟩ := telling_ok w1 hc
              refine ⟨s, d2, .val (.int x), y7, ?_, OkB.up (b := [s]) (fun z hz => by cases List.mem_singleton.mp hz; exact o2) (by omega) s (by simp), w2⟩
              clear hw hc o2 w1 w2
              try clear hR
              try clear loN sbN sb4 hk
              try rw [g11] at h0 i89
              try rw [g10] at h0 i89
              try rw [g7] at h0 i89
              generalize cD c = CD at *
              unfold s__law_bodied_1
              walk_at "ev"
              try rfl
          ·
            obtain ⟨s, d2, e2, o2, w2⟩ := telling_ok w1 hc
            refine ⟨s, d2, .val (.int x), y7, ?_, OkB.up (b := [s]) (fun z hz => by cases List.mem_singleton.mp hz; exact o2) (by omega) s (by simp), w2⟩
            clear hw hc o2 w1 w2
            try clear hR
            try clear loN sbN sb4 hk
            try rw [g11] at h0 i89
            try rw [g10] at h0 i89
            try rw [g7] at h0 i89
            generalize cD c = CD at *
            unfold s__law_bodied_1
            walk_at "ev"
            try rfl
end
end K08
namespace K08
open PySem PySem.Spec PyProof.Rows L2 L3
local macro_rules | `(tactic| walk_at "ev") => `(tactic| simp (config := {decide := true}) only [W_ok, bind_ok, thn_nx, thn_rt, thn_rn, thn_bk, thn_ct, cVar, cK, c1_e, c1_k, c2_e, c2_k, c2_k2, cB_e, cB_k, cAnd_e, cOr_e, cNot_e, cNot_k, cIte_e, iteK_t, iteK_f, iteK, okB, okV, cAndV_e, cOrV_e, cNotV_e, cNotV_k, cBv_e, aNil, aCons_e, aCons_k, aCons_k2, cTup_e, cTup_k, nLst_e, nLst_k, vN_e, vN_k, cN_e, cN_k, nN_e, nN_k, oNone, oSome_e, oSome_k, cSl_e, cSl_k, cSl_k2, cSl_k3, nSl_e, nSl_k, nSl_k2, nSl_k3, nCat_e, nCat_k, nCat_k2, sNil, sSeq, sFrz, sBrk, sCnt, sExp_e, sExp_k, sRet_e, sRet_k, sRetN_e, sRetN_k, sRetU, sIf_e, sSet_e, sSet_k, sSetN_e, sSetN_k, gSet, gsNil, gsCons_e, gsCons_k, nxK, gTupD, gLstD, sAsg_e, sAsg_k, sAug_e, sAug_k, iL_e, iL_k, iT_e, iT_k, iR1_e, iR1_k, iR2_e, iR2_k, iZ_e, iZ_k, iR3_e, iR3_k, cCh_e, cCh_k, cCh_k2, cCh_k3, nRan_e, nRan_k, r1F_e, r1F_k, r2F_e, r2F_k, r2F_k2, r3F_e, r3F_k, r3F_k2, r3F_k3, intP, sFor_e, run_e, runK_rt, runK_rn, runK_nx, fin, outs, cCall_e, cCall_k, cCall_k2, nCall_e, nCall_k, nCall_k2, callM, sls, lents, wbk, lk, pvD, pvDs, pvs, Sl.dat, Sl.put, gSubD_e, gSubD_k, cM_e, cM_k, cMr_e, cMr_k, cMr_k2, isTy_str, isTy_lst, cGet2_e, cGet2_k, cGet2_k2, cGet2_k3, isDic_d, iRv_e, iRv_k, get2_d, nDic0, cTru_e, cTru_k, tru_l, tru_t, emp_c, emp_n, nRevL_e, nRevL_k, iRvR_e, iRvR_k, anNew_e, anNew_k, anNew_k2, anCons_e, anCons_k, anCons_k2, cCallA_e, cCallA_k, cutA_ok, drop_l, drop_1, pNil, keyD, pCons_e, pCons_k, pCons_k2, pCons_k3, nDic_e, nDic_k, nLc_e, nLc_k, lcB_ok, unAll, backAll, noAdr, setAll, setAllF, List.map_cons, List.map_nil, hOne, cYes, List.all_cons, List.all_nil, Bool.and_true, Bool.true_and, Bool.and_self, Option.map_none, ofO, Rt.d, add_i, mns_i, mul_r, mul_l, div_i, mod_i, neg_i, lt_i, le_i, gt_i, ge_i, int_i, abs_i, len_l, len_t, get_l, get_t, toT_l, toT_t, eq_i, ne_i, eq_s, ne_s, rg_len, isN_non, isN_int, notN_non, notN_int, pow18, isi_int, isi_bool, max_ii, max_l, max_t, sum_l, sum_t, toL_l, toL_t, sl_l, sl_t, sg1, sg2, sg3, sg4, sg5, ss2, ss3, ss4, ss5, List.getElem?_cons_zero, List.getElem?_cons_succ, List.set_cons_zero, List.set_cons_succ, List.length_cons, List.length_nil, List.length_map, List.length_range, List.replicate, List.cons_append, List.nil_append, Option.bind_some, Option.map_some, Option.isSome_some, Option.bind_none, if_true, if_false, reduceIte, decide_eq_true_eq, Bool.false_eq_true, reduceCtorEq, decide_true, decide_false, Bool.not_true, Bool.not_false, *])
local macro_rules | `(tactic| walk_at "evc") => `(tactic| simp (config := {decide := true}) only [at0, at1, at2, at3, set0, set1, set2, ran0, ran1, ran2, ran3, maxI_one, maxI_cons, asI_nil, asI_cons, add_l, add_t, app_l, line_le, line_lt, forL_nil, forL_cons, forL_k, lp_nx, lp_ct, lp_bk, lp_rt, lp_rn, sub_ok, lcL_nil, lcL_cons, lcH_some, lcL_k, lcL_k2, L3.cutD, HT.sIx, List.take_succ_cons, List.take_zero, List.drop_succ_cons, List.drop_zero, List.sum_cons, List.sum_nil, Nat.reduceAdd, Int.reduceSub, Int.reduceAdd, int_lit, Int.reduceToNat, Nat.reduceSub, Nat.min_def, Nat.reduceLeDiff, Int.reduceLT, W_ok, bind_ok, thn_nx, thn_rt, thn_rn, thn_bk, thn_ct, cVar, cK, c1_e, c1_k, c2_e, c2_k, c2_k2, cB_e, cB_k, cAnd_e, cOr_e, cNot_e, cNot_k, cIte_e, iteK_t, iteK_f, iteK, okB, okV, cAndV_e, cOrV_e, cNotV_e, cNotV_k, cBv_e, aNil, aCons_e, aCons_k, aCons_k2, cTup_e, cTup_k, nLst_e, nLst_k, vN_e, vN_k, cN_e, cN_k, nN_e, nN_k, oNone, oSome_e, oSome_k, cSl_e, cSl_k, cSl_k2, cSl_k3, nSl_e, nSl_k, nSl_k2, nSl_k3, nCat_e, nCat_k, nCat_k2, sNil, sSeq, sFrz, sBrk, sCnt, sExp_e, sExp_k, sRet_e, sRet_k, sRetN_e, sRetN_k, sRetU, sIf_e, sSet_e, sSet_k, sSetN_e, sSetN_k, gSet, gsNil, gsCons_e, gsCons_k, nxK, gTupD, gLstD, sAsg_e, sAsg_k, sAug_e, sAug_k, iL_e, iL_k, iT_e, iT_k, iR1_e, iR1_k, iR2_e, iR2_k, iZ_e, iZ_k, iR3_e, iR3_k, cCh_e, cCh_k, cCh_k2, cCh_k3, nRan_e, nRan_k, r1F_e, r1F_k, r2F_e, r2F_k, r2F_k2, r3F_e, r3F_k, r3F_k2, r3F_k3, intP, sFor_e, run_e, runK_rt, runK_rn, runK_nx, fin, outs, cCall_e, cCall_k, cCall_k2, nCall_e, nCall_k, nCall_k2, callM, sls, lents, wbk, lk, pvD, pvDs, pvs, Sl.dat, Sl.put, gSubD_e, gSubD_k, cM_e, cM_k, cMr_e, cMr_k, cMr_k2, isTy_str, isTy_lst, cGet2_e, cGet2_k, cGet2_k2, cGet2_k3, isDic_d, iRv_e, iRv_k, get2_d, nDic0, cTru_e, cTru_k, tru_l, tru_t, emp_c, emp_n, nRevL_e, nRevL_k, iRvR_e, iRvR_k, anNew_e, anNew_k, anNew_k2, anCons_e, anCons_k, anCons_k2, cCallA_e, cCallA_k, cutA_ok, drop_l, drop_1, pNil, keyD, pCons_e, pCons_k, pCons_k2, pCons_k3, nDic_e, nDic_k, nLc_e, nLc_k, lcB_ok, unAll, backAll, noAdr, setAll, setAllF, List.map_cons, List.map_nil, hOne, cYes, List.all_cons, List.all_nil, Bool.and_true, Bool.true_and, Bool.and_self, Option.map_none, ofO, Rt.d, add_i, mns_i, mul_r, mul_l, div_i, mod_i, neg_i, lt_i, le_i, gt_i, ge_i, int_i, abs_i, len_l, len_t, get_l, get_t, toT_l, toT_t, eq_i, ne_i, eq_s, ne_s, rg_len, isN_non, isN_int, notN_non, notN_int, pow18, isi_int, isi_bool, max_ii, max_l, max_t, sum_l, sum_t, toL_l, toL_t, sl_l, sl_t, sg1, sg2, sg3, sg4, sg5, ss2, ss3, ss4, ss5, List.getElem?_cons_zero, List.getElem?_cons_succ, List.set_cons_zero, List.set_cons_succ, List.length_cons, List.length_nil, List.length_map, List.length_range, List.replicate, List.cons_append, List.nil_append, Option.bind_some, Option.map_some, Option.isSome_some, Option.bind_none, if_true, if_false, reduceIte, decide_eq_true_eq, Bool.false_eq_true, reduceCtorEq, decide_true, decide_false, Bool.not_true, Bool.not_false, *])
theorem dB_app (a b : List Stm) : dB (a ++ b) = dB a ++ dB b := by simp [dB_map]
theorem dB_one (s : Stm) : dB [s] = [dS s] := rfl
theorem dB_len (b : List Stm) : (dB b).length = b.length := by simp [dB_map]
section
variable {d : D} {c : Ctx} {N C : List Str}
theorem bodied_ok (hc : Cok N C c) : ∀ (n k : Nat), k < n → ∀ (d : D) (m : Int), Wf d → 0 ≤ m → m ≤ 6 →
    ∃ (b : List Stm) (d' : D), m__law_bodied n [.bor d, .bor (cD c), .val (.int k), .val (.int m)] = .ok (.v (.tup (dB b))) [.bor d', .bor (cD c), .un, .un] ∧ OkB N C (k + 1) b ∧ b.length = m.toNat ∧ Wf d'
  | 0, k, h => absurd h (by omega)
  | n + 1, k, h => fun d m hw h0 h6 => by
    have hR : 0 < k → ∀ (d : D) (m : Int), Wf d → 0 ≤ m → m ≤ 2 → ∃ (b : List Stm) (d' : D), m__law_bodied n [.bor d, .bor (cD c), .val (.int ((k : Int) - 1)), .val (.int m)] = .ok (.v (.tup (dB b))) [.bor d', .bor (cD c), .un, .un] ∧ OkB N C k b ∧ b.length ≤ 2 ∧ Wf d' := fun hk d m hw a0 a2 => by
      obtain ⟨b, d', e, o, l, w⟩ := bodied_ok hc n (k - 1) (by omega) d m hw a0 (by omega)
      rw [show ((k - 1 : Nat) : Int) = (k : Int) - 1 by omega] at e
      rw [show k - 1 + 1 = k by omega] at o
      exact ⟨b, d', e, o, by omega, w⟩
    have key : W (forL (gSet 5) (s__law_bodied_1 (m__law_bodied n)) (rangeD 0 m) [.bor d, .bor (cD c), .val (.int k), .val (.int m), .own (.lst []), .un, .un, .un])
        (fun fl ρ => fl = .nx ∧ ∃ (d' : D) (b : List Stm) (y5 y6 y7 : Sl), ρ = [.bor d', .bor (cD c), .val (.int k), .val (.int m), .own (.lst (dB b)), y5, y6, y7] ∧ Wf d' ∧ OkB N C (k + 1) b ∧ b.length = m.toNat) := by
      refine forL_all (I := fun i ρ => i ≤ m.toNat ∧ ∃ (d' : D) (b : List Stm) (y5 y6 y7 : Sl), ρ = [.bor d', .bor (cD c), .val (.int k), .val (.int m), .own (.lst (dB b)), y5, y6, y7] ∧ Wf d' ∧ OkB N C (k + 1) b ∧ b.length = i)
        ⟨Nat.zero_le _, d, [], _, _, _, rfl, hw, fun s hs => (by cases hs), rfl⟩ ?_ ?_
      · rintro ρ ⟨hl, d', b, y5, y6, y7, rfl, w', o', l'⟩
        refine ⟨rfl, d', b, _, _, _, rfl, w', o', ?_⟩
        rw [l']; unfold rangeD; simp
      · rintro i ρ p hd ⟨hl, d', b, y5, y6, y7, rfl, w', o', l'⟩
        obtain ⟨rfl, hi⟩ := ran_get hd
        have hi : i < m.toNat := by omega
        refine ⟨_, rfl, ?_⟩
        obtain ⟨s, d2, y6', y7', e, o, w2⟩ := bodied_turn (R := m__law_bodied n) (dep := (k : Int)) (m := m) (k := k) (L := dB b) (y5 := .val (.int (0 + (i : Int)))) (y6 := y6) (y7 := y7) rfl w' hc (fun d => app_l (line_lt (by rw [dB_len]; omega))) hR
        show W (s__law_bodied_1 (m__law_bodied n) [.bor d', .bor (cD c), .val (.int k), .val (.int m), .own (.lst (dB b)), .val (.int (0 + (i : Int))), y6, y7]) _
        rw [e]
        refine ⟨hi, d2, b ++ [s], _, _, _, by rw [dB_app, dB_one], w2, fun z hz => ?_, by simp [l']⟩
        rcases List.mem_append.mp hz with hz | hz
        · exact o' z hz
        · cases List.mem_singleton.mp hz; exact o
    obtain ⟨fl, ρ, e, rfl, d', b, y5, y6, y7, rfl, w', o', l'⟩ := key.ok
    refine ⟨b, d', ?_, o', l', w'⟩
    have ir : inR m = true := decide_eq_true (by omega)
    have z0 : (0 : Nat) ≤ sizeLine := Nat.zero_le _
    generalize cD c = CD at *
    generalize dB b = DB at *
    clear key hR o' l' hw w' h
    show L3.run false 8 (g__law_bodied (m__law_bodied n)) _ = _
    unfold g__law_bodied
    walk_at "ev"
/-! ### how many -/
theorem isi_s {x : Str} : gIsi [.str x, .ty "tuple"] = some (.bl false) := rfl
theorem isi_i {x : Int} : gIsi [.int x, .ty "tuple"] = some (.bl false) := rfl
theorem isi_t {x : List D} : gIsi [.tup x, .ty "tuple"] = some (.bl true) := rfl
theorem isi_o {x : Op} : gIsi [x.d, .ty "tuple"] = some (.bl false) := by cases x <;> rfl
/-- the parts of a statement that are bodies, and the others -/
inductive Pt where
  | f (d : D) (h : gIsi [d, .ty "tuple"] = some (.bl false))
  | b (p : List Stm)
def Pt.dd : Pt → D
  | .f d _ => d
  | .b p => .tup (dB p)
def Op.p (a : Op) : Pt := .f a.d isi_o
def pts : Stm → List Pt
  | .set x a => [.f (.str "set") isi_s, .f (.str x) isi_s, a.p]
  | .sum k x a b => [.f (.str k.s) isi_s, .f (.str x) isi_s, a.p, b.p]
  | .take x c => [.f (.str "take") isi_s, .f (.str x) isi_s, .f (.str c) isi_s]
  | .read x p => [.f (.str "read") isi_s, .f (.str x) isi_s, .f (.str p) isi_s]
  | .send c a => [.f (.str "send") isi_s, .f (.str c) isi_s, a.p]
  | .get x v a => [.f (.str "get") isi_s, .f (.str x) isi_s, .f (.str v) isi_s, a.p]
  | .put v a b => [.f (.str "put") isi_s, .f (.str v) isi_s, a.p, b.p]
  | .call s => [.f (.str "call") isi_s, .f (.str s) isi_s]
  | .ifs a e b p q => [.f (.str "if") isi_s, a.p, .f (.str (if e then "equal" else "below")) isi_s, b.p, .b p, .b q]
  | .loop n p => [.f (.str "loop") isi_s, .f (.int n) isi_i, .b p]
  | .hold l p => [.f (.str "hold") isi_s, .f (.str l) isi_s, .b p]
theorem dS_pts (s : Stm) : dS s = .tup ((pts s).map Pt.dd) := by cases s <;> rfl
def inn : Stm → List (List Stm)
  | .ifs _ _ _ p q => [p, q]
  | .loop _ p => [p]
  | .hold _ p => [p]
  | _ => []
theorem pts_in {s : Stm} {p : List Stm} (h : Pt.b p ∈ pts s) : p ∈ inn s := by
  cases s <;> simp [pts, inn, Op.p] at h ⊢
  all_goals first | exact h | (rcases h with h | h <;> simp [h])
theorem OkS.inn {k : Nat} {s : Stm} {p : List Stm} (h : OkS N C k s) (hp : p ∈ inn s) : ∃ j, k = j + 1 ∧ OkB N C j p ∧ p.length ≤ 2 := by
  cases s <;> simp [K08.inn] at hp
  all_goals
    cases k with
    | zero => simp [OkS] at h
    | succ k => ?_
  · simp only [OkS] at h
    rcases hp with rfl | rfl
    · exact ⟨k, rfl, h.2.2.2.2.1, h.2.2.1⟩
    · exact ⟨k, rfl, h.2.2.2.2.2, h.2.2.2.1⟩
  · simp only [OkS] at h
    subst hp
    exact ⟨k, rfl, h.2.2, h.2.1⟩
  · simp only [OkS] at h
    subst hp
    exact ⟨k, rfl, h.2.2, h.2.1⟩
theorem count_ok : ∀ (n k : Nat), k < n → ∀ b : List Stm, OkB N C k b → ∃ z : Int, m__law_count n [.val (.tup (dB b))] = .ok (.v (.int z)) [.un]
  | 0, k, h => absurd h (by omega)
  | n + 1, k, h => fun b hb => by
    have turn : ∀ (s : Stm) (z : Int) (x : Sl) (y2 y3 : Sl), OkS N C k s → W (s__law_count_2 (m__law_count n) [x, .val (.int z), .val (dS s), y3]) (fun fl ρ => fl = .nx ∧ ∃ (z : Int) (y3 : Sl), ρ = [x, .val (.int z), .val (dS s), y3]) := fun s z x y2 y3 hs => by
      have key : W (forL (gSet 3) (s__law_count_1 (m__law_count n)) ((pts s).map Pt.dd) [x, .val (.int (z + 1)), .val (dS s), y3]) (fun fl ρ => fl = .nx ∧ ∃ (z : Int) (y3 : Sl), ρ = [x, .val (.int z), .val (dS s), y3]) := by
        refine forL_all (I := fun _ ρ => ∃ (z : Int) (y3 : Sl), ρ = [x, .val (.int z), .val (dS s), y3]) ⟨_, _, rfl⟩ (fun ρ h => ⟨rfl, h⟩) ?_
        rintro i ρ p hd ⟨z, y3, rfl⟩
        rw [List.getElem?_map, Option.map_eq_some_iff] at hd
        obtain ⟨q, hq, rfl⟩ := hd
        refine ⟨_, rfl, ?_⟩
        show W (s__law_count_1 (m__law_count n) [x, .val (.int z), .val (dS s), .val q.dd]) _
        cases q with
        | f p hp =>
          show W (s__law_count_1 (m__law_count n) [x, .val (.int z), .val (dS s), .val p]) _
          generalize dS s = S
          unfold s__law_count_1
          walk_at "ev"
          exact ⟨_, _, rfl⟩
        | b p =>
          obtain ⟨j, hj, hp, _⟩ := hs.inn (pts_in (List.mem_of_getElem? hq))
          obtain ⟨z2, e⟩ := count_ok n j (by omega) p hp
          have := isi_t (x := dB p)
          show W (s__law_count_1 (m__law_count n) [x, .val (.int z), .val (dS s), .val (.tup (dB p))]) _
          generalize dS s = S
          clear hq hs hp hj
          unfold s__law_count_1
          walk_at "ev"
          exact ⟨_, _, rfl⟩
      obtain ⟨fl, ρ, e, rfl, z', y3', rfl⟩ := key.ok
      have e0 := dS_pts s
      clear key
      generalize dS s = S at *
      subst e0
      unfold s__law_count_2
      walk_at "ev"
      exact ⟨trivial, _, _, rfl⟩
    have key : W (forL (gSet 2) (s__law_count_2 (m__law_count n)) (dB b) [.val (.tup (dB b)), .val (.int 0), .un, .un]) (fun fl ρ => fl = .nx ∧ ∃ (z : Int) (y2 y3 : Sl), ρ = [.val (.tup (dB b)), .val (.int z), y2, y3]) := by
      refine forL_all (I := fun _ ρ => ∃ (z : Int) (y2 y3 : Sl), ρ = [.val (.tup (dB b)), .val (.int z), y2, y3]) ⟨_, _, _, rfl⟩ (fun ρ h => ⟨rfl, h⟩) ?_
      rintro i ρ p hd ⟨z, y2, y3, rfl⟩
      rw [dB_map, List.getElem?_map, Option.map_eq_some_iff] at hd
      obtain ⟨s, hq, rfl⟩ := hd
      refine ⟨_, rfl, ?_⟩
      refine W.imp (turn s z (.val (.tup (dB b))) y2 y3 (hb s (List.mem_of_getElem? hq))) fun fl ρ ⟨h1, z2, y3', h2⟩ => ?_
      subst h1 h2
      exact ⟨_, _, _, rfl⟩
    obtain ⟨fl, ρ, e, rfl, z', y2', y3', rfl⟩ := key.ok
    refine ⟨z', ?_⟩
    clear key turn
    generalize dB b = S at *
    show L3.run false 4 (g__law_count (m__law_count n)) _ = _
    unfold g__law_count
    walk_at "ev"
end
end K08
namespace K08
open PySem PySem.Spec PyProof.Rows L2 L3
local macro_rules | `(tactic| walk_at "ev") => `(tactic| simp (config := {decide := true}) only [W_ok, bind_ok, thn_nx, thn_rt, thn_rn, thn_bk, thn_ct, cVar, cK, c1_e, c1_k, c2_e, c2_k, c2_k2, cB_e, cB_k, cAnd_e, cOr_e, cNot_e, cNot_k, cIte_e, iteK_t, iteK_f, iteK, okB, okV, cAndV_e, cOrV_e, cNotV_e, cNotV_k, cBv_e, aNil, aCons_e, aCons_k, aCons_k2, cTup_e, cTup_k, nLst_e, nLst_k, vN_e, vN_k, cN_e, cN_k, nN_e, nN_k, oNone, oSome_e, oSome_k, cSl_e, cSl_k, cSl_k2, cSl_k3, nSl_e, nSl_k, nSl_k2, nSl_k3, nCat_e, nCat_k, nCat_k2, sNil, sSeq, sFrz, sBrk, sCnt, sExp_e, sExp_k, sRet_e, sRet_k, sRetN_e, sRetN_k, sRetU, sIf_e, sSet_e, sSet_k, sSetN_e, sSetN_k, gSet, gsNil, gsCons_e, gsCons_k, nxK, gTupD, gLstD, sAsg_e, sAsg_k, sAug_e, sAug_k, iL_e, iL_k, iT_e, iT_k, iR1_e, iR1_k, iR2_e, iR2_k, iZ_e, iZ_k, iR3_e, iR3_k, cCh_e, cCh_k, cCh_k2, cCh_k3, nRan_e, nRan_k, r1F_e, r1F_k, r2F_e, r2F_k, r2F_k2, r3F_e, r3F_k, r3F_k2, r3F_k3, intP, sFor_e, run_e, runK_rt, runK_rn, runK_nx, fin, outs, cCall_e, cCall_k, cCall_k2, nCall_e, nCall_k, nCall_k2, callM, sls, lents, wbk, lk, pvD, pvDs, pvs, Sl.dat, Sl.put, gSubD_e, gSubD_k, cM_e, cM_k, cMr_e, cMr_k, cMr_k2, isTy_str, isTy_lst, cGet2_e, cGet2_k, cGet2_k2, cGet2_k3, isDic_d, iRv_e, iRv_k, get2_d, nDic0, cTru_e, cTru_k, tru_l, tru_t, emp_c, emp_n, nRevL_e, nRevL_k, iRvR_e, iRvR_k, anNew_e, anNew_k, anNew_k2, anCons_e, anCons_k, anCons_k2, cCallA_e, cCallA_k, cutA_ok, drop_l, drop_1, pNil, keyD, pCons_e, pCons_k, pCons_k2, pCons_k3, nDic_e, nDic_k, nLc_e, nLc_k, lcB_ok, unAll, backAll, noAdr, setAll, setAllF, List.map_cons, List.map_nil, hOne, cYes, List.all_cons, List.all_nil, Bool.and_true, Bool.true_and, Bool.and_self, Option.map_none, ofO, Rt.d, add_i, mns_i, mul_r, mul_l, div_i, mod_i, neg_i, lt_i, le_i, gt_i, ge_i, int_i, abs_i, len_l, len_t, get_l, get_t, toT_l, toT_t, eq_i, ne_i, eq_s, ne_s, rg_len, isN_non, isN_int, notN_non, notN_int, pow18, isi_int, isi_bool, max_ii, max_l, max_t, sum_l, sum_t, toL_l, toL_t, sl_l, sl_t, sg1, sg2, sg3, sg4, sg5, ss2, ss3, ss4, ss5, List.getElem?_cons_zero, List.getElem?_cons_succ, List.set_cons_zero, List.set_cons_succ, List.length_cons, List.length_nil, List.length_map, List.length_range, List.replicate, List.cons_append, List.nil_append, Option.bind_some, Option.map_some, Option.isSome_some, Option.bind_none, if_true, if_false, reduceIte, decide_eq_true_eq, Bool.false_eq_true, reduceCtorEq, decide_true, decide_false, Bool.not_true, Bool.not_false, *])
local macro_rules | `(tactic| walk_at "evc") => `(tactic| simp (config := {decide := true}) only [at0, at1, at2, at3, set0, set1, set2, ran0, ran1, ran2, ran3, maxI_one, maxI_cons, asI_nil, asI_cons, add_l, add_t, app_l, line_le, line_lt, forL_nil, forL_cons, forL_k, lp_nx, lp_ct, lp_bk, lp_rt, lp_rn, sub_ok, lcL_nil, lcL_cons, lcH_some, lcL_k, lcL_k2, L3.cutD, HT.sIx, List.take_succ_cons, List.take_zero, List.drop_succ_cons, List.drop_zero, List.sum_cons, List.sum_nil, Nat.reduceAdd, Int.reduceSub, Int.reduceAdd, int_lit, Int.reduceToNat, Nat.reduceSub, Nat.min_def, Nat.reduceLeDiff, Int.reduceLT, W_ok, bind_ok, thn_nx, thn_rt, thn_rn, thn_bk, thn_ct, cVar, cK, c1_e, c1_k, c2_e, c2_k, c2_k2, cB_e, cB_k, cAnd_e, cOr_e, cNot_e, cNot_k, cIte_e, iteK_t, iteK_f, iteK, okB, okV, cAndV_e, cOrV_e, cNotV_e, cNotV_k, cBv_e, aNil, aCons_e, aCons_k, aCons_k2, cTup_e, cTup_k, nLst_e, nLst_k, vN_e, vN_k, cN_e, cN_k, nN_e, nN_k, oNone, oSome_e, oSome_k, cSl_e, cSl_k, cSl_k2, cSl_k3, nSl_e, nSl_k, nSl_k2, nSl_k3, nCat_e, nCat_k, nCat_k2, sNil, sSeq, sFrz, sBrk, sCnt, sExp_e, sExp_k, sRet_e, sRet_k, sRetN_e, sRetN_k, sRetU, sIf_e, sSet_e, sSet_k, sSetN_e, sSetN_k, gSet, gsNil, gsCons_e, gsCons_k, nxK, gTupD, gLstD, sAsg_e, sAsg_k, sAug_e, sAug_k, iL_e, iL_k, iT_e, iT_k, iR1_e, iR1_k, iR2_e, iR2_k, iZ_e, iZ_k, iR3_e, iR3_k, cCh_e, cCh_k, cCh_k2, cCh_k3, nRan_e, nRan_k, r1F_e, r1F_k, r2F_e, r2F_k, r2F_k2, r3F_e, r3F_k, r3F_k2, r3F_k3, intP, sFor_e, run_e, runK_rt, runK_rn, runK_nx, fin, outs, cCall_e, cCall_k, cCall_k2, nCall_e, nCall_k, nCall_k2, callM, sls, lents, wbk, lk, pvD, pvDs, pvs, Sl.dat, Sl.put, gSubD_e, gSubD_k, cM_e, cM_k, cMr_e, cMr_k, cMr_k2, isTy_str, isTy_lst, cGet2_e, cGet2_k, cGet2_k2, cGet2_k3, isDic_d, iRv_e, iRv_k, get2_d, nDic0, cTru_e, cTru_k, tru_l, tru_t, emp_c, emp_n, nRevL_e, nRevL_k, iRvR_e, iRvR_k, anNew_e, anNew_k, anNew_k2, anCons_e, anCons_k, anCons_k2, cCallA_e, cCallA_k, cutA_ok, drop_l, drop_1, pNil, keyD, pCons_e, pCons_k, pCons_k2, pCons_k3, nDic_e, nDic_k, nLc_e, nLc_k, lcB_ok, unAll, backAll, noAdr, setAll, setAllF, List.map_cons, List.map_nil, hOne, cYes, List.all_cons, List.all_nil, Bool.and_true, Bool.true_and, Bool.and_self, Option.map_none, ofO, Rt.d, add_i, mns_i, mul_r, mul_l, div_i, mod_i, neg_i, lt_i, le_i, gt_i, ge_i, int_i, abs_i, len_l, len_t, get_l, get_t, toT_l, toT_t, eq_i, ne_i, eq_s, ne_s, rg_len, isN_non, isN_int, notN_non, notN_int, pow18, isi_int, isi_bool, max_ii, max_l, max_t, sum_l, sum_t, toL_l, toL_t, sl_l, sl_t, sg1, sg2, sg3, sg4, sg5, ss2, ss3, ss4, ss5, List.getElem?_cons_zero, List.getElem?_cons_succ, List.set_cons_zero, List.set_cons_succ, List.length_cons, List.length_nil, List.length_map, List.length_range, List.replicate, List.cons_append, List.nil_append, Option.bind_some, Option.map_some, Option.isSome_some, Option.bind_none, if_true, if_false, reduceIte, decide_eq_true_eq, Bool.false_eq_true, reduceCtorEq, decide_true, decide_false, Bool.not_true, Bool.not_false, *])
section
variable {d : D} {c : Ctx} {N C : List Str}
theorem cut_ok {k : Nat} {b : List Stm} (hk : k < 6) (hb : OkB N C k b) (hl : b.length ≤ 1000) : ∃ b', m__law_cut [.val (.tup (dB b))] = .ok (.v (.tup (dB b'))) [.un] ∧ OkB N C k b' ∧ b'.length ≤ b.length := by
  have key : W (forL (gSet 1) s__law_cut_1 (rangeD 0 (b.length : Int)) [.val (.tup (dB b)), .un]) (fun fl ρ => fl = .nx ∧ ∃ b' y1, ρ = [.val (.tup (dB b')), y1] ∧ OkB N C k b' ∧ b'.length ≤ b.length) := by
    refine forL_all (I := fun _ ρ => ∃ b' y1, ρ = [.val (.tup (dB b')), y1] ∧ OkB N C k b' ∧ b'.length ≤ b.length) ⟨b, _, rfl, hb, Nat.le_refl _⟩ (fun ρ h => ⟨rfl, h⟩) ?_
    rintro i ρ p hd ⟨b', y1, rfl, ho, hl'⟩
    refine ⟨_, rfl, ?_⟩
    obtain ⟨z, e⟩ := count_ok 6 k hk b' ho
    have e2 : gSl (.tup (dB b')) (some 1) none = some (.tup (dB (b'.drop 1))) := by
      show some (D.tup (cutD (dB b') (some ((1 : Nat) : Int)) none)) = _
      rw [cut_from, dB_map, dB_map, List.map_drop]
    have ok2 : OkB N C k (b'.drop 1) := fun s hs => ho s (List.mem_of_mem_drop hs)
    have l2 : (b'.drop 1).length ≤ b.length := by rw [List.length_drop]; omega
    by_cases hz : 40 < z
    · have : s__law_cut_1 ([.val (.tup (dB b')), y1].set 1 (.val p)) = .ok .nx [.val (.tup (dB (b'.drop 1))), .val p] := by
        clear hd ho hl' ok2 l2 hb hl hk
        show s__law_cut_1 [.val (.tup (dB b')), .val p] = _
        generalize dB (b'.drop 1) = S2 at *
        generalize dB b' = S at *
        unfold s__law_cut_1
        walk_at "ev"
      rw [this]
      exact ⟨_, _, rfl, ok2, l2⟩
    · have : s__law_cut_1 ([.val (.tup (dB b')), y1].set 1 (.val p)) = .ok .nx [.val (.tup (dB b')), .val p] := by
        clear hd ho hl' ok2 l2 hb hl hk e2
        show s__law_cut_1 [.val (.tup (dB b')), .val p] = _
        generalize dB b' = S at *
        unfold s__law_cut_1
        walk_at "ev"
      rw [this]
      exact ⟨_, _, rfl, ho, hl'⟩
  obtain ⟨fl, ρ, e, rfl, b', y1, rfl, ho, hl'⟩ := key.ok
  refine ⟨b', ?_, ho, hl'⟩
  have ir := inR_nat (n := b.length) (by omega)
  have eL : gLen [.tup (dB b)] = some (.int (b.length : Int)) := by rw [len_t, dB_len]
  clear key ho hl' hb hl
  generalize dB b = S at *
  generalize dB b' = S2 at *
  unfold m__law_cut g__law_cut
  walk_at "ev"
/-- pieces -/
theorem r_at (hc : Cok N C c) : ∃ r0 r1 r2 r3 r4 r5, c.r = [r0, r1, r2, r3, r4, r5] ∧ r0 ∈ N ∧ r1 ∈ N ∧ r2 ∈ N ∧ r3 ∈ N ∧ r4 ∈ N ∧ r5 ∈ N := by
  have h := hc.r6
  have hN := hc.rN
  match e : c.r, h with
  | [a, b, x, y, z, u], _ =>
    rw [e] at hN
    exact ⟨a, b, x, y, z, u, rfl, hN _ (by simp), hN _ (by simp), hN _ (by simp), hN _ (by simp), hN _ (by simp), hN _ (by simp)⟩
theorem ch_at (hc : Cok N C c) : ∃ x, gGet (.lst (c.ch.map D.str)) (.int 0) = some (.str x) ∧ x ∈ N := by
  have h := hc.ch0
  have hN := hc.chN
  match e : c.ch, h with
  | a :: r, _ =>
    rw [e] at hN
    exact ⟨a, atI_nat (j := 0) rfl, hN a (by simp)⟩
theorem ran5 : (rangeD 0 5).reverse = [.int 4, .int 3, .int 2, .int 1, .int 0] := rfl
theorem in5 : L3.inR 5 = true := rfl
theorem row2 (hc : Cok N C c) {y0 y2 y3 y4 y5 y6 : Sl} : ∃ P, q__law_with_row_2 [y0, .bor (cD c), y2, .un, y4, y5, .un] = .ok .nx [y0, .bor (cD c), y2, .val (.lst (dB P)), y4, y5, .un] ∧ OkB N C 1 P ∧ P.length = 5 := by
  obtain ⟨r0, r1, r2, r3, r4, r5, er, h0, h1, h2, h3, h4, h5⟩ := r_at hc
  refine ⟨[.set r5 (.nm r4), .set r4 (.nm r3), .set r3 (.nm r2), .set r2 (.nm r1), .set r1 (.nm r0)], ?_, fun s hs => ?_, rfl⟩
  · have k := k_r (c := c)
    rw [er] at k
    have g : ∀ i : Int, gGet (.lst ([r0, r1, r2, r3, r4, r5].map D.str)) (.int i) = atI [D.str r0, .str r1, .str r2, .str r3, .str r4, .str r5] i := fun i => rfl
    have g0 : gGet (.lst ([r0, r1, r2, r3, r4, r5].map D.str)) (.int 0) = some (.str r0) := rfl
    have g1 : gGet (.lst ([r0, r1, r2, r3, r4, r5].map D.str)) (.int 1) = some (.str r1) := rfl
    have g2 : gGet (.lst ([r0, r1, r2, r3, r4, r5].map D.str)) (.int 2) = some (.str r2) := rfl
    have g3 : gGet (.lst ([r0, r1, r2, r3, r4, r5].map D.str)) (.int 3) = some (.str r3) := rfl
    have g4 : gGet (.lst ([r0, r1, r2, r3, r4, r5].map D.str)) (.int 4) = some (.str r4) := rfl
    have g5 : gGet (.lst ([r0, r1, r2, r3, r4, r5].map D.str)) (.int 5) = some (.str r5) := rfl
    have r5' := ran5
    have i5 := in5
    clear g er h0 h1 h2 h3 h4 h5 hc
    generalize cD c = CD at *
    generalize ([r0, r1, r2, r3, r4, r5].map D.str) = RR at *
    have E : ∀ (i j : Int) (x y : Str), i + 1 = j → gGet (.lst RR) (.int j) = some (.str x) → gGet (.lst RR) (.int i) = some (.str y) → e__law_with_row_1 [y0, .bor CD, y2, .un, y4, y5, .val (.int i)] = .ok (.v (.tup [.str "set", .str x, .str y])) [y0, .bor CD, y2, .un, y4, y5, .val (.int i)] := fun i j x y h1 h2 h3 => by
      clear g0 g1 g2 g3 g4 g5 r5' i5
      unfold e__law_with_row_1
      walk_at "ev"
    have e4 := E 4 5 _ _ rfl g5 g4
    have e3 := E 3 4 _ _ rfl g4 g3
    have e2 := E 2 3 _ _ rfl g3 g2
    have e1 := E 1 2 _ _ rfl g2 g1
    have e0 := E 0 1 _ _ rfl g1 g0
    clear E g0 g1 g2 g3 g4 g5 k
    unfold q__law_with_row_2
    walk_at "evc"
    rfl
  · simp only [List.mem_cons, List.not_mem_nil, or_false] at hs
    rcases hs with rfl | rfl | rfl | rfl | rfl <;> exact ⟨by assumption, by assumption⟩
theorem row3 (hw : Wf d) {P : List Stm} {y1 y2 y4 y5 y6 : Sl} : ∃ P' d', q__law_with_row_3 [.bor d, y1, y2, .val (.lst (dB P)), y4, y5, y6] = .ok .nx [.bor d', y1, y2, .val (.lst (dB P')), y4, y5, y6] ∧ (∀ s ∈ P', s ∈ P) ∧ P'.length ≤ P.length ∧ Wf d' := by
  obtain ⟨x, d1, e1, hx, w1⟩ := drawN hw 2 (by decide) (by decide)
  by_cases h0 : (x : Int) = 0
  · obtain ⟨y, d2, e2, hy, w2⟩ := drawN w1 5 (by decide) (by decide)
    refine ⟨P.take (1 + y), d2, ?_, fun s hs => List.mem_of_mem_take hs, by rw [List.length_take]; omega, w2⟩
    have es : gSl (.lst (dB P)) none (some (1 + (y : Int))) = some (.lst (dB (P.take (1 + y)))) := by
      show some (D.lst (cutD (dB P) none (some (1 + (y : Int))))) = _
      rw [show 1 + (y : Int) = ((1 + y : Nat) : Int) by omega, cut_to, dB_map, dB_map, List.map_take]
    clear hw w1 w2 hx hy
    generalize dB (P.take (1 + y)) = S2 at *
    generalize dB P = S at *
    unfold q__law_with_row_3
    walk_at "ev"
  · refine ⟨P, d1, ?_, fun s hs => hs, Nat.le_refl _, w1⟩
    clear hw w1 hx
    generalize dB P = S at *
    unfold q__law_with_row_3
    walk_at "ev"
theorem row4 (hw : Wf d) (hc : Cok N C c) {P : List Stm} {y2 y4 y5 y6 : Sl} (hP : OkB N C 1 P) (hl : P.length ≤ 100) : ∃ P' d', q__law_with_row_4 [.bor d, .bor (cD c), y2, .val (.lst (dB P)), y4, y5, y6] = .ok .nx [.bor d', .bor (cD c), y2, .val (.lst (dB P')), y4, y5, y6] ∧ OkB N C 1 P' ∧ P'.length ≤ P.length + 1 ∧ Wf d' := by
  obtain ⟨x, d1, e1, hx, w1⟩ := drawN hw 2 (by decide) (by decide)
  obtain ⟨r0, r1, r2, r3, r4, r5, er, h0', h1, h2, h3, h4, h5⟩ := r_at hc
  obtain ⟨y0, kc, hy⟩ := ch_at hc
  have k := k_r (c := c)
  have k2 := k_ch (c := c)
  rw [er] at k
  have g0 : gGet (.lst ([r0, r1, r2, r3, r4, r5].map D.str)) (.int 0) = some (.str r0) := rfl
  by_cases h0 : (x : Int) = 0
  · refine ⟨P ++ [.take r0 y0], d1, ?_, fun s hs => ?_, by simp, w1⟩
    · have ea : gAdd (.lst (dB P)) (.lst [.tup [.str "take", .str r0, .str y0]]) = some (.lst (dB (P ++ [.take r0 y0]))) := by
        rw [dB_app]
        exact add_l (line_le (by rw [dB_len]; simp; omega))
      clear hw w1 hx hP hl er hy h0' h1 h2 h3 h4 h5 hc
      generalize dB (P ++ [.take r0 y0]) = S2 at *
      generalize dB P = S at *
      generalize cD c = CD at *
      generalize ([r0, r1, r2, r3, r4, r5].map D.str) = RR at *
      unfold q__law_with_row_4
      walk_at "evc"
    · rcases List.mem_append.mp hs with hs | hs
      · exact hP s hs
      · cases List.mem_singleton.mp hs
        exact ⟨h0', hy⟩
  · refine ⟨P, d1, ?_, hP, by omega, w1⟩
    clear hw w1 hx hP hl er h0' h1 h2 h3 h4 h5 hc kc k k2 g0
    generalize dB P = S at *
    generalize cD c = CD at *
    unfold q__law_with_row_4
    walk_at "ev"
theorem row5 (hw : Wf d) (hc : Cok N C c) {P : List Stm} {y2 y4 y5 y6 : Sl} (hP : OkB N C 1 P) (hl : P.length ≤ 100) : ∃ P' d', q__law_with_row_5 [.bor d, .bor (cD c), y2, .val (.lst (dB P)), y4, y5, y6] = .ok .nx [.bor d', .bor (cD c), y2, .val (.lst (dB P')), y4, y5, y6] ∧ OkB N C 1 P' ∧ P'.length ≤ P.length + 1 ∧ Wf d' := by
  obtain ⟨x, d1, e1, hx, w1⟩ := drawN hw 2 (by decide) (by decide)
  obtain ⟨r0, r1, r2, r3, r4, r5, er, h0', h1, h2, h3, h4, h5⟩ := r_at hc
  have k := k_r (c := c)
  rw [er] at k
  have g5 : gGet (.lst ([r0, r1, r2, r3, r4, r5].map D.str)) (.int 5) = some (.str r5) := rfl
  have g4 : gGet (.lst ([r0, r1, r2, r3, r4, r5].map D.str)) (.int 4) = some (.str r4) := rfl
  by_cases h0 : (x : Int) = 0
  · refine ⟨.sum .p r5 (.no 1) (.nm r4) :: P, d1, ?_, fun s hs => ?_, by simp, w1⟩
    · have ea : gAdd (.lst [.tup [.str "plus", .str r5, .int 1, .str r4]]) (.lst (dB P)) = some (.lst (dB (.sum .p r5 (.no 1) (.nm r4) :: P))) := add_l (line_le (by rw [dB_len]; simp; omega))
      clear hw w1 hx hP hl er h0' h1 h2 h3 h4 h5 hc
      generalize dB (.sum .p r5 (.no 1) (.nm r4) :: P) = S2 at *
      generalize dB P = S at *
      generalize cD c = CD at *
      generalize ([r0, r1, r2, r3, r4, r5].map D.str) = RR at *
      unfold q__law_with_row_5
      walk_at "evc"
    · rcases List.mem_cons.mp hs with rfl | hs
      · exact ⟨h5, ⟨by decide, by decide⟩, h4⟩
      · exact hP s hs
  · refine ⟨P, d1, ?_, hP, by omega, w1⟩
    clear hw w1 hx hP hl er h0' h1 h2 h3 h4 h5 hc k g4 g5
    generalize dB P = S at *
    generalize cD c = CD at *
    unfold q__law_with_row_5
    walk_at "ev"
theorem row6 (hw : Wf d) (hc : Cok N C c) {P : List Stm} {y2 y4 y5 y6 : Sl} (hP : OkB N C 1 P) (hl : P.length ≤ 100) : ∃ P' d', q__law_with_row_6 [.bor d, .bor (cD c), y2, .val (.lst (dB P)), y4, y5, y6] = .ok .nx [.bor d', .bor (cD c), y2, .val (.lst (dB P')), y4, y5, y6] ∧ OkB N C 1 P' ∧ P'.length ≤ P.length + 1 ∧ Wf d' := by
  have kri := k_ri (c := c)
  by_cases hr : 0 < c.ri
  · obtain ⟨x, d1, e1, hx, w1⟩ := drawN hw 2 (by decide) (by decide)
    obtain ⟨r0, r1, r2, r3, r4, r5, er, h0', h1, h2, h3, h4, h5⟩ := r_at hc
    have k := k_r (c := c)
    rw [er] at k
    have g5 : gGet (.lst ([r0, r1, r2, r3, r4, r5].map D.str)) (.int 5) = some (.str r5) := rfl
    by_cases h0 : (x : Int) = 0
    · refine ⟨.ifs (.no 0) true (.nm r5) [] [] :: P, d1, ?_, fun s hs => ?_, by simp, w1⟩
      · have ea : gAdd (.lst [.tup [.str "if", .int 0, .str "equal", .str r5, .tup [], .tup []]]) (.lst (dB P)) = some (.lst (dB (.ifs (.no 0) true (.nm r5) [] [] :: P))) := add_l (line_le (by rw [dB_len]; simp; omega))
        clear hw w1 hx hP hl er h0' h1 h2 h3 h4 h5 hc
        generalize dB (.ifs (.no 0) true (.nm r5) [] [] :: P) = S2 at *
        generalize dB P = S at *
        generalize cD c = CD at *
        generalize ([r0, r1, r2, r3, r4, r5].map D.str) = RR at *
        unfold q__law_with_row_6
        walk_at "evc"
      · rcases List.mem_cons.mp hs with rfl | hs
        · exact ⟨⟨by decide, by decide⟩, h5, by decide, by decide, fun s hs => (by cases hs), fun s hs => (by cases hs)⟩
        · exact hP s hs
    · refine ⟨P, d1, ?_, hP, by omega, w1⟩
      clear hw w1 hx hP hl er h0' h1 h2 h3 h4 h5 hc k g5
      generalize dB P = S at *
      generalize cD c = CD at *
      unfold q__law_with_row_6
      walk_at "ev"
  · refine ⟨P, d, ?_, hP, by omega, hw⟩
    clear hw hP hl hc
    generalize dB P = S at *
    generalize cD c = CD at *
    unfold q__law_with_row_6
    walk_at "ev"
theorem with_row_ok {k : Nat} {b : List Stm} (hw : Wf d) (hc : Cok N C c) (hb : OkB N C (k + 1) b) (hl : b.length ≤ 10) : ∃ b' d', m__law_with_row [.bor d, .bor (cD c), .val (.tup (dB b))] = .ok (.v (.tup (dB b'))) [.bor d', .bor (cD c), .un] ∧ OkB N C (k + 1) b' ∧ b'.length ≤ b.length + 8 ∧ Wf d' := by
  obtain ⟨P1, e1, o1, l1⟩ := row2 hc (y0 := .bor d) (y2 := .val (.tup (dB b))) (y3 := .un) (y4 := .un) (y5 := .un) (y6 := .un)
  obtain ⟨P2, d2, e2, o2, l2, w2⟩ := row3 hw (P := P1) (y1 := .bor (cD c)) (y2 := .val (.tup (dB b))) (y4 := .un) (y5 := .un) (y6 := .un)
  obtain ⟨P3, d3, e3, o3, l3, w3⟩ := row4 w2 hc (P := P2) (y2 := .val (.tup (dB b))) (y4 := .un) (y5 := .un) (y6 := .un) (fun s hs => o1 s (o2 s hs)) (by omega)
  obtain ⟨P4, d4, e4, o4, l4, w4⟩ := row5 w3 hc (P := P3) (y2 := .val (.tup (dB b))) (y4 := .un) (y5 := .un) (y6 := .un) o3 (by omega)
  obtain ⟨P5, d5, e5, o5, l5, w5⟩ := row6 w4 hc (P := P4) (y2 := .val (.tup (dB b))) (y4 := .un) (y5 := .un) (y6 := .un) o4 (by omega)
  have key : W (forL (gSet 4) s__law_with_row_7 (dB P5).reverse [.bor d5, .bor (cD c), .val (.tup (dB b)), .val (.lst (dB P5)), .un, .un, .un])
      (fun fl ρ => fl = .nx ∧ ∃ d' b' y4 y5, ρ = [.bor d', .bor (cD c), .val (.tup (dB b')), .val (.lst (dB P5)), y4, y5, .un] ∧ OkB N C (k + 1) b' ∧ b'.length = b.length + P5.length ∧ Wf d') := by
    refine forL_all (I := fun i ρ => i ≤ P5.length ∧ ∃ d' b' y4 y5, ρ = [.bor d', .bor (cD c), .val (.tup (dB b')), .val (.lst (dB P5)), y4, y5, .un] ∧ OkB N C (k + 1) b' ∧ b'.length = b.length + i ∧ Wf d')
      ⟨Nat.zero_le _, d5, b, _, _, rfl, hb, rfl, w5⟩ ?_ ?_
    · rintro ρ ⟨h1, d', b', y4, y5, rfl, ho, hl', w'⟩
      refine ⟨rfl, d', b', _, _, rfl, ho, ?_, w'⟩
      rw [hl', List.length_reverse, dB_len]
    · rintro i ρ p hd ⟨h1, d', b', y4, y5, rfl, ho, hl', w'⟩
      have hi : i < P5.length := by have := lt_of_get hd; rwa [List.length_reverse, dB_len] at this
      rw [dB_map, ← List.map_reverse, List.getElem?_map, Option.map_eq_some_iff] at hd
      obtain ⟨s, hq, rfl⟩ := hd
      have hs := OkB.up (j := k + 1) o5 (by omega) s (List.mem_reverse.mp (List.mem_of_getElem? hq))
      refine ⟨_, rfl, ?_⟩
      obtain ⟨x, d6, e6, hx, w6⟩ := drawN w' (1 + min 1 (b'.length : Int)) (by omega) (by omega)
      have eL : gLen [.tup (dB b')] = some (.int (b'.length : Int)) := by rw [len_t, dB_len]
      have em : gMin [.int 1, .int (b'.length : Int)] = some (.int (min 1 (b'.length : Int))) := rfl
      have s1 : gSl (.tup (dB b')) none (some (x : Int)) = some (.tup (dB (b'.take x))) := by
        show some (D.tup (cutD (dB b') none (some (x : Int)))) = _
        rw [cut_to, dB_map, dB_map, List.map_take]
      have s2 : gSl (.tup (dB b')) (some (x : Int)) none = some (.tup (dB (b'.drop x))) := by
        show some (D.tup (cutD (dB b') (some (x : Int)) none)) = _
        rw [cut_from, dB_map, dB_map, List.map_drop]
      have hxl : x ≤ b'.length := by omega
      have a1 : gAdd (.tup (dB (b'.take x))) (.tup [dS s]) = some (.tup (dB (b'.take x ++ [s]))) := by
        rw [dB_app]
        exact add_t (line_le (by rw [dB_len, List.length_take]; simp; omega))
      have a2 : gAdd (.tup (dB (b'.take x ++ [s]))) (.tup (dB (b'.drop x))) = some (.tup (dB (b'.take x ++ [s] ++ b'.drop x))) := by
        rw [dB_app (b'.take x ++ [s])]
        exact add_t (line_le (by rw [dB_len, dB_len, List.length_append, List.length_take, List.length_drop]; simp; omega))
      have E : s__law_with_row_7 [.bor d', .bor (cD c), .val (.tup (dB b')), .val (.lst (dB P5)), .val (dS s), y5, .un] = .ok .nx [.bor d6, .bor (cD c), .val (.tup (dB (b'.take x ++ [s] ++ b'.drop x))), .val (.lst (dB P5)), .val (dS s), .val (.int x), .un] := by
        have z0 : (1 : Nat) ≤ sizeLine := by rw [sizeLine_eq]; decide
        clear hs hq hi hx w6 w' hl' ho h1 hxl hl hb hw w2 w3 w4 w5 o1 o2 o3 o4 o5 l1 l2 l3 l4 l5 e1 e2 e3 e4 e5 hc
        generalize dB (b'.take x ++ [s] ++ b'.drop x) = S1 at *
        generalize dB (b'.take x ++ [s]) = S2 at *
        generalize dB (b'.take x) = S3 at *
        generalize dB (b'.drop x) = S4 at *
        generalize min 1 (b'.length : Int) = m at *
        generalize (b'.length : Int) = m2 at *
        generalize dB b' = S5 at *
        generalize dS s = S6 at *
        generalize dB P5 = S7 at *
        generalize cD c = CD at *
        unfold s__law_with_row_7
        walk_at "ev"
      show W (s__law_with_row_7 [.bor d', .bor (cD c), .val (.tup (dB b')), .val (.lst (dB P5)), .val (dS s), y5, .un]) _
      rw [E]
      refine ⟨hi, d6, _, _, _, rfl, fun z hz => ?_, ?_, w6⟩
      · rcases List.mem_append.mp hz with hz | hz
        · rcases List.mem_append.mp hz with hz | hz
          · exact ho z (List.mem_of_mem_take hz)
          · cases List.mem_singleton.mp hz; exact hs
        · exact ho z (List.mem_of_mem_drop hz)
      · simp only [List.length_append, List.length_take, List.length_drop, List.length_singleton]; omega
  obtain ⟨fl, ρ, e, rfl, d', b', y4, y5, rfl, ho, hl', w'⟩ := key.ok
  refine ⟨b', d', ?_, ho, by omega, w'⟩
  clear key ho hl' w' hl hb hw w2 w3 w4 w5 o1 o2 o3 o4 o5 l1 l2 l3 l4 l5 hc
  generalize dB P1 = S1 at *
  generalize dB P2 = S2 at *
  generalize dB P3 = S3 at *
  generalize dB P4 = S4 at *
  generalize dB P5 = S5 at *
  generalize dB b = S at *
  generalize dB b' = S' at *
  generalize cD c = CD at *
  unfold m__law_with_row g__law_with_row
  walk_at "ev"
end
end K08
namespace K08
open PySem PySem.Spec PyProof.Rows L2 L3
local macro_rules | `(tactic| walk_at "ev") => `(tactic| simp (config := {decide := true}) only [W_ok, bind_ok, thn_nx, thn_rt, thn_rn, thn_bk, thn_ct, cVar, cK, c1_e, c1_k, c2_e, c2_k, c2_k2, cB_e, cB_k, cAnd_e, cOr_e, cNot_e, cNot_k, cIte_e, iteK_t, iteK_f, iteK, okB, okV, cAndV_e, cOrV_e, cNotV_e, cNotV_k, cBv_e, aNil, aCons_e, aCons_k, aCons_k2, cTup_e, cTup_k, nLst_e, nLst_k, vN_e, vN_k, cN_e, cN_k, nN_e, nN_k, oNone, oSome_e, oSome_k, cSl_e, cSl_k, cSl_k2, cSl_k3, nSl_e, nSl_k, nSl_k2, nSl_k3, nCat_e, nCat_k, nCat_k2, sNil, sSeq, sFrz, sBrk, sCnt, sExp_e, sExp_k, sRet_e, sRet_k, sRetN_e, sRetN_k, sRetU, sIf_e, sSet_e, sSet_k, sSetN_e, sSetN_k, gSet, gsNil, gsCons_e, gsCons_k, nxK, gTupD, gLstD, sAsg_e, sAsg_k, sAug_e, sAug_k, iL_e, iL_k, iT_e, iT_k, iR1_e, iR1_k, iR2_e, iR2_k, iZ_e, iZ_k, iR3_e, iR3_k, cCh_e, cCh_k, cCh_k2, cCh_k3, nRan_e, nRan_k, r1F_e, r1F_k, r2F_e, r2F_k, r2F_k2, r3F_e, r3F_k, r3F_k2, r3F_k3, intP, sFor_e, run_e, runK_rt, runK_rn, runK_nx, fin, outs, cCall_e, cCall_k, cCall_k2, nCall_e, nCall_k, nCall_k2, callM, sls, lents, wbk, lk, pvD, pvDs, pvs, Sl.dat, Sl.put, gSubD_e, gSubD_k, cM_e, cM_k, cMr_e, cMr_k, cMr_k2, isTy_str, isTy_lst, cGet2_e, cGet2_k, cGet2_k2, cGet2_k3, isDic_d, iRv_e, iRv_k, get2_d, nDic0, cTru_e, cTru_k, tru_l, tru_t, emp_c, emp_n, nRevL_e, nRevL_k, iRvR_e, iRvR_k, anNew_e, anNew_k, anNew_k2, anCons_e, anCons_k, anCons_k2, cCallA_e, cCallA_k, cutA_ok, drop_l, drop_1, pNil, keyD, pCons_e, pCons_k, pCons_k2, pCons_k3, nDic_e, nDic_k, nLc_e, nLc_k, lcB_ok, unAll, backAll, noAdr, setAll, setAllF, List.map_cons, List.map_nil, hOne, cYes, List.all_cons, List.all_nil, Bool.and_true, Bool.true_and, Bool.and_self, Option.map_none, ofO, Rt.d, add_i, mns_i, mul_r, mul_l, div_i, mod_i, neg_i, lt_i, le_i, gt_i, ge_i, int_i, abs_i, len_l, len_t, get_l, get_t, toT_l, toT_t, eq_i, ne_i, eq_s, ne_s, rg_len, isN_non, isN_int, notN_non, notN_int, pow18, isi_int, isi_bool, max_ii, max_l, max_t, sum_l, sum_t, toL_l, toL_t, sl_l, sl_t, sg1, sg2, sg3, sg4, sg5, ss2, ss3, ss4, ss5, List.getElem?_cons_zero, List.getElem?_cons_succ, List.set_cons_zero, List.set_cons_succ, List.length_cons, List.length_nil, List.length_map, List.length_range, List.replicate, List.cons_append, List.nil_append, Option.bind_some, Option.map_some, Option.isSome_some, Option.bind_none, if_true, if_false, reduceIte, decide_eq_true_eq, Bool.false_eq_true, reduceCtorEq, decide_true, decide_false, Bool.not_true, Bool.not_false, *])
local macro_rules | `(tactic| walk_at "evc") => `(tactic| simp (config := {decide := true}) only [at0, at1, at2, at3, set0, set1, set2, ran0, ran1, ran2, ran3, maxI_one, maxI_cons, asI_nil, asI_cons, add_l, add_t, app_l, line_le, line_lt, forL_nil, forL_cons, forL_k, lp_nx, lp_ct, lp_bk, lp_rt, lp_rn, sub_ok, lcL_nil, lcL_cons, lcH_some, lcL_k, lcL_k2, L3.cutD, HT.sIx, List.take_succ_cons, List.take_zero, List.drop_succ_cons, List.drop_zero, List.sum_cons, List.sum_nil, Nat.reduceAdd, Int.reduceSub, Int.reduceAdd, int_lit, Int.reduceToNat, Nat.reduceSub, Nat.min_def, Nat.reduceLeDiff, Int.reduceLT, W_ok, bind_ok, thn_nx, thn_rt, thn_rn, thn_bk, thn_ct, cVar, cK, c1_e, c1_k, c2_e, c2_k, c2_k2, cB_e, cB_k, cAnd_e, cOr_e, cNot_e, cNot_k, cIte_e, iteK_t, iteK_f, iteK, okB, okV, cAndV_e, cOrV_e, cNotV_e, cNotV_k, cBv_e, aNil, aCons_e, aCons_k, aCons_k2, cTup_e, cTup_k, nLst_e, nLst_k, vN_e, vN_k, cN_e, cN_k, nN_e, nN_k, oNone, oSome_e, oSome_k, cSl_e, cSl_k, cSl_k2, cSl_k3, nSl_e, nSl_k, nSl_k2, nSl_k3, nCat_e, nCat_k, nCat_k2, sNil, sSeq, sFrz, sBrk, sCnt, sExp_e, sExp_k, sRet_e, sRet_k, sRetN_e, sRetN_k, sRetU, sIf_e, sSet_e, sSet_k, sSetN_e, sSetN_k, gSet, gsNil, gsCons_e, gsCons_k, nxK, gTupD, gLstD, sAsg_e, sAsg_k, sAug_e, sAug_k, iL_e, iL_k, iT_e, iT_k, iR1_e, iR1_k, iR2_e, iR2_k, iZ_e, iZ_k, iR3_e, iR3_k, cCh_e, cCh_k, cCh_k2, cCh_k3, nRan_e, nRan_k, r1F_e, r1F_k, r2F_e, r2F_k, r2F_k2, r3F_e, r3F_k, r3F_k2, r3F_k3, intP, sFor_e, run_e, runK_rt, runK_rn, runK_nx, fin, outs, cCall_e, cCall_k, cCall_k2, nCall_e, nCall_k, nCall_k2, callM, sls, lents, wbk, lk, pvD, pvDs, pvs, Sl.dat, Sl.put, gSubD_e, gSubD_k, cM_e, cM_k, cMr_e, cMr_k, cMr_k2, isTy_str, isTy_lst, cGet2_e, cGet2_k, cGet2_k2, cGet2_k3, isDic_d, iRv_e, iRv_k, get2_d, nDic0, cTru_e, cTru_k, tru_l, tru_t, emp_c, emp_n, nRevL_e, nRevL_k, iRvR_e, iRvR_k, anNew_e, anNew_k, anNew_k2, anCons_e, anCons_k, anCons_k2, cCallA_e, cCallA_k, cutA_ok, drop_l, drop_1, pNil, keyD, pCons_e, pCons_k, pCons_k2, pCons_k3, nDic_e, nDic_k, nLc_e, nLc_k, lcB_ok, unAll, backAll, noAdr, setAll, setAllF, List.map_cons, List.map_nil, hOne, cYes, List.all_cons, List.all_nil, Bool.and_true, Bool.true_and, Bool.and_self, Option.map_none, ofO, Rt.d, add_i, mns_i, mul_r, mul_l, div_i, mod_i, neg_i, lt_i, le_i, gt_i, ge_i, int_i, abs_i, len_l, len_t, get_l, get_t, toT_l, toT_t, eq_i, ne_i, eq_s, ne_s, rg_len, isN_non, isN_int, notN_non, notN_int, pow18, isi_int, isi_bool, max_ii, max_l, max_t, sum_l, sum_t, toL_l, toL_t, sl_l, sl_t, sg1, sg2, sg3, sg4, sg5, ss2, ss3, ss4, ss5, List.getElem?_cons_zero, List.getElem?_cons_succ, List.set_cons_zero, List.set_cons_succ, List.length_cons, List.length_nil, List.length_map, List.length_range, List.replicate, List.cons_append, List.nil_append, Option.bind_some, Option.map_some, Option.isSome_some, Option.bind_none, if_true, if_false, reduceIte, decide_eq_true_eq, Bool.false_eq_true, reduceCtorEq, decide_true, decide_false, Bool.not_true, Bool.not_false, *])
section
variable {d : D}
theorem str_at {i : Nat} (hi : i < 1000) : gStr [.int (i : Int)] = some (.str (dg i)) := by
  show (if (i : Int).natAbs.log2 < 1920 then _ else _) = _
  rw [if_pos]
  · rfl
  · refine log_lt ?_ (by decide)
    have : (2 : Nat) ^ 1920 ≥ 2 ^ 10 := Nat.pow_le_pow_right (by decide) (by decide)
    omega
theorem add_s {x y : Str} (h : x.length + y.length ≤ 100) : gAdd (.str x) (.str y) = some (.str (x ++ y)) := by
  have := sizeLine_eq
  show (if x.length + y.length ≤ sizeLine then _ else _) = _
  rw [if_pos (by omega)]
theorem names_ok (hw : Wf d) {m : Nat} (hm : m ≤ 50) : ∃ (N : List Str) (d' : D), m__law_names [.bor d, .val (.int (m : Int))] = .ok (.n (.lst (N.map D.str))) [.bor d', .un] ∧ N.length = m ∧ (∀ (j : Nat) (h : j < N.length), Nam2 j N[j]) ∧ Wf d' := by
  obtain ⟨acc, ρ', e2, hl2, N, d2, r1, r2, w2, hd2⟩ := lcL_fold (is := [3]) (h := hOne) (c := cYes) (e := e__law_names_1)
      (fun k acc ρ => ∃ (N : List Str) (d' : D), ρ = [.bor d', .val (.int (m : Int)), .val (.str abc), .un] ∧ acc = N.map D.str ∧ Wf d' ∧ N.length = k ∧ ∀ (j : Nat) (h : j < N.length), Nam2 j N[j]) (rangeD 0 (m : Int)) (by rw [ran_len, sizeLine_eq]; omega)
      (by
        rintro k acc ρ x hx ⟨N, d', rfl, rfl, w', hl, hd⟩
        obtain ⟨rfl, hk⟩ := ran_nat hx
        obtain ⟨y, d3, e3, h3, w3⟩ := drawN w' 26 (by decide) (by decide)
        obtain ⟨z, d4, e4, h4, w4⟩ := drawN w3 26 (by decide) (by decide)
        have hy : y < 26 := by omega
        have hz : z < 26 := by omega
        have g := abc_at hy
        have g' := abc_at hz
        have l1 : ∀ c, (one c).length = 1 := fun c => rfl
        have a1 : gAdd (.str (one y)) (.str (one z)) = some (.str (one y ++ one z)) := add_s (by rw [l1, l1]; decide)
        have l2 : (one y ++ one z).length = 2 := by simp [Str.length, PySem.Str.cps_append, one]
        have l3 : (dg k).length ≤ 2 := by
          have : (dg k).length = (dg k).cps.toList.length := by simp [Str.length]
          rw [this, dg_is k (by omega)]
          unfold dgl
          split <;> simp
        have a2 : gAdd (.str (one y ++ one z)) (.str (dg k)) = some (.str (one y ++ one z ++ dg k)) := add_s (by omega)
        have s1 := str_at (i := k) (by omega)
        refine ⟨[.int (k : Int)], [.bor d', .val (.int (m : Int)), .val (.str abc), .val (.int (k : Int))], .str (one y ++ one z ++ dg k), [.bor d4, .val (.int (m : Int)), .val (.str abc), .val (.int (k : Int))], rfl, rfl, ?_, N ++ [one y ++ one z ++ dg k], d4, rfl, by rw [List.map_append]; rfl, w4, by rw [List.length_append, hl]; rfl, fun j hj => ?_⟩
        · clear hd w' w3 w4 h3 h4 l1 l2 l3 hl hy hz
          generalize abc = AB at *
          generalize dg k = DK at *
          generalize one y ++ one z ++ DK = O3 at *
          generalize one y ++ one z = O2 at *
          generalize one y = O1 at *
          generalize one z = O0 at *
          unfold e__law_names_1
          walk_at "ev"
        · by_cases e : j < N.length
          · rw [List.getElem_append_left e]
            exact hd j e
          · have : j = N.length := by rw [List.length_append] at hj; simp at hj; omega
            subst this
            rw [List.getElem_append_right (Nat.le_refl _)]
            exact ⟨y, z, hy, hz, by simp [hl]⟩) 0 [] [.bor d, .val (.int (m : Int)), .val (.str abc), .un] (Nat.zero_le _) rfl ⟨[], d, rfl, rfl, hw, rfl, fun j h => by simp at h⟩
  subst r1 r2
  rw [List.drop_zero] at e2
  obtain ⟨hN, hd2⟩ := hd2
  rw [ran_len] at hN
  refine ⟨N, d2, ?_, hN, hd2, w2⟩
  have ir := inR_nat (n := m) (by omega)
  have ea : (.str abc : D) = .str "abcdefghijklmnopqrstuvwxyz" := rfl
  rw [ea] at e2
  clear ea w2 hd2 hl2 hw hN
  generalize N.map D.str = NL at *
  unfold m__law_names g__law_names
  walk_at "ev"
end
end K08
namespace K08
open PySem PySem.Spec PyProof.Rows L2 L3
local macro_rules | `(tactic| walk_at "ev") => `(tactic| simp (config := {decide := true}) only [W_ok, bind_ok, thn_nx, thn_rt, thn_rn, thn_bk, thn_ct, cVar, cK, c1_e, c1_k, c2_e, c2_k, c2_k2, cB_e, cB_k, cAnd_e, cOr_e, cNot_e, cNot_k, cIte_e, iteK_t, iteK_f, iteK, okB, okV, cAndV_e, cOrV_e, cNotV_e, cNotV_k, cBv_e, aNil, aCons_e, aCons_k, aCons_k2, cTup_e, cTup_k, nLst_e, nLst_k, vN_e, vN_k, cN_e, cN_k, nN_e, nN_k, oNone, oSome_e, oSome_k, cSl_e, cSl_k, cSl_k2, cSl_k3, nSl_e, nSl_k, nSl_k2, nSl_k3, nCat_e, nCat_k, nCat_k2, sNil, sSeq, sFrz, sBrk, sCnt, sExp_e, sExp_k, sRet_e, sRet_k, sRetN_e, sRetN_k, sRetU, sIf_e, sSet_e, sSet_k, sSetN_e, sSetN_k, gSet, gsNil, gsCons_e, gsCons_k, nxK, gTupD, gLstD, sAsg_e, sAsg_k, sAug_e, sAug_k, iL_e, iL_k, iT_e, iT_k, iR1_e, iR1_k, iR2_e, iR2_k, iZ_e, iZ_k, iR3_e, iR3_k, cCh_e, cCh_k, cCh_k2, cCh_k3, nRan_e, nRan_k, r1F_e, r1F_k, r2F_e, r2F_k, r2F_k2, r3F_e, r3F_k, r3F_k2, r3F_k3, intP, sFor_e, run_e, runK_rt, runK_rn, runK_nx, fin, outs, cCall_e, cCall_k, cCall_k2, nCall_e, nCall_k, nCall_k2, callM, sls, lents, wbk, lk, pvD, pvDs, pvs, Sl.dat, Sl.put, gSubD_e, gSubD_k, cM_e, cM_k, cMr_e, cMr_k, cMr_k2, isTy_str, isTy_lst, cGet2_e, cGet2_k, cGet2_k2, cGet2_k3, isDic_d, iRv_e, iRv_k, get2_d, nDic0, cTru_e, cTru_k, tru_l, tru_t, emp_c, emp_n, nRevL_e, nRevL_k, iRvR_e, iRvR_k, anNew_e, anNew_k, anNew_k2, anCons_e, anCons_k, anCons_k2, cCallA_e, cCallA_k, cutA_ok, drop_l, drop_1, pNil, keyD, pCons_e, pCons_k, pCons_k2, pCons_k3, nDic_e, nDic_k, nLc_e, nLc_k, lcB_ok, unAll, backAll, noAdr, setAll, setAllF, List.map_cons, List.map_nil, hOne, cYes, List.all_cons, List.all_nil, Bool.and_true, Bool.true_and, Bool.and_self, Option.map_none, ofO, Rt.d, add_i, mns_i, mul_r, mul_l, div_i, mod_i, neg_i, lt_i, le_i, gt_i, ge_i, int_i, abs_i, len_l, len_t, get_l, get_t, toT_l, toT_t, eq_i, ne_i, eq_s, ne_s, rg_len, isN_non, isN_int, notN_non, notN_int, pow18, isi_int, isi_bool, max_ii, max_l, max_t, sum_l, sum_t, toL_l, toL_t, sl_l, sl_t, sg1, sg2, sg3, sg4, sg5, ss2, ss3, ss4, ss5, List.getElem?_cons_zero, List.getElem?_cons_succ, List.set_cons_zero, List.set_cons_succ, List.length_cons, List.length_nil, List.length_map, List.length_range, List.replicate, List.cons_append, List.nil_append, Option.bind_some, Option.map_some, Option.isSome_some, Option.bind_none, if_true, if_false, reduceIte, decide_eq_true_eq, Bool.false_eq_true, reduceCtorEq, decide_true, decide_false, Bool.not_true, Bool.not_false, *])
local macro_rules | `(tactic| walk_at "evc") => `(tactic| simp (config := {decide := true}) only [at0, at1, at2, at3, set0, set1, set2, ran0, ran1, ran2, ran3, maxI_one, maxI_cons, asI_nil, asI_cons, add_l, add_t, app_l, line_le, line_lt, forL_nil, forL_cons, forL_k, lp_nx, lp_ct, lp_bk, lp_rt, lp_rn, sub_ok, lcL_nil, lcL_cons, lcH_some, lcL_k, lcL_k2, L3.cutD, HT.sIx, List.take_succ_cons, List.take_zero, List.drop_succ_cons, List.drop_zero, List.sum_cons, List.sum_nil, Nat.reduceAdd, Int.reduceSub, Int.reduceAdd, int_lit, Int.reduceToNat, Nat.reduceSub, Nat.min_def, Nat.reduceLeDiff, Int.reduceLT, W_ok, bind_ok, thn_nx, thn_rt, thn_rn, thn_bk, thn_ct, cVar, cK, c1_e, c1_k, c2_e, c2_k, c2_k2, cB_e, cB_k, cAnd_e, cOr_e, cNot_e, cNot_k, cIte_e, iteK_t, iteK_f, iteK, okB, okV, cAndV_e, cOrV_e, cNotV_e, cNotV_k, cBv_e, aNil, aCons_e, aCons_k, aCons_k2, cTup_e, cTup_k, nLst_e, nLst_k, vN_e, vN_k, cN_e, cN_k, nN_e, nN_k, oNone, oSome_e, oSome_k, cSl_e, cSl_k, cSl_k2, cSl_k3, nSl_e, nSl_k, nSl_k2, nSl_k3, nCat_e, nCat_k, nCat_k2, sNil, sSeq, sFrz, sBrk, sCnt, sExp_e, sExp_k, sRet_e, sRet_k, sRetN_e, sRetN_k, sRetU, sIf_e, sSet_e, sSet_k, sSetN_e, sSetN_k, gSet, gsNil, gsCons_e, gsCons_k, nxK, gTupD, gLstD, sAsg_e, sAsg_k, sAug_e, sAug_k, iL_e, iL_k, iT_e, iT_k, iR1_e, iR1_k, iR2_e, iR2_k, iZ_e, iZ_k, iR3_e, iR3_k, cCh_e, cCh_k, cCh_k2, cCh_k3, nRan_e, nRan_k, r1F_e, r1F_k, r2F_e, r2F_k, r2F_k2, r3F_e, r3F_k, r3F_k2, r3F_k3, intP, sFor_e, run_e, runK_rt, runK_rn, runK_nx, fin, outs, cCall_e, cCall_k, cCall_k2, nCall_e, nCall_k, nCall_k2, callM, sls, lents, wbk, lk, pvD, pvDs, pvs, Sl.dat, Sl.put, gSubD_e, gSubD_k, cM_e, cM_k, cMr_e, cMr_k, cMr_k2, isTy_str, isTy_lst, cGet2_e, cGet2_k, cGet2_k2, cGet2_k3, isDic_d, iRv_e, iRv_k, get2_d, nDic0, cTru_e, cTru_k, tru_l, tru_t, emp_c, emp_n, nRevL_e, nRevL_k, iRvR_e, iRvR_k, anNew_e, anNew_k, anNew_k2, anCons_e, anCons_k, anCons_k2, cCallA_e, cCallA_k, cutA_ok, drop_l, drop_1, pNil, keyD, pCons_e, pCons_k, pCons_k2, pCons_k3, nDic_e, nDic_k, nLc_e, nLc_k, lcB_ok, unAll, backAll, noAdr, setAll, setAllF, List.map_cons, List.map_nil, hOne, cYes, List.all_cons, List.all_nil, Bool.and_true, Bool.true_and, Bool.and_self, Option.map_none, ofO, Rt.d, add_i, mns_i, mul_r, mul_l, div_i, mod_i, neg_i, lt_i, le_i, gt_i, ge_i, int_i, abs_i, len_l, len_t, get_l, get_t, toT_l, toT_t, eq_i, ne_i, eq_s, ne_s, rg_len, isN_non, isN_int, notN_non, notN_int, pow18, isi_int, isi_bool, max_ii, max_l, max_t, sum_l, sum_t, toL_l, toL_t, sl_l, sl_t, sg1, sg2, sg3, sg4, sg5, ss2, ss3, ss4, ss5, List.getElem?_cons_zero, List.getElem?_cons_succ, List.set_cons_zero, List.set_cons_succ, List.length_cons, List.length_nil, List.length_map, List.length_range, List.replicate, List.cons_append, List.nil_append, Option.bind_some, Option.map_some, Option.isSome_some, Option.bind_none, if_true, if_false, reduceIte, decide_eq_true_eq, Bool.false_eq_true, reduceCtorEq, decide_true, decide_false, Bool.not_true, Bool.not_false, *])
structure Tree where
  po : Str
  lo : Str
  ar : Str
  ch : List (Str × Int)
  subs : List (Str × List Stm)
  tasks : List (Str × Int × List Stm)
def subD (p : Str × List Stm) : D := .tup [.str p.1, .tup (dB p.2)]
def taskD (ar : Str) (t : Str × Int × List Stm) : D := .tup [.str t.1, .tup [.tup [.str ar, .int t.2.1]], .tup (dB t.2.2)]
def chD (p : Str × Int) : D := .tup [.str p.1, .int p.2]
def treeD (T : Tree) : D := .tup [.int 4, .tup [.tup [.str T.po, .int 2]], .tup (T.ch.map chD), .tup [.str T.lo], .tup (T.subs.map subD), .tup (T.tasks.map (taskD T.ar))]
structure Sok (N : List Str) (S : List (Str × List Stm)) : Prop where
  b : ∀ p ∈ S, p.1 ∈ N ∧ OkB N (S.map (·.1)) 3 p.2 ∧ p.2.length ≤ 20
  s4 : S.length ≤ 4
structure Eok (N C : List Str) (E : List (Str × Int × List Stm)) : Prop where
  b : ∀ t ∈ E, t.1 ∈ N ∧ OkB N C 3 t.2.2 ∧ t.2.2.length ≤ 20
  nd : (E.map (·.1)).Nodup
theorem OkS.mono {N C C' : List Str} (h : ∀ x ∈ C, x ∈ C') : ∀ {k : Nat} {s : Stm}, OkS N C k s → OkS N C' k s
  | _, .set _ _, q | _, .sum _ _ _ _, q | _, .take _ _, q | _, .read _ _, q | _, .send _ _, q | _, .get _ _ _, q | _, .put _ _ _, q => by simpa [OkS] using q
  | _, .call s, q => by
    simp only [OkS] at q ⊢
    exact ⟨q.1, h _ q.2⟩
  | k + 1, .ifs _ _ _ _ _, q => by
    simp only [OkS] at q ⊢
    exact ⟨q.1, q.2.1, q.2.2.1, q.2.2.2.1, fun s hs => (q.2.2.2.2.1 s hs).mono h, fun s hs => (q.2.2.2.2.2 s hs).mono h⟩
  | k + 1, .loop _ _, q => by
    simp only [OkS] at q ⊢
    exact ⟨q.1, q.2.1, fun s hs => (q.2.2 s hs).mono h⟩
  | k + 1, .hold _ _, q => by
    simp only [OkS] at q ⊢
    exact ⟨q.1, q.2.1, fun s hs => (q.2.2 s hs).mono h⟩
  | 0, .ifs _ _ _ _ _, q | 0, .loop _ _, q | 0, .hold _ _, q => by simp [OkS] at q
section
variable {d : D} {c : Ctx} {N C : List Str}
abbrev nm (N : List Str) (i : Nat) : Str := N.getD i ""
theorem nm_in {i : Nat} (h : i < N.length) : nm N i ∈ N := by
  unfold nm
  rw [List.getD_eq_getElem?_getD, List.getElem?_eq_getElem h]
  exact List.getElem_mem h
theorem nm_at {i : Nat} (h : i < N.length) : gGet (.lst (N.map D.str)) (.int (i : Int)) = some (.str (nm N i)) := by
  have := map_at (h := D.str) h
  rw [get_l, this]
  unfold nm
  rw [List.getD_eq_getElem?_getD, List.getElem?_eq_getElem h]; rfl
theorem body2 (hw : Wf d) (hc : Cok N C c) {m : Int} (h0 : 0 ≤ m) (h5 : m ≤ 5) : ∃ b d', m__law_bodied 4 [.bor d, .bor (cD c), .val (.int 2), .val (.int m)] = .ok (.v (.tup (dB b))) [.bor d', .bor (cD c), .un, .un] ∧ OkB N C 3 b ∧ b.length ≤ 5 ∧ Wf d' := by
  obtain ⟨b, d', e, o, l, w⟩ := bodied_ok hc 4 2 (by decide) d m hw h0 (by omega)
  exact ⟨b, d', e, o, by omega, w⟩
theorem set_sb {x : List Str} : setD (cD c) (.str "subs") (.lst (x.map D.str)) = some (cD { c with sb := x }) := rfl
theorem set_se {x : Str} : setD (cD c) (.str "sends") (.str x) = some (cD { c with se := x }) := rfl
theorem set_it {x : Bool} : setD (cD c) (.str "is_task") (.bl x) = some (cD { c with it := x }) := rfl
theorem sub_turn (hw : Wf d) (hc : Cok N C c) {S : List D} {i : Nat} {y5 y6 y7 : Sl} (hN : N.length = 25) (hi : i < 4) (hS : S.length ≤ 100) (hb : c.sb.length ≤ 100) :
    ∃ (b : List Stm × List Stm) (d' : D), s__law_tree_of_3 [.bor d, .val (.lst (N.map D.str)), .own (cD c), .own (.lst S), .val (.int (i : Int)), y5, y6, y7, .un] =
      .ok .nx [.bor d', .val (.lst (N.map D.str)), .own (cD { c with sb := c.sb ++ [nm N (18 + i)] }), .own (.lst (S ++ [subD (nm N (18 + i), b.2)])), .val (.int (i : Int)), .val (.tup (dB b.1)), y6, y7, .un] ∧ OkB N C 3 b.2 ∧ b.2.length ≤ 20 ∧ Wf d' := by
  obtain ⟨x, d1, e1, hx, w1⟩ := drawN hw 5 (by decide) (by decide)
  obtain ⟨b2, d2, e2, o2, l2, w2⟩ := body2 w1 hc (m := x) (by omega) (by omega)
  obtain ⟨r, d3, e3, w3⟩ := rare_ok w2 (many := 3) (by decide) (by decide)
  have hn : gGet (.lst (N.map D.str)) (.int (18 + (i : Int))) = some (.str (nm N (18 + i))) := nm_at (i := 18 + i) (by omega)
  have ksb := k_sb (c := c)
  have ea : gAdd (.lst (c.sb.map D.str)) (.lst [.str (nm N (18 + i))]) = some (.lst ((c.sb ++ [nm N (18 + i)]).map D.str)) := by
    rw [List.map_append]
    exact add_l (line_le (by simp; omega))
  have es := set_sb (c := c) (x := c.sb ++ [nm N (18 + i)])
  have eA : ∀ d, gAppend (.lst S) [d] = some (.non, .lst (S ++ [d])) := fun d => app_l (line_lt (by omega))
  cases r with
  | true =>
    obtain ⟨b4, d4, e4, o4, l4, w4⟩ := with_row_ok w3 hc o2 (by omega)
    obtain ⟨b5, e5, o5, l5⟩ := cut_ok (by decide) o4 (by omega)
    refine ⟨(b4, b5), d4, ?_, o5, by dsimp only; omega, w4⟩
    clear hw hc w1 w2 w3 w4 o2 o4 o5 l2 l4 l5 hx hS hb hN hi
    generalize (c.sb ++ [nm N (18 + i)]).map D.str = S1 at *
    generalize cD { c with sb := c.sb ++ [nm N (18 + i)] } = CD2 at *
    unfold subD
    dsimp only
    generalize nm N (18 + i) = NM at *
    generalize c.sb.map D.str = S2 at *
    generalize cD c = CD at *
    generalize N.map D.str = NL at *
    generalize dB b2 = B2 at *
    generalize dB b4 = B4 at *
    generalize dB b5 = B5 at *
    unfold s__law_tree_of_3
    walk_at "evc"
  | false =>
    obtain ⟨b5, e5, o5, l5⟩ := cut_ok (by decide) o2 (by omega)
    refine ⟨(b2, b5), d3, ?_, o5, by dsimp only; omega, w3⟩
    clear hw hc w1 w2 w3 o2 o5 l2 l5 hx hS hb hN hi
    generalize (c.sb ++ [nm N (18 + i)]).map D.str = S1 at *
    generalize cD { c with sb := c.sb ++ [nm N (18 + i)] } = CD2 at *
    unfold subD
    dsimp only
    generalize nm N (18 + i) = NM at *
    generalize c.sb.map D.str = S2 at *
    generalize cD c = CD at *
    generalize N.map D.str = NL at *
    generalize dB b2 = B2 at *
    generalize dB b5 = B5 at *
    unfold s__law_tree_of_3
    walk_at "evc"
theorem task_turn (hw : Wf d) (hc : Cok N C c) {S : List D} {i : Nat} {y3 y5 y7 : Sl} (hN : N.length = 25) (hi : i < 3) (hS : S.length ≤ 100) :
    ∃ (b : List Stm × List Stm) (z : Int) (se : Str) (d' : D), s__law_tree_of_5 [.bor d, .val (.lst (N.map D.str)), .own (cD c), y3, .val (.int (i : Int)), y5, .own (.lst S), y7, .un] =
      .ok .nx [.bor d', .val (.lst (N.map D.str)), .own (cD { c with se := se }), y3, .val (.int (i : Int)), .val (.tup (dB b.1)), .own (.lst (S ++ [taskD (nm N 12) (nm N (22 + i), z, b.2)])), y7, .un] ∧ OkB N C 3 b.2 ∧ b.2.length ≤ 20 ∧ (se = "" ∨ se ∈ N) ∧ Wf d' := by
  have kch := k_ch (c := c)
  have eL : gLen [.lst (c.ch.map D.str)] = some (.int (c.ch.length : Int)) := by
    show some (D.int ((c.ch.map D.str).length : Int)) = _
    rw [List.length_map]
  have step1 : ∃ se : Str, (se = "" ∨ se ∈ N) ∧ sAsg (cIte (cB (c2 gLt (cVar 4) (cN gLen (aCons (c2 gGet (cVar 2) (cK (.str "channels"))) (aNil))))) (c2 gGet (c2 gGet (cVar 2) (cK (.str "channels"))) (cVar 4)) (cK (.str ""))) (gSubD 2 (cK (.str "sends")))
      [.bor d, .val (.lst (N.map D.str)), .own (cD c), y3, .val (.int (i : Int)), y5, .own (.lst S), y7, .un] = .ok .nx [.bor d, .val (.lst (N.map D.str)), .own (cD { c with se := se }), y3, .val (.int (i : Int)), y5, .own (.lst S), y7, .un] := by
    by_cases h : i < c.ch.length
    · have g : gGet (.lst (c.ch.map D.str)) (.int (i : Int)) = some (.str c.ch[i]) := map_at (h := D.str) h
      have h' : (i : Int) < (c.ch.length : Int) := by omega
      refine ⟨c.ch[i], .inr (hc.chN _ (List.getElem_mem h)), ?_⟩
      have es := set_se (c := c) (x := c.ch[i])
      generalize cD { c with se := c.ch[i] } = CD2 at *
      generalize c.ch[i] = X at *
      clear hw hc hN hi hS h
      generalize (c.ch.length : Int) = LL at *
      generalize c.ch.map D.str = S2 at *
      generalize cD c = CD at *
      generalize N.map D.str = NL at *
      walk_at "ev"
    · have h' : ¬ (i : Int) < (c.ch.length : Int) := by omega
      refine ⟨"", .inl rfl, ?_⟩
      have es := set_se (c := c) (x := "")
      clear hw hc hN hi hS h
      generalize cD { c with se := "" } = CD2 at *
      generalize (c.ch.length : Int) = LL at *
      generalize c.ch.map D.str = S2 at *
      generalize cD c = CD at *
      generalize N.map D.str = NL at *
      walk_at "ev"
  obtain ⟨se, hse, e0⟩ := step1
  have hc : Cok N C { c with se := se } := ⟨hc.q3, hc.l3, hc.r6, hc.ch0, hc.ch3, hc.qN, hc.lN, hc.rN, hc.chN, hc.arN, hc.poN, hc.loN, hc.sbN, hc.sb4, hse⟩
  obtain ⟨x, d1, e1, hx, w1⟩ := drawN hw 5 (by decide) (by decide)
  obtain ⟨b2, d2, e2, o2, l2, w2⟩ := body2 w1 hc (m := 1 + x) (by omega) (by omega)
  obtain ⟨y, d3, e3, hy, w3⟩ := drawN w2 2 (by decide) (by decide)
  have hn : gGet (.lst (N.map D.str)) (.int (22 + (i : Int))) = some (.str (nm N (22 + i))) := nm_at (i := 22 + i) (by omega)
  have hn2 : gGet (.lst (N.map D.str)) (.int 12) = some (.str (nm N 12)) := nm_at (i := 12) (by omega)
  have eA : ∀ d, gAppend (.lst S) [d] = some (.non, .lst (S ++ [d])) := fun d => app_l (line_lt (by omega))
  by_cases h0 : (y : Int) = 0
  · obtain ⟨b4, d4, e4, o4, l4, w4⟩ := with_row_ok w3 hc o2 (by omega)
    obtain ⟨z, d5, e5, hz, w5⟩ := drawN w4 4 (by decide) (by decide)
    obtain ⟨b6, e6, o6, l6⟩ := cut_ok (by decide) o4 (by omega)
    refine ⟨(b4, b6), 1 + z, se, d5, ?_, o6, by dsimp only; omega, hse, w5⟩
    clear hw hc w1 w2 w3 w4 w5 o2 o4 o6 l2 l4 l6 hx hS hN hi hy hz hse kch eL
    unfold taskD
    dsimp only
    generalize cD { c with se := se } = CD2 at *
    generalize nm N (22 + i) = NM at *
    generalize nm N 12 = NM2 at *
    generalize cD c = CD at *
    generalize N.map D.str = NL at *
    generalize dB b2 = B2 at *
    generalize dB b4 = B4 at *
    generalize dB b6 = B6 at *
    unfold s__law_tree_of_5
    rw [sSeq, e0, thn_nx]
    clear e0
    walk_at "evc"
  · obtain ⟨z, d5, e5, hz, w5⟩ := drawN w3 4 (by decide) (by decide)
    obtain ⟨b6, e6, o6, l6⟩ := cut_ok (by decide) o2 (by omega)
    refine ⟨(b2, b6), 1 + z, se, d5, ?_, o6, by dsimp only; omega, hse, w5⟩
    clear hw hc w1 w2 w3 w5 o2 o6 l2 l6 hx hS hN hi hy hz hse kch eL
    unfold taskD
    dsimp only
    generalize cD { c with se := se } = CD2 at *
    generalize nm N (22 + i) = NM at *
    generalize nm N 12 = NM2 at *
    generalize cD c = CD at *
    generalize N.map D.str = NL at *
    generalize dB b2 = B2 at *
    generalize dB b6 = B6 at *
    unfold s__law_tree_of_5
    rw [sSeq, e0, thn_nx]
    clear e0
    walk_at "evc"
/-! ### the tree -/
theorem cut_mid {α : Type} {xs : List α} {a b : Nat} (h1 : a ≤ b) (h2 : b ≤ xs.length) : cutD xs (some (a : Int)) (some (b : Int)) = (xs.drop a).take (b - a) := by
  unfold L3.cutD
  rw [HT.sIx_nat, HT.sIx_nat, Nat.min_eq_left h2, Nat.min_eq_left (Nat.le_trans h1 h2)]
def cD0 (c : Ctx) : D := .dic [(.inr "quiet", .lst (c.q.map .str)), (.inr "loud", .lst (c.l.map .str)), (.inr "row", .lst (c.r.map .str)), (.inr "array", .str c.ar), (.inr "port", .str c.po), (.inr "lock", .str c.lo),
  (.inr "subs", .lst (c.sb.map .str)), (.inr "is_task", .bl c.it), (.inr "risk", .int c.ri), (.inr "sends", .str c.se)]
theorem set_ch {x : List Str} : setD (cD0 c) (.str "channels") (.lst (x.map D.str)) = some (cD { c with ch := x }) := rfl
theorem pickR_ok {s : D} (h : Wf s) : ∃ (k : Int) (s' : D), mPick [.bor s, .val (.tup [.int 0, .int 0, .int 1, .int 2, .int 4])] = .ok (.v (.int k)) [.bor s', .un] ∧ Wf s' := by
  obtain ⟨x, d, s', e, h1, h2⟩ := pick_ok h (ds := [.int 0, .int 0, .int 1, .int 2, .int 4]) (by simp) (by decide)
  match x, h1 with
  | 0, h1 => cases h1; exact ⟨_, s', e, h2⟩
  | 1, h1 => cases h1; exact ⟨_, s', e, h2⟩
  | 2, h1 => cases h1; exact ⟨_, s', e, h2⟩
  | 3, h1 => cases h1; exact ⟨_, s', e, h2⟩
  | 4, h1 => cases h1; exact ⟨_, s', e, h2⟩
  | x + 5, h1 => simp at h1
theorem mid_in {a b : Nat} {x : Str} (h : x ∈ (N.drop a).take b) : x ∈ N := List.mem_of_mem_drop (List.mem_of_mem_take h)
theorem ctx_ok (hw : Wf d) (hN : N.length = 25) {y3 y4 y5 y6 y7 y8 : Sl} : ∃ (c : Ctx) (d' : D), Cok N [] c ∧ c.sb = [] ∧ (c.ar = nm N 12 ∧ c.po = nm N 13 ∧ c.lo = nm N 14) ∧ q__law_tree_of_1 [.bor d, .val (.lst (N.map D.str)), .un, y3, y4, y5, y6, y7, y8] = .ok .nx [.bor d', .val (.lst (N.map D.str)), .own (cD0 c), y3, y4, y5, y6, y7, y8] ∧ Wf d' ∧
    ∃ d2, q__law_tree_of_2 [.bor d', .val (.lst (N.map D.str)), .own (cD0 c), y3, y4, y5, y6, y7, y8] = .ok .nx [.bor d2, .val (.lst (N.map D.str)), .own (cD c), y3, y4, y5, y6, y7, y8] ∧ Wf d2 := by
  obtain ⟨r, d1, e1, w1⟩ := pickR_ok hw
  obtain ⟨x, d2, e2, hx, w2⟩ := drawN w1 3 (by decide) (by decide)
  have s1 : gSl (.lst (N.map D.str)) none (some 3) = some (.lst ((N.take 3).map D.str)) := by
    show some (D.lst (cutD (N.map D.str) none (some ((3 : Nat) : Int)))) = _
    rw [cut_to, List.map_take]
  have mid : ∀ (a b : Nat), a ≤ b → b ≤ 25 → gSl (.lst (N.map D.str)) (some (a : Int)) (some (b : Int)) = some (.lst (((N.drop a).take (b - a)).map D.str)) := fun a b h1 h2 => by
    show some (D.lst (cutD (N.map D.str) (some (a : Int)) (some (b : Int)))) = _
    rw [cut_mid h1 (by rw [List.length_map]; omega), List.map_take, List.map_drop]
  have s2 : gSl (.lst (N.map D.str)) (some 3) (some 6) = some (.lst (((N.drop 3).take 3).map D.str)) := mid 3 6 (by decide) (by decide)
  have s3 : gSl (.lst (N.map D.str)) (some 6) (some 12) = some (.lst (((N.drop 6).take 6).map D.str)) := mid 6 12 (by decide) (by decide)
  have s4 : gSl (.lst (N.map D.str)) (some 15) (some (16 + (x : Int))) = some (.lst (((N.drop 15).take (16 + x - 15)).map D.str)) := mid 15 (16 + x) (by omega) (by omega)
  have g12 : gGet (.lst (N.map D.str)) (.int 12) = some (.str (nm N 12)) := nm_at (i := 12) (by omega)
  have g13 : gGet (.lst (N.map D.str)) (.int 13) = some (.str (nm N 13)) := nm_at (i := 13) (by omega)
  have g14 : gGet (.lst (N.map D.str)) (.int 14) = some (.str (nm N 14)) := nm_at (i := 14) (by omega)
  have z0 : (0 : Nat) ≤ sizeLine := Nat.zero_le _
  let c : Ctx := { q := N.take 3, l := (N.drop 3).take 3, r := (N.drop 6).take 6, ar := nm N 12, po := nm N 13, lo := nm N 14, sb := [], it := false, ri := r, se := "", ch := (N.drop 15).take (16 + x - 15) }
  refine ⟨c, d1, ⟨?_, ?_, ?_, ?_, ?_, fun x h => List.mem_of_mem_take h, fun x h => mid_in h, fun x h => mid_in h, fun x h => mid_in h, nm_in (by omega), nm_in (by omega), nm_in (by omega), fun x h => (by cases h), Nat.zero_le _, .inl rfl⟩, rfl, ⟨rfl, rfl, rfl⟩, ?_, w1, d2, ?_, w2⟩
  · show (N.take 3).length = 3
    rw [List.length_take]; omega
  · show ((N.drop 3).take 3).length = 3
    rw [List.length_take, List.length_drop]; omega
  · show ((N.drop 6).take 6).length = 6
    rw [List.length_take, List.length_drop]; omega
  · show 0 < ((N.drop 15).take (16 + x - 15)).length
    rw [List.length_take, List.length_drop]; omega
  · show ((N.drop 15).take (16 + x - 15)).length ≤ 3
    rw [List.length_take, List.length_drop]; omega
  · have e0 : cD0 c = .dic [(.inr "quiet", .lst ((N.take 3).map .str)), (.inr "loud", .lst (((N.drop 3).take 3).map .str)), (.inr "row", .lst (((N.drop 6).take 6).map .str)), (.inr "array", .str (nm N 12)), (.inr "port", .str (nm N 13)), (.inr "lock", .str (nm N 14)),
      (.inr "subs", .lst []), (.inr "is_task", .bl false), (.inr "risk", .int r), (.inr "sends", .str "")] := rfl
    rw [e0]
    clear e0 s4 mid hw w1 w2 e2 hx hN
    clear_value c
    generalize (N.take 3).map D.str = A1 at *
    generalize ((N.drop 3).take 3).map D.str = A2 at *
    generalize ((N.drop 6).take 6).map D.str = A3 at *
    generalize N.map D.str = NL at *
    generalize nm N 12 = B1 at *
    generalize nm N 13 = B2 at *
    generalize nm N 14 = B3 at *
    unfold q__law_tree_of_1
    walk_at "ev"
    rfl
  · have es : setD (cD0 c) (.str "channels") (.lst (((N.drop 15).take (16 + x - 15)).map D.str)) = some (cD c) := rfl
    clear s1 s2 s3 g12 g13 g14 mid hw w1 w2 e1 hx hN
    clear_value c
    generalize cD0 c = C0 at *
    generalize cD c = CD at *
    generalize ((N.drop 15).take (16 + x - 15)).map D.str = A4 at *
    generalize N.map D.str = NL at *
    unfold q__law_tree_of_2
    walk_at "ev"
theorem Cok.mono {C' : List Str} (h : Cok N C c) (hs : ∀ x ∈ C, x ∈ C') : Cok N C' c :=
  ⟨h.q3, h.l3, h.r6, h.ch0, h.ch3, h.qN, h.lN, h.rN, h.chN, h.arN, h.poN, h.loN, fun x hx => ⟨(h.sbN x hx).1, hs _ (h.sbN x hx).2⟩, h.sb4, h.seN⟩
end
end K08
namespace K08
open PySem PySem.Spec PyProof.Rows L2 L3
local macro_rules | `(tactic| walk_at "ev") => `(tactic| simp (config := {decide := true}) only [W_ok, bind_ok, thn_nx, thn_rt, thn_rn, thn_bk, thn_ct, cVar, cK, c1_e, c1_k, c2_e, c2_k, c2_k2, cB_e, cB_k, cAnd_e, cOr_e, cNot_e, cNot_k, cIte_e, iteK_t, iteK_f, iteK, okB, okV, cAndV_e, cOrV_e, cNotV_e, cNotV_k, cBv_e, aNil, aCons_e, aCons_k, aCons_k2, cTup_e, cTup_k, nLst_e, nLst_k, vN_e, vN_k, cN_e, cN_k, nN_e, nN_k, oNone, oSome_e, oSome_k, cSl_e, cSl_k, cSl_k2, cSl_k3, nSl_e, nSl_k, nSl_k2, nSl_k3, nCat_e, nCat_k, nCat_k2, sNil, sSeq, sFrz, sBrk, sCnt, sExp_e, sExp_k, sRet_e, sRet_k, sRetN_e, sRetN_k, sRetU, sIf_e, sSet_e, sSet_k, sSetN_e, sSetN_k, gSet, gsNil, gsCons_e, gsCons_k, nxK, gTupD, gLstD, sAsg_e, sAsg_k, sAug_e, sAug_k, iL_e, iL_k, iT_e, iT_k, iR1_e, iR1_k, iR2_e, iR2_k, iZ_e, iZ_k, iR3_e, iR3_k, cCh_e, cCh_k, cCh_k2, cCh_k3, nRan_e, nRan_k, r1F_e, r1F_k, r2F_e, r2F_k, r2F_k2, r3F_e, r3F_k, r3F_k2, r3F_k3, intP, sFor_e, run_e, runK_rt, runK_rn, runK_nx, fin, outs, cCall_e, cCall_k, cCall_k2, nCall_e, nCall_k, nCall_k2, callM, sls, lents, wbk, lk, pvD, pvDs, pvs, Sl.dat, Sl.put, gSubD_e, gSubD_k, cM_e, cM_k, cMr_e, cMr_k, cMr_k2, isTy_str, isTy_lst, cGet2_e, cGet2_k, cGet2_k2, cGet2_k3, isDic_d, iRv_e, iRv_k, get2_d, nDic0, cTru_e, cTru_k, tru_l, tru_t, emp_c, emp_n, nRevL_e, nRevL_k, iRvR_e, iRvR_k, anNew_e, anNew_k, anNew_k2, anCons_e, anCons_k, anCons_k2, cCallA_e, cCallA_k, cutA_ok, drop_l, drop_1, pNil, keyD, pCons_e, pCons_k, pCons_k2, pCons_k3, nDic_e, nDic_k, nLc_e, nLc_k, lcB_ok, unAll, backAll, noAdr, setAll, setAllF, List.map_cons, List.map_nil, hOne, cYes, List.all_cons, List.all_nil, Bool.and_true, Bool.true_and, Bool.and_self, Option.map_none, ofO, Rt.d, add_i, mns_i, mul_r, mul_l, div_i, mod_i, neg_i, lt_i, le_i, gt_i, ge_i, int_i, abs_i, len_l, len_t, get_l, get_t, toT_l, toT_t, eq_i, ne_i, eq_s, ne_s, rg_len, isN_non, isN_int, notN_non, notN_int, pow18, isi_int, isi_bool, max_ii, max_l, max_t, sum_l, sum_t, toL_l, toL_t, sl_l, sl_t, sg1, sg2, sg3, sg4, sg5, ss2, ss3, ss4, ss5, List.getElem?_cons_zero, List.getElem?_cons_succ, List.set_cons_zero, List.set_cons_succ, List.length_cons, List.length_nil, List.length_map, List.length_range, List.replicate, List.cons_append, List.nil_append, Option.bind_some, Option.map_some, Option.isSome_some, Option.bind_none, if_true, if_false, reduceIte, decide_eq_true_eq, Bool.false_eq_true, reduceCtorEq, decide_true, decide_false, Bool.not_true, Bool.not_false, *])
local macro_rules | `(tactic| walk_at "evc") => `(tactic| simp (config := {decide := true}) only [at0, at1, at2, at3, set0, set1, set2, ran0, ran1, ran2, ran3, maxI_one, maxI_cons, asI_nil, asI_cons, add_l, add_t, app_l, line_le, line_lt, forL_nil, forL_cons, forL_k, lp_nx, lp_ct, lp_bk, lp_rt, lp_rn, sub_ok, lcL_nil, lcL_cons, lcH_some, lcL_k, lcL_k2, L3.cutD, HT.sIx, List.take_succ_cons, List.take_zero, List.drop_succ_cons, List.drop_zero, List.sum_cons, List.sum_nil, Nat.reduceAdd, Int.reduceSub, Int.reduceAdd, int_lit, Int.reduceToNat, Nat.reduceSub, Nat.min_def, Nat.reduceLeDiff, Int.reduceLT, W_ok, bind_ok, thn_nx, thn_rt, thn_rn, thn_bk, thn_ct, cVar, cK, c1_e, c1_k, c2_e, c2_k, c2_k2, cB_e, cB_k, cAnd_e, cOr_e, cNot_e, cNot_k, cIte_e, iteK_t, iteK_f, iteK, okB, okV, cAndV_e, cOrV_e, cNotV_e, cNotV_k, cBv_e, aNil, aCons_e, aCons_k, aCons_k2, cTup_e, cTup_k, nLst_e, nLst_k, vN_e, vN_k, cN_e, cN_k, nN_e, nN_k, oNone, oSome_e, oSome_k, cSl_e, cSl_k, cSl_k2, cSl_k3, nSl_e, nSl_k, nSl_k2, nSl_k3, nCat_e, nCat_k, nCat_k2, sNil, sSeq, sFrz, sBrk, sCnt, sExp_e, sExp_k, sRet_e, sRet_k, sRetN_e, sRetN_k, sRetU, sIf_e, sSet_e, sSet_k, sSetN_e, sSetN_k, gSet, gsNil, gsCons_e, gsCons_k, nxK, gTupD, gLstD, sAsg_e, sAsg_k, sAug_e, sAug_k, iL_e, iL_k, iT_e, iT_k, iR1_e, iR1_k, iR2_e, iR2_k, iZ_e, iZ_k, iR3_e, iR3_k, cCh_e, cCh_k, cCh_k2, cCh_k3, nRan_e, nRan_k, r1F_e, r1F_k, r2F_e, r2F_k, r2F_k2, r3F_e, r3F_k, r3F_k2, r3F_k3, intP, sFor_e, run_e, runK_rt, runK_rn, runK_nx, fin, outs, cCall_e, cCall_k, cCall_k2, nCall_e, nCall_k, nCall_k2, callM, sls, lents, wbk, lk, pvD, pvDs, pvs, Sl.dat, Sl.put, gSubD_e, gSubD_k, cM_e, cM_k, cMr_e, cMr_k, cMr_k2, isTy_str, isTy_lst, cGet2_e, cGet2_k, cGet2_k2, cGet2_k3, isDic_d, iRv_e, iRv_k, get2_d, nDic0, cTru_e, cTru_k, tru_l, tru_t, emp_c, emp_n, nRevL_e, nRevL_k, iRvR_e, iRvR_k, anNew_e, anNew_k, anNew_k2, anCons_e, anCons_k, anCons_k2, cCallA_e, cCallA_k, cutA_ok, drop_l, drop_1, pNil, keyD, pCons_e, pCons_k, pCons_k2, pCons_k3, nDic_e, nDic_k, nLc_e, nLc_k, lcB_ok, unAll, backAll, noAdr, setAll, setAllF, List.map_cons, List.map_nil, hOne, cYes, List.all_cons, List.all_nil, Bool.and_true, Bool.true_and, Bool.and_self, Option.map_none, ofO, Rt.d, add_i, mns_i, mul_r, mul_l, div_i, mod_i, neg_i, lt_i, le_i, gt_i, ge_i, int_i, abs_i, len_l, len_t, get_l, get_t, toT_l, toT_t, eq_i, ne_i, eq_s, ne_s, rg_len, isN_non, isN_int, notN_non, notN_int, pow18, isi_int, isi_bool, max_ii, max_l, max_t, sum_l, sum_t, toL_l, toL_t, sl_l, sl_t, sg1, sg2, sg3, sg4, sg5, ss2, ss3, ss4, ss5, List.getElem?_cons_zero, List.getElem?_cons_succ, List.set_cons_zero, List.set_cons_succ, List.length_cons, List.length_nil, List.length_map, List.length_range, List.replicate, List.cons_append, List.nil_append, Option.bind_some, Option.map_some, Option.isSome_some, Option.bind_none, if_true, if_false, reduceIte, decide_eq_true_eq, Bool.false_eq_true, reduceCtorEq, decide_true, decide_false, Bool.not_true, Bool.not_false, *])
structure Tok (N : List Str) (T : Tree) : Prop where
  s : Sok N T.subs
  e : Eok N (T.subs.map (·.1)) T.tasks
  t3 : T.tasks.length ≤ 3
theorem Cok.it {N C : List Str} {c : Ctx} {b : Bool} (h : Cok N C c) : Cok N C { c with it := b } :=
  ⟨h.q3, h.l3, h.r6, h.ch0, h.ch3, h.qN, h.lN, h.rN, h.chN, h.arN, h.poN, h.loN, h.sbN, h.sb4, h.seN⟩
section
variable {d : D} {c : Ctx} {N C : List Str}
theorem subs_ok (hw : Wf d) (hN : N.length = 25) (hc : Cok N [] c) (hs : c.sb = []) {y4 y5 y6 y7 : Sl} : ∃ (S : List (Str × List Stm)) (d' : D) (y4' y5' : Sl), q__law_tree_of_4 [.bor d, .val (.lst (N.map D.str)), .own (cD c), .own (.lst []), y4, y5, y6, y7, .un] =
    .ok .nx [.bor d', .val (.lst (N.map D.str)), .own (cD { c with sb := S.map (·.1) }), .own (.lst (S.map subD)), y4', y5', y6, y7, .un] ∧ Sok N S ∧ Cok N (S.map (·.1)) { c with sb := S.map (·.1) } ∧ Wf d' := by
  obtain ⟨x, d1, e1, hx, w1⟩ := drawN hw 5 (by decide) (by decide)
  have key : W (forL (gSet 4) s__law_tree_of_3 (rangeD 0 (x : Int)) [.bor d1, .val (.lst (N.map D.str)), .own (cD c), .own (.lst []), y4, y5, y6, y7, .un])
      (fun fl ρ => fl = .nx ∧ ∃ (S : List (Str × List Stm)) (d' : D) (y4' y5' : Sl), ρ = [.bor d', .val (.lst (N.map D.str)), .own (cD { c with sb := S.map (·.1) }), .own (.lst (S.map subD)), y4', y5', y6, y7, .un] ∧ Sok N S ∧ Cok N (S.map (·.1)) { c with sb := S.map (·.1) } ∧ Wf d') := by
    refine forL_all (I := fun k ρ => k ≤ x ∧ ∃ (S : List (Str × List Stm)) (d' : D) (y4' y5' : Sl), ρ = [.bor d', .val (.lst (N.map D.str)), .own (cD { c with sb := S.map (·.1) }), .own (.lst (S.map subD)), y4', y5', y6, y7, .un] ∧ S.length = k ∧ Sok N S ∧ Cok N (S.map (·.1)) { c with sb := S.map (·.1) } ∧ Wf d')
      ⟨Nat.zero_le _, [], d1, y4, y5, ?_, rfl, ⟨fun p h => (by cases h), Nat.zero_le _⟩, ?_, w1⟩ ?_ ?_
    · rw [show ({ c with sb := ([] : List (Str × List Stm)).map (·.1) } : Ctx) = c by rw [List.map_nil, ← hs]]; rfl
    · rw [show ({ c with sb := ([] : List (Str × List Stm)).map (·.1) } : Ctx) = c by rw [List.map_nil, ← hs]]; exact hc
    · rintro ρ ⟨_, S, d', y4', y5', rfl, _, h1, h2, h3⟩
      exact ⟨rfl, S, d', _, _, rfl, h1, h2, h3⟩
    · rintro k ρ p hd ⟨_, S, d', y4', y5', rfl, hl, h1, h2, h3⟩
      obtain ⟨rfl, hk⟩ := ran_nat hd
      refine ⟨_, rfl, ?_⟩
      obtain ⟨b, d2, e2, o2, l2, w2⟩ := sub_turn h3 h2 (S := S.map subD) (i := k) (y5 := y5') (y6 := y6) (y7 := y7) hN (by omega) (by rw [List.length_map]; omega) (by show (S.map (·.1)).length ≤ 100; rw [List.length_map]; omega)
      show W (s__law_tree_of_3 [.bor d', .val (.lst (N.map D.str)), .own (cD { c with sb := S.map (·.1) }), .own (.lst (S.map subD)), .val (.int (k : Int)), y5', y6, y7, .un]) _
      rw [e2]
      have em : (S ++ [(nm N (18 + k), b.2)]).map (·.1) = S.map (·.1) ++ [nm N (18 + k)] := List.map_append
      have mono : ∀ y ∈ S.map (·.1), y ∈ S.map (·.1) ++ [nm N (18 + k)] := fun y hy => List.mem_append.mpr (.inl hy)
      have mN : nm N (18 + k) ∈ N := nm_in (by omega)
      refine ⟨hk, S ++ [(nm N (18 + k), b.2)], d2, .val (.int (k : Int)), .val (.tup (dB b.1)), ?_, by rw [List.length_append, hl]; rfl, ⟨fun p hp => ?_, by rw [List.length_append, hl]; show k + 1 ≤ 4; omega⟩, ?_, w2⟩
      · rw [em, List.map_append]
        rfl
      · rw [em]
        rcases List.mem_append.mp hp with hp | hp
        · obtain ⟨q1, q2, q3⟩ := h1.b p hp
          exact ⟨q1, fun s hs => (q2 s hs).mono mono, q3⟩
        · cases List.mem_singleton.mp hp
          exact ⟨mN, fun s hs => (o2 s hs).mono mono, l2⟩
      · rw [em]
        have h2' := h2.mono mono
        refine ⟨h2'.q3, h2'.l3, h2'.r6, h2'.ch0, h2'.ch3, h2'.qN, h2'.lN, h2'.rN, h2'.chN, h2'.arN, h2'.poN, h2'.loN, fun y hy => ?_, ?_, h2'.seN⟩
        · rcases List.mem_append.mp hy with hy | hy
          · exact h2'.sbN y hy
          · cases List.mem_singleton.mp hy
            exact ⟨mN, List.mem_append.mpr (.inr (by simp))⟩
        · show (S.map (·.1) ++ [nm N (18 + k)]).length ≤ 4
          rw [List.length_append, List.length_map, hl]; show k + 1 ≤ 4; omega
  obtain ⟨fl, ρ, e, rfl, S, d', y4', y5', rfl, h1, h2, h3⟩ := key.ok
  refine ⟨S, d', y4', y5', ?_, h1, h2, h3⟩
  have ir := inR_nat (n := x) (by omega)
  clear key h1 h2 h3 hw w1 hN hc hs hx
  generalize cD { c with sb := S.map (·.1) } = CD2 at *
  generalize cD c = CD at *
  generalize N.map D.str = NL at *
  generalize S.map subD = SD at *
  unfold q__law_tree_of_4
  walk_at "ev"
theorem tasks_ok (hw : Wf d) (hN : N.length = 25) (hD : ∀ i j, i < 25 → j < 25 → nm N i = nm N j → i = j) (hc : Cok N C c) {y3 y4 y5 y7 : Sl} : ∃ (E : List (Str × Int × List Stm)) (d' : D) (se : Str) (y4' y5' : Sl), q__law_tree_of_6 [.bor d, .val (.lst (N.map D.str)), .own (cD c), y3, y4, y5, .own (.lst []), y7, .un] =
    .ok .nx [.bor d', .val (.lst (N.map D.str)), .own (cD { c with se := se }), y3, y4', y5', .own (.lst (E.map (taskD (nm N 12)))), y7, .un] ∧ Eok N C E ∧ E.length ≤ 3 ∧ (se = "" ∨ se ∈ N) ∧ Wf d' := by
  obtain ⟨x, d1, e1, hx, w1⟩ := drawN hw 3 (by decide) (by decide)
  have key : W (forL (gSet 4) s__law_tree_of_5 (rangeD 0 ((1 + x : Nat) : Int)) [.bor d1, .val (.lst (N.map D.str)), .own (cD c), y3, y4, y5, .own (.lst []), y7, .un])
      (fun fl ρ => fl = .nx ∧ ∃ (E : List (Str × Int × List Stm)) (d' : D) (se : Str) (y4' y5' : Sl), ρ = [.bor d', .val (.lst (N.map D.str)), .own (cD { c with se := se }), y3, y4', y5', .own (.lst (E.map (taskD (nm N 12)))), y7, .un] ∧ Eok N C E ∧ E.length ≤ 3 ∧ (se = "" ∨ se ∈ N) ∧ Wf d') := by
    refine forL_all (I := fun k ρ => k ≤ 1 + x ∧ ∃ (E : List (Str × Int × List Stm)) (d' : D) (se : Str) (y4' y5' : Sl), ρ = [.bor d', .val (.lst (N.map D.str)), .own (cD { c with se := se }), y3, y4', y5', .own (.lst (E.map (taskD (nm N 12)))), y7, .un] ∧ E.map (·.1) = (List.range k).map (fun i => nm N (22 + i)) ∧
        (∀ t ∈ E, t.1 ∈ N ∧ OkB N C 3 t.2.2 ∧ t.2.2.length ≤ 20) ∧ Cok N C { c with se := se } ∧ Wf d')
      ⟨Nat.zero_le _, [], d1, c.se, y4, y5, rfl, rfl, fun t h => (by cases h), hc, w1⟩ ?_ ?_
    · rintro ρ ⟨hk, E, d', se, y4', y5', rfl, h0, h1, h2, h3⟩
      rw [ran_len] at hk h0
      have hl : E.length = 1 + x := by have := congrArg List.length h0; simpa using this
      refine ⟨rfl, E, d', se, _, _, rfl, ⟨h1, ?_⟩, by omega, h2.seN, h3⟩
      rw [h0]
      unfold List.Nodup
      rw [List.pairwise_map]
      refine List.Pairwise.imp_of_mem (fun {i j} hi hj ne e => ?_) (List.nodup_range (n := 1 + x))
      have hi := List.mem_range.mp hi
      have hj := List.mem_range.mp hj
      have := hD _ _ (by omega) (by omega) e
      exact ne (by omega)
    · rintro k ρ p hd ⟨_, E, d', se, y4', y5', rfl, h0, h1, h2, h3⟩
      obtain ⟨rfl, hk⟩ := ran_nat hd
      have hl : E.length = k := by have := congrArg List.length h0; simpa using this
      refine ⟨_, rfl, ?_⟩
      obtain ⟨b, z, se2, d2, e2, o2, l2, s2, w2⟩ := task_turn h3 h2 (S := E.map (taskD (nm N 12))) (i := k) (y3 := y3) (y5 := y5') (y7 := y7) hN (by omega) (by rw [List.length_map]; omega)
      show W (s__law_tree_of_5 [.bor d', .val (.lst (N.map D.str)), .own (cD { c with se := se }), y3, .val (.int (k : Int)), y5', .own (.lst (E.map (taskD (nm N 12)))), y7, .un]) _
      rw [e2]
      refine ⟨hk, E ++ [(nm N (22 + k), z, b.2)], d2, se2, .val (.int (k : Int)), .val (.tup (dB b.1)), by rw [List.map_append]; rfl, by rw [List.map_append, h0, List.range_succ, List.map_append]; rfl, fun t ht => ?_, ?_, w2⟩
      · rcases List.mem_append.mp ht with ht | ht
        · exact h1 t ht
        · cases List.mem_singleton.mp ht
          exact ⟨nm_in (by omega), o2, l2⟩
      · exact ⟨h2.q3, h2.l3, h2.r6, h2.ch0, h2.ch3, h2.qN, h2.lN, h2.rN, h2.chN, h2.arN, h2.poN, h2.loN, h2.sbN, h2.sb4, s2⟩
  obtain ⟨fl, ρ, e, rfl, E, d', se, y4', y5', rfl, h1, h2, h4, h3⟩ := key.ok
  refine ⟨E, d', se, y4', y5', ?_, h1, h2, h4, h3⟩
  have ir := inR_nat (n := 1 + x) (by omega)
  rw [show ((1 + x : Nat) : Int) = 1 + (x : Int) by omega] at e ir
  clear key h1 h2 h3 h4 hw w1 hN hc hx hD
  generalize cD { c with se := se } = CD2 at *
  generalize cD c = CD at *
  generalize E.map (taskD (nm N 12)) = ED at *
  generalize N.map D.str = NL at *
  unfold q__law_tree_of_6
  walk_at "ev"
theorem chs_ok (hw : Wf d) (hc : Cok N C c) {y1 y3 y4 y5 y6 y7 : Sl} : ∃ (ch : List (Str × Int)) (d' : D), q__law_tree_of_8 [.bor d, y1, .own (cD c), y3, y4, y5, y6, y7, .un] = .ok .nx [.bor d', y1, .own (cD c), y3, y4, y5, y6, .val (.tup (ch.map chD)), .un] ∧ Wf d' := by
  have kch := k_ch (c := c)
  have hl := hc.ch3
  obtain ⟨acc, ρ', e2, hl2, ch, d2, r1, r2, w2⟩ := lcL_fold (is := [8]) (h := hOne) (c := cYes) (e := e__law_tree_of_7)
      (fun k acc ρ => ∃ (ch : List (Str × Int)) (d' : D), ρ = [.bor d', y1, .own (cD c), y3, y4, y5, y6, y7, .un] ∧ acc = ch.map chD ∧ Wf d') (c.ch.map D.str) (by rw [List.length_map, sizeLine_eq]; omega)
      (by
        rintro k acc ρ x hx ⟨ch, d', rfl, rfl, w'⟩
        rw [List.getElem?_map, Option.map_eq_some_iff] at hx
        obtain ⟨s, hs, rfl⟩ := hx
        obtain ⟨z, d3, e3, h3, w3⟩ := drawN w' 4 (by decide) (by decide)
        refine ⟨[.str s], [.bor d', y1, .own (cD c), y3, y4, y5, y6, y7, .val (.str s)], chD (s, (z : Int)), [.bor d3, y1, .own (cD c), y3, y4, y5, y6, y7, .val (.str s)], rfl, rfl, ?_, ch ++ [(s, (z : Int))], d3, rfl, by rw [List.map_append]; rfl, w3⟩
        have z2 : (2 : Nat) ≤ sizeLine := by rw [sizeLine_eq]; decide
        clear hs w' w3 h3 hc kch hl
        unfold chD
        dsimp only
        generalize cD c = CD at *
        unfold e__law_tree_of_7
        walk_at "evc") 0 [] [.bor d, y1, .own (cD c), y3, y4, y5, y6, y7, .un] (Nat.zero_le _) rfl ⟨[], d, rfl, rfl, hw⟩
  subst r1 r2
  rw [List.drop_zero] at e2
  refine ⟨ch, d2, ?_, w2⟩
  have na : noAdr [Sl.bor d, y1, .own (cD c), y3, y4, y5, y6, y7, .un] [8] = true := rfl
  clear w2 hw hc hl2 hl na
  generalize c.ch.map D.str = CH at *
  generalize ch.map chD = CC at *
  generalize cD c = CD at *
  unfold q__law_tree_of_8
  walk_at "ev"
theorem tree_ok (hw : Wf d) (hN : N.length = 25) (hD : ∀ i j, i < 25 → j < 25 → nm N i = nm N j → i = j) : ∃ (T : Tree) (d' : D), m__law_tree_of [.bor d, .val (.lst (N.map D.str))] = .ok (.v (treeD T)) [.bor d', .un] ∧ Tok N T ∧ Wf d' := by
  obtain ⟨c, d1, hc, hs, ⟨ha, hp, hlo⟩, e1, w1, d2, e2, w2⟩ := ctx_ok hw hN (y3 := .un) (y4 := .un) (y5 := .un) (y6 := .un) (y7 := .un) (y8 := .un)
  obtain ⟨S, d3, y4, y5, e3, s3, c3, w3⟩ := subs_ok w2 hN hc hs (y4 := .un) (y5 := .un) (y6 := .un) (y7 := .un)
  obtain ⟨E, d4, se, y4', y5', e4, E4, l4, hse, w4⟩ := tasks_ok w3 hN hD (Cok.it (b := true) c3) (y3 := .own (.lst (S.map subD))) (y4 := y4) (y5 := y5) (y7 := .un)
  have c5 := (Cok.it (b := true) c3)
  have c6 : Cok N (S.map (·.1)) { c with sb := S.map (·.1), it := true, se := se } := ⟨c5.q3, c5.l3, c5.r6, c5.ch0, c5.ch3, c5.qN, c5.lN, c5.rN, c5.chN, c5.arN, c5.poN, c5.loN, c5.sbN, c5.sb4, hse⟩
  obtain ⟨ch, d5, e5, w5⟩ := chs_ok w4 c6 (y1 := .val (.lst (N.map D.str))) (y3 := .own (.lst (S.map subD))) (y4 := y4') (y5 := y5') (y6 := .own (.lst (E.map (taskD (nm N 12))))) (y7 := .un)
  refine ⟨⟨nm N 13, nm N 14, nm N 12, ch, S, E⟩, d5, ?_, ⟨s3, E4, l4⟩, w5⟩
  have g12 : gGet (.lst (N.map D.str)) (.int 12) = some (.str (nm N 12)) := nm_at (i := 12) (by omega)
  have g13 : gGet (.lst (N.map D.str)) (.int 13) = some (.str (nm N 13)) := nm_at (i := 13) (by omega)
  have g14 : gGet (.lst (N.map D.str)) (.int 14) = some (.str (nm N 14)) := nm_at (i := 14) (by omega)
  have es := set_it (c := { c with sb := S.map (·.1) }) (x := true)
  have z0 : (0 : Nat) ≤ sizeLine := Nat.zero_le _
  unfold treeD
  dsimp only
  clear hw w1 w2 w3 w4 w5 hN hD hc hs ha hp hlo s3 c3 E4 l4 c5 c6 hse
  generalize cD { c with sb := S.map (·.1), it := true, se := se } = C4 at *
  generalize cD { c with sb := S.map (·.1), it := true } = C3 at *
  generalize cD { c with sb := S.map (·.1) } = C2 at *
  generalize cD c = C1 at *
  generalize cD0 c = C0 at *
  generalize S.map subD = SD at *
  generalize E.map (taskD (nm N 12)) = ED at *
  generalize ch.map chD = CC at *
  generalize N.map D.str = NL at *
  generalize nm N 12 = A1 at *
  generalize nm N 13 = A2 at *
  generalize nm N 14 = A3 at *
  unfold m__law_tree_of g__law_tree_of
  walk_at "evc"
end
end K08
namespace K08
open PySem PySem.Spec PyProof.Rows L2 L3
local macro_rules | `(tactic| walk_at "ev") => `(tactic| simp (config := {decide := true}) only [W_ok, bind_ok, thn_nx, thn_rt, thn_rn, thn_bk, thn_ct, cVar, cK, c1_e, c1_k, c2_e, c2_k, c2_k2, cB_e, cB_k, cAnd_e, cOr_e, cNot_e, cNot_k, cIte_e, iteK_t, iteK_f, iteK, okB, okV, cAndV_e, cOrV_e, cNotV_e, cNotV_k, cBv_e, aNil, aCons_e, aCons_k, aCons_k2, cTup_e, cTup_k, nLst_e, nLst_k, vN_e, vN_k, cN_e, cN_k, nN_e, nN_k, oNone, oSome_e, oSome_k, cSl_e, cSl_k, cSl_k2, cSl_k3, nSl_e, nSl_k, nSl_k2, nSl_k3, nCat_e, nCat_k, nCat_k2, sNil, sSeq, sFrz, sBrk, sCnt, sExp_e, sExp_k, sRet_e, sRet_k, sRetN_e, sRetN_k, sRetU, sIf_e, sSet_e, sSet_k, sSetN_e, sSetN_k, gSet, gsNil, gsCons_e, gsCons_k, nxK, gTupD, gLstD, sAsg_e, sAsg_k, sAug_e, sAug_k, iL_e, iL_k, iT_e, iT_k, iR1_e, iR1_k, iR2_e, iR2_k, iZ_e, iZ_k, iR3_e, iR3_k, cCh_e, cCh_k, cCh_k2, cCh_k3, nRan_e, nRan_k, r1F_e, r1F_k, r2F_e, r2F_k, r2F_k2, r3F_e, r3F_k, r3F_k2, r3F_k3, intP, sFor_e, run_e, runK_rt, runK_rn, runK_nx, fin, outs, cCall_e, cCall_k, cCall_k2, nCall_e, nCall_k, nCall_k2, callM, sls, lents, wbk, lk, pvD, pvDs, pvs, Sl.dat, Sl.put, gSubD_e, gSubD_k, cM_e, cM_k, cMr_e, cMr_k, cMr_k2, isTy_str, isTy_lst, cGet2_e, cGet2_k, cGet2_k2, cGet2_k3, isDic_d, iRv_e, iRv_k, get2_d, nDic0, cTru_e, cTru_k, tru_l, tru_t, emp_c, emp_n, nRevL_e, nRevL_k, iRvR_e, iRvR_k, anNew_e, anNew_k, anNew_k2, anCons_e, anCons_k, anCons_k2, cCallA_e, cCallA_k, cutA_ok, drop_l, drop_1, pNil, keyD, pCons_e, pCons_k, pCons_k2, pCons_k3, nDic_e, nDic_k, nLc_e, nLc_k, lcB_ok, unAll, backAll, noAdr, setAll, setAllF, List.map_cons, List.map_nil, hOne, cYes, List.all_cons, List.all_nil, Bool.and_true, Bool.true_and, Bool.and_self, Option.map_none, ofO, Rt.d, add_i, mns_i, mul_r, mul_l, div_i, mod_i, neg_i, lt_i, le_i, gt_i, ge_i, int_i, abs_i, len_l, len_t, get_l, get_t, toT_l, toT_t, eq_i, ne_i, eq_s, ne_s, rg_len, isN_non, isN_int, notN_non, notN_int, pow18, isi_int, isi_bool, max_ii, max_l, max_t, sum_l, sum_t, toL_l, toL_t, sl_l, sl_t, sg1, sg2, sg3, sg4, sg5, ss2, ss3, ss4, ss5, List.getElem?_cons_zero, List.getElem?_cons_succ, List.set_cons_zero, List.set_cons_succ, List.length_cons, List.length_nil, List.length_map, List.length_range, List.replicate, List.cons_append, List.nil_append, Option.bind_some, Option.map_some, Option.isSome_some, Option.bind_none, if_true, if_false, reduceIte, decide_eq_true_eq, Bool.false_eq_true, reduceCtorEq, decide_true, decide_false, Bool.not_true, Bool.not_false, *])
local macro_rules | `(tactic| walk_at "evc") => `(tactic| simp (config := {decide := true}) only [at0, at1, at2, at3, set0, set1, set2, ran0, ran1, ran2, ran3, maxI_one, maxI_cons, asI_nil, asI_cons, add_l, add_t, app_l, line_le, line_lt, forL_nil, forL_cons, forL_k, lp_nx, lp_ct, lp_bk, lp_rt, lp_rn, sub_ok, lcL_nil, lcL_cons, lcH_some, lcL_k, lcL_k2, L3.cutD, HT.sIx, List.take_succ_cons, List.take_zero, List.drop_succ_cons, List.drop_zero, List.sum_cons, List.sum_nil, Nat.reduceAdd, Int.reduceSub, Int.reduceAdd, int_lit, Int.reduceToNat, Nat.reduceSub, Nat.min_def, Nat.reduceLeDiff, Int.reduceLT, W_ok, bind_ok, thn_nx, thn_rt, thn_rn, thn_bk, thn_ct, cVar, cK, c1_e, c1_k, c2_e, c2_k, c2_k2, cB_e, cB_k, cAnd_e, cOr_e, cNot_e, cNot_k, cIte_e, iteK_t, iteK_f, iteK, okB, okV, cAndV_e, cOrV_e, cNotV_e, cNotV_k, cBv_e, aNil, aCons_e, aCons_k, aCons_k2, cTup_e, cTup_k, nLst_e, nLst_k, vN_e, vN_k, cN_e, cN_k, nN_e, nN_k, oNone, oSome_e, oSome_k, cSl_e, cSl_k, cSl_k2, cSl_k3, nSl_e, nSl_k, nSl_k2, nSl_k3, nCat_e, nCat_k, nCat_k2, sNil, sSeq, sFrz, sBrk, sCnt, sExp_e, sExp_k, sRet_e, sRet_k, sRetN_e, sRetN_k, sRetU, sIf_e, sSet_e, sSet_k, sSetN_e, sSetN_k, gSet, gsNil, gsCons_e, gsCons_k, nxK, gTupD, gLstD, sAsg_e, sAsg_k, sAug_e, sAug_k, iL_e, iL_k, iT_e, iT_k, iR1_e, iR1_k, iR2_e, iR2_k, iZ_e, iZ_k, iR3_e, iR3_k, cCh_e, cCh_k, cCh_k2, cCh_k3, nRan_e, nRan_k, r1F_e, r1F_k, r2F_e, r2F_k, r2F_k2, r3F_e, r3F_k, r3F_k2, r3F_k3, intP, sFor_e, run_e, runK_rt, runK_rn, runK_nx, fin, outs, cCall_e, cCall_k, cCall_k2, nCall_e, nCall_k, nCall_k2, callM, sls, lents, wbk, lk, pvD, pvDs, pvs, Sl.dat, Sl.put, gSubD_e, gSubD_k, cM_e, cM_k, cMr_e, cMr_k, cMr_k2, isTy_str, isTy_lst, cGet2_e, cGet2_k, cGet2_k2, cGet2_k3, isDic_d, iRv_e, iRv_k, get2_d, nDic0, cTru_e, cTru_k, tru_l, tru_t, emp_c, emp_n, nRevL_e, nRevL_k, iRvR_e, iRvR_k, anNew_e, anNew_k, anNew_k2, anCons_e, anCons_k, anCons_k2, cCallA_e, cCallA_k, cutA_ok, drop_l, drop_1, pNil, keyD, pCons_e, pCons_k, pCons_k2, pCons_k3, nDic_e, nDic_k, nLc_e, nLc_k, lcB_ok, unAll, backAll, noAdr, setAll, setAllF, List.map_cons, List.map_nil, hOne, cYes, List.all_cons, List.all_nil, Bool.and_true, Bool.true_and, Bool.and_self, Option.map_none, ofO, Rt.d, add_i, mns_i, mul_r, mul_l, div_i, mod_i, neg_i, lt_i, le_i, gt_i, ge_i, int_i, abs_i, len_l, len_t, get_l, get_t, toT_l, toT_t, eq_i, ne_i, eq_s, ne_s, rg_len, isN_non, isN_int, notN_non, notN_int, pow18, isi_int, isi_bool, max_ii, max_l, max_t, sum_l, sum_t, toL_l, toL_t, sl_l, sl_t, sg1, sg2, sg3, sg4, sg5, ss2, ss3, ss4, ss5, List.getElem?_cons_zero, List.getElem?_cons_succ, List.set_cons_zero, List.set_cons_succ, List.length_cons, List.length_nil, List.length_map, List.length_range, List.replicate, List.cons_append, List.nil_append, Option.bind_some, Option.map_some, Option.isSome_some, Option.bind_none, if_true, if_false, reduceIte, decide_eq_true_eq, Bool.false_eq_true, reduceCtorEq, decide_true, decide_false, Bool.not_true, Bool.not_false, *])
/-! ### membership -/
def opV : Op → V
  | .nm x => .str x
  | .no i => .int i
def opIs (x : Str) : Op → Bool
  | .nm y => decide (y = x)
  | .no _ => false
theorem fl_strs : ∀ l : List Str, flDs (l.map D.str) = some (l.map V.str)
  | [] => rfl
  | x :: r => by
    show (flD (.str x)).bind (fun v => (flDs (r.map D.str)).map (v :: ·)) = _
    rw [fl_strs r]; rfl
theorem fl_ops : ∀ l : List Op, flDs (l.map Op.d) = some (l.map opV)
  | [] => rfl
  | x :: r => by
    show (flD x.d).bind (fun v => (flDs (r.map Op.d)).map (v :: ·)) = _
    rw [fl_ops r]
    cases x <;> rfl
theorem beq_dec {a b : Str} : (a == b) = decide (a = b) := by
  by_cases h : a = b
  · subst h; simp
  · rw [decide_eq_false h]
    exact beq_eq_false_iff_ne.mpr h
theorem inV_strs (a : Op) (l : List Str) : inV (opV a) (l.map V.str) = l.any fun x => opIs x a := by
  induction l with
  | nil => rfl
  | cons x r ih =>
    have ih : inV (opV a) (r.map V.str) = _ := ih
    show (eqV (.str x) (opV a) || inV (opV a) (r.map V.str)) = _
    rw [ih, List.any_cons]
    cases a with
    | nm y =>
      show ((x == y) || _) = (decide (y = x) || _)
      rw [beq_dec]
      by_cases h : x = y
      · subst h; rfl
      · rw [decide_eq_false h, decide_eq_false (Ne.symm h)]
    | no i => rfl
theorem inV_ops (x : Str) (l : List Op) : inV (.str x) (l.map opV) = l.any (opIs x) := by
  induction l with
  | nil => rfl
  | cons a r ih =>
    have ih : inV (.str x) (r.map opV) = _ := ih
    show (eqV (opV a) (.str x) || inV (.str x) (r.map opV)) = _
    rw [ih, List.any_cons]
    cases a with
    | nm y =>
      show ((y == x) || _) = (decide (y = x) || _)
      rw [beq_dec]
    | no i => rfl
def sel (neg b : Bool) : Bool := if neg then !b else b
theorem in_l (neg : Bool) (a : Op) (l : List Str) : gInX neg a.d (.lst (l.map D.str)) = some (.bl (sel neg (l.any fun x => opIs x a))) := by
  have : gIn neg a.d (.lst (l.map D.str)) = some (.bl (sel neg (l.any fun x => opIs x a))) := by
    unfold gIn
    have e1 : flD a.d = some (opV a) := by cases a <;> rfl
    rw [e1]
    show ((flDs (l.map D.str)).map fun xs => D.bl (if neg = true then !inV (opV a) xs else inV (opV a) xs)) = _
    rw [fl_strs, Option.map_some, inV_strs]
    cases neg <;> rfl
  unfold gInX
  rw [this]
theorem in_t (neg : Bool) (a : Op) (l : List Str) : gInX neg a.d (.tup (l.map D.str)) = some (.bl (sel neg (l.any fun x => opIs x a))) := by
  have : gIn neg a.d (.tup (l.map D.str)) = some (.bl (sel neg (l.any fun x => opIs x a))) := by
    unfold gIn
    have e1 : flD a.d = some (opV a) := by cases a <;> rfl
    rw [e1]
    show ((flDs (l.map D.str)).map fun xs => D.bl (if neg = true then !inV (opV a) xs else inV (opV a) xs)) = _
    rw [fl_strs, Option.map_some, inV_strs]
    cases neg <;> rfl
  unfold gInX
  rw [this]
theorem in_o (x : Str) (l : List Op) : gInX false (.str x) (.tup (l.map Op.d)) = some (.bl (l.any (opIs x))) := by
  have : gIn false (.str x) (.tup (l.map Op.d)) = some (.bl (l.any (opIs x))) := by
    show ((flDs (l.map Op.d)).map fun xs => D.bl (if false = true then !inV (.str x) xs else inV (.str x) xs)) = _
    rw [fl_ops, Option.map_some, inV_ops]
    rfl
  unfold gInX
  rw [this]
theorem any_dec (x : Str) (l : List Str) : (l.any fun y => opIs y (.nm x)) = decide (x ∈ l) := by
  induction l with
  | nil => simp
  | cons y r ih =>
    rw [List.any_cons, ih]
    show (decide (x = y) || decide (x ∈ r)) = _
    by_cases h : x = y
    · subst h; simp
    · rw [decide_eq_false h, Bool.false_or]
      by_cases h2 : x ∈ r <;> simp [h, h2]
theorem in_ls (neg : Bool) (x : Str) (l : List Str) : gInX neg (.str x) (.lst (l.map D.str)) = some (.bl (sel neg (decide (x ∈ l)))) := by
  rw [← any_dec]; exact in_l neg (.nm x) l
theorem in_ts (neg : Bool) (x : Str) (l : List Str) : gInX neg (.str x) (.tup (l.map D.str)) = some (.bl (sel neg (decide (x ∈ l)))) := by
  rw [← any_dec]; exact in_t neg (.nm x) l
/-! ### parts of statements -/
def kd : Stm → Str
  | .set _ _ => "set"
  | .sum k _ _ _ => k.s
  | .take _ _ => "take"
  | .read _ _ => "read"
  | .send _ _ => "send"
  | .get _ _ _ => "get"
  | .put _ _ _ => "put"
  | .call _ => "call"
  | .ifs _ _ _ _ _ => "if"
  | .loop _ _ => "loop"
  | .hold _ _ => "hold"
def ops : Stm → List Op
  | .set _ a => [a]
  | .sum _ _ a b => [a, b]
  | .send _ a => [a]
  | .get _ _ a => [a]
  | .put _ a b => [a, b]
  | .ifs a _ b _ _ => [a, b]
  | _ => []
theorem g_0 (s : Stm) : gGet (dS s) (.int 0) = some (.str (kd s)) := by cases s <;> (rw [dS]; rfl)
theorem lh {x : Str} (h : x ≠ "loop") (h2 : x ≠ "hold") : gInX false (.str x) (.tup [.str "loop", .str "hold"]) = some (.bl false) := by
  have := in_ts false x ["loop", "hold"]
  rw [decide_eq_false (by simp [h, h2])] at this
  exact this
theorem lh1 : gInX false (.str "loop") (.tup [.str "loop", .str "hold"]) = some (.bl true) := by
  have := in_ts false "loop" ["loop", "hold"]
  rw [decide_eq_true (by simp)] at this
  exact this
theorem lh2 : gInX false (.str "hold") (.tup [.str "loop", .str "hold"]) = some (.bl true) := by
  have := in_ts false "hold" ["loop", "hold"]
  rw [decide_eq_true (by simp)] at this
  exact this
theorem bodies_plain {S : D} {k : Str} (h0 : gGet S (.int 0) = some (.str k)) (h1 : k ≠ "if") (h2 : k ≠ "loop") (h3 : k ≠ "hold") : m_bodies_of [.val S] = .ok (.v (.tup [])) [.un] := by
  have hl := lh h2 h3
  have h1 : ¬ k = "if" := h1
  have z0 : (0 : Nat) ≤ sizeLine := Nat.zero_le _
  clear h2 h3
  unfold m_bodies_of g_bodies_of
  walk_at "evc"
theorem bodies_ok (s : Stm) : m_bodies_of [.val (dS s)] = .ok (.v (.tup ((inn s).map fun p => .tup (dB p)))) [.un] := by
  have h0 := g_0 s
  have z1 : (1 : Nat) ≤ sizeLine := by rw [sizeLine_eq]; decide
  have z2 : (2 : Nat) ≤ sizeLine := by rw [sizeLine_eq]; decide
  cases s with
  | ifs a e b p q =>
    have g4 : gGet (dS (.ifs a e b p q)) (.int 4) = some (.tup (dB p)) := by rw [dS]; rfl
    have g5 : gGet (dS (.ifs a e b p q)) (.int 5) = some (.tup (dB q)) := by rw [dS]; rfl
    replace h0 : gGet (dS (.ifs a e b p q)) (.int 0) = some (.str "if") := h0
    generalize dS (.ifs a e b p q) = S at *
    unfold m_bodies_of g_bodies_of inn
    walk_at "evc"
  | loop n p =>
    have g2 : gGet (dS (.loop n p)) (.int 2) = some (.tup (dB p)) := by rw [dS]; rfl
    replace h0 : gGet (dS (.loop n p)) (.int 0) = some (.str "loop") := h0
    have := lh1
    generalize dS (.loop n p) = S at *
    unfold m_bodies_of g_bodies_of inn
    walk_at "evc"
  | hold n p =>
    have g2 : gGet (dS (.hold n p)) (.int 2) = some (.tup (dB p)) := by rw [dS]; rfl
    replace h0 : gGet (dS (.hold n p)) (.int 0) = some (.str "hold") := h0
    have := lh2
    generalize dS (.hold n p) = S at *
    unfold m_bodies_of g_bodies_of inn
    walk_at "evc"
  | sum k x a b => cases k <;> exact bodies_plain (g_0 _) (by simp only [kd, Sk.s]; decide) (by simp only [kd, Sk.s]; decide) (by simp only [kd, Sk.s]; decide)
  | _ => exact bodies_plain (g_0 _) (by simp only [kd]; decide) (by simp only [kd]; decide) (by simp only [kd]; decide)
/-! ### operands -/
theorem k_sums : k_SUMS = .tup ([("plus" : Str), "minus", "times"].map D.str) := rfl
theorem inSums {x : Str} : gInX false (.str x) k_SUMS = some (.bl (decide (x ∈ ([("plus" : Str), "minus", "times"])))) := by rw [k_sums]; exact in_ts false x _
theorem inSS {x : Str} : gInX false (.str x) (.tup [.str "set", .str "send"]) = some (.bl (decide (x ∈ ([("set" : Str), "send"])))) := in_ts false x ["set", "send"]
theorem operands_plain {S : D} {k : Str} (h0 : gGet S (.int 0) = some (.str k)) (u1 : gInX false (.str k) k_SUMS = some (.bl false)) (u2 : gInX false (.str k) (.tup [.str "set", .str "send"]) = some (.bl false)) (h1 : ¬ k = "get") (h2 : ¬ k = "put") (h3 : ¬ k = "if") : m_operands_of [.val S] = .ok (.v (.tup [])) [.un] := by
  have z0 : (0 : Nat) ≤ sizeLine := Nat.zero_le _
  unfold m_operands_of g_operands_of
  walk_at "evc"
theorem operands_ok (s : Stm) : m_operands_of [.val (dS s)] = .ok (.v (.tup ((ops s).map Op.d))) [.un] := by
  have h0 := g_0 s
  have z1 : (1 : Nat) ≤ sizeLine := by rw [sizeLine_eq]; decide
  have z2 : (2 : Nat) ≤ sizeLine := by rw [sizeLine_eq]; decide
  have z0 : (0 : Nat) ≤ sizeLine := Nat.zero_le _
  have f1 : ∀ x : Str, x ∉ [("plus" : Str), "minus", "times"] → gInX false (.str x) k_SUMS = some (.bl false) := fun x h => by rw [inSums, decide_eq_false h]
  have t1 : ∀ x : Str, x ∈ [("plus" : Str), "minus", "times"] → gInX false (.str x) k_SUMS = some (.bl true) := fun x h => by rw [inSums, decide_eq_true h]
  have f2 : ∀ x : Str, x ∉ [("set" : Str), "send"] → gInX false (.str x) (.tup [.str "set", .str "send"]) = some (.bl false) := fun x h => by rw [inSS, decide_eq_false h]
  have t2 : ∀ x : Str, x ∈ [("set" : Str), "send"] → gInX false (.str x) (.tup [.str "set", .str "send"]) = some (.bl true) := fun x h => by rw [inSS, decide_eq_true h]
  cases s with
  | set x a =>
    have g2 : gGet (dS (.set x a)) (.int 2) = some a.d := by rw [dS]; rfl
    replace h0 : gGet (dS (.set x a)) (.int 0) = some (.str "set") := h0
    have u1 := f1 "set" (by decide)
    have u2 := t2 "set" (by decide)
    clear f1 t1 f2 t2
    generalize dS (.set x a) = S at *
    unfold m_operands_of g_operands_of ops
    walk_at "evc"
  | send x a =>
    have g2 : gGet (dS (.send x a)) (.int 2) = some a.d := by rw [dS]; rfl
    replace h0 : gGet (dS (.send x a)) (.int 0) = some (.str "send") := h0
    have u1 := f1 "send" (by decide)
    have u2 := t2 "send" (by decide)
    clear f1 t1 f2 t2
    generalize dS (.send x a) = S at *
    unfold m_operands_of g_operands_of ops
    walk_at "evc"
  | get x v a =>
    have g3 : gGet (dS (.get x v a)) (.int 3) = some a.d := by rw [dS]; rfl
    replace h0 : gGet (dS (.get x v a)) (.int 0) = some (.str "get") := h0
    have u1 := f1 "get" (by decide)
    have u2 := f2 "get" (by decide)
    clear f1 t1 f2 t2
    generalize dS (.get x v a) = S at *
    unfold m_operands_of g_operands_of ops
    walk_at "evc"
  | put v a b =>
    have g2 : gGet (dS (.put v a b)) (.int 2) = some a.d := by rw [dS]; rfl
    have g3 : gGet (dS (.put v a b)) (.int 3) = some b.d := by rw [dS]; rfl
    replace h0 : gGet (dS (.put v a b)) (.int 0) = some (.str "put") := h0
    have u1 := f1 "put" (by decide)
    have u2 := f2 "put" (by decide)
    clear f1 t1 f2 t2
    generalize dS (.put v a b) = S at *
    unfold m_operands_of g_operands_of ops
    walk_at "evc"
  | ifs a e b p q =>
    have g2 : gGet (dS (.ifs a e b p q)) (.int 1) = some a.d := by rw [dS]; rfl
    have g3 : gGet (dS (.ifs a e b p q)) (.int 3) = some b.d := by rw [dS]; rfl
    replace h0 : gGet (dS (.ifs a e b p q)) (.int 0) = some (.str "if") := h0
    have u1 := f1 "if" (by decide)
    have u2 := f2 "if" (by decide)
    clear f1 t1 f2 t2
    generalize dS (.ifs a e b p q) = S at *
    unfold m_operands_of g_operands_of ops
    walk_at "evc"
  | sum k x a b =>
    have g2 : gGet (dS (.sum k x a b)) (.int 2) = some a.d := by rw [dS]; rfl
    have g3 : gGet (dS (.sum k x a b)) (.int 3) = some b.d := by rw [dS]; rfl
    replace h0 : gGet (dS (.sum k x a b)) (.int 0) = some (.str k.s) := h0
    have u1 := t1 k.s (by cases k <;> simp only [Sk.s] <;> decide)
    clear f1 t1 f2 t2
    generalize dS (.sum k x a b) = S at *
    generalize k.s = KS at *
    unfold m_operands_of g_operands_of ops
    walk_at "evc"
  | take x c => exact operands_plain (g_0 _) (f1 _ (by simp only [kd]; decide)) (f2 _ (by simp only [kd]; decide)) (by simp only [kd]; decide) (by simp only [kd]; decide) (by simp only [kd]; decide)
  | read x c => exact operands_plain (g_0 _) (f1 _ (by simp only [kd]; decide)) (f2 _ (by simp only [kd]; decide)) (by simp only [kd]; decide) (by simp only [kd]; decide) (by simp only [kd]; decide)
  | call x => exact operands_plain (g_0 _) (f1 _ (by simp only [kd]; decide)) (f2 _ (by simp only [kd]; decide)) (by simp only [kd]; decide) (by simp only [kd]; decide) (by simp only [kd]; decide)
  | loop n p => exact operands_plain (g_0 _) (f1 _ (by simp only [kd]; decide)) (f2 _ (by simp only [kd]; decide)) (by simp only [kd]; decide) (by simp only [kd]; decide) (by simp only [kd]; decide)
  | hold n p => exact operands_plain (g_0 _) (f1 _ (by simp only [kd]; decide)) (f2 _ (by simp only [kd]; decide)) (by simp only [kd]; decide) (by simp only [kd]; decide) (by simp only [kd]; decide)
end K08
namespace K08
open PySem PySem.Spec PyProof.Rows L2 L3
local macro_rules | `(tactic| walk_at "ev") => `(tactic| simp (config := {decide := true}) only [W_ok, bind_ok, thn_nx, thn_rt, thn_rn, thn_bk, thn_ct, cVar, cK, c1_e, c1_k, c2_e, c2_k, c2_k2, cB_e, cB_k, cAnd_e, cOr_e, cNot_e, cNot_k, cIte_e, iteK_t, iteK_f, iteK, okB, okV, cAndV_e, cOrV_e, cNotV_e, cNotV_k, cBv_e, aNil, aCons_e, aCons_k, aCons_k2, cTup_e, cTup_k, nLst_e, nLst_k, vN_e, vN_k, cN_e, cN_k, nN_e, nN_k, oNone, oSome_e, oSome_k, cSl_e, cSl_k, cSl_k2, cSl_k3, nSl_e, nSl_k, nSl_k2, nSl_k3, nCat_e, nCat_k, nCat_k2, sNil, sSeq, sFrz, sBrk, sCnt, sExp_e, sExp_k, sRet_e, sRet_k, sRetN_e, sRetN_k, sRetU, sIf_e, sSet_e, sSet_k, sSetN_e, sSetN_k, gSet, gsNil, gsCons_e, gsCons_k, nxK, gTupD, gLstD, sAsg_e, sAsg_k, sAug_e, sAug_k, iL_e, iL_k, iT_e, iT_k, iR1_e, iR1_k, iR2_e, iR2_k, iZ_e, iZ_k, iR3_e, iR3_k, cCh_e, cCh_k, cCh_k2, cCh_k3, nRan_e, nRan_k, r1F_e, r1F_k, r2F_e, r2F_k, r2F_k2, r3F_e, r3F_k, r3F_k2, r3F_k3, intP, sFor_e, run_e, runK_rt, runK_rn, runK_nx, fin, outs, cCall_e, cCall_k, cCall_k2, nCall_e, nCall_k, nCall_k2, callM, sls, lents, wbk, lk, pvD, pvDs, pvs, Sl.dat, Sl.put, gSubD_e, gSubD_k, cM_e, cM_k, cMr_e, cMr_k, cMr_k2, isTy_str, isTy_lst, cGet2_e, cGet2_k, cGet2_k2, cGet2_k3, isDic_d, iRv_e, iRv_k, get2_d, nDic0, cTru_e, cTru_k, tru_l, tru_t, emp_c, emp_n, nRevL_e, nRevL_k, iRvR_e, iRvR_k, anNew_e, anNew_k, anNew_k2, anCons_e, anCons_k, anCons_k2, cCallA_e, cCallA_k, cutA_ok, drop_l, drop_1, pNil, keyD, pCons_e, pCons_k, pCons_k2, pCons_k3, nDic_e, nDic_k, nLc_e, nLc_k, lcB_ok, unAll, backAll, noAdr, setAll, setAllF, List.map_cons, List.map_nil, hOne, cYes, List.all_cons, List.all_nil, Bool.and_true, Bool.true_and, Bool.and_self, Option.map_none, ofO, Rt.d, add_i, mns_i, mul_r, mul_l, div_i, mod_i, neg_i, lt_i, le_i, gt_i, ge_i, int_i, abs_i, len_l, len_t, get_l, get_t, toT_l, toT_t, eq_i, ne_i, eq_s, ne_s, rg_len, isN_non, isN_int, notN_non, notN_int, pow18, isi_int, isi_bool, max_ii, max_l, max_t, sum_l, sum_t, toL_l, toL_t, sl_l, sl_t, sg1, sg2, sg3, sg4, sg5, ss2, ss3, ss4, ss5, List.getElem?_cons_zero, List.getElem?_cons_succ, List.set_cons_zero, List.set_cons_succ, List.length_cons, List.length_nil, List.length_map, List.length_range, List.replicate, List.cons_append, List.nil_append, Option.bind_some, Option.map_some, Option.isSome_some, Option.bind_none, if_true, if_false, reduceIte, decide_eq_true_eq, Bool.false_eq_true, reduceCtorEq, decide_true, decide_false, Bool.not_true, Bool.not_false, *])
local macro_rules | `(tactic| walk_at "evc") => `(tactic| simp (config := {decide := true}) only [at0, at1, at2, at3, set0, set1, set2, ran0, ran1, ran2, ran3, maxI_one, maxI_cons, asI_nil, asI_cons, add_l, add_t, app_l, line_le, line_lt, forL_nil, forL_cons, forL_k, lp_nx, lp_ct, lp_bk, lp_rt, lp_rn, sub_ok, lcL_nil, lcL_cons, lcH_some, lcL_k, lcL_k2, L3.cutD, HT.sIx, List.take_succ_cons, List.take_zero, List.drop_succ_cons, List.drop_zero, List.sum_cons, List.sum_nil, Nat.reduceAdd, Int.reduceSub, Int.reduceAdd, int_lit, Int.reduceToNat, Nat.reduceSub, Nat.min_def, Nat.reduceLeDiff, Int.reduceLT, W_ok, bind_ok, thn_nx, thn_rt, thn_rn, thn_bk, thn_ct, cVar, cK, c1_e, c1_k, c2_e, c2_k, c2_k2, cB_e, cB_k, cAnd_e, cOr_e, cNot_e, cNot_k, cIte_e, iteK_t, iteK_f, iteK, okB, okV, cAndV_e, cOrV_e, cNotV_e, cNotV_k, cBv_e, aNil, aCons_e, aCons_k, aCons_k2, cTup_e, cTup_k, nLst_e, nLst_k, vN_e, vN_k, cN_e, cN_k, nN_e, nN_k, oNone, oSome_e, oSome_k, cSl_e, cSl_k, cSl_k2, cSl_k3, nSl_e, nSl_k, nSl_k2, nSl_k3, nCat_e, nCat_k, nCat_k2, sNil, sSeq, sFrz, sBrk, sCnt, sExp_e, sExp_k, sRet_e, sRet_k, sRetN_e, sRetN_k, sRetU, sIf_e, sSet_e, sSet_k, sSetN_e, sSetN_k, gSet, gsNil, gsCons_e, gsCons_k, nxK, gTupD, gLstD, sAsg_e, sAsg_k, sAug_e, sAug_k, iL_e, iL_k, iT_e, iT_k, iR1_e, iR1_k, iR2_e, iR2_k, iZ_e, iZ_k, iR3_e, iR3_k, cCh_e, cCh_k, cCh_k2, cCh_k3, nRan_e, nRan_k, r1F_e, r1F_k, r2F_e, r2F_k, r2F_k2, r3F_e, r3F_k, r3F_k2, r3F_k3, intP, sFor_e, run_e, runK_rt, runK_rn, runK_nx, fin, outs, cCall_e, cCall_k, cCall_k2, nCall_e, nCall_k, nCall_k2, callM, sls, lents, wbk, lk, pvD, pvDs, pvs, Sl.dat, Sl.put, gSubD_e, gSubD_k, cM_e, cM_k, cMr_e, cMr_k, cMr_k2, isTy_str, isTy_lst, cGet2_e, cGet2_k, cGet2_k2, cGet2_k3, isDic_d, iRv_e, iRv_k, get2_d, nDic0, cTru_e, cTru_k, tru_l, tru_t, emp_c, emp_n, nRevL_e, nRevL_k, iRvR_e, iRvR_k, anNew_e, anNew_k, anNew_k2, anCons_e, anCons_k, anCons_k2, cCallA_e, cCallA_k, cutA_ok, drop_l, drop_1, pNil, keyD, pCons_e, pCons_k, pCons_k2, pCons_k3, nDic_e, nDic_k, nLc_e, nLc_k, lcB_ok, unAll, backAll, noAdr, setAll, setAllF, List.map_cons, List.map_nil, hOne, cYes, List.all_cons, List.all_nil, Bool.and_true, Bool.true_and, Bool.and_self, Option.map_none, ofO, Rt.d, add_i, mns_i, mul_r, mul_l, div_i, mod_i, neg_i, lt_i, le_i, gt_i, ge_i, int_i, abs_i, len_l, len_t, get_l, get_t, toT_l, toT_t, eq_i, ne_i, eq_s, ne_s, rg_len, isN_non, isN_int, notN_non, notN_int, pow18, isi_int, isi_bool, max_ii, max_l, max_t, sum_l, sum_t, toL_l, toL_t, sl_l, sl_t, sg1, sg2, sg3, sg4, sg5, ss2, ss3, ss4, ss5, List.getElem?_cons_zero, List.getElem?_cons_succ, List.set_cons_zero, List.set_cons_succ, List.length_cons, List.length_nil, List.length_map, List.length_range, List.replicate, List.cons_append, List.nil_append, Option.bind_some, Option.map_some, Option.isSome_some, Option.bind_none, if_true, if_false, reduceIte, decide_eq_true_eq, Bool.false_eq_true, reduceCtorEq, decide_true, decide_false, Bool.not_true, Bool.not_false, *])
/-! ### all statements of a body -/
mutual
def flS : Stm → List Stm
  | .ifs a e b p q => .ifs a e b p q :: (flB p ++ flB q)
  | .loop n p => .loop n p :: flB p
  | .hold l p => .hold l p :: flB p
  | s => [s]
def flB : List Stm → List Stm
  | [] => []
  | s :: r => flS s ++ flB r
end
theorem flB_app : ∀ a b : List Stm, flB (a ++ b) = flB a ++ flB b
  | [], b => rfl
  | s :: r, b => by rw [List.cons_append, flB, flB, flB_app r b, List.append_assoc]
theorem flS_inn (s : Stm) : flS s = s :: flB (inn s).flatten := by
  cases s <;> simp [flS, inn, flB, flB_app]
theorem len_fl : ∀ b : List Stm, b.length ≤ (flB b).length
  | [] => Nat.zero_le _
  | s :: r => by
    have := len_fl r
    rw [flB, List.length_append, flS_inn]
    simp only [List.length_cons]; omega
def sz : Nat → Nat
  | 0 => 1
  | k + 1 => 1 + 4 * sz k
section
variable {N C : List Str}
theorem fl_sz : ∀ (k : Nat) (s : Stm), OkS N C k s → (flS s).length ≤ sz k
  | 0, s, h => by
    cases s <;> first | exact Nat.le_refl _ | (simp [OkS] at h; done)
  | k + 1, s, h => by
    have list : ∀ p : List Stm, OkB N C k p → (flB p).length ≤ p.length * sz k := by
      intro p
      induction p with
      | nil => intro _; simp [flB]
      | cons s r ih =>
        intro hp
        have h1 := fl_sz k s (hp s List.mem_cons_self)
        have h2 := ih fun x hx => hp x (List.mem_cons_of_mem _ hx)
        rw [flB, List.length_append, List.length_cons, Nat.add_mul, Nat.one_mul]
        omega
    have bound : ∀ p : List Stm, OkB N C k p → p.length ≤ 2 → (flB p).length ≤ 2 * sz k := fun p h1 h2 => Nat.le_trans (list p h1) (Nat.mul_le_mul_right _ h2)
    have pos : 0 < sz k := by cases k <;> simp [sz] <;> omega
    cases s with
    | ifs a e b p q =>
      simp only [OkS] at h
      have h1 := bound p h.2.2.2.2.1 h.2.2.1
      have h2 := bound q h.2.2.2.2.2 h.2.2.2.1
      simp only [flS, List.length_cons, List.length_append, sz]; omega
    | loop n p =>
      simp only [OkS] at h
      have h1 := bound p h.2.2 h.2.1
      simp only [flS, List.length_cons, sz]; omega
    | hold n p =>
      simp only [OkS] at h
      have h1 := bound p h.2.2 h.2.1
      simp only [flS, List.length_cons, sz]; omega
    | _ => simp only [flS, List.length_cons, List.length_nil, sz]; omega
theorem flB_sz {k : Nat} : ∀ {b : List Stm}, OkB N C k b → (flB b).length ≤ b.length * sz k
  | [], _ => by simp [flB]
  | s :: r, h => by
    have h1 := fl_sz k s (h s List.mem_cons_self)
    have h2 := flB_sz (b := r) fun x hx => h x (List.mem_cons_of_mem _ hx)
    rw [flB, List.length_append, List.length_cons, Nat.add_mul, Nat.one_mul]
    omega
end
theorem dB_rev (a : List Stm) : (dB a).reverse = dB a.reverse := by rw [dB_map, dB_map, List.map_reverse]
theorem ext_l {xs ys : List D} (h : xs.length + ys.length ≤ sizeLine) : gExtend (.lst xs) [.lst ys] = some (.non, .lst (xs ++ ys)) := by
  show (if xs.length + ys.length ≤ sizeLine then _ else _) = _
  rw [if_pos h]
theorem pop_any {xs : List D} {x : D} : gPop (.lst (xs ++ [x])) [] = some (x, .lst xs) := pop_l
theorem stat_turn {B : D} {F w : List D} {s : Stm} {y3 y4 : Sl} (hF : F.length ≤ 100000) (hW : w.length ≤ 100000) (hi : ∀ p ∈ inn s, p.length ≤ 1000) :
    ∃ y4', s_statements_of_2 [.val B, .own (.lst F), .own (.lst (w ++ [dS s])), y3, y4] = .ok .nx [.val B, .own (.lst (F ++ [dS s])), .own (.lst (w ++ dB (inn s).flatten.reverse)), .val (dS s), y4'] := by
  have hb := bodies_ok s
  have a1 : gAppend (.lst F) [dS s] = some (.non, .lst (F ++ [dS s])) := app_l (by rw [sizeLine_eq]; omega)
  have hp := pop_any (xs := w) (x := dS s)
  have hsl := sizeLine_eq
  match e : inn s, hi with
  | [], _ =>
    rw [e] at hb
    refine ⟨y4, ?_⟩
    rw [show dB ([] : List (List Stm)).flatten.reverse = [] from rfl, List.append_nil]
    replace hb : m_bodies_of [.val (dS s)] = .ok (.v (.tup [])) [.un] := hb
    generalize w ++ [dS s] = W1 at *
    generalize F ++ [dS s] = F1 at *
    generalize dS s = S at *
    clear e hi hF hW hsl
    unfold s_statements_of_2
    walk_at "evc"
    rfl
  | [p], hi =>
    rw [e] at hb
    have h1 := hi p (by simp)
    refine ⟨.val (.tup (dB p)), ?_⟩
    have e2 : dB [p].flatten.reverse = (dB p).reverse := by rw [dB_rev]; simp
    rw [e2]
    replace hb : m_bodies_of [.val (dS s)] = .ok (.v (.tup [.tup (dB p)])) [.un] := hb
    have x1 : gExtend (.lst w) [.lst (dB p).reverse] = some (.non, .lst (w ++ (dB p).reverse)) := ext_l (by rw [List.length_reverse, dB_len]; omega)
    have rv : ([.tup (dB p)] : List D).reverse = [.tup (dB p)] := rfl
    generalize w ++ [dS s] = W1 at *
    generalize F ++ [dS s] = F1 at *
    generalize w ++ (dB p).reverse = W2 at *
    generalize dB p = PD at *
    generalize dS s = S at *
    clear e hi hF hW hsl e2 h1
    unfold s_statements_of_2 s_statements_of_1
    walk_at "evc"
  | [p, q], hi =>
    rw [e] at hb
    have h1 := hi p (by simp)
    have h2 := hi q (by simp)
    refine ⟨.val (.tup (dB p)), ?_⟩
    have e2 : dB [p, q].flatten.reverse = (dB q).reverse ++ (dB p).reverse := by rw [dB_rev, dB_rev, ← dB_app]; simp
    rw [e2, ← List.append_assoc]
    replace hb : m_bodies_of [.val (dS s)] = .ok (.v (.tup [.tup (dB p), .tup (dB q)])) [.un] := hb
    have x1 : gExtend (.lst w) [.lst (dB q).reverse] = some (.non, .lst (w ++ (dB q).reverse)) := ext_l (by rw [List.length_reverse, dB_len]; omega)
    have x2 : gExtend (.lst (w ++ (dB q).reverse)) [.lst (dB p).reverse] = some (.non, .lst (w ++ (dB q).reverse ++ (dB p).reverse)) := ext_l (by rw [List.length_append, List.length_reverse, dB_len, List.length_reverse, dB_len]; omega)
    have rv : ([.tup (dB p), .tup (dB q)] : List D).reverse = [.tup (dB q), .tup (dB p)] := rfl
    generalize w ++ [dS s] = W1 at *
    generalize F ++ [dS s] = F1 at *
    generalize w ++ (dB q).reverse ++ (dB p).reverse = W3 at *
    generalize w ++ (dB q).reverse = W2 at *
    generalize dB p = PD at *
    generalize dB q = QD at *
    generalize dS s = S at *
    clear e hi hF hW hsl e2 h1 h2
    unfold s_statements_of_2 s_statements_of_1
    walk_at "evc"
  | p :: q :: r :: t, hi => cases s <;> simp [inn] at e
theorem whileN_s {c : En → Out Bool} {b : En → Out Fl} {n : Nat} {ρ : En} : whileN c b (n + 1) ρ = match c ρ with
    | .ok true ρ1 => match b ρ1 with
      | .ok .nx ρ2 => whileN c b n ρ2
      | .ok .ct ρ2 => whileN c b n ρ2
      | .ok .bk ρ2 => .ok .nx ρ2
      | o => o
    | .ok false ρ1 => .ok .nx ρ1
    | .exc e ρ1 => .exc e ρ1
    | .bad => .bad := rfl
theorem inn_le {N C : List Str} {k : Nat} {s : Stm} (h : OkS N C k s) {p : List Stm} (hp : p ∈ inn s) : p.length ≤ 1000 := by
  obtain ⟨j, _, _, h2⟩ := h.inn hp
  omega
theorem OkB.inn {N C : List Str} {k : Nat} {s : Stm} (h : OkS N C k s) : OkB N C k (inn s).flatten := fun x hx => by
  obtain ⟨p, hp, hx⟩ := List.mem_flatten.mp hx
  obtain ⟨j, rfl, hj, _⟩ := h.inn hp
  exact (hj x hx).up
section
variable {N C : List Str} {k : Nat}
theorem stat_loop {B : D} : ∀ (n : Nat) (F w : List Stm) (y3 y4 : Sl), OkB N C k w → (flB w).length < n → F.length + (flB w).length ≤ 100000 →
    ∃ y3' y4', whileN (cTru (cVar 2)) s_statements_of_2 n [.val B, .own (.lst (dB F)), .own (.lst (dB w.reverse)), y3, y4] = .ok .nx [.val B, .own (.lst (dB (F ++ flB w))), .own (.lst []), y3', y4']
  | 0, _, _, _, _, _, h, _ => absurd h (by omega)
  | n + 1, F, [], y3, y4, _, _, _ => by
    refine ⟨y3, y4, ?_⟩
    rw [whileN_s]
    have : cTru (cVar 2) [.val B, .own (.lst (dB F)), .own (.lst (dB ([] : List Stm).reverse)), y3, y4] = .ok false [.val B, .own (.lst (dB F)), .own (.lst []), y3, y4] := rfl
    rw [this, flB, List.append_nil]
  | n + 1, F, s :: r, y3, y4, ho, hn, hl => by
    rw [whileN_s]
    have e1 : dB (s :: r).reverse = dB r.reverse ++ [dS s] := by rw [List.reverse_cons, dB_app]; rfl
    have ef : flB (s :: r) = s :: flB ((inn s).flatten ++ r) := by rw [flB, flS_inn, flB_app]; rfl
    have c1 : cTru (cVar 2) [.val B, .own (.lst (dB F)), .own (.lst (dB r.reverse ++ [dS s])), y3, y4] = .ok true [.val B, .own (.lst (dB F)), .own (.lst (dB r.reverse ++ [dS s])), y3, y4] := by
      have : truD (.lst (dB r.reverse ++ [dS s])) = some true := by
        show some (!(dB r.reverse ++ [dS s]).isEmpty) = _
        cases dB r.reverse <;> rfl
      generalize dB r.reverse ++ [dS s] = W1 at *
      walk_at "ev"
    rw [e1, c1]
    dsimp only
    have hs := ho s List.mem_cons_self
    have hr : OkB N C k r := fun x hx => ho x (List.mem_cons_of_mem _ hx)
    rw [ef] at hn hl
    simp only [List.length_cons] at hn hl
    have hrl : r.length ≤ (flB ((inn s).flatten ++ r)).length := by
      have := len_fl ((inn s).flatten ++ r)
      rw [List.length_append] at this
      omega
    obtain ⟨y4', e2⟩ := stat_turn (B := B) (F := dB F) (w := dB r.reverse) (s := s) (y3 := y3) (y4 := y4) (by rw [dB_len]; omega) (by rw [dB_len, List.length_reverse]; omega) (fun p hp => inn_le hs hp)
    rw [e2]
    dsimp only
    have e3 : dB r.reverse ++ dB (inn s).flatten.reverse = dB ((inn s).flatten ++ r).reverse := by rw [List.reverse_append, dB_app]
    have e4 : dB F ++ [dS s] = dB (F ++ [s]) := by rw [dB_app]; rfl
    rw [e3, e4]
    obtain ⟨y3'', y4'', e5⟩ := stat_loop (B := B) n (F ++ [s]) ((inn s).flatten ++ r) (.val (dS s)) y4' (fun x hx => by
      rcases List.mem_append.mp hx with hx | hx
      · exact OkB.inn hs x hx
      · exact hr x hx) (by omega) (by rw [List.length_append]; simp only [List.length_singleton]; omega)
    refine ⟨y3'', y4'', ?_⟩
    rw [e5, ef, List.append_assoc]
    rfl
theorem statements_ok {b : List Stm} (ho : OkB N C k b) (hl : (flB b).length ≤ 90000) : m_statements_of [.val (.tup (dB b))] = .ok (.n (.lst (dB (flB b)))) [.un] := by
  obtain ⟨y3, y4, e⟩ := stat_loop (N := N) (C := C) (k := k) (B := .tup (dB b)) 100000 [] b .un .un ho (by omega) (by simp; omega)
  have e1 : dB b.reverse = (dB b).reverse := (dB_rev b).symm
  rw [e1, List.nil_append] at e
  have e0 : dB ([] : List Stm) = [] := rfl
  rw [e0] at e
  have z0 : (0 : Nat) ≤ sizeLine := Nat.zero_le _
  clear ho hl e1 e0
  generalize dB (flB b) = FB at *
  generalize dB b = DB at *
  unfold m_statements_of g_statements_of
  generalize whileN (cTru (cVar 2)) s_statements_of_2 100000 = WH at *
  walk_at "ev"
end
end K08
namespace K08
open PySem PySem.Spec PyProof.Rows L2 L3
local macro_rules | `(tactic| walk_at "ev") => `(tactic| simp (config := {decide := true}) only [W_ok, bind_ok, thn_nx, thn_rt, thn_rn, thn_bk, thn_ct, cVar, cK, c1_e, c1_k, c2_e, c2_k, c2_k2, cB_e, cB_k, cAnd_e, cOr_e, cNot_e, cNot_k, cIte_e, iteK_t, iteK_f, iteK, okB, okV, cAndV_e, cOrV_e, cNotV_e, cNotV_k, cBv_e, aNil, aCons_e, aCons_k, aCons_k2, cTup_e, cTup_k, nLst_e, nLst_k, vN_e, vN_k, cN_e, cN_k, nN_e, nN_k, oNone, oSome_e, oSome_k, cSl_e, cSl_k, cSl_k2, cSl_k3, nSl_e, nSl_k, nSl_k2, nSl_k3, nCat_e, nCat_k, nCat_k2, sNil, sSeq, sFrz, sBrk, sCnt, sExp_e, sExp_k, sRet_e, sRet_k, sRetN_e, sRetN_k, sRetU, sIf_e, sSet_e, sSet_k, sSetN_e, sSetN_k, gSet, gsNil, gsCons_e, gsCons_k, nxK, gTupD, gLstD, sAsg_e, sAsg_k, sAug_e, sAug_k, iL_e, iL_k, iT_e, iT_k, iR1_e, iR1_k, iR2_e, iR2_k, iZ_e, iZ_k, iR3_e, iR3_k, cCh_e, cCh_k, cCh_k2, cCh_k3, nRan_e, nRan_k, r1F_e, r1F_k, r2F_e, r2F_k, r2F_k2, r3F_e, r3F_k, r3F_k2, r3F_k3, intP, sFor_e, run_e, runK_rt, runK_rn, runK_nx, fin, outs, cCall_e, cCall_k, cCall_k2, nCall_e, nCall_k, nCall_k2, callM, sls, lents, wbk, lk, pvD, pvDs, pvs, Sl.dat, Sl.put, gSubD_e, gSubD_k, cM_e, cM_k, cMr_e, cMr_k, cMr_k2, isTy_str, isTy_lst, cGet2_e, cGet2_k, cGet2_k2, cGet2_k3, isDic_d, iRv_e, iRv_k, get2_d, nDic0, cTru_e, cTru_k, tru_l, tru_t, emp_c, emp_n, nRevL_e, nRevL_k, iRvR_e, iRvR_k, anNew_e, anNew_k, anNew_k2, anCons_e, anCons_k, anCons_k2, cCallA_e, cCallA_k, cutA_ok, drop_l, drop_1, pNil, keyD, pCons_e, pCons_k, pCons_k2, pCons_k3, nDic_e, nDic_k, nLc_e, nLc_k, lcB_ok, unAll, backAll, noAdr, setAll, setAllF, List.map_cons, List.map_nil, hOne, cYes, List.all_cons, List.all_nil, Bool.and_true, Bool.true_and, Bool.and_self, Option.map_none, ofO, Rt.d, add_i, mns_i, mul_r, mul_l, div_i, mod_i, neg_i, lt_i, le_i, gt_i, ge_i, int_i, abs_i, len_l, len_t, get_l, get_t, toT_l, toT_t, eq_i, ne_i, eq_s, ne_s, rg_len, isN_non, isN_int, notN_non, notN_int, pow18, isi_int, isi_bool, max_ii, max_l, max_t, sum_l, sum_t, toL_l, toL_t, sl_l, sl_t, sg1, sg2, sg3, sg4, sg5, ss2, ss3, ss4, ss5, List.getElem?_cons_zero, List.getElem?_cons_succ, List.set_cons_zero, List.set_cons_succ, List.length_cons, List.length_nil, List.length_map, List.length_range, List.replicate, List.cons_append, List.nil_append, Option.bind_some, Option.map_some, Option.isSome_some, Option.bind_none, if_true, if_false, reduceIte, decide_eq_true_eq, Bool.false_eq_true, reduceCtorEq, decide_true, decide_false, Bool.not_true, Bool.not_false, *])
local macro_rules | `(tactic| walk_at "evc") => `(tactic| simp (config := {decide := true}) only [at0, at1, at2, at3, set0, set1, set2, ran0, ran1, ran2, ran3, maxI_one, maxI_cons, asI_nil, asI_cons, add_l, add_t, app_l, line_le, line_lt, forL_nil, forL_cons, forL_k, lp_nx, lp_ct, lp_bk, lp_rt, lp_rn, sub_ok, lcL_nil, lcL_cons, lcH_some, lcL_k, lcL_k2, L3.cutD, HT.sIx, List.take_succ_cons, List.take_zero, List.drop_succ_cons, List.drop_zero, List.sum_cons, List.sum_nil, Nat.reduceAdd, Int.reduceSub, Int.reduceAdd, int_lit, Int.reduceToNat, Nat.reduceSub, Nat.min_def, Nat.reduceLeDiff, Int.reduceLT, W_ok, bind_ok, thn_nx, thn_rt, thn_rn, thn_bk, thn_ct, cVar, cK, c1_e, c1_k, c2_e, c2_k, c2_k2, cB_e, cB_k, cAnd_e, cOr_e, cNot_e, cNot_k, cIte_e, iteK_t, iteK_f, iteK, okB, okV, cAndV_e, cOrV_e, cNotV_e, cNotV_k, cBv_e, aNil, aCons_e, aCons_k, aCons_k2, cTup_e, cTup_k, nLst_e, nLst_k, vN_e, vN_k, cN_e, cN_k, nN_e, nN_k, oNone, oSome_e, oSome_k, cSl_e, cSl_k, cSl_k2, cSl_k3, nSl_e, nSl_k, nSl_k2, nSl_k3, nCat_e, nCat_k, nCat_k2, sNil, sSeq, sFrz, sBrk, sCnt, sExp_e, sExp_k, sRet_e, sRet_k, sRetN_e, sRetN_k, sRetU, sIf_e, sSet_e, sSet_k, sSetN_e, sSetN_k, gSet, gsNil, gsCons_e, gsCons_k, nxK, gTupD, gLstD, sAsg_e, sAsg_k, sAug_e, sAug_k, iL_e, iL_k, iT_e, iT_k, iR1_e, iR1_k, iR2_e, iR2_k, iZ_e, iZ_k, iR3_e, iR3_k, cCh_e, cCh_k, cCh_k2, cCh_k3, nRan_e, nRan_k, r1F_e, r1F_k, r2F_e, r2F_k, r2F_k2, r3F_e, r3F_k, r3F_k2, r3F_k3, intP, sFor_e, run_e, runK_rt, runK_rn, runK_nx, fin, outs, cCall_e, cCall_k, cCall_k2, nCall_e, nCall_k, nCall_k2, callM, sls, lents, wbk, lk, pvD, pvDs, pvs, Sl.dat, Sl.put, gSubD_e, gSubD_k, cM_e, cM_k, cMr_e, cMr_k, cMr_k2, isTy_str, isTy_lst, cGet2_e, cGet2_k, cGet2_k2, cGet2_k3, isDic_d, iRv_e, iRv_k, get2_d, nDic0, cTru_e, cTru_k, tru_l, tru_t, emp_c, emp_n, nRevL_e, nRevL_k, iRvR_e, iRvR_k, anNew_e, anNew_k, anNew_k2, anCons_e, anCons_k, anCons_k2, cCallA_e, cCallA_k, cutA_ok, drop_l, drop_1, pNil, keyD, pCons_e, pCons_k, pCons_k2, pCons_k3, nDic_e, nDic_k, nLc_e, nLc_k, lcB_ok, unAll, backAll, noAdr, setAll, setAllF, List.map_cons, List.map_nil, hOne, cYes, List.all_cons, List.all_nil, Bool.and_true, Bool.true_and, Bool.and_self, Option.map_none, ofO, Rt.d, add_i, mns_i, mul_r, mul_l, div_i, mod_i, neg_i, lt_i, le_i, gt_i, ge_i, int_i, abs_i, len_l, len_t, get_l, get_t, toT_l, toT_t, eq_i, ne_i, eq_s, ne_s, rg_len, isN_non, isN_int, notN_non, notN_int, pow18, isi_int, isi_bool, max_ii, max_l, max_t, sum_l, sum_t, toL_l, toL_t, sl_l, sl_t, sg1, sg2, sg3, sg4, sg5, ss2, ss3, ss4, ss5, List.getElem?_cons_zero, List.getElem?_cons_succ, List.set_cons_zero, List.set_cons_succ, List.length_cons, List.length_nil, List.length_map, List.length_range, List.replicate, List.cons_append, List.nil_append, Option.bind_some, Option.map_some, Option.isSome_some, Option.bind_none, if_true, if_false, reduceIte, decide_eq_true_eq, Bool.false_eq_true, reduceCtorEq, decide_true, decide_false, Bool.not_true, Bool.not_false, *])
abbrev Subs := List (Str × List Stm)
def look (S : Subs) (c : Str) : Option (List Stm) := (S.find? fun p => decide (p.1 = c)).map (·.2)
/-- the statements that a task reaches, in the order of the text -/
inductive Wk (S : Subs) : List Stm → List Str → List Stm → List Str → Prop where
  | nil {sn : List Str} : Wk S [] sn [] sn
  | step {s : Stm} {r o : List Stm} {sn sn' : List Str} (h : ∀ c, s = .call c → c ∈ sn) (w : Wk S r sn o sn') : Wk S (s :: r) sn (s :: o) sn'
  | call {c : Str} {b r o : List Stm} {sn sn' : List Str} (h : c ∉ sn) (e : look S c = some b) (w : Wk S (flB b ++ r) (sn ++ [c]) o sn') : Wk S (.call c :: r) sn (.call c :: o) sn'
theorem Wk.append {S : Subs} {l l2 o o2 : List Stm} {sn sn1 sn2 : List Str} (h : Wk S l sn o sn1) (h2 : Wk S l2 sn1 o2 sn2) : Wk S (l ++ l2) sn (o ++ o2) sn2 := by
  induction h with
  | nil => exact h2
  | step h w ih => exact .step h (ih h2)
  | call h e w ih => exact .call h e (by have := ih h2; rw [List.append_assoc] at this; exact this)
/-- names of subs that are not seen -/
def rem (S : Subs) (sn : List Str) : Nat := S.countP fun p => decide (p.1 ∉ sn)
theorem look_mem {S : Subs} {c : Str} {b : List Stm} (h : look S c = some b) : ∃ p ∈ S, p.1 = c ∧ p.2 = b := by
  unfold look at h
  rw [Option.map_eq_some_iff] at h
  obtain ⟨p, h1, h2⟩ := h
  exact ⟨p, List.mem_of_find?_eq_some h1, by simpa using List.find?_some h1, h2⟩
theorem look_of {S : Subs} {c : Str} (h : c ∈ S.map (·.1)) : ∃ b, look S c = some b := by
  unfold look
  obtain ⟨p, hp, e⟩ := List.mem_map.mp h
  cases q : S.find? fun p => decide (p.1 = c) with
  | none => exact absurd (decide_eq_true e) (by have := List.find?_eq_none.mp q p hp; simpa using this)
  | some p => exact ⟨p.2, rfl⟩
theorem rem_le {S : Subs} {sn sn' : List Str} (h : ∀ x ∈ sn, x ∈ sn') : rem S sn' ≤ rem S sn := by
  unfold rem
  exact List.countP_mono_left fun p _ q => decide_eq_true fun z => (of_decide_eq_true q) (h _ z)
theorem rem_lt {S : Subs} {sn : List Str} {c : Str} (h : c ∉ sn) (hc : c ∈ S.map (·.1)) : rem S (sn ++ [c]) + 1 ≤ rem S sn := by
  induction S with
  | nil => simp at hc
  | cons p r ih =>
    have mono : rem r (sn ++ [c]) ≤ rem r sn := rem_le fun x hx => List.mem_append.mpr (.inl hx)
    unfold rem at *
    rw [List.countP_cons, List.countP_cons]
    by_cases e : p.1 = c
    · have h1 : decide (p.1 ∉ sn) = true := decide_eq_true (by rw [e]; exact h)
      have h2 : decide (p.1 ∉ sn ++ [c]) = false := decide_eq_false fun z => z (by rw [e]; simp)
      rw [h1, h2]
      simp only [Bool.false_eq_true, if_false, if_true]
      omega
    · have hc' : c ∈ r.map (·.1) := by
        rw [List.map_cons] at hc
        rcases List.mem_cons.mp hc with hc | hc
        · exact absurd hc.symm e
        · exact hc
      have := ih hc'
      have eq : decide (p.1 ∉ sn ++ [c]) = decide (p.1 ∉ sn) := by
        by_cases h1 : p.1 ∈ sn
        · rw [decide_eq_false (p := p.1 ∉ sn ++ [c]) (fun z => z (List.mem_append.mpr (.inl h1))), decide_eq_false (p := p.1 ∉ sn) (fun z => z h1)]
        · rw [decide_eq_true h1, decide_eq_true]
          intro z
          rcases List.mem_append.mp z with z | z
          · exact h1 z
          · exact e (List.mem_singleton.mp z)
      rw [eq]
      omega
/-- .. and their number -/
theorem Wk.len {S : Subs} {M : Nat} (hS : ∀ p ∈ S, (flB p.2).length ≤ M) {l o : List Stm} {sn sn' : List Str} (h : Wk S l sn o sn') : o.length + rem S sn' * M ≤ l.length + rem S sn * M := by
  induction h with
  | nil => exact Nat.le_refl _
  | step h w ih => simp only [List.length_cons]; omega
  | @call c b r o sn sn' h e w ih =>
    obtain ⟨p, hp, e1, e2⟩ := look_mem e
    have hb := hS p hp
    rw [e2] at hb
    have hr := rem_lt (S := S) (sn := sn) (c := c) h (List.mem_map.mpr ⟨p, hp, e1⟩)
    have := Nat.mul_le_mul_right M hr
    rw [Nat.add_mul, Nat.one_mul] at this
    rw [List.length_append] at ih
    simp only [List.length_cons]
    omega
theorem Wk.sub {S : Subs} {l o : List Stm} {sn sn' : List Str} (h : Wk S l sn o sn') : ∀ x ∈ sn, x ∈ sn' := by
  induction h with
  | nil => exact fun x hx => hx
  | step h w ih => exact ih
  | call h e w ih => exact fun x hx => ih x (List.mem_append.mpr (.inl hx))
/-- what is walked is let -/
theorem Wk.all {S : Subs} {P : Stm → Prop} (hS : ∀ p ∈ S, ∀ s ∈ flB p.2, P s) {l o : List Stm} {sn sn' : List Str} (h : Wk S l sn o sn') : (∀ s ∈ l, P s) → ∀ s ∈ o, P s := by
  induction h with
  | nil => exact fun _ s hs => by cases hs
  | step h w ih => exact fun hl s hs => (List.mem_cons.mp hs).elim (fun e => e ▸ hl _ List.mem_cons_self) fun hs => ih (fun x hx => hl x (List.mem_cons_of_mem _ hx)) s hs
  | call h e w ih => exact fun hl s hs => (List.mem_cons.mp hs).elim (fun e => e ▸ hl _ List.mem_cons_self) fun hs => ih (fun x hx => by
      obtain ⟨p, hp, _, e2⟩ := look_mem e
      rcases List.mem_append.mp hx with hx | hx
      · exact hS p hp x (by rw [e2]; exact hx)
      · exact hl x (List.mem_cons_of_mem _ hx)) s hs
/-- the seen ones are the first list's -/
theorem Wk.fn {S : Subs} {l o o2 : List Stm} {sn s1 s2 : List Str} (h : Wk S l sn o s1) (h2 : Wk S l sn o2 s2) : o = o2 ∧ s1 = s2 := by
  induction h generalizing o2 s2 with
  | nil => cases h2; exact ⟨rfl, rfl⟩
  | step h w ih =>
    cases h2 with
    | step h' w' => obtain ⟨h1, h2⟩ := ih w'; exact ⟨by rw [h1], h2⟩
    | call h' e' w' => exact absurd (h _ rfl) h'
  | call h e w ih =>
    cases h2 with
    | step h' w' => exact absurd (h' _ rfl) h
    | call h' e' w' =>
      rw [e] at e'; cases e'
      obtain ⟨h1, h2⟩ := ih w'
      exact ⟨by rw [h1], h2⟩
/-! ### looking up -/
theorem find_split {α : Type} {p : α → Bool} : ∀ {l : List α} {a : α}, l.find? p = some a → ∃ l1 l2, l = l1 ++ a :: l2 ∧ p a = true ∧ ∀ x ∈ l1, p x = false
  | [], _, h => by simp at h
  | x :: r, a, h => by
    rw [List.find?_cons] at h
    cases e : p x with
    | true =>
      rw [e] at h; cases h
      exact ⟨[], r, rfl, e, fun _ h => by cases h⟩
    | false =>
      rw [e] at h
      obtain ⟨l1, l2, h1, h2, h3⟩ := find_split h
      exact ⟨x :: l1, l2, by rw [h1]; rfl, h2, fun y hy => (List.mem_cons.mp hy).elim (fun q => q ▸ e) (h3 y)⟩
theorem look_split {S : Subs} {c : Str} {b : List Stm} (h : look S c = some b) : ∃ S1 S2 n, S = S1 ++ (n, b) :: S2 ∧ n = c ∧ ∀ p ∈ S1, ¬ p.1 = c := by
  unfold look at h
  rw [Option.map_eq_some_iff] at h
  obtain ⟨p, h1, h2⟩ := h
  obtain ⟨l1, l2, e1, e2, e3⟩ := find_split h1
  exact ⟨l1, l2, p.1, by rw [e1, ← h2], of_decide_eq_true e2, fun q hq => of_decide_eq_false (e3 q hq)⟩
section
variable {S : Subs} {c : Str} {b : List Stm}
theorem values_ok (h : look S c = some b) : m__law_values [.val (.tup (S.map subD)), .val (.str c)] = .ok (.v (.tup (dB b))) [.un, .un] := by
  obtain ⟨S1, S2, n, e, hn, hne⟩ := look_split h
  have pass : ∀ (L1 : Subs) (r : List D) (T : D) (y2 : Sl), (∀ p ∈ L1, ¬ p.1 = c) → ∃ y2', forL (gSet 2) s__law_values_1 (L1.map subD ++ r) [.val T, .val (.str c), y2] = forL (gSet 2) s__law_values_1 r [.val T, .val (.str c), y2'] := by
    intro L1
    induction L1 with
    | nil => exact fun r T y2 _ => ⟨y2, rfl⟩
    | cons p L1 ih =>
      intro r T y2 hp
      obtain ⟨y2', e⟩ := ih r T (.val (subD p)) fun q hq => hp q (List.mem_cons_of_mem _ hq)
      refine ⟨y2', ?_⟩
      rw [List.map_cons, List.cons_append, forL_cons]
      have hc := hp p List.mem_cons_self
      have g0 : gGet (subD p) (.int 0) = some (.str p.1) := rfl
      have t1 : s__law_values_1 [.val T, .val (.str c), .val (subD p)] = .ok .nx [.val T, .val (.str c), .val (subD p)] := by
        clear e ih hp
        generalize subD p = SP at *
        unfold s__law_values_1
        walk_at "ev"
      show (s__law_values_1 [.val T, .val (.str c), .val (subD p)]).lp (forL (gSet 2) s__law_values_1 (L1.map subD ++ r)) = _
      rw [t1]
      exact e
  obtain ⟨y2', e2⟩ := pass S1 (subD (n, b) :: S2.map subD) (.tup (S.map subD)) .un hne
  have e3 : S.map subD = S1.map subD ++ subD (n, b) :: S2.map subD := by rw [e, List.map_append, List.map_cons]
  have t2 : forL (gSet 2) s__law_values_1 (subD (n, b) :: S2.map subD) [.val (.tup (S.map subD)), .val (.str c), y2'] = .ok (.rt (.tup (dB b))) [.val (.tup (S.map subD)), .val (.str c), .val (subD (n, b))] := by
    rw [forL_cons]
    have g0 : gGet (subD (n, b)) (.int 0) = some (.str n) := rfl
    have g1 : gGet (subD (n, b)) (.int 1) = some (.tup (dB b)) := rfl
    have t1 : s__law_values_1 [.val (.tup (S.map subD)), .val (.str c), .val (subD (n, b))] = .ok (.rt (.tup (dB b))) [.val (.tup (S.map subD)), .val (.str c), .val (subD (n, b))] := by
      clear e3 e2 pass hne e h
      subst hn
      generalize subD (n, b) = SP at *
      generalize S.map subD = SD at *
      unfold s__law_values_1
      walk_at "ev"
    show (s__law_values_1 [.val (.tup (S.map subD)), .val (.str c), .val (subD (n, b))]).lp _ = _
    rw [t1]; rfl
  have t3 : forL (gSet 2) s__law_values_1 (S.map subD) [.val (.tup (S.map subD)), .val (.str c), .un] = .ok (.rt (.tup (dB b))) [.val (.tup (S.map subD)), .val (.str c), .val (subD (n, b))] := by
    rw [← t2, ← e2, ← e3]
  clear t2 e2 e3 pass hne hn e h
  generalize S.map subD = SD at *
  generalize subD (n, b) = SP at *
  generalize dB b = DB at *
  unfold m__law_values g__law_values
  walk_at "ev"
theorem sub_body_ok {T : D} (h : look S c = some b) (hT : gGet T (.int 4) = some (.tup (S.map subD))) : m_sub_body [.val T, .val (.str c)] = .ok (.v (.tup (dB b))) [.un, .un] := by
  obtain ⟨S1, S2, n, e, hn, hne⟩ := look_split h
  have g : ∀ (p : Str × List Stm) (y2 y3 : Sl), gTupD 2 (gsCons (gSet 2) (gsCons (gSet 3) gsNil)) (subD p) [.val T, .val (.str c), y2, y3] = .ok () [.val T, .val (.str c), .val (.str p.1), .val (.tup (dB p.2))] := fun p y2 y3 => rfl
  have pass : ∀ (L1 : Subs) (r : List D) (y2 y3 : Sl), (∀ p ∈ L1, ¬ p.1 = c) → ∃ y2' y3', forL (gTupD 2 (gsCons (gSet 2) (gsCons (gSet 3) gsNil))) s_sub_body_1 (L1.map subD ++ r) [.val T, .val (.str c), y2, y3] = forL (gTupD 2 (gsCons (gSet 2) (gsCons (gSet 3) gsNil))) s_sub_body_1 r [.val T, .val (.str c), y2', y3'] := by
    intro L1
    induction L1 with
    | nil => exact fun r y2 y3 _ => ⟨y2, y3, rfl⟩
    | cons p L1 ih =>
      intro r y2 y3 hp
      obtain ⟨y2', y3', e⟩ := ih r (.val (.str p.1)) (.val (.tup (dB p.2))) fun q hq => hp q (List.mem_cons_of_mem _ hq)
      refine ⟨y2', y3', ?_⟩
      rw [List.map_cons, List.cons_append, forL_cons, g]
      have hc := hp p List.mem_cons_self
      have t1 : s_sub_body_1 [.val T, .val (.str c), .val (.str p.1), .val (.tup (dB p.2))] = .ok .nx [.val T, .val (.str c), .val (.str p.1), .val (.tup (dB p.2))] := by
        clear e ih hp g hT
        generalize dB p.2 = SP at *
        unfold s_sub_body_1
        walk_at "ev"
      show (s_sub_body_1 [.val T, .val (.str c), .val (.str p.1), .val (.tup (dB p.2))]).lp _ = _
      rw [t1]
      exact e
  obtain ⟨y2', y3', e2⟩ := pass S1 (subD (n, b) :: S2.map subD) .un .un hne
  have e3 : S.map subD = S1.map subD ++ subD (n, b) :: S2.map subD := by rw [e, List.map_append, List.map_cons]
  have t2 : forL (gTupD 2 (gsCons (gSet 2) (gsCons (gSet 3) gsNil))) s_sub_body_1 (subD (n, b) :: S2.map subD) [.val T, .val (.str c), y2', y3'] = .ok (.rt (.tup (dB b))) [.val T, .val (.str c), .val (.str n), .val (.tup (dB b))] := by
    rw [forL_cons, g]
    have t1 : s_sub_body_1 [.val T, .val (.str c), .val (.str n), .val (.tup (dB b))] = .ok (.rt (.tup (dB b))) [.val T, .val (.str c), .val (.str n), .val (.tup (dB b))] := by
      clear e3 e2 pass hne e h g hT
      subst hn
      generalize dB b = DB at *
      unfold s_sub_body_1
      walk_at "ev"
    show (s_sub_body_1 [.val T, .val (.str c), .val (.str n), .val (.tup (dB b))]).lp _ = _
    rw [t1]; rfl
  have t3 : forL (gTupD 2 (gsCons (gSet 2) (gsCons (gSet 3) gsNil))) s_sub_body_1 (S.map subD) [.val T, .val (.str c), .un, .un] = .ok (.rt (.tup (dB b))) [.val T, .val (.str c), .val (.str n), .val (.tup (dB b))] := by
    rw [← t2, ← e2, ← e3]
  clear t2 e2 e3 pass hne hn e h g
  generalize S.map subD = SD at *
  generalize dB b = DB at *
  unfold m_sub_body g_sub_body
  walk_at "ev"
theorem task_body_ok {T : D} {ar : Str} {E : List (Str × Int × List Stm)} {t : Str × Int × List Stm} (hE : (E.map (·.1)).Nodup) (ht : t ∈ E) (hT : gGet T (.int 5) = some (.tup (E.map (taskD ar)))) : m_task_body [.val T, .val (.str t.1)] = .ok (.v (.tup (dB t.2.2))) [.un, .un] := by
  obtain ⟨E1, E2, e⟩ := List.append_of_mem ht
  have hne : ∀ p ∈ E1, ¬ p.1 = t.1 := fun p hp z => by
    rw [e, List.map_append, List.map_cons] at hE
    have := (List.nodup_append.mp hE).2.2
    exact this p.1 (List.mem_map.mpr ⟨p, hp, rfl⟩) t.1 List.mem_cons_self z
  have g : ∀ (p : Str × Int × List Stm) (y2 y3 y4 : Sl), gTupD 3 (gsCons (gSet 2) (gsCons (gSet 3) (gsCons (gSet 4) gsNil))) (taskD ar p) [.val T, .val (.str t.1), y2, y3, y4] = .ok () [.val T, .val (.str t.1), .val (.str p.1), .val (.tup [.tup [.str ar, .int p.2.1]]), .val (.tup (dB p.2.2))] := fun p y2 y3 y4 => rfl
  have pass : ∀ (L1 : List (Str × Int × List Stm)) (r : List D) (y2 y3 y4 : Sl), (∀ p ∈ L1, ¬ p.1 = t.1) → ∃ y2' y3' y4', forL (gTupD 3 (gsCons (gSet 2) (gsCons (gSet 3) (gsCons (gSet 4) gsNil)))) s_task_body_1 (L1.map (taskD ar) ++ r) [.val T, .val (.str t.1), y2, y3, y4] = forL (gTupD 3 (gsCons (gSet 2) (gsCons (gSet 3) (gsCons (gSet 4) gsNil)))) s_task_body_1 r [.val T, .val (.str t.1), y2', y3', y4'] := by
    intro L1
    induction L1 with
    | nil => exact fun r y2 y3 y4 _ => ⟨y2, y3, y4, rfl⟩
    | cons p L1 ih =>
      intro r y2 y3 y4 hp
      obtain ⟨y2', y3', y4', e⟩ := ih r (.val (.str p.1)) (.val (.tup [.tup [.str ar, .int p.2.1]])) (.val (.tup (dB p.2.2))) fun q hq => hp q (List.mem_cons_of_mem _ hq)
      refine ⟨y2', y3', y4', ?_⟩
      rw [List.map_cons, List.cons_append, forL_cons, g]
      have hc := hp p List.mem_cons_self
      have t1 : s_task_body_1 [.val T, .val (.str t.1), .val (.str p.1), .val (.tup [.tup [.str ar, .int p.2.1]]), .val (.tup (dB p.2.2))] = .ok .nx [.val T, .val (.str t.1), .val (.str p.1), .val (.tup [.tup [.str ar, .int p.2.1]]), .val (.tup (dB p.2.2))] := by
        clear e ih hp g hT hne hE ht
        generalize dB p.2.2 = SP at *
        unfold s_task_body_1
        walk_at "ev"
      show (s_task_body_1 [.val T, .val (.str t.1), .val (.str p.1), .val (.tup [.tup [.str ar, .int p.2.1]]), .val (.tup (dB p.2.2))]).lp _ = _
      rw [t1]
      exact e
  obtain ⟨y2', y3', y4', e2⟩ := pass E1 (taskD ar t :: E2.map (taskD ar)) .un .un .un hne
  have e3 : E.map (taskD ar) = E1.map (taskD ar) ++ taskD ar t :: E2.map (taskD ar) := by rw [e, List.map_append, List.map_cons]
  have t2 : forL (gTupD 3 (gsCons (gSet 2) (gsCons (gSet 3) (gsCons (gSet 4) gsNil)))) s_task_body_1 (taskD ar t :: E2.map (taskD ar)) [.val T, .val (.str t.1), y2', y3', y4'] = .ok (.rt (.tup (dB t.2.2))) [.val T, .val (.str t.1), .val (.str t.1), .val (.tup [.tup [.str ar, .int t.2.1]]), .val (.tup (dB t.2.2))] := by
    rw [forL_cons, g]
    have t1 : s_task_body_1 [.val T, .val (.str t.1), .val (.str t.1), .val (.tup [.tup [.str ar, .int t.2.1]]), .val (.tup (dB t.2.2))] = .ok (.rt (.tup (dB t.2.2))) [.val T, .val (.str t.1), .val (.str t.1), .val (.tup [.tup [.str ar, .int t.2.1]]), .val (.tup (dB t.2.2))] := by
      clear e3 e2 pass hne e g hT hE ht
      generalize dB t.2.2 = DB at *
      unfold s_task_body_1
      walk_at "ev"
    show (s_task_body_1 [.val T, .val (.str t.1), .val (.str t.1), .val (.tup [.tup [.str ar, .int t.2.1]]), .val (.tup (dB t.2.2))]).lp _ = _
    rw [t1]; rfl
  have t3 : forL (gTupD 3 (gsCons (gSet 2) (gsCons (gSet 3) (gsCons (gSet 4) gsNil)))) s_task_body_1 (E.map (taskD ar)) [.val T, .val (.str t.1), .un, .un, .un] = .ok (.rt (.tup (dB t.2.2))) [.val T, .val (.str t.1), .val (.str t.1), .val (.tup [.tup [.str ar, .int t.2.1]]), .val (.tup (dB t.2.2))] := by
    rw [← t2, ← e2, ← e3]
  clear t2 e2 e3 pass hne e g hE ht
  generalize E.map (taskD ar) = SD at *
  generalize dB t.2.2 = DB at *
  unfold m_task_body g_task_body
  walk_at "ev"
end
end K08
namespace K08
open PySem PySem.Spec PyProof.Rows L2 L3
local macro_rules | `(tactic| walk_at "ev") => `(tactic| simp (config := {decide := true}) only [W_ok, bind_ok, thn_nx, thn_rt, thn_rn, thn_bk, thn_ct, cVar, cK, c1_e, c1_k, c2_e, c2_k, c2_k2, cB_e, cB_k, cAnd_e, cOr_e, cNot_e, cNot_k, cIte_e, iteK_t, iteK_f, iteK, okB, okV, cAndV_e, cOrV_e, cNotV_e, cNotV_k, cBv_e, aNil, aCons_e, aCons_k, aCons_k2, cTup_e, cTup_k, nLst_e, nLst_k, vN_e, vN_k, cN_e, cN_k, nN_e, nN_k, oNone, oSome_e, oSome_k, cSl_e, cSl_k, cSl_k2, cSl_k3, nSl_e, nSl_k, nSl_k2, nSl_k3, nCat_e, nCat_k, nCat_k2, sNil, sSeq, sFrz, sBrk, sCnt, sExp_e, sExp_k, sRet_e, sRet_k, sRetN_e, sRetN_k, sRetU, sIf_e, sSet_e, sSet_k, sSetN_e, sSetN_k, gSet, gsNil, gsCons_e, gsCons_k, nxK, gTupD, gLstD, sAsg_e, sAsg_k, sAug_e, sAug_k, iL_e, iL_k, iT_e, iT_k, iR1_e, iR1_k, iR2_e, iR2_k, iZ_e, iZ_k, iR3_e, iR3_k, cCh_e, cCh_k, cCh_k2, cCh_k3, nRan_e, nRan_k, r1F_e, r1F_k, r2F_e, r2F_k, r2F_k2, r3F_e, r3F_k, r3F_k2, r3F_k3, intP, sFor_e, run_e, runK_rt, runK_rn, runK_nx, fin, outs, cCall_e, cCall_k, cCall_k2, nCall_e, nCall_k, nCall_k2, callM, sls, lents, wbk, lk, pvD, pvDs, pvs, Sl.dat, Sl.put, gSubD_e, gSubD_k, cM_e, cM_k, cMr_e, cMr_k, cMr_k2, isTy_str, isTy_lst, cGet2_e, cGet2_k, cGet2_k2, cGet2_k3, isDic_d, iRv_e, iRv_k, get2_d, nDic0, cTru_e, cTru_k, tru_l, tru_t, emp_c, emp_n, nRevL_e, nRevL_k, iRvR_e, iRvR_k, anNew_e, anNew_k, anNew_k2, anCons_e, anCons_k, anCons_k2, cCallA_e, cCallA_k, cutA_ok, drop_l, drop_1, pNil, keyD, pCons_e, pCons_k, pCons_k2, pCons_k3, nDic_e, nDic_k, nLc_e, nLc_k, lcB_ok, unAll, backAll, noAdr, setAll, setAllF, List.map_cons, List.map_nil, hOne, cYes, List.all_cons, List.all_nil, Bool.and_true, Bool.true_and, Bool.and_self, Option.map_none, ofO, Rt.d, add_i, mns_i, mul_r, mul_l, div_i, mod_i, neg_i, lt_i, le_i, gt_i, ge_i, int_i, abs_i, len_l, len_t, get_l, get_t, toT_l, toT_t, eq_i, ne_i, eq_s, ne_s, rg_len, isN_non, isN_int, notN_non, notN_int, pow18, isi_int, isi_bool, max_ii, max_l, max_t, sum_l, sum_t, toL_l, toL_t, sl_l, sl_t, sg1, sg2, sg3, sg4, sg5, ss2, ss3, ss4, ss5, List.getElem?_cons_zero, List.getElem?_cons_succ, List.set_cons_zero, List.set_cons_succ, List.length_cons, List.length_nil, List.length_map, List.length_range, List.replicate, List.cons_append, List.nil_append, Option.bind_some, Option.map_some, Option.isSome_some, Option.bind_none, if_true, if_false, reduceIte, decide_eq_true_eq, Bool.false_eq_true, reduceCtorEq, decide_true, decide_false, Bool.not_true, Bool.not_false, *])
local macro_rules | `(tactic| walk_at "evc") => `(tactic| simp (config := {decide := true}) only [at0, at1, at2, at3, set0, set1, set2, ran0, ran1, ran2, ran3, maxI_one, maxI_cons, asI_nil, asI_cons, add_l, add_t, app_l, line_le, line_lt, forL_nil, forL_cons, forL_k, lp_nx, lp_ct, lp_bk, lp_rt, lp_rn, sub_ok, lcL_nil, lcL_cons, lcH_some, lcL_k, lcL_k2, L3.cutD, HT.sIx, List.take_succ_cons, List.take_zero, List.drop_succ_cons, List.drop_zero, List.sum_cons, List.sum_nil, Nat.reduceAdd, Int.reduceSub, Int.reduceAdd, int_lit, Int.reduceToNat, Nat.reduceSub, Nat.min_def, Nat.reduceLeDiff, Int.reduceLT, W_ok, bind_ok, thn_nx, thn_rt, thn_rn, thn_bk, thn_ct, cVar, cK, c1_e, c1_k, c2_e, c2_k, c2_k2, cB_e, cB_k, cAnd_e, cOr_e, cNot_e, cNot_k, cIte_e, iteK_t, iteK_f, iteK, okB, okV, cAndV_e, cOrV_e, cNotV_e, cNotV_k, cBv_e, aNil, aCons_e, aCons_k, aCons_k2, cTup_e, cTup_k, nLst_e, nLst_k, vN_e, vN_k, cN_e, cN_k, nN_e, nN_k, oNone, oSome_e, oSome_k, cSl_e, cSl_k, cSl_k2, cSl_k3, nSl_e, nSl_k, nSl_k2, nSl_k3, nCat_e, nCat_k, nCat_k2, sNil, sSeq, sFrz, sBrk, sCnt, sExp_e, sExp_k, sRet_e, sRet_k, sRetN_e, sRetN_k, sRetU, sIf_e, sSet_e, sSet_k, sSetN_e, sSetN_k, gSet, gsNil, gsCons_e, gsCons_k, nxK, gTupD, gLstD, sAsg_e, sAsg_k, sAug_e, sAug_k, iL_e, iL_k, iT_e, iT_k, iR1_e, iR1_k, iR2_e, iR2_k, iZ_e, iZ_k, iR3_e, iR3_k, cCh_e, cCh_k, cCh_k2, cCh_k3, nRan_e, nRan_k, r1F_e, r1F_k, r2F_e, r2F_k, r2F_k2, r3F_e, r3F_k, r3F_k2, r3F_k3, intP, sFor_e, run_e, runK_rt, runK_rn, runK_nx, fin, outs, cCall_e, cCall_k, cCall_k2, nCall_e, nCall_k, nCall_k2, callM, sls, lents, wbk, lk, pvD, pvDs, pvs, Sl.dat, Sl.put, gSubD_e, gSubD_k, cM_e, cM_k, cMr_e, cMr_k, cMr_k2, isTy_str, isTy_lst, cGet2_e, cGet2_k, cGet2_k2, cGet2_k3, isDic_d, iRv_e, iRv_k, get2_d, nDic0, cTru_e, cTru_k, tru_l, tru_t, emp_c, emp_n, nRevL_e, nRevL_k, iRvR_e, iRvR_k, anNew_e, anNew_k, anNew_k2, anCons_e, anCons_k, anCons_k2, cCallA_e, cCallA_k, cutA_ok, drop_l, drop_1, pNil, keyD, pCons_e, pCons_k, pCons_k2, pCons_k3, nDic_e, nDic_k, nLc_e, nLc_k, lcB_ok, unAll, backAll, noAdr, setAll, setAllF, List.map_cons, List.map_nil, hOne, cYes, List.all_cons, List.all_nil, Bool.and_true, Bool.true_and, Bool.and_self, Option.map_none, ofO, Rt.d, add_i, mns_i, mul_r, mul_l, div_i, mod_i, neg_i, lt_i, le_i, gt_i, ge_i, int_i, abs_i, len_l, len_t, get_l, get_t, toT_l, toT_t, eq_i, ne_i, eq_s, ne_s, rg_len, isN_non, isN_int, notN_non, notN_int, pow18, isi_int, isi_bool, max_ii, max_l, max_t, sum_l, sum_t, toL_l, toL_t, sl_l, sl_t, sg1, sg2, sg3, sg4, sg5, ss2, ss3, ss4, ss5, List.getElem?_cons_zero, List.getElem?_cons_succ, List.set_cons_zero, List.set_cons_succ, List.length_cons, List.length_nil, List.length_map, List.length_range, List.replicate, List.cons_append, List.nil_append, Option.bind_some, Option.map_some, Option.isSome_some, Option.bind_none, if_true, if_false, reduceIte, decide_eq_true_eq, Bool.false_eq_true, reduceCtorEq, decide_true, decide_false, Bool.not_true, Bool.not_false, *])
theorem kd_call {s : Stm} (h : kd s = "call") : ∃ c, s = .call c := by
  cases s with
  | call c => exact ⟨c, rfl⟩
  | sum k x a b => cases k <;> (simp only [kd, Sk.s] at h; exact absurd h (by decide))
  | _ => simp only [kd] at h; exact absurd h (by decide)
theorem Wk.le {S : Subs} {l o : List Stm} {sn sn' : List Str} (h : Wk S l sn o sn') : l.length ≤ o.length := by
  induction h with
  | nil => exact Nat.le_refl _
  | step h w ih => simp only [List.length_cons]; omega
  | call h e w ih => rw [List.length_append] at ih; simp only [List.length_cons]; omega
theorem notin_t {c : Str} {sn : List Str} (h : c ∈ sn) : gInX true (.str c) (.lst (sn.map D.str)) = some (.bl false) := by
  rw [in_ls, decide_eq_true h]; rfl
theorem notin_f {c : Str} {sn : List Str} (h : c ∉ sn) : gInX true (.str c) (.lst (sn.map D.str)) = some (.bl true) := by
  rw [in_ls, decide_eq_false h]; rfl
section
variable {S : Subs} {N C : List Str} {T : D}
theorem wo_loop {tk B : D} (hS : ∀ p ∈ S, OkB N C 3 p.2 ∧ (flB p.2).length ≤ 90000) (hT : gGet T (.int 4) = some (.tup (S.map subD))) {l o : List Stm} {sn sn' : List Str} (h : Wk S l sn o sn') :
    ∀ (n : Nat) (F : List Stm) (y6 : Sl), o.length < n → F.length + o.length ≤ 100000 → sn.length + o.length ≤ 100000 →
    ∃ y6', whileN (cTru (cVar 5)) s_walk_of_1 n [.val T, .val tk, .val B, .own (.lst (dB F)), .own (.lst (sn.map D.str)), .own (.lst (dB l.reverse)), y6] = .ok .nx [.val T, .val tk, .val B, .own (.lst (dB (F ++ o))), .own (.lst (sn'.map D.str)), .own (.lst []), y6'] := by
  have tru : ∀ (s : Stm) (r F : List Stm) (sn : List Str) (y6 : Sl), cTru (cVar 5) [.val T, .val tk, .val B, .own (.lst (dB F)), .own (.lst (sn.map D.str)), .own (.lst (dB r.reverse ++ [dS s])), y6] = .ok true [.val T, .val tk, .val B, .own (.lst (dB F)), .own (.lst (sn.map D.str)), .own (.lst (dB r.reverse ++ [dS s])), y6] := fun s r F sn y6 => by
    have : truD (.lst (dB r.reverse ++ [dS s])) = some true := by
      show some (!(dB r.reverse ++ [dS s]).isEmpty) = _
      cases dB r.reverse <;> rfl
    generalize dB r.reverse ++ [dS s] = W1 at *
    walk_at "ev"
  have e1 : ∀ (s : Stm) (r : List Stm), dB (s :: r).reverse = dB r.reverse ++ [dS s] := fun s r => by rw [List.reverse_cons, dB_app]; rfl
  have e4 : ∀ (F : List Stm) (s : Stm), dB F ++ [dS s] = dB (F ++ [s]) := fun F s => by rw [dB_app]; rfl
  induction h with
  | @nil sn =>
    intro n F y6 hn h1 h2
    cases n with
    | zero => omega
    | succ n =>
      refine ⟨y6, ?_⟩
      rw [whileN_s]
      have : cTru (cVar 5) [.val T, .val tk, .val B, .own (.lst (dB F)), .own (.lst (sn.map D.str)), .own (.lst (dB ([] : List Stm).reverse)), y6] = .ok false [.val T, .val tk, .val B, .own (.lst (dB F)), .own (.lst (sn.map D.str)), .own (.lst []), y6] := rfl
      rw [this, List.append_nil]
  | @step s r o sn sn' hc w ih =>
    intro n F y6 hn h1 h2
    cases n with
    | zero => omega
    | succ n =>
      simp only [List.length_cons] at hn h1 h2
      rw [whileN_s, e1, tru]
      dsimp only
      have g0 := g_0 s
      have a1 : gAppend (.lst (dB F)) [dS s] = some (.non, .lst (dB F ++ [dS s])) := app_l (by rw [sizeLine_eq, dB_len]; omega)
      have hp := pop_any (xs := dB r.reverse) (x := dS s)
      have t1 : s_walk_of_1 [.val T, .val tk, .val B, .own (.lst (dB F)), .own (.lst (sn.map D.str)), .own (.lst (dB r.reverse ++ [dS s])), y6] = .ok .nx [.val T, .val tk, .val B, .own (.lst (dB F ++ [dS s])), .own (.lst (sn.map D.str)), .own (.lst (dB r.reverse)), .val (dS s)] := by
        by_cases hk : kd s = "call"
        · obtain ⟨c, rfl⟩ := kd_call hk
          have hin := notin_t (hc c rfl)
          have g1 : gGet (dS (.call c)) (.int 1) = some (.str c) := by rw [dS]; rfl
          rw [hk] at g0
          clear ih hc w tru e1 e4 hS hT h1 h2 hn hk
          generalize dB r.reverse ++ [dS (.call c)] = W1 at *
          generalize dB F ++ [dS (.call c)] = F1 at *
          generalize dB F = F2 at *
          generalize dB r.reverse = W2 at *
          generalize dS (.call c) = SC at *
          generalize sn.map D.str = SN at *
          unfold s_walk_of_1
          walk_at "ev"
        · clear ih hc w tru e1 e4 hS hT h1 h2 hn
          generalize dB r.reverse ++ [dS s] = W1 at *
          generalize dB F ++ [dS s] = F1 at *
          generalize dB F = F2 at *
          generalize dB r.reverse = W2 at *
          generalize dS s = SC at *
          generalize sn.map D.str = SN at *
          unfold s_walk_of_1
          walk_at "ev"
      rw [t1, e4]
      dsimp only
      obtain ⟨y6', e5⟩ := ih n (F ++ [s]) (.val (dS s)) (by omega) (by rw [List.length_append, List.length_singleton]; omega) (by omega)
      exact ⟨y6', by rw [e5, List.append_assoc]; rfl⟩
  | @call c b r o sn sn' hc e w ih =>
    intro n F y6 hn h1 h2
    cases n with
    | zero => omega
    | succ n =>
      simp only [List.length_cons] at hn h1 h2
      rw [whileN_s, e1, tru]
      dsimp only
      have hle := w.le
      rw [List.length_append] at hle
      obtain ⟨p, hp, _, ep⟩ := look_mem e
      have hb := hS p hp
      rw [ep] at hb
      have g0 : gGet (dS (.call c)) (.int 0) = some (.str "call") := g_0 (.call c)
      have g1 : gGet (dS (.call c)) (.int 1) = some (.str c) := by rw [dS]; rfl
      have hin := notin_f hc
      have a1 : gAppend (.lst (dB F)) [dS (.call c)] = some (.non, .lst (dB F ++ [dS (.call c)])) := app_l (by rw [sizeLine_eq, dB_len]; omega)
      have a2 : gAppend (.lst (sn.map D.str)) [.str c] = some (.non, .lst ((sn ++ [c]).map D.str)) := by
        rw [List.map_append]
        exact app_l (by rw [sizeLine_eq, List.length_map]; omega)
      have hpo := pop_any (xs := dB r.reverse) (x := dS (.call c))
      have es := sub_body_ok e hT
      have est := statements_ok hb.1 hb.2
      have ex : gExtend (.lst (dB r.reverse)) [.lst (dB (flB b)).reverse] = some (.non, .lst (dB (flB b ++ r).reverse)) := by
        rw [ext_l (by rw [sizeLine_eq, dB_len, List.length_reverse, List.length_reverse, dB_len]; omega), dB_rev, ← dB_app, List.reverse_append]
      have t1 : s_walk_of_1 [.val T, .val tk, .val B, .own (.lst (dB F)), .own (.lst (sn.map D.str)), .own (.lst (dB r.reverse ++ [dS (.call c)])), y6] = .ok .nx [.val T, .val tk, .val B, .own (.lst (dB F ++ [dS (.call c)])), .own (.lst ((sn ++ [c]).map D.str)), .own (.lst (dB (flB b ++ r).reverse)), .val (dS (.call c))] := by
        clear ih hc w tru e1 e4 hS hT h1 h2 hn hb hle e
        generalize dB (flB b ++ r).reverse = W3 at *
        generalize dB r.reverse ++ [dS (.call c)] = W1 at *
        generalize dB F ++ [dS (.call c)] = F1 at *
        generalize dB F = F2 at *
        generalize dB r.reverse = W2 at *
        generalize dS (.call c) = SC at *
        generalize (sn ++ [c]).map D.str = SN2 at *
        generalize sn.map D.str = SN at *
        generalize dB (flB b) = FB at *
        generalize dB b = DB at *
        unfold s_walk_of_1
        walk_at "ev"
      rw [t1, e4]
      dsimp only
      obtain ⟨y6', e5⟩ := ih n (F ++ [.call c]) (.val (dS (.call c))) (by omega) (by rw [List.length_append, List.length_singleton]; omega) (by rw [List.length_append, List.length_singleton]; omega)
      exact ⟨y6', by rw [e5, List.append_assoc]; rfl⟩
theorem walk_of_ok {ar : Str} {E : List (Str × Int × List Stm)} {t : Str × Int × List Stm} (hS : ∀ p ∈ S, OkB N C 3 p.2 ∧ (flB p.2).length ≤ 90000) (hT : gGet T (.int 4) = some (.tup (S.map subD))) (hE : (E.map (·.1)).Nodup) (ht : t ∈ E) (hT5 : gGet T (.int 5) = some (.tup (E.map (taskD ar))))
    (hb : OkB N C 3 t.2.2) (hl : (flB t.2.2).length ≤ 90000) {o : List Stm} {sn' : List Str} (h : Wk S (flB t.2.2) [] o sn') (ho : o.length ≤ 90000) : m_walk_of [.val T, .val (.str t.1)] = .ok (.n (.lst (dB o))) [.un, .un] := by
  have e1 := task_body_ok hE ht hT5
  have e2 := statements_ok hb hl
  obtain ⟨y6, e3⟩ := wo_loop (tk := .str t.1) (B := .tup (dB t.2.2)) hS hT h 100000 [] .un (by omega) (by simp; omega) (by simp; omega)
  have e4 : dB (flB t.2.2).reverse = (dB (flB t.2.2)).reverse := (dB_rev _).symm
  have e5 : dB ([] : List Stm) = [] := rfl
  rw [e4, e5, List.nil_append, List.map_nil] at e3
  have z0 : (0 : Nat) ≤ sizeLine := Nat.zero_le _
  have isn : gIsN (.tup (dB t.2.2)) .non = some (.bl false) := rfl
  clear e4 e5 hS hT hE ht hT5 hb hl h ho
  generalize dB o = DO at *
  generalize dB (flB t.2.2) = FB at *
  generalize dB t.2.2 = DB at *
  generalize sn'.map D.str = SN at *
  unfold m_walk_of g_walk_of
  generalize whileN (cTru (cVar 5)) s_walk_of_1 100000 = WH at *
  walk_at "ev"
/-! ### the law's own walk -/
def flP : List Pt → List Stm
  | [] => []
  | .f _ _ :: r => flP r
  | .b p :: r => flB p ++ flP r
theorem flP_app : ∀ a b : List Pt, flP (a ++ b) = flP a ++ flP b
  | [], b => rfl
  | .f _ _ :: r, b => by rw [List.cons_append, flP, flP, flP_app r b]
  | .b p :: r, b => by rw [List.cons_append, flP, flP, flP_app r b, List.append_assoc]
theorem flS_pts (s : Stm) : flS s = s :: flP (pts s) := by
  cases s <;> simp [flS, pts, flP, Op.p]
structure Big (S : Subs) (N C : List Str) : Prop where
  b : ∀ p ∈ S, OkB N C 3 p.2 ∧ p.2.length ≤ 20
  c : C = S.map (·.1)
  s4 : S.length ≤ 4
theorem Big.fl (h : Big S N C) : ∀ p ∈ S, (flB p.2).length ≤ 1700 := fun p hp => by
  have h1 := flB_sz (h.b p hp).1
  have h2 := (h.b p hp).2
  have : sz 3 = 85 := rfl
  rw [this] at h1
  have := Nat.mul_le_mul_right 85 h2
  omega
theorem rem_top (h : Big S N C) (sn : List Str) : rem S sn ≤ 4 := Nat.le_trans List.countP_le_length h.s4
theorem call_in {k : Nat} {s c : _} (h : OkS N C k s) (e : s = .call c) : c ∈ C := by
  subst e
  cases k <;> exact h.2
theorem Big.tot (h : Big S N C) {l o : List Stm} {sn sn' : List Str} (w : Wk S l sn o sn') : o.length ≤ l.length + 6800 := by
  have h1 := w.len h.fl
  have h2 := rem_top h sn
  have := Nat.mul_le_mul_right 1700 h2
  omega
theorem law_walk (hB : Big S N C) (hT : gGet T (.int 4) = some (.tup (S.map subD))) : ∀ (n k : Nat) (b : List Stm) (sn : List Str), OkB N C k b → k ≤ 3 → b.length ≤ 20 → sn.length ≤ 4 → rem S sn * 4 + k + 1 ≤ n → sn.length + rem S sn ≤ 4 →
    ∃ (o : List Stm) (sn' : List Str), m__law_walk n [.val T, .val (.tup (dB b)), .bor (.lst (sn.map D.str))] = .ok (.n (.lst (dB o))) [.un, .un, .bor (.lst (sn'.map D.str))] ∧ Wk S (flB b) sn o sn' ∧ sn'.length + rem S sn' ≤ 4
  | 0, k, b, sn, _, _, _, _, h, _ => absurd h (by omega)
  | n + 1, k, b, sn, hb, hk, hbl, hsn, hn, hs4 => by
    have fb : ∀ {b : List Stm}, OkB N C k b → b.length ≤ 20 → (flB b).length ≤ 1700 := fun {b} hb hbl => by
      have h1 := flB_sz (OkB.up hb hk)
      have : sz 3 = 85 := rfl
      rw [this] at h1
      have := Nat.mul_le_mul_right 85 hbl
      omega
    -- a part
    have part : ∀ (s : Stm) (B : D) (F : List Stm) (sn1 : List Str) (y5 : Sl), OkS N C k s → F.length ≤ 20000 → sn1.length + rem S sn1 ≤ 4 → rem S sn1 ≤ rem S sn →
        ∃ (o : List Stm) (sn2 : List Str) (y5' : Sl), forL (gSet 5) (s__law_walk_1 (m__law_walk n)) ((pts s).map Pt.dd) [.val T, .val B, .bor (.lst (sn1.map D.str)), .own (.lst (dB F)), .val (dS s), y5] =
          .ok .nx [.val T, .val B, .bor (.lst (sn2.map D.str)), .own (.lst (dB (F ++ o))), .val (dS s), y5'] ∧ Wk S (flP (pts s)) sn1 o sn2 ∧ sn2.length + rem S sn2 ≤ 4 := fun s B F sn1 y5 hs hF h4 hr => by
      have gen : ∀ (P : List Pt) (F : List Stm) (sn1 : List Str) (y5 : Sl), (∀ p ∈ P, p ∈ pts s) → P.length ≤ 6 → F.length + P.length * 9000 ≤ 80000 → sn1.length + rem S sn1 ≤ 4 → rem S sn1 ≤ rem S sn →
          ∃ (o : List Stm) (sn2 : List Str) (y5' : Sl), forL (gSet 5) (s__law_walk_1 (m__law_walk n)) (P.map Pt.dd) [.val T, .val B, .bor (.lst (sn1.map D.str)), .own (.lst (dB F)), .val (dS s), y5] =
            .ok .nx [.val T, .val B, .bor (.lst (sn2.map D.str)), .own (.lst (dB (F ++ o))), .val (dS s), y5'] ∧ Wk S (flP P) sn1 o sn2 ∧ sn2.length + rem S sn2 ≤ 4 := by
        intro P
        induction P with
        | nil => exact fun F sn1 y5 _ _ _ h4 _ => ⟨[], sn1, y5, by rw [List.map_nil, forL_nil, List.append_nil], .nil, h4⟩
        | cons p P ih =>
          intro F sn1 y5 hP hPl hFl h4 hr
          simp only [List.length_cons] at hPl hFl
          have hP' : ∀ q ∈ P, q ∈ pts s := fun q hq => hP q (List.mem_cons_of_mem _ hq)
          rw [List.map_cons, forL_cons]
          cases p with
          | f d hd =>
            have t1 : s__law_walk_1 (m__law_walk n) [.val T, .val B, .bor (.lst (sn1.map D.str)), .own (.lst (dB F)), .val (dS s), .val d] = .ok .nx [.val T, .val B, .bor (.lst (sn1.map D.str)), .own (.lst (dB F)), .val (dS s), .val d] := by
              clear ih hP hPl hFl h4 hr hP' hF hs hB hT hb fb hn hs4
              generalize dB F = F1 at *
              generalize dS s = SC at *
              generalize sn1.map D.str = SN at *
              unfold s__law_walk_1
              walk_at "ev"
            obtain ⟨o, sn2, y5', e, w, h5⟩ := ih F sn1 (.val d) hP' (by omega) (by omega) h4 hr
            refine ⟨o, sn2, y5', ?_, w, h5⟩
            show (s__law_walk_1 (m__law_walk n) [.val T, .val B, .bor (.lst (sn1.map D.str)), .own (.lst (dB F)), .val (dS s), .val d]).lp _ = _
            rw [t1]
            exact e
          | b p =>
            obtain ⟨j, hj, hpb, hpl⟩ := hs.inn (pts_in (hP (.b p) List.mem_cons_self))
            obtain ⟨o1, sn2, e1, w1, h5⟩ := law_walk hB hT n j p sn1 hpb (by omega) (by omega) (by omega) (by
              have := Nat.mul_le_mul_right 4 hr
              omega) h4
            have hr2 : rem S sn2 ≤ rem S sn := Nat.le_trans (rem_le w1.sub) hr
            have ho1 := hB.tot w1
            have hp1 : (flB p).length ≤ 1700 := fb (OkB.up hpb (by omega)) (by omega)
            have ex : gExtend (.lst (dB F)) [.lst (dB o1)] = some (.non, .lst (dB (F ++ o1))) := by
              rw [ext_l (by rw [sizeLine_eq, dB_len, dB_len]; omega), ← dB_app]
            have ti := isi_t (x := dB p)
            have t1 : s__law_walk_1 (m__law_walk n) [.val T, .val B, .bor (.lst (sn1.map D.str)), .own (.lst (dB F)), .val (dS s), .val (.tup (dB p))] = .ok .nx [.val T, .val B, .bor (.lst (sn2.map D.str)), .own (.lst (dB (F ++ o1))), .val (dS s), .val (.tup (dB p))] := by
              clear ih hP hPl hFl h4 hr hP' hF hs hB hT hb fb hn hs4 hpb w1 h5 hr2 ho1 hp1 hj
              generalize dB (F ++ o1) = F2 at *
              generalize dB F = F1 at *
              generalize dB o1 = O1 at *
              generalize dB p = DP at *
              generalize dS s = SC at *
              generalize sn1.map D.str = SN at *
              generalize sn2.map D.str = SN2 at *
              unfold s__law_walk_1
              walk_at "ev"
            obtain ⟨o, sn3, y5', e, w, h6⟩ := ih (F ++ o1) sn2 (.val (.tup (dB p))) hP' (by omega) (by rw [List.length_append]; omega) h5 hr2
            refine ⟨o1 ++ o, sn3, y5', ?_, w1.append w, h6⟩
            show (s__law_walk_1 (m__law_walk n) [.val T, .val B, .bor (.lst (sn1.map D.str)), .own (.lst (dB F)), .val (dS s), .val (.tup (dB p))]).lp _ = _
            rw [t1, ← List.append_assoc]
            exact e
      have hpl : (pts s).length ≤ 6 := by cases s <;> simp [pts]
      exact gen (pts s) F sn1 y5 (fun p hp => hp) hpl (by omega) h4 hr
    -- a statement
    have turn : ∀ (s : Stm) (B : D) (F : List Stm) (sn1 : List Str) (y5 : Sl), OkS N C k s → F.length ≤ 10000 → sn1.length + rem S sn1 ≤ 4 → rem S sn1 ≤ rem S sn →
        ∃ (o : List Stm) (sn2 : List Str) (y5' : Sl), s__law_walk_2 (m__law_walk n) [.val T, .val B, .bor (.lst (sn1.map D.str)), .own (.lst (dB F)), .val (dS s), y5] =
          .ok .nx [.val T, .val B, .bor (.lst (sn2.map D.str)), .own (.lst (dB (F ++ o))), .val (dS s), y5'] ∧ Wk S (flS s) sn1 o sn2 ∧ sn2.length + rem S sn2 ≤ 4 := fun s B F sn1 y5 hs hF h4 hr => by
      obtain ⟨o, sn2, y5', e1, w1, h5⟩ := part s B (F ++ [s]) sn1 y5 hs (by rw [List.length_append, List.length_singleton]; omega) h4 hr
      have a1 : gAppend (.lst (dB F)) [dS s] = some (.non, .lst (dB (F ++ [s]))) := by
        rw [dB_app]
        exact app_l (by rw [sizeLine_eq, dB_len]; omega)
      have g0 := g_0 s
      have ed := dS_pts s
      by_cases hk : kd s = "call"
      · obtain ⟨c, rfl⟩ := kd_call hk
        have w0 : o = [] ∧ sn2 = sn1 := by
          have := w1.fn (o2 := []) (s2 := sn1) .nil
          exact ⟨this.1, this.2.symm ▸ rfl⟩
        obtain ⟨rfl, rfl⟩ := w0
        have g1 : gGet (dS (.call c)) (.int 1) = some (.str c) := by rw [dS]; rfl
        rw [hk] at g0
        rw [List.append_nil] at e1
        by_cases hc : c ∈ sn2
        · have hin := notin_t hc
          refine ⟨[.call c], sn2, y5', ?_, .step (fun x e => by cases e; exact hc) .nil, h5⟩
          clear hs hF h4 hr w1 h5 hc part fb hB hT hb hn hs4 hk
          generalize dB (F ++ [.call c]) = F1 at *
          generalize dB F = F0 at *
          generalize sn2.map D.str = SN at *
          generalize (pts (.call c)).map Pt.dd = PT at *
          generalize dS (.call c) = SC at *
          subst ed
          unfold s__law_walk_2
          walk_at "ev"
        · have hin := notin_f hc
          have hcS : c ∈ S.map (·.1) := hB.c ▸ call_in hs rfl
          obtain ⟨b2, el⟩ := look_of hcS
          obtain ⟨p, hp, _, ep⟩ := look_mem el
          have hb2 := hB.b p hp
          rw [ep] at hb2
          have hlt := rem_lt (S := S) hc hcS
          obtain ⟨o2, sn3, e3, w3, h6⟩ := law_walk hB hT n 3 b2 (sn2 ++ [c]) hb2.1 (by omega) hb2.2 (by rw [List.length_append, List.length_singleton]; omega) (by
            have := Nat.mul_le_mul_right 4 hr
            omega) (by rw [List.length_append, List.length_singleton]; omega)
          have ev := values_ok el
          have a2 : gAppend (.lst (sn2.map D.str)) [.str c] = some (.non, .lst ((sn2 ++ [c]).map D.str)) := by
            rw [List.map_append]
            exact app_l (by rw [sizeLine_eq, List.length_map]; omega)
          have ho2 := hB.tot w3
          have hf2 := hB.fl p hp
          rw [ep] at hf2
          have ex : gExtend (.lst (dB (F ++ [.call c]))) [.lst (dB o2)] = some (.non, .lst (dB (F ++ .call c :: o2))) := by
            rw [ext_l (by rw [sizeLine_eq, dB_len, dB_len, List.length_append, List.length_singleton]; omega), ← dB_app, List.append_assoc]; rfl
          refine ⟨.call c :: o2, sn3, y5', ?_, .call hc el (by rw [List.append_nil]; exact w3), h6⟩
          clear hs hF h4 hr w1 h5 hc part fb hB hb hn hs4 hk w3 h6 ho2 hf2 hb2 ep hp el hcS hlt
          generalize dB (F ++ .call c :: o2) = F3 at *
          generalize dB (F ++ [.call c]) = F1 at *
          generalize dB F = F0 at *
          generalize dB o2 = O2 at *
          generalize dB b2 = B2 at *
          generalize (sn2 ++ [c]).map D.str = SN2 at *
          generalize sn2.map D.str = SN at *
          generalize sn3.map D.str = SN3 at *
          generalize (pts (.call c)).map Pt.dd = PT at *
          generalize S.map subD = SD at *
          generalize dS (.call c) = SC at *
          subst ed
          unfold s__law_walk_2
          walk_at "ev"
      · refine ⟨s :: o, sn2, y5', ?_, ?_, h5⟩
        · have : F ++ s :: o = F ++ [s] ++ o := by simp
          rw [this]
          clear hs hF h4 hr w1 h5 part fb hB hT hb hn hs4 this
          generalize dB (F ++ [s] ++ o) = F3 at *
          generalize dB (F ++ [s]) = F1 at *
          generalize dB F = F0 at *
          generalize sn1.map D.str = SN at *
          generalize sn2.map D.str = SN3 at *
          generalize (pts s).map Pt.dd = PT at *
          generalize dS s = SC at *
          subst ed
          unfold s__law_walk_2
          walk_at "ev"
        · rw [flS_pts]
          exact .step (fun c e => absurd (by rw [e]; rfl) hk) w1
    have key : W (forL (gSet 4) (s__law_walk_2 (m__law_walk n)) (dB b) [.val T, .val (.tup (dB b)), .bor (.lst (sn.map D.str)), .own (.lst []), .un, .un])
        (fun fl ρ => fl = .nx ∧ ∃ (o : List Stm) (sn' : List Str) (y4 y5 : Sl), ρ = [.val T, .val (.tup (dB b)), .bor (.lst (sn'.map D.str)), .own (.lst (dB o)), y4, y5] ∧ Wk S (flB b) sn o sn' ∧ sn'.length + rem S sn' ≤ 4) := by
      refine forL_all (I := fun i ρ => i ≤ b.length ∧ ∃ (o : List Stm) (sn' : List Str) (y4 y5 : Sl), ρ = [.val T, .val (.tup (dB b)), .bor (.lst (sn'.map D.str)), .own (.lst (dB o)), y4, y5] ∧ Wk S (flB (b.take i)) sn o sn' ∧ sn'.length + rem S sn' ≤ 4)
        ⟨Nat.zero_le _, [], sn, _, _, rfl, by rw [List.take_zero]; exact .nil, hs4⟩ ?_ ?_
      · rintro ρ ⟨_, o, sn', y4, y5, rfl, w, h⟩
        rw [dB_len, List.take_length] at w
        exact ⟨rfl, o, sn', _, _, rfl, w, h⟩
      · rintro i ρ p hd ⟨_, o, sn', y4, y5, rfl, w, h⟩
        have hi : i < b.length := by have := lt_of_get hd; rwa [dB_len] at this
        rw [dB_map, List.getElem?_map, Option.map_eq_some_iff] at hd
        obtain ⟨s, hq, rfl⟩ := hd
        have hs := hb s (List.mem_of_getElem? hq)
        have ho := hB.tot w
        have hft : (flB (b.take i)).length ≤ 1700 := fb (fun x hx => hb x (List.mem_of_mem_take hx)) (by rw [List.length_take]; omega)
        refine ⟨_, rfl, ?_⟩
        obtain ⟨o2, sn2, y5', e, w2, h2⟩ := turn s (.tup (dB b)) o sn' y5 hs (by omega) h (rem_le w.sub)
        show W (s__law_walk_2 (m__law_walk n) [.val T, .val (.tup (dB b)), .bor (.lst (sn'.map D.str)), .own (.lst (dB o)), .val (dS s), y5]) _
        rw [e]
        refine ⟨hi, o ++ o2, sn2, _, _, rfl, ?_, h2⟩
        have et : b.take (i + 1) = b.take i ++ [s] := by rw [List.take_add_one, hq]; rfl
        rw [et, flB_app]
        refine w.append ?_
        rw [flB, flB, List.append_nil]
        exact w2
    obtain ⟨fl, ρ, e, rfl, o, sn', y4, y5, rfl, w, h⟩ := key.ok
    refine ⟨o, sn', ?_, w, h⟩
    have z0 : (0 : Nat) ≤ sizeLine := Nat.zero_le _
    clear key turn part fb w h hB hT hb hn hs4
    generalize dB b = DB at *
    generalize dB o = DO at *
    generalize sn.map D.str = SN at *
    generalize sn'.map D.str = SN2 at *
    show L3.run false 6 (g__law_walk (m__law_walk n)) _ = _
    unfold g__law_walk
    walk_at "ev"
end
end K08
namespace K08
open PySem PySem.Spec PyProof.Rows L2 L3
local macro_rules | `(tactic| walk_at "ev") => `(tactic| simp (config := {decide := true}) only [W_ok, bind_ok, thn_nx, thn_rt, thn_rn, thn_bk, thn_ct, cVar, cK, c1_e, c1_k, c2_e, c2_k, c2_k2, cB_e, cB_k, cAnd_e, cOr_e, cNot_e, cNot_k, cIte_e, iteK_t, iteK_f, iteK, okB, okV, cAndV_e, cOrV_e, cNotV_e, cNotV_k, cBv_e, aNil, aCons_e, aCons_k, aCons_k2, cTup_e, cTup_k, nLst_e, nLst_k, vN_e, vN_k, cN_e, cN_k, nN_e, nN_k, oNone, oSome_e, oSome_k, cSl_e, cSl_k, cSl_k2, cSl_k3, nSl_e, nSl_k, nSl_k2, nSl_k3, nCat_e, nCat_k, nCat_k2, sNil, sSeq, sFrz, sBrk, sCnt, sExp_e, sExp_k, sRet_e, sRet_k, sRetN_e, sRetN_k, sRetU, sIf_e, sSet_e, sSet_k, sSetN_e, sSetN_k, gSet, gsNil, gsCons_e, gsCons_k, nxK, gTupD, gLstD, sAsg_e, sAsg_k, sAug_e, sAug_k, iL_e, iL_k, iT_e, iT_k, iR1_e, iR1_k, iR2_e, iR2_k, iZ_e, iZ_k, iR3_e, iR3_k, cCh_e, cCh_k, cCh_k2, cCh_k3, nRan_e, nRan_k, r1F_e, r1F_k, r2F_e, r2F_k, r2F_k2, r3F_e, r3F_k, r3F_k2, r3F_k3, intP, sFor_e, run_e, runK_rt, runK_rn, runK_nx, fin, outs, cCall_e, cCall_k, cCall_k2, nCall_e, nCall_k, nCall_k2, callM, sls, lents, wbk, lk, pvD, pvDs, pvs, Sl.dat, Sl.put, gSubD_e, gSubD_k, cM_e, cM_k, cMr_e, cMr_k, cMr_k2, isTy_str, isTy_lst, cGet2_e, cGet2_k, cGet2_k2, cGet2_k3, isDic_d, iRv_e, iRv_k, get2_d, nDic0, cTru_e, cTru_k, tru_l, tru_t, emp_c, emp_n, nRevL_e, nRevL_k, iRvR_e, iRvR_k, anNew_e, anNew_k, anNew_k2, anCons_e, anCons_k, anCons_k2, cCallA_e, cCallA_k, cutA_ok, drop_l, drop_1, pNil, keyD, pCons_e, pCons_k, pCons_k2, pCons_k3, nDic_e, nDic_k, nLc_e, nLc_k, lcB_ok, unAll, backAll, noAdr, setAll, setAllF, List.map_cons, List.map_nil, hOne, cYes, List.all_cons, List.all_nil, Bool.and_true, Bool.true_and, Bool.and_self, Option.map_none, ofO, Rt.d, add_i, mns_i, mul_r, mul_l, div_i, mod_i, neg_i, lt_i, le_i, gt_i, ge_i, int_i, abs_i, len_l, len_t, get_l, get_t, toT_l, toT_t, eq_i, ne_i, eq_s, ne_s, rg_len, isN_non, isN_int, notN_non, notN_int, pow18, isi_int, isi_bool, max_ii, max_l, max_t, sum_l, sum_t, toL_l, toL_t, sl_l, sl_t, sg1, sg2, sg3, sg4, sg5, ss2, ss3, ss4, ss5, List.getElem?_cons_zero, List.getElem?_cons_succ, List.set_cons_zero, List.set_cons_succ, List.length_cons, List.length_nil, List.length_map, List.length_range, List.replicate, List.cons_append, List.nil_append, Option.bind_some, Option.map_some, Option.isSome_some, Option.bind_none, if_true, if_false, reduceIte, decide_eq_true_eq, Bool.false_eq_true, reduceCtorEq, decide_true, decide_false, Bool.not_true, Bool.not_false, *])
local macro_rules | `(tactic| walk_at "evc") => `(tactic| simp (config := {decide := true}) only [at0, at1, at2, at3, set0, set1, set2, ran0, ran1, ran2, ran3, maxI_one, maxI_cons, asI_nil, asI_cons, add_l, add_t, app_l, line_le, line_lt, forL_nil, forL_cons, forL_k, lp_nx, lp_ct, lp_bk, lp_rt, lp_rn, sub_ok, lcL_nil, lcL_cons, lcH_some, lcL_k, lcL_k2, L3.cutD, HT.sIx, List.take_succ_cons, List.take_zero, List.drop_succ_cons, List.drop_zero, List.sum_cons, List.sum_nil, Nat.reduceAdd, Int.reduceSub, Int.reduceAdd, int_lit, Int.reduceToNat, Nat.reduceSub, Nat.min_def, Nat.reduceLeDiff, Int.reduceLT, W_ok, bind_ok, thn_nx, thn_rt, thn_rn, thn_bk, thn_ct, cVar, cK, c1_e, c1_k, c2_e, c2_k, c2_k2, cB_e, cB_k, cAnd_e, cOr_e, cNot_e, cNot_k, cIte_e, iteK_t, iteK_f, iteK, okB, okV, cAndV_e, cOrV_e, cNotV_e, cNotV_k, cBv_e, aNil, aCons_e, aCons_k, aCons_k2, cTup_e, cTup_k, nLst_e, nLst_k, vN_e, vN_k, cN_e, cN_k, nN_e, nN_k, oNone, oSome_e, oSome_k, cSl_e, cSl_k, cSl_k2, cSl_k3, nSl_e, nSl_k, nSl_k2, nSl_k3, nCat_e, nCat_k, nCat_k2, sNil, sSeq, sFrz, sBrk, sCnt, sExp_e, sExp_k, sRet_e, sRet_k, sRetN_e, sRetN_k, sRetU, sIf_e, sSet_e, sSet_k, sSetN_e, sSetN_k, gSet, gsNil, gsCons_e, gsCons_k, nxK, gTupD, gLstD, sAsg_e, sAsg_k, sAug_e, sAug_k, iL_e, iL_k, iT_e, iT_k, iR1_e, iR1_k, iR2_e, iR2_k, iZ_e, iZ_k, iR3_e, iR3_k, cCh_e, cCh_k, cCh_k2, cCh_k3, nRan_e, nRan_k, r1F_e, r1F_k, r2F_e, r2F_k, r2F_k2, r3F_e, r3F_k, r3F_k2, r3F_k3, intP, sFor_e, run_e, runK_rt, runK_rn, runK_nx, fin, outs, cCall_e, cCall_k, cCall_k2, nCall_e, nCall_k, nCall_k2, callM, sls, lents, wbk, lk, pvD, pvDs, pvs, Sl.dat, Sl.put, gSubD_e, gSubD_k, cM_e, cM_k, cMr_e, cMr_k, cMr_k2, isTy_str, isTy_lst, cGet2_e, cGet2_k, cGet2_k2, cGet2_k3, isDic_d, iRv_e, iRv_k, get2_d, nDic0, cTru_e, cTru_k, tru_l, tru_t, emp_c, emp_n, nRevL_e, nRevL_k, iRvR_e, iRvR_k, anNew_e, anNew_k, anNew_k2, anCons_e, anCons_k, anCons_k2, cCallA_e, cCallA_k, cutA_ok, drop_l, drop_1, pNil, keyD, pCons_e, pCons_k, pCons_k2, pCons_k3, nDic_e, nDic_k, nLc_e, nLc_k, lcB_ok, unAll, backAll, noAdr, setAll, setAllF, List.map_cons, List.map_nil, hOne, cYes, List.all_cons, List.all_nil, Bool.and_true, Bool.true_and, Bool.and_self, Option.map_none, ofO, Rt.d, add_i, mns_i, mul_r, mul_l, div_i, mod_i, neg_i, lt_i, le_i, gt_i, ge_i, int_i, abs_i, len_l, len_t, get_l, get_t, toT_l, toT_t, eq_i, ne_i, eq_s, ne_s, rg_len, isN_non, isN_int, notN_non, notN_int, pow18, isi_int, isi_bool, max_ii, max_l, max_t, sum_l, sum_t, toL_l, toL_t, sl_l, sl_t, sg1, sg2, sg3, sg4, sg5, ss2, ss3, ss4, ss5, List.getElem?_cons_zero, List.getElem?_cons_succ, List.set_cons_zero, List.set_cons_succ, List.length_cons, List.length_nil, List.length_map, List.length_range, List.replicate, List.cons_append, List.nil_append, Option.bind_some, Option.map_some, Option.isSome_some, Option.bind_none, if_true, if_false, reduceIte, decide_eq_true_eq, Bool.false_eq_true, reduceCtorEq, decide_true, decide_false, Bool.not_true, Bool.not_false, *])
/-! ### plain: carried names -/
def has (L : List Str) (a : Op) : Bool := L.any fun x => opIs x a
def tgt : Stm → Str
  | .set x _ => x
  | .sum _ x _ _ => x
  | .take x _ => x
  | _ => ""
def isTake : Stm → Bool
  | .take _ _ => true
  | _ => false
def gives : Stm → Bool
  | .set _ _ => true
  | .sum _ _ _ _ => true
  | _ => false
def car (s : Stm) (L : List Str) : Bool := isTake s || (gives s && (ops s).any (has L))
inductive Car (w : List Stm) : Str → Prop where
  | take {s : Stm} (h : s ∈ w) (t : isTake s = true) : Car w (tgt s)
  | give {s : Stm} {y : Str} (h : s ∈ w) (g : gives s = true) (o : (ops s).any (opIs y) = true) (c : Car w y) : Car w (tgt s)
theorem has_iff {L : List Str} {a : Op} : has L a = true ↔ ∃ x ∈ L, opIs x a = true := by unfold has; rw [List.any_eq_true]
theorem car_iff {s : Stm} {L : List Str} : car s L = true ↔ isTake s = true ∨ (gives s = true ∧ ∃ y ∈ L, (ops s).any (opIs y) = true) := by
  unfold car
  rw [Bool.or_eq_true, Bool.and_eq_true, List.any_eq_true]
  constructor
  · rintro (h | ⟨h, a, ha, h2⟩)
    · exact .inl h
    · obtain ⟨x, hx, e⟩ := has_iff.mp h2
      exact .inr ⟨h, x, hx, List.any_eq_true.mpr ⟨a, ha, e⟩⟩
  · rintro (h | ⟨h, y, hy, h2⟩)
    · exact .inl h
    · obtain ⟨a, ha, e⟩ := List.any_eq_true.mp h2
      exact .inr ⟨h, a, ha, has_iff.mpr ⟨y, hy, e⟩⟩
def stp (L : List Str) (s : Stm) : List Str := if car s L = true ∧ tgt s ∉ L then L ++ [tgt s] else L
def rnd (w : List Stm) (L : List Str) : List Str := w.foldl stp L
section
variable {w : List Stm}
theorem stp_pre (L : List Str) (s : Stm) : L <+: stp L s := by
  unfold stp
  split
  · exact ⟨[tgt s], rfl⟩
  · exact List.prefix_refl L
theorem fold_pre : ∀ (v : List Stm) (L : List Str), L <+: v.foldl stp L
  | [], L => List.prefix_refl L
  | s :: v, L => (stp_pre L s).trans (fold_pre v (stp L s))
theorem stp_nd {L : List Str} {s : Stm} (h : L.Nodup) : (stp L s).Nodup := by
  unfold stp
  split
  · rename_i q
    exact List.nodup_append.mpr ⟨h, by simp, fun a ha b hb e => by
      rw [List.mem_singleton.mp hb] at e
      exact q.2 (e ▸ ha)⟩
  · exact h
theorem stp_in {L : List Str} {s : Stm} (hs : s ∈ w) (h : ∀ x ∈ L, Car w x) : ∀ x ∈ stp L s, Car w x := by
  unfold stp
  split
  · rename_i q
    intro x hx
    rcases List.mem_append.mp hx with hx | hx
    · exact h x hx
    · rw [List.mem_singleton.mp hx]
      rcases car_iff.mp q.1 with t | ⟨g, y, hy, o⟩
      · exact .take hs t
      · exact .give hs g o (h y hy)
  · exact h
/-- nothing was put in: closed -/
theorem fold_eq : ∀ (v : List Stm) (L : List Str), v.foldl stp L = L → ∀ s ∈ v, car s L = true → tgt s ∈ L
  | [], L, _, s, hs => by cases hs
  | u :: v, L, h, s, hs => by
    have h1 := stp_pre L u
    have h2 := fold_pre v (stp L u)
    rw [List.foldl_cons] at h
    rw [h] at h2
    have e : stp L u = L := by
      have l1 := h1.length_le
      have l2 := h2.length_le
      exact (h1.eq_of_length (by omega)).symm
    intro hc
    rcases List.mem_cons.mp hs with rfl | hs
    · by_cases q : tgt s ∈ L
      · exact q
      · unfold stp at e
        rw [if_pos ⟨hc, q⟩] at e
        have := congrArg List.length e
        simp at this
    · rw [e] at h
      exact fold_eq v L h s hs hc
theorem closed_all {L : List Str} (h : ∀ s ∈ w, car s L = true → tgt s ∈ L) : ∀ x, Car w x → x ∈ L := by
  intro x hx
  induction hx with
  | take hs t => exact h _ hs (car_iff.mpr (.inl t))
  | give hs g o c ih => exact h _ hs (car_iff.mpr (.inr ⟨g, _, ih, o⟩))
end
/-! ### the program's -/
def asB : List Bool → D := fun l => .lst (l.map .bl)
theorem asBls_m : ∀ l : List Bool, asBls (l.map D.bl) = some l := fun l => asBls_map l
theorem any_b (l : List Bool) : gAny [asB l] = some (.bl (l.any id)) := by
  show (asBls _).map _ = _
  rw [asBls_m]; rfl
theorem mapB (l : List Op) (p : Op → Bool) : (l.map p).any id = l.any p := by rw [List.any_map]; rfl
section
variable {L : List Str} {s : Stm}
theorem comp_ops {y0 : Sl} (hl : (ops s).length ≤ 10) : lcL [2] hOne cYes e_carries_1 ((ops s).map Op.d) [] [y0, .bor (.lst (L.map D.str)), .un] = .ok ((ops s).map fun a => .bl (has L a)) [y0, .bor (.lst (L.map D.str)), .un] := by
  have := lcL_map (is := [2]) (h := hOne) (c := cYes) (e := e_carries_1) (ρ := [y0, .bor (.lst (L.map D.str)), .un]) Op.d (fun a => .bl (has L a)) (ops s) [] (by rw [sizeLine_eq]; simp; omega) fun a _ =>
    ⟨[a.d], [y0, .bor (.lst (L.map D.str)), .val a.d], [y0, .bor (.lst (L.map D.str)), .val a.d], rfl, rfl, by
      have h1 := in_l false a L
      rw [show sel false (L.any fun x => opIs x a) = has L a from rfl] at h1
      generalize L.map D.str = LD at *
      generalize a.d = AD at *
      unfold e_carries_1
      walk_at "ev", rfl⟩
  rw [this, List.nil_append]
theorem ops_le (s : Stm) : (ops s).length ≤ 2 := by cases s <;> simp [ops]
theorem inSums_t {x : Str} (h : x ∈ [("plus" : Str), "minus", "times"]) : gInX false (.str x) k_SUMS = some (.bl true) := by rw [inSums, decide_eq_true h]
theorem inSums_f {x : Str} (h : x ∉ [("plus" : Str), "minus", "times"]) : gInX false (.str x) k_SUMS = some (.bl false) := by rw [inSums, decide_eq_false h]
theorem carries_g (L : List Str) (h : kd s = "set" ∨ (kd s ≠ "set" ∧ kd s ≠ "take" ∧ gInX false (.str (kd s)) k_SUMS = some (.bl true))) : m_carries [.val (dS s), .bor (.lst (L.map D.str))] = .ok (.v (.bl ((ops s).any (has L)))) [.un, .bor (.lst (L.map D.str))] := by
  have g0 := g_0 s
  have eo := operands_ok s
  have ec := comp_ops (L := L) (s := s) (y0 := .val (dS s)) (Nat.le_trans (ops_le s) (by decide))
  have ea := any_b ((ops s).map (has L))
  rw [mapB] at ea
  have em : asB ((ops s).map (has L)) = .lst ((ops s).map fun a => .bl (has L a)) := by unfold asB; rw [List.map_map]; rfl
  rw [em] at ea
  rcases h with h | ⟨h1, h2, h3⟩
  · rw [h] at g0
    clear em h
    generalize (ops s).any (has L) = RB at *
    generalize (ops s).map (fun a => D.bl (has L a)) = BL at *
    generalize (ops s).map Op.d = OD at *
    generalize dS s = SC at *
    generalize L.map D.str = LD at *
    unfold m_carries g_carries
    walk_at "ev"
  · have h1 : ¬ kd s = "set" := h1
    have h2 : ¬ kd s = "take" := h2
    clear em
    generalize (ops s).any (has L) = RB at *
    generalize (ops s).map (fun a => D.bl (has L a)) = BL at *
    generalize (ops s).map Op.d = OD at *
    generalize dS s = SC at *
    generalize L.map D.str = LD at *
    generalize kd s = KD at *
    unfold m_carries g_carries
    walk_at "ev"
theorem carries_t {x c : Str} (L : List Str) : m_carries [.val (dS (.take x c)), .bor (.lst (L.map D.str))] = .ok (.v (.bl true)) [.un, .bor (.lst (L.map D.str))] := by
  have g0 : gGet (dS (.take x c)) (.int 0) = some (.str "take") := g_0 (.take x c)
  generalize dS (.take x c) = SC at *
  generalize L.map D.str = LD at *
  unfold m_carries g_carries
  walk_at "ev"
theorem carries_n {S : D} {k : Str} (g0 : gGet S (.int 0) = some (.str k)) (h1 : ¬ k = "take") (h2 : ¬ k = "set") (h3 : gInX false (.str k) k_SUMS = some (.bl false)) (L : List Str) : m_carries [.val S, .bor (.lst (L.map D.str))] = .ok (.v (.bl false)) [.un, .bor (.lst (L.map D.str))] := by
  generalize L.map D.str = LD at *
  unfold m_carries g_carries
  walk_at "ev"
theorem carries_ok (s : Stm) (L : List Str) : m_carries [.val (dS s), .bor (.lst (L.map D.str))] = .ok (.v (.bl (car s L))) [.un, .bor (.lst (L.map D.str))] := by
  cases s with
  | take x c => exact carries_t L
  | set x a =>
    rw [carries_g L (.inl rfl)]; rfl
  | sum k x a b =>
    rw [carries_g L (.inr (by cases k <;> exact ⟨by simp only [kd, Sk.s]; decide, by simp only [kd, Sk.s]; decide, inSums_t (by simp only [kd, Sk.s]; decide)⟩))]; rfl
  | _ => exact carries_n (g_0 _) (by simp only [kd]; decide) (by simp only [kd]; decide) (inSums_f (by simp only [kd]; decide)) L
theorem tgt_at (h : car s L = true) : gGet (dS s) (.int 1) = some (.str (tgt s)) := by
  cases s with
  | take x c => rw [dS]; rfl
  | set x a => rw [dS]; rfl
  | sum k x a b => rw [dS]; rfl
  | _ => simp [car, isTake, gives] at h
theorem names_turn {y0 y1 y2 : Sl} {g : Bool} (hl : L.length ≤ 1000) : s_carried_names_1 [y0, y1, y2, .own (.lst (L.map D.str)), .val (.bl g), .val (dS s)] = .ok .nx [y0, y1, y2, .own (.lst ((stp L s).map D.str)), .val (.bl (g || decide (stp L s ≠ L))), .val (dS s)] := by
  have ec := carries_ok s L
  by_cases hc : car s L = true
  · have gt := tgt_at hc
    rw [hc] at ec
    by_cases hn : tgt s ∈ L
    · have hin := notin_t hn
      have e : stp L s = L := by unfold stp; rw [if_neg fun z => z.2 hn]
      rw [e, decide_eq_false (fun z => z rfl), Bool.or_false]
      clear e hc hn
      generalize L.map D.str = LD at *
      generalize dS s = SC at *
      generalize tgt s = TG at *
      unfold s_carried_names_1
      walk_at "ev"
    · have hin := notin_f hn
      have e : stp L s = L ++ [tgt s] := by unfold stp; rw [if_pos ⟨hc, hn⟩]
      have ne : stp L s ≠ L := fun z => by
        rw [e] at z
        have := congrArg List.length z
        simp at this
      have a2 : gAppend (.lst (L.map D.str)) [.str (tgt s)] = some (.non, .lst ((stp L s).map D.str)) := by
        rw [e, List.map_append]
        exact app_l (by rw [sizeLine_eq, List.length_map]; omega)
      rw [decide_eq_true ne, Bool.or_true]
      clear e hc hn ne
      generalize (stp L s).map D.str = LD2 at *
      generalize L.map D.str = LD at *
      generalize dS s = SC at *
      generalize tgt s = TG at *
      unfold s_carried_names_1
      walk_at "ev"
  · have hc : car s L = false := by simpa using hc
    rw [hc] at ec
    have e : stp L s = L := by unfold stp; rw [hc, if_neg (fun z => by cases z.1)]
    rw [e, decide_eq_false (fun z => z rfl), Bool.or_false]
    clear e hc
    generalize L.map D.str = LD at *
    generalize dS s = SC at *
    unfold s_carried_names_1
    walk_at "ev"
end
section
variable {w : List Stm} {N : List Str}
theorem round_ok {y0 y1 y2 y5 : Sl} (hN : N.length = 25) (hw : ∀ x, Car w x → x ∈ N) : ∀ (v : List Stm) (L : List Str) (g : Bool) (y5 : Sl), (∀ s ∈ v, s ∈ w) → L.Nodup → (∀ x ∈ L, Car w x) →
    ∃ y5', forL (gSet 5) s_carried_names_1 (dB v) [y0, y1, y2, .own (.lst (L.map D.str)), .val (.bl g), y5] = .ok .nx [y0, y1, y2, .own (.lst ((rnd v L).map D.str)), .val (.bl (g || decide (rnd v L ≠ L))), y5']
  | [], L, g, y5, _, _, _ => ⟨y5, by rw [dB, forL_nil]; simp [rnd]⟩
  | s :: v, L, g, y5, hv, hnd, hL => by
    have hl : L.length ≤ 25 := hN ▸ hnd.length_le_of_subset fun x hx => hw x (hL x hx)
    have hs := hv s List.mem_cons_self
    obtain ⟨y5', e⟩ := round_ok (y5 := y5) hN hw v (stp L s) (g || decide (stp L s ≠ L)) (.val (dS s)) (fun u hu => hv u (List.mem_cons_of_mem _ hu)) (stp_nd hnd) (stp_in hs hL)
    refine ⟨y5', ?_⟩
    rw [dB, forL_cons]
    show (s_carried_names_1 [y0, y1, y2, .own (.lst (L.map D.str)), .val (.bl g), .val (dS s)]).lp _ = _
    rw [names_turn (by omega), lp_nx, e]
    have er : rnd v (stp L s) = rnd (s :: v) L := rfl
    rw [er]
    have eq : (g || decide (stp L s ≠ L) || decide (rnd (s :: v) L ≠ stp L s)) = (g || decide (rnd (s :: v) L ≠ L)) := by
      rw [Bool.or_assoc]
      congr 1
      by_cases h1 : stp L s = L
      · rw [h1, decide_eq_false (fun z => z rfl), Bool.false_or]
      · have p1 := stp_pre L s
        have p2 : stp L s <+: rnd (s :: v) L := fold_pre v (stp L s)
        have : rnd (s :: v) L ≠ L := fun z => by
          rw [z] at p2
          exact h1 (p1.eq_of_length (by have := p1.length_le; have := p2.length_le; omega)).symm
        rw [decide_eq_true h1, decide_eq_true this, Bool.true_or]
    rw [eq]
theorem names_loop {y0 y1 : Sl} (hN : N.length = 25) (hw : ∀ x, Car w x → x ∈ N) : ∀ (n : Nat) (L : List Str) (y5 : Sl), L.Nodup → (∀ x ∈ L, Car w x) → 27 < n + L.length →
    ∃ (L' : List Str) (y5' : Sl), whileN (cB (cVar 4)) s_carried_names_2 n [y0, y1, .val (.lst (dB w)), .own (.lst (L.map D.str)), .val (.bl true), y5] = .ok .nx [y0, y1, .val (.lst (dB w)), .own (.lst (L'.map D.str)), .val (.bl false), y5'] ∧ L'.Nodup ∧ ∀ x, x ∈ L' ↔ Car w x
  | 0, L, _, hnd, hL, hn => by
    have : L.length ≤ 25 := hN ▸ hnd.length_le_of_subset fun x hx => hw x (hL x hx)
    omega
  | n + 1, L, y5, hnd, hL, hn => by
    have hl : L.length ≤ 25 := hN ▸ hnd.length_le_of_subset fun x hx => hw x (hL x hx)
    rw [whileN_s]
    have c1 : cB (cVar 4) [y0, y1, .val (.lst (dB w)), .own (.lst (L.map D.str)), .val (.bl true), y5] = .ok true [y0, y1, .val (.lst (dB w)), .own (.lst (L.map D.str)), .val (.bl true), y5] := rfl
    rw [c1]
    dsimp only
    obtain ⟨y5', e1⟩ := round_ok (y0 := y0) (y1 := y1) (y2 := .val (.lst (dB w))) (y5 := y5) hN hw w L false y5 (fun s hs => hs) hnd hL
    have t1 : s_carried_names_2 [y0, y1, .val (.lst (dB w)), .own (.lst (L.map D.str)), .val (.bl true), y5] = .ok .nx [y0, y1, .val (.lst (dB w)), .own (.lst ((rnd w L).map D.str)), .val (.bl (decide (rnd w L ≠ L))), y5'] := by
      rw [Bool.false_or] at e1
      clear hw hnd hL hn hl c1 hN
      generalize dB w = WD at *
      generalize (rnd w L).map D.str = LD2 at *
      generalize L.map D.str = LD at *
      generalize decide (rnd w L ≠ L) = GG at *
      unfold s_carried_names_2
      walk_at "ev"
    rw [t1]
    dsimp only
    have nd2 : (rnd w L).Nodup := by
      have : ∀ (v : List Stm) (L : List Str), L.Nodup → (v.foldl stp L).Nodup := by
        intro v
        induction v with
        | nil => exact fun L h => h
        | cons s v ih => exact fun L h => ih _ (stp_nd h)
      exact this w L hnd
    have in2 : ∀ x ∈ rnd w L, Car w x := by
      have : ∀ (v : List Stm) (L : List Str), (∀ s ∈ v, s ∈ w) → (∀ x ∈ L, Car w x) → ∀ x ∈ v.foldl stp L, Car w x := by
        intro v
        induction v with
        | nil => exact fun L _ h => h
        | cons s v ih => exact fun L hv h => ih _ (fun u hu => hv u (List.mem_cons_of_mem _ hu)) (stp_in (hv s List.mem_cons_self) h)
      exact this w L (fun s hs => hs) hL
    by_cases h : rnd w L = L
    · rw [decide_eq_false (fun z => z h), h]
      obtain ⟨n, rfl⟩ : ∃ m, n = m + 1 := ⟨n - 1, by omega⟩
      refine ⟨L, y5', ?_, hnd, fun x => ⟨hL x, closed_all (fold_eq w L h) x⟩⟩
      rw [whileN_s]
      rfl
    · have hlt : L.length < (rnd w L).length := by
        have p : L <+: rnd w L := fold_pre w L
        have := p.length_le
        rcases Nat.lt_or_ge L.length (rnd w L).length with q | q
        · exact q
        · exact absurd (p.eq_of_length (by omega)).symm h
      rw [decide_eq_true h]
      exact names_loop hN hw n (rnd w L) y5' nd2 in2 (by omega)
end
end K08
namespace K08
open PySem PySem.Spec PyProof.Rows L2 L3
local macro_rules | `(tactic| walk_at "ev") => `(tactic| simp (config := {decide := true}) only [W_ok, bind_ok, thn_nx, thn_rt, thn_rn, thn_bk, thn_ct, cVar, cK, c1_e, c1_k, c2_e, c2_k, c2_k2, cB_e, cB_k, cAnd_e, cOr_e, cNot_e, cNot_k, cIte_e, iteK_t, iteK_f, iteK, okB, okV, cAndV_e, cOrV_e, cNotV_e, cNotV_k, cBv_e, aNil, aCons_e, aCons_k, aCons_k2, cTup_e, cTup_k, nLst_e, nLst_k, vN_e, vN_k, cN_e, cN_k, nN_e, nN_k, oNone, oSome_e, oSome_k, cSl_e, cSl_k, cSl_k2, cSl_k3, nSl_e, nSl_k, nSl_k2, nSl_k3, nCat_e, nCat_k, nCat_k2, sNil, sSeq, sFrz, sBrk, sCnt, sExp_e, sExp_k, sRet_e, sRet_k, sRetN_e, sRetN_k, sRetU, sIf_e, sSet_e, sSet_k, sSetN_e, sSetN_k, gSet, gsNil, gsCons_e, gsCons_k, nxK, gTupD, gLstD, sAsg_e, sAsg_k, sAug_e, sAug_k, iL_e, iL_k, iT_e, iT_k, iR1_e, iR1_k, iR2_e, iR2_k, iZ_e, iZ_k, iR3_e, iR3_k, cCh_e, cCh_k, cCh_k2, cCh_k3, nRan_e, nRan_k, r1F_e, r1F_k, r2F_e, r2F_k, r2F_k2, r3F_e, r3F_k, r3F_k2, r3F_k3, intP, sFor_e, run_e, runK_rt, runK_rn, runK_nx, fin, outs, cCall_e, cCall_k, cCall_k2, nCall_e, nCall_k, nCall_k2, callM, sls, lents, wbk, lk, pvD, pvDs, pvs, Sl.dat, Sl.put, gSubD_e, gSubD_k, cM_e, cM_k, cMr_e, cMr_k, cMr_k2, isTy_str, isTy_lst, cGet2_e, cGet2_k, cGet2_k2, cGet2_k3, isDic_d, iRv_e, iRv_k, get2_d, nDic0, cTru_e, cTru_k, tru_l, tru_t, emp_c, emp_n, nRevL_e, nRevL_k, iRvR_e, iRvR_k, anNew_e, anNew_k, anNew_k2, anCons_e, anCons_k, anCons_k2, cCallA_e, cCallA_k, cutA_ok, drop_l, drop_1, pNil, keyD, pCons_e, pCons_k, pCons_k2, pCons_k3, nDic_e, nDic_k, nLc_e, nLc_k, lcB_ok, unAll, backAll, noAdr, setAll, setAllF, List.map_cons, List.map_nil, hOne, cYes, List.all_cons, List.all_nil, Bool.and_true, Bool.true_and, Bool.and_self, Option.map_none, ofO, Rt.d, add_i, mns_i, mul_r, mul_l, div_i, mod_i, neg_i, lt_i, le_i, gt_i, ge_i, int_i, abs_i, len_l, len_t, get_l, get_t, toT_l, toT_t, eq_i, ne_i, eq_s, ne_s, rg_len, isN_non, isN_int, notN_non, notN_int, pow18, isi_int, isi_bool, max_ii, max_l, max_t, sum_l, sum_t, toL_l, toL_t, sl_l, sl_t, sg1, sg2, sg3, sg4, sg5, ss2, ss3, ss4, ss5, List.getElem?_cons_zero, List.getElem?_cons_succ, List.set_cons_zero, List.set_cons_succ, List.length_cons, List.length_nil, List.length_map, List.length_range, List.replicate, List.cons_append, List.nil_append, Option.bind_some, Option.map_some, Option.isSome_some, Option.bind_none, if_true, if_false, reduceIte, decide_eq_true_eq, Bool.false_eq_true, reduceCtorEq, decide_true, decide_false, Bool.not_true, Bool.not_false, *])
local macro_rules | `(tactic| walk_at "evc") => `(tactic| simp (config := {decide := true}) only [at0, at1, at2, at3, set0, set1, set2, ran0, ran1, ran2, ran3, maxI_one, maxI_cons, asI_nil, asI_cons, add_l, add_t, app_l, line_le, line_lt, forL_nil, forL_cons, forL_k, lp_nx, lp_ct, lp_bk, lp_rt, lp_rn, sub_ok, lcL_nil, lcL_cons, lcH_some, lcL_k, lcL_k2, L3.cutD, HT.sIx, List.take_succ_cons, List.take_zero, List.drop_succ_cons, List.drop_zero, List.sum_cons, List.sum_nil, Nat.reduceAdd, Int.reduceSub, Int.reduceAdd, int_lit, Int.reduceToNat, Nat.reduceSub, Nat.min_def, Nat.reduceLeDiff, Int.reduceLT, W_ok, bind_ok, thn_nx, thn_rt, thn_rn, thn_bk, thn_ct, cVar, cK, c1_e, c1_k, c2_e, c2_k, c2_k2, cB_e, cB_k, cAnd_e, cOr_e, cNot_e, cNot_k, cIte_e, iteK_t, iteK_f, iteK, okB, okV, cAndV_e, cOrV_e, cNotV_e, cNotV_k, cBv_e, aNil, aCons_e, aCons_k, aCons_k2, cTup_e, cTup_k, nLst_e, nLst_k, vN_e, vN_k, cN_e, cN_k, nN_e, nN_k, oNone, oSome_e, oSome_k, cSl_e, cSl_k, cSl_k2, cSl_k3, nSl_e, nSl_k, nSl_k2, nSl_k3, nCat_e, nCat_k, nCat_k2, sNil, sSeq, sFrz, sBrk, sCnt, sExp_e, sExp_k, sRet_e, sRet_k, sRetN_e, sRetN_k, sRetU, sIf_e, sSet_e, sSet_k, sSetN_e, sSetN_k, gSet, gsNil, gsCons_e, gsCons_k, nxK, gTupD, gLstD, sAsg_e, sAsg_k, sAug_e, sAug_k, iL_e, iL_k, iT_e, iT_k, iR1_e, iR1_k, iR2_e, iR2_k, iZ_e, iZ_k, iR3_e, iR3_k, cCh_e, cCh_k, cCh_k2, cCh_k3, nRan_e, nRan_k, r1F_e, r1F_k, r2F_e, r2F_k, r2F_k2, r3F_e, r3F_k, r3F_k2, r3F_k3, intP, sFor_e, run_e, runK_rt, runK_rn, runK_nx, fin, outs, cCall_e, cCall_k, cCall_k2, nCall_e, nCall_k, nCall_k2, callM, sls, lents, wbk, lk, pvD, pvDs, pvs, Sl.dat, Sl.put, gSubD_e, gSubD_k, cM_e, cM_k, cMr_e, cMr_k, cMr_k2, isTy_str, isTy_lst, cGet2_e, cGet2_k, cGet2_k2, cGet2_k3, isDic_d, iRv_e, iRv_k, get2_d, nDic0, cTru_e, cTru_k, tru_l, tru_t, emp_c, emp_n, nRevL_e, nRevL_k, iRvR_e, iRvR_k, anNew_e, anNew_k, anNew_k2, anCons_e, anCons_k, anCons_k2, cCallA_e, cCallA_k, cutA_ok, drop_l, drop_1, pNil, keyD, pCons_e, pCons_k, pCons_k2, pCons_k3, nDic_e, nDic_k, nLc_e, nLc_k, lcB_ok, unAll, backAll, noAdr, setAll, setAllF, List.map_cons, List.map_nil, hOne, cYes, List.all_cons, List.all_nil, Bool.and_true, Bool.true_and, Bool.and_self, Option.map_none, ofO, Rt.d, add_i, mns_i, mul_r, mul_l, div_i, mod_i, neg_i, lt_i, le_i, gt_i, ge_i, int_i, abs_i, len_l, len_t, get_l, get_t, toT_l, toT_t, eq_i, ne_i, eq_s, ne_s, rg_len, isN_non, isN_int, notN_non, notN_int, pow18, isi_int, isi_bool, max_ii, max_l, max_t, sum_l, sum_t, toL_l, toL_t, sl_l, sl_t, sg1, sg2, sg3, sg4, sg5, ss2, ss3, ss4, ss5, List.getElem?_cons_zero, List.getElem?_cons_succ, List.set_cons_zero, List.set_cons_succ, List.length_cons, List.length_nil, List.length_map, List.length_range, List.replicate, List.cons_append, List.nil_append, Option.bind_some, Option.map_some, Option.isSome_some, Option.bind_none, if_true, if_false, reduceIte, decide_eq_true_eq, Bool.false_eq_true, reduceCtorEq, decide_true, decide_false, Bool.not_true, Bool.not_false, *])
/-- a comprehension with a test -/
theorem lcL_fm {α : Type} {is : List Nat} {h : D → Option (List D)} {c : En → Out Bool} {e : En → Out Pv} {ρ : En} (p : α → Bool) (dIn dOut : α → D) :
    ∀ (xs : List α) (acc : List D), acc.length + xs.length ≤ sizeLine → (∀ x ∈ xs, ∃ ps ρ2, h (dIn x) = some ps ∧ c (setAll ρ is (ps.map .val)) = .ok (p x) ρ2 ∧ unAll ρ2 is = ρ ∧ (p x = true → ∃ ρ3, e ρ2 = .ok (.v (dOut x)) ρ3 ∧ unAll ρ3 is = ρ)) →
      lcL is h c e (xs.map dIn) acc ρ = .ok (acc ++ (xs.filter p).map dOut) ρ
  | [], acc, _, _ => by simp [lcL]
  | x :: xs, acc, hl, H => by
    obtain ⟨ps, ρ2, e1, e2, e3, e4⟩ := H x List.mem_cons_self
    have hl' : acc.length < sizeLine := by simp only [List.length_cons] at hl; omega
    have hr := fun y hy => H y (List.mem_cons_of_mem x hy)
    cases hp : p x with
    | true =>
      obtain ⟨ρ3, e5, e6⟩ := e4 hp
      rw [hp] at e2
      simp only [List.map_cons, lcL, e1, e2, e5, e6, if_pos hl']
      rw [lcL_fm p dIn dOut xs (acc ++ [dOut x]) (by simp only [List.length_append, List.length_cons, List.length_nil] at hl ⊢; omega) hr, List.filter_cons_of_pos hp]
      simp
    | false =>
      rw [hp] at e2
      simp only [List.map_cons, lcL, e1, e2, e3]
      rw [lcL_fm p dIn dOut xs acc (by simp only [List.length_cons] at hl; omega) hr, List.filter_cons_of_neg (by rw [hp]; decide)]
theorem sorted_l {L : List Str} (h : L.length < 64) : gSorted [.lst (L.map D.str)] = some (.lst ((srtS L).map D.str)) := by
  show (asStrs (L.map D.str)).bind _ = _
  rw [asStrs_map, Option.bind_some, if_pos h]
section
variable {w : List Stm} {N : List Str} {T : D}
theorem carried_names_ok {x : Str} (hN : N.length = 25) (hw : ∀ x, Car w x → x ∈ N) (e1 : m_walk_of [.val T, .val (.str x)] = .ok (.n (.lst (dB w))) [.un, .un]) :
    ∃ L : List Str, m_carried_names [.val T, .val (.str x)] = .ok (.v (.tup ((srtS L).map D.str))) [.un, .un] ∧ L.Nodup ∧ (∀ x, x ∈ L ↔ Car w x) ∧ L.length ≤ 25 := by
  obtain ⟨L, y5, e2, nd, iff⟩ := names_loop (w := w) (N := N) (y0 := .val T) (y1 := .val (.str x)) hN hw 100000 [] .un (by simp) (fun x hx => by cases hx) (by simp)
  have hl : L.length ≤ 25 := hN ▸ nd.length_le_of_subset fun x hx => hw x ((iff x).mp hx)
  refine ⟨L, ?_, nd, iff, hl⟩
  have es := sorted_l (L := L) (by omega)
  rw [List.map_nil] at e2
  have z0 : (0 : Nat) ≤ sizeLine := Nat.zero_le _
  clear hN hw nd iff hl
  generalize (srtS L).map D.str = SL at *
  generalize L.map D.str = LD at *
  generalize dB w = WD at *
  unfold m_carried_names g_carried_names
  generalize whileN (cB (cVar 4)) s_carried_names_2 100000 = WH at *
  walk_at "ev"
/-! ### the law's own closure -/
theorem kd_take (s : Stm) : decide (kd s = "take") = isTake s := by
  cases s with
  | sum k x a b => cases k <;> (first | exact decide_eq_false (by simp only [kd, Sk.s]; decide) | exact decide_eq_true rfl | exact decide_eq_true (by simp only [kd, Sk.s]; decide))
  | _ => first | exact decide_eq_false (by simp only [kd, Sk.s]; decide) | exact decide_eq_true rfl | exact decide_eq_true (by simp only [kd, Sk.s]; decide)
theorem kd_gives (s : Stm) : decide (kd s ∈ [("set" : Str), "plus", "minus", "times"]) = gives s := by
  cases s with
  | sum k x a b => cases k <;> (first | exact decide_eq_false (by simp only [kd, Sk.s]; decide) | exact decide_eq_true rfl | exact decide_eq_true (by simp only [kd, Sk.s]; decide))
  | _ => first | exact decide_eq_false (by simp only [kd, Sk.s]; decide) | exact decide_eq_true rfl | exact decide_eq_true (by simp only [kd, Sk.s]; decide)
theorem tgt_at' {s : Stm} (h : isTake s = true ∨ gives s = true) : gGet (dS s) (.int 1) = some (.str (tgt s)) := by
  cases s with
  | take x c => rw [dS]; rfl
  | set x a => rw [dS]; rfl
  | sum k x a b => rw [dS]; rfl
  | _ => simp [isTake, gives] at h
theorem cut2 {s : Stm} (h : gives s = true) : gSl (dS s) (some 2) none = some (.tup ((ops s).map Op.d)) := by
  have : ∀ l : List D, gSl (.tup l) (some 2) none = some (.tup (l.drop 2)) := fun l => by
    show some (D.tup (L3.cutD l (some ((2 : Nat) : Int)) none)) = _
    rw [cut_from]
  cases s with
  | set x a => rw [dS, this]; rfl
  | sum k x a b => rw [dS, this]; rfl
  | _ => simp [gives] at h
def tks (w : List Stm) : List Str := (w.filter isTake).map tgt
def gvs (w : List Stm) : List Stm := w.filter gives
def more (w : List Stm) (x : Str) : List Str := ((gvs w).filter fun s => (ops s).any (opIs x)).map tgt
theorem takes_comp {y0 y1 y2 y3 y4 y5 : Sl} (hl : w.length ≤ 1000000) : lcL [6] hOne t__law_closure_1 e__law_closure_2 (dB w) [] [y0, y1, y2, y3, y4, y5, .un, .un] = .ok ((tks w).map D.str) [y0, y1, y2, y3, y4, y5, .un, .un] := by
  have := lcL_fm (is := [6]) (h := hOne) (c := t__law_closure_1) (e := e__law_closure_2) (ρ := [y0, y1, y2, y3, y4, y5, .un, .un]) isTake dS (fun s => .str (tgt s)) w [] (by rw [sizeLine_eq]; simp; omega) fun s _ => by
    have g0 := g_0 s
    have k := kd_take s
    refine ⟨[dS s], [y0, y1, y2, y3, y4, y5, .val (dS s), .un], rfl, ?_, rfl, fun ht => ⟨[y0, y1, y2, y3, y4, y5, .val (dS s), .un], ?_, rfl⟩⟩
    · show t__law_closure_1 [y0, y1, y2, y3, y4, y5, .val (dS s), .un] = _
      rw [← k]
      clear k
      generalize dS s = SC at *
      generalize kd s = KD at *
      unfold t__law_closure_1
      walk_at "ev"
    · have g1 := tgt_at' (.inl ht)
      clear g0 k ht
      generalize dS s = SC at *
      unfold e__law_closure_2
      walk_at "ev"
  rw [dB_map, this, List.nil_append]
  unfold tks
  rw [List.map_map]; rfl
theorem gives_comp {y0 y1 y2 y3 y4 y5 : Sl} (hl : w.length ≤ 1000000) : lcL [6] hOne t__law_closure_3 e__law_closure_4 (dB w) [] [y0, y1, y2, y3, y4, y5, .un, .un] = .ok (dB (gvs w)) [y0, y1, y2, y3, y4, y5, .un, .un] := by
  have := lcL_fm (is := [6]) (h := hOne) (c := t__law_closure_3) (e := e__law_closure_4) (ρ := [y0, y1, y2, y3, y4, y5, .un, .un]) gives dS dS w [] (by rw [sizeLine_eq]; simp; omega) fun s _ => by
    have g0 := g_0 s
    have k := kd_gives s
    have hin : gInX false (.str (kd s)) (.tup [.str "set", .str "plus", .str "minus", .str "times"]) = some (.bl (gives s)) := by
      have := in_ts false (kd s) ["set", "plus", "minus", "times"]
      rw [k] at this
      exact this
    refine ⟨[dS s], [y0, y1, y2, y3, y4, y5, .val (dS s), .un], rfl, ?_, rfl, fun ht => ⟨[y0, y1, y2, y3, y4, y5, .val (dS s), .un], rfl, rfl⟩⟩
    show t__law_closure_3 [y0, y1, y2, y3, y4, y5, .val (dS s), .un] = _
    clear k
    have z4 : (4 : Nat) ≤ sizeLine := by rw [sizeLine_eq]; decide
    generalize dS s = SC at *
    generalize kd s = KD at *
    generalize gives s = GS at *
    unfold t__law_closure_3
    walk_at "evc"
  rw [dB_map, this, List.nil_append, dB_map]
  rfl
theorem fresh_comp {R F : List Str} {y0 y1 y2 y4 y5 : Sl} (hl : R.length ≤ 1000000) : lcL [7] hOne t__law_closure_5 e__law_closure_6 (R.map D.str) [] [y0, y1, y2, .own (.lst (F.map D.str)), y4, y5, .un, .un] = .ok ((R.filter fun x => decide (x ∉ F)).map D.str) [y0, y1, y2, .own (.lst (F.map D.str)), y4, y5, .un, .un] := by
  have := lcL_fm (is := [7]) (h := hOne) (c := t__law_closure_5) (e := e__law_closure_6) (ρ := [y0, y1, y2, .own (.lst (F.map D.str)), y4, y5, .un, .un]) (fun x => decide (x ∉ F)) D.str D.str R [] (by rw [sizeLine_eq]; simp; omega) fun x _ => by
    have hin : gInX true (.str x) (.lst (F.map D.str)) = some (.bl (decide (x ∉ F))) := by
      rw [in_ls]
      by_cases h : x ∈ F
      · rw [decide_eq_true h, decide_eq_false (fun z => z h)]; rfl
      · rw [decide_eq_false h, decide_eq_true h]; rfl
    refine ⟨[.str x], [y0, y1, y2, .own (.lst (F.map D.str)), y4, y5, .un, .val (.str x)], rfl, ?_, rfl, fun ht => ⟨[y0, y1, y2, .own (.lst (F.map D.str)), y4, y5, .un, .val (.str x)], rfl, rfl⟩⟩
    show t__law_closure_5 [y0, y1, y2, .own (.lst (F.map D.str)), y4, y5, .un, .val (.str x)] = _
    generalize F.map D.str = FD at *
    generalize decide (x ∉ F) = B at *
    unfold t__law_closure_5
    walk_at "ev"
  rw [this, List.nil_append]
theorem more_comp {x : Str} {r : List D} {y0 y1 y2 y3 y4 : Sl} (hl : w.length ≤ 1000000) : lcL [6] hOne t__law_closure_7 e__law_closure_8 (dB (gvs w)) [] [y0, y1, y2, y3, y4, .val (.lst (.str x :: r)), .un, .un] = .ok ((more w x).map D.str) [y0, y1, y2, y3, y4, .val (.lst (.str x :: r)), .un, .un] := by
  have := lcL_fm (is := [6]) (h := hOne) (c := t__law_closure_7) (e := e__law_closure_8) (ρ := [y0, y1, y2, y3, y4, .val (.lst (.str x :: r)), .un, .un]) (fun s => (ops s).any (opIs x)) dS (fun s => .str (tgt s)) (gvs w) [] (by
      have := List.length_filter_le gives w
      unfold gvs
      rw [sizeLine_eq]; simp; omega) fun s hs => by
    have hg : gives s = true := (List.mem_filter.mp hs).2
    have hc := cut2 hg
    have hin := in_o x (ops s)
    have g0 : gGet (.lst (.str x :: r)) (.int 0) = some (.str x) := atI_nat (j := 0) rfl
    refine ⟨[dS s], [y0, y1, y2, y3, y4, .val (.lst (.str x :: r)), .val (dS s), .un], rfl, ?_, rfl, fun ht => ⟨[y0, y1, y2, y3, y4, .val (.lst (.str x :: r)), .val (dS s), .un], ?_, rfl⟩⟩
    · show t__law_closure_7 [y0, y1, y2, y3, y4, .val (.lst (.str x :: r)), .val (dS s), .un] = _
      generalize D.str x :: r = XR at *
      generalize (ops s).map Op.d = OD at *
      generalize dS s = SC at *
      generalize (ops s).any (opIs x) = B at *
      clear hg hs
      unfold t__law_closure_7
      walk_at "ev"
    · have g1 := tgt_at' (.inr hg)
      show e__law_closure_8 [y0, y1, y2, y3, y4, .val (.lst (.str x :: r)), .val (dS s), .un] = _
      clear g0 hc hin ht hg hs
      generalize D.str x :: r = XR at *
      generalize dS s = SC at *
      unfold e__law_closure_8
      walk_at "ev"
  rw [dB_map, this, List.nil_append]
  unfold more
  rw [List.map_map]; rfl
/-- the state of the closure -/
structure Cl (w : List Stm) (F R : List Str) : Prop where
  nd : F.Nodup
  fc : ∀ x ∈ F, Car w x
  rc : ∀ x ∈ R, Car w x
  tk : ∀ x ∈ tks w, x ∈ R
  mo : ∀ x ∈ F, ∀ y ∈ more w x, y ∈ R
theorem tks_car : ∀ x ∈ tks w, Car w x := fun x hx => by
  obtain ⟨s, hs, rfl⟩ := List.mem_map.mp hx
  obtain ⟨h1, h2⟩ := List.mem_filter.mp hs
  exact .take h1 h2
theorem more_car {x : Str} (h : Car w x) : ∀ y ∈ more w x, Car w y := fun y hy => by
  obtain ⟨s, hs, rfl⟩ := List.mem_map.mp hy
  obtain ⟨h1, h2⟩ := List.mem_filter.mp hs
  obtain ⟨h3, h4⟩ := List.mem_filter.mp h1
  exact .give h3 h4 h2 h
theorem Cl.done {F R : List Str} (h : Cl w F R) (hR : ∀ x ∈ R, x ∈ F) : ∀ x, x ∈ F ↔ Car w x := fun x => ⟨h.fc x, fun c => by
  induction c with
  | take hs t => exact hR _ (h.tk _ (List.mem_map.mpr ⟨_, List.mem_filter.mpr ⟨hs, t⟩, rfl⟩))
  | give hs g o c ih => exact hR _ (h.mo _ ih _ (List.mem_map.mpr ⟨_, List.mem_filter.mpr ⟨List.mem_filter.mpr ⟨hs, g⟩, o⟩, rfl⟩))⟩
theorem Cl.next {F R : List Str} {x : Str} (h : Cl w F R) (hx : x ∈ R) (hf : x ∉ F) : Cl w (F ++ [x]) (R ++ more w x) where
  nd := List.nodup_append.mpr ⟨h.nd, by simp, fun a ha b hb e => by rw [List.mem_singleton.mp hb] at e; exact hf (e ▸ ha)⟩
  fc := fun y hy => (List.mem_append.mp hy).elim (h.fc y) fun hy => by rw [List.mem_singleton.mp hy]; exact h.rc x hx
  rc := fun y hy => (List.mem_append.mp hy).elim (h.rc y) fun hy => more_car (h.rc x hx) y hy
  tk := fun y hy => List.mem_append.mpr (.inl (h.tk y hy))
  mo := fun y hy z hz => (List.mem_append.mp hy).elim (fun hy => List.mem_append.mpr (.inl (h.mo y hy z hz))) fun hy => by
    rw [List.mem_singleton.mp hy] at hz
    exact List.mem_append.mpr (.inr hz)
theorem car_tgt {x : Str} (h : Car w x) : x ∈ w.map tgt := by
  cases h with
  | take hs _ => exact List.mem_map.mpr ⟨_, hs, rfl⟩
  | give hs _ _ _ => exact List.mem_map.mpr ⟨_, hs, rfl⟩
theorem more_len (x : Str) : (more w x).length ≤ w.length := by
  unfold more gvs
  rw [List.length_map]
  exact Nat.le_trans (List.length_filter_le _ _) (List.length_filter_le _ _)
theorem closure_turn {F R : List Str} {y0 y4 y5 : Sl} (hl : w.length ≤ 10000) (hR : R.length ≤ 500000) (hF : F.length < 64) :
    W (s__law_closure_9 [y0, .val (.lst (R.map D.str)), .val (.lst (dB (gvs w))), .own (.lst (F.map D.str)), y4, y5, .un, .un]) (fun fl ρ =>
      ((R.filter fun x => decide (x ∉ F)) = [] ∧ fl = .rn (.lst ((srtS F).map D.str)) ∧ ∃ y1 y3 y5', ρ = [y0, y1, .val (.lst (dB (gvs w))), y3, y4, y5', .un, .un]) ∨
      ∃ x y5', x ∈ R ∧ x ∉ F ∧ fl = .nx ∧ ρ = [y0, .val (.lst ((R ++ more w x).map D.str)), .val (.lst (dB (gvs w))), .own (.lst ((F ++ [x]).map D.str)), y4, y5', .un, .un]) := by
  have e1 := fresh_comp (R := R) (F := F) (y0 := y0) (y1 := .val (.lst (R.map D.str))) (y2 := .val (.lst (dB (gvs w)))) (y4 := y4) (y5 := y5) (by omega)
  have es := sorted_l (L := F) hF
  cases hf : R.filter (fun x => decide (x ∉ F)) with
  | nil =>
    rw [hf, List.map_nil] at e1
    have eq : s__law_closure_9 [y0, .val (.lst (R.map D.str)), .val (.lst (dB (gvs w))), .own (.lst (F.map D.str)), y4, y5, .un, .un] = .ok (.rn (.lst ((srtS F).map D.str))) [y0, .val (.lst (R.map D.str)), .val (.lst (dB (gvs w))), .own (.lst (F.map D.str)), y4, .val (.lst []), .un, .un] := by
      clear hf hl hR hF
      generalize (srtS F).map D.str = SF at *
      generalize F.map D.str = FD at *
      generalize R.map D.str = RD at *
      generalize dB (gvs w) = GW at *
      unfold s__law_closure_9
      walk_at "ev"
    rw [eq]
    exact .inl ⟨rfl, rfl, _, _, _, rfl⟩
  | cons x r =>
    have hx := List.mem_filter.mp (hf ▸ List.mem_cons_self : x ∈ R.filter fun x => decide (x ∉ F))
    rw [hf, List.map_cons] at e1
    have e2 := more_comp (w := w) (x := x) (r := r.map D.str) (y0 := y0) (y1 := .val (.lst (R.map D.str))) (y2 := .val (.lst (dB (gvs w)))) (y3 := .own (.lst ((F ++ [x]).map D.str))) (y4 := y4) (by omega)
    have a1 : gAppend (.lst (F.map D.str)) [.str x] = some (.non, .lst ((F ++ [x]).map D.str)) := by
      rw [List.map_append]
      exact app_l (by rw [sizeLine_eq, List.length_map]; omega)
    have a2 : gAdd (.lst (R.map D.str)) (.lst ((more w x).map D.str)) = some (.lst ((R ++ more w x).map D.str)) := by
      rw [List.map_append]
      exact add_l (by have := more_len (w := w) x; rw [sizeLine_eq, List.length_map, List.length_map]; omega)
    have g0 : gGet (.lst (.str x :: r.map D.str)) (.int 0) = some (.str x) := atI_nat (j := 0) rfl
    have nz : ¬ ((((D.str x :: r.map D.str).length : Nat) : Int) = 0) := by simp only [List.length_cons]; omega
    have eq : s__law_closure_9 [y0, .val (.lst (R.map D.str)), .val (.lst (dB (gvs w))), .own (.lst (F.map D.str)), y4, y5, .un, .un] = .ok .nx [y0, .val (.lst ((R ++ more w x).map D.str)), .val (.lst (dB (gvs w))), .own (.lst ((F ++ [x]).map D.str)), y4, .val (.lst (.str x :: r.map D.str)), .un, .un] := by
      clear hf hl hR hF hx es
      generalize D.str x :: r.map D.str = XR at *
      generalize (R ++ more w x).map D.str = RM at *
      generalize (more w x).map D.str = MD at *
      generalize (F ++ [x]).map D.str = FX at *
      generalize F.map D.str = FD at *
      generalize R.map D.str = RD at *
      generalize dB (gvs w) = GW at *
      have eL : gLen [.lst XR] = some (.int (XR.length : Int)) := rfl
      generalize (XR.length : Int) = n at *
      unfold s__law_closure_9
      walk_at "ev"
    rw [eq]
    exact .inr ⟨x, _, hx.1, of_decide_eq_true hx.2, rfl, rfl⟩
theorem closure_ok (hN : N.length = 25) (hw : ∀ x, Car w x → x ∈ N) (hl : w.length ≤ 10000) : ∃ F : List Str, m__law_closure [.val (.lst (dB w))] = .ok (.n (.lst ((srtS F).map D.str))) [.un] ∧ F.Nodup ∧ ∀ x, x ∈ F ↔ Car w x := by
  have key : W (forL (gSet 4) s__law_closure_9 (rangeD 0 ((w.length + 1 : Nat) : Int)) [.val (.lst (dB w)), .val (.lst ((tks w).map D.str)), .val (.lst (dB (gvs w))), .own (.lst []), .un, .un, .un, .un])
      (fun fl ρ => ∃ F : List Str, fl = .rn (.lst ((srtS F).map D.str)) ∧ F.Nodup ∧ (∀ x, x ∈ F ↔ Car w x) ∧ ∃ y0 y1 y2 y3 y4 y5, ρ = [y0, y1, y2, y3, y4, y5, .un, .un]) := by
    refine forL_all (I := fun i ρ => ∃ (F R : List Str) (y4 y5 : Sl), ρ = [.val (.lst (dB w)), .val (.lst (R.map D.str)), .val (.lst (dB (gvs w))), .own (.lst (F.map D.str)), y4, y5, .un, .un] ∧ Cl w F R ∧ F.length = i ∧ R.length ≤ (i + 1) * w.length)
      ⟨[], tks w, .un, .un, rfl, ⟨List.Pairwise.nil, fun x hx => (by cases hx), tks_car, fun x hx => hx, fun x hx => (by cases hx)⟩, rfl, ?_⟩ ?_ ?_
    · unfold tks
      rw [List.length_map]
      have := List.length_filter_le isTake w
      omega
    · rintro ρ ⟨F, R, y4, y5, rfl, h, hF, hR⟩
      rw [ran_len] at hF
      have := h.nd.length_le_of_subset (l₂ := w.map tgt) fun x hx => car_tgt (h.fc x hx)
      rw [List.length_map] at this
      omega
    · rintro i ρ p hd ⟨F, R, y4, y5, rfl, h, hF, hR⟩
      obtain ⟨rfl, hi⟩ := ran_nat hd
      have hFl : F.length ≤ 25 := hN ▸ h.nd.length_le_of_subset fun x hx => hw x (h.fc x hx)
      have hRl : R.length ≤ 500000 := by
        have : (i + 1) * w.length ≤ 26 * 10000 := Nat.mul_le_mul (by omega) hl
        omega
      refine ⟨_, rfl, ?_⟩
      refine W.imp (closure_turn (w := w) (F := F) (R := R) (y0 := .val (.lst (dB w))) (y4 := .val (.int (i : Int))) (y5 := y5) hl hRl (by omega)) fun fl ρ q => ?_
      rcases q with ⟨q1, rfl, y1, y3, y5', rfl⟩ | ⟨x, y5', hx, hf, rfl, rfl⟩
      · refine ⟨F, rfl, h.nd, h.done fun x hx => ?_, _, _, _, _, _, _, rfl⟩
        by_cases hxf : x ∈ F
        · exact hxf
        · have : x ∈ R.filter fun x => decide (x ∉ F) := List.mem_filter.mpr ⟨hx, decide_eq_true hxf⟩
          rw [q1] at this
          cases this
      · refine ⟨F ++ [x], R ++ more w x, _, _, rfl, h.next hx hf, by rw [List.length_append, hF]; rfl, ?_⟩
        have := more_len (w := w) x
        rw [List.length_append, show (i + 1 + 1) * w.length = (i + 1) * w.length + w.length by rw [Nat.add_mul (i + 1) 1, Nat.one_mul]]
        omega
  obtain ⟨fl, ρ, e, F, rfl, nd, iff, y0, y1, y2, y3, y4, y5, rfl⟩ := key.ok
  refine ⟨F, ?_, nd, iff⟩
  have e1 := takes_comp (w := w) (y0 := .val (.lst (dB w))) (y1 := .un) (y2 := .un) (y3 := .un) (y4 := .un) (y5 := .un) (by omega)
  have e2 := gives_comp (w := w) (y0 := .val (.lst (dB w))) (y1 := .val (.lst ((tks w).map D.str))) (y2 := .un) (y3 := .un) (y4 := .un) (y5 := .un) (by omega)
  have ir := inR_nat (n := w.length + 1) (by omega)
  have eL : gLen [.lst (dB w)] = some (.int (w.length : Int)) := by rw [len_l, dB_len]
  rw [show ((w.length + 1 : Nat) : Int) = (w.length : Int) + 1 by omega] at e ir
  have z0 : (0 : Nat) ≤ sizeLine := Nat.zero_le _
  clear key nd iff hN hw hl
  generalize (srtS F).map D.str = SF at *
  generalize (tks w).map D.str = TK at *
  generalize dB (gvs w) = GW at *
  generalize dB w = WD at *
  generalize (w.length : Int) = n at *
  unfold m__law_closure g__law_closure
  walk_at "ev"
end
end K08
namespace K08
open PySem PySem.Spec PyProof.Rows L2 L3
local macro_rules | `(tactic| walk_at "ev") => `(tactic| simp (config := {decide := true}) only [W_ok, bind_ok, thn_nx, thn_rt, thn_rn, thn_bk, thn_ct, cVar, cK, c1_e, c1_k, c2_e, c2_k, c2_k2, cB_e, cB_k, cAnd_e, cOr_e, cNot_e, cNot_k, cIte_e, iteK_t, iteK_f, iteK, okB, okV, cAndV_e, cOrV_e, cNotV_e, cNotV_k, cBv_e, aNil, aCons_e, aCons_k, aCons_k2, cTup_e, cTup_k, nLst_e, nLst_k, vN_e, vN_k, cN_e, cN_k, nN_e, nN_k, oNone, oSome_e, oSome_k, cSl_e, cSl_k, cSl_k2, cSl_k3, nSl_e, nSl_k, nSl_k2, nSl_k3, nCat_e, nCat_k, nCat_k2, sNil, sSeq, sFrz, sBrk, sCnt, sExp_e, sExp_k, sRet_e, sRet_k, sRetN_e, sRetN_k, sRetU, sIf_e, sSet_e, sSet_k, sSetN_e, sSetN_k, gSet, gsNil, gsCons_e, gsCons_k, nxK, gTupD, gLstD, sAsg_e, sAsg_k, sAug_e, sAug_k, iL_e, iL_k, iT_e, iT_k, iR1_e, iR1_k, iR2_e, iR2_k, iZ_e, iZ_k, iR3_e, iR3_k, cCh_e, cCh_k, cCh_k2, cCh_k3, nRan_e, nRan_k, r1F_e, r1F_k, r2F_e, r2F_k, r2F_k2, r3F_e, r3F_k, r3F_k2, r3F_k3, intP, sFor_e, run_e, runK_rt, runK_rn, runK_nx, fin, outs, cCall_e, cCall_k, cCall_k2, nCall_e, nCall_k, nCall_k2, callM, sls, lents, wbk, lk, pvD, pvDs, pvs, Sl.dat, Sl.put, gSubD_e, gSubD_k, cM_e, cM_k, cMr_e, cMr_k, cMr_k2, isTy_str, isTy_lst, cGet2_e, cGet2_k, cGet2_k2, cGet2_k3, isDic_d, iRv_e, iRv_k, get2_d, nDic0, cTru_e, cTru_k, tru_l, tru_t, emp_c, emp_n, nRevL_e, nRevL_k, iRvR_e, iRvR_k, anNew_e, anNew_k, anNew_k2, anCons_e, anCons_k, anCons_k2, cCallA_e, cCallA_k, cutA_ok, drop_l, drop_1, pNil, keyD, pCons_e, pCons_k, pCons_k2, pCons_k3, nDic_e, nDic_k, nLc_e, nLc_k, lcB_ok, unAll, backAll, noAdr, setAll, setAllF, List.map_cons, List.map_nil, hOne, cYes, List.all_cons, List.all_nil, Bool.and_true, Bool.true_and, Bool.and_self, Option.map_none, ofO, Rt.d, add_i, mns_i, mul_r, mul_l, div_i, mod_i, neg_i, lt_i, le_i, gt_i, ge_i, int_i, abs_i, len_l, len_t, get_l, get_t, toT_l, toT_t, eq_i, ne_i, eq_s, ne_s, rg_len, isN_non, isN_int, notN_non, notN_int, pow18, isi_int, isi_bool, max_ii, max_l, max_t, sum_l, sum_t, toL_l, toL_t, sl_l, sl_t, sg1, sg2, sg3, sg4, sg5, ss2, ss3, ss4, ss5, List.getElem?_cons_zero, List.getElem?_cons_succ, List.set_cons_zero, List.set_cons_succ, List.length_cons, List.length_nil, List.length_map, List.length_range, List.replicate, List.cons_append, List.nil_append, Option.bind_some, Option.map_some, Option.isSome_some, Option.bind_none, if_true, if_false, reduceIte, decide_eq_true_eq, Bool.false_eq_true, reduceCtorEq, decide_true, decide_false, Bool.not_true, Bool.not_false, *])
local macro_rules | `(tactic| walk_at "evc") => `(tactic| simp (config := {decide := true}) only [at0, at1, at2, at3, set0, set1, set2, ran0, ran1, ran2, ran3, maxI_one, maxI_cons, asI_nil, asI_cons, add_l, add_t, app_l, line_le, line_lt, forL_nil, forL_cons, forL_k, lp_nx, lp_ct, lp_bk, lp_rt, lp_rn, sub_ok, lcL_nil, lcL_cons, lcH_some, lcL_k, lcL_k2, L3.cutD, HT.sIx, List.take_succ_cons, List.take_zero, List.drop_succ_cons, List.drop_zero, List.sum_cons, List.sum_nil, Nat.reduceAdd, Int.reduceSub, Int.reduceAdd, int_lit, Int.reduceToNat, Nat.reduceSub, Nat.min_def, Nat.reduceLeDiff, Int.reduceLT, W_ok, bind_ok, thn_nx, thn_rt, thn_rn, thn_bk, thn_ct, cVar, cK, c1_e, c1_k, c2_e, c2_k, c2_k2, cB_e, cB_k, cAnd_e, cOr_e, cNot_e, cNot_k, cIte_e, iteK_t, iteK_f, iteK, okB, okV, cAndV_e, cOrV_e, cNotV_e, cNotV_k, cBv_e, aNil, aCons_e, aCons_k, aCons_k2, cTup_e, cTup_k, nLst_e, nLst_k, vN_e, vN_k, cN_e, cN_k, nN_e, nN_k, oNone, oSome_e, oSome_k, cSl_e, cSl_k, cSl_k2, cSl_k3, nSl_e, nSl_k, nSl_k2, nSl_k3, nCat_e, nCat_k, nCat_k2, sNil, sSeq, sFrz, sBrk, sCnt, sExp_e, sExp_k, sRet_e, sRet_k, sRetN_e, sRetN_k, sRetU, sIf_e, sSet_e, sSet_k, sSetN_e, sSetN_k, gSet, gsNil, gsCons_e, gsCons_k, nxK, gTupD, gLstD, sAsg_e, sAsg_k, sAug_e, sAug_k, iL_e, iL_k, iT_e, iT_k, iR1_e, iR1_k, iR2_e, iR2_k, iZ_e, iZ_k, iR3_e, iR3_k, cCh_e, cCh_k, cCh_k2, cCh_k3, nRan_e, nRan_k, r1F_e, r1F_k, r2F_e, r2F_k, r2F_k2, r3F_e, r3F_k, r3F_k2, r3F_k3, intP, sFor_e, run_e, runK_rt, runK_rn, runK_nx, fin, outs, cCall_e, cCall_k, cCall_k2, nCall_e, nCall_k, nCall_k2, callM, sls, lents, wbk, lk, pvD, pvDs, pvs, Sl.dat, Sl.put, gSubD_e, gSubD_k, cM_e, cM_k, cMr_e, cMr_k, cMr_k2, isTy_str, isTy_lst, cGet2_e, cGet2_k, cGet2_k2, cGet2_k3, isDic_d, iRv_e, iRv_k, get2_d, nDic0, cTru_e, cTru_k, tru_l, tru_t, emp_c, emp_n, nRevL_e, nRevL_k, iRvR_e, iRvR_k, anNew_e, anNew_k, anNew_k2, anCons_e, anCons_k, anCons_k2, cCallA_e, cCallA_k, cutA_ok, drop_l, drop_1, pNil, keyD, pCons_e, pCons_k, pCons_k2, pCons_k3, nDic_e, nDic_k, nLc_e, nLc_k, lcB_ok, unAll, backAll, noAdr, setAll, setAllF, List.map_cons, List.map_nil, hOne, cYes, List.all_cons, List.all_nil, Bool.and_true, Bool.true_and, Bool.and_self, Option.map_none, ofO, Rt.d, add_i, mns_i, mul_r, mul_l, div_i, mod_i, neg_i, lt_i, le_i, gt_i, ge_i, int_i, abs_i, len_l, len_t, get_l, get_t, toT_l, toT_t, eq_i, ne_i, eq_s, ne_s, rg_len, isN_non, isN_int, notN_non, notN_int, pow18, isi_int, isi_bool, max_ii, max_l, max_t, sum_l, sum_t, toL_l, toL_t, sl_l, sl_t, sg1, sg2, sg3, sg4, sg5, ss2, ss3, ss4, ss5, List.getElem?_cons_zero, List.getElem?_cons_succ, List.set_cons_zero, List.set_cons_succ, List.length_cons, List.length_nil, List.length_map, List.length_range, List.replicate, List.cons_append, List.nil_append, Option.bind_some, Option.map_some, Option.isSome_some, Option.bind_none, if_true, if_false, reduceIte, decide_eq_true_eq, Bool.false_eq_true, reduceCtorEq, decide_true, decide_false, Bool.not_true, Bool.not_false, *])
/-! ### why a statement asks -/
def rs : Stm → List Str → Option Str
  | .ifs a _ b _ _, L => if (has L a || has L b) = true then some "asked" else none
  | .get _ _ a, L => if has L a = true then some "index" else none
  | .put _ a b, L => if has L a = true then some "index" else if has L b = true then some "stored" else none
  | .sum .t _ a b, L => if (has L a && has L b) = true then some "product" else none
  | _, _ => none
def rD : Option Str → D
  | none => .non
  | some x => .str x
theorem inGP {x : Str} : gInX false (.str x) (.tup [.str "get", .str "put"]) = some (.bl (decide (x ∈ ([("get" : Str), "put"])))) := in_ts false x ["get", "put"]
section
variable {L : List Str} {s : Stm}
theorem comp_asks {y0 y2 y3 : Sl} (hl : (ops s).length ≤ 10) : lcL [4] hOne cYes e_asks_1 ((ops s).map Op.d) [] [y0, .val (.tup (L.map D.str)), y2, y3, .un] = .ok ((ops s).map fun a => .bl (has L a)) [y0, .val (.tup (L.map D.str)), y2, y3, .un] := by
  have := lcL_map (is := [4]) (h := hOne) (c := cYes) (e := e_asks_1) (ρ := [y0, .val (.tup (L.map D.str)), y2, y3, .un]) Op.d (fun a => .bl (has L a)) (ops s) [] (by rw [sizeLine_eq]; simp; omega) fun a _ =>
    ⟨[a.d], [y0, .val (.tup (L.map D.str)), y2, y3, .val a.d], [y0, .val (.tup (L.map D.str)), y2, y3, .val a.d], rfl, rfl, by
      have h1 := in_t false a L
      rw [show sel false (L.any fun x => opIs x a) = has L a from rfl] at h1
      generalize L.map D.str = LD at *
      generalize a.d = AD at *
      unfold e_asks_1
      walk_at "ev", rfl⟩
  rw [this, List.nil_append]
theorem asks_n {S : D} {k : Str} {O B : List D} {LD : D} (g0 : gGet S (.int 0) = some (.str k)) (eo : m_operands_of [.val S] = .ok (.v (.tup O)) [.un])
    (ec : lcL [4] hOne cYes e_asks_1 O [] [.val S, .val LD, .val (.str k), .un, .un] = .ok B [.val S, .val LD, .val (.str k), .un, .un])
    (h1 : ¬ k = "if") (h2 : ¬ k = "put") (h3 : ¬ k = "times") (h4 : gInX false (.str k) (.tup [.str "get", .str "put"]) = some (.bl false)) : m_asks [.val S, .val LD] = .ok (.v .non) [.un, .un] := by
  unfold m_asks g_asks
  walk_at "ev"
theorem asks_ok (s : Stm) (L : List Str) : m_asks [.val (dS s), .val (.tup (L.map D.str))] = .ok (.v (rD (rs s L))) [.un, .un] := by
  have g0 := g_0 s
  have eo := operands_ok s
  have ec := comp_asks (L := L) (s := s) (y0 := .val (dS s)) (y2 := .val (.str (kd s))) (y3 := .un) (Nat.le_trans (ops_le s) (by decide))
  have ea := any_b ((ops s).map (has L))
  rw [mapB] at ea
  have em : asB ((ops s).map (has L)) = .lst ((ops s).map fun a => .bl (has L a)) := by unfold asB; rw [List.map_map]; rfl
  rw [em] at ea
  have gp : ∀ x : Str, x ∈ [("get" : Str), "put"] → gInX false (.str x) (.tup [.str "get", .str "put"]) = some (.bl true) := fun x h => by rw [inGP, decide_eq_true h]
  have gn : ∀ x : Str, x ∉ [("get" : Str), "put"] → gInX false (.str x) (.tup [.str "get", .str "put"]) = some (.bl false) := fun x h => by rw [inGP, decide_eq_false h]
  clear em
  cases s with
  | ifs a e b p q =>
    have g := gn "if" (by decide)
    replace g0 : gGet (dS (.ifs a e b p q)) (.int 0) = some (.str "if") := g0
    have er : rs (.ifs a e b p q) L = (if ((ops (.ifs a e b p q)).any (has L)) = true then some "asked" else none : Option Str) := by
      simp only [rs, ops, List.any_cons, List.any_nil, Bool.or_false]
    rw [er]
    clear er gp gn
    change lcL [4] hOne cYes e_asks_1 _ [] [_, _, .val (.str "if"), _, _] = .ok _ [_, _, .val (.str "if"), _, _] at ec
    generalize dS (.ifs a e b p q) = SC at *
    generalize L.map D.str = LD at *
    generalize (ops (.ifs a e b p q)).map Op.d = OD at *
    generalize (ops (.ifs a e b p q)).map (fun a => D.bl (has L a)) = BL at *
    generalize (ops (.ifs a e b p q)).any (has L) = RB at *
    cases RB with
    | true =>
      unfold m_asks g_asks
      walk_at "ev"
      rfl
    | false =>
      unfold m_asks g_asks
      walk_at "ev"
      rfl
  | get x v a =>
    have g := gp "get" (by decide)
    replace g0 : gGet (dS (.get x v a)) (.int 0) = some (.str "get") := g0
    have er : rs (.get x v a) L = (if has L a = true then some "index" else none : Option Str) := rfl
    rw [er]
    change lcL [4] hOne cYes e_asks_1 [a.d] [] [_, _, .val (.str "get"), _, _] = .ok [.bl (has L a)] [_, _, .val (.str "get"), _, _] at ec
    have i0 : gGet (.lst [.bl (has L a)]) (.int 0) = some (.bl (has L a)) := rfl
    replace eo : m_operands_of [.val (dS (.get x v a))] = .ok (.v (.tup [a.d])) [.un] := eo
    clear er gp gn ea
    generalize dS (.get x v a) = SC at *
    generalize L.map D.str = LD at *
    generalize has L a = HA at *
    generalize [a.d] = OD at *
    generalize [D.bl HA] = BL at *
    cases HA with
    | true =>
      unfold m_asks g_asks
      walk_at "ev"
      rfl
    | false =>
      unfold m_asks g_asks
      walk_at "ev"
      rfl
  | put v a b =>
    have g := gp "put" (by decide)
    replace g0 : gGet (dS (.put v a b)) (.int 0) = some (.str "put") := g0
    have er : rs (.put v a b) L = (if has L a = true then some "index" else if has L b = true then some "stored" else none : Option Str) := rfl
    rw [er]
    change lcL [4] hOne cYes e_asks_1 [a.d, b.d] [] [_, _, .val (.str "put"), _, _] = .ok [.bl (has L a), .bl (has L b)] [_, _, .val (.str "put"), _, _] at ec
    have i0 : gGet (.lst [.bl (has L a), .bl (has L b)]) (.int 0) = some (.bl (has L a)) := rfl
    have i1 : gGet (.lst [.bl (has L a), .bl (has L b)]) (.int 1) = some (.bl (has L b)) := rfl
    replace eo : m_operands_of [.val (dS (.put v a b))] = .ok (.v (.tup [a.d, b.d])) [.un] := eo
    clear er gp gn ea
    generalize dS (.put v a b) = SC at *
    generalize L.map D.str = LD at *
    generalize has L a = HA at *
    generalize has L b = HB at *
    generalize [a.d, b.d] = OD at *
    generalize [D.bl HA, D.bl HB] = BL at *
    cases HA with
    | true =>
      unfold m_asks g_asks
      walk_at "ev"
      rfl
    | false =>
      cases HB with
      | true =>
        unfold m_asks g_asks
        walk_at "ev"
        rfl
      | false =>
        unfold m_asks g_asks
        walk_at "ev"
        rfl
  | sum k x a b =>
    cases k with
    | t =>
      have g := gn "times" (by decide)
      replace g0 : gGet (dS (.sum .t x a b)) (.int 0) = some (.str "times") := g0
      have er : rs (.sum .t x a b) L = (if (has L a && has L b) = true then some "product" else none : Option Str) := rfl
      rw [er]
      change lcL [4] hOne cYes e_asks_1 [a.d, b.d] [] [_, _, .val (.str "times"), _, _] = .ok [.bl (has L a), .bl (has L b)] [_, _, .val (.str "times"), _, _] at ec
      have i0 : gGet (.lst [.bl (has L a), .bl (has L b)]) (.int 0) = some (.bl (has L a)) := rfl
      have i1 : gGet (.lst [.bl (has L a), .bl (has L b)]) (.int 1) = some (.bl (has L b)) := rfl
      replace eo : m_operands_of [.val (dS (.sum .t x a b))] = .ok (.v (.tup [a.d, b.d])) [.un] := eo
      clear er gp gn ea
      generalize dS (.sum .t x a b) = SC at *
      generalize L.map D.str = LD at *
      generalize has L a = HA at *
      generalize has L b = HB at *
      generalize [a.d, b.d] = OD at *
      generalize [D.bl HA, D.bl HB] = BL at *
      cases HA with
      | true =>
        cases HB with
        | true =>
          unfold m_asks g_asks
          walk_at "ev"
          rfl
        | false =>
          unfold m_asks g_asks
          walk_at "ev"
          rfl
      | false =>
        unfold m_asks g_asks
        walk_at "ev"
        rfl
    | p => exact asks_n g0 eo ec (by simp only [kd, Sk.s]; decide) (by simp only [kd, Sk.s]; decide) (by simp only [kd, Sk.s]; decide) (gn _ (by simp only [kd, Sk.s]; decide))
    | m => exact asks_n g0 eo ec (by simp only [kd, Sk.s]; decide) (by simp only [kd, Sk.s]; decide) (by simp only [kd, Sk.s]; decide) (gn _ (by simp only [kd, Sk.s]; decide))
  | _ => exact asks_n g0 eo ec (by simp only [kd]; decide) (by simp only [kd]; decide) (by simp only [kd]; decide) (gn _ (by simp only [kd]; decide))
end
end K08
namespace K08
open PySem PySem.Spec PyProof.Rows L2 L3
local macro_rules | `(tactic| walk_at "ev") => `(tactic| simp (config := {decide := true}) only [W_ok, bind_ok, thn_nx, thn_rt, thn_rn, thn_bk, thn_ct, cVar, cK, c1_e, c1_k, c2_e, c2_k, c2_k2, cB_e, cB_k, cAnd_e, cOr_e, cNot_e, cNot_k, cIte_e, iteK_t, iteK_f, iteK, okB, okV, cAndV_e, cOrV_e, cNotV_e, cNotV_k, cBv_e, aNil, aCons_e, aCons_k, aCons_k2, cTup_e, cTup_k, nLst_e, nLst_k, vN_e, vN_k, cN_e, cN_k, nN_e, nN_k, oNone, oSome_e, oSome_k, cSl_e, cSl_k, cSl_k2, cSl_k3, nSl_e, nSl_k, nSl_k2, nSl_k3, nCat_e, nCat_k, nCat_k2, sNil, sSeq, sFrz, sBrk, sCnt, sExp_e, sExp_k, sRet_e, sRet_k, sRetN_e, sRetN_k, sRetU, sIf_e, sSet_e, sSet_k, sSetN_e, sSetN_k, gSet, gsNil, gsCons_e, gsCons_k, nxK, gTupD, gLstD, sAsg_e, sAsg_k, sAug_e, sAug_k, iL_e, iL_k, iT_e, iT_k, iR1_e, iR1_k, iR2_e, iR2_k, iZ_e, iZ_k, iR3_e, iR3_k, cCh_e, cCh_k, cCh_k2, cCh_k3, nRan_e, nRan_k, r1F_e, r1F_k, r2F_e, r2F_k, r2F_k2, r3F_e, r3F_k, r3F_k2, r3F_k3, intP, sFor_e, run_e, runK_rt, runK_rn, runK_nx, fin, outs, cCall_e, cCall_k, cCall_k2, nCall_e, nCall_k, nCall_k2, callM, sls, lents, wbk, lk, pvD, pvDs, pvs, Sl.dat, Sl.put, gSubD_e, gSubD_k, cM_e, cM_k, cMr_e, cMr_k, cMr_k2, isTy_str, isTy_lst, cGet2_e, cGet2_k, cGet2_k2, cGet2_k3, isDic_d, iRv_e, iRv_k, get2_d, nDic0, cTru_e, cTru_k, tru_l, tru_t, emp_c, emp_n, nRevL_e, nRevL_k, iRvR_e, iRvR_k, anNew_e, anNew_k, anNew_k2, anCons_e, anCons_k, anCons_k2, cCallA_e, cCallA_k, cutA_ok, drop_l, drop_1, pNil, keyD, pCons_e, pCons_k, pCons_k2, pCons_k3, nDic_e, nDic_k, nLc_e, nLc_k, lcB_ok, unAll, backAll, noAdr, setAll, setAllF, List.map_cons, List.map_nil, hOne, cYes, List.all_cons, List.all_nil, Bool.and_true, Bool.true_and, Bool.and_self, Option.map_none, ofO, Rt.d, add_i, mns_i, mul_r, mul_l, div_i, mod_i, neg_i, lt_i, le_i, gt_i, ge_i, int_i, abs_i, len_l, len_t, get_l, get_t, toT_l, toT_t, eq_i, ne_i, eq_s, ne_s, rg_len, isN_non, isN_int, notN_non, notN_int, pow18, isi_int, isi_bool, max_ii, max_l, max_t, sum_l, sum_t, toL_l, toL_t, sl_l, sl_t, sg1, sg2, sg3, sg4, sg5, ss2, ss3, ss4, ss5, List.getElem?_cons_zero, List.getElem?_cons_succ, List.set_cons_zero, List.set_cons_succ, List.length_cons, List.length_nil, List.length_map, List.length_range, List.replicate, List.cons_append, List.nil_append, Option.bind_some, Option.map_some, Option.isSome_some, Option.bind_none, if_true, if_false, reduceIte, decide_eq_true_eq, Bool.false_eq_true, reduceCtorEq, decide_true, decide_false, Bool.not_true, Bool.not_false, *])
local macro_rules | `(tactic| walk_at "evc") => `(tactic| simp (config := {decide := true}) only [at0, at1, at2, at3, set0, set1, set2, ran0, ran1, ran2, ran3, maxI_one, maxI_cons, asI_nil, asI_cons, add_l, add_t, app_l, line_le, line_lt, forL_nil, forL_cons, forL_k, lp_nx, lp_ct, lp_bk, lp_rt, lp_rn, sub_ok, lcL_nil, lcL_cons, lcH_some, lcL_k, lcL_k2, L3.cutD, HT.sIx, List.take_succ_cons, List.take_zero, List.drop_succ_cons, List.drop_zero, List.sum_cons, List.sum_nil, Nat.reduceAdd, Int.reduceSub, Int.reduceAdd, int_lit, Int.reduceToNat, Nat.reduceSub, Nat.min_def, Nat.reduceLeDiff, Int.reduceLT, W_ok, bind_ok, thn_nx, thn_rt, thn_rn, thn_bk, thn_ct, cVar, cK, c1_e, c1_k, c2_e, c2_k, c2_k2, cB_e, cB_k, cAnd_e, cOr_e, cNot_e, cNot_k, cIte_e, iteK_t, iteK_f, iteK, okB, okV, cAndV_e, cOrV_e, cNotV_e, cNotV_k, cBv_e, aNil, aCons_e, aCons_k, aCons_k2, cTup_e, cTup_k, nLst_e, nLst_k, vN_e, vN_k, cN_e, cN_k, nN_e, nN_k, oNone, oSome_e, oSome_k, cSl_e, cSl_k, cSl_k2, cSl_k3, nSl_e, nSl_k, nSl_k2, nSl_k3, nCat_e, nCat_k, nCat_k2, sNil, sSeq, sFrz, sBrk, sCnt, sExp_e, sExp_k, sRet_e, sRet_k, sRetN_e, sRetN_k, sRetU, sIf_e, sSet_e, sSet_k, sSetN_e, sSetN_k, gSet, gsNil, gsCons_e, gsCons_k, nxK, gTupD, gLstD, sAsg_e, sAsg_k, sAug_e, sAug_k, iL_e, iL_k, iT_e, iT_k, iR1_e, iR1_k, iR2_e, iR2_k, iZ_e, iZ_k, iR3_e, iR3_k, cCh_e, cCh_k, cCh_k2, cCh_k3, nRan_e, nRan_k, r1F_e, r1F_k, r2F_e, r2F_k, r2F_k2, r3F_e, r3F_k, r3F_k2, r3F_k3, intP, sFor_e, run_e, runK_rt, runK_rn, runK_nx, fin, outs, cCall_e, cCall_k, cCall_k2, nCall_e, nCall_k, nCall_k2, callM, sls, lents, wbk, lk, pvD, pvDs, pvs, Sl.dat, Sl.put, gSubD_e, gSubD_k, cM_e, cM_k, cMr_e, cMr_k, cMr_k2, isTy_str, isTy_lst, cGet2_e, cGet2_k, cGet2_k2, cGet2_k3, isDic_d, iRv_e, iRv_k, get2_d, nDic0, cTru_e, cTru_k, tru_l, tru_t, emp_c, emp_n, nRevL_e, nRevL_k, iRvR_e, iRvR_k, anNew_e, anNew_k, anNew_k2, anCons_e, anCons_k, anCons_k2, cCallA_e, cCallA_k, cutA_ok, drop_l, drop_1, pNil, keyD, pCons_e, pCons_k, pCons_k2, pCons_k3, nDic_e, nDic_k, nLc_e, nLc_k, lcB_ok, unAll, backAll, noAdr, setAll, setAllF, List.map_cons, List.map_nil, hOne, cYes, List.all_cons, List.all_nil, Bool.and_true, Bool.true_and, Bool.and_self, Option.map_none, ofO, Rt.d, add_i, mns_i, mul_r, mul_l, div_i, mod_i, neg_i, lt_i, le_i, gt_i, ge_i, int_i, abs_i, len_l, len_t, get_l, get_t, toT_l, toT_t, eq_i, ne_i, eq_s, ne_s, rg_len, isN_non, isN_int, notN_non, notN_int, pow18, isi_int, isi_bool, max_ii, max_l, max_t, sum_l, sum_t, toL_l, toL_t, sl_l, sl_t, sg1, sg2, sg3, sg4, sg5, ss2, ss3, ss4, ss5, List.getElem?_cons_zero, List.getElem?_cons_succ, List.set_cons_zero, List.set_cons_succ, List.length_cons, List.length_nil, List.length_map, List.length_range, List.replicate, List.cons_append, List.nil_append, Option.bind_some, Option.map_some, Option.isSome_some, Option.bind_none, if_true, if_false, reduceIte, decide_eq_true_eq, Bool.false_eq_true, reduceCtorEq, decide_true, decide_false, Bool.not_true, Bool.not_false, *])
/-! ### what can be laid down -/
theorem py_str {n : Nat} {x : Str} (h : PyData.strOk x = true) : pyOk n (.str x) = true := by cases n <;> exact h
theorem py_op {N : List Str} (hN : ∀ x ∈ N, PyData.strOk x = true) {n : Nat} {a : Op} (h : okO N a) : pyOk n a.d = true := by
  cases a with
  | nm x => exact py_str (hN x h)
  | no i => exact pyOk_int
theorem py_two {n : Nat} {l : List D} : (∀ d ∈ l, pyOk n d = true) → pyOk (n + 1) (.tup l) = true := pyOk_tup
theorem all2 {P : D → Prop} {a b : D} (h1 : P a) (h2 : P b) : ∀ d ∈ [a, b], P d := fun d h => by
  simp only [List.mem_cons, List.not_mem_nil, or_false] at h
  rcases h with rfl | rfl <;> assumption
theorem all3 {P : D → Prop} {a b c : D} (h1 : P a) (h2 : P b) (h3 : P c) : ∀ d ∈ [a, b, c], P d := fun d h => by
  simp only [List.mem_cons, List.not_mem_nil, or_false] at h
  rcases h with rfl | rfl | rfl <;> assumption
theorem all4 {P : D → Prop} {a b c e : D} (h1 : P a) (h2 : P b) (h3 : P c) (h4 : P e) : ∀ d ∈ [a, b, c, e], P d := fun d h => by
  simp only [List.mem_cons, List.not_mem_nil, or_false] at h
  rcases h with rfl | rfl | rfl | rfl <;> assumption
theorem all6 {P : D → Prop} {a b c e f g : D} (h1 : P a) (h2 : P b) (h3 : P c) (h4 : P e) (h5 : P f) (h6 : P g) : ∀ d ∈ [a, b, c, e, f, g], P d := fun d h => by
  simp only [List.mem_cons, List.not_mem_nil, or_false] at h
  rcases h with rfl | rfl | rfl | rfl | rfl | rfl <;> assumption
section
variable {N C : List Str}
theorem pyB_of {n : Nat} {b : List Stm} (h : ∀ s ∈ b, pyOk n (dS s) = true) : pyOk (n + 1) (.tup (dB b)) = true := pyOk_tup fun d hd => by
  rw [dB_map] at hd
  obtain ⟨s, hs, rfl⟩ := List.mem_map.mp hd
  exact h s hs
theorem pyS : (hN : ∀ x ∈ N, PyData.strOk x = true) → ∀ (k : Nat) (s : Stm), OkS N C k s → pyOk (2 * k + 1) (dS s) = true
  | hN, 0, s, h => by
    cases s with
    | set x a => rw [dS]; exact pyOk_tup (all3 (py_str (by decide +kernel)) (py_str (hN _ h.1)) (py_op hN h.2))
    | sum k x a b => rw [dS]; exact pyOk_tup (all4 (py_str (by cases k <;> decide +kernel)) (py_str (hN _ h.1)) (py_op hN h.2.1) (py_op hN h.2.2))
    | take x c => rw [dS]; exact pyOk_tup (all3 (py_str (by decide +kernel)) (py_str (hN _ h.1)) (py_str (hN _ h.2)))
    | read x c => rw [dS]; exact pyOk_tup (all3 (py_str (by decide +kernel)) (py_str (hN _ h.1)) (py_str (hN _ h.2)))
    | send x a => rw [dS]; exact pyOk_tup (all3 (py_str (by decide +kernel)) (py_str (hN _ h.1)) (py_op hN h.2))
    | get x v a => rw [dS]; exact pyOk_tup (all4 (py_str (by decide +kernel)) (py_str (hN _ h.1)) (py_str (hN _ h.2.1)) (py_op hN h.2.2))
    | put v a b => rw [dS]; exact pyOk_tup (all4 (py_str (by decide +kernel)) (py_str (hN _ h.1)) (py_op hN h.2.1) (py_op hN h.2.2))
    | call c => rw [dS]; exact pyOk_tup (all2 (py_str (by decide +kernel)) (py_str (hN _ h.1)))
    | ifs _ _ _ _ _ => exact h.elim
    | loop _ _ => exact h.elim
    | hold _ _ => exact h.elim
  | hN, k + 1, s, h => by
    cases s with
    | set x a => rw [dS]; exact pyOk_tup (all3 (py_str (by decide +kernel)) (py_str (hN _ h.1)) (py_op hN h.2))
    | sum k x a b => rw [dS]; exact pyOk_tup (all4 (py_str (by cases k <;> decide +kernel)) (py_str (hN _ h.1)) (py_op hN h.2.1) (py_op hN h.2.2))
    | take x c => rw [dS]; exact pyOk_tup (all3 (py_str (by decide +kernel)) (py_str (hN _ h.1)) (py_str (hN _ h.2)))
    | read x c => rw [dS]; exact pyOk_tup (all3 (py_str (by decide +kernel)) (py_str (hN _ h.1)) (py_str (hN _ h.2)))
    | send x a => rw [dS]; exact pyOk_tup (all3 (py_str (by decide +kernel)) (py_str (hN _ h.1)) (py_op hN h.2))
    | get x v a => rw [dS]; exact pyOk_tup (all4 (py_str (by decide +kernel)) (py_str (hN _ h.1)) (py_str (hN _ h.2.1)) (py_op hN h.2.2))
    | put v a b => rw [dS]; exact pyOk_tup (all4 (py_str (by decide +kernel)) (py_str (hN _ h.1)) (py_op hN h.2.1) (py_op hN h.2.2))
    | call c => rw [dS]; exact pyOk_tup (all2 (py_str (by decide +kernel)) (py_str (hN _ h.1)))
    | ifs a e b p q =>
      simp only [OkS] at h
      have h1 : pyOk (2 * k + 1 + 1) (.tup (dB p)) = true := pyB_of fun s hs => pyS hN k s (h.2.2.2.2.1 s hs)
      have h2 : pyOk (2 * k + 1 + 1) (.tup (dB q)) = true := pyB_of fun s hs => pyS hN k s (h.2.2.2.2.2 s hs)
      rw [dS]; exact pyOk_tup (n := 2 * k + 1 + 1) (all6 (py_str (by decide +kernel)) (py_op hN h.1) (py_str (by cases e <;> decide +kernel)) (py_op hN h.2.1) h1 h2)
    | loop n p =>
      simp only [OkS] at h
      have h1 : pyOk (2 * k + 1 + 1) (.tup (dB p)) = true := pyB_of fun s hs => pyS hN k s (h.2.2 s hs)
      rw [dS]; exact pyOk_tup (n := 2 * k + 1 + 1) (all3 (py_str (by decide +kernel)) pyOk_int h1)
    | hold n p =>
      simp only [OkS] at h
      have h1 : pyOk (2 * k + 1 + 1) (.tup (dB p)) = true := pyB_of fun s hs => pyS hN k s (h.2.2 s hs)
      rw [dS]; exact pyOk_tup (n := 2 * k + 1 + 1) (all3 (py_str (by decide +kernel)) (py_str (hN _ h.1)) h1)
mutual
theorem py_up : ∀ {d : D} {n : Nat}, pyOk n d = true → pyOk (n + 1) d = true
  | .non, n, h => rfl
  | .bl _, n, h => rfl
  | .int _, n, h => rfl
  | .str x, n, h => by cases n <;> exact h
  | .tup ds, 0, h => by simp [pyOk] at h
  | .tup ds, n + 1, h => pyL_up (n := n) h
  | .lst ds, 0, h => by simp [pyOk] at h
  | .lst ds, n + 1, h => pyL_up (n := n) h
  | .dic _, 0, h => by simp [pyOk] at h
  | .dic _, n + 1, h => by simp [pyOk] at h
  | .ty _, 0, h => by simp [pyOk] at h
  | .ty _, n + 1, h => by simp [pyOk] at h
theorem pyL_up : ∀ {ds : List D} {n : Nat}, pyOkL n ds = true → pyOkL (n + 1) ds = true
  | [], n, h => rfl
  | d :: r, n, h => by
    have h : pyOk n d = true ∧ pyOkL n r = true := by cases n <;> simpa [pyOkL] using h
    have h1 := py_up h.1
    have h2 := pyL_up h.2
    simp [pyOkL, h1, h2]
end
theorem py_le {d : D} {n m : Nat} (h : pyOk n d = true) (hm : n ≤ m) : pyOk m d = true := by
  induction hm with
  | refl => exact h
  | step _ ih => exact py_up ih
theorem pyBody (hN : ∀ x ∈ N, PyData.strOk x = true) {k : Nat} {b : List Stm} (hk : k ≤ 3) (h : OkB N C k b) : pyOk 20 (.tup (dB b)) = true :=
  py_le (pyB_of fun s hs => pyS hN k s (h s hs)) (by omega)
/-! ### the parts that are asked -/
def hit (L : List Str) : D → Bool
  | .str x => decide (x ∈ L)
  | _ => false
def pd : Stm → List D
  | .set x a => [.str x, a.d]
  | .sum _ x a b => [.str x, a.d, b.d]
  | .take x c => [.str x, .str c]
  | .read x p => [.str x, .str p]
  | .send c a => [.str c, a.d]
  | .get x v a => [.str x, .str v, a.d]
  | .put v a b => [.str v, a.d, b.d]
  | .call s => [.str s]
  | .ifs a e b _ _ => [a.d, .str (if e then "equal" else "below"), b.d]
  | .loop n p => [.int n, .tup (dB p)]
  | .hold l p => [.str l, .tup (dB p)]
theorem hit_o (L : List Str) (a : Op) : hit L a.d = has L a := by
  cases a with
  | nm x => exact (any_dec x L).symm
  | no i => exact (show (false : Bool) = L.any (fun _ => false) from by simp)
theorem cut_pd (s : Stm) : gSl (dS s) (some 1) (some 4) = some (.tup (pd s)) := by
  cases s <;> (rw [dS]; rfl)
theorem in_f {L : List Str} {n : Int} : gInX false (.int n) (.lst (L.map D.str)) = some (.bl false) := by
  have h := in_l false (.no n) L
  rw [show (L.any fun x => opIs x (.no n)) = false from by simp [opIs]] at h
  exact h
theorem in_b {L : List Str} {p : List Stm} (hL : ∀ x ∈ L, PyData.strOk x = true) (hp : pyOk 60 (.tup (dB p)) = true) : gInX false (.tup (dB p)) (.lst (L.map D.str)) = some (.bl false) := by
  have hl : pyOk 60 (.lst (L.map D.str)) = true := pyOk_lst (n := 59) fun d hd => by
    obtain ⟨x, hx, rfl⟩ := List.mem_map.mp hd
    exact py_str (hL x hx)
  have ha : amg (.tup (dB p)) (L.map D.str) = false := by
    unfold amg
    rw [List.any_map, List.any_eq_false]
    intro x _ h
    cases h
  unfold gInX
  rw [show gIn false (.tup (dB p)) (.lst (L.map D.str)) = none from rfl]
  simp only [hp, hl, ha, Bool.and_true, if_true, Bool.false_eq_true, if_false]
theorem hit_ok {L : List Str} {k : Nat} {s : Stm} (hN : ∀ x ∈ N, PyData.strOk x = true) (hL : ∀ x ∈ L, PyData.strOk x = true) (hk : k ≤ 3) (h : OkS N C k s) : ∀ d ∈ pd s, gInX false d (.lst (L.map D.str)) = some (.bl (hit L d)) := by
  have ho : ∀ a : Op, gInX false a.d (.lst (L.map D.str)) = some (.bl (hit L a.d)) := fun a => by rw [hit_o]; exact in_l false a L
  have hs : ∀ x : Str, gInX false (.str x) (.lst (L.map D.str)) = some (.bl (hit L (.str x))) := fun x => ho (.nm x)
  have hb : ∀ (j : Nat) (p : List Stm), j ≤ 3 → OkB N C j p → gInX false (.tup (dB p)) (.lst (L.map D.str)) = some (.bl (hit L (.tup (dB p)))) := fun j p hj hp => in_b hL (py_le (pyBody hN hj hp) (by decide))
  cases s with
  | set x a => exact all2 (hs _) (ho _)
  | sum k x a b => exact all3 (hs _) (ho _) (ho _)
  | take x c => exact all2 (hs _) (hs _)
  | read x c => exact all2 (hs _) (hs _)
  | send c a => exact all2 (hs _) (ho _)
  | get x v a => exact all3 (hs _) (hs _) (ho _)
  | put v a b => exact all3 (hs _) (ho _) (ho _)
  | call c => intro d hd; rw [pd, List.mem_singleton] at hd; subst hd; exact hs _
  | ifs a e b p q => exact all3 (ho _) (hs _) (ho _)
  | loop n p =>
    cases k with
    | zero => exact h.elim
    | succ k => exact all2 in_f (hb k p (by omega) h.2.2)
  | hold n p =>
    cases k with
    | zero => exact h.elim
    | succ k => exact all2 (hs _) (hb k p (by omega) h.2.2)
theorem comp_hits {L : List Str} {y0 y2 y3 : Sl} {P : List D} (hl : P.length ≤ 10) (hP : ∀ d ∈ P, gInX false d (.lst (L.map D.str)) = some (.bl (hit L d))) : lcL [4] hOne cYes e__law_first_reason_1 P [] [y0, .val (.lst (L.map D.str)), y2, y3, .un] = .ok (P.map fun a => .bl (hit L a)) [y0, .val (.lst (L.map D.str)), y2, y3, .un] := by
  have := lcL_map (is := [4]) (h := hOne) (c := cYes) (e := e__law_first_reason_1) (ρ := [y0, .val (.lst (L.map D.str)), y2, y3, .un]) id (fun a => .bl (hit L a)) P [] (by rw [sizeLine_eq]; simp; omega) fun a ha =>
    ⟨[a], [y0, .val (.lst (L.map D.str)), y2, y3, .val a], [y0, .val (.lst (L.map D.str)), y2, y3, .val a], rfl, rfl, by
      have h1 := hP a ha
      clear hP hl ha
      generalize hit L a = HB at *
      generalize L.map D.str = LD at *
      unfold e__law_first_reason_1
      walk_at "ev", rfl⟩
  rw [List.map_id] at this
  rw [this, List.nil_append]
theorem reason_n {S W0 LD : D} {k : Str} {O B : List D} {y3 : Sl} (g0 : gGet S (.int 0) = some (.str k)) (es : gSl S (some 1) (some 4) = some (.tup O))
    (ec : lcL [4] hOne cYes e__law_first_reason_1 O [] [.val W0, .val LD, .val S, y3, .un] = .ok B [.val W0, .val LD, .val S, y3, .un])
    (h1 : ¬ k = "if") (h2 : ¬ k = "put") (h3 : ¬ k = "times") (h4 : ¬ k = "get") : s__law_first_reason_2 [.val W0, .val LD, .val S, y3, .un] = .ok .nx [.val W0, .val LD, .val S, .val (.lst B), .un] := by
  unfold s__law_first_reason_2
  walk_at "ev"
def flOf : Option Str → Fl
  | none => .nx
  | some x => .rt (.str x)
theorem reason_turn {L : List Str} {W0 : D} {y3 : Sl} {k : Nat} {s : Stm} (hN : ∀ x ∈ N, PyData.strOk x = true) (hL : ∀ x ∈ L, PyData.strOk x = true) (hk : k ≤ 3) (h : OkS N C k s) :
    ∃ y3', s__law_first_reason_2 [.val W0, .val (.lst (L.map D.str)), .val (dS s), y3, .un] = .ok (flOf (rs s L)) [.val W0, .val (.lst (L.map D.str)), .val (dS s), y3', .un] := by
  have ec := comp_hits (L := L) (y0 := .val W0) (y2 := .val (dS s)) (y3 := y3) (P := pd s) (by cases s <;> simp [pd]) (hit_ok hN hL hk h)
  have g0 := g_0 s
  have es := cut_pd s
  refine ⟨.val (.lst ((pd s).map fun a => .bl (hit L a))), ?_⟩
  clear h
  cases s with
  | ifs a e b p q =>
    replace g0 : gGet (dS (.ifs a e b p q)) (.int 0) = some (.str "if") := g0
    have er : rs (.ifs a e b p q) L = (if (has L a || has L b) = true then some "asked" else none : Option Str) := rfl
    have i0 : gGet (.lst ((pd (.ifs a e b p q)).map fun a => .bl (hit L a))) (.int 0) = some (.bl (has L a)) := by rw [← hit_o]; rfl
    have i2 : gGet (.lst ((pd (.ifs a e b p q)).map fun a => .bl (hit L a))) (.int 2) = some (.bl (has L b)) := by rw [← hit_o]; rfl
    rw [er]
    generalize (pd (.ifs a e b p q)).map (fun a => D.bl (hit L a)) = BL at *
    generalize dS (.ifs a e b p q) = SC at *
    generalize L.map D.str = LD at *
    generalize has L a = HA at *
    generalize has L b = HB at *
    generalize pd (.ifs a e b p q) = OD at *
    clear er hN hL hk
    cases HA with
    | true =>
      unfold s__law_first_reason_2
      walk_at "ev"
      rfl
    | false =>
      cases HB with
      | true =>
        unfold s__law_first_reason_2
        walk_at "ev"
        rfl
      | false =>
        unfold s__law_first_reason_2
        walk_at "ev"
        rfl
  | get x v a =>
    replace g0 : gGet (dS (.get x v a)) (.int 0) = some (.str "get") := g0
    have er : rs (.get x v a) L = (if has L a = true then some "index" else none : Option Str) := rfl
    have i2 : gGet (.lst ((pd (.get x v a)).map fun a => .bl (hit L a))) (.int 2) = some (.bl (has L a)) := by rw [← hit_o]; rfl
    rw [er]
    generalize (pd (.get x v a)).map (fun a => D.bl (hit L a)) = BL at *
    generalize dS (.get x v a) = SC at *
    generalize L.map D.str = LD at *
    generalize has L a = HA at *
    generalize pd (.get x v a) = OD at *
    clear er hN hL hk
    cases HA with
    | true =>
      unfold s__law_first_reason_2
      walk_at "ev"
      rfl
    | false =>
      unfold s__law_first_reason_2
      walk_at "ev"
      rfl
  | put v a b =>
    replace g0 : gGet (dS (.put v a b)) (.int 0) = some (.str "put") := g0
    have er : rs (.put v a b) L = (if has L a = true then some "index" else if has L b = true then some "stored" else none : Option Str) := rfl
    have i1 : gGet (.lst ((pd (.put v a b)).map fun a => .bl (hit L a))) (.int 1) = some (.bl (has L a)) := by rw [← hit_o]; rfl
    have i2 : gGet (.lst ((pd (.put v a b)).map fun a => .bl (hit L a))) (.int 2) = some (.bl (has L b)) := by rw [← hit_o]; rfl
    rw [er]
    generalize (pd (.put v a b)).map (fun a => D.bl (hit L a)) = BL at *
    generalize dS (.put v a b) = SC at *
    generalize L.map D.str = LD at *
    generalize has L a = HA at *
    generalize has L b = HB at *
    generalize pd (.put v a b) = OD at *
    clear er hN hL hk
    cases HA with
    | true =>
      unfold s__law_first_reason_2
      walk_at "ev"
      rfl
    | false =>
      cases HB with
      | true =>
        unfold s__law_first_reason_2
        walk_at "ev"
        rfl
      | false =>
        unfold s__law_first_reason_2
        walk_at "ev"
        rfl
  | sum k x a b =>
    cases k with
    | t =>
      replace g0 : gGet (dS (.sum .t x a b)) (.int 0) = some (.str "times") := g0
      have er : rs (.sum .t x a b) L = (if (has L a && has L b) = true then some "product" else none : Option Str) := rfl
      have i1 : gGet (.lst ((pd (.sum .t x a b)).map fun a => .bl (hit L a))) (.int 1) = some (.bl (has L a)) := by rw [← hit_o]; rfl
      have i2 : gGet (.lst ((pd (.sum .t x a b)).map fun a => .bl (hit L a))) (.int 2) = some (.bl (has L b)) := by rw [← hit_o]; rfl
      rw [er]
      generalize (pd (.sum .t x a b)).map (fun a => D.bl (hit L a)) = BL at *
      generalize dS (.sum .t x a b) = SC at *
      generalize L.map D.str = LD at *
      generalize has L a = HA at *
      generalize has L b = HB at *
      generalize pd (.sum .t x a b) = OD at *
      clear er hN hL hk
      cases HA with
      | true =>
        cases HB with
        | true =>
          unfold s__law_first_reason_2
          walk_at "ev"
          rfl
        | false =>
          unfold s__law_first_reason_2
          walk_at "ev"
          rfl
      | false =>
        unfold s__law_first_reason_2
        walk_at "ev"
        rfl
    | p => exact reason_n g0 es ec (by simp only [kd, Sk.s]; decide) (by simp only [kd, Sk.s]; decide) (by simp only [kd, Sk.s]; decide) (by simp only [kd, Sk.s]; decide)
    | m => exact reason_n g0 es ec (by simp only [kd, Sk.s]; decide) (by simp only [kd, Sk.s]; decide) (by simp only [kd, Sk.s]; decide) (by simp only [kd, Sk.s]; decide)
  | _ => exact reason_n g0 es ec (by simp only [kd]; decide) (by simp only [kd]; decide) (by simp only [kd]; decide) (by simp only [kd]; decide)
theorem first_reason_ok {L : List Str} {w : List Stm} (hN : ∀ x ∈ N, PyData.strOk x = true) (hL : ∀ x ∈ L, PyData.strOk x = true) (h : ∀ s ∈ w, ∃ k ≤ 3, OkS N C k s) :
    m__law_first_reason [.val (.lst (dB w)), .val (.lst (L.map D.str))] = .ok (.v (rD (w.findSome? fun s => rs s L))) [.un, .un] := by
  have key : ∀ (v : List Stm) (W0 : D) (y2 y3 : Sl), (∀ s ∈ v, ∃ k ≤ 3, OkS N C k s) → ∃ y2' y3', forL (gSet 2) s__law_first_reason_2 (dB v) [.val W0, .val (.lst (L.map D.str)), y2, y3, .un] =
      .ok (flOf (v.findSome? fun s => rs s L)) [.val W0, .val (.lst (L.map D.str)), y2', y3', .un] := by
    intro v
    induction v with
    | nil => exact fun W0 y2 y3 _ => ⟨y2, y3, rfl⟩
    | cons s v ih =>
      intro W0 y2 y3 hv
      obtain ⟨k, hk, ho⟩ := hv s List.mem_cons_self
      obtain ⟨y3', e⟩ := reason_turn (W0 := W0) (y3 := y3) hN hL hk ho
      have sp : ∀ r, forL (gSet 2) s__law_first_reason_2 (dS s :: r) [.val W0, .val (.lst (L.map D.str)), y2, y3, .un] = (s__law_first_reason_2 [.val W0, .val (.lst (L.map D.str)), .val (dS s), y3, .un]).lp (forL (gSet 2) s__law_first_reason_2 r) := fun r => by rw [forL_cons]; rfl
      rw [dB, sp, e, List.findSome?_cons]
      cases hr : rs s L with
      | none => exact ih W0 (.val (dS s)) y3' fun x hx => hv x (List.mem_cons_of_mem _ hx)
      | some x => exact ⟨.val (dS s), y3', rfl⟩
  obtain ⟨y2, y3, e⟩ := key w (.lst (dB w)) .un .un h
  generalize dB w = WD at *
  generalize L.map D.str = LD at *
  clear h hN hL key
  cases hr : w.findSome? fun s => rs s L with
  | none =>
    rw [hr] at e
    replace e : forL (gSet 2) s__law_first_reason_2 WD [.val (.lst WD), .val (.lst LD), .un, .un, .un] = .ok .nx [.val (.lst WD), .val (.lst LD), y2, y3, .un] := e
    clear hr
    unfold m__law_first_reason g__law_first_reason
    walk_at "ev"
    rfl
  | some x =>
    rw [hr] at e
    replace e : forL (gSet 2) s__law_first_reason_2 WD [.val (.lst WD), .val (.lst LD), .un, .un, .un] = .ok (.rt (.str x)) [.val (.lst WD), .val (.lst LD), y2, y3, .un] := e
    clear hr
    unfold m__law_first_reason g__law_first_reason
    walk_at "ev"
    rfl
end
end K08
namespace K08
open PySem PySem.Spec PyProof.Rows L2 L3
local macro_rules | `(tactic| walk_at "ev") => `(tactic| simp (config := {decide := true}) only [W_ok, bind_ok, thn_nx, thn_rt, thn_rn, thn_bk, thn_ct, cVar, cK, c1_e, c1_k, c2_e, c2_k, c2_k2, cB_e, cB_k, cAnd_e, cOr_e, cNot_e, cNot_k, cIte_e, iteK_t, iteK_f, iteK, okB, okV, cAndV_e, cOrV_e, cNotV_e, cNotV_k, cBv_e, aNil, aCons_e, aCons_k, aCons_k2, cTup_e, cTup_k, nLst_e, nLst_k, vN_e, vN_k, cN_e, cN_k, nN_e, nN_k, oNone, oSome_e, oSome_k, cSl_e, cSl_k, cSl_k2, cSl_k3, nSl_e, nSl_k, nSl_k2, nSl_k3, nCat_e, nCat_k, nCat_k2, sNil, sSeq, sFrz, sBrk, sCnt, sExp_e, sExp_k, sRet_e, sRet_k, sRetN_e, sRetN_k, sRetU, sIf_e, sSet_e, sSet_k, sSetN_e, sSetN_k, gSet, gsNil, gsCons_e, gsCons_k, nxK, gTupD, gLstD, sAsg_e, sAsg_k, sAug_e, sAug_k, iL_e, iL_k, iT_e, iT_k, iR1_e, iR1_k, iR2_e, iR2_k, iZ_e, iZ_k, iR3_e, iR3_k, cCh_e, cCh_k, cCh_k2, cCh_k3, nRan_e, nRan_k, r1F_e, r1F_k, r2F_e, r2F_k, r2F_k2, r3F_e, r3F_k, r3F_k2, r3F_k3, intP, sFor_e, run_e, runK_rt, runK_rn, runK_nx, fin, outs, cCall_e, cCall_k, cCall_k2, nCall_e, nCall_k, nCall_k2, callM, sls, lents, wbk, lk, pvD, pvDs, pvs, Sl.dat, Sl.put, gSubD_e, gSubD_k, cM_e, cM_k, cMr_e, cMr_k, cMr_k2, isTy_str, isTy_lst, cGet2_e, cGet2_k, cGet2_k2, cGet2_k3, isDic_d, iRv_e, iRv_k, get2_d, nDic0, cTru_e, cTru_k, tru_l, tru_t, emp_c, emp_n, nRevL_e, nRevL_k, iRvR_e, iRvR_k, anNew_e, anNew_k, anNew_k2, anCons_e, anCons_k, anCons_k2, cCallA_e, cCallA_k, cutA_ok, drop_l, drop_1, pNil, keyD, pCons_e, pCons_k, pCons_k2, pCons_k3, nDic_e, nDic_k, nLc_e, nLc_k, lcB_ok, unAll, backAll, noAdr, setAll, setAllF, List.map_cons, List.map_nil, hOne, cYes, List.all_cons, List.all_nil, Bool.and_true, Bool.true_and, Bool.and_self, Option.map_none, ofO, Rt.d, add_i, mns_i, mul_r, mul_l, div_i, mod_i, neg_i, lt_i, le_i, gt_i, ge_i, int_i, abs_i, len_l, len_t, get_l, get_t, toT_l, toT_t, eq_i, ne_i, eq_s, ne_s, rg_len, isN_non, isN_int, notN_non, notN_int, pow18, isi_int, isi_bool, max_ii, max_l, max_t, sum_l, sum_t, toL_l, toL_t, sl_l, sl_t, sg1, sg2, sg3, sg4, sg5, ss2, ss3, ss4, ss5, List.getElem?_cons_zero, List.getElem?_cons_succ, List.set_cons_zero, List.set_cons_succ, List.length_cons, List.length_nil, List.length_map, List.length_range, List.replicate, List.cons_append, List.nil_append, Option.bind_some, Option.map_some, Option.isSome_some, Option.bind_none, if_true, if_false, reduceIte, decide_eq_true_eq, Bool.false_eq_true, reduceCtorEq, decide_true, decide_false, Bool.not_true, Bool.not_false, *])
local macro_rules | `(tactic| walk_at "evc") => `(tactic| simp (config := {decide := true}) only [at0, at1, at2, at3, set0, set1, set2, ran0, ran1, ran2, ran3, maxI_one, maxI_cons, asI_nil, asI_cons, add_l, add_t, app_l, line_le, line_lt, forL_nil, forL_cons, forL_k, lp_nx, lp_ct, lp_bk, lp_rt, lp_rn, sub_ok, lcL_nil, lcL_cons, lcH_some, lcL_k, lcL_k2, L3.cutD, HT.sIx, List.take_succ_cons, List.take_zero, List.drop_succ_cons, List.drop_zero, List.sum_cons, List.sum_nil, Nat.reduceAdd, Int.reduceSub, Int.reduceAdd, int_lit, Int.reduceToNat, Nat.reduceSub, Nat.min_def, Nat.reduceLeDiff, Int.reduceLT, W_ok, bind_ok, thn_nx, thn_rt, thn_rn, thn_bk, thn_ct, cVar, cK, c1_e, c1_k, c2_e, c2_k, c2_k2, cB_e, cB_k, cAnd_e, cOr_e, cNot_e, cNot_k, cIte_e, iteK_t, iteK_f, iteK, okB, okV, cAndV_e, cOrV_e, cNotV_e, cNotV_k, cBv_e, aNil, aCons_e, aCons_k, aCons_k2, cTup_e, cTup_k, nLst_e, nLst_k, vN_e, vN_k, cN_e, cN_k, nN_e, nN_k, oNone, oSome_e, oSome_k, cSl_e, cSl_k, cSl_k2, cSl_k3, nSl_e, nSl_k, nSl_k2, nSl_k3, nCat_e, nCat_k, nCat_k2, sNil, sSeq, sFrz, sBrk, sCnt, sExp_e, sExp_k, sRet_e, sRet_k, sRetN_e, sRetN_k, sRetU, sIf_e, sSet_e, sSet_k, sSetN_e, sSetN_k, gSet, gsNil, gsCons_e, gsCons_k, nxK, gTupD, gLstD, sAsg_e, sAsg_k, sAug_e, sAug_k, iL_e, iL_k, iT_e, iT_k, iR1_e, iR1_k, iR2_e, iR2_k, iZ_e, iZ_k, iR3_e, iR3_k, cCh_e, cCh_k, cCh_k2, cCh_k3, nRan_e, nRan_k, r1F_e, r1F_k, r2F_e, r2F_k, r2F_k2, r3F_e, r3F_k, r3F_k2, r3F_k3, intP, sFor_e, run_e, runK_rt, runK_rn, runK_nx, fin, outs, cCall_e, cCall_k, cCall_k2, nCall_e, nCall_k, nCall_k2, callM, sls, lents, wbk, lk, pvD, pvDs, pvs, Sl.dat, Sl.put, gSubD_e, gSubD_k, cM_e, cM_k, cMr_e, cMr_k, cMr_k2, isTy_str, isTy_lst, cGet2_e, cGet2_k, cGet2_k2, cGet2_k3, isDic_d, iRv_e, iRv_k, get2_d, nDic0, cTru_e, cTru_k, tru_l, tru_t, emp_c, emp_n, nRevL_e, nRevL_k, iRvR_e, iRvR_k, anNew_e, anNew_k, anNew_k2, anCons_e, anCons_k, anCons_k2, cCallA_e, cCallA_k, cutA_ok, drop_l, drop_1, pNil, keyD, pCons_e, pCons_k, pCons_k2, pCons_k3, nDic_e, nDic_k, nLc_e, nLc_k, lcB_ok, unAll, backAll, noAdr, setAll, setAllF, List.map_cons, List.map_nil, hOne, cYes, List.all_cons, List.all_nil, Bool.and_true, Bool.true_and, Bool.and_self, Option.map_none, ofO, Rt.d, add_i, mns_i, mul_r, mul_l, div_i, mod_i, neg_i, lt_i, le_i, gt_i, ge_i, int_i, abs_i, len_l, len_t, get_l, get_t, toT_l, toT_t, eq_i, ne_i, eq_s, ne_s, rg_len, isN_non, isN_int, notN_non, notN_int, pow18, isi_int, isi_bool, max_ii, max_l, max_t, sum_l, sum_t, toL_l, toL_t, sl_l, sl_t, sg1, sg2, sg3, sg4, sg5, ss2, ss3, ss4, ss5, List.getElem?_cons_zero, List.getElem?_cons_succ, List.set_cons_zero, List.set_cons_succ, List.length_cons, List.length_nil, List.length_map, List.length_range, List.replicate, List.cons_append, List.nil_append, Option.bind_some, Option.map_some, Option.isSome_some, Option.bind_none, if_true, if_false, reduceIte, decide_eq_true_eq, Bool.false_eq_true, reduceCtorEq, decide_true, decide_false, Bool.not_true, Bool.not_false, *])
def ftD (x : Str) : Option Str → D
  | none => .non
  | some r => .tup [.str x, .str r]
def flO (x : Str) : Option Str → Fl
  | none => .nx
  | some r => .rt (.tup [.str x, .str r])
section
variable {w : List Stm} {N C : List Str} {T : D}
theorem carried_fault_ok {x : Str} {L : List Str} (e1 : m_walk_of [.val T, .val (.str x)] = .ok (.n (.lst (dB w))) [.un, .un]) (e2 : m_carried_names [.val T, .val (.str x)] = .ok (.v (.tup (L.map D.str))) [.un, .un]) :
    m_carried_fault [.val T, .val (.str x)] = .ok (.v (ftD x (w.findSome? fun s => rs s L))) [.un, .un] := by
  have key : ∀ (v : List Stm) (y3 y4 : Sl), ∃ y3' y4', forL (gSet 3) s_carried_fault_1 (dB v) [.val T, .val (.str x), .val (.tup (L.map D.str)), y3, y4] =
      .ok (flO x (v.findSome? fun s => rs s L)) [.val T, .val (.str x), .val (.tup (L.map D.str)), y3', y4'] := by
    intro v
    induction v with
    | nil => exact fun y3 y4 => ⟨y3, y4, rfl⟩
    | cons s v ih =>
      intro y3 y4
      have ea := asks_ok s L
      have sp : ∀ r, forL (gSet 3) s_carried_fault_1 (dS s :: r) [.val T, .val (.str x), .val (.tup (L.map D.str)), y3, y4] = (s_carried_fault_1 [.val T, .val (.str x), .val (.tup (L.map D.str)), .val (dS s), y4]).lp (forL (gSet 3) s_carried_fault_1 r) := fun r => by rw [forL_cons]; rfl
      rw [dB, sp, List.findSome?_cons]
      cases hr : rs s L with
      | none =>
        rw [hr] at ea
        have t1 : s_carried_fault_1 [.val T, .val (.str x), .val (.tup (L.map D.str)), .val (dS s), y4] = .ok .nx [.val T, .val (.str x), .val (.tup (L.map D.str)), .val (dS s), .val .non] := by
          clear e1 e2 ih sp hr
          replace ea : m_asks [.val (dS s), .val (.tup (L.map D.str))] = .ok (.v .non) [.un, .un] := ea
          generalize L.map D.str = LD at *
          generalize dS s = SC at *
          unfold s_carried_fault_1
          walk_at "ev"
        rw [t1]
        exact ih (.val (dS s)) (.val .non)
      | some r =>
        rw [hr] at ea
        have t1 : s_carried_fault_1 [.val T, .val (.str x), .val (.tup (L.map D.str)), .val (dS s), y4] = .ok (.rt (.tup [.str x, .str r])) [.val T, .val (.str x), .val (.tup (L.map D.str)), .val (dS s), .val (.str r)] := by
          clear e1 e2 ih sp hr
          replace ea : m_asks [.val (dS s), .val (.tup (L.map D.str))] = .ok (.v (.str r)) [.un, .un] := ea
          have z2 : (2 : Nat) ≤ sizeLine := by rw [sizeLine_eq]; decide
          have nn : gNotN (.str r) .non = some (.bl true) := rfl
          generalize L.map D.str = LD at *
          generalize dS s = SC at *
          unfold s_carried_fault_1
          walk_at "ev"
        rw [t1]
        exact ⟨.val (dS s), .val (.str r), rfl⟩
  obtain ⟨y3, y4, e⟩ := key w .un .un
  generalize dB w = WD at *
  generalize L.map D.str = LD at *
  clear key
  cases hr : w.findSome? fun s => rs s L with
  | none =>
    rw [hr] at e
    replace e : forL (gSet 3) s_carried_fault_1 WD [.val T, .val (.str x), .val (.tup LD), .un, .un] = .ok .nx [.val T, .val (.str x), .val (.tup LD), y3, y4] := e
    clear hr
    unfold m_carried_fault g_carried_fault
    walk_at "ev"
    rfl
  | some r =>
    rw [hr] at e
    replace e : forL (gSet 3) s_carried_fault_1 WD [.val T, .val (.str x), .val (.tup LD), .un, .un] = .ok (.rt (.tup [.str x, .str r])) [.val T, .val (.str x), .val (.tup LD), y3, y4] := e
    clear hr
    unfold m_carried_fault g_carried_fault
    walk_at "ev"
    rfl
/-! ### what a walk holds -/
theorem fl_all : ∀ (k : Nat) (s : Stm), OkS N C k s → ∀ x ∈ flS s, ∃ j ≤ k, OkS N C j x
  | 0, s, h, x, hx => by
    cases s with
    | ifs _ _ _ _ _ => exact h.elim
    | loop _ _ => exact h.elim
    | hold _ _ => exact h.elim
    | _ => simp only [flS, List.mem_singleton] at hx; subst hx; exact ⟨0, Nat.le_refl _, h⟩
  | k + 1, s, h, x, hx => by
    have list : ∀ p : List Stm, OkB N C k p → ∀ x ∈ flB p, ∃ j ≤ k + 1, OkS N C j x := by
      intro p
      induction p with
      | nil => exact fun _ x hx => by cases hx
      | cons s r ih =>
        intro hp x hx
        rw [flB, List.mem_append] at hx
        rcases hx with hx | hx
        · obtain ⟨j, hj, h⟩ := fl_all k s (hp s List.mem_cons_self) x hx
          exact ⟨j, by omega, h⟩
        · exact ih (fun y hy => hp y (List.mem_cons_of_mem _ hy)) x hx
    cases s with
    | ifs a e b p q =>
      have h' := h
      simp only [OkS] at h'
      rw [flS] at hx
      rcases List.mem_cons.mp hx with rfl | hx
      · exact ⟨k + 1, Nat.le_refl _, h⟩
      · rcases List.mem_append.mp hx with hx | hx
        · exact list p h'.2.2.2.2.1 x hx
        · exact list q h'.2.2.2.2.2 x hx
    | loop n p =>
      have h' := h
      simp only [OkS] at h'
      rw [flS] at hx
      rcases List.mem_cons.mp hx with rfl | hx
      · exact ⟨k + 1, Nat.le_refl _, h⟩
      · exact list p h'.2.2 x hx
    | hold n p =>
      have h' := h
      simp only [OkS] at h'
      rw [flS] at hx
      rcases List.mem_cons.mp hx with rfl | hx
      · exact ⟨k + 1, Nat.le_refl _, h⟩
      · exact list p h'.2.2 x hx
    | _ => simp only [flS, List.mem_singleton] at hx; subst hx; exact ⟨k + 1, Nat.le_refl _, h⟩
theorem flB_all {k : Nat} : ∀ {b : List Stm}, OkB N C k b → ∀ x ∈ flB b, ∃ j ≤ k, OkS N C j x
  | [], _, x, hx => by cases hx
  | s :: r, h, x, hx => by
    rw [flB, List.mem_append] at hx
    rcases hx with hx | hx
    · exact fl_all k s (h s List.mem_cons_self) x hx
    · exact flB_all (fun y hy => h y (List.mem_cons_of_mem _ hy)) x hx
theorem tgt_in {k : Nat} {s : Stm} (h : OkS N C k s) (g : isTake s = true ∨ gives s = true) : tgt s ∈ N := by
  cases s with
  | set x a => cases k <;> exact h.1
  | sum k x a b => rename_i k'; cases k' <;> exact h.1
  | take x c => cases k <;> exact h.1
  | _ => simp [isTake, gives] at g
theorem car_in (h : ∀ s ∈ w, ∃ k ≤ 3, OkS N C k s) : ∀ x, Car w x → x ∈ N := fun x c => by
  cases c with
  | take hs t =>
    obtain ⟨k, _, ho⟩ := h _ hs
    exact tgt_in ho (.inl t)
  | give hs g _ _ =>
    obtain ⟨k, _, ho⟩ := h _ hs
    exact tgt_in ho (.inr g)
theorem srt_same {L F : List Str} (h1 : L.Nodup) (h2 : F.Nodup) (h : ∀ x, x ∈ L ↔ x ∈ F) : srtS L = srtS F :=
  srt_uniq (((srtS_perm L).trans ((List.perm_ext_iff_of_nodup h1 h2).mpr h)).trans (srtS_perm F).symm) (srtS_srt L) (srtS_srt F)
/-! ### what is told -/
theorem wt_strs : ∀ {l : List Str}, (∀ x ∈ l, x.length ≤ 4) → wtL (l.map D.str) ≤ l.length * 50
  | [], _ => Nat.zero_le _
  | x :: r, h => by
    have h1 := h x List.mem_cons_self
    have h2 := wt_strs (l := r) fun y hy => h y (List.mem_cons_of_mem _ hy)
    rw [List.map_cons, wtL, wt, List.length_cons, Nat.add_mul, Nat.one_mul]
    omega
theorem small_strs : ∀ l : List Str, smallL (l.map D.str) = true
  | [] => rfl
  | x :: r => by rw [List.map_cons, smallL, small_strs r]; rfl
structure Nms (N : List Str) : Prop where
  l : N.length = 25
  ok : ∀ x ∈ N, PyData.strOk x = true ∧ x.length ≤ 4
def isR (x : Str) : Prop := PyData.strOk x = true ∧ x.length ≤ 10
theorem rs_isR {s : Stm} {L : List Str} {x : Str} (h : rs s L = some x) : isR x := by
  have c : ∀ y : Str, y ∈ [("asked" : Str), "index", "stored", "product"] → isR y := by
    intro y hy
    simp only [List.mem_cons, List.not_mem_nil, or_false] at hy
    rcases hy with rfl | rfl | rfl | rfl <;> (unfold isR; decide +kernel)
  refine c x ?_
  cases s with
  | ifs a e b p q =>
    simp only [rs] at h
    split at h <;> cases h
    decide
  | get x v a =>
    simp only [rs] at h
    split at h <;> cases h
    decide
  | put v a b =>
    simp only [rs] at h
    split at h
    · cases h; decide
    · split at h <;> cases h
      decide
  | sum k x a b =>
    cases k with
    | t =>
      simp only [rs] at h
      split at h <;> cases h
      decide
    | _ => cases h
  | _ => cases h
theorem told_ok {Z : List Str} {x : Str} {r : Option Str} (hZ : ∀ x ∈ Z, PyData.strOk x = true ∧ x.length ≤ 4) (hl : Z.length ≤ 100) (hx : PyData.strOk x = true ∧ x.length ≤ 4) (hr : ∀ y, r = some y → isR y) :
    repOk (.tup [.tup (Z.map D.str), ftD x r]) = true := by
  have p1 : pyOk 58 (.tup (Z.map D.str)) = true := pyOk_tup (n := 57) fun d hd => by
    obtain ⟨y, hy, rfl⟩ := List.mem_map.mp hd
    exact py_str (hZ y hy).1
  have p2 : pyOk 58 (ftD x r) = true := by
    cases r with
    | none => rfl
    | some y => exact pyOk_tup (n := 57) (all2 (py_str hx.1) (py_str (hr y rfl).1))
  have p : pyOk 60 (.tup [.tup (Z.map D.str), ftD x r]) = true := py_up (pyOk_tup (n := 58) (all2 p1 p2))
  have s1 : smallD (ftD x r) = true := by cases r <;> rfl
  have s : smallD (.tup [.tup (Z.map D.str), ftD x r]) = true := by
    show smallL [.tup (Z.map D.str), ftD x r] = true
    rw [smallL, smallL, smallL, s1]
    show (smallL (Z.map D.str) && _) = true
    rw [small_strs]; rfl
  have w1 : wt (ftD x r) ≤ 500 := by
    cases r with
    | none => simp [ftD, wt]
    | some y =>
      have := (hr y rfl).2
      have := hx.2
      simp only [ftD, wt, wtL]
      omega
  have w2 := wt_strs fun x hx => (hZ x hx).2
  have w : wt (.tup [.tup (Z.map D.str), ftD x r]) ≤ 16000000 := by
    simp only [wt, wtL]
    have : Z.length * 50 ≤ 100 * 50 := Nat.mul_le_mul_right 50 hl
    omega
  unfold repOk
  rw [p, s, decide_eq_true w]; rfl
end
end K08
namespace K08
open PySem PySem.Spec PyProof.Rows L2 L3
local macro_rules | `(tactic| walk_at "ev") => `(tactic| simp (config := {decide := true}) only [W_ok, bind_ok, thn_nx, thn_rt, thn_rn, thn_bk, thn_ct, cVar, cK, c1_e, c1_k, c2_e, c2_k, c2_k2, cB_e, cB_k, cAnd_e, cOr_e, cNot_e, cNot_k, cIte_e, iteK_t, iteK_f, iteK, okB, okV, cAndV_e, cOrV_e, cNotV_e, cNotV_k, cBv_e, aNil, aCons_e, aCons_k, aCons_k2, cTup_e, cTup_k, nLst_e, nLst_k, vN_e, vN_k, cN_e, cN_k, nN_e, nN_k, oNone, oSome_e, oSome_k, cSl_e, cSl_k, cSl_k2, cSl_k3, nSl_e, nSl_k, nSl_k2, nSl_k3, nCat_e, nCat_k, nCat_k2, sNil, sSeq, sFrz, sBrk, sCnt, sExp_e, sExp_k, sRet_e, sRet_k, sRetN_e, sRetN_k, sRetU, sIf_e, sSet_e, sSet_k, sSetN_e, sSetN_k, gSet, gsNil, gsCons_e, gsCons_k, nxK, gTupD, gLstD, sAsg_e, sAsg_k, sAug_e, sAug_k, iL_e, iL_k, iT_e, iT_k, iR1_e, iR1_k, iR2_e, iR2_k, iZ_e, iZ_k, iR3_e, iR3_k, cCh_e, cCh_k, cCh_k2, cCh_k3, nRan_e, nRan_k, r1F_e, r1F_k, r2F_e, r2F_k, r2F_k2, r3F_e, r3F_k, r3F_k2, r3F_k3, intP, sFor_e, run_e, runK_rt, runK_rn, runK_nx, fin, outs, cCall_e, cCall_k, cCall_k2, nCall_e, nCall_k, nCall_k2, callM, sls, lents, wbk, lk, pvD, pvDs, pvs, Sl.dat, Sl.put, gSubD_e, gSubD_k, cM_e, cM_k, cMr_e, cMr_k, cMr_k2, isTy_str, isTy_lst, cGet2_e, cGet2_k, cGet2_k2, cGet2_k3, isDic_d, iRv_e, iRv_k, get2_d, nDic0, cTru_e, cTru_k, tru_l, tru_t, emp_c, emp_n, nRevL_e, nRevL_k, iRvR_e, iRvR_k, anNew_e, anNew_k, anNew_k2, anCons_e, anCons_k, anCons_k2, cCallA_e, cCallA_k, cutA_ok, drop_l, drop_1, pNil, keyD, pCons_e, pCons_k, pCons_k2, pCons_k3, nDic_e, nDic_k, nLc_e, nLc_k, lcB_ok, unAll, backAll, noAdr, setAll, setAllF, List.map_cons, List.map_nil, hOne, cYes, List.all_cons, List.all_nil, Bool.and_true, Bool.true_and, Bool.and_self, Option.map_none, ofO, Rt.d, add_i, mns_i, mul_r, mul_l, div_i, mod_i, neg_i, lt_i, le_i, gt_i, ge_i, int_i, abs_i, len_l, len_t, get_l, get_t, toT_l, toT_t, eq_i, ne_i, eq_s, ne_s, rg_len, isN_non, isN_int, notN_non, notN_int, pow18, isi_int, isi_bool, max_ii, max_l, max_t, sum_l, sum_t, toL_l, toL_t, sl_l, sl_t, sg1, sg2, sg3, sg4, sg5, ss2, ss3, ss4, ss5, List.getElem?_cons_zero, List.getElem?_cons_succ, List.set_cons_zero, List.set_cons_succ, List.length_cons, List.length_nil, List.length_map, List.length_range, List.replicate, List.cons_append, List.nil_append, Option.bind_some, Option.map_some, Option.isSome_some, Option.bind_none, if_true, if_false, reduceIte, decide_eq_true_eq, Bool.false_eq_true, reduceCtorEq, decide_true, decide_false, Bool.not_true, Bool.not_false, *])
local macro_rules | `(tactic| walk_at "evc") => `(tactic| simp (config := {decide := true}) only [at0, at1, at2, at3, set0, set1, set2, ran0, ran1, ran2, ran3, maxI_one, maxI_cons, asI_nil, asI_cons, add_l, add_t, app_l, line_le, line_lt, forL_nil, forL_cons, forL_k, lp_nx, lp_ct, lp_bk, lp_rt, lp_rn, sub_ok, lcL_nil, lcL_cons, lcH_some, lcL_k, lcL_k2, L3.cutD, HT.sIx, List.take_succ_cons, List.take_zero, List.drop_succ_cons, List.drop_zero, List.sum_cons, List.sum_nil, Nat.reduceAdd, Int.reduceSub, Int.reduceAdd, int_lit, Int.reduceToNat, Nat.reduceSub, Nat.min_def, Nat.reduceLeDiff, Int.reduceLT, W_ok, bind_ok, thn_nx, thn_rt, thn_rn, thn_bk, thn_ct, cVar, cK, c1_e, c1_k, c2_e, c2_k, c2_k2, cB_e, cB_k, cAnd_e, cOr_e, cNot_e, cNot_k, cIte_e, iteK_t, iteK_f, iteK, okB, okV, cAndV_e, cOrV_e, cNotV_e, cNotV_k, cBv_e, aNil, aCons_e, aCons_k, aCons_k2, cTup_e, cTup_k, nLst_e, nLst_k, vN_e, vN_k, cN_e, cN_k, nN_e, nN_k, oNone, oSome_e, oSome_k, cSl_e, cSl_k, cSl_k2, cSl_k3, nSl_e, nSl_k, nSl_k2, nSl_k3, nCat_e, nCat_k, nCat_k2, sNil, sSeq, sFrz, sBrk, sCnt, sExp_e, sExp_k, sRet_e, sRet_k, sRetN_e, sRetN_k, sRetU, sIf_e, sSet_e, sSet_k, sSetN_e, sSetN_k, gSet, gsNil, gsCons_e, gsCons_k, nxK, gTupD, gLstD, sAsg_e, sAsg_k, sAug_e, sAug_k, iL_e, iL_k, iT_e, iT_k, iR1_e, iR1_k, iR2_e, iR2_k, iZ_e, iZ_k, iR3_e, iR3_k, cCh_e, cCh_k, cCh_k2, cCh_k3, nRan_e, nRan_k, r1F_e, r1F_k, r2F_e, r2F_k, r2F_k2, r3F_e, r3F_k, r3F_k2, r3F_k3, intP, sFor_e, run_e, runK_rt, runK_rn, runK_nx, fin, outs, cCall_e, cCall_k, cCall_k2, nCall_e, nCall_k, nCall_k2, callM, sls, lents, wbk, lk, pvD, pvDs, pvs, Sl.dat, Sl.put, gSubD_e, gSubD_k, cM_e, cM_k, cMr_e, cMr_k, cMr_k2, isTy_str, isTy_lst, cGet2_e, cGet2_k, cGet2_k2, cGet2_k3, isDic_d, iRv_e, iRv_k, get2_d, nDic0, cTru_e, cTru_k, tru_l, tru_t, emp_c, emp_n, nRevL_e, nRevL_k, iRvR_e, iRvR_k, anNew_e, anNew_k, anNew_k2, anCons_e, anCons_k, anCons_k2, cCallA_e, cCallA_k, cutA_ok, drop_l, drop_1, pNil, keyD, pCons_e, pCons_k, pCons_k2, pCons_k3, nDic_e, nDic_k, nLc_e, nLc_k, lcB_ok, unAll, backAll, noAdr, setAll, setAllF, List.map_cons, List.map_nil, hOne, cYes, List.all_cons, List.all_nil, Bool.and_true, Bool.true_and, Bool.and_self, Option.map_none, ofO, Rt.d, add_i, mns_i, mul_r, mul_l, div_i, mod_i, neg_i, lt_i, le_i, gt_i, ge_i, int_i, abs_i, len_l, len_t, get_l, get_t, toT_l, toT_t, eq_i, ne_i, eq_s, ne_s, rg_len, isN_non, isN_int, notN_non, notN_int, pow18, isi_int, isi_bool, max_ii, max_l, max_t, sum_l, sum_t, toL_l, toL_t, sl_l, sl_t, sg1, sg2, sg3, sg4, sg5, ss2, ss3, ss4, ss5, List.getElem?_cons_zero, List.getElem?_cons_succ, List.set_cons_zero, List.set_cons_succ, List.length_cons, List.length_nil, List.length_map, List.length_range, List.replicate, List.cons_append, List.nil_append, Option.bind_some, Option.map_some, Option.isSome_some, Option.bind_none, if_true, if_false, reduceIte, decide_eq_true_eq, Bool.false_eq_true, reduceCtorEq, decide_true, decide_false, Bool.not_true, Bool.not_false, *])
section
variable {N : List Str} {T : Tree}
/-- what a task's walk is: the two texts agree -/
theorem task_ok (hN : Nms N) (hT : Tok N T) {t : Str × Int × List Stm} (ht : t ∈ T.tasks) :
    ∃ (o : List Stm) (sn : List Str) (Z : List Str) (r : Option Str),
      m__law_walk 25 [.val (treeD T), .val (.tup (dB t.2.2)), .bor (.lst [])] = .ok (.n (.lst (dB o))) [.un, .un, .bor (.lst (sn.map D.str))] ∧
      m__law_closure [.val (.lst (dB o))] = .ok (.n (.lst (Z.map D.str))) [.un] ∧
      m__law_first_reason [.val (.lst (dB o)), .val (.lst (Z.map D.str))] = .ok (.v (rD r)) [.un, .un] ∧
      m_carried_names [.val (treeD T), .val (.str t.1)] = .ok (.v (.tup (Z.map D.str))) [.un, .un] ∧
      m_carried_fault [.val (treeD T), .val (.str t.1)] = .ok (.v (ftD t.1 r)) [.un, .un] ∧
      repOk (.tup [.tup (Z.map D.str), ftD t.1 r]) = true ∧
      r = o.findSome? (fun s => rs s Z) ∧ (∀ x, x ∈ Z ↔ Car o x) ∧ Wk T.subs (flB t.2.2) [] o sn := by
  have hB : Big T.subs N (T.subs.map (·.1)) := ⟨fun p hp => (hT.s.b p hp).2, rfl, hT.s.s4⟩
  obtain ⟨t1, t2, t3⟩ := hT.e.b t ht
  have h4 : gGet (treeD T) (.int 4) = some (.tup (T.subs.map subD)) := rfl
  have h5 : gGet (treeD T) (.int 5) = some (.tup (T.tasks.map (taskD T.ar))) := rfl
  have hr := rem_top hB []
  obtain ⟨o, sn, e1, wk, _⟩ := law_walk hB h4 25 3 t.2.2 [] t2 (Nat.le_refl _) t3 (Nat.zero_le _) (by omega) (by simpa using hr)
  have hfl : (flB t.2.2).length ≤ 1700 := by
    have h1 := flB_sz t2
    rw [show sz 3 = 85 from rfl] at h1
    have := Nat.mul_le_mul_right 85 t3
    omega
  have ho : o.length ≤ 8500 := by
    have := hB.tot wk
    omega
  have hall : ∀ s ∈ o, ∃ k ≤ 3, OkS N (T.subs.map (·.1)) k s := wk.all (P := fun s => ∃ k ≤ 3, OkS N (T.subs.map (·.1)) k s) (fun p hp => flB_all (hB.b p hp).1) (flB_all t2)
  have hcar := car_in hall
  obtain ⟨F, e2, nd, iff⟩ := closure_ok (w := o) hN.l hcar (by omega)
  have e0 := walk_of_ok (T := treeD T) (C := T.subs.map (·.1)) (N := N) (fun p hp => ⟨(hB.b p hp).1, Nat.le_trans (hB.fl p hp) (by decide)⟩) h4 hT.e.nd ht h5 t2 (by omega) wk (by omega)
  obtain ⟨L, e3, nd2, iff2, hl⟩ := carried_names_ok hN.l hcar e0
  have same : srtS L = srtS F := srt_same nd2 nd fun x => by rw [iff, iff2]
  rw [same] at e3
  have hm : ∀ x, x ∈ srtS F ↔ Car o x := fun x => by rw [(srtS_perm F).mem_iff, iff]
  have hZ : ∀ x ∈ srtS F, PyData.strOk x = true ∧ x.length ≤ 4 := fun x hx => hN.ok x (hcar x ((hm x).mp hx))
  have hlF : (srtS F).length ≤ 100 := by
    rw [← same, (srtS_perm L).length_eq]; omega
  have e4 := first_reason_ok (fun x hx => (hN.ok x hx).1) (fun x hx => (hZ x hx).1) hall
  have e5 := carried_fault_ok e0 e3
  exact ⟨o, sn, srtS F, o.findSome? (fun s => rs s (srtS F)), e1, e2, e4, e3, e5, told_ok hZ hlF (hN.ok _ t1) (fun y hy => by
    obtain ⟨s, _, hs⟩ := List.exists_of_findSome?_eq_some hy
    exact rs_isR hs), rfl, hm, wk⟩
theorem right_turn (hN : Nms N) (hT : Tok N T) {t : Str × Int × List Stm} (ht : t ∈ T.tasks) {y2 y3 y4 y5 y6 : Sl} :
    ∃ y2' y3' y4' y5' y6', s__law_is_right_1 [.val (treeD T), .val (taskD T.ar t), y2, y3, y4, y5, y6] = .ok .nx [.val (treeD T), .val (taskD T.ar t), y2', y3', y4', y5', y6'] := by
  obtain ⟨o, sn, Z, r, e1, e2, e3, e4, e5, hr, _⟩ := task_ok hN hT ht
  have g0 : gGet (taskD T.ar t) (.int 0) = some (.str t.1) := rfl
  have g2 : gGet (taskD T.ar t) (.int 2) = some (.tup (dB t.2.2)) := rfl
  have py : pyOk 60 (.tup [.tup (Z.map D.str), ftD t.1 r]) = true := by
    unfold repOk at hr
    rw [Bool.and_eq_true, Bool.and_eq_true] at hr
    exact hr.1.1
  have n1 := ne_self py
  have rp : gRepr [.tup [.tup (Z.map D.str), ftD t.1 r]] = some (.str (showD (.tup [.tup (Z.map D.str), ftD t.1 r]))) := show_ok hr
  have ns : ∀ x : Str, gNe (.str x) (.str x) = some (.bl false) := fun x => by show some (D.bl (!decide (x = x))) = _; simp
  have tt : ∀ l : List D, gToT [.lst l] = some (.tup l) := fun l => rfl
  have z2 : (2 : Nat) ≤ sizeLine := by rw [sizeLine_eq]; decide
  have z0 : (0 : Nat) ≤ sizeLine := Nat.zero_le _
  clear hr py hN hT ht
  generalize hR : showD (.tup [.tup (Z.map D.str), ftD t.1 r]) = R at *
  clear hR
  have nr := ns R
  clear ns
  generalize treeD T = TD at *
  generalize taskD T.ar t = ED at *
  generalize Z.map D.str = ZD at *
  generalize sn.map D.str = SD at *
  generalize dB o = OD at *
  generalize dB t.2.2 = BD at *
  cases r with
  | none =>
    have nn : gNotN .non .non = some (.bl false) := rfl
    refine ⟨.val (.lst OD), .val (.lst ZD), .val .non, .val .non, .val (.tup [.tup ZD, .non]), ?_⟩
    replace n1 : gNe (.tup [.tup ZD, .non]) (.tup [.tup ZD, .non]) = some (.bl false) := n1
    replace rp : gRepr [.tup [.tup ZD, .non]] = some (.str R) := rp
    replace e3 : m__law_first_reason [.val (.lst OD), .val (.lst ZD)] = .ok (.v .non) [.un, .un] := e3
    replace e5 : m_carried_fault [.val TD, .val (.str t.1)] = .ok (.v .non) [.un, .un] := e5
    unfold s__law_is_right_1
    walk_at "evc"
  | some r =>
    have nn : gNotN (.str r) .non = some (.bl true) := rfl
    refine ⟨.val (.lst OD), .val (.lst ZD), .val (.str r), .val (.tup [.str t.1, .str r]), .val (.tup [.tup ZD, .tup [.str t.1, .str r]]), ?_⟩
    replace n1 : gNe (.tup [.tup ZD, .tup [.str t.1, .str r]]) (.tup [.tup ZD, .tup [.str t.1, .str r]]) = some (.bl false) := n1
    replace rp : gRepr [.tup [.tup ZD, .tup [.str t.1, .str r]]] = some (.str R) := rp
    replace e3 : m__law_first_reason [.val (.lst OD), .val (.lst ZD)] = .ok (.v (.str r)) [.un, .un] := e3
    replace e5 : m_carried_fault [.val TD, .val (.str t.1)] = .ok (.v (.tup [.str t.1, .str r])) [.un, .un] := e5
    unfold s__law_is_right_1
    walk_at "evc"
theorem is_right_ok (hN : Nms N) (hT : Tok N T) : m__law_is_right [.val (treeD T)] = .ok (.v (.bl true)) [.un] := by
  have key : ∀ (E : List (Str × Int × List Stm)) (y1 y2 y3 y4 y5 y6 : Sl), (∀ t ∈ E, t ∈ T.tasks) → ∃ y1' y2' y3' y4' y5' y6', forL (gSet 1) s__law_is_right_1 (E.map (taskD T.ar)) [.val (treeD T), y1, y2, y3, y4, y5, y6] = .ok .nx [.val (treeD T), y1', y2', y3', y4', y5', y6'] := by
    intro E
    induction E with
    | nil => exact fun y1 y2 y3 y4 y5 y6 _ => ⟨y1, y2, y3, y4, y5, y6, rfl⟩
    | cons t E ih =>
      intro y1 y2 y3 y4 y5 y6 hE
      obtain ⟨y2', y3', y4', y5', y6', e⟩ := right_turn hN hT (hE t List.mem_cons_self) (y2 := y2) (y3 := y3) (y4 := y4) (y5 := y5) (y6 := y6)
      have sp : ∀ r, forL (gSet 1) s__law_is_right_1 (taskD T.ar t :: r) [.val (treeD T), y1, y2, y3, y4, y5, y6] = (s__law_is_right_1 [.val (treeD T), .val (taskD T.ar t), y2, y3, y4, y5, y6]).lp (forL (gSet 1) s__law_is_right_1 r) := fun r => by rw [forL_cons]; rfl
      rw [List.map_cons, sp, e]
      exact ih (.val (taskD T.ar t)) y2' y3' y4' y5' y6' fun x hx => hE x (List.mem_cons_of_mem _ hx)
  obtain ⟨y1, y2, y3, y4, y5, y6, e⟩ := key T.tasks .un .un .un .un .un .un fun _ h => h
  have h5 : gGet (treeD T) (.int 5) = some (.tup (T.tasks.map (taskD T.ar))) := rfl
  clear key
  generalize T.tasks.map (taskD T.ar) = ES at *
  generalize treeD T = TD at *
  have q : q__law_is_right_2 [.val TD, .un, .un, .un, .un, .un, .un] = .ok .nx [.val TD, y1, y2, y3, y4, y5, y6] := by
    unfold q__law_is_right_2
    walk_at "ev"
  clear e h5
  unfold m__law_is_right g__law_is_right
  generalize q__law_is_right_2 = Q2 at *
  walk_at "ev"
end
end K08
namespace K08
open PySem PySem.Spec PyProof.Rows L2 L3
local macro_rules | `(tactic| walk_at "ev") => `(tactic| simp (config := {decide := true}) only [W_ok, bind_ok, thn_nx, thn_rt, thn_rn, thn_bk, thn_ct, cVar, cK, c1_e, c1_k, c2_e, c2_k, c2_k2, cB_e, cB_k, cAnd_e, cOr_e, cNot_e, cNot_k, cIte_e, iteK_t, iteK_f, iteK, okB, okV, cAndV_e, cOrV_e, cNotV_e, cNotV_k, cBv_e, aNil, aCons_e, aCons_k, aCons_k2, cTup_e, cTup_k, nLst_e, nLst_k, vN_e, vN_k, cN_e, cN_k, nN_e, nN_k, oNone, oSome_e, oSome_k, cSl_e, cSl_k, cSl_k2, cSl_k3, nSl_e, nSl_k, nSl_k2, nSl_k3, nCat_e, nCat_k, nCat_k2, sNil, sSeq, sFrz, sBrk, sCnt, sExp_e, sExp_k, sRet_e, sRet_k, sRetN_e, sRetN_k, sRetU, sIf_e, sSet_e, sSet_k, sSetN_e, sSetN_k, gSet, gsNil, gsCons_e, gsCons_k, nxK, gTupD, gLstD, sAsg_e, sAsg_k, sAug_e, sAug_k, iL_e, iL_k, iT_e, iT_k, iR1_e, iR1_k, iR2_e, iR2_k, iZ_e, iZ_k, iR3_e, iR3_k, cCh_e, cCh_k, cCh_k2, cCh_k3, nRan_e, nRan_k, r1F_e, r1F_k, r2F_e, r2F_k, r2F_k2, r3F_e, r3F_k, r3F_k2, r3F_k3, intP, sFor_e, run_e, runK_rt, runK_rn, runK_nx, fin, outs, cCall_e, cCall_k, cCall_k2, nCall_e, nCall_k, nCall_k2, callM, sls, lents, wbk, lk, pvD, pvDs, pvs, Sl.dat, Sl.put, gSubD_e, gSubD_k, cM_e, cM_k, cMr_e, cMr_k, cMr_k2, isTy_str, isTy_lst, cGet2_e, cGet2_k, cGet2_k2, cGet2_k3, isDic_d, iRv_e, iRv_k, get2_d, nDic0, cTru_e, cTru_k, tru_l, tru_t, emp_c, emp_n, nRevL_e, nRevL_k, iRvR_e, iRvR_k, anNew_e, anNew_k, anNew_k2, anCons_e, anCons_k, anCons_k2, cCallA_e, cCallA_k, cutA_ok, drop_l, drop_1, pNil, keyD, pCons_e, pCons_k, pCons_k2, pCons_k3, nDic_e, nDic_k, nLc_e, nLc_k, lcB_ok, unAll, backAll, noAdr, setAll, setAllF, List.map_cons, List.map_nil, hOne, cYes, List.all_cons, List.all_nil, Bool.and_true, Bool.true_and, Bool.and_self, Option.map_none, ofO, Rt.d, add_i, mns_i, mul_r, mul_l, div_i, mod_i, neg_i, lt_i, le_i, gt_i, ge_i, int_i, abs_i, len_l, len_t, get_l, get_t, toT_l, toT_t, eq_i, ne_i, eq_s, ne_s, rg_len, isN_non, isN_int, notN_non, notN_int, pow18, isi_int, isi_bool, max_ii, max_l, max_t, sum_l, sum_t, toL_l, toL_t, sl_l, sl_t, sg1, sg2, sg3, sg4, sg5, ss2, ss3, ss4, ss5, List.getElem?_cons_zero, List.getElem?_cons_succ, List.set_cons_zero, List.set_cons_succ, List.length_cons, List.length_nil, List.length_map, List.length_range, List.replicate, List.cons_append, List.nil_append, Option.bind_some, Option.map_some, Option.isSome_some, Option.bind_none, if_true, if_false, reduceIte, decide_eq_true_eq, Bool.false_eq_true, reduceCtorEq, decide_true, decide_false, Bool.not_true, Bool.not_false, *])
local macro_rules | `(tactic| walk_at "evc") => `(tactic| simp (config := {decide := true}) only [at0, at1, at2, at3, set0, set1, set2, ran0, ran1, ran2, ran3, maxI_one, maxI_cons, asI_nil, asI_cons, add_l, add_t, app_l, line_le, line_lt, forL_nil, forL_cons, forL_k, lp_nx, lp_ct, lp_bk, lp_rt, lp_rn, sub_ok, lcL_nil, lcL_cons, lcH_some, lcL_k, lcL_k2, L3.cutD, HT.sIx, List.take_succ_cons, List.take_zero, List.drop_succ_cons, List.drop_zero, List.sum_cons, List.sum_nil, Nat.reduceAdd, Int.reduceSub, Int.reduceAdd, int_lit, Int.reduceToNat, Nat.reduceSub, Nat.min_def, Nat.reduceLeDiff, Int.reduceLT, W_ok, bind_ok, thn_nx, thn_rt, thn_rn, thn_bk, thn_ct, cVar, cK, c1_e, c1_k, c2_e, c2_k, c2_k2, cB_e, cB_k, cAnd_e, cOr_e, cNot_e, cNot_k, cIte_e, iteK_t, iteK_f, iteK, okB, okV, cAndV_e, cOrV_e, cNotV_e, cNotV_k, cBv_e, aNil, aCons_e, aCons_k, aCons_k2, cTup_e, cTup_k, nLst_e, nLst_k, vN_e, vN_k, cN_e, cN_k, nN_e, nN_k, oNone, oSome_e, oSome_k, cSl_e, cSl_k, cSl_k2, cSl_k3, nSl_e, nSl_k, nSl_k2, nSl_k3, nCat_e, nCat_k, nCat_k2, sNil, sSeq, sFrz, sBrk, sCnt, sExp_e, sExp_k, sRet_e, sRet_k, sRetN_e, sRetN_k, sRetU, sIf_e, sSet_e, sSet_k, sSetN_e, sSetN_k, gSet, gsNil, gsCons_e, gsCons_k, nxK, gTupD, gLstD, sAsg_e, sAsg_k, sAug_e, sAug_k, iL_e, iL_k, iT_e, iT_k, iR1_e, iR1_k, iR2_e, iR2_k, iZ_e, iZ_k, iR3_e, iR3_k, cCh_e, cCh_k, cCh_k2, cCh_k3, nRan_e, nRan_k, r1F_e, r1F_k, r2F_e, r2F_k, r2F_k2, r3F_e, r3F_k, r3F_k2, r3F_k3, intP, sFor_e, run_e, runK_rt, runK_rn, runK_nx, fin, outs, cCall_e, cCall_k, cCall_k2, nCall_e, nCall_k, nCall_k2, callM, sls, lents, wbk, lk, pvD, pvDs, pvs, Sl.dat, Sl.put, gSubD_e, gSubD_k, cM_e, cM_k, cMr_e, cMr_k, cMr_k2, isTy_str, isTy_lst, cGet2_e, cGet2_k, cGet2_k2, cGet2_k3, isDic_d, iRv_e, iRv_k, get2_d, nDic0, cTru_e, cTru_k, tru_l, tru_t, emp_c, emp_n, nRevL_e, nRevL_k, iRvR_e, iRvR_k, anNew_e, anNew_k, anNew_k2, anCons_e, anCons_k, anCons_k2, cCallA_e, cCallA_k, cutA_ok, drop_l, drop_1, pNil, keyD, pCons_e, pCons_k, pCons_k2, pCons_k3, nDic_e, nDic_k, nLc_e, nLc_k, lcB_ok, unAll, backAll, noAdr, setAll, setAllF, List.map_cons, List.map_nil, hOne, cYes, List.all_cons, List.all_nil, Bool.and_true, Bool.true_and, Bool.and_self, Option.map_none, ofO, Rt.d, add_i, mns_i, mul_r, mul_l, div_i, mod_i, neg_i, lt_i, le_i, gt_i, ge_i, int_i, abs_i, len_l, len_t, get_l, get_t, toT_l, toT_t, eq_i, ne_i, eq_s, ne_s, rg_len, isN_non, isN_int, notN_non, notN_int, pow18, isi_int, isi_bool, max_ii, max_l, max_t, sum_l, sum_t, toL_l, toL_t, sl_l, sl_t, sg1, sg2, sg3, sg4, sg5, ss2, ss3, ss4, ss5, List.getElem?_cons_zero, List.getElem?_cons_succ, List.set_cons_zero, List.set_cons_succ, List.length_cons, List.length_nil, List.length_map, List.length_range, List.replicate, List.cons_append, List.nil_append, Option.bind_some, Option.map_some, Option.isSome_some, Option.bind_none, if_true, if_false, reduceIte, decide_eq_true_eq, Bool.false_eq_true, reduceCtorEq, decide_true, decide_false, Bool.not_true, Bool.not_false, *])
/-! ### without takes -/
mutual
def unS : Stm → Stm
  | .take x _ => .set x (.no 0)
  | .ifs a e b p q => .ifs a e b (unB p) (unB q)
  | .loop n p => .loop n (unB p)
  | .hold l p => .hold l (unB p)
  | s => s
def unB : List Stm → List Stm
  | [] => []
  | s :: r => unS s :: unB r
end
theorem unB_map : ∀ b : List Stm, unB b = b.map unS
  | [] => rfl
  | s :: r => by rw [unB, unB_map r]; rfl
def one1 : Stm → Stm
  | .take x _ => .set x (.no 0)
  | s => s
def uP : Pt → D
  | .f d _ => d
  | .b p => .tup (dB (unB p))
theorem dS_un (s : Stm) : dS (unS s) = .tup ((pts (one1 s)).map uP) := by cases s <;> rfl
theorem pts_one {s : Stm} {p : List Stm} (h : Pt.b p ∈ pts (one1 s)) : p ∈ inn s := by
  cases s with
  | take x c => simp [one1, pts, Op.p] at h
  | _ => exact pts_in h
theorem pts_len (s : Stm) : (pts s).length ≤ 6 := by cases s <;> simp [pts]
section
variable {N C : List Str}
theorem untaken_ok : ∀ (n k : Nat), k < n → ∀ b : List Stm, OkB N C k b → b.length ≤ 100000 → m__law_untaken n [.val (.tup (dB b))] = .ok (.v (.tup (dB (unB b)))) [.un]
  | 0, k, h => absurd h (by omega)
  | n + 1, k, h => fun b hb hbl => by
    have comp : ∀ (s : Stm) (x y1 y2 : Sl), OkS N C k s → lcL [3] hOne cYes (e__law_untaken_1 (m__law_untaken n)) ((pts (one1 s)).map Pt.dd) [] [x, y1, y2, .un] = .ok ((pts (one1 s)).map uP) [x, y1, y2, .un] := fun s x y1 y2 hs => by
      have := lcL_map (is := [3]) (h := hOne) (c := cYes) (e := e__law_untaken_1 (m__law_untaken n)) (ρ := [x, y1, y2, .un]) Pt.dd uP (pts (one1 s)) [] (by have := pts_len (one1 s); rw [sizeLine_eq]; simp; omega) fun q hq => by
        cases q with
        | f p hp =>
          refine ⟨[p], [x, y1, y2, .val p], [x, y1, y2, .val p], rfl, rfl, ?_, rfl⟩
          show _ = Out.ok (Pv.v p) _
          clear hs hq h hb hbl
          unfold e__law_untaken_1
          walk_at "ev"
        | b p =>
          refine ⟨[.tup (dB p)], [x, y1, y2, .val (.tup (dB p))], [x, y1, y2, .val (.tup (dB p))], rfl, rfl, ?_, rfl⟩
          obtain ⟨j, hj, hp, hl⟩ := hs.inn (pts_one hq)
          have e := untaken_ok n j (by omega) p hp (by omega)
          have := isi_t (x := dB p)
          show _ = Out.ok (Pv.v (.tup (dB (unB p)))) _
          generalize dB (unB p) = UP at *
          generalize dB p = DP at *
          clear hs hq h hb hbl hp hj hl
          unfold e__law_untaken_1
          walk_at "ev"
      rw [this, List.nil_append]
    have turn : ∀ (s : Stm) (x : Sl) (F : List D) (y2 : Sl), OkS N C k s → F.length ≤ 200000 → s__law_untaken_2 (m__law_untaken n) [x, .own (.lst F), .val (dS s), .un] = .ok .nx [x, .own (.lst (F ++ [dS (unS s)])), .val (dS (one1 s)), .un] := fun s x F y2 hs hF => by
      have c1 := comp s x (.own (.lst F)) (.val (dS (one1 s))) hs
      have a1 : gAppend (.lst F) [dS (unS s)] = some (.non, .lst (F ++ [dS (unS s)])) := app_l (by rw [sizeLine_eq]; omega)
      have e1 := dS_pts (one1 s)
      have e2 := dS_un s
      have g0 := g_0 s
      have z3 : (3 : Nat) ≤ sizeLine := by rw [sizeLine_eq]; decide
      have tt : ∀ l : List D, gToT [.lst l] = some (.tup l) := fun l => rfl
      rw [e2] at a1 ⊢
      clear e2
      by_cases hk : ∃ v c, s = .take v c
      · obtain ⟨v, c, rfl⟩ := hk
        replace g0 : gGet (dS (.take v c)) (.int 0) = some (.str "take") := g0
        have g1 : gGet (dS (.take v c)) (.int 1) = some (.str v) := by rw [dS]; rfl
        have e3 : dS (one1 (.take v c)) = .tup [.str "set", .str v, .int 0] := rfl
        have et := tt ((pts (one1 (.take v c))).map uP)
        clear tt
        rw [e3] at c1 e1 ⊢
        rw [D.tup.injEq] at e1
        rw [← e1] at c1
        generalize (pts (one1 (.take v c))).map uP = UL at *
        generalize dS (.take v c) = SC at *
        clear e1 e3 comp hs hF h hb hbl
        unfold s__law_untaken_2
        walk_at "ev"
      · have e3 : one1 s = s := by cases s <;> first | rfl | exact absurd ⟨_, _, rfl⟩ hk
        have et := tt ((pts (one1 s)).map uP)
        clear tt
        have kn : ¬ kd s = "take" := by
          intro hq
          cases s with
          | take v c => exact hk ⟨_, _, rfl⟩
          | sum k x a b => cases k <;> (simp only [kd, Sk.s] at hq; exact absurd hq (by decide))
          | _ => (simp only [kd] at hq; exact absurd hq (by decide))
        rw [e3] at c1 e1 et a1 ⊢
        generalize (pts s).map uP = UL at *
        generalize (pts s).map Pt.dd = PL at *
        generalize kd s = KD at *
        clear e3 comp hs hF h hb hbl hk
        generalize dS s = SC at *
        subst e1
        unfold s__law_untaken_2
        walk_at "ev"
    have key : ∀ (v : List Stm) (x : Sl) (F : List D) (y2 : Sl), OkB N C k v → F.length + v.length ≤ 200000 → ∃ y2', forL (gSet 2) (s__law_untaken_2 (m__law_untaken n)) (dB v) [x, .own (.lst F), y2, .un] = .ok .nx [x, .own (.lst (F ++ dB (unB v))), y2', .un] := by
      intro v
      induction v with
      | nil => exact fun x F y2 _ _ => ⟨y2, by rw [unB, dB, List.append_nil]; rfl⟩
      | cons s v ih =>
        intro x F y2 hv hl
        simp only [List.length_cons] at hl
        have e := turn s x F .un (hv s List.mem_cons_self) (by omega)
        have sp : ∀ r, forL (gSet 2) (s__law_untaken_2 (m__law_untaken n)) (dS s :: r) [x, .own (.lst F), y2, .un] = (s__law_untaken_2 (m__law_untaken n) [x, .own (.lst F), .val (dS s), .un]).lp (forL (gSet 2) (s__law_untaken_2 (m__law_untaken n)) r) := fun r => by rw [forL_cons]; rfl
        rw [dB, sp, e, unB, dB]
        obtain ⟨y2', e'⟩ := ih x (F ++ [dS (unS s)]) (.val (dS (one1 s))) (fun y hy => hv y (List.mem_cons_of_mem _ hy)) (by rw [List.length_append]; simp only [List.length_singleton]; omega)
        refine ⟨y2', ?_⟩
        rw [List.append_assoc] at e'
        exact e'
    obtain ⟨y2, e⟩ := key b (.val (.tup (dB b))) [] .un hb (by simpa using Nat.le_trans hbl (by decide))
    rw [List.nil_append] at e
    have tt : gToT [.lst (dB (unB b))] = some (.tup (dB (unB b))) := rfl
    have z0 : (0 : Nat) ≤ sizeLine := Nat.zero_le _
    clear key turn comp
    generalize dB (unB b) = UB at *
    generalize dB b = S at *
    show L3.run false 4 (g__law_untaken (m__law_untaken n)) _ = _
    unfold g__law_untaken
    walk_at "ev"
/-! ### what is let stays let; nothing is carried -/
theorem un_ok : ∀ (k : Nat) (s : Stm), OkS N C k s → OkS N C k (unS s)
  | k, .set _ _, h | k, .sum _ _ _ _, h | k, .read _ _, h | k, .send _ _, h | k, .get _ _ _, h | k, .put _ _ _, h | k, .call _, h => h
  | 0, .take _ _, h => ⟨h.1, by decide, by decide⟩
  | k + 1, .take _ _, h => ⟨h.1, by decide, by decide⟩
  | k + 1, .ifs _ _ _ _ _, h => by
    simp only [unS, OkS] at h ⊢
    rw [unB_map, unB_map, List.length_map, List.length_map]
    refine ⟨h.1, h.2.1, h.2.2.1, h.2.2.2.1, fun s hs => ?_, fun s hs => ?_⟩
    · obtain ⟨x, hx, rfl⟩ := List.mem_map.mp hs
      exact un_ok k x (h.2.2.2.2.1 x hx)
    · obtain ⟨x, hx, rfl⟩ := List.mem_map.mp hs
      exact un_ok k x (h.2.2.2.2.2 x hx)
  | k + 1, .loop _ _, h => by
    simp only [unS, OkS] at h ⊢
    rw [unB_map, List.length_map]
    refine ⟨h.1, h.2.1, fun s hs => ?_⟩
    obtain ⟨x, hx, rfl⟩ := List.mem_map.mp hs
    exact un_ok k x (h.2.2 x hx)
  | k + 1, .hold _ _, h => by
    simp only [unS, OkS] at h ⊢
    rw [unB_map, List.length_map]
    refine ⟨h.1, h.2.1, fun s hs => ?_⟩
    obtain ⟨x, hx, rfl⟩ := List.mem_map.mp hs
    exact un_ok k x (h.2.2 x hx)
  | 0, .ifs _ _ _ _ _, h | 0, .loop _ _, h | 0, .hold _ _, h => h.elim
theorem unB_ok {k : Nat} {b : List Stm} (h : OkB N C k b) : OkB N C k (unB b) := fun s hs => by
  rw [unB_map] at hs
  obtain ⟨x, hx, rfl⟩ := List.mem_map.mp hs
  exact un_ok k x (h x hx)
mutual
theorem fl_un : ∀ s : Stm, ∀ x ∈ flS (unS s), isTake x = false
  | .ifs a e b p q, x, hx => by
    simp only [unS, flS, List.mem_cons, List.mem_append] at hx
    rcases hx with rfl | hx | hx
    · rfl
    · exact flB_un p x hx
    · exact flB_un q x hx
  | .loop n p, x, hx => by
    simp only [unS, flS, List.mem_cons] at hx
    rcases hx with rfl | hx
    · rfl
    · exact flB_un p x hx
  | .hold n p, x, hx => by
    simp only [unS, flS, List.mem_cons] at hx
    rcases hx with rfl | hx
    · rfl
    · exact flB_un p x hx
  | .set _ _, x, hx | .sum _ _ _ _, x, hx | .take _ _, x, hx | .read _ _, x, hx | .send _ _, x, hx | .get _ _ _, x, hx | .put _ _ _, x, hx | .call _, x, hx => by
    simp only [unS, flS, List.mem_singleton] at hx
    subst hx; rfl
theorem flB_un : ∀ b : List Stm, ∀ x ∈ flB (unB b), isTake x = false
  | [], x, hx => by cases hx
  | s :: r, x, hx => by
    rw [unB, flB, List.mem_append] at hx
    rcases hx with hx | hx
    · exact fl_un s x hx
    · exact flB_un r x hx
end
theorem car_none {w : List Stm} (h : ∀ s ∈ w, isTake s = false) : ∀ x, ¬ Car w x := fun x c => by
  induction c with
  | take hs t => rw [h _ hs] at t; cases t
  | give _ _ _ _ ih => exact ih
theorem rs_nil (s : Stm) : rs s [] = none := by
  cases s with
  | sum k x a b => cases k <;> rfl
  | _ => rfl
def unT (T : Tree) : Tree := { T with subs := T.subs.map fun p => (p.1, unB p.2), tasks := T.tasks.map fun t => (t.1, t.2.1, unB t.2.2) }
theorem unT_ok {T : Tree} (h : Tok N T) : Tok N (unT T) := by
  have e1 : (unT T).subs.map (·.1) = T.subs.map (·.1) := by simp [unT]
  refine ⟨⟨?_, by simpa [unT] using h.s.s4⟩, ⟨?_, ?_⟩, by simpa [unT] using h.t3⟩
  · rw [e1]
    intro p hp
    obtain ⟨q, hq, rfl⟩ := List.mem_map.mp hp
    obtain ⟨h1, h2, h3⟩ := h.s.b q hq
    exact ⟨h1, unB_ok h2, by rw [unB_map, List.length_map]; exact h3⟩
  · rw [e1]
    intro p hp
    obtain ⟨q, hq, rfl⟩ := List.mem_map.mp hp
    obtain ⟨h1, h2, h3⟩ := h.e.b q hq
    exact ⟨h1, unB_ok h2, by rw [unB_map, List.length_map]; exact h3⟩
  · have : (unT T).tasks.map (·.1) = T.tasks.map (·.1) := by simp [unT]
    rw [this]; exact h.e.nd
theorem calm_task {T : Tree} (hN : Nms N) (h : Tok N T) {t : Str × Int × List Stm} (ht : t ∈ (unT T).tasks) :
    m_carried_names [.val (treeD (unT T)), .val (.str t.1)] = .ok (.v (.tup [])) [.un, .un] ∧ m_carried_fault [.val (treeD (unT T)), .val (.str t.1)] = .ok (.v .non) [.un, .un] := by
  obtain ⟨o, sn, Z, r, _, _, _, e4, e5, _, hr, hz, wk⟩ := task_ok hN (unT_ok h) ht
  have hno : ∀ s ∈ o, isTake s = false := wk.all (P := fun s => isTake s = false) (fun p hp => by
    obtain ⟨q, hq, rfl⟩ := List.mem_map.mp hp
    exact flB_un q.2) (by
    obtain ⟨q, hq, rfl⟩ := List.mem_map.mp ht
    exact flB_un q.2.2)
  have hZ : Z = [] := by
    cases Z with
    | nil => rfl
    | cons x Z => exact absurd ((hz x).mp List.mem_cons_self) (car_none hno x)
  subst hZ
  have hr2 : r = none := by
    rw [hr, List.findSome?_eq_none_iff]
    exact fun s _ => rs_nil s
  subst hr2
  exact ⟨e4, e5⟩
end
end K08
namespace K08
open PySem PySem.Spec PyProof.Rows L2 L3
local macro_rules | `(tactic| walk_at "ev") => `(tactic| simp (config := {decide := true}) only [W_ok, bind_ok, thn_nx, thn_rt, thn_rn, thn_bk, thn_ct, cVar, cK, c1_e, c1_k, c2_e, c2_k, c2_k2, cB_e, cB_k, cAnd_e, cOr_e, cNot_e, cNot_k, cIte_e, iteK_t, iteK_f, iteK, okB, okV, cAndV_e, cOrV_e, cNotV_e, cNotV_k, cBv_e, aNil, aCons_e, aCons_k, aCons_k2, cTup_e, cTup_k, nLst_e, nLst_k, vN_e, vN_k, cN_e, cN_k, nN_e, nN_k, oNone, oSome_e, oSome_k, cSl_e, cSl_k, cSl_k2, cSl_k3, nSl_e, nSl_k, nSl_k2, nSl_k3, nCat_e, nCat_k, nCat_k2, sNil, sSeq, sFrz, sBrk, sCnt, sExp_e, sExp_k, sRet_e, sRet_k, sRetN_e, sRetN_k, sRetU, sIf_e, sSet_e, sSet_k, sSetN_e, sSetN_k, gSet, gsNil, gsCons_e, gsCons_k, nxK, gTupD, gLstD, sAsg_e, sAsg_k, sAug_e, sAug_k, iL_e, iL_k, iT_e, iT_k, iR1_e, iR1_k, iR2_e, iR2_k, iZ_e, iZ_k, iR3_e, iR3_k, cCh_e, cCh_k, cCh_k2, cCh_k3, nRan_e, nRan_k, r1F_e, r1F_k, r2F_e, r2F_k, r2F_k2, r3F_e, r3F_k, r3F_k2, r3F_k3, intP, sFor_e, run_e, runK_rt, runK_rn, runK_nx, fin, outs, cCall_e, cCall_k, cCall_k2, nCall_e, nCall_k, nCall_k2, callM, sls, lents, wbk, lk, pvD, pvDs, pvs, Sl.dat, Sl.put, gSubD_e, gSubD_k, cM_e, cM_k, cMr_e, cMr_k, cMr_k2, isTy_str, isTy_lst, cGet2_e, cGet2_k, cGet2_k2, cGet2_k3, isDic_d, iRv_e, iRv_k, get2_d, nDic0, cTru_e, cTru_k, tru_l, tru_t, emp_c, emp_n, nRevL_e, nRevL_k, iRvR_e, iRvR_k, anNew_e, anNew_k, anNew_k2, anCons_e, anCons_k, anCons_k2, cCallA_e, cCallA_k, cutA_ok, drop_l, drop_1, pNil, keyD, pCons_e, pCons_k, pCons_k2, pCons_k3, nDic_e, nDic_k, nLc_e, nLc_k, lcB_ok, unAll, backAll, noAdr, setAll, setAllF, List.map_cons, List.map_nil, hOne, cYes, List.all_cons, List.all_nil, Bool.and_true, Bool.true_and, Bool.and_self, Option.map_none, ofO, Rt.d, add_i, mns_i, mul_r, mul_l, div_i, mod_i, neg_i, lt_i, le_i, gt_i, ge_i, int_i, abs_i, len_l, len_t, get_l, get_t, toT_l, toT_t, eq_i, ne_i, eq_s, ne_s, rg_len, isN_non, isN_int, notN_non, notN_int, pow18, isi_int, isi_bool, max_ii, max_l, max_t, sum_l, sum_t, toL_l, toL_t, sl_l, sl_t, sg1, sg2, sg3, sg4, sg5, ss2, ss3, ss4, ss5, List.getElem?_cons_zero, List.getElem?_cons_succ, List.set_cons_zero, List.set_cons_succ, List.length_cons, List.length_nil, List.length_map, List.length_range, List.replicate, List.cons_append, List.nil_append, Option.bind_some, Option.map_some, Option.isSome_some, Option.bind_none, if_true, if_false, reduceIte, decide_eq_true_eq, Bool.false_eq_true, reduceCtorEq, decide_true, decide_false, Bool.not_true, Bool.not_false, *])
local macro_rules | `(tactic| walk_at "evc") => `(tactic| simp (config := {decide := true}) only [at0, at1, at2, at3, set0, set1, set2, ran0, ran1, ran2, ran3, maxI_one, maxI_cons, asI_nil, asI_cons, add_l, add_t, app_l, line_le, line_lt, forL_nil, forL_cons, forL_k, lp_nx, lp_ct, lp_bk, lp_rt, lp_rn, sub_ok, lcL_nil, lcL_cons, lcH_some, lcL_k, lcL_k2, L3.cutD, HT.sIx, List.take_succ_cons, List.take_zero, List.drop_succ_cons, List.drop_zero, List.sum_cons, List.sum_nil, Nat.reduceAdd, Int.reduceSub, Int.reduceAdd, int_lit, Int.reduceToNat, Nat.reduceSub, Nat.min_def, Nat.reduceLeDiff, Int.reduceLT, W_ok, bind_ok, thn_nx, thn_rt, thn_rn, thn_bk, thn_ct, cVar, cK, c1_e, c1_k, c2_e, c2_k, c2_k2, cB_e, cB_k, cAnd_e, cOr_e, cNot_e, cNot_k, cIte_e, iteK_t, iteK_f, iteK, okB, okV, cAndV_e, cOrV_e, cNotV_e, cNotV_k, cBv_e, aNil, aCons_e, aCons_k, aCons_k2, cTup_e, cTup_k, nLst_e, nLst_k, vN_e, vN_k, cN_e, cN_k, nN_e, nN_k, oNone, oSome_e, oSome_k, cSl_e, cSl_k, cSl_k2, cSl_k3, nSl_e, nSl_k, nSl_k2, nSl_k3, nCat_e, nCat_k, nCat_k2, sNil, sSeq, sFrz, sBrk, sCnt, sExp_e, sExp_k, sRet_e, sRet_k, sRetN_e, sRetN_k, sRetU, sIf_e, sSet_e, sSet_k, sSetN_e, sSetN_k, gSet, gsNil, gsCons_e, gsCons_k, nxK, gTupD, gLstD, sAsg_e, sAsg_k, sAug_e, sAug_k, iL_e, iL_k, iT_e, iT_k, iR1_e, iR1_k, iR2_e, iR2_k, iZ_e, iZ_k, iR3_e, iR3_k, cCh_e, cCh_k, cCh_k2, cCh_k3, nRan_e, nRan_k, r1F_e, r1F_k, r2F_e, r2F_k, r2F_k2, r3F_e, r3F_k, r3F_k2, r3F_k3, intP, sFor_e, run_e, runK_rt, runK_rn, runK_nx, fin, outs, cCall_e, cCall_k, cCall_k2, nCall_e, nCall_k, nCall_k2, callM, sls, lents, wbk, lk, pvD, pvDs, pvs, Sl.dat, Sl.put, gSubD_e, gSubD_k, cM_e, cM_k, cMr_e, cMr_k, cMr_k2, isTy_str, isTy_lst, cGet2_e, cGet2_k, cGet2_k2, cGet2_k3, isDic_d, iRv_e, iRv_k, get2_d, nDic0, cTru_e, cTru_k, tru_l, tru_t, emp_c, emp_n, nRevL_e, nRevL_k, iRvR_e, iRvR_k, anNew_e, anNew_k, anNew_k2, anCons_e, anCons_k, anCons_k2, cCallA_e, cCallA_k, cutA_ok, drop_l, drop_1, pNil, keyD, pCons_e, pCons_k, pCons_k2, pCons_k3, nDic_e, nDic_k, nLc_e, nLc_k, lcB_ok, unAll, backAll, noAdr, setAll, setAllF, List.map_cons, List.map_nil, hOne, cYes, List.all_cons, List.all_nil, Bool.and_true, Bool.true_and, Bool.and_self, Option.map_none, ofO, Rt.d, add_i, mns_i, mul_r, mul_l, div_i, mod_i, neg_i, lt_i, le_i, gt_i, ge_i, int_i, abs_i, len_l, len_t, get_l, get_t, toT_l, toT_t, eq_i, ne_i, eq_s, ne_s, rg_len, isN_non, isN_int, notN_non, notN_int, pow18, isi_int, isi_bool, max_ii, max_l, max_t, sum_l, sum_t, toL_l, toL_t, sl_l, sl_t, sg1, sg2, sg3, sg4, sg5, ss2, ss3, ss4, ss5, List.getElem?_cons_zero, List.getElem?_cons_succ, List.set_cons_zero, List.set_cons_succ, List.length_cons, List.length_nil, List.length_map, List.length_range, List.replicate, List.cons_append, List.nil_append, Option.bind_some, Option.map_some, Option.isSome_some, Option.bind_none, if_true, if_false, reduceIte, decide_eq_true_eq, Bool.false_eq_true, reduceCtorEq, decide_true, decide_false, Bool.not_true, Bool.not_false, *])
section
variable {N : List Str} {T : Tree}
theorem subs_comp {y0 y1 y2 y3 y4 y5 y6 y7 y8 : Sl} {C : List Str} (h : ∀ p ∈ T.subs, OkB N C 3 p.2 ∧ p.2.length ≤ 20) (h4 : T.subs.length ≤ 4) :
    lcL [9] hOne cYes e_law_5 (T.subs.map subD) [] [y0, y1, y2, y3, y4, y5, y6, y7, y8, .un] = .ok ((unT T).subs.map subD) [y0, y1, y2, y3, y4, y5, y6, y7, y8, .un] := by
  have := lcL_map (is := [9]) (h := hOne) (c := cYes) (e := e_law_5) (ρ := [y0, y1, y2, y3, y4, y5, y6, y7, y8, .un]) subD (fun p => subD (p.1, unB p.2)) T.subs [] (by rw [sizeLine_eq]; simp; omega) fun p hp => by
    obtain ⟨h1, h2⟩ := h p hp
    have e := untaken_ok 6 3 (by decide) p.2 h1 (by omega)
    have g0 : gGet (subD p) (.int 0) = some (.str p.1) := rfl
    have g1 : gGet (subD p) (.int 1) = some (.tup (dB p.2)) := rfl
    have z2 : (2 : Nat) ≤ sizeLine := by rw [sizeLine_eq]; decide
    refine ⟨[subD p], [y0, y1, y2, y3, y4, y5, y6, y7, y8, .val (subD p)], [y0, y1, y2, y3, y4, y5, y6, y7, y8, .val (subD p)], rfl, rfl, ?_, rfl⟩
    show _ = Out.ok (Pv.v (.tup [.str p.1, .tup (dB (unB p.2))])) _
    clear h h4 hp h1 h2
    generalize subD p = PD at *
    generalize dB (unB p.2) = UD at *
    generalize dB p.2 = BD at *
    unfold e_law_5
    walk_at "ev"
  rw [this, List.nil_append]
  unfold unT
  rw [List.map_map]
  rfl
theorem tasks_comp {y0 y1 y2 y3 y4 y5 y6 y7 y9 : Sl} {C : List Str} (h : ∀ t ∈ T.tasks, OkB N C 3 t.2.2 ∧ t.2.2.length ≤ 20) (h4 : T.tasks.length ≤ 3) :
    lcL [8] hOne cYes e_law_7 (T.tasks.map (taskD T.ar)) [] [y0, y1, y2, y3, y4, y5, y6, y7, .un, y9] = .ok ((unT T).tasks.map (taskD T.ar)) [y0, y1, y2, y3, y4, y5, y6, y7, .un, y9] := by
  have := lcL_map (is := [8]) (h := hOne) (c := cYes) (e := e_law_7) (ρ := [y0, y1, y2, y3, y4, y5, y6, y7, .un, y9]) (taskD T.ar) (fun t => taskD T.ar (t.1, t.2.1, unB t.2.2)) T.tasks [] (by rw [sizeLine_eq]; simp; omega) fun p hp => by
    obtain ⟨h1, h2⟩ := h p hp
    have e := untaken_ok 6 3 (by decide) p.2.2 h1 (by omega)
    have g0 : gGet (taskD T.ar p) (.int 0) = some (.str p.1) := rfl
    have g1 : gGet (taskD T.ar p) (.int 1) = some (.tup [.tup [.str T.ar, .int p.2.1]]) := rfl
    have g2 : gGet (taskD T.ar p) (.int 2) = some (.tup (dB p.2.2)) := rfl
    have z3 : (3 : Nat) ≤ sizeLine := by rw [sizeLine_eq]; decide
    refine ⟨[taskD T.ar p], [y0, y1, y2, y3, y4, y5, y6, y7, .val (taskD T.ar p), y9], [y0, y1, y2, y3, y4, y5, y6, y7, .val (taskD T.ar p), y9], rfl, rfl, ?_, rfl⟩
    show _ = Out.ok (Pv.v (.tup [.str p.1, .tup [.tup [.str T.ar, .int p.2.1]], .tup (dB (unB p.2.2))])) _
    clear h h4 hp h1 h2
    generalize taskD T.ar p = PD at *
    generalize dB (unB p.2.2) = UD at *
    generalize dB p.2.2 = BD at *
    generalize D.tup [.tup [.str T.ar, .int p.2.1]] = AD at *
    unfold e_law_7
    walk_at "ev"
  rw [this, List.nil_append]
  unfold unT
  rw [List.map_map]
  rfl
theorem calm_turn (hN : Nms N) (h : Tok N T) {t : Str × Int × List Stm} (ht : t ∈ (unT T).tasks) {y0 y1 y2 y3 y4 y5 y6 y9 : Sl} :
    s_law_10 [y0, y1, y2, y3, y4, y5, y6, .val (treeD (unT T)), .val (taskD T.ar t), y9] = .ok .nx [y0, y1, y2, y3, y4, y5, y6, .val (treeD (unT T)), .val (taskD T.ar t), y9] := by
  obtain ⟨e1, e2⟩ := calm_task hN h ht
  have g0 : gGet (taskD T.ar t) (.int 0) = some (.str t.1) := rfl
  have n1 : gNe (.tup []) (.tup []) = some (.bl false) := ne_self rfl
  have n2 : gNotN .non .non = some (.bl false) := rfl
  have z0 : (0 : Nat) ≤ sizeLine := Nat.zero_le _
  clear hN h ht
  generalize treeD (unT T) = TD at *
  generalize taskD T.ar t = ED at *
  unfold s_law_10
  walk_at "evc"
theorem calm_loop (hN : Nms N) (h : Tok N T) {y0 y1 y2 y3 y4 y5 y6 y9 : Sl} : ∀ (E : List (Str × Int × List Stm)) (y8 : Sl), (∀ t ∈ E, t ∈ (unT T).tasks) → ∃ y8', forL (gSet 8) s_law_10 (E.map (taskD T.ar)) [y0, y1, y2, y3, y4, y5, y6, .val (treeD (unT T)), y8, y9] = .ok .nx [y0, y1, y2, y3, y4, y5, y6, .val (treeD (unT T)), y8', y9]
  | [], y8, _ => ⟨y8, rfl⟩
  | t :: E, y8, hE => by
    have e := calm_turn hN h (hE t List.mem_cons_self) (y0 := y0) (y1 := y1) (y2 := y2) (y3 := y3) (y4 := y4) (y5 := y5) (y6 := y6) (y9 := y9)
    have sp : ∀ r, forL (gSet 8) s_law_10 (taskD T.ar t :: r) [y0, y1, y2, y3, y4, y5, y6, .val (treeD (unT T)), y8, y9] = (s_law_10 [y0, y1, y2, y3, y4, y5, y6, .val (treeD (unT T)), .val (taskD T.ar t), y9]).lp (forL (gSet 8) s_law_10 r) := fun r => by rw [forL_cons]; rfl
    obtain ⟨y8', e'⟩ := calm_loop hN h E (.val (taskD T.ar t)) fun x hx => hE x (List.mem_cons_of_mem _ hx)
    refine ⟨y8', ?_⟩
    rw [List.map_cons, sp, e]
    exact e'
theorem add_tup {a b : List D} (h : a.length + b.length ≤ 1000) : gAdd (.tup a) (.tup b) = some (.tup (a ++ b)) := by
  show (if a.length + b.length ≤ sizeLine then _ else _) = _
  rw [if_pos (by rw [sizeLine_eq]; omega)]
theorem q6_ok {y0 y1 y2 y4 y5 y6 y7 y8 : Sl} {C : List Str} (h : ∀ p ∈ T.subs, OkB N C 3 p.2 ∧ p.2.length ≤ 20) (h4 : T.subs.length ≤ 4) :
    q_law_6 [y0, y1, y2, .val (treeD T), y4, y5, y6, y7, y8, .un] = .ok .nx [y0, y1, y2, .val (treeD T), y4, .val (.tup ((unT T).subs.map subD)), y6, y7, y8, .un] := by
  have e := subs_comp h h4 (y0 := y0) (y1 := y1) (y2 := y2) (y3 := .val (treeD T)) (y4 := y4) (y5 := y5) (y6 := y6) (y7 := y7) (y8 := y8)
  have g4 : gGet (treeD T) (.int 4) = some (.tup (T.subs.map subD)) := rfl
  have tt : gToT [.lst ((unT T).subs.map subD)] = some (.tup ((unT T).subs.map subD)) := rfl
  clear h h4
  generalize (unT T).subs.map subD = UD at *
  generalize T.subs.map subD = SD at *
  generalize treeD T = TD at *
  unfold q_law_6
  walk_at "ev"
theorem q8_ok {y0 y1 y2 y4 y5 y6 y7 y9 : Sl} {C : List Str} (h : ∀ t ∈ T.tasks, OkB N C 3 t.2.2 ∧ t.2.2.length ≤ 20) (h4 : T.tasks.length ≤ 3) :
    q_law_8 [y0, y1, y2, .val (treeD T), y4, y5, y6, y7, .un, y9] = .ok .nx [y0, y1, y2, .val (treeD T), y4, y5, .val (.tup ((unT T).tasks.map (taskD T.ar))), y7, .un, y9] := by
  have e := tasks_comp h h4 (y0 := y0) (y1 := y1) (y2 := y2) (y3 := .val (treeD T)) (y4 := y4) (y5 := y5) (y6 := y6) (y7 := y7) (y9 := y9)
  have g4 : gGet (treeD T) (.int 5) = some (.tup (T.tasks.map (taskD T.ar))) := rfl
  have tt : gToT [.lst ((unT T).tasks.map (taskD T.ar))] = some (.tup ((unT T).tasks.map (taskD T.ar))) := rfl
  clear h h4
  generalize (unT T).tasks.map (taskD T.ar) = UD at *
  generalize T.tasks.map (taskD T.ar) = SD at *
  generalize treeD T = TD at *
  unfold q_law_8
  walk_at "ev"
theorem q9_ok {y0 y1 y2 y4 y7 y8 y9 : Sl} :
    q_law_9 [y0, y1, y2, .val (treeD T), y4, .val (.tup ((unT T).subs.map subD)), .val (.tup ((unT T).tasks.map (taskD T.ar))), y7, y8, y9] = .ok .nx [y0, y1, y2, .val (treeD T), y4, .val (.tup ((unT T).subs.map subD)), .val (.tup ((unT T).tasks.map (taskD T.ar))), .val (treeD (unT T)), y8, y9] := by
  have c : gSl (treeD T) none (some 4) = some (.tup [.int 4, .tup [.tup [.str T.po, .int 2]], .tup (T.ch.map chD), .tup [.str T.lo]]) := rfl
  have a : gAdd (.tup [.int 4, .tup [.tup [.str T.po, .int 2]], .tup (T.ch.map chD), .tup [.str T.lo]]) (.tup [.tup ((unT T).subs.map subD), .tup ((unT T).tasks.map (taskD T.ar))]) = some (treeD (unT T)) := add_tup (by simp)
  have z2 : (2 : Nat) ≤ sizeLine := by rw [sizeLine_eq]; decide
  generalize treeD (unT T) = UT at *
  generalize (unT T).tasks.map (taskD T.ar) = UD at *
  generalize (unT T).subs.map subD = US at *
  generalize D.tup [.int 4, .tup [.tup [.str T.po, .int 2]], .tup (T.ch.map chD), .tup [.str T.lo]] = FD at *
  generalize treeD T = TD at *
  unfold q_law_9
  walk_at "ev"
end
theorem law_true (ns : List Int) (h : ns.length ≤ 63) : ∃ cs, m_law [.val (.lst (ns.map .int))] = .ok (.v (.bl true)) cs := by
  obtain ⟨d0, e0, w0⟩ := begin_ok h
  obtain ⟨N, d1, e1, hl, hnm, w1⟩ := names_ok w0 (m := 25) (by decide)
  have hN : Nms N := ⟨hl, fun x hx => by
    obtain ⟨j, hj, rfl⟩ := List.getElem_of_mem hx
    exact (hnm j hj).ok (by omega)⟩
  have nmE : ∀ i, (hi : i < N.length) → nm N i = N[i] := fun i hi => by
    unfold nm
    rw [List.getD_eq_getElem?_getD, List.getElem?_eq_getElem hi]; rfl
  have hD : ∀ i j, i < 25 → j < 25 → nm N i = nm N j → i = j := fun i j hi hj e => by
    rw [nmE i (by omega), nmE j (by omega)] at e
    exact (hnm i (by omega)).inj (e ▸ hnm j (by omega)) (by omega) (by omega)
  obtain ⟨T1, d2, e2, ok1, w2⟩ := tree_ok w1 hl hD
  obtain ⟨T2, d3, e3, ok2, w3⟩ := tree_ok w2 hl hD
  have r1 := is_right_ok hN ok1
  have r2 := is_right_ok hN ok2
  have r3 := is_right_ok hN (unT_ok ok1)
  have q6 := q6_ok (T := T1) (fun p hp => (ok1.s.b p hp).2) ok1.s.s4 (y0 := .val (.lst (ns.map .int))) (y1 := .own d3) (y2 := .val (.lst (N.map D.str))) (y4 := .val (treeD T2)) (y5 := .un) (y6 := .un) (y7 := .un) (y8 := .un)
  have q8 := q8_ok (T := T1) (fun p hp => (ok1.e.b p hp).2) ok1.t3 (y0 := .val (.lst (ns.map .int))) (y1 := .own d3) (y2 := .val (.lst (N.map D.str))) (y4 := .val (treeD T2)) (y5 := .val (.tup ((unT T1).subs.map subD))) (y6 := .un) (y7 := .un) (y9 := .un)
  have q9 := q9_ok (T := T1) (y0 := .val (.lst (ns.map .int))) (y1 := .own d3) (y2 := .val (.lst (N.map D.str))) (y4 := .val (treeD T2)) (y7 := .un) (y8 := .un) (y9 := .un)
  obtain ⟨y8, lp⟩ := calm_loop hN ok1 (unT T1).tasks .un (fun _ h => h) (y0 := .val (.lst (ns.map .int))) (y1 := .own d3) (y2 := .val (.lst (N.map D.str))) (y3 := .val (treeD T1)) (y4 := .val (treeD T2)) (y5 := .val (.tup ((unT T1).subs.map subD))) (y6 := .val (.tup ((unT T1).tasks.map (taskD T1.ar)))) (y9 := .un)
  replace e1 : m__law_names [.bor d0, .val (.int 25)] = .ok (.n (.lst (N.map D.str))) [.bor d1, .un] := e1
  clear h hl hnm hN nmE hD ok1 ok2 w0 w1 w2 w3
  generalize (unT T1).tasks.map (taskD T1.ar) = UE at *
  generalize (unT T1).subs.map subD = US at *
  generalize treeD (unT T1) = UT at *
  generalize treeD T1 = TA at *
  generalize treeD T2 = TB at *
  generalize D.lst (N.map D.str) = ND at *
  generalize D.lst (ns.map D.int) = SC at *
  have s1 : q_law_1 [.val SC, .own d0, .un, .un, .un, .un, .un, .un, .un, .un] = .ok .nx [.val SC, .own d1, .val ND, .un, .un, .un, .un, .un, .un, .un] := by
    clear e0 e2 e3 r1 r2 r3 q6 q8 q9 lp
    unfold q_law_1
    walk_at "ev"
  have s2 : q_law_2 [.val SC, .own d1, .val ND, .un, .un, .un, .un, .un, .un, .un] = .ok .nx [.val SC, .own d2, .val ND, .val TA, .un, .un, .un, .un, .un, .un] := by
    clear e0 e1 e3 r1 r2 r3 q6 q8 q9 lp s1
    unfold q_law_2
    walk_at "ev"
  have s3 : q_law_3 [.val SC, .own d2, .val ND, .val TA, .un, .un, .un, .un, .un, .un] = .ok .nx [.val SC, .own d3, .val ND, .val TA, .val TB, .un, .un, .un, .un, .un] := by
    clear e0 e1 e2 r1 r2 r3 q6 q8 q9 lp s1 s2
    unfold q_law_3
    walk_at "ev"
  have s4 : q_law_4 [.val SC, .own d3, .val ND, .val TA, .val TB, .un, .un, .un, .un, .un] = .ok .nx [.val SC, .own d3, .val ND, .val TA, .val TB, .un, .un, .un, .un, .un] := by
    clear e0 e1 e2 e3 r3 q6 q8 q9 lp s1 s2 s3
    unfold q_law_4
    walk_at "ev"
  clear e1 e2 e3 r2
  suffices hs : L3.W (m_law [.val SC]) (fun r cs => r = .v (.bl true)) by
    obtain ⟨r, cs, e, rfl⟩ := hs.ok
    exact ⟨cs, e⟩
  unfold m_law g_law
  generalize q_law_1 = Q1 at *
  generalize q_law_2 = Q2 at *
  generalize q_law_3 = Q3 at *
  generalize q_law_4 = Q4 at *
  generalize q_law_6 = Q6 at *
  generalize q_law_8 = Q8 at *
  generalize q_law_9 = Q9 at *
  walk_at "ev"
end K08
open PySem PySem.W PyProof.Rows
set_option maxHeartbeats 0 in
theorem PySem.Challenge.cw_ticksurety_k08_carried_by_own_closure_holds : PySem.Challenge.rw_ticksurety_k08_carried_by_own_closure.Holds := by
  w_on; o_law; k_head; (case hw => w_witness2)
  k_fill
  refine L3.law_end (l := PySem.Challenge.rw_ticksurety_k08_carried_by_own_closure) (n := 63) (k := 28) (x := "script") (m := K08.m_law) rfl (by decide) rfl ⟨⟨rfl, by decide, by decide⟩, rfl⟩ (fun w h Y => PySem.W.kIn_of Y) ?K ?F K08.law_true
  case K => exact fun _ => rfl
  case F =>
    intro w mg fa h KX G hmg
    refine' K08.all_mk KX G hmg ?aC_SuretyError ?aC_NoSuch ?xL_NoSuch ?sa_NoSuch ?ga_NoSuch ?gg_NoSuch ?nb0_NoSuch ?ai_NoSuch ?ty_NoSuch ?li_NoSuch ?ci_NoSuch ?ki_NoSuch ?kC_NoSuch ?hC_NoSuch ?eC_NoSuch ?tC_NoSuch ?co_SUMS ?cl_SUMS ?cv_SUMS ?cz_SUMS ?a0 ?l0 ?c0 ?k0 ?a1 ?l1 ?c1 ?k1 ?a2 ?l2 ?c2 ?k2 ?a3 ?l3 ?c3 ?k3 ?a4 ?l4 ?c4 ?k4 ?a5 ?l5 ?c5 ?k5 ?a6 ?l6 ?c6 ?k6 ?a7 ?l7 ?c7 ?k7 ?a8 ?l8 ?c8 ?k8 ?a9 ?l9 ?c9 ?k9 ?a10 ?l10 ?c10 ?k10 ?a11 ?l11 ?c11 ?k11 ?a12 ?l12 ?c12 ?k12 ?a13 ?l13 ?c13 ?k13 ?a14 ?l14 ?c14 ?k14 ?a15 ?l15 ?c15 ?k15 ?a16 ?l16 ?c16 ?k16 ?a17 ?l17 ?c17 ?k17 ?a18 ?l18 ?c18 ?k18 ?a19 ?l19 ?c19 ?k19 ?a20 ?l20 ?c20 ?k20 ?a21 ?l21 ?c21 ?k21 ?a22 ?l22 ?c22 ?k22 ?a23 ?l23 ?c23 ?k23 ?a24 ?l24 ?c24 ?k24 ?a25 ?l25 ?c25 ?k25 ?a26 ?l26 ?c26 ?k26 ?a27 ?l27 ?c27 ?k27 ?a28 ?l28 ?c28 ?k28 ?a29 ?l29 ?c29 ?k29 ?a30 ?l30 ?c30 ?k30 ?z0 ?z1 ?z2 ?z3 ?z4 ?z5 ?z6 ?z7 ?z8 ?z9 ?z10 ?z11 ?z12 ?z13
    (case aC_SuretyError => k_is)
    (case aC_NoSuch => k_is)
    (case xL_NoSuch => k_is)
    (case sa_NoSuch => k_is)
    (case ga_NoSuch => k_is)
    (case gg_NoSuch => k_is)
    (case nb0_NoSuch => k_is)
    (case ai_NoSuch => k_is)
    (case ty_NoSuch => k_is)
    (case li_NoSuch => k_is)
    (case ci_NoSuch => k_is)
    (case ki_NoSuch => k_is)
    (case kC_NoSuch => k_is)
    (case hC_NoSuch => k_is)
    (case eC_NoSuch => k_is)
    (case tC_NoSuch => k_is)
    (case co_SUMS => k_is)
    (case cl_SUMS => k_is)
    (case cv_SUMS => exact .cons ⟨_, rfl⟩ (.cons ⟨_, rfl⟩ (.cons ⟨_, rfl⟩ (.nil))))
    (case cz_SUMS => decide +kernel)
    (case a0 => k_is)
    (case l0 => k_is)
    (case c0 => k_is)
    (case k0 => k_is)
    (case a1 => k_is)
    (case l1 => k_is)
    (case c1 => k_is)
    (case k1 => k_is)
    (case a2 => k_is)
    (case l2 => k_is)
    (case c2 => k_is)
    (case k2 => k_is)
    (case a3 => k_is)
    (case l3 => k_is)
    (case c3 => k_is)
    (case k3 => k_is)
    (case a4 => k_is)
    (case l4 => k_is)
    (case c4 => k_is)
    (case k4 => k_is)
    (case a5 => k_is)
    (case l5 => k_is)
    (case c5 => k_is)
    (case k5 => k_is)
    (case a6 => k_is)
    (case l6 => k_is)
    (case c6 => k_is)
    (case k6 => k_is)
    (case a7 => k_is)
    (case l7 => k_is)
    (case c7 => k_is)
    (case k7 => k_is)
    (case a8 => k_is)
    (case l8 => k_is)
    (case c8 => k_is)
    (case k8 => k_is)
    (case a9 => k_is)
    (case l9 => k_is)
    (case c9 => k_is)
    (case k9 => k_is)
    (case a10 => k_is)
    (case l10 => k_is)
    (case c10 => k_is)
    (case k10 => k_is)
    (case a11 => k_is)
    (case l11 => k_is)
    (case c11 => k_is)
    (case k11 => k_is)
    (case a12 => k_is)
    (case l12 => k_is)
    (case c12 => k_is)
    (case k12 => k_is)
    (case a13 => k_is)
    (case l13 => k_is)
    (case c13 => k_is)
    (case k13 => k_is)
    (case a14 => k_is)
    (case l14 => k_is)
    (case c14 => k_is)
    (case k14 => k_is)
    (case a15 => k_is)
    (case l15 => k_is)
    (case c15 => k_is)
    (case k15 => k_is)
    (case a16 => k_is)
    (case l16 => k_is)
    (case c16 => k_is)
    (case k16 => k_is)
    (case a17 => k_is)
    (case l17 => k_is)
    (case c17 => k_is)
    (case k17 => k_is)
    (case a18 => k_is)
    (case l18 => k_is)
    (case c18 => k_is)
    (case k18 => k_is)
    (case a19 => k_is)
    (case l19 => k_is)
    (case c19 => k_is)
    (case k19 => k_is)
    (case a20 => k_is)
    (case l20 => k_is)
    (case c20 => k_is)
    (case k20 => k_is)
    (case a21 => k_is)
    (case l21 => k_is)
    (case c21 => k_is)
    (case k21 => k_is)
    (case a22 => k_is)
    (case l22 => k_is)
    (case c22 => k_is)
    (case k22 => k_is)
    (case a23 => k_is)
    (case l23 => k_is)
    (case c23 => k_is)
    (case k23 => k_is)
    (case a24 => k_is)
    (case l24 => k_is)
    (case c24 => k_is)
    (case k24 => k_is)
    (case a25 => k_is)
    (case l25 => k_is)
    (case c25 => k_is)
    (case k25 => k_is)
    (case a26 => k_is)
    (case l26 => k_is)
    (case c26 => k_is)
    (case k26 => k_is)
    (case a27 => k_is)
    (case l27 => k_is)
    (case c27 => k_is)
    (case k27 => k_is)
    (case a28 => k_is)
    (case l28 => k_is)
    (case c28 => k_is)
    (case k28 => k_is)
    (case a29 => k_is)
    (case l29 => k_is)
    (case c29 => k_is)
    (case k29 => k_is)
    (case a30 => k_is)
    (case l30 => k_is)
    (case c30 => k_is)
    (case k30 => k_is)
    (case z0 => k_is)
    (case z1 => k_is)
    (case z2 => k_is)
    (case z3 => k_is)
    (case z4 => k_is)
    (case z5 => k_is)
    (case z6 => k_is)
    (case z7 => k_is)
    (case z8 => k_is)
    (case z9 => k_is)
    (case z10 => k_is)
    (case z11 => k_is)
    (case z12 => k_is)
    (case z13 => k_is)
